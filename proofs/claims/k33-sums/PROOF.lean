import PyProof.Rows.All
import HandS.ForMost
import HandS.Exc
import HandS.TryOnly
import HandS.ExcOwn
import HandS.IsInst
import HandS.Wide
import HandS.WideBits
import HandS.Deep
import HandS.Zip
import HandS.Walk
import HandS.TupAny
import HandS.TupMul
import HandS.Defaults
import HandS.Style
import KE.GoesEnum
import KE.GoesMore
import KE.GoesZip
import PySem.Challenge.RW_sincerung_k33_sums
import Wide.All
import OpenK.AllK
import Wide.FinOn
set_option Elab.async false
set_option linter.all false
set_option maxRecDepth 100000
/-! Data: what a value is as plain data over a frozen part of the heap; expressions that give data. -/
namespace Dt
open PySem L2

/-- plain data; obj: whatever stands at an address -/
inductive D where
  | non | bl (b : Bool) | int (i : Int) | str (x : Str) | tup (ds : List D) | lst (ds : List D) | obj (a : Addr) | ty (n : String)

mutual
/-- the value v is the data d, over the frozen heap G -/
inductive Da (G : Hp) : V → D → Prop
  | non : Da G .non .non
  | bl (b : Bool) : Da G (.bl b) (.bl b)
  | int (i : Int) : Da G (.int i) (.int i)
  | str (x : Str) : Da G (.str x) (.str x)
  | obj (a : Addr) : Da G (.ref a) (.obj a)
  | ty (n : String) : Da G (.ty n) (.ty n)
  | lst {a : Addr} {xs : List V} {ds : List D} : G a = some (.lst xs) → DaA G xs ds → Da G (.ref a) (.lst ds)
  | tup {a : Addr} {xs : List V} {ds : List D} : G a = some (.tup xs) → DaA G xs ds → Da G (.ref a) (.tup ds)
inductive DaA (G : Hp) : List V → List D → Prop
  | nil : DaA G [] []
  | cons {v : V} {vs : List V} {d : D} {ds : List D} : Da G v d → DaA G vs ds → DaA G (v :: vs) (d :: ds)
end

mutual
theorem Da.mono {G G' : Hp} (e : Same G G') : ∀ (d : D) (v : V), Da G v d → Da G' v d
  | .non, _, h => by cases h; exact .non
  | .bl b, _, h => by cases h; exact .bl b
  | .int i, _, h => by cases h; exact .int i
  | .str x, _, h => by cases h; exact .str x
  | .obj a, _, h => by cases h; exact .obj a
  | .ty n, _, h => by cases h; exact .ty n
  | .lst ds, _, h => by
    cases h with
    | lst h1 h2 => exact .lst (e _ _ h1) (DaA.mono e ds _ h2)
  | .tup ds, _, h => by
    cases h with
    | tup h1 h2 => exact .tup (e _ _ h1) (DaA.mono e ds _ h2)
theorem DaA.mono {G G' : Hp} (e : Same G G') : ∀ (ds : List D) (vs : List V), DaA G vs ds → DaA G' vs ds
  | [], _, h => by cases h; exact .nil
  | d :: ds, _, h => by
    cases h with
    | cons h1 h2 => exact .cons (Da.mono e d _ h1) (DaA.mono e ds _ h2)
end
theorem Da.up {G G' : Hp} {v : V} {d : D} (h : Da G v d) (e : Same G G') : Da G' v d := Da.mono e d v h
theorem DaA.up {G G' : Hp} {v : List V} {d : List D} (h : DaA G v d) (e : Same G G') : DaA G' v d := DaA.mono e d v h
theorem DaA.len {G : Hp} : ∀ {vs : List V} {ds : List D}, DaA G vs ds → vs.length = ds.length
  | _, _, .nil => rfl
  | _, _, .cons _ t => by simp [DaA.len t]
theorem DaA.get {G : Hp} : ∀ {vs : List V} {ds : List D} {i : Nat} {d : D}, DaA G vs ds → ds[i]? = some d → ∃ v, vs[i]? = some v ∧ Da G v d
  | _, _, _, _, .nil, h => by simp at h
  | _, _, 0, _, .cons h1 _, h => by simp at h; subst h; exact ⟨_, rfl, h1⟩
  | _, _, i + 1, d, .cons _ t, h => by
    obtain ⟨v, a, b⟩ := DaA.get (i := i) (d := d) t (by simpa using h)
    exact ⟨v, by simpa using a, b⟩
theorem DaA.got {G : Hp} : ∀ {vs : List V} {ds : List D} {i : Nat} {v : V}, DaA G vs ds → vs[i]? = some v → ∃ d, ds[i]? = some d ∧ Da G v d
  | _, _, _, _, .nil, h => by simp at h
  | _, _, 0, _, .cons h1 _, h => by simp at h; subst h; exact ⟨_, rfl, h1⟩
  | _, _, i + 1, d, .cons _ t, h => by
    obtain ⟨v, a, b⟩ := DaA.got (i := i) (v := d) t (by simpa using h)
    exact ⟨v, by simpa using a, b⟩
theorem DaA.app {G : Hp} : ∀ {vs ws : List V} {ds es : List D}, DaA G vs ds → DaA G ws es → DaA G (vs ++ ws) (ds ++ es)
  | _, _, _, _, .nil, k => k
  | _, _, _, _, .cons h t, k => .cons h (DaA.app t k)
theorem DaA.take {G : Hp} : ∀ (n : Nat) {vs : List V} {ds : List D}, DaA G vs ds → DaA G (vs.take n) (ds.take n)
  | 0, _, _, _ => .nil
  | _ + 1, _, _, .nil => .nil
  | n + 1, _, _, .cons h t => .cons h (DaA.take n t)
theorem DaA.drop {G : Hp} : ∀ (n : Nat) {vs : List V} {ds : List D}, DaA G vs ds → DaA G (vs.drop n) (ds.drop n)
  | 0, _, _, h => h
  | _ + 1, _, _, .nil => .nil
  | n + 1, _, _, .cons _ t => DaA.drop n t
theorem DaA.set {G : Hp} {v : V} {d : D} (k : Da G v d) : ∀ (n : Nat) {vs : List V} {ds : List D}, DaA G vs ds → DaA G (vs.set n v) (ds.set n d)
  | _, _, _, .nil => .nil
  | 0, _, _, .cons _ t => .cons k t
  | n + 1, _, _, .cons h t => .cons h (DaA.set k n t)
theorem DaA.rev {G : Hp} {vs : List V} {ds : List D} (h : DaA G vs ds) : DaA G vs.reverse ds.reverse := by
  have : ∀ {vs : List V} {ds : List D}, DaA G vs ds → ∀ {ws : List V} {es : List D}, DaA G ws es → DaA G (vs.reverseAux ws) (ds.reverseAux es) := by
    intro vs ds h
    induction vs generalizing ds with
    | nil => cases h; intro ws es k; exact k
    | cons v vs ih =>
      cases h with
      | cons h1 h2 => intro ws es k; exact ih h2 (.cons h1 k)
  exact this h .nil
theorem DaA.ints {G : Hp} : ∀ (ns : List Int) {vs : List V}, DaA G vs (ns.map D.int) → vs = ns.map V.int
  | [], _, h => by cases h; rfl
  | n :: ns, _, h => by
    cases h with
    | cons h1 h2 => cases h1; rw [DaA.ints ns h2]; rfl
theorem DaA.ofInts {G : Hp} : ∀ (ns : List Int), DaA G (ns.map V.int) (ns.map D.int)
  | [] => .nil
  | n :: ns => .cons (.int n) (DaA.ofInts ns)
theorem DaA.bls {G : Hp} : ∀ (ns : List Bool) {vs : List V}, DaA G vs (ns.map D.bl) → vs = ns.map V.bl
  | [], _, h => by cases h; rfl
  | n :: ns, _, h => by
    cases h with
    | cons h1 h2 => cases h1; rw [DaA.bls ns h2]; rfl

abbrev Rho := List (Option D)
/-- the slots are what ρ tells of them -/
def Sl (G : Hp) (σ : L2.St) (ρ : Rho) : Prop := σ.length = ρ.length ∧ ∀ (i : Nat) (d : D), ρ[i]? = some (some d) → ∃ v, σ[i]? = some (some v) ∧ Da G v d
theorem Sl.up {G G' : Hp} {σ : L2.St} {ρ : Rho} (h : Sl G σ ρ) (e : Same G G') : Sl G' σ ρ := ⟨h.1, fun i d k => by
  obtain ⟨v, a, b⟩ := h.2 i d k
  exact ⟨v, a, b.up e⟩⟩
theorem Sl.set {G : Hp} {σ : L2.St} {ρ : Rho} {v : V} {d : D} (h : Sl G σ ρ) (i : Nat) (k : Da G v d) : Sl G (σ.set i (some v)) (ρ.set i (some d)) := by
  refine ⟨by simp [h.1], fun j e q => ?_⟩
  by_cases hj : i = j
  · subst hj
    by_cases hi : i < ρ.length
    · rw [List.getElem?_set_self hi] at q
      cases q
      exact ⟨v, by rw [List.getElem?_set_self (by rw [h.1]; exact hi)], k⟩
    · rw [List.getElem?_eq_none (by simpa using hi)] at q
      cases q
  · rw [List.getElem?_set_ne hj] at q ⊢
    exact h.2 j e q
/-- what is known less -/
theorem Sl.weak {G : Hp} {σ : L2.St} {ρ ρ' : Rho} (h : Sl G σ ρ) (hl : ρ'.length = ρ.length) (k : ∀ (i : Nat) (d : D), ρ'[i]? = some (some d) → ρ[i]? = some (some d)) : Sl G σ ρ' :=
  ⟨h.1.trans hl.symm, fun i d q => h.2 i d (k i d q)⟩

/-- the stores: lists of three ints -/
def Sto (S : Addr → Prop) (G H : Hp) : Prop := ∀ s, S s → G s = none ∧ ∃ a b c : Int, H s = some (.lst [.int a, .int b, .int c])
abbrev no : Addr → Prop := fun _ => False
theorem sto_no {G H : Hp} : Sto no G H := fun _ h => h.elim

/-- the frozen heap G and the heap H grow to G' and H'; only what S tells may have changed -/
structure Grow (S : Addr → Prop) (G H G' H' : Hp) : Prop where
  gg : Same G G'
  gh : Same G' H'
  hh : ∀ a o, H a = some o → ¬ S a → H' a = some o
  fr : ∀ a o, H a = some o → G a = none → G' a = none
  st : Sto S G' H'
section
variable {S : Addr → Prop} {G H G1 H1 G2 H2 : Hp}
theorem Grow.refl (e : Same G H) (st : Sto S G H) : Grow S G H G H := ⟨Same.refl G, e, fun _ _ h _ => h, fun _ _ _ h => h, st⟩
theorem Grow.trans (a : Grow S G H G1 H1) (b : Grow S G1 H1 G2 H2) (hs : Sto S G H) : Grow S G H G2 H2 where
  gg := a.gg.trans b.gg
  gh := b.gh
  hh := fun c o h k => b.hh c o (a.hh c o h k) k
  fr := fun c o h k => by
    by_cases q : S c
    · exact (b.st c q).1
    · exact b.fr c o (a.hh c o h q) (a.fr c o h k)
  st := b.st
/-- what changes no store serves for any -/
theorem Grow.lift (a : Grow no G H G1 H1) (hs : Sto S G H) : Grow S G H G1 H1 where
  gg := a.gg
  gh := a.gh
  hh := fun c o h _ => a.hh c o h id
  fr := a.fr
  st := fun s h => by
    obtain ⟨h1, x, y, z, h2⟩ := hs s h
    exact ⟨a.fr s _ h2 h1, x, y, z, a.hh s _ h2 id⟩
/-- a new frozen object -/
theorem Grow.new {p : Addr} {o : HO} (e : Same G H) (h : H p = none) : Grow no G H (upd G p o) (upd H p o) where
  gg := fun a u k => by
    have : a ≠ p := fun q => by subst q; rw [e _ _ k] at h; cases h
    rw [upd_ne this]; exact k
  gh := fun a u k => by
    by_cases q : a = p
    · subst q; rw [upd_same] at k ⊢; exact k
    · rw [upd_ne q] at k ⊢; exact e _ _ k
  hh := fun a u k _ => by rw [upd_ne (ne_of_none k h)]; exact k
  fr := fun a u k g => by rw [upd_ne (ne_of_none k h)]; exact g
  st := sto_no
/-- a new object that is not frozen -/
theorem Grow.newM {p : Addr} {o : HO} (e : Same G H) (h : H p = none) : Grow no G H G (upd H p o) where
  gg := Same.refl G
  gh := fun a u k => by rw [upd_ne (ne_of_none (e _ _ k) h)]; exact e _ _ k
  hh := fun a u k _ => by rw [upd_ne (ne_of_none k h)]; exact k
  fr := fun a u k g => g
  st := sto_no
end

/-- what a def owns and changes: lists, dicts -/
inductive Ow where
  | lst (ds : List D)
  | dT (kvs : List (List Key × D))
  | dK (kvs : List (Key × D))
def OwAt (G H : Hp) (a : Addr) : Ow → Prop
  | .lst ds => ∃ xs, H a = some (.lst xs) ∧ DaA G xs ds
  | .dT kvs => ∃ ws : List (List Key × V), H a = some (.dT ws) ∧ ws.map (·.1) = kvs.map (·.1) ∧ DaA G (ws.map (·.2)) (kvs.map (·.2))
  | .dK kvs => ∃ ws : List (Key × V), H a = some (.dK ws) ∧ ws.map (·.1) = kvs.map (·.1) ∧ DaA G (ws.map (·.2)) (kvs.map (·.2))
abbrev Os := List (Addr × Ow)
def OwnOk (S : Addr → Prop) (O : Os) (G H : Hp) : Prop := ∀ p ∈ O, ¬ S p.1 ∧ G p.1 = none ∧ OwAt G H p.1 p.2
theorem OwAt.there {G H : Hp} {a : Addr} {w : Ow} (h : OwAt G H a w) : ∃ o, H a = some o := by
  cases w with
  | lst ds => obtain ⟨xs, h, _⟩ := h; exact ⟨_, h⟩
  | dT kvs => obtain ⟨xs, h, _⟩ := h; exact ⟨_, h⟩
  | dK kvs => obtain ⟨xs, h, _⟩ := h; exact ⟨_, h⟩
theorem OwAt.up {G H G' H' : Hp} {a : Addr} {w : Ow} (h : OwAt G H a w) (e : Same G G') (k : ∀ o, H a = some o → H' a = some o) : OwAt G' H' a w := by
  cases w with
  | lst ds => obtain ⟨xs, h, q⟩ := h; exact ⟨xs, k _ h, q.up e⟩
  | dT kvs => obtain ⟨xs, h, q, r⟩ := h; exact ⟨xs, k _ h, q, r.up e⟩
  | dK kvs => obtain ⟨xs, h, q, r⟩ := h; exact ⟨xs, k _ h, q, r.up e⟩
theorem OwnOk.up {S : Addr → Prop} {O : Os} {G H G' H' : Hp} (h : OwnOk S O G H) (g : Grow S G H G' H') : OwnOk S O G' H' := fun p hp => by
  obtain ⟨a, b, c⟩ := h p hp
  obtain ⟨o, ho⟩ := c.there
  exact ⟨a, g.fr _ _ ho b, c.up g.gg fun u hu => g.hh _ _ hu a⟩

/-- a state of the walk: slots, frozen heap, heap -/
structure Sta (S : Addr → Prop) (O : Os) (ρ : Rho) (σ : L2.St) (G H : Hp) : Prop where
  e : Same G H
  st : Sto S G H
  sl : Sl G σ ρ
  ow : OwnOk S O G H
theorem Sta.up {S : Addr → Prop} {O : Os} {ρ : Rho} {σ : L2.St} {G H G' H' : Hp} (h : Sta S O ρ σ G H) (g : Grow S G H G' H') : Sta S O ρ σ G' H' :=
  ⟨g.gh, g.st, h.sl.up g.gg, h.ow.up g⟩

/-! ### expressions: whatever the state, a value that is data with P comes out -/
def Ev (S : Addr → Prop) (O : Os) (ρ : Rho) (G0 : Hp) (te : TE) (P : D → Prop) : Prop := ∀ σ G H, Same G0 G → Sta S O ρ σ G H → ∀ Q : VK, (∀ v d G' H', Grow S G H G' H' → Da G' v d → P d → Q v H') → te σ H Q
def EvA (S : Addr → Prop) (O : Os) (ρ : Rho) (G0 : Hp) (te : TA) (P : List D → Prop) : Prop := ∀ σ G H, Same G0 G → Sta S O ρ σ G H → ∀ Q : List V → Hp → Prop, (∀ v d G' H', Grow S G H G' H' → DaA G' v d → P d → Q v H') → te σ H Q
def EvT (S : Addr → Prop) (O : Os) (ρ : Rho) (G0 : Hp) (te : TT) (P : Bool → Prop) : Prop := ∀ σ G H, Same G0 G → Sta S O ρ σ G H → ∀ Q : Bool → Hp → Prop, (∀ b G' H', Grow S G H G' H' → P b → Q b H') → te σ H Q
/-- an operation on two values, on one, on a list of values -/
def Op2 (r : R2) (a b : D) (P : D → Prop) : Prop := ∀ G H x y, Same G H → Da G x a → Da G y b → ∀ Q : VK, (∀ v d G' H', Grow no G H G' H' → Da G' v d → P d → Q v H') → r x y H Q
def Op1 (r : V → Hp → VK → Prop) (a : D) (P : D → Prop) : Prop := ∀ G H x, Same G H → Da G x a → ∀ Q : VK, (∀ v d G' H', Grow no G H G' H' → Da G' v d → P d → Q v H') → r x H Q
def OpL (r : List V → Hp → VK → Prop) (as : List D) (P : D → Prop) : Prop := ∀ G H xs, Same G H → DaA G xs as → ∀ Q : VK, (∀ v d G' H', Grow no G H G' H' → Da G' v d → P d → Q v H') → r xs H Q

section
variable {S : Addr → Prop} {O : Os} {ρ : Rho} {G0 : Hp} {ta tb te : TE} {P Pa Pb : D → Prop}
theorem Ev.mono {G1 : Hp} (h : Ev S O ρ G0 te P) (e : Same G0 G1) : Ev S O ρ G1 te P := fun σ G H k s Q q => h σ G H (e.trans k) s Q q
theorem EvT.mono {G1 : Hp} {t : TT} {P : Bool → Prop} (h : EvT S O ρ G0 t P) (e : Same G0 G1) : EvT S O ρ G1 t P := fun σ G H k s Q q => h σ G H (e.trans k) s Q q
theorem EvA.mono {G1 : Hp} {t : TA} {P : List D → Prop} (h : EvA S O ρ G0 t P) (e : Same G0 G1) : EvA S O ρ G1 t P := fun σ G H k s Q q => h σ G H (e.trans k) s Q q
theorem Ev.imp {P' : D → Prop} (h : Ev S O ρ G0 te P) (k : ∀ d, P d → P' d) : Ev S O ρ G0 te P' := fun σ G H e s Q q => h σ G H e s Q fun v d G' H' g x p => q v d G' H' g x (k d p)
theorem EvT.imp {t : TT} {P P' : Bool → Prop} (h : EvT S O ρ G0 t P) (k : ∀ d, P d → P' d) : EvT S O ρ G0 t P' := fun σ G H e s Q q => h σ G H e s Q fun d G' H' g p => q d G' H' g (k d p)
/-- what is so whatever the state -/
theorem Ev.is {d d' : D} (h : Ev S O ρ G0 te (· = d)) (e : d = d') : Ev S O ρ G0 te (· = d') := by rw [← e]; exact h
theorem ev_var {i : Nat} {d : D} (h : ρ[i]? = some (some d)) : Ev S O ρ G0 (tVar i) (· = d) := fun σ G H _ s Q q => by
  obtain ⟨v, h1, h2⟩ := s.sl.2 i d h
  exact ⟨v, h1, q v d G H (.refl s.e s.st) h2 rfl⟩
theorem ev_int {i : Int} : Ev S O ρ G0 (tC (.int i)) (· = .int i) := fun σ G H _ s Q q => q _ _ G H (.refl s.e s.st) (.int i) rfl
theorem ev_bl {b : Bool} : Ev S O ρ G0 (tC (.bl b)) (· = .bl b) := fun σ G H _ s Q q => q _ _ G H (.refl s.e s.st) (.bl b) rfl
theorem ev_non : Ev S O ρ G0 (tC .non) (· = .non) := fun σ G H _ s Q q => q _ _ G H (.refl s.e s.st) .non rfl
theorem ev_str {x : Str} : Ev S O ρ G0 (tC (.str x)) (· = .str x) := fun σ G H _ s Q q => q _ _ G H (.refl s.e s.st) (.str x) rfl
theorem ev_ty {n : String} : Ev S O ρ G0 (tC (.ty n)) (· = .ty n) := fun σ G H _ s Q q => q _ _ G H (.refl s.e s.st) (.ty n) rfl
theorem ev_obj {a : Addr} : Ev S O ρ G0 (tC (.ref a)) (· = .obj a) := fun σ G H _ s Q q => q _ _ G H (.refl s.e s.st) (.obj a) rfl
theorem ev_op2 {r : R2} (ha : Ev S O ρ G0 ta Pa) (hb : Ev S O ρ G0 tb Pb) (hr : ∀ a b, Pa a → Pb b → Op2 r a b P) : Ev S O ρ G0 (tOp r ta tb) P := fun σ G H e s Q q =>
  ha σ G H e s _ fun x a G1 H1 g1 d1 p1 => hb σ G1 H1 (e.trans g1.gg) (s.up g1) _ fun y b G2 H2 g2 d2 p2 =>
    hr a b p1 p2 G2 H2 x y g2.gh (d1.up g2.gg) d2 Q fun v d G3 H3 g3 d3 p3 => q v d G3 H3 ((g1.trans g2 s.st).trans (g3.lift g2.st) s.st) d3 p3
theorem ev_op2D {r : R2} {a b : D} (ha : Ev S O ρ G0 ta (· = a)) (hb : Ev S O ρ G0 tb (· = b)) (hr : Op2 r a b P) : Ev S O ρ G0 (tOp r ta tb) P :=
  ev_op2 ha hb fun _ _ e1 e2 => by subst e1 e2; exact hr
theorem ev_op1 {r : V → Hp → VK → Prop} (ha : Ev S O ρ G0 ta Pa) (hr : ∀ a, Pa a → Op1 r a P) : Ev S O ρ G0 (tUn r ta) P := fun σ G H e s Q q =>
  ha σ G H e s _ fun x a G1 H1 g1 d1 p1 => hr a p1 G1 H1 x g1.gh d1 Q fun v d G3 H3 g3 d3 p3 => q v d G3 H3 (g1.trans (g3.lift g1.st) s.st) d3 p3
theorem ev_op1D {r : V → Hp → VK → Prop} {a : D} (ha : Ev S O ρ G0 ta (· = a)) (hr : Op1 r a P) : Ev S O ρ G0 (tUn r ta) P := ev_op1 ha fun _ e => by subst e; exact hr
theorem ea_nil : EvA S O ρ G0 tNil (· = []) := fun σ G H _ s Q q => q _ _ G H (.refl s.e s.st) .nil rfl
theorem ea_cons {tr : TA} {Pr : List D → Prop} (ha : Ev S O ρ G0 ta Pa) (hr : EvA S O ρ G0 tr Pr) : EvA S O ρ G0 (tCons ta tr) (fun ds => ∃ d r, ds = d :: r ∧ Pa d ∧ Pr r) := fun σ G H e s Q q =>
  ha σ G H e s _ fun x a G1 H1 g1 d1 p1 => hr σ G1 H1 (e.trans g1.gg) (s.up g1) _ fun y b G2 H2 g2 d2 p2 => q _ _ G2 H2 (g1.trans g2 s.st) (.cons (d1.up g2.gg) d2) ⟨a, b, rfl, p1, p2⟩
theorem ea_consD {tr : TA} {a : D} {r : List D} (ha : Ev S O ρ G0 ta (· = a)) (hr : EvA S O ρ G0 tr (· = r)) : EvA S O ρ G0 (tCons ta tr) (· = a :: r) := fun σ G H e s Q q =>
  ea_cons ha hr σ G H e s Q fun v d G' H' g x ⟨d1, r1, e1, e2, e3⟩ => by subst e1 e2 e3; exact q v _ G' H' g x rfl
theorem EvA.imp {t : TA} {P P' : List D → Prop} (h : EvA S O ρ G0 t P) (k : ∀ d, P d → P' d) : EvA S O ρ G0 t P' := fun σ G H e s Q q => h σ G H e s Q fun v d G' H' g x p => q v d G' H' g x (k d p)
theorem ev_tup {t : TA} {Pl : List D → Prop} (h : EvA S O ρ G0 t Pl) (hl : ∀ ds, Pl ds → ds.length ≤ sizeLine) : Ev S O ρ G0 (tTup t) (fun d => ∃ ds, d = .tup ds ∧ Pl ds) := fun σ G H e s Q q =>
  h σ G H e s _ fun vs ds G1 H1 g1 d1 p1 => ⟨by rw [d1.len]; exact hl ds p1, fun p hp =>
    q _ _ _ _ (g1.trans ((Grow.new g1.gh hp).lift g1.st) s.st) (.tup upd_same (d1.up (Grow.new (o := .tup vs) g1.gh hp).gg)) ⟨ds, rfl, p1⟩⟩
theorem ev_lst {t : TA} {Pl : List D → Prop} (h : EvA S O ρ G0 t Pl) (hl : ∀ ds, Pl ds → ds.length ≤ sizeLine) : Ev S O ρ G0 (tLst t) (fun d => ∃ ds, d = .lst ds ∧ Pl ds) := fun σ G H e s Q q =>
  h σ G H e s _ fun vs ds G1 H1 g1 d1 p1 => ⟨by rw [d1.len]; exact hl ds p1, fun p hp =>
    q _ _ _ _ (g1.trans ((Grow.new g1.gh hp).lift g1.st) s.st) (.lst upd_same (d1.up (Grow.new (o := .lst vs) g1.gh hp).gg)) ⟨ds, rfl, p1⟩⟩
theorem ev_tupD {t : TA} {ds : List D} (h : EvA S O ρ G0 t (· = ds)) (hl : ds.length ≤ sizeLine) : Ev S O ρ G0 (tTup t) (· = .tup ds) := (ev_tup h fun _ e => by rw [e]; exact hl).imp fun d ⟨ds, e, k⟩ => by rw [e, k]
theorem ev_lstD {t : TA} {ds : List D} (h : EvA S O ρ G0 t (· = ds)) (hl : ds.length ≤ sizeLine) : Ev S O ρ G0 (tLst t) (· = .lst ds) := (ev_lst h fun _ e => by rw [e]; exact hl).imp fun d ⟨ds, e, k⟩ => by rw [e, k]
theorem ev_cb {r : List V → Hp → VK → Prop} {t : TA} {Pl : List D → Prop} (h : EvA S O ρ G0 t Pl) (hr : ∀ ds, Pl ds → OpL r ds P) : Ev S O ρ G0 (tCB r t) P := fun σ G H e s Q q =>
  h σ G H e s _ fun vs ds G1 H1 g1 d1 p1 => hr ds p1 G1 H1 vs g1.gh d1 Q fun v d G3 H3 g3 d3 p3 => q v d G3 H3 (g1.trans (g3.lift g1.st) s.st) d3 p3
theorem ev_cbD {r : List V → Hp → VK → Prop} {t : TA} {ds : List D} (h : EvA S O ρ G0 t (· = ds)) (hr : OpL r ds P) : Ev S O ρ G0 (tCB r t) P := ev_cb h fun _ e => by subst e; exact hr
/-! tests -/
theorem et_test {t : TE} {P : D → Prop} (h : Ev S O ρ G0 t P) (hb : ∀ d, P d → ∃ b, d = .bl b) : EvT S O ρ G0 (tTest t) (fun b => P (.bl b)) := fun σ G H e s Q q =>
  h σ G H e s _ fun v d G1 H1 g1 d1 p1 => by
    obtain ⟨b, rfl⟩ := hb d p1
    cases d1
    exact ⟨b, rfl, q b G1 H1 g1 p1⟩
theorem et_testD {t : TE} {b : Bool} (h : Ev S O ρ G0 t (· = .bl b)) : EvT S O ρ G0 (tTest t) (· = b) := (et_test h fun _ e => ⟨b, e⟩).imp fun _ e => by cases e; rfl
theorem et_B {t : TE} {P : D → Prop} (h : Ev S O ρ G0 t P) (hb : ∀ d, P d → ∃ b, d = .bl b) : EvT S O ρ G0 (tB t) (fun b => P (.bl b)) := fun σ G H e s Q q =>
  h σ G H e s _ fun v d G1 H1 g1 d1 p1 => by
    obtain ⟨b, rfl⟩ := hb d p1
    cases d1
    exact ⟨b, rfl, q b G1 H1 g1 p1⟩
theorem et_BD {t : TE} {b : Bool} (h : Ev S O ρ G0 t (· = .bl b)) : EvT S O ρ G0 (tB t) (· = b) := (et_B h fun _ e => ⟨b, e⟩).imp fun _ e => by cases e; rfl
variable {t u : TT} {Pt Pu : Bool → Prop}
theorem et_and {Pr : Bool → Prop} (h1 : EvT S O ρ G0 t Pt) (h2 : Pt true → EvT S O ρ G0 u Pu) (hf : Pt false → Pr false) (ht : ∀ b, Pt true → Pu b → Pr b) : EvT S O ρ G0 (tAnd t u) Pr := fun σ G H e s Q q =>
  h1 σ G H e s _ fun b G1 H1 g1 p1 => by
    cases b with
    | true =>
      show u σ H1 Q
      exact h2 p1 σ G1 H1 (e.trans g1.gg) (s.up g1) _ fun b G2 H2 g2 p2 => q b G2 H2 (g1.trans g2 s.st) (ht b p1 p2)
    | false => exact q false G1 H1 g1 (hf p1)
theorem et_or {Pr : Bool → Prop} (h1 : EvT S O ρ G0 t Pt) (h2 : Pt false → EvT S O ρ G0 u Pu) (hf : Pt true → Pr true) (ht : ∀ b, Pt false → Pu b → Pr b) : EvT S O ρ G0 (tOr t u) Pr := fun σ G H e s Q q =>
  h1 σ G H e s _ fun b G1 H1 g1 p1 => by
    cases b with
    | false =>
      show u σ H1 Q
      exact h2 p1 σ G1 H1 (e.trans g1.gg) (s.up g1) _ fun b G2 H2 g2 p2 => q b G2 H2 (g1.trans g2 s.st) (ht b p1 p2)
    | true => exact q true G1 H1 g1 (hf p1)
theorem et_not {Pr : Bool → Prop} (h1 : EvT S O ρ G0 t Pt) (hr : ∀ b, Pt b → Pr (!b)) : EvT S O ρ G0 (tNot t) Pr := fun σ G H e s Q q =>
  h1 σ G H e s _ fun b G1 H1 g1 p1 => q (!b) G1 H1 g1 (hr b p1)
theorem et_andD {a b : Bool} (h1 : EvT S O ρ G0 t (· = a)) (h2 : a = true → EvT S O ρ G0 u (· = b)) : EvT S O ρ G0 (tAnd t u) (· = (a && b)) :=
  et_and h1 (fun e => h2 e.symm) (fun e => by rw [← e]; rfl) fun c e k => by rw [k, ← e]; rfl
theorem et_orD {a b : Bool} (h1 : EvT S O ρ G0 t (· = a)) (h2 : a = false → EvT S O ρ G0 u (· = b)) : EvT S O ρ G0 (tOr t u) (· = (a || b)) :=
  et_or h1 (fun e => h2 e.symm) (fun e => by rw [← e]; rfl) fun c e k => by rw [k, ← e]; rfl
theorem et_notD {a : Bool} (h1 : EvT S O ρ G0 t (· = a)) : EvT S O ρ G0 (tNot t) (· = !a) := et_not h1 fun b e => by rw [e]
theorem ev_if (h : EvT S O ρ G0 t Pt) (h1 : Pt true → Ev S O ρ G0 ta P) (h2 : Pt false → Ev S O ρ G0 tb P) : Ev S O ρ G0 (tIf t ta tb) P := fun σ G H e s Q q =>
  h σ G H e s _ fun b G1 H1 g1 p1 => by
    cases b with
    | true =>
      show ta σ H1 Q
      exact h1 p1 σ G1 H1 (e.trans g1.gg) (s.up g1) Q fun v d G2 H2 g2 d2 p2 => q v d G2 H2 (g1.trans g2 s.st) d2 p2
    | false =>
      show tb σ H1 Q
      exact h2 p1 σ G1 H1 (e.trans g1.gg) (s.up g1) Q fun v d G2 H2 g2 d2 p2 => q v d G2 H2 (g1.trans g2 s.st) d2 p2
/-- a and b, a or b, not a as values that are truths -/
theorem ev_andV (ha : Ev S O ρ G0 ta Pa) (hA : ∀ d, Pa d → ∃ b, d = .bl b) (hb : Pa (.bl true) → Ev S O ρ G0 tb P) (hf : Pa (.bl false) → P (.bl false)) : Ev S O ρ G0 (tAndV ta tb) P := fun σ G H e s Q q =>
  ha σ G H e s _ fun v d G1 H1 g1 d1 p1 => by
    obtain ⟨b, rfl⟩ := hA d p1
    cases d1
    refine ⟨b, rfl, ?_⟩
    cases b with
    | true =>
      show tb σ H1 Q
      exact hb p1 σ G1 H1 (e.trans g1.gg) (s.up g1) Q fun v d G2 H2 g2 d2 p2 => q v d G2 H2 (g1.trans g2 s.st) d2 p2
    | false => exact q _ _ G1 H1 g1 (.bl false) (hf p1)
theorem ev_orV (ha : Ev S O ρ G0 ta Pa) (hA : ∀ d, Pa d → ∃ b, d = .bl b) (hb : Pa (.bl false) → Ev S O ρ G0 tb P) (hf : Pa (.bl true) → P (.bl true)) : Ev S O ρ G0 (tOrV ta tb) P := fun σ G H e s Q q =>
  ha σ G H e s _ fun v d G1 H1 g1 d1 p1 => by
    obtain ⟨b, rfl⟩ := hA d p1
    cases d1
    refine ⟨b, rfl, ?_⟩
    cases b with
    | false =>
      show tb σ H1 Q
      exact hb p1 σ G1 H1 (e.trans g1.gg) (s.up g1) Q fun v d G2 H2 g2 d2 p2 => q v d G2 H2 (g1.trans g2 s.st) d2 p2
    | true => exact q _ _ G1 H1 g1 (.bl true) (hf p1)
theorem ev_notV (ha : Ev S O ρ G0 ta Pa) (hA : ∀ d, Pa d → ∃ b, d = .bl b ∧ P (.bl !b)) : Ev S O ρ G0 (tNotV ta) P := fun σ G H e s Q q =>
  ha σ G H e s _ fun v d G1 H1 g1 d1 p1 => by
    obtain ⟨b, rfl, k⟩ := hA d p1
    cases d1
    exact ⟨b, rfl, q _ _ G1 H1 g1 (.bl !b) k⟩
theorem ev_andVD {a b : Bool} (ha : Ev S O ρ G0 ta (· = .bl a)) (hb : a = true → Ev S O ρ G0 tb (· = .bl b)) : Ev S O ρ G0 (tAndV ta tb) (· = .bl (a && b)) :=
  ev_andV ha (fun _ e => ⟨a, e⟩) (fun e => by cases e; exact hb rfl) fun e => by cases e; rfl
theorem ev_orVD {a b : Bool} (ha : Ev S O ρ G0 ta (· = .bl a)) (hb : a = false → Ev S O ρ G0 tb (· = .bl b)) : Ev S O ρ G0 (tOrV ta tb) (· = .bl (a || b)) :=
  ev_orV ha (fun _ e => ⟨a, e⟩) (fun e => by cases e; exact hb rfl) fun e => by cases e; rfl
theorem ev_notVD {a : Bool} (ha : Ev S O ρ G0 ta (· = .bl a)) : Ev S O ρ G0 (tNotV ta) (· = .bl !a) := ev_notV ha fun d e => ⟨a, e, rfl⟩
/-- a < b < c -/
theorem ev_chain {r r' : R2} {tc : TE} {a b c : D} {x y : Bool} (ha : Ev S O ρ G0 ta (· = a)) (hb : Ev S O ρ G0 tb (· = b)) (hr : Op2 r a b (· = .bl x)) (hc : x = true → Ev S O ρ G0 tc (· = c)) (hr' : x = true → Op2 r' b c (· = .bl y)) : Ev S O ρ G0 (tChain r r' ta tb tc) (· = .bl (x && y)) := fun σ G H e s Q q =>
  ha σ G H e s _ fun v a' G1 H1 g1 d1 p1 => hb σ G1 H1 (e.trans g1.gg) (s.up g1) _ fun w b' G2 H2 g2 d2 p2 => by
    subst p1 p2
    refine hr G2 H2 v w g2.gh (d1.up g2.gg) d2 _ fun z d G3 H3 g3 d3 p3 => ?_
    subst p3
    cases d3
    refine ⟨x, rfl, ?_⟩
    have g := (g1.trans g2 s.st).trans (g3.lift g2.st) s.st
    cases x with
    | false => exact q _ _ G3 H3 g (.bl false) rfl
    | true =>
      show tc σ H3 _
      exact hc rfl σ G3 H3 (e.trans g.gg) (s.up g) _ fun z d G4 H4 g4 d4 p4 => by
        subst p4
        refine hr' rfl G4 H4 w z g4.gh (d2.up (g3.gg.trans g4.gg)) d4 Q fun v d G5 H5 g5 d5 p5 => q v d G5 H5 ((g.trans g4 s.st).trans (g5.lift g4.st) s.st) d5 p5
end
end Dt

set_option Elab.async false
set_option linter.all false
set_option maxRecDepth 100000
/-! zip of lists and tuples in any mix, of two and of three; enumerate of a list or a tuple: as iterators of the hand layer. -/
namespace Dt
open PySem PySem.Spec PyProof.Rows L2

inductive SK where | l | t
def SqK (k : SK) (K : PySem.W.Frag) (H : Hp) (a : Addr) (xs : List V) : Prop := match k with
  | .l => SqL K H a xs
  | .t => SqT K H a xs
def ItAt (k : SK) (h : Heap) (it a : Addr) (i : Nat) : Prop := match k with
  | .l => h.IsListIter it a i
  | .t => h.IsTupleIter it a i
def HasAt (k : SK) (h : Heap) (a : Addr) (its : Array Value) : Prop := match k with
  | .l => h.IsList a its
  | .t => h.IsTuple a its
def itObj (k : SK) (a : Addr) : Obj := match k with
  | .l => { cls := .type "list_iterator", data := .fields #[.ref a, .int 0 0] }
  | .t => { cls := .type "tuple_iterator", data := .fields #[.ref a, .int 0 0] }
theorem itObj_at {k : SK} {h : Heap} {it a : Addr} (e : h.get? it = some (itObj k a)) : ItAt k h it a 0 := by
  cases k with
  | l => exact ⟨_, e, rfl, rfl⟩
  | t => exact ⟨_, e, rfl, rfl⟩
theorem begins_k (k : SK) (a : Addr) (its : Array Value) : Begins (.ref a) (itObj k a) (fun h => HasAt k h a its) := by
  cases k with
  | l => exact begins_list a its
  | t => exact begins_tuple a its
theorem draws_k {prog : Program} {w : World} {A : Around} (k : SK) (hh : A.handled = none) (it a : Addr) (hne : a ≠ it) (its : Array Value) :
    Draws prog w A it [it, a] its.size (fun i v => its[i]? = some v) (fun i h => ItAt k h it a i ∧ HasAt k h a its) := by
  cases k with
  | l => exact Draws.list hh it a hne its
  | t => exact Draws.tuple hh it a hne its
theorem ItAt.obj {k : SK} {h : Heap} {it a : Addr} {i : Nat} (x : ItAt k h it a i) : ∃ o, h.get? it = some o ∧ ∀ v, o.data ≠ .cell v := by
  cases k with
  | l => obtain ⟨o, e, _, d⟩ := x; exact ⟨o, e, fun v q => by rw [d] at q; cases q⟩
  | t => obtain ⟨o, e, _, d⟩ := x; exact ⟨o, e, fun v q => by rw [d] at q; cases q⟩
theorem ItAt.keep {k : SK} {h h' : Heap} {it a : Addr} {i : Nat} (x : ItAt k h it a i) (q : ∀ o, h.get? it = some o → h'.get? it = some o) : ItAt k h' it a i := by
  cases k with
  | l => obtain ⟨o, e, r⟩ := x; exact ⟨o, q o e, r⟩
  | t => obtain ⟨o, e, r⟩ := x; exact ⟨o, q o e, r⟩
theorem has_ne {k k' : SK} {h : Heap} {a it b : Addr} {its : Array Value} {i : Nat} (p : HasAt k h a its) (x : ItAt k' h it b i) : a ≠ it := fun e => by
  subst e
  cases k with
  | l =>
    obtain ⟨o, e1, c1, _⟩ := p
    cases k' with
    | l => obtain ⟨o', e2, c2, _⟩ := x; rw [e1] at e2; cases e2; rw [c1] at c2; exact absurd c2 (by decide)
    | t => obtain ⟨o', e2, c2, _⟩ := x; rw [e1] at e2; cases e2; rw [c1] at c2; exact absurd c2 (by decide)
  | t =>
    obtain ⟨o, e1, c1, _⟩ := p
    cases k' with
    | l => obtain ⟨o', e2, c2, _⟩ := x; rw [e1] at e2; cases e2; rw [c1] at c2; exact absurd c2 (by decide)
    | t => obtain ⟨o', e2, c2, _⟩ := x; rw [e1] at e2; cases e2; rw [c1] at c2; exact absurd c2 (by decide)
theorem got_lt {its : List Value} {i : Nat} {u : Value} (h : its[i]? = some u) : i < its.toArray.size := by
  rw [List.size_toArray]
  exact (List.getElem?_eq_some_iff.mp h).1
section
variable {X : Cx} {pins : List (Addr × Obj)} {σ : L2.St} {H : Hp} {s : Shared}
theorem seqK {k : SK} {a : Addr} {xs : List V} (I : Inv X pins σ H s) (h : SqK k X.K H a xs) : ∃ its : List Value, Vals xs its ∧ HasAt k s.heap a its.toArray ∧ a < s.heap.objs.size := by
  cases k with
  | l =>
    obtain ⟨its, rv, p, _⟩ := I.list h
    exact ⟨its, rv, p.isList, p.lt⟩
  | t =>
    obtain ⟨its, rv, p, _⟩ := I.tuple h
    exact ⟨its, rv, p, p.lt⟩
theorem injK {k : SK} {a : Addr} {xs ys : List V} (I : Inv X pins σ H s) (h : SqK k X.K H a xs) (h' : SqK k X.K H a ys) : xs = ys := by
  cases k with
  | l => exact I.list_inj h h'
  | t => exact I.tuple_inj h h'
end

/-! ### zip of two -/
def ItZ2 (k1 k2 : SK) (K : PySem.W.Frag) (a b : Addr) : It :=
  ⟨fun i H => ∃ (xs ys : List V) (x y : V), SqK k1 K H a xs ∧ SqK k2 K H b ys ∧ xs[i]? = some x ∧ ys[i]? = some y,
    fun i H v H' => ∃ T x y, v = .ref T ∧ H T = none ∧ H' = upd H T (.tup [x, y]) ∧ (∀ xs, SqK k1 K H a xs → xs[i]? = some x) ∧ ∀ ys, SqK k2 K H b ys → ys[i]? = some y,
    fun i H => ∃ xs ys : List V, SqK k1 K H a xs ∧ SqK k2 K H b ys ∧ i ≤ xs.length ∧ i ≤ ys.length ∧ (i = xs.length ∨ i = ys.length)⟩
theorem turn_zip2 {P : Program} {w : World} {K : PySem.W.Frag} {elts : List Expr} {kk : Nat} {tpos : Pos} {k1 k2 : SK} {a b z TI TO i1 i2 : Addr} (D : ZipSep2 z TI TO i1 i2 [i1, a] [i2, b]) :
    Turn P w K (.Tuple elts kk tpos) (ItZ2 k1 k2 K a b) [z, TI, TO, i1, i2] z (fun i h => IsZip h z TI TO .none ∧ IsTupOf2 h TI (.ref i1) (.ref i2) ∧ (∃ x y, IsTupOf2 h TO x y) ∧ ItAt k1 h i1 a i ∧ ItAt k2 h i2 b i) where
  mem := by simp
  obj := fun i h st c hc => by
    obtain ⟨hz, hTI, ⟨x, y, hTO⟩, h1, h2⟩ := st
    have e' : c = z ∨ c = TI ∨ c = TO ∨ c = i1 ∨ c = i2 := by simpa using hc
    rcases e' with q | q | q | q | q
    · rw [q]; exact ⟨_, hz, fun v q => nomatch q⟩
    · rw [q]; exact ⟨_, hTI, fun v q => nomatch q⟩
    · rw [q]; exact ⟨_, hTO, fun v q => nomatch q⟩
    · rw [q]; exact h1.obj
    · rw [q]; exact h2.obj
  keep := fun i h h' st k => by
    obtain ⟨hz, hTI, ⟨x, y, hTO⟩, h1, h2⟩ := st
    exact ⟨k z (by simp) _ hz, k TI (by simp) _ hTI, ⟨x, y, k TO (by simp) _ hTO⟩, h1.keep fun o q => k i1 (by simp) o q, h2.keep fun o q => k i2 (by simp) o q⟩
  item := by
    intro X hP hw hK hc i pins s σ H E I hf st hg
    subst hP hw hK
    obtain ⟨hz, hTI, ⟨x0, y0, hTO⟩, h1, h2⟩ := st
    obtain ⟨xs, ys, x, y, hqx, hqy, hx, hy⟩ := hg
    obtain ⟨its, rv, p, _⟩ := seqK I hqx
    obtain ⟨its2, rv2, p2, _⟩ := seqK I hqy
    obtain ⟨u, hu, ru⟩ := rv.get hx
    obtain ⟨u2, hu2, ru2⟩ := rv2.get hy
    have hzl : z < s.heap.objs.size := Heap.lt_size hz
    have hh : X.A.in1.handled = none := I.ok.hd hc
    have D1 := draws_k (prog := X.prog) (w := X.w) k1 hh i1 a (has_ne p h1) its.toArray
    have D2 := draws_k (prog := X.prog) (w := X.w) k2 hh i2 b (has_ne p2 h2) its2.toArray
    refine wpAny_pyNext_zipD2_item D D1 D2 hz hTI hTO ⟨h1, p⟩ ⟨h2, p2⟩ (got_lt hu) (got_lt hu2) fun v1 v2 h' tk e1 e2 z' TO' st1' st2' hT hsz hk => ?_
    have ev1 : v1 = u := Option.some.inj (e1.symm.trans (by simpa using hu))
    have ev2 : v2 = u2 := Option.some.inj (e2.symm.trans (by simpa using hu2))
    subst ev1 ev2
    refine ⟨_, rfl, wpAny_letOwnedTupleGo_zip (s := { s with heap := h', toks := tk }) z' fun h'' z'' sb => ?_⟩
    have hT2 : h''.get? s.heap.objs.size = some { cls := .type "tuple", data := .seq #[v1, v2] } := (sb.2 _ (Nat.ne_of_gt hzl)).trans hT
    have new : ObjOk X.prog X.w (upd H s.heap.objs.size (.tup [x, y])) h'' s.heap.objs.size (.tup [x, y]) :=
      ⟨by show 2 ≤ sizeLine; decide, [v1, v2], .cons ru (.cons ru2 .nil), ⟨_, hT2, rfl, _, rfl⟩⟩
    have I1 : Inv X pins σ (upd H s.heap.objs.size (.tup [x, y])) { s with heap := h'', toks := tk } :=
      I.turnedNew (t' := tk) (ch := [z, TI, TO, i1, i2]) (fun c o hb q => (sb.2 c (fun q' => hb (by simp [q']))).trans (hk c o (fun q' => hb (by simp [q'])) (fun q' => hb (by simp [q'])) (fun q' => hb (by simp [q'])) (fun q' => hb (by simp [q'])) q)) hf (Nat.le_refl _) new
    refine ⟨.ref s.heap.objs.size, _, I1, rfl, ⟨_, x, y, rfl, I.hok.fresh (Nat.le_refl _), rfl, fun l hl => by rw [injK I hl hqx]; exact hx, fun l hl => by rw [injK I hl hqy]; exact hy⟩, ⟨z'', ?_, ⟨v1, v2, ?_⟩, ?_, ?_⟩, fun c hcm => ?_⟩
    · exact (sb.2 _ D.TIz).trans (hk _ _ D.TIz D.TITO D.TIi1 D.TIi2 hTI)
    · exact (sb.2 _ D.TOz).trans TO'
    · exact st1'.1.keep fun o q => (sb.2 _ D.zi1.symm).trans q
    · exact st2'.1.keep fun o q => (sb.2 _ D.zi2.symm).trans q
    · have hlt : c < s.heap.objs.size := by
        have e' : c = z ∨ c = TI ∨ c = TO ∨ c = i1 ∨ c = i2 := by simpa using hcm
        rcases e' with q | q | q | q | q
        · rw [q]; exact hzl
        · rw [q]; exact Heap.lt_size hTI
        · rw [q]; exact Heap.lt_size hTO
        · rw [q]; obtain ⟨_, e1, _⟩ := h1.obj; exact Heap.lt_size e1
        · rw [q]; obtain ⟨_, e2, _⟩ := h2.obj; exact Heap.lt_size e2
      rw [upd_ne (Nat.ne_of_lt hlt)]
      exact (hf c hcm).1
  done := by
    intro X hP hw hK hc i pins s σ H E I hf st hg
    subst hP hw hK
    obtain ⟨hz, hTI, ⟨x0, y0, hTO⟩, h1, h2⟩ := st
    obtain ⟨xs, ys, hqx, hqy, hl1, hl2, hend⟩ := hg
    obtain ⟨its, rv, p, _⟩ := seqK I hqx
    obtain ⟨its2, rv2, p2, _⟩ := seqK I hqy
    have l1 := rv.length
    have l2 := rv2.length
    have hh : X.A.in1.handled = none := I.ok.hd hc
    have D1 := draws_k (prog := X.prog) (w := X.w) k1 hh i1 a (has_ne p h1) its.toArray
    have D2 := draws_k (prog := X.prog) (w := X.w) k2 hh i2 b (has_ne p2 h2) its2.toArray
    exact wpAny_pyNext_zipD2_end D D1 D2 hz hTI hTO ⟨h1, p⟩ ⟨h2, p2⟩ (by simp; omega) (by simp; omega) (by simp; omega) fun h' tk hk => ⟨rfl, I.turnedL (t' := tk) (ch := [z, TI, TO, i1, i2]) (fun c o hb q =>
      hk c o (fun q' => hb (by simp [q'])) (fun q' => hb (by simp [q'])) (fun q' => hb (by simp [q'])) (fun q' => hb (by simp [q'])) q) hf⟩
  self := fun A i s Q E st h => wpAny_pyIter_zip st.1 h
def iZip2 (k1 k2 : SK) (K : PySem.W.Frag) (ta : TA) : TI := fun σ H R => ta σ H fun vs H1 => ∃ a b xs ys, vs = [.ref a, .ref b] ∧ SqK k1 K H1 a xs ∧ SqK k2 K H1 b ys ∧ R (ItZ2 k1 k2 K a b) H1
theorem pi_zip2 (k1 k2 : SK) {X : Cx} {e e2 : Expr} {ta : TA} {p pos tpos : Pos} {elts : List Expr} {kk : Nat} (hg : Gl X "zip") (hm : X.mg "zip" = none) (ha : PA X [e, e2] ta)
    (hs : starEach [e, e2] X.env = (false, eval e X.env) :: starEach [e2] X.env := by rfl) (hpl : (backTo pos (starEach [e2] X.env)).any (·.1) = false := by rfl) :
    PI X (.Tuple elts kk tpos) (.Call (.Name "zip" p) [e, e2] [] pos) (iZip2 k1 k2 X.K ta) := by
  refine ⟨fun pins s σ H R I h => ?_⟩
  refine Call_ (ld_blt I hg hm PyProof.Rows.boot_zip (PyProof.Rows.callWith_type1 (thn (ha.run pos pins s σ H _ I h) fun us s1 ⟨vs, H1, I1, r1, q1⟩ => ?_) hs hpl))
  obtain ⟨a, b, xs, ys, ex, hqx, hqy, q⟩ := q1
  subst ex
  cases r1 with
  | cons r rr =>
    cases rr with
    | cons r' rr =>
      cases rr
      cases r
      cases r'
      obtain ⟨its, rv, p1, la⟩ := seqK I1 hqx
      obtain ⟨its2, rv2, p2, lb⟩ := seqK I1 hqy
      refine zip_begins2 (begins_k k1 a its.toArray) (begins_k k2 b its2.toArray) p1 p2 fun h' hz hTI hTO h1 h2 hsz hk => wpAny_pyIter_zip hz ?_
      have I2 : Inv X pins σ H1 { s1 with heap := h' } := I1.kept (t' := s1.toks) hk
      refine ⟨s1.heap.objs.size + 4, [s1.heap.objs.size + 4, s1.heap.objs.size + 2, s1.heap.objs.size + 3, s1.heap.objs.size, s1.heap.objs.size + 1], _, _, H1, rfl, I2,
        turn_zip2 (zip_sep2 (N := s1.heap.objs.size) (fp1 := [a]) (fp2 := [b]) (fun c hc => by rw [List.mem_singleton.mp hc]; exact la) (fun c hc => by rw [List.mem_singleton.mp hc]; exact lb)), ⟨hz, hTI, ⟨_, _, hTO⟩, itObj_at h1, itObj_at h2⟩, fun c hcm => ?_, q⟩
      have e' : c = s1.heap.objs.size + 4 ∨ c = s1.heap.objs.size + 2 ∨ c = s1.heap.objs.size + 3 ∨ c = s1.heap.objs.size ∨ c = s1.heap.objs.size + 1 := by simpa using hcm
      have hle : s1.heap.objs.size ≤ c := by
        rcases e' with z | z | z | z | z
        · rw [z]; exact Nat.le_add_right _ _
        · rw [z]; exact Nat.le_add_right _ _
        · rw [z]; exact Nat.le_add_right _ _
        · rw [z]; exact Nat.le_refl _
        · rw [z]; exact Nat.le_add_right _ _
      exact I1.fpOk hle (I1.hok.fresh hle)

/-! ### enumerate -/
def ItEn (k : SK) (K : PySem.W.Frag) (a : Addr) : It :=
  ⟨fun i H => ∃ (xs : List V) (x : V), SqK k K H a xs ∧ xs[i]? = some x,
    fun i H v H' => ∃ T x, v = .ref T ∧ H T = none ∧ H' = upd H T (.tup [.int (i : Nat), x]) ∧ ∀ xs, SqK k K H a xs → xs[i]? = some x,
    fun i H => ∃ xs : List V, SqK k K H a xs ∧ i = xs.length⟩
theorem turn_en {P : Program} {w : World} {K : PySem.W.Frag} {elts : List Expr} {kk : Nat} {tpos : Pos} {k : SK} {a e it : Addr} :
    Turn P w K (.Tuple elts kk tpos) (ItEn k K a) [e, it] e (fun i h => (∃ old, IsEnum h e it (i : Int) old) ∧ ItAt k h it a i ∧ e ≠ it ∧ a ≠ e) where
  mem := by simp
  obj := fun i h st c hc => by
    obtain ⟨⟨old, he⟩, h1, _⟩ := st
    have e' : c = e ∨ c = it := by simpa using hc
    rcases e' with q | q
    · rw [q]; exact ⟨_, he, fun v q => nomatch q⟩
    · rw [q]; exact h1.obj
  keep := fun i h h' st q => by
    obtain ⟨⟨old, he⟩, h1, h2⟩ := st
    exact ⟨⟨old, q e (by simp) _ he⟩, h1.keep fun o z => q it (by simp) o z, h2⟩
  item := by
    intro X hP hw hK hc i pins s σ H E I hf st hg
    subst hP hw hK
    obtain ⟨⟨old, he⟩, hit, hne, hae⟩ := st
    obtain ⟨xs, x, hq, hx⟩ := hg
    obtain ⟨its, rv, p, _⟩ := seqK I hq
    obtain ⟨u, hu, ru⟩ := rv.get hx
    have hel : e < s.heap.objs.size := Heap.lt_size he
    have hil : it < s.heap.objs.size := by obtain ⟨_, q, _⟩ := hit.obj; exact Heap.lt_size q
    have hh : X.A.in1.handled = none := I.ok.hd hc
    have D1 := draws_k (prog := X.prog) (w := X.w) k hh it a (has_ne p hit) its.toArray
    refine wpAny_pyNext_enum_itemC D1 he ⟨hit, p⟩ (got_lt hu) hne (by simp; exact ⟨hne, fun q => hae q.symm⟩) fun y h' tk ey ho st' hT hsz hk => ?_
    have ev1 : y = u := Option.some.inj (ey.symm.trans (by simpa using hu))
    subst ev1
    refine ⟨_, rfl, wpAny_letOwnedTupleGo_enum (s := { s with heap := h', toks := tk + 1 }) ho fun h'' he' sb => ?_⟩
    have hT2 : h''.get? s.heap.objs.size = some { cls := .type "tuple", data := .seq #[.int i tk, y] } := (sb.2 _ (Nat.ne_of_gt hel)).trans hT
    have new : ObjOk X.prog X.w (upd H s.heap.objs.size (.tup [.int (i : Nat), x])) h'' s.heap.objs.size (.tup [.int (i : Nat), x]) :=
      ⟨by show 2 ≤ sizeLine; decide, [.int i tk, y], .cons ⟨_, rfl⟩ (.cons ru .nil), ⟨_, hT2, rfl, _, rfl⟩⟩
    have I1 : Inv X pins σ (upd H s.heap.objs.size (.tup [.int (i : Nat), x])) { s with heap := h'', toks := tk + 1 } :=
      I.turnedNew (t' := tk + 1) (ch := [e, it]) (fun b ob hb q => (sb.2 b (fun z => hb (by simp [z]))).trans (hk b ob (fun z => hb (by simp [z])) (fun z => hb (by simp [z])) q)) hf (Nat.le_refl _) new
    refine ⟨.ref s.heap.objs.size, _, I1, rfl, ⟨_, x, rfl, I.hok.fresh (Nat.le_refl _), rfl, fun ys hy => by rw [injK I hy hq]; exact hx⟩, ⟨⟨y, ?_⟩, st'.1.keep fun o q => (sb.2 it (Ne.symm hne)).trans q, hne, hae⟩, fun b hb => ?_⟩
    · have e1 : ((i + 1 : Nat) : Int) = (i : Int) + 1 := by omega
      rw [e1]; exact he'
    · have hb' : b < s.heap.objs.size := by
        have e' : b = e ∨ b = it := by simpa using hb
        rcases e' with z | z
        · rw [z]; exact hel
        · rw [z]; exact hil
      rw [upd_ne (Nat.ne_of_lt hb')]
      exact (hf b hb).1
  done := by
    intro X hP hw hK hc i pins s σ H E I hf st hg
    subst hP hw hK
    obtain ⟨⟨old, he⟩, hit, hne, hae⟩ := st
    obtain ⟨xs, hq, hx⟩ := hg
    obtain ⟨its, rv, p, _⟩ := seqK I hq
    have hh : X.A.in1.handled = none := I.ok.hd hc
    have D1 := draws_k (prog := X.prog) (w := X.w) k hh it a (has_ne p hit) its.toArray
    have hl := rv.length
    obtain ⟨f0, f1, f2, f3, f4, f5⟩ := hf it (by simp)
    have ei : i = its.toArray.size := by simp; omega
    exact wpAny_pyNext_enum_endD D1 he (by rw [← ei]; exact ⟨hit, p⟩) fun h' eb => ⟨rfl, I.turned (t' := s.toks) (fun b o hb q => eb b o hb q) f0 f1 f3 f4 f5⟩
  self := fun A i s Q E st h => let ⟨⟨_, he⟩, _⟩ := st; wpAny_pyIter_enum he h
def iEn (k : SK) (K : PySem.W.Frag) (ta : TA) : TI := fun σ H R => ta σ H fun vs H1 => ∃ a xs, vs = [.ref a] ∧ SqK k K H1 a xs ∧ R (ItEn k K a) H1
set_option maxHeartbeats 1000000 in
theorem meets_enum_new1 {v : Value} {o : Obj} {H : Heap → Prop} (B : Begins v o H) :
    Meets (Builtin.«enumerate.__new__» ⟨[.type "enumerate", v], []⟩) (fun _ R s => H s.heap ∧
      R (.ok (.ret (.ref (s.heap.push o).objs.size))) { s with heap := (s.heap.push o).push { cls := .type "enumerate", data := .fields #[.none, .bool false, .ref s.heap.objs.size, rawInt 0, .none, .none] } }) :=
  .of_wp fun prog w A R s h => by
    obtain ⟨hp, g, d, tk, os⟩ := s; obtain ⟨h1, h⟩ := h
    have q1 : ∀ {A' : Around} {E : Value → Shared → Prop} {Q : Value → Shared → Prop}, Q (.ref hp.objs.size) ⟨(hp.push o), g, d, tk, os⟩ → wpAny (model prog w) A' (pyIter v) Q E ⟨hp, g, d, tk, os⟩ :=
      fun q => B.iter prog w _ _ ⟨hp, g, d, tk, os⟩ _ (B.keeps _ _ h1 fun b o' e => e) q
    have hsub := sub_enumerate
    wp_walk using q1
    refine wpAny_stack_any fun st => wpAny_pure ?_
    split
    · rename_i c _ _ _ _ _
      cases (c == Value.type "enumerate")
      · wp_walk using q1
        exact ⟨_, rfl, h⟩
      · wp_walk using q1
        exact ⟨_, rfl, h⟩
    · wp_walk using q1
      exact ⟨_, rfl, h⟩
theorem enum_begins1 {prog : Program} {w : World} {A : Around} {E : Value → Shared → Prop} {s : Shared} {v : Value} {o : Obj} {H : Heap → Prop} {Q : Value → Shared → Prop} (B : Begins v o H) (h1 : H s.heap)
    (h : ∀ h', IsEnum h' (s.heap.objs.size + 1) s.heap.objs.size 0 .none → h'.get? s.heap.objs.size = some o → h'.objs.size = s.heap.objs.size + 2 →
      (∀ b o, s.heap.get? b = some o → h'.get? b = some o) → Q (.ref (s.heap.objs.size + 1)) { s with heap := h' }) :
    wpAny (model prog w) A (call (.type "enumerate") [v]) Q E s := by
  refine callType_new F.called_enumerate (by decide) (F.typeCall_enumerate_1 _) (F.newCall_enumerate_1 _) (fun obj => F.args_object_init_2 obj _) F.entry_enumerate_new
    (meets_enum_new1 B) ⟨h1, ?_⟩
  have hz : (s.heap.push o).objs.size = s.heap.objs.size + 1 := Heap.size_push ..
  show _ ∧ _
  rw [hz]
  have he : IsEnum ((s.heap.push o).push { cls := .type "enumerate", data := .fields #[.none, .bool false, .ref s.heap.objs.size, rawInt 0, .none, .none] }) (s.heap.objs.size + 1) s.heap.objs.size 0 .none := by
    have := Heap.get?_push_size (s.heap.push o) (o := { cls := .type "enumerate", data := .fields #[.none, .bool false, .ref s.heap.objs.size, rawInt 0, .none, .none] }) rfl
    rw [hz] at this; exact this
  refine ⟨⟨_, he, rfl⟩, h _ he (Heap.get?_push_of_some _ (Heap.get?_push_size _ B.free)) (by rw [Heap.size_push, hz]) fun b o x => Heap.get?_push_of_some _ (Heap.get?_push_of_some _ x)⟩
theorem pi_en (k : SK) {X : Cx} {e : Expr} {ta : TA} {p pos tpos : Pos} {elts : List Expr} {kk : Nat} (hg : Gl X "enumerate") (hm : X.mg "enumerate" = none) (ha : PA X [e] ta) (hs : starEach [e] X.env = [(false, eval e X.env)] := by rfl) :
    PI X (.Tuple elts kk tpos) (.Call (.Name "enumerate" p) [e] [] pos) (iEn k X.K ta) := by
  refine ⟨fun pins s σ H R I h => ?_⟩
  refine Call_ (ld_blt I hg hm boot_enumerate (PyProof.Rows.callWith_type1 (thn (ha.run pos pins s σ H _ I h) fun us s1 ⟨vs, H1, I1, r1, q1⟩ => ?_) hs rfl))
  obtain ⟨a, xs, ex, hq, q⟩ := q1
  subst ex
  cases r1 with
  | cons r rr =>
    cases rr
    cases r
    obtain ⟨its, rv, p', la⟩ := seqK I1 hq
    refine enum_begins1 (begins_k k a its.toArray) p' fun h' he hit hsz hk => wpAny_pyIter_enum he ?_
    have I2 : Inv X pins σ H1 { s1 with heap := h' } := I1.kept (t' := s1.toks) hk
    refine ⟨s1.heap.objs.size + 1, [s1.heap.objs.size + 1, s1.heap.objs.size], _, _, H1, rfl, I2, turn_en (k := k) (a := a) (e := s1.heap.objs.size + 1) (it := s1.heap.objs.size), ⟨⟨.none, he⟩, itObj_at hit, Nat.succ_ne_self _, Nat.ne_of_lt (Nat.lt_succ_of_lt la)⟩, fun b hb => ?_, q⟩
    have e' : b = s1.heap.objs.size + 1 ∨ b = s1.heap.objs.size := by simpa using hb
    have hle : s1.heap.objs.size ≤ b := by
      rcases e' with z | z
      · rw [z]; exact Nat.le_add_right _ _
      · rw [z]; exact Nat.le_refl _
    exact I1.fpOk hle (I1.hok.fresh hle)

/-! ### zip of three -/
def ItZ3 (k1 k2 k3 : SK) (K : PySem.W.Frag) (a b c : Addr) : It :=
  ⟨fun i H => ∃ (xs ys zs : List V) (x y z : V), SqK k1 K H a xs ∧ SqK k2 K H b ys ∧ SqK k3 K H c zs ∧ xs[i]? = some x ∧ ys[i]? = some y ∧ zs[i]? = some z,
    fun i H v H' => ∃ T x y z, v = .ref T ∧ H T = none ∧ H' = upd H T (.tup [x, y, z]) ∧ (∀ xs, SqK k1 K H a xs → xs[i]? = some x) ∧ (∀ ys, SqK k2 K H b ys → ys[i]? = some y) ∧ ∀ zs, SqK k3 K H c zs → zs[i]? = some z,
    fun i H => ∃ xs ys zs : List V, SqK k1 K H a xs ∧ SqK k2 K H b ys ∧ SqK k3 K H c zs ∧ i ≤ xs.length ∧ i ≤ ys.length ∧ i ≤ zs.length ∧ (i = xs.length ∨ i = ys.length ∨ i = zs.length)⟩
theorem turn_zip3 {P : Program} {w : World} {K : PySem.W.Frag} {elts : List Expr} {kk : Nat} {tpos : Pos} {k1 k2 k3 : SK} {a b c z TI TO i1 i2 i3 : Addr} (D : ZipSep3 z TI TO i1 i2 i3 [i1, a] [i2, b] [i3, c]) :
    Turn P w K (.Tuple elts kk tpos) (ItZ3 k1 k2 k3 K a b c) [z, TI, TO, i1, i2, i3] z (fun i h => IsZip h z TI TO .none ∧ IsTupOf3 h TI (.ref i1) (.ref i2) (.ref i3) ∧ (∃ x y u, IsTupOf3 h TO x y u) ∧ ItAt k1 h i1 a i ∧ ItAt k2 h i2 b i ∧ ItAt k3 h i3 c i) where
  mem := by simp
  obj := fun i h st d hd => by
    obtain ⟨hz, hTI, ⟨x, y, u, hTO⟩, h1, h2, h3⟩ := st
    have e' : d = z ∨ d = TI ∨ d = TO ∨ d = i1 ∨ d = i2 ∨ d = i3 := by simpa using hd
    rcases e' with q | q | q | q | q | q
    · rw [q]; exact ⟨_, hz, fun v q => nomatch q⟩
    · rw [q]; exact ⟨_, hTI, fun v q => nomatch q⟩
    · rw [q]; exact ⟨_, hTO, fun v q => nomatch q⟩
    · rw [q]; exact h1.obj
    · rw [q]; exact h2.obj
    · rw [q]; exact h3.obj
  keep := fun i h h' st k => by
    obtain ⟨hz, hTI, ⟨x, y, u, hTO⟩, h1, h2, h3⟩ := st
    exact ⟨k z (by simp) _ hz, k TI (by simp) _ hTI, ⟨x, y, u, k TO (by simp) _ hTO⟩, h1.keep fun o q => k i1 (by simp) o q, h2.keep fun o q => k i2 (by simp) o q, h3.keep fun o q => k i3 (by simp) o q⟩
  item := by
    intro X hP hw hK hc i pins s σ H E I hf st hg
    subst hP hw hK
    obtain ⟨hz, hTI, ⟨x0, y0, u0, hTO⟩, h1, h2, h3⟩ := st
    obtain ⟨xs, ys, zs, x, y, zz, hqx, hqy, hqz, hx, hy, hzz⟩ := hg
    obtain ⟨its, rv, p, _⟩ := seqK I hqx
    obtain ⟨its2, rv2, p2, _⟩ := seqK I hqy
    obtain ⟨its3, rv3, p3, _⟩ := seqK I hqz
    obtain ⟨u, hu, ru⟩ := rv.get hx
    obtain ⟨u2, hu2, ru2⟩ := rv2.get hy
    obtain ⟨u3, hu3, ru3⟩ := rv3.get hzz
    have hzl : z < s.heap.objs.size := Heap.lt_size hz
    have hh : X.A.in1.handled = none := I.ok.hd hc
    have D1 := draws_k (prog := X.prog) (w := X.w) k1 hh i1 a (has_ne p h1) its.toArray
    have D2 := draws_k (prog := X.prog) (w := X.w) k2 hh i2 b (has_ne p2 h2) its2.toArray
    have D3 := draws_k (prog := X.prog) (w := X.w) k3 hh i3 c (has_ne p3 h3) its3.toArray
    refine wpAny_pyNext_zipD3_item D D1 D2 D3 hz hTI hTO ⟨h1, p⟩ ⟨h2, p2⟩ ⟨h3, p3⟩ (got_lt hu) (got_lt hu2) (got_lt hu3) fun v1 v2 v3 h' tk e1 e2 e3 z' TO' st1' st2' st3' hT hsz hk => ?_
    have ev1 : v1 = u := Option.some.inj (e1.symm.trans (by simpa using hu))
    have ev2 : v2 = u2 := Option.some.inj (e2.symm.trans (by simpa using hu2))
    have ev3 : v3 = u3 := Option.some.inj (e3.symm.trans (by simpa using hu3))
    subst ev1 ev2 ev3
    refine ⟨_, rfl, wpAny_letOwnedTupleGo_zip (s := { s with heap := h', toks := tk }) z' fun h'' z'' sb => ?_⟩
    have hT2 : h''.get? s.heap.objs.size = some { cls := .type "tuple", data := .seq #[v1, v2, v3] } := (sb.2 _ (Nat.ne_of_gt hzl)).trans hT
    have new : ObjOk X.prog X.w (upd H s.heap.objs.size (.tup [x, y, zz])) h'' s.heap.objs.size (.tup [x, y, zz]) :=
      ⟨by show 3 ≤ sizeLine; decide, [v1, v2, v3], .cons ru (.cons ru2 (.cons ru3 .nil)), ⟨_, hT2, rfl, _, rfl⟩⟩
    have I1 : Inv X pins σ (upd H s.heap.objs.size (.tup [x, y, zz])) { s with heap := h'', toks := tk } :=
      I.turnedNew (t' := tk) (ch := [z, TI, TO, i1, i2, i3]) (fun c o hb q => (sb.2 c (fun q' => hb (by simp [q']))).trans (hk c o (fun q' => hb (by simp [q'])) (fun q' => hb (by simp [q'])) (fun q' => hb (by simp [q'])) (fun q' => hb (by simp [q'])) (fun q' => hb (by simp [q'])) q)) hf (Nat.le_refl _) new
    refine ⟨.ref s.heap.objs.size, _, I1, rfl, ⟨_, x, y, zz, rfl, I.hok.fresh (Nat.le_refl _), rfl, fun l hl => by rw [injK I hl hqx]; exact hx, fun l hl => by rw [injK I hl hqy]; exact hy, fun l hl => by rw [injK I hl hqz]; exact hzz⟩, ⟨z'', ?_, ⟨v1, v2, v3, ?_⟩, ?_, ?_, ?_⟩, fun c hcm => ?_⟩
    · exact (sb.2 _ D.TIz).trans (hk _ _ D.TIz D.TITO D.TIi1 D.TIi2 D.TIi3 hTI)
    · exact (sb.2 _ D.TOz).trans TO'
    · exact st1'.1.keep fun o q => (sb.2 _ D.zi1.symm).trans q
    · exact st2'.1.keep fun o q => (sb.2 _ D.zi2.symm).trans q
    · exact st3'.1.keep fun o q => (sb.2 _ D.zi3.symm).trans q
    · have hlt : c < s.heap.objs.size := by
        have e' : c = z ∨ c = TI ∨ c = TO ∨ c = i1 ∨ c = i2 ∨ c = i3 := by simpa using hcm
        rcases e' with q | q | q | q | q | q
        · rw [q]; exact hzl
        · rw [q]; exact Heap.lt_size hTI
        · rw [q]; exact Heap.lt_size hTO
        · rw [q]; obtain ⟨_, e1, _⟩ := h1.obj; exact Heap.lt_size e1
        · rw [q]; obtain ⟨_, e2, _⟩ := h2.obj; exact Heap.lt_size e2
        · rw [q]; obtain ⟨_, e2, _⟩ := h3.obj; exact Heap.lt_size e2
      rw [upd_ne (Nat.ne_of_lt hlt)]
      exact (hf c hcm).1
  done := by
    intro X hP hw hK hc i pins s σ H E I hf st hg
    subst hP hw hK
    obtain ⟨hz, hTI, ⟨x0, y0, u0, hTO⟩, h1, h2, h3⟩ := st
    obtain ⟨xs, ys, zs, hqx, hqy, hqz, hl1, hl2, hl3, hend⟩ := hg
    obtain ⟨its, rv, p, _⟩ := seqK I hqx
    obtain ⟨its2, rv2, p2, _⟩ := seqK I hqy
    obtain ⟨its3, rv3, p3, _⟩ := seqK I hqz
    have l1 := rv.length
    have l2 := rv2.length
    have l3 := rv3.length
    have hh : X.A.in1.handled = none := I.ok.hd hc
    have D1 := draws_k (prog := X.prog) (w := X.w) k1 hh i1 a (has_ne p h1) its.toArray
    have D2 := draws_k (prog := X.prog) (w := X.w) k2 hh i2 b (has_ne p2 h2) its2.toArray
    have D3 := draws_k (prog := X.prog) (w := X.w) k3 hh i3 c (has_ne p3 h3) its3.toArray
    exact wpAny_pyNext_zipD3_end D D1 D2 D3 hz hTI hTO ⟨h1, p⟩ ⟨h2, p2⟩ ⟨h3, p3⟩ (by simp; omega) (by simp; omega) (by simp; omega) (by simp; omega) fun h' tk hk => ⟨rfl, I.turnedL (t' := tk) (ch := [z, TI, TO, i1, i2, i3]) (fun c o hb q =>
      hk c o (fun q' => hb (by simp [q'])) (fun q' => hb (by simp [q'])) (fun q' => hb (by simp [q'])) (fun q' => hb (by simp [q'])) (fun q' => hb (by simp [q'])) q) hf⟩
  self := fun A i s Q E st h => wpAny_pyIter_zip st.1 h
def iZip3 (k1 k2 k3 : SK) (K : PySem.W.Frag) (ta : TA) : TI := fun σ H R => ta σ H fun vs H1 => ∃ a b c xs ys zs, vs = [.ref a, .ref b, .ref c] ∧ SqK k1 K H1 a xs ∧ SqK k2 K H1 b ys ∧ SqK k3 K H1 c zs ∧ R (ItZ3 k1 k2 k3 K a b c) H1
theorem pi_zip3 (k1 k2 k3 : SK) {X : Cx} {e e2 e3 : Expr} {ta : TA} {p pos tpos : Pos} {elts : List Expr} {kk : Nat} (hg : Gl X "zip") (hm : X.mg "zip" = none) (ha : PA X [e, e2, e3] ta)
    (hs : starEach [e, e2, e3] X.env = (false, eval e X.env) :: starEach [e2, e3] X.env := by rfl) (hpl : (backTo pos (starEach [e2, e3] X.env)).any (·.1) = false := by rfl) :
    PI X (.Tuple elts kk tpos) (.Call (.Name "zip" p) [e, e2, e3] [] pos) (iZip3 k1 k2 k3 X.K ta) := by
  refine ⟨fun pins s σ H R I h => ?_⟩
  refine Call_ (ld_blt I hg hm PyProof.Rows.boot_zip (PyProof.Rows.callWith_type1 (thn (ha.run pos pins s σ H _ I h) fun us s1 ⟨vs, H1, I1, r1, q1⟩ => ?_) hs hpl))
  obtain ⟨a, b, c, xs, ys, zs, ex, hqx, hqy, hqz, q⟩ := q1
  subst ex
  cases r1 with
  | cons r rr =>
    cases rr with
    | cons r' rr =>
      cases rr with
      | cons r'' rr =>
        cases rr
        cases r
        cases r'
        cases r''
        obtain ⟨its, rv, p1, la⟩ := seqK I1 hqx
        obtain ⟨its2, rv2, p2, lb⟩ := seqK I1 hqy
        obtain ⟨its3, rv3, p3, lc⟩ := seqK I1 hqz
        refine zip_begins3 (begins_k k1 a its.toArray) (begins_k k2 b its2.toArray) (begins_k k3 c its3.toArray) p1 p2 p3 fun h' hz hTI hTO h1 h2 h3 hsz hk => wpAny_pyIter_zip hz ?_
        have I2 : Inv X pins σ H1 { s1 with heap := h' } := I1.kept (t' := s1.toks) hk
        refine ⟨s1.heap.objs.size + 5, [s1.heap.objs.size + 5, s1.heap.objs.size + 3, s1.heap.objs.size + 4, s1.heap.objs.size, s1.heap.objs.size + 1, s1.heap.objs.size + 2], _, _, H1, rfl, I2,
          turn_zip3 (zip_sep3 (N := s1.heap.objs.size) (fp1 := [a]) (fp2 := [b]) (fp3 := [c]) (fun d hc => by rw [List.mem_singleton.mp hc]; exact la) (fun d hc => by rw [List.mem_singleton.mp hc]; exact lb) (fun d hc => by rw [List.mem_singleton.mp hc]; exact lc)), ⟨hz, hTI, ⟨_, _, _, hTO⟩, itObj_at h1, itObj_at h2, itObj_at h3⟩, fun d hcm => ?_, q⟩
        have e' : d = s1.heap.objs.size + 5 ∨ d = s1.heap.objs.size + 3 ∨ d = s1.heap.objs.size + 4 ∨ d = s1.heap.objs.size ∨ d = s1.heap.objs.size + 1 ∨ d = s1.heap.objs.size + 2 := by simpa using hcm
        have hle : s1.heap.objs.size ≤ d := by
          rcases e' with z | z | z | z | z | z
          · rw [z]; exact Nat.le_add_right _ _
          · rw [z]; exact Nat.le_add_right _ _
          · rw [z]; exact Nat.le_add_right _ _
          · rw [z]; exact Nat.le_refl _
          · rw [z]; exact Nat.le_add_right _ _
          · rw [z]; exact Nat.le_add_right _ _
        exact I1.fpOk hle (I1.hok.fresh hle)
end Dt

set_option Elab.async false
set_option linter.all false
set_option maxRecDepth 100000
/-! Operations on data; targets; walks; comprehensions; statements; loops. -/
namespace Dt
open PySem L2

section
variable {K : PySem.W.Frag} {P : D → Prop}
theorem o_same {G H : Hp} {d : D} {v : V} {Q : VK} (e : Same G H) (h : Da G v d) (p : P d) (q : ∀ v d G' H', Grow no G H G' H' → Da G' v d → P d → Q v H') : Q v H := q v d G H (.refl e sto_no) h p
theorem o_new {G H : Hp} {p : Addr} {xs : List V} {ds : List D} {Q : VK} (e : Same G H) (hp : H p = none) (h : DaA G xs ds) (pd : P (.lst ds)) (q : ∀ v d G' H', Grow no G H G' H' → Da G' v d → P d → Q v H') : Q (.ref p) (upd H p (.lst xs)) :=
  q _ _ _ _ (Grow.new e hp) (.lst upd_same (h.up (Grow.new (o := .lst xs) e hp).gg)) pd
theorem o_newT {G H : Hp} {p : Addr} {xs : List V} {ds : List D} {Q : VK} (e : Same G H) (hp : H p = none) (h : DaA G xs ds) (pd : P (.tup ds)) (q : ∀ v d G' H', Grow no G H G' H' → Da G' v d → P d → Q v H') : Q (.ref p) (upd H p (.tup xs)) :=
  q _ _ _ _ (Grow.new e hp) (.tup upd_same (h.up (Grow.new (o := .tup xs) e hp).gg)) pd

/-! ### two places -/
theorem o_int {f : Int → Int → Int} {i j : Int} : Op2 (rI0 fun i j => .int (f i j)) (.int i) (.int j) (· = .int (f i j)) := fun G H x y e hx hy Q q => by
  cases hx; cases hy
  exact ⟨i, j, rfl, rfl, q _ _ G H (.refl e sto_no) (.int _) rfl⟩
theorem o_cmp {f : Int → Int → Bool} {i j : Int} : Op2 (rI0 fun i j => .bl (f i j)) (.int i) (.int j) (· = .bl (f i j)) := fun G H x y e hx hy Q q => by
  cases hx; cases hy
  exact ⟨i, j, rfl, rfl, q _ _ G H (.refl e sto_no) (.bl _) rfl⟩
theorem o_intC {C : Int → Int → Prop} {f : Int → Int → Int} {i j : Int} (h : C i j) : Op2 (rI C fun i j => .int (f i j)) (.int i) (.int j) (· = .int (f i j)) := fun G H x y e hx hy Q q => by
  cases hx; cases hy
  exact ⟨i, j, rfl, rfl, h, q _ _ G H (.refl e sto_no) (.int _) rfl⟩
theorem dec_v {α : Type} [DecidableEq α] {f : α → V} (inj : ∀ {a b}, f a = f b → a = b) (i j : α) : decide (f i = f j) = decide (i = j) := by
  by_cases h : i = j
  · subst h; rw [decide_eq_true rfl, decide_eq_true rfl]
  · rw [decide_eq_false h, decide_eq_false fun q => h (inj q)]
theorem o_eqI {i j : Int} : Op2 rEq (.int i) (.int j) (· = .bl (decide (i = j))) := fun G H x y e hx hy Q q => by
  cases hx; cases hy
  refine ⟨rfl, ?_⟩
  rw [dec_v (f := V.int) (fun h => V.int.inj h)]
  exact q _ _ G H (.refl e sto_no) (.bl _) rfl
theorem o_neI {i j : Int} : Op2 rNe (.int i) (.int j) (· = .bl (!decide (i = j))) := fun G H x y e hx hy Q q => by
  cases hx; cases hy
  refine ⟨rfl, ?_⟩
  rw [dec_v (f := V.int) (fun h => V.int.inj h)]
  exact q _ _ G H (.refl e sto_no) (.bl _) rfl
theorem o_eqB {i j : Bool} : Op2 rEq (.bl i) (.bl j) (· = .bl (decide (i = j))) := fun G H x y e hx hy Q q => by
  cases hx; cases hy
  refine ⟨rfl, ?_⟩
  rw [dec_v (f := V.bl) (fun h => V.bl.inj h)]
  exact q _ _ G H (.refl e sto_no) (.bl _) rfl
theorem o_neB {i j : Bool} : Op2 rNe (.bl i) (.bl j) (· = .bl (!decide (i = j))) := fun G H x y e hx hy Q q => by
  cases hx; cases hy
  refine ⟨rfl, ?_⟩
  rw [dec_v (f := V.bl) (fun h => V.bl.inj h)]
  exact q _ _ G H (.refl e sto_no) (.bl _) rfl
theorem o_eqS {i j : Str} : Op2 rEq (.str i) (.str j) (· = .bl (decide (i = j))) := fun G H x y e hx hy Q q => by
  cases hx; cases hy
  refine ⟨rfl, ?_⟩
  rw [dec_v (f := V.str) (fun h => V.str.inj h)]
  exact q _ _ G H (.refl e sto_no) (.bl _) rfl
theorem o_neS {i j : Str} : Op2 rNe (.str i) (.str j) (· = .bl (!decide (i = j))) := fun G H x y e hx hy Q q => by
  cases hx; cases hy
  refine ⟨rfl, ?_⟩
  rw [dec_v (f := V.str) (fun h => V.str.inj h)]
  exact q _ _ G H (.refl e sto_no) (.bl _) rfl
def D.isNon : D → Bool | .non => true | _ => false
theorem isNon_v {G : Hp} {v : V} {d : D} (h : Da G v d) : decide (v = .non) = d.isNon := by
  cases h <;> first | rfl | exact decide_eq_false (fun q => nomatch q)
theorem o_isN {d : D} : Op2 (fun x y H Q => y = .non ∧ Q (.bl (decide (x = .non))) H) d .non (· = .bl d.isNon) := fun G H x y e hx hy Q q => by
  cases hy
  refine ⟨rfl, ?_⟩
  rw [isNon_v hx]
  exact q _ _ G H (.refl e sto_no) (.bl _) rfl
theorem o_notN {d : D} : Op2 (fun x y H Q => y = .non ∧ Q (.bl (!decide (x = .non))) H) d .non (· = .bl (!d.isNon)) := fun G H x y e hx hy Q q => by
  cases hy
  refine ⟨rfl, ?_⟩
  rw [isNon_v hx]
  exact q _ _ G H (.refl e sto_no) (.bl _) rfl
theorem atI_da {G : Hp} {xs : List V} {ds : List D} {i : Int} {d : D} (h : DaA G xs ds) (k : atI ds i = some d) : ∃ v, atI xs i = some v ∧ Da G v d := by
  unfold atI at k ⊢
  rw [h.len]
  cases e : ixN ds.length i with
  | none => rw [e] at k; cases k
  | some j =>
    rw [e] at k
    obtain ⟨v, a, b⟩ := h.get (show ds[j]? = some d from k)
    exact ⟨v, a, b⟩
theorem o_ixL {ds : List D} {i : Int} {d : D} (k : atI ds i = some d) : Op2 (rIxL K) (.lst ds) (.int i) (· = d) := fun G H x y e hx hy Q q => by
  cases hy
  cases hx with
  | lst h1 h2 =>
    obtain ⟨v, a, b⟩ := atI_da h2 k
    exact ⟨_, _, i, v, rfl, rfl, SqL.of (e _ _ h1), a, q _ _ G H (.refl e sto_no) b rfl⟩
theorem o_ixT {ds : List D} {i : Int} {d : D} (k : atI ds i = some d) : Op2 (rIxT K) (.tup ds) (.int i) (· = d) := fun G H x y e hx hy Q q => by
  cases hy
  cases hx with
  | tup h1 h2 =>
    obtain ⟨v, a, b⟩ := atI_da h2 k
    exact ⟨_, _, i, v, rfl, rfl, SqT.of (e _ _ h1), a, q _ _ G H (.refl e sto_no) b rfl⟩
theorem o_cat {ds es : List D} (h : ds.length + es.length ≤ sizeLine) : Op2 rCat (.lst ds) (.lst es) (· = .lst (ds ++ es)) := fun G H x y e hx hy Q q => by
  cases hx with
  | lst h1 h2 =>
    cases hy with
    | lst k1 k2 => exact ⟨_, _, _, _, rfl, rfl, e _ _ h1, e _ _ k1, by rw [h2.len, k2.len]; exact h, fun p hp => o_new (P := (· = .lst (ds ++ es))) e hp (h2.app k2) rfl q⟩
theorem o_catT {ds es : List D} (h : ds.length + es.length ≤ sizeLine) : Op2 (rCatA K) (.tup ds) (.tup es) (· = .tup (ds ++ es)) := fun G H x y e hx hy Q q => by
  cases hx with
  | tup h1 h2 =>
    cases hy with
    | tup k1 k2 =>
      have l1 := h2.len
      have l2 := k2.len
      refine ⟨_, _, _, _, rfl, rfl, SqT.of (e _ _ h1), SqT.of (e _ _ k1), by rw [h2.len, k2.len]; exact h, fun e0 => ?_, fun _ e0 => ?_, fun _ _ p hp => o_newT (P := (· = .tup (ds ++ es))) e hp (h2.app k2) rfl q⟩
      · subst e0
        have : ds = [] := by cases ds with | nil => rfl | cons a b => simp at l1
        subst this
        exact q _ _ G H (.refl e sto_no) (.tup k1 k2) rfl
      · subst e0
        have : es = [] := by cases es with | nil => rfl | cons a b => simp at l2
        subst this
        rw [List.append_nil] at q
        exact q _ _ G H (.refl e sto_no) (.tup h1 h2) rfl
theorem DaA.rep {G : Hp} {xs : List V} {ds : List D} (h : DaA G xs ds) : ∀ k : Nat, DaA G (List.replicate k xs).flatten (List.replicate k ds).flatten
  | 0 => .nil
  | k + 1 => h.app (DaA.rep h k)
theorem o_rep {ds : List D} {k : Int} (h0 : 0 ≤ k) (h1 : k < 2 ^ 63) (h2 : ds.length * k.toNat ≤ sizeLine) : Op2 rRep (.lst ds) (.int k) (· = .lst (List.replicate k.toNat ds).flatten) := fun G H x y e hx hy Q q => by
  cases hy
  cases hx with
  | lst a b =>
    have z : -(2 ^ 63 : Int) ≤ k := by
      have : (0:Int) ≤ 2 ^ 63 := by decide
      omega
    exact ⟨_, k, _, rfl, rfl, e _ _ a, z, h1, by rw [b.len]; exact h2, fun p hp => o_new (P := (· = .lst (List.replicate k.toNat ds).flatten)) e hp (b.rep _) rfl q⟩
theorem o_neg {i : Int} : Op1 (rU fun i => .int (-i)) (.int i) (· = .int (-i)) := fun G H x e hx Q q => by
  cases hx
  exact ⟨i, rfl, q _ _ G H (.refl e sto_no) (.int _) rfl⟩

/-! ### slices -/
def cut {α : Type} (xs : List α) (lo hi : Option Int) : List α := (xs.drop (HT.sIx xs.length 0 lo)).take (HT.sIx xs.length xs.length hi - HT.sIx xs.length 0 lo)
theorem cut_da {G : Hp} {xs : List V} {ds : List D} (h : DaA G xs ds) (lo hi : Option Int) : DaA G (cutV xs lo hi) (cut ds lo hi) := by
  unfold cutV cut
  rw [h.len]
  exact (h.drop _).take _
theorem cut_to {α : Type} (xs : List α) (n : Nat) : cut xs none (some (n : Int)) = xs.take n := by
  unfold cut
  rw [HT.sIx_none, HT.sIx_nat, List.drop_zero, Nat.sub_zero]
  by_cases h : n ≤ xs.length
  · rw [Nat.min_eq_left h]
  · rw [Nat.min_eq_right (by omega), List.take_length, List.take_of_length_le (by omega)]
theorem cut_from {α : Type} (xs : List α) (n : Nat) : cut xs (some (n : Int)) none = xs.drop n := by
  unfold cut
  rw [HT.sIx_none, HT.sIx_nat]
  by_cases h : n ≤ xs.length
  · rw [Nat.min_eq_left h, List.take_of_length_le (by simp)]
  · rw [Nat.min_eq_right (by omega), List.drop_length, List.drop_of_length_le (by omega)]
    simp
def EvO (S : Addr → Prop) (O : Os) (ρ : Rho) (G0 : Hp) (te : TO) (o : Option Int) : Prop := ∀ σ G H, Same G0 G → Sta S O ρ σ G H → ∀ Q : Option Int → Hp → Prop, (∀ G' H', Grow S G H G' H' → Q o H') → te σ H Q
section
variable {S : Addr → Prop} {O : Os} {ρ : Rho} {G0 : Hp} {ta tb te : TE}
theorem eo_none : EvO S O ρ G0 tNoPart none := fun σ G H e s Q q => q G H (.refl s.e s.st)
theorem eo_some {i : Int} (h : Ev S O ρ G0 te (· = .int i)) : EvO S O ρ G0 (tPart te) (some i) := fun σ G H e s Q q => h σ G H e s _ fun v d G' H' g k p => by
  subst p
  cases k
  exact ⟨i, rfl, q G' H' g⟩
theorem ev_slL {lo hi : Option Int} {tl th : TO} {ds : List D} (h : Ev S O ρ G0 te (· = .lst ds)) (h1 : EvO S O ρ G0 tl lo) (h2 : EvO S O ρ G0 th hi) : Ev S O ρ G0 (tSl (rSlL K) te tl th) (· = .lst (cut ds lo hi)) := fun σ G H e s Q q =>
  h σ G H e s _ fun v d G1 H1 g1 d1 p1 => h1 σ G1 H1 (e.trans g1.gg) (s.up g1) _ fun G2 H2 g2 => h2 σ G2 H2 (e.trans (g1.gg.trans g2.gg)) ((s.up g1).up g2) _ fun G3 H3 g3 => by
    subst p1
    have g := (g1.trans g2 s.st).trans g3 s.st
    cases d1.up (g2.gg.trans g3.gg) with
    | lst a b => exact ⟨_, _, rfl, SqL.of (g3.gh _ _ a), fun p hp => o_new (P := (· = .lst (cut ds lo hi))) g3.gh hp (cut_da b lo hi) rfl fun v d G' H' k x y => q v d G' H' (g.trans (k.lift g3.st) s.st) x y⟩
theorem ev_slT {lo hi : Option Int} {tl th : TO} {ds : List D} (h : Ev S O ρ G0 te (· = .tup ds)) (h1 : EvO S O ρ G0 tl lo) (h2 : EvO S O ρ G0 th hi) : Ev S O ρ G0 (tSl (rSlA K) te tl th) (· = .tup (cut ds lo hi)) := fun σ G H e s Q q =>
  h σ G H e s _ fun v d G1 H1 g1 d1 p1 => h1 σ G1 H1 (e.trans g1.gg) (s.up g1) _ fun G2 H2 g2 => h2 σ G2 H2 (e.trans (g1.gg.trans g2.gg)) ((s.up g1).up g2) _ fun G3 H3 g3 => by
    subst p1
    have g := (g1.trans g2 s.st).trans g3 s.st
    cases d1.up (g2.gg.trans g3.gg) with
    | @tup p xs _ a b =>
      refine ⟨_, _, rfl, SqT.of (g3.gh _ _ a), fun hw => ?_, fun _ p hp => o_newT (P := (· = .tup (cut ds lo hi))) g3.gh hp (cut_da b lo hi) rfl fun v d G' H' k x y => q v d G' H' (g.trans (k.lift g3.st) s.st) x y⟩
      refine q _ (.tup (cut ds lo hi)) G3 H3 g ?_ rfl
      have hc : cut ds lo hi = ds := by
        unfold cut
        rw [b.len] at hw
        rw [hw.1, hw.2, List.drop_zero, Nat.sub_zero, List.take_length]
      rw [hc]
      exact .tup a b
end

/-! ### calls of what is built in -/
theorem l_len {d : D} {ds : List D} (h : d = .lst ds ∨ d = .tup ds) : OpL (fun xs H Q => ∃ p ys, xs = [.ref p] ∧ (SqL K H p ys ∨ SqT K H p ys) ∧ Q (.int ys.length) H) [d] (· = .int ds.length) := fun G H xs e hx Q q => by
  cases hx with
  | cons h1 h2 =>
    cases h2
    rcases h with rfl | rfl
    · cases h1 with
      | lst a b => exact ⟨_, _, rfl, .inl (SqL.of (e _ _ a)), by rw [b.len]; exact q _ _ G H (.refl e sto_no) (.int _) rfl⟩
    · cases h1 with
      | tup a b => exact ⟨_, _, rfl, .inr (SqT.of (e _ _ a)), by rw [b.len]; exact q _ _ G H (.refl e sto_no) (.int _) rfl⟩
theorem l_abs {i : Int} : OpL (fun xs H Q => ∃ i, xs = [.int i] ∧ Q (.int (if i < 0 then -i else i)) H) [.int i] (· = .int (if i < 0 then -i else i)) := fun G H xs e hx Q q => by
  cases hx with
  | cons h1 h2 => cases h2; cases h1; exact ⟨i, rfl, q _ _ G H (.refl e sto_no) (.int _) rfl⟩
theorem l_intB {k : Bool} : OpL (fun xs H Q => (∃ i, xs = [.int i] ∧ Q (.int i) H) ∨ ∃ k, xs = [.bl k] ∧ Q (.int (if k then 1 else 0)) H) [.bl k] (· = .int (if k then 1 else 0)) := fun G H xs e hx Q q => by
  cases hx with
  | cons h1 h2 => cases h2; cases h1; exact .inr ⟨k, rfl, q _ _ G H (.refl e sto_no) (.int _) rfl⟩
theorem l_max2 {i j : Int} : OpL (fun xs H Q => ∃ i j, xs = [.int i, .int j] ∧ Q (.int (if j > i then j else i)) H) [.int i, .int j] (· = .int (if j > i then j else i)) := fun G H xs e hx Q q => by
  cases hx with
  | cons h1 h2 => cases h2 with
    | cons h2 h3 => cases h3; cases h1; cases h2; exact ⟨i, j, rfl, q _ _ G H (.refl e sto_no) (.int _) rfl⟩
theorem l_min2 {i j : Int} : OpL (fun xs H Q => ∃ i j, xs = [.int i, .int j] ∧ Q (.int (if j < i then j else i)) H) [.int i, .int j] (· = .int (if j < i then j else i)) := fun G H xs e hx Q q => by
  cases hx with
  | cons h1 h2 => cases h2 with
    | cons h2 h3 => cases h3; cases h1; cases h2; exact ⟨i, j, rfl, q _ _ G H (.refl e sto_no) (.int _) rfl⟩
theorem l_sum {ns : List Int} : OpL (rSum K) [.lst (ns.map D.int)] (· = .int ns.sum) := fun G H xs e hx Q q => by
  cases hx with
  | cons h1 h2 =>
    cases h2
    cases h1 with
    | lst a b => rw [b.ints] at a; exact ⟨_, ns, rfl, SqL.of (e _ _ a), q _ _ G H (.refl e sto_no) (.int _) rfl⟩
theorem l_any {bs : List Bool} : OpL (rAny K) [.lst (bs.map D.bl)] (· = .bl (bs.any id)) := fun G H xs e hx Q q => by
  cases hx with
  | cons h1 h2 =>
    cases h2
    cases h1 with
    | lst a b => rw [b.bls] at a; exact ⟨_, bs, rfl, SqL.of (e _ _ a), q _ _ G H (.refl e sto_no) (.bl _) rfl⟩
theorem l_all {bs : List Bool} : OpL (rAll K) [.lst (bs.map D.bl)] (· = .bl (bs.all id)) := fun G H xs e hx Q q => by
  cases hx with
  | cons h1 h2 =>
    cases h2
    cases h1 with
    | lst a b => rw [b.bls] at a; exact ⟨_, bs, rfl, SqL.of (e _ _ a), q _ _ G H (.refl e sto_no) (.bl _) rfl⟩
theorem l_tupleL {ds : List D} : OpL (fun xs H Q => ∃ p ys, xs = [.ref p] ∧ ((SqL K H p ys ∧ ∀ l, H l = none → Q (.ref l) (upd H l (.tup ys))) ∨ (SqT K H p ys ∧ Q (.ref p) H))) [.lst ds] (· = .tup ds) := fun G H xs e hx Q q => by
  cases hx with
  | cons h1 h2 =>
    cases h2
    cases h1 with
    | lst a b => exact ⟨_, _, rfl, .inl ⟨SqL.of (e _ _ a), fun l hl => o_newT (P := (· = .tup ds)) e hl b rfl q⟩⟩
theorem l_tupleT {ds : List D} : OpL (fun xs H Q => ∃ p ys, xs = [.ref p] ∧ ((SqL K H p ys ∧ ∀ l, H l = none → Q (.ref l) (upd H l (.tup ys))) ∨ (SqT K H p ys ∧ Q (.ref p) H))) [.tup ds] (· = .tup ds) := fun G H xs e hx Q q => by
  cases hx with
  | cons h1 h2 =>
    cases h2
    cases h1 with
    | tup a b => exact ⟨_, _, rfl, .inr ⟨SqT.of (e _ _ a), q _ _ G H (.refl e sto_no) (.tup a b) rfl⟩⟩
theorem l_list {d : D} {ds : List D} (h : d = .lst ds ∨ d = .tup ds) : OpL (fun xs H Q => ∃ p ys, xs = [.ref p] ∧ (SqL K H p ys ∨ SqT K H p ys) ∧ ∀ l, H l = none → Q (.ref l) (upd H l (.lst ys))) [d] (· = .lst ds) := fun G H xs e hx Q q => by
  cases hx with
  | cons h1 h2 =>
    cases h2
    rcases h with rfl | rfl
    · cases h1 with
      | lst a b => exact ⟨_, _, rfl, .inl (SqL.of (e _ _ a)), fun l hl => o_new (P := (· = .lst ds)) e hl b rfl q⟩
    · cases h1 with
      | tup a b => exact ⟨_, _, rfl, .inr (SqT.of (e _ _ a)), fun l hl => o_new (P := (· = .lst ds)) e hl b rfl q⟩
theorem l_divmod {i j : Int} (h : CDiv i j) : OpL (fun xs H Q => ∃ i j, xs = [.int i, .int j] ∧ CDiv i j ∧ ∀ p, H p = none → Q (.ref p) (upd H p (.tup [.int (i / j), .int (i % j)]))) [.int i, .int j] (· = .tup [.int (i / j), .int (i % j)]) := fun G H xs e hx Q q => by
  cases hx with
  | cons h1 h2 => cases h2 with
    | cons h2 h3 =>
      cases h3; cases h1; cases h2
      exact ⟨i, j, rfl, h, fun p hp => o_newT (P := (· = .tup [.int (i / j), .int (i % j)])) e hp (.cons (.int _) (.cons (.int _) .nil)) rfl q⟩
/-- isinstance(x, T), T built in -/
def tyD : D → Option String
  | .non => some "NoneType" | .bl _ => some "bool" | .int _ => some "int" | .str _ => some "str" | .tup _ => some "tuple" | .lst _ => some "list" | .obj _ => none | .ty _ => none
theorem tyD_of {G H : Hp} {v : V} {d : D} {n : String} (e : Same G H) (h : Da G v d) (t : tyD d = some n) : TyX K H v (.type n) := by
  cases h with
  | non => cases t; exact .base .non
  | bl b => cases t; exact .base (.bl b)
  | int i => cases t; exact .base (.int i)
  | str x => cases t; exact .base (.str x)
  | obj a => cases t
  | ty n => cases t
  | lst a b => cases t; exact .base (.lst (e _ _ a))
  | tup a b => cases t; exact .base (.tup (e _ _ a))
theorem l_isi {d : D} {m n : String} {b : Bool} (t : tyD d = some m) (h : kitB m n = some b) : OpL (rIsi K) [d, .ty n] (· = .bl b) := fun G H xs e hx Q q => by
  cases hx with
  | cons h1 h2 => cases h2 with
    | cons h2 h3 =>
      cases h3; cases h2
      exact ⟨_, _, _, _, b, rfl, .ty n, tyD_of e h1 t, kit_ty h, q _ _ G H (.refl e sto_no) (.bl _) rfl⟩
/-! equality of data as a whole -/
mutual
def toPy : D → PyData
  | .non => .none | .bl b => .bool b | .int i => .int i | .str x => .str x | .tup ds => .tuple (toPyA ds) | .lst ds => .list (toPyA ds) | .obj _ => .none | .ty _ => .none
def toPyA : List D → List PyData
  | [] => []
  | d :: ds => toPy d :: toPyA ds
end
mutual
/-- no addresses within -/
def plain : D → Bool
  | .obj _ => false | .ty _ => false | .tup ds => plainA ds | .lst ds => plainA ds | _ => true
def plainA : List D → Bool
  | [] => true
  | d :: ds => plain d && plainA ds
end
mutual
theorem toPy_dp {G H : Hp} (e : Same G H) : ∀ (d : D) (v : V), plain d = true → Da G v d → Dp K H v (toPy d)
  | .non, _, _, h => by cases h; exact .non
  | .bl b, _, _, h => by cases h; exact .bl b
  | .int i, _, _, h => by cases h; exact .int i
  | .str x, _, _, h => by cases h; exact .str x
  | .obj a, _, p, _ => by simp [plain] at p
  | .ty a, _, p, _ => by simp [plain] at p
  | .tup ds, _, p, h => by
    cases h with
    | tup a b => exact .tup (SqT.of (e _ _ a)) (toPyA_dp e ds _ (by simpa [plain] using p) b)
  | .lst ds, _, p, h => by
    cases h with
    | lst a b => exact .lst (SqL.of (e _ _ a)) (toPyA_dp e ds _ (by simpa [plain] using p) b)
theorem toPyA_dp {G H : Hp} (e : Same G H) : ∀ (ds : List D) (vs : List V), plainA ds = true → DaA G vs ds → DpAll K H vs (toPyA ds)
  | [], _, _, h => by cases h; exact .nil
  | d :: ds, _, p, h => by
    have p' : plain d = true ∧ plainA ds = true := by simpa [plainA] using p
    cases h with
    | cons a b => exact .cons (toPy_dp e d _ p'.1 a) (toPyA_dp e ds _ p'.2 b)
end
theorem o_eqD {d e : D} (pd : plain d = true) (pe : plain e = true) (sd : SeqAt.shaped (toPy d) = true) (se : SeqAt.shaped (toPy e) = true) : Op2 (rEqD K) d e (· = .bl (PyData.eqv (toPy d) (toPy e))) := fun G H x y s hx hy Q q =>
  ⟨_, _, toPy_dp s d _ pd hx, toPy_dp s e _ pe hy, sd, se, q _ _ G H (.refl s sto_no) (.bl _) rfl⟩
theorem o_neD {d e : D} (pd : plain d = true) (pe : plain e = true) (sd : SeqAt.shaped (toPy d) = true) (se : SeqAt.shaped (toPy e) = true) : Op2 (rNeD K) d e (· = .bl (!PyData.eqv (toPy d) (toPy e))) := fun G H x y s hx hy Q q =>
  ⟨_, _, toPy_dp s d _ pd hx, toPy_dp s e _ pe hy, sd, se, q _ _ G H (.refl s sto_no) (.bl _) rfl⟩
theorem o_inD {d : D} {es : List D} (pd : plain d = true) (pe : plainA es = true) (sd : SeqAt.shaped (toPy d) = true) (se : SeqAt.shaped (.list (toPyA es)) = true) : Op2 (rInD K) d (.lst es) (· = .bl ((toPyA es).any fun z => PyData.eqv z (toPy d))) := fun G H x y s hx hy Q q =>
  ⟨_, _, toPy_dp s d _ pd hx, toPy_dp s (.lst es) _ (by simpa [plain] using pe) hy, sd, se, q _ _ G H (.refl s sto_no) (.bl _) rfl⟩
theorem o_notInD {d : D} {es : List D} (pd : plain d = true) (pe : plainA es = true) (sd : SeqAt.shaped (toPy d) = true) (se : SeqAt.shaped (.list (toPyA es)) = true) : Op2 (rNotInD K) d (.lst es) (· = .bl (!(toPyA es).any fun z => PyData.eqv z (toPy d))) := fun G H x y s hx hy Q q =>
  ⟨_, _, toPy_dp s d _ pd hx, toPy_dp s (.lst es) _ (by simpa [plain] using pe) hy, sd, se, q _ _ G H (.refl s sto_no) (.bl _) rfl⟩
end
end Dt

set_option Elab.async false
set_option linter.all false
set_option maxRecDepth 100000
/-! Targets; walks; comprehensions; statements; loops; calls. -/
namespace Dt
open PySem L2

/-! ### targets -/
def Tg (g : TG) (d : D) (ρ ρ' : Rho) (js : List Nat) : Prop := ∀ (σ : L2.St) (G H : Hp) (v : V), Same G H → Sl G σ ρ → Da G v d → ∀ Q : L2.St → Hp → Prop,
  (∀ σ' : L2.St, Sl G σ' ρ' → σ'.length = σ.length → (∀ k : Nat, k ∉ js → σ'[k]? = σ[k]?) → Q σ' H) → g v σ H Q
def Tgs (g : TGs) (d : List D) (ρ ρ' : Rho) (js : List Nat) : Prop := ∀ (σ : L2.St) (G H : Hp) (v : List V), Same G H → Sl G σ ρ → DaA G v d → ∀ Q : L2.St → Hp → Prop,
  (∀ σ' : L2.St, Sl G σ' ρ' → σ'.length = σ.length → (∀ k : Nat, k ∉ js → σ'[k]? = σ[k]?) → Q σ' H) → g v σ H Q
theorem tg_name {i : Nat} {d : D} {ρ : Rho} : Tg (gName i) d ρ (ρ.set i (some d)) [i] := fun σ G H v e s h Q q =>
  q _ (s.set i h) (by simp) fun k hk => by
    have : i ≠ k := fun z => hk (by simp [z])
    rw [List.getElem?_set_ne this]
theorem tgs_nil {ρ : Rho} : Tgs gNil [] ρ ρ [] := fun σ G H v e s h Q q => by
  cases h
  exact ⟨rfl, q σ s rfl fun _ _ => rfl⟩
theorem tgs_cons {g : TG} {t : TGs} {d : D} {ds : List D} {ρ ρ1 ρ2 : Rho} {j1 j2 : List Nat} (a : Tg g d ρ ρ1 j1) (b : Tgs t ds ρ1 ρ2 j2) : Tgs (gCons g t) (d :: ds) ρ ρ2 (j1 ++ j2) := fun σ G H v e s h Q q => by
  cases h with
  | cons h1 h2 =>
    refine ⟨_, _, rfl, a σ G H _ e s h1 _ fun σ1 s1 l1 k1 => b σ1 G H _ e s1 h2 _ fun σ2 s2 l2 k2 => q σ2 s2 (l2.trans l1) fun k hk => ?_⟩
    rw [k2 k (fun z => hk (List.mem_append_right _ z)), k1 k (fun z => hk (List.mem_append_left _ z))]
theorem tg_tup {K : PySem.W.Frag} {t : TGs} {ds : List D} {ρ ρ' : Rho} {js : List Nat} {n : Nat} (h : Tgs t ds ρ ρ' js) (hn : ds.length = n) : Tg (gTup K n t) (.tup ds) ρ ρ' js := fun σ G H v e s k Q q => by
  cases k with
  | tup a b => exact ⟨_, _, rfl, SqT.of (e _ _ a), by rw [b.len]; exact hn, h σ G H _ e s b Q q⟩

/-! ### walks -/
structure Goes (J : It) (ds : List D) (G0 : Hp) : Prop where
  go : ∀ G H i, Same G0 G → Same G H → i < ds.length → J.go i H
  stop : ∀ G H, Same G0 G → Same G H → J.stop ds.length H
  yld : ∀ G H i v H', Same G0 G → Same G H → i < ds.length → J.yld i H v H' → ∃ d G', ds[i]? = some d ∧ Grow no G H G' H' ∧ Da G' v d
def Wk (S : Addr → Prop) (O : Os) (ρ : Rho) (G0 : Hp) (wi : TI) (P : List D → Prop) : Prop := ∀ σ G H, Same G0 G → Sta S O ρ σ G H → ∀ R : It → Hp → Prop,
  (∀ J ds G' H', Grow S G H G' H' → P ds → Goes J ds G' → R J H') → wi σ H R
section
variable {K : PySem.W.Frag} {S : Addr → Prop} {O : Os} {ρ : Rho} {G0 : Hp} {te : TE} {ta : TA}
theorem goes_list {a : Addr} {xs : List V} {ds : List D} {G0 : Hp} (h : G0 a = some (.lst xs)) (k : DaA G0 xs ds) : Goes (Itl K a) ds G0 where
  go := fun G H i e e' hi => by
    obtain ⟨v, hv, _⟩ := k.get (i := i) (List.getElem?_eq_getElem hi)
    exact ⟨xs, v, SqL.of (e' _ _ (e _ _ h)), hv⟩
  stop := fun G H e e' => ⟨xs, SqL.of (e' _ _ (e _ _ h)), by rw [k.len]; exact Nat.le_refl _⟩
  yld := fun G H i v H' e e' hi y => by
    obtain ⟨rfl, y⟩ := y
    have hv := y xs (SqL.of (e' _ _ (e _ _ h)))
    obtain ⟨d, a, b⟩ := k.got hv
    exact ⟨d, G, a, .refl e' sto_no, b.up e⟩
theorem goes_tup {a : Addr} {xs : List V} {ds : List D} {G0 : Hp} (h : G0 a = some (.tup xs)) (k : DaA G0 xs ds) : Goes (Itt K a) ds G0 where
  go := fun G H i e e' hi => by
    obtain ⟨v, hv, _⟩ := k.get (i := i) (List.getElem?_eq_getElem hi)
    exact ⟨xs, v, SqT.of (e' _ _ (e _ _ h)), hv⟩
  stop := fun G H e e' => ⟨xs, SqT.of (e' _ _ (e _ _ h)), by rw [k.len]; exact Nat.le_refl _⟩
  yld := fun G H i v H' e e' hi y => by
    obtain ⟨rfl, y⟩ := y
    have hv := y xs (SqT.of (e' _ _ (e _ _ h)))
    obtain ⟨d, a, b⟩ := k.got hv
    exact ⟨d, G, a, .refl e' sto_no, b.up e⟩
def rngD (lo : Int) (n : Nat) : List D := (List.range n).map fun (i : Nat) => .int (lo + (i : Int))
theorem rngD_len (lo : Int) (n : Nat) : (rngD lo n).length = n := by simp [rngD]
theorem rngD_get {lo : Int} {n i : Nat} {d : D} (h : (rngD lo n)[i]? = some d) : i < n ∧ d = .int (lo + (i : Int)) := by
  have hi : i < n := by
    have := (List.getElem?_eq_some_iff.mp h).1
    rwa [rngD_len] at this
  refine ⟨hi, ?_⟩
  unfold rngD at h
  rw [List.getElem?_map, List.getElem?_range hi] at h
  exact (Option.some.inj h).symm
theorem goes_rng {lo : Int} {n : Nat} {G0 : Hp} : Goes (Itr lo n) (rngD lo n) G0 where
  go := fun G H i e e' hi => by rw [rngD_len] at hi; exact hi
  stop := fun G H e e' => by rw [rngD_len]; exact Nat.le_refl n
  yld := fun G H i v H' e e' hi y => by
    obtain ⟨rfl, rfl⟩ := y
    rw [rngD_len] at hi
    refine ⟨.int (lo + i), G, ?_, .refl e' sto_no, .int _⟩
    simp [rngD, hi]
theorem goes_str {z : Str} {G0 : Hp} : Goes (Its z) (z.cps.toList.map fun c => .str ⟨#[c]⟩) G0 where
  go := fun G H i e e' hi => by
    show i < z.cps.size
    simpa using hi
  stop := fun G H e e' => by simp [Its]
  yld := fun G H i v H' e e' hi y => by
    obtain ⟨rfl, c, hc, rfl⟩ := y
    exact ⟨_, G, by simp [hc], .refl e' sto_no, .str _⟩
/-- a frozen list or tuple -/
def SqD (k : SK) (d : D) (ds : List D) : Prop := match k with | .l => d = .lst ds | .t => d = .tup ds
theorem sqD_at {k : SK} {G : Hp} {v : V} {d : D} {ds : List D} (h : Da G v d) (q : SqD k d ds) : ∃ a xs, v = .ref a ∧ DaA G xs ds ∧ ∀ H, Same G H → SqK k K H a xs := by
  cases k with
  | l =>
    cases (show d = .lst ds from q)
    cases h with
    | lst a b => exact ⟨_, _, rfl, b, fun H e => SqL.of (e _ _ a)⟩
  | t =>
    cases (show d = .tup ds from q)
    cases h with
    | tup a b => exact ⟨_, _, rfl, b, fun H e => SqT.of (e _ _ a)⟩
def zipD (ds es : List D) : List D := (ds.zip es).map fun p => .tup [p.1, p.2]
def zip3D (ds es fs : List D) : List D := (ds.zip (es.zip fs)).map fun p => .tup [p.1, p.2.1, p.2.2]
def enD (ds : List D) : List D := List.zipWith (fun (i : Nat) d => .tup [.int (i : Int), d]) (List.range ds.length) ds
theorem zip_at {α β : Type} {ds : List α} {es : List β} {i : Nat} {d : α} {e : β} (h : ds[i]? = some d) (k : es[i]? = some e) : (ds.zip es)[i]? = some (d, e) := by
  rw [List.getElem?_zip_eq_some]; exact ⟨h, k⟩
theorem zipD_at {ds es : List D} {i : Nat} {d e : D} (h : ds[i]? = some d) (k : es[i]? = some e) : (zipD ds es)[i]? = some (.tup [d, e]) := by
  unfold zipD
  rw [List.getElem?_map, zip_at h k]
  rfl
theorem zip3D_at {ds es fs : List D} {i : Nat} {d e f : D} (h : ds[i]? = some d) (k : es[i]? = some e) (l : fs[i]? = some f) : (zip3D ds es fs)[i]? = some (.tup [d, e, f]) := by
  unfold zip3D
  rw [List.getElem?_map, zip_at h (zip_at k l)]
  rfl
theorem zipD_get {ds es : List D} {i : Nat} {x : D} (h : (zipD ds es)[i]? = some x) : ∃ d e, ds[i]? = some d ∧ es[i]? = some e ∧ x = .tup [d, e] := by
  have hi := (List.getElem?_eq_some_iff.mp h).1
  have h1 : i < ds.length := by simp [zipD] at hi; omega
  have h2 : i < es.length := by simp [zipD] at hi; omega
  have k := zipD_at (List.getElem?_eq_getElem h1) (List.getElem?_eq_getElem h2)
  rw [h] at k
  exact ⟨_, _, List.getElem?_eq_getElem h1, List.getElem?_eq_getElem h2, Option.some.inj k⟩
theorem zip3D_get {ds es fs : List D} {i : Nat} {x : D} (h : (zip3D ds es fs)[i]? = some x) : ∃ d e f, ds[i]? = some d ∧ es[i]? = some e ∧ fs[i]? = some f ∧ x = .tup [d, e, f] := by
  have hi := (List.getElem?_eq_some_iff.mp h).1
  have h1 : i < ds.length := by simp [zip3D] at hi; omega
  have h2 : i < es.length := by simp [zip3D] at hi; omega
  have h3 : i < fs.length := by simp [zip3D] at hi; omega
  have k := zip3D_at (List.getElem?_eq_getElem h1) (List.getElem?_eq_getElem h2) (List.getElem?_eq_getElem h3)
  rw [h] at k
  exact ⟨_, _, _, List.getElem?_eq_getElem h1, List.getElem?_eq_getElem h2, List.getElem?_eq_getElem h3, Option.some.inj k⟩
theorem goes_zip2 {k1 k2 : SK} {a b : Addr} {xs ys : List V} {ds es : List D} {G0 : Hp} (hl : ds.length = es.length) (h1 : ∀ H, Same G0 H → SqK k1 K H a xs) (d1 : DaA G0 xs ds) (h2 : ∀ H, Same G0 H → SqK k2 K H b ys) (d2 : DaA G0 ys es) : Goes (ItZ2 k1 k2 K a b) (zipD ds es) G0 where
  go := fun G H i e e' hi => by
    have hi' : i < ds.length ∧ i < es.length := by simp [zipD] at hi; omega
    obtain ⟨v, hv, _⟩ := d1.get (i := i) (List.getElem?_eq_getElem hi'.1)
    obtain ⟨w, hw, _⟩ := d2.get (i := i) (List.getElem?_eq_getElem hi'.2)
    exact ⟨xs, ys, v, w, h1 H (e.trans e'), h2 H (e.trans e'), hv, hw⟩
  stop := fun G H e e' => by
    have l1 := d1.len
    have l2 := d2.len
    exact ⟨xs, ys, h1 H (e.trans e'), h2 H (e.trans e'), by simp [zipD]; omega, by simp [zipD]; omega, by simp [zipD]; omega⟩
  yld := fun G H i v H' e e' hi y => by
    obtain ⟨T, x, z, rfl, hT, rfl, y1, y2⟩ := y
    obtain ⟨d, k1, k2⟩ := d1.got (y1 xs (h1 H (e.trans e')))
    obtain ⟨d', k3, k4⟩ := d2.got (y2 ys (h2 H (e.trans e')))
    have g := Grow.new (o := .tup [x, z]) e' hT
    exact ⟨.tup [d, d'], _, zipD_at k1 k3, g, .tup upd_same (.cons (k2.up (e.trans g.gg)) (.cons (k4.up (e.trans g.gg)) .nil))⟩
theorem goes_zip3 {k1 k2 k3 : SK} {a b c : Addr} {xs ys zs : List V} {ds es fs : List D} {G0 : Hp} (hl : ds.length = es.length) (hm : ds.length = fs.length) (h1 : ∀ H, Same G0 H → SqK k1 K H a xs) (d1 : DaA G0 xs ds) (h2 : ∀ H, Same G0 H → SqK k2 K H b ys) (d2 : DaA G0 ys es) (h3 : ∀ H, Same G0 H → SqK k3 K H c zs) (d3 : DaA G0 zs fs) : Goes (ItZ3 k1 k2 k3 K a b c) (zip3D ds es fs) G0 where
  go := fun G H i e e' hi => by
    have hi' : i < ds.length ∧ i < es.length ∧ i < fs.length := by simp [zip3D] at hi; omega
    obtain ⟨v, hv, _⟩ := d1.get (i := i) (List.getElem?_eq_getElem hi'.1)
    obtain ⟨w, hw, _⟩ := d2.get (i := i) (List.getElem?_eq_getElem hi'.2.1)
    obtain ⟨u, hu, _⟩ := d3.get (i := i) (List.getElem?_eq_getElem hi'.2.2)
    exact ⟨xs, ys, zs, v, w, u, h1 H (e.trans e'), h2 H (e.trans e'), h3 H (e.trans e'), hv, hw, hu⟩
  stop := fun G H e e' => by
    have l1 := d1.len
    have l2 := d2.len
    have l3 := d3.len
    exact ⟨xs, ys, zs, h1 H (e.trans e'), h2 H (e.trans e'), h3 H (e.trans e'), by simp [zip3D]; omega, by simp [zip3D]; omega, by simp [zip3D]; omega, by simp [zip3D]; omega⟩
  yld := fun G H i v H' e e' hi y => by
    obtain ⟨T, x, z, u, rfl, hT, rfl, y1, y2, y3⟩ := y
    obtain ⟨d, k1, k2⟩ := d1.got (y1 xs (h1 H (e.trans e')))
    obtain ⟨d', k3, k4⟩ := d2.got (y2 ys (h2 H (e.trans e')))
    obtain ⟨d'', k5, k6⟩ := d3.got (y3 zs (h3 H (e.trans e')))
    have g := Grow.new (o := .tup [x, z, u]) e' hT
    exact ⟨.tup [d, d', d''], _, zip3D_at k1 k3 k5, g, .tup upd_same (.cons (k2.up (e.trans g.gg)) (.cons (k4.up (e.trans g.gg)) (.cons (k6.up (e.trans g.gg)) .nil)))⟩
theorem enD_len (ds : List D) : (enD ds).length = ds.length := by simp [enD]
theorem enD_get {ds : List D} {i : Nat} {d : D} (h : (enD ds)[i]? = some d) : ∃ e, ds[i]? = some e ∧ d = .tup [.int (i : Int), e] := by
  have hi : i < ds.length := by
    have := (List.getElem?_eq_some_iff.mp h).1
    rwa [enD_len] at this
  unfold enD at h
  rw [List.getElem?_zipWith, List.getElem?_range hi, List.getElem?_eq_getElem hi] at h
  exact ⟨ds[i], List.getElem?_eq_getElem hi, (Option.some.inj h).symm⟩
theorem enD_at {ds : List D} {i : Nat} {e : D} (h : ds[i]? = some e) : (enD ds)[i]? = some (.tup [.int (i : Int), e]) := by
  have hi := (List.getElem?_eq_some_iff.mp h).1
  unfold enD
  rw [List.getElem?_zipWith, List.getElem?_range hi, h]
theorem goes_en {k : SK} {a : Addr} {xs : List V} {ds : List D} {G0 : Hp} (h1 : ∀ H, Same G0 H → SqK k K H a xs) (d1 : DaA G0 xs ds) : Goes (ItEn k K a) (enD ds) G0 where
  go := fun G H i e e' hi => by
    rw [enD_len] at hi
    obtain ⟨v, hv, _⟩ := d1.get (i := i) (List.getElem?_eq_getElem hi)
    exact ⟨xs, v, h1 H (e.trans e'), hv⟩
  stop := fun G H e e' => ⟨xs, h1 H (e.trans e'), by rw [enD_len, d1.len]⟩
  yld := fun G H i v H' e e' hi y => by
    obtain ⟨T, x, rfl, hT, rfl, y1⟩ := y
    obtain ⟨d, k1, k2⟩ := d1.got (y1 xs (h1 H (e.trans e')))
    have g := Grow.new (o := .tup [.int (i : Int), x]) e' hT
    exact ⟨.tup [.int (i : Int), d], _, enD_at k1, g, .tup upd_same (.cons (.int _) (.cons (k2.up (e.trans g.gg)) .nil))⟩
theorem Wk.imp {wi : TI} {P P' : List D → Prop} (h : Wk S O ρ G0 wi P) (k : ∀ ds, P ds → P' ds) : Wk S O ρ G0 wi P' := fun σ G H e s R r => h σ G H e s R fun J ds G' H' g p q => r J ds G' H' g (k ds p) q
theorem Wk.mono {G1 : Hp} {wi : TI} {P : List D → Prop} (h : Wk S O ρ G0 wi P) (e : Same G0 G1) : Wk S O ρ G1 wi P := fun σ G H k s R r => h σ G H (e.trans k) s R r
theorem wk_list {P : D → Prop} (h : Ev S O ρ G0 te P) (k : ∀ d, P d → ∃ ds, d = .lst ds) : Wk S O ρ G0 (iList K te) (fun ds => P (.lst ds)) := fun σ G H e s R r =>
  h σ G H e s _ fun v d G' H' g x p => by
    obtain ⟨ds, rfl⟩ := k d p
    cases x with
    | lst a b => exact ⟨_, rfl, ⟨_, SqL.of (g.gh _ _ a)⟩, r _ ds G' H' g p (goes_list a b)⟩
theorem wk_listD {ds : List D} (h : Ev S O ρ G0 te (· = .lst ds)) : Wk S O ρ G0 (iList K te) (· = ds) := (wk_list h fun d e => ⟨ds, e⟩).imp fun es e => by cases e; rfl
theorem wk_tup {P : D → Prop} (h : Ev S O ρ G0 te P) (k : ∀ d, P d → ∃ ds, d = .tup ds) : Wk S O ρ G0 (iTup K te) (fun ds => P (.tup ds)) := fun σ G H e s R r =>
  h σ G H e s _ fun v d G' H' g x p => by
    obtain ⟨ds, rfl⟩ := k d p
    cases x with
    | tup a b => exact ⟨_, rfl, ⟨_, SqT.of (g.gh _ _ a)⟩, r _ ds G' H' g p (goes_tup a b)⟩
theorem wk_tupD {ds : List D} (h : Ev S O ρ G0 te (· = .tup ds)) : Wk S O ρ G0 (iTup K te) (· = ds) := (wk_tup h fun d e => ⟨ds, e⟩).imp fun es e => by cases e; rfl
theorem wk_str {z : Str} (h : Ev S O ρ G0 te (· = .str z)) : Wk S O ρ G0 (iStr te) (· = z.cps.toList.map fun c => .str ⟨#[c]⟩) := fun σ G H e s R r =>
  h σ G H e s _ fun v d G' H' g x p => by
    subst p
    cases x
    exact ⟨z, rfl, r _ _ G' H' g rfl goes_str⟩
/-- range(n), n drawn -/
theorem wk_rng1 {P : List D → Prop} (h : EvA S O ρ G0 ta P) (k : ∀ ds, P ds → ∃ n : Int, ds = [.int n] ∧ n < 2 ^ 62 ∧ -(2 ^ 62) ≤ n) : Wk S O ρ G0 (iRng1 ta) (fun ds => ∃ n : Int, P [.int n] ∧ ds = rngD 0 n.toNat) := fun σ G H e s R r =>
  h σ G H e s _ fun vs ds G' H' g x p => by
    obtain ⟨n, rfl, h1, h2⟩ := k ds p
    cases x with
    | cons a b =>
      cases b; cases a
      exact ⟨n, rfl, h2, h1, r _ _ G' H' g ⟨n, p, rfl⟩ goes_rng⟩
theorem wk_rng1D {n : Int} (h : EvA S O ρ G0 ta (· = [.int n])) (h0 : -(2 ^ 62) ≤ n) (h1 : n < 2 ^ 62) : Wk S O ρ G0 (iRng1 ta) (· = rngD 0 n.toNat) := (wk_rng1 h fun ds e => ⟨n, e, h1, h0⟩).imp fun ds ⟨m, e, k⟩ => by cases e; exact k
theorem wk_rng2D {lo n : Int} (h : EvA S O ρ G0 ta (· = [.int lo, .int n])) (h0 : -(2 ^ 62) ≤ lo ∧ lo < 2 ^ 62 ∧ -(2 ^ 62) ≤ n ∧ n < 2 ^ 62) : Wk S O ρ G0 (iRng2 ta) (· = rngD lo (n - lo).toNat) := fun σ G H e s R r =>
  h σ G H e s _ fun vs ds G' H' g x p => by
    subst p
    cases x with
    | cons a b =>
      cases a
      cases b with
      | cons b c => cases b; cases c; exact ⟨lo, n, rfl, h0, r _ _ G' H' g rfl goes_rng⟩
theorem wk_zip2 (k1 k2 : SK) {d e : D} {ds es : List D} (h : EvA S O ρ G0 ta (· = [d, e])) (h1 : SqD k1 d ds) (h2 : SqD k2 e es) (hl : ds.length = es.length) : Wk S O ρ G0 (iZip2 k1 k2 K ta) (· = zipD ds es) := fun σ G H e s R r =>
  h σ G H e s _ fun vs ds G' H' g x p => by
    subst p
    cases x with
    | cons a b =>
      cases b with
      | cons b c =>
        cases c
        obtain ⟨p, xs, rfl, da, sa⟩ := sqD_at (K := K) a h1
        obtain ⟨q, ys, rfl, db, sb⟩ := sqD_at (K := K) b h2
        exact ⟨p, q, xs, ys, rfl, sa _ g.gh, sb _ g.gh, r _ _ G' H' g rfl (goes_zip2 hl sa da sb db)⟩
theorem wk_zip3 (k1 k2 k3 : SK) {d e f : D} {ds es fs : List D} (h : EvA S O ρ G0 ta (· = [d, e, f])) (h1 : SqD k1 d ds) (h2 : SqD k2 e es) (h3 : SqD k3 f fs) (hl : ds.length = es.length) (hm : ds.length = fs.length) : Wk S O ρ G0 (iZip3 k1 k2 k3 K ta) (· = zip3D ds es fs) := fun σ G H e s R r =>
  h σ G H e s _ fun vs ds G' H' g x p => by
    subst p
    cases x with
    | cons a b =>
      cases b with
      | cons b c =>
        cases c with
        | cons c c' =>
          cases c'
          obtain ⟨p, xs, rfl, da, sa⟩ := sqD_at (K := K) a h1
          obtain ⟨q, ys, rfl, db, sb⟩ := sqD_at (K := K) b h2
          obtain ⟨o, zs, rfl, dc, sc⟩ := sqD_at (K := K) c h3
          exact ⟨p, q, o, xs, ys, zs, rfl, sa _ g.gh, sb _ g.gh, sc _ g.gh, r _ _ G' H' g rfl (goes_zip3 hl hm sa da sb db sc dc)⟩
theorem wk_en (k : SK) {d : D} {ds : List D} (h : EvA S O ρ G0 ta (· = [d])) (h1 : SqD k d ds) : Wk S O ρ G0 (iEn k K ta) (· = enD ds) := fun σ G H e s R r =>
  h σ G H e s _ fun vs ds G' H' g x p => by
    subst p
    cases x with
    | cons a b =>
      cases b
      obtain ⟨p, xs, rfl, da, sa⟩ := sqD_at (K := K) a h1
      exact ⟨p, xs, rfl, sa _ g.gh, r _ _ G' H' g rfl (goes_en sa da)⟩

/-! ### new lists -/
def EvN (S : Addr → Prop) (O : Os) (ρ : Rho) (G0 : Hp) (te : TE) (P : List D → Prop) : Prop := ∀ σ G H, Same G0 G → Sta S O ρ σ G H → ∀ Q : VK,
  (∀ l xs ds G' H', Grow S G H G' H' → H l = none → G' l = none → H' l = some (.lst xs) → DaA G' xs ds → P ds → Q (.ref l) H') → te σ H Q
theorem not_S {S : Addr → Prop} {G H : Hp} {l : Addr} (st : Sto S G H) (h : H l = none) : ¬ S l := fun k => by
  obtain ⟨_, a, b, c, e⟩ := st l k
  rw [h] at e; cases e
theorem Grow.back {S : Addr → Prop} {G H G' H' : Hp} {l : Addr} (g : Grow S G H G' H') (h : H' l = none) : H l = none := by
  cases q : H l with
  | none => rfl
  | some o =>
    by_cases k : S l
    · obtain ⟨_, a, b, c, e⟩ := g.st l k
      rw [h] at e; cases e
    · rw [g.hh l o q k] at h; cases h
/-- a list that nobody changes any more -/
theorem Grow.freeze {S : Addr → Prop} {G H G' H' : Hp} {l : Addr} {xs : List V} (g : Grow S G H G' H') (st : Sto S G H) (h0 : H l = none) (h1 : G' l = none) (h2 : H' l = some (.lst xs)) : Grow S G H (upd G' l (.lst xs)) H' where
  gg := fun a o e => by
    have : a ≠ l := fun z => by subst z; rw [g.gg _ _ e] at h1; cases h1
    rw [upd_ne this]; exact g.gg _ _ e
  gh := fun a o e => by
    by_cases z : a = l
    · subst z; rw [upd_same] at e; cases e; exact h2
    · rw [upd_ne z] at e; exact g.gh _ _ e
  hh := g.hh
  fr := fun a o e k => by rw [upd_ne (ne_of_none e h0)]; exact g.fr a o e k
  st := fun s hs => by
    have : s ≠ l := fun z => by
      subst z
      obtain ⟨_, a, b, c, e⟩ := st s hs
      rw [h0] at e; cases e
    rw [upd_ne this]; exact g.st s hs
theorem EvN.ev {te : TE} {P : List D → Prop} (h : EvN S O ρ G0 te P) : Ev S O ρ G0 te (fun d => ∃ ds, d = .lst ds ∧ P ds) := fun σ G H e s Q q =>
  h σ G H e s Q fun l xs ds G' H' g h0 h1 h2 da p => by
    have g' := g.freeze s.st h0 h1 h2
    refine q _ (.lst ds) _ H' g' (.lst upd_same (da.up fun a o k => ?_)) ⟨ds, rfl, p⟩
    have : a ≠ l := fun z => by subst z; rw [k] at h1; cases h1
    rw [upd_ne this]; exact k
theorem EvN.evD {te : TE} {ds : List D} (h : EvN S O ρ G0 te (· = ds)) : Ev S O ρ G0 te (· = .lst ds) := h.ev.imp fun d ⟨es, e, k⟩ => by rw [e, k]
theorem EvN.imp {te : TE} {P P' : List D → Prop} (h : EvN S O ρ G0 te P) (k : ∀ d, P d → P' d) : EvN S O ρ G0 te P' := fun σ G H e s Q q => h σ G H e s Q fun l xs ds G' H' g a b c x p => q l xs ds G' H' g a b c x (k ds p)
theorem en_lst {t : TA} {Pl : List D → Prop} (h : EvA S O ρ G0 t Pl) (hl : ∀ ds, Pl ds → ds.length ≤ sizeLine) : EvN S O ρ G0 (tLst t) Pl := fun σ G H e s Q q =>
  h σ G H e s _ fun vs ds G1 H1 g1 d1 p1 => ⟨by rw [d1.len]; exact hl ds p1, fun p hp =>
    q p vs ds _ _ (g1.trans ((Grow.newM g1.gh hp).lift g1.st) s.st) (g1.back hp) (by
      cases z : G1 p with
      | none => rfl
      | some o => rw [g1.gh _ _ z] at hp; cases hp) upd_same d1 p1⟩
theorem en_nil : EvN S O ρ G0 (tLst tNil) (· = []) := en_lst ea_nil fun _ e => by rw [e]; exact Nat.zero_le _
theorem en_list {t : TA} {d : D} {ds : List D} (h : EvA S O ρ G0 t (· = [d])) (hd : d = .lst ds ∨ d = .tup ds) : EvN S O ρ G0 (tCB (fun xs H Q => ∃ p ys, xs = [.ref p] ∧ (SqL K H p ys ∨ SqT K H p ys) ∧ ∀ l, H l = none → Q (.ref l) (upd H l (.lst ys))) t) (· = ds) := fun σ G H e s Q q =>
  h σ G H e s _ fun vs es G1 H1 g1 d1 p1 => by
    subst p1
    have fin : ∀ (ys : List V), DaA G1 ys ds → ∀ l, H1 l = none → Q (.ref l) (upd H1 l (.lst ys)) := fun ys dy l hl =>
      q l ys ds _ _ (g1.trans ((Grow.newM g1.gh hl).lift g1.st) s.st) (g1.back hl) (by
        cases z : G1 l with
        | none => rfl
        | some o => rw [g1.gh _ _ z] at hl; cases hl) upd_same dy rfl
    cases d1 with
    | cons h1 h2 =>
      cases h2
      rcases hd with rfl | rfl
      · cases h1 with
        | lst a b => exact ⟨_, _, rfl, .inl (SqL.of (g1.gh _ _ a)), fin _ b⟩
      · cases h1 with
        | tup a b => exact ⟨_, _, rfl, .inr (SqT.of (g1.gh _ _ a)), fin _ b⟩

/-! ### comprehensions -/
def wipeR (ρ : Rho) : List Nat → Rho
  | [] => ρ
  | v :: vs => (wipeR ρ vs).set v none
theorem Sl.setN {G : Hp} {σ : L2.St} {ρ : Rho} (h : Sl G σ ρ) (i : Nat) : Sl G (σ.set i none) (ρ.set i none) := by
  refine ⟨by simp [h.1], fun j e q => ?_⟩
  by_cases hj : i = j
  · subst hj
    by_cases hi : i < ρ.length
    · rw [List.getElem?_set_self hi] at q
      cases q
    · rw [List.getElem?_eq_none (by simpa using hi)] at q
      cases q
  · rw [List.getElem?_set_ne hj] at q ⊢
    exact h.2 j e q
theorem Sl.wipe {G : Hp} {σ : L2.St} {ρ : Rho} (h : Sl G σ ρ) : ∀ vs : List Nat, Sl G (L2.wipe σ vs) (wipeR ρ vs)
  | [] => h
  | v :: vs => (Sl.wipe h vs).setN v
theorem wipe_eq {σ σ' : L2.St} : ∀ (vs : List Nat), σ'.length = σ.length → (∀ k : Nat, k ∉ vs → σ'[k]? = σ[k]?) → L2.wipe σ' vs = L2.wipe σ vs := by
  intro vs hl h
  have key : ∀ vs : List Nat, ∀ k : Nat, k ∉ vs → (L2.wipe σ' vs)[k]? = σ'[k]? := fun vs k hk => wipe_out hk
  apply List.ext_getElem?
  intro k
  by_cases hk : k ∈ vs
  · have none_at : ∀ (τ : L2.St) (vs : List Nat), k ∈ vs → k < τ.length → (L2.wipe τ vs)[k]? = some none := by
      intro τ vs
      induction vs with
      | nil => intro h; cases h
      | cons v vs ih =>
        intro hm hlt
        show ((L2.wipe τ vs).set v none)[k]? = some none
        by_cases hv : v = k
        · subst hv
          rw [List.getElem?_set_self (by rw [wipe_length]; exact hlt)]
        · rw [List.getElem?_set_ne hv]
          exact ih (by rcases List.mem_cons.mp hm with e | e; exact absurd e.symm hv; exact e) hlt
    by_cases hlt : k < σ.length
    · rw [none_at σ' vs hk (by rw [hl]; exact hlt), none_at σ vs hk hlt]
    · rw [List.getElem?_eq_none (by rw [wipe_length, hl]; omega), List.getElem?_eq_none (by rw [wipe_length]; omega)]
  · rw [wipe_out hk, wipe_out hk, h k hk]
theorem wipe_idem {σ : L2.St} (vs : List Nat) : L2.wipe (L2.wipe σ vs) vs = L2.wipe σ vs := wipe_eq vs (wipe_length σ vs) fun k hk => wipe_out hk
/-- the elements that are kept, of n turns -/
inductive Kept (f : Nat → Bool) (Pe : Nat → D → Prop) : Nat → List D → Prop
  | nil : Kept f Pe 0 []
  | yes {n : Nat} {rs : List D} {d : D} : Kept f Pe n rs → f n = true → Pe n d → Kept f Pe (n + 1) (rs ++ [d])
  | no {n : Nat} {rs : List D} : Kept f Pe n rs → f n = false → Kept f Pe (n + 1) rs
theorem Kept.len {f : Nat → Bool} {Pe : Nat → D → Prop} {n : Nat} {rs : List D} (h : Kept f Pe n rs) : rs.length ≤ n := by
  induction h with
  | nil => exact Nat.le_refl _
  | yes _ _ _ ih => simp; omega
  | no _ _ ih => omega
theorem en_lc {wi : TI} {g : TG} {tt : TT} {te : TE} {vs : List Nat} {Pw : List D → Prop} {f : List D → Nat → Bool} {Pe : List D → Nat → D → Prop} (hw : Wk S O ρ G0 wi Pw) (hz : ∀ ds, Pw ds → ds.length ≤ sizeLine)
    (hb : ∀ (ds : List D) (i : Nat) (d : D), Pw ds → ds[i]? = some d → ∃ ρ' js, Tg g d (wipeR ρ vs) ρ' js ∧ (∀ j ∈ js, j ∈ vs) ∧ EvT S O ρ' G0 tt (· = f ds i) ∧ (f ds i = true → Ev S O ρ' G0 te (Pe ds i))) :
    EvN S O ρ G0 (tLc wi g tt te vs) (fun rs => ∃ ds, Pw ds ∧ Kept (f ds) (Pe ds) ds.length rs) := fun σ G H e s Q q =>
  hw σ G H e s _ fun J ds G1 H1 g1 p1 go => by
    intro l hl
    have s1 := s.up g1
    have h0 : H l = none := g1.back hl
    have hGl : G1 l = none := by
      cases z : G1 l with
      | none => rfl
      | some o => rw [g1.gh _ _ z] at hl; cases hl
    have nS : ¬ S l := not_S s1.st hl
    refine ⟨fun i m Hc => m = ds.length - i ∧ i ≤ ds.length ∧ ∃ Gc xs rs, Grow S G1 H1 Gc Hc ∧ Gc l = none ∧ Hc l = some (.lst xs) ∧ DaA Gc xs rs ∧ Kept (f ds) (Pe ds) i rs,
      ⟨_, rfl, Nat.zero_le _, G1, [], [], (Grow.newM s1.e hl).lift s1.st, hGl, upd_same, .nil, .nil⟩, ?_⟩
    rintro i m Hc ⟨rfl, hi, Gc, xs, rs, gc, c1, c2, c3, c4⟩
    by_cases hlt : i < ds.length
    · refine .inr ⟨go.go Gc Hc i gc.gg gc.gh hlt, fun Hn => ∃ Gc xs rs, Grow S G1 H1 Gc Hn ∧ Gc l = none ∧ Hn l = some (.lst xs) ∧ DaA Gc xs rs ∧ Kept (f ds) (Pe ds) (i + 1) rs, fun Hn hn => ⟨ds.length - (i + 1), by omega, rfl, hlt, hn⟩, fun x H2 y => ?_⟩
      obtain ⟨d, G2, hd, g2, da⟩ := go.yld Gc Hc i x H2 gc.gg gc.gh hlt y
      obtain ⟨ρ', js, tg, hjs, et, ee⟩ := hb ds i d p1 hd
      have g2' := g2.lift gc.st
      have gc2 := gc.trans g2' s1.st
      have s2 : Sta S O (wipeR ρ vs) (L2.wipe σ vs) G2 H2 := ⟨gc2.gh, gc2.st, (s1.sl.up gc2.gg).wipe vs, s1.ow.up gc2⟩
      have l2 : H2 l = some (.lst xs) := g2.hh _ _ c2 id
      have m2 : G2 l = none := g2.fr _ _ c2 c1
      have c3' := c3.up g2.gg
      refine tg (L2.wipe σ vs) G2 H2 x s2.e s2.sl da _ fun σ' sl' len' keep' => ⟨?_, ?_⟩
      · rw [wipe_eq vs len' fun k hk => keep' k fun z => hk (hjs k z)]
        exact wipe_idem vs
      · have s3 : Sta S O ρ' σ' G2 H2 := ⟨s2.e, s2.st, sl', s2.ow⟩
        refine et σ' G2 H2 (e.trans (g1.gg.trans gc2.gg)) s3 _ fun b G3 H3 g3 pb => ?_
        have gc3 := gc2.trans g3 s1.st
        have l3 : H3 l = some (.lst xs) := g3.hh _ _ l2 nS
        have m3 : G3 l = none := g3.fr _ _ l2 m2
        subst pb
        cases hf : f ds i with
        | false =>
          show ∃ Gc xs rs, _
          exact ⟨G3, xs, rs, gc3, m3, l3, c3'.up g3.gg, .no c4 hf⟩
        | true =>
          show te σ' H3 _
          refine ee hf σ' G3 H3 (e.trans (g1.gg.trans gc3.gg)) (s3.up g3) _ fun w dw G4 H4 g4 dd pd => ?_
          have gc4 := gc3.trans g4 s1.st
          have l4 : H4 l = some (.lst xs) := g4.hh _ _ l3 nS
          have m4 : G4 l = none := g4.fr _ _ l3 m3
          have hlen : xs.length < sizeLine := by
            have a1 := c3.len
            have a2 := c4.len
            have a3 := hz ds p1
            omega
          refine ⟨xs, l4, hlen, G4, xs ++ [w], rs ++ [dw], ?_, m4, upd_same, ((c3'.up g3.gg).up g4.gg).app (.cons dd .nil), .yes c4 hf pd⟩
          exact ⟨gc4.gg, fun a o k => by
            have : a ≠ l := fun z => by subst z; rw [k] at m4; cases m4
            rw [upd_ne this]; exact gc4.gh _ _ k, fun a o k z => by
            rw [upd_ne (ne_of_none k hl)]; exact gc4.hh a o k z, gc4.fr, fun t ht => by
            have : t ≠ l := fun z => nS (z ▸ ht)
            rw [upd_ne this]; exact gc4.st t ht⟩
    · have ei : i = ds.length := by omega
      subst ei
      exact .inl ⟨go.stop Gc Hc gc.gg gc.gh, q l xs rs Gc Hc (g1.trans gc s.st) h0 c1 c2 c3 ⟨ds, p1, c4⟩⟩
theorem et_yes : EvT S O ρ G0 tYes (· = true) := fun σ G H e s Q q => q true G H (.refl s.e s.st) rfl
theorem Kept.all {Pe : Nat → D → Prop} {n : Nat} {rs : List D} (h : Kept (fun _ => true) Pe n rs) : rs.length = n ∧ ∀ (i : Nat) (d : D), rs[i]? = some d → Pe i d := by
  generalize hf : (fun _ : Nat => true) = f at h
  induction h with
  | nil => exact ⟨rfl, fun i d h => by simp at h⟩
  | @yes n rs d _ _ p ih =>
    obtain ⟨a, b⟩ := ih
    refine ⟨by simp [a], fun i e h => ?_⟩
    by_cases hi : i < rs.length
    · rw [List.getElem?_append_left hi] at h
      exact b i e h
    · have : i = rs.length := by
        have := (List.getElem?_eq_some_iff.mp h).1
        simp at this; omega
      subst this
      rw [List.getElem?_append_right (Nat.le_refl _)] at h
      simp at h
      rw [← h, a]; exact p
  | no _ h => subst hf; cases h
theorem Kept.fn {f : Nat → Bool} {v : Nat → D} {n : Nat} {rs : List D} (h : Kept f (fun i d => d = v i) n rs) : rs = ((List.range n).filter f).map v := by
  induction h with
  | nil => rfl
  | yes _ hf p ih => rw [List.range_succ, List.filter_append, List.map_append, ← ih, p]; simp [hf]
  | no _ hf ih => rw [List.range_succ, List.filter_append, List.map_append, ← ih]; simp [hf]
/-- [e for .. in ..], each element by what the item is -/
theorem en_lcM {wi : TI} {g : TG} {te : TE} {vs : List Nat} {ds : List D} {v : D → D} (hw : Wk S O ρ G0 wi (· = ds)) (hz : ds.length ≤ sizeLine)
    (hb : ∀ (i : Nat) (d : D), ds[i]? = some d → ∃ ρ' js, Tg g d (wipeR ρ vs) ρ' js ∧ (∀ j ∈ js, j ∈ vs) ∧ Ev S O ρ' G0 te (· = v d)) :
    EvN S O ρ G0 (tLc wi g tYes te vs) (· = ds.map v) :=
  (en_lc (f := fun _ _ => true) (Pe := fun ds i d => ∀ e, ds[i]? = some e → d = v e) hw (fun _ e => by rw [e]; exact hz) fun es i d e hd => by
    subst e
    obtain ⟨ρ', js, a, b, c⟩ := hb i d hd
    exact ⟨ρ', js, a, b, et_yes, fun _ => c.imp fun x hx e he => by rw [hd] at he; cases he; exact hx⟩).imp fun rs ⟨es, e, k⟩ => by
    subst e
    obtain ⟨k1, k2⟩ := k.all
    apply List.ext_getElem?
    intro i
    by_cases hi : i < es.length
    · have h1 : rs[i]? = some rs[i] := List.getElem?_eq_getElem (by omega)
      have h2 : es[i]? = some es[i] := List.getElem?_eq_getElem hi
      rw [h1, List.getElem?_map, h2, k2 i _ h1 _ h2]; rfl
    · rw [List.getElem?_eq_none (by omega), List.getElem?_eq_none (by simp; omega)]
/-- [e for .. in ..], each element by its place -/
theorem en_lcI {wi : TI} {g : TG} {te : TE} {vs : List Nat} {ds : List D} {v : Nat → D} (hw : Wk S O ρ G0 wi (· = ds)) (hz : ds.length ≤ sizeLine)
    (hb : ∀ (i : Nat) (d : D), ds[i]? = some d → ∃ ρ' js, Tg g d (wipeR ρ vs) ρ' js ∧ (∀ j ∈ js, j ∈ vs) ∧ Ev S O ρ' G0 te (· = v i)) :
    EvN S O ρ G0 (tLc wi g tYes te vs) (· = (List.range ds.length).map v) :=
  (en_lc (f := fun _ _ => true) (Pe := fun ds i d => d = v i) hw (fun _ e => by rw [e]; exact hz) fun es i d e hd => by
    subst e
    obtain ⟨ρ', js, a, b, c⟩ := hb i d hd
    exact ⟨ρ', js, a, b, et_yes, fun _ => c⟩).imp fun rs ⟨es, e, k⟩ => by
    subst e
    have := k.fn
    rw [this]
    congr 1
    exact List.filter_eq_self.mpr fun _ _ => rfl
/-- [e for .. in ..], each element with a property -/
theorem en_lcP {wi : TI} {g : TG} {te : TE} {vs : List Nat} {Pw : List D → Prop} {Pe : List D → Nat → D → Prop} (hw : Wk S O ρ G0 wi Pw) (hz : ∀ ds, Pw ds → ds.length ≤ sizeLine)
    (hb : ∀ (ds : List D) (i : Nat) (d : D), Pw ds → ds[i]? = some d → ∃ ρ' js, Tg g d (wipeR ρ vs) ρ' js ∧ (∀ j ∈ js, j ∈ vs) ∧ Ev S O ρ' G0 te (Pe ds i)) :
    EvN S O ρ G0 (tLc wi g tYes te vs) (fun rs => ∃ ds, Pw ds ∧ rs.length = ds.length ∧ ∀ (i : Nat) (d : D), rs[i]? = some d → Pe ds i d) :=
  (en_lc (f := fun _ _ => true) (Pe := Pe) hw hz fun es i d e hd => by
    obtain ⟨ρ', js, a, b, c⟩ := hb es i d e hd
    exact ⟨ρ', js, a, b, et_yes, fun _ => c⟩).imp fun rs ⟨es, e, k⟩ => ⟨es, e, k.all⟩
/-- [e for .. in .. if ..] -/
theorem en_lcF {wi : TI} {g : TG} {tt : TT} {te : TE} {vs : List Nat} {ds : List D} {f : D → Bool} {v : D → D} (hw : Wk S O ρ G0 wi (· = ds)) (hz : ds.length ≤ sizeLine)
    (hb : ∀ (i : Nat) (d : D), ds[i]? = some d → ∃ ρ' js, Tg g d (wipeR ρ vs) ρ' js ∧ (∀ j ∈ js, j ∈ vs) ∧ EvT S O ρ' G0 tt (· = f d) ∧ (f d = true → Ev S O ρ' G0 te (· = v d))) :
    EvN S O ρ G0 (tLc wi g tt te vs) (· = (ds.filter f).map v) :=
  (en_lc (f := fun ds i => match ds[i]? with | some d => f d | none => false) (Pe := fun ds i d => ∀ e, ds[i]? = some e → d = v e) hw (fun _ e => by rw [e]; exact hz) fun es i d e hd => by
    subst e
    obtain ⟨ρ', js, a, b, c1, c2⟩ := hb i d hd
    refine ⟨ρ', js, a, b, ?_, fun h => ?_⟩
    · rw [hd]; exact c1
    · rw [hd] at h
      exact (c2 h).imp fun x hx e he => by rw [hd] at he; cases he; exact hx).imp fun rs ⟨es, e, k⟩ => by
    subst e
    have key : ∀ n rs, n ≤ es.length → Kept (fun i => match es[i]? with | some d => f d | none => false) (fun i d => ∀ e, es[i]? = some e → d = v e) n rs → rs = ((es.take n).filter f).map v := by
      intro n rs hn k
      induction k with
      | nil => rfl
      | @yes n rs d _ hf p ih =>
        have hlt : n < es.length := hn
        have h2 : es[n]? = some es[n] := List.getElem?_eq_getElem hlt
        rw [ih (by omega), p _ h2, List.take_add_one, h2, List.filter_append, List.map_append]
        rw [h2] at hf
        have hf' : f es[n] = true := hf
        simp [hf']
      | @no n rs _ hf ih =>
        have hlt : n < es.length := hn
        have h2 : es[n]? = some es[n] := List.getElem?_eq_getElem hlt
        rw [ih (by omega), List.take_add_one, h2, List.filter_append, List.map_append]
        rw [h2] at hf
        have hf' : f es[n] = false := hf
        simp [hf']
    have := key es.length rs (Nat.le_refl _) k
    rwa [List.take_length] at this
end
end Dt

set_option Elab.async false
set_option linter.all false
set_option maxRecDepth 100000
/-! Statements over what is known; loops; calls. -/
namespace Dt
open PySem L2

/-- what is known in the middle of a def: what it was entered with (G0, H0), what it owns, what its slots hold -/
structure Mod (S : Addr → Prop) (O : Os) (ρ : Rho) (G0 H0 : Hp) (σ : L2.St) (G H : Hp) : Prop where
  s0 : Sto S G0 H0
  g : Grow S G0 H0 G H
  sl : Sl G σ ρ
  ow : OwnOk S O G H
  nd : (O.map Prod.fst).Nodup
  nw : ∀ p ∈ O, H0 p.1 = none
section
variable {K : PySem.W.Frag} {S : Addr → Prop} {O O' : Os} {ρ ρ' : Rho} {G0 H0 G H G' H' : Hp} {σ σ' : L2.St} {D' : Ends}
theorem Mod.sta (m : Mod S O ρ G0 H0 σ G H) : Sta S O ρ σ G H := ⟨m.g.gh, m.g.st, m.sl, m.ow⟩
theorem Mod.up (m : Mod S O ρ G0 H0 σ G H) (g : Grow S G H G' H') : Mod S O ρ G0 H0 σ G' H' := ⟨m.s0, m.g.trans g m.s0, m.sl.up g.gg, m.ow.up g, m.nd, m.nw⟩
theorem Mod.slots (m : Mod S O ρ G0 H0 σ G H) (h : Sl G σ' ρ') : Mod S O ρ' G0 H0 σ' G H := ⟨m.s0, m.g, h, m.ow, m.nd, m.nw⟩
theorem Mod.set {i : Nat} {v : V} {d : D} (m : Mod S O ρ G0 H0 σ G H) (h : Da G v d) : Mod S O (ρ.set i (some d)) G0 H0 (σ.set i (some v)) G H := m.slots (m.sl.set i h)
theorem Mod.weak (m : Mod S O ρ G0 H0 σ G H) (hl : ρ'.length = ρ.length) (k : ∀ (i : Nat) (d : D), ρ'[i]? = some (some d) → ρ[i]? = some (some d)) : Mod S O ρ' G0 H0 σ G H := m.slots (m.sl.weak hl k)
theorem start_len {N : List Str} {vs : List V} (h : vs.length ≤ N.length) : (start N vs).length = N.length := by
  unfold L2.start
  simp; omega
theorem Mod.start {N : List Str} {vs : List V} {ds : List D} (e : Same G0 H0) (st : Sto S G0 H0) (h : DaA G0 vs ds) (hρ : ds.map some ++ List.replicate (N.length - ds.length) none = ρ := by rfl) : Mod S [] ρ G0 H0 (start N vs) G0 H0 := by
  refine ⟨st, .refl e st, ?_, fun p hp => absurd hp List.not_mem_nil, List.nodup_nil, fun p hp => absurd hp List.not_mem_nil⟩
  subst hρ
  have hl := h.len
  refine ⟨by simp [L2.start, hl], fun i d k => ?_⟩
  by_cases hi : i < ds.length
  · rw [List.getElem?_append_left (by simpa using hi), List.getElem?_map, List.getElem?_eq_getElem hi] at k
    have k' : ds[i] = d := Option.some.inj (Option.some.inj k)
    obtain ⟨v, a, b⟩ := h.get (List.getElem?_eq_getElem hi)
    rw [k'] at b
    refine ⟨v, ?_, b⟩
    unfold L2.start
    rw [List.getElem?_append_left (by simp; omega), List.getElem?_map, a]; rfl
  · rw [List.getElem?_append_right (by simpa using hi)] at k
    have := List.mem_of_getElem? k
    rw [List.mem_replicate] at this
    cases this.2
/-- a new list is owned -/
theorem Mod.own {l : Addr} {xs : List V} {ds : List D} (m : Mod S O ρ G0 H0 σ G H) (hl : H l = none) (g : Grow S G H G' H') (h1 : G' l = none) (h2 : H' l = some (.lst xs)) (h3 : DaA G' xs ds) : Mod S ((l, .lst ds) :: O) ρ G0 H0 σ G' H' := by
  have m' := m.up g
  refine ⟨m'.s0, m'.g, m'.sl, fun p hp => ?_, ?_, fun p hp => ?_⟩
  · rcases List.mem_cons.mp hp with rfl | hp
    · exact ⟨not_S m.g.st hl, h1, xs, h2, h3⟩
    · exact m'.ow p hp
  · rw [List.map_cons, List.nodup_cons]
    refine ⟨fun z => ?_, m.nd⟩
    obtain ⟨p, hp, e⟩ := List.mem_map.mp z
    obtain ⟨_, _, w⟩ := m.ow p hp
    obtain ⟨o, ho⟩ := w.there
    have e : p.1 = l := e
    rw [e, hl] at ho; cases ho
  · rcases List.mem_cons.mp hp with rfl | hp
    · exact m.g.back hl
    · exact m.nw p hp
theorem da_obj {v : V} {a : Addr} (h : Da G v (.obj a)) : v = .ref a := by cases h; rfl
theorem da_int {v : V} {i : Int} (h : Da G v (.int i)) : v = .int i := by cases h; rfl
/-- what is owned is frozen from here on -/
theorem Mod.freeze {l : Addr} {ds : List D} {i : Nat} (m : Mod S ((l, .lst ds) :: O) ρ G0 H0 σ G H) (hi : ρ[i]? = some (some (.obj l))) :
    ∃ G', Same G G' ∧ Mod S O (ρ.set i (some (.lst ds))) G0 H0 σ G' H := by
  obtain ⟨nS, hG, xs, hx, da⟩ := m.ow (l, .lst ds) List.mem_cons_self
  have e : Same G (upd G l (.lst xs)) := fun a o k => by
    have : a ≠ l := fun z => by subst z; rw [show G a = none from hG] at k; cases k
    rw [upd_ne this]; exact k
  have nd := m.nd
  rw [List.map_cons, List.nodup_cons] at nd
  refine ⟨_, e, m.s0, m.g.freeze m.s0 (m.nw _ List.mem_cons_self) hG hx, ?_, fun p hp => ?_, nd.2, fun p hp => m.nw p (List.mem_cons_of_mem _ hp)⟩
  · have sl := m.sl.up e
    obtain ⟨v, hv, dv⟩ := m.sl.2 i _ hi
    have ev := da_obj dv
    subst ev
    have := sl.set i (v := .ref l) (d := .lst ds) (.lst upd_same (da.up e))
    have es : σ.set i (some (.ref l)) = σ := by
      apply List.ext_getElem?
      intro k
      by_cases hk : i = k
      · subst hk
        rw [List.getElem?_set_self (List.getElem?_eq_some_iff.mp hv).1, hv]
      · rw [List.getElem?_set_ne hk]
    rw [es] at this
    exact this
  · obtain ⟨a, b, c⟩ := m.ow p (List.mem_cons_of_mem _ hp)
    have ne : p.1 ≠ l := fun z => nd.1 (List.mem_map.mpr ⟨p, hp, z⟩)
    exact ⟨a, by rw [upd_ne ne]; exact b, c.up e fun o k => k⟩
/-- what is owned is changed -/
theorem Mod.change {l : Addr} {ds ds' : List D} {k : Nat} {xs : List V} (m : Mod S O ρ G0 H0 σ G H) (hk : O[k]? = some (l, .lst ds)) (h : DaA G xs ds') : Mod S (O.set k (l, .lst ds')) ρ G0 H0 σ G (upd H l (.lst xs)) := by
  obtain ⟨nS, hG, ys, hy, _⟩ := m.ow (l, .lst ds) (List.mem_of_getElem? hk)
  have hlt := (List.getElem?_eq_some_iff.mp hk).1
  have nG : ∀ a o, G a = some o → a ≠ l := fun a o q z => by subst z; rw [show G a = none from hG] at q; cases q
  have n0 : H0 l = none := m.nw _ (List.mem_of_getElem? hk)
  have hmap : (O.set k (l, Ow.lst ds')).map Prod.fst = O.map Prod.fst := by
    apply List.ext_getElem?
    intro j
    rw [List.getElem?_map, List.getElem?_map]
    by_cases hj : k = j
    · subst hj; rw [List.getElem?_set_self hlt, hk]; rfl
    · rw [List.getElem?_set_ne hj]
  have hmem : ∀ p, p ∈ O.set k (l, Ow.lst ds') → p = (l, Ow.lst ds') ∨ (p ∈ O ∧ p.1 ≠ l) := fun p hp => by
    obtain ⟨j, hj⟩ := List.getElem?_of_mem hp
    by_cases e : k = j
    · subst e; rw [List.getElem?_set_self hlt] at hj; exact .inl (Option.some.inj hj).symm
    · rw [List.getElem?_set_ne e] at hj
      refine .inr ⟨List.mem_of_getElem? hj, fun z => e ?_⟩
      have a1 : (O.map Prod.fst)[k]? = some l := by rw [List.getElem?_map, hk]; rfl
      have a2 : (O.map Prod.fst)[j]? = some l := by rw [List.getElem?_map, hj, ← z]; rfl
      exact nd_ix m.nd a1 a2
  refine ⟨m.s0, ⟨m.g.gg, fun a o q => ?_, fun a o q z => ?_, m.g.fr, fun s hs => ?_⟩, m.sl, fun p hp => ?_, by rw [hmap]; exact m.nd, fun p hp => ?_⟩
  · rw [upd_ne (nG a o q)]; exact m.g.gh _ _ q
  · rw [upd_ne (ne_of_none q n0)]; exact m.g.hh a o q z
  · have : s ≠ l := fun z => nS (z ▸ hs)
    rw [upd_ne this]; exact m.g.st s hs
  · rcases hmem p hp with rfl | ⟨hp, ne⟩
    · exact ⟨nS, hG, xs, upd_same, h⟩
    · obtain ⟨a, b, c⟩ := m.ow p hp
      exact ⟨a, b, c.up (Same.refl G) fun o q => by rw [upd_ne ne]; exact q⟩
  · rcases hmem p hp with rfl | ⟨hp, _⟩
    · exact n0
    · exact m.nw p hp

/-! ### statements -/
variable {te ta tb : TE} {t u : TS} {P : D → Prop}
theorem s_seq (h : t { D' with nx := u D' } σ H) : tSeq t u D' σ H := h
theorem s_asg {g : TG} (m : Mod S O ρ G0 H0 σ G H) (he : Ev S O ρ G te P) (hg : ∀ d G' H', P d → Same G G' → Mod S O ρ G0 H0 σ G' H' → ∃ ρ' js, Tg g d ρ ρ' js ∧ ∀ σ', Mod S O ρ' G0 H0 σ' G' H' → D'.nx σ' H') : tAsg te g D' σ H :=
  he σ G H (Same.refl G) m.sta _ fun v d G' H' g' da p => by
    have m' := m.up g'
    obtain ⟨ρ', js, tg, k⟩ := hg d G' H' p g'.gg m'
    exact tg σ G' H' v m'.g.gh m'.sl da _ fun σ' sl _ _ => k σ' (m'.slots sl)
theorem s_set {i : Nat} (m : Mod S O ρ G0 H0 σ G H) (he : Ev S O ρ G te P) (k : ∀ d σ' G' H', P d → Same G G' → Mod S O (ρ.set i (some d)) G0 H0 σ' G' H' → D'.nx σ' H') : tAsg te (gName i) D' σ H :=
  s_asg m he fun d G' H' p e _ => ⟨_, _, tg_name, fun σ' m'' => k d σ' G' H' p e m''⟩
theorem s_setD {i : Nat} {d : D} (m : Mod S O ρ G0 H0 σ G H) (he : Ev S O ρ G te (· = d)) (k : ∀ σ' G' H', Same G G' → Mod S O (ρ.set i (some d)) G0 H0 σ' G' H' → D'.nx σ' H') : tAsg te (gName i) D' σ H :=
  s_set m he fun d σ' G' H' p e m' => by subst p; exact k σ' G' H' e m'
theorem s_asgD {g : TG} {d : D} {js : List Nat} (m : Mod S O ρ G0 H0 σ G H) (he : Ev S O ρ G te (· = d)) (hg : Tg g d ρ ρ' js) (k : ∀ σ' G' H', Same G G' → Mod S O ρ' G0 H0 σ' G' H' → D'.nx σ' H') : tAsg te g D' σ H :=
  s_asg m he fun d G' H' p e _ => by subst p; exact ⟨_, _, hg, fun σ' m'' => k σ' G' H' e m''⟩
/-- a name that holds a new list, which the def owns -/
theorem s_new {i : Nat} {Pl : List D → Prop} (m : Mod S O ρ G0 H0 σ G H) (he : EvN S O ρ G te Pl) (k : ∀ l ds σ' G' H', Pl ds → Same G G' → Mod S ((l, .lst ds) :: O) (ρ.set i (some (.obj l))) G0 H0 σ' G' H' → D'.nx σ' H') : tAsg te (gName i) D' σ H :=
  he σ G H (Same.refl G) m.sta _ fun l xs ds G' H' g hl h1 h2 h3 p => k l ds _ G' H' p g.gg ((m.own hl g h1 h2 h3).set (.obj l))
theorem s_par {i j : Nat} {ta : TA} {Pl : List D → Prop} (m : Mod S O ρ G0 H0 σ G H) (he : EvA S O ρ G ta Pl) (hp : ∀ ds, Pl ds → ∃ d e, ds = [d, e]) (k : ∀ d e σ' G' H', Pl [d, e] → Same G G' → Mod S O ((ρ.set i (some d)).set j (some e)) G0 H0 σ' G' H' → D'.nx σ' H') : tPar i j ta D' σ H :=
  he σ G H (Same.refl G) m.sta _ fun vs ds G' H' g da p => by
    obtain ⟨d, e, rfl⟩ := hp ds p
    cases da with
    | cons a b =>
      cases b with
      | cons b c =>
        cases c
        exact ⟨_, _, rfl, k d e _ G' H' p g.gg (((m.up g).set a).set b)⟩
theorem s_parD {i j : Nat} {ta : TA} {d e : D} (m : Mod S O ρ G0 H0 σ G H) (he : EvA S O ρ G ta (· = [d, e])) (k : ∀ σ' G' H', Same G G' → Mod S O ((ρ.set i (some d)).set j (some e)) G0 H0 σ' G' H' → D'.nx σ' H') : tPar i j ta D' σ H :=
  s_par m he (fun ds q => ⟨d, e, q⟩) fun x y σ' G' H' q s m' => by
    have q : [x, y] = [d, e] := q
    cases q
    exact k σ' G' H' s m'
/-- a, b = e, [..] and a, b = [..], e -/
theorem s_parN2 {i j : Nat} {Pl : List D → Prop} (m : Mod S O ρ G0 H0 σ G H) (ha : Ev S O ρ G ta P) (hb : EvN S O ρ G tb Pl)
    (k : ∀ d l ds σ' G' H', P d → Pl ds → Same G G' → Mod S ((l, .lst ds) :: O) ((ρ.set i (some d)).set j (some (.obj l))) G0 H0 σ' G' H' → D'.nx σ' H') : tPar i j (tCons ta (tCons tb tNil)) D' σ H :=
  ha σ G H (Same.refl G) m.sta _ fun v d G1 H1 g1 da p => hb σ G1 H1 g1.gg (m.up g1).sta _ fun l xs ds G' H' g hl h1 h2 h3 q =>
    ⟨v, .ref l, rfl, k d l ds _ G' H' p q (g1.gg.trans g.gg) ((((m.up g1).own hl g h1 h2 h3).set (da.up g.gg)).set (.obj l))⟩
theorem s_parN1 {i j : Nat} {Pl : List D → Prop} (m : Mod S O ρ G0 H0 σ G H) (ha : EvN S O ρ G ta Pl)
    (hb : ∀ l ds G', Same G G' → Pl ds → Ev S ((l, .lst ds) :: O) ρ G' tb P)
    (k : ∀ d l ds σ' G' H', P d → Pl ds → Same G G' → Mod S ((l, .lst ds) :: O) ((ρ.set i (some (.obj l))).set j (some d)) G0 H0 σ' G' H' → D'.nx σ' H') : tPar i j (tCons ta (tCons tb tNil)) D' σ H :=
  ha σ G H (Same.refl G) m.sta _ fun l xs ds G' H' g hl h1 h2 h3 q => by
    have m' := m.own hl g h1 h2 h3
    exact hb l ds G' g.gg q σ G' H' (Same.refl G') m'.sta _ fun v d G2 H2 g2 da p => ⟨.ref l, v, rfl, k d l ds _ G2 H2 p q (g.gg.trans g2.gg) (((m'.up g2).set (.obj l)).set da)⟩
theorem s_parNN {i j : Nat} {Pl Pm : List D → Prop} (m : Mod S O ρ G0 H0 σ G H) (ha : EvN S O ρ G ta Pl)
    (hb : ∀ l ds G', Same G G' → Pl ds → EvN S ((l, .lst ds) :: O) ρ G' tb Pm)
    (k : ∀ l l' ds es σ' G' H', Pl ds → Pm es → Same G G' → Mod S ((l', .lst es) :: (l, .lst ds) :: O) ((ρ.set i (some (.obj l))).set j (some (.obj l'))) G0 H0 σ' G' H' → D'.nx σ' H') : tPar i j (tCons ta (tCons tb tNil)) D' σ H :=
  ha σ G H (Same.refl G) m.sta _ fun l xs ds G' H' g hl h1 h2 h3 q => by
    have m' := m.own hl g h1 h2 h3
    exact hb l ds G' g.gg q σ G' H' (Same.refl G') m'.sta _ fun l2 ys es G2 H2 g2 hl2 k1 k2 k3 q2 => ⟨.ref l, .ref l2, rfl, k l l2 ds es _ G2 H2 q q2 (g.gg.trans g2.gg) (((m'.own hl2 g2 k1 k2 k3).set (.obj l)).set (.obj l2))⟩
theorem s_ret (m : Mod S O ρ G0 H0 σ G H) (he : Ev S O ρ G te P) (k : ∀ v d G' H', P d → Mod S O ρ G0 H0 σ G' H' → Da G' v d → D'.rt v H') : tRet te D' σ H :=
  he σ G H (Same.refl G) m.sta _ fun v d G' H' g da p => k v d G' H' p (m.up g) da
theorem s_if {tc : TT} {Pt : Bool → Prop} (m : Mod S O ρ G0 H0 σ G H) (hc : EvT S O ρ G tc Pt) (h1 : Pt true → ∀ G' H', Same G G' → Mod S O ρ G0 H0 σ G' H' → t D' σ H') (h2 : Pt false → ∀ G' H', Same G G' → Mod S O ρ G0 H0 σ G' H' → u D' σ H') : tIfS tc t u D' σ H :=
  hc σ G H (Same.refl G) m.sta _ fun b G' H' g p => by
    cases b with
    | true =>
      show t D' σ H'
      exact h1 p G' H' g.gg (m.up g)
    | false =>
      show u D' σ H'
      exact h2 p G' H' g.gg (m.up g)
/-- a test whose answer is known -/
theorem s_ifT {tc : TT} (m : Mod S O ρ G0 H0 σ G H) (hc : EvT S O ρ G tc (· = true)) (h1 : ∀ G' H', Same G G' → Mod S O ρ G0 H0 σ G' H' → t D' σ H') : tIfS tc t u D' σ H := s_if m hc (fun _ => h1) fun e => by cases e
theorem s_ifF {tc : TT} (m : Mod S O ρ G0 H0 σ G H) (hc : EvT S O ρ G tc (· = false)) (h1 : ∀ G' H', Same G G' → Mod S O ρ G0 H0 σ G' H' → u D' σ H') : tIfS tc t u D' σ H := s_if m hc (fun e => by cases e) fun _ => h1
theorem s_drop (m : Mod S O ρ G0 H0 σ G H) (he : Ev S O ρ G te P) (k : ∀ G' H', Same G G' → Mod S O ρ G0 H0 σ G' H' → D'.nx σ H') : tDrop te D' σ H :=
  he σ G H (Same.refl G) m.sta _ fun v d G' H' g da p => k G' H' g.gg (m.up g)
theorem ow_at {l : Addr} {ds : List D} {k : Nat} (m : Sta S O ρ σ G H) (hk : O[k]? = some (l, .lst ds)) : ∃ xs, H l = some (.lst xs) ∧ DaA G xs ds := (m.ow _ (List.mem_of_getElem? hk)).2.2
/-- xs.append(e) of an owned list -/
theorem s_app (k : Nat) {i : Nat} {l : Addr} {ds : List D} (m : Mod S O ρ G0 H0 σ G H) (hi : ρ[i]? = some (some (.obj l))) (hk : O[k]? = some (l, .lst ds)) (hz : ds.length < sizeLine) (he : Ev S O ρ G te P)
    (q : ∀ d G' H', P d → Same G G' → Mod S (O.set k (l, .lst (ds ++ [d]))) ρ G0 H0 σ G' H' → D'.nx σ H') : tDrop (tBM K "list" rAppend (tVar i) (tCons te tNil)) D' σ H := by
  obtain ⟨v, hv, dv⟩ := m.sl.2 i _ hi
  have ev := da_obj dv
  subst ev
  obtain ⟨xs, hx, _⟩ := ow_at m.sta hk
  refine ⟨.ref l, hv, .inl ⟨rfl, xs, SqL.of hx⟩, he σ G H (Same.refl G) m.sta _ fun v d G' H' g da p => ?_⟩
  have m' := m.up g
  obtain ⟨ys, hy, dy⟩ := ow_at m'.sta hk
  exact ⟨l, ys, v, rfl, rfl, hy, by rw [dy.len]; exact hz, q d G' _ p g.gg (m'.change hk (dy.app (.cons da .nil)))⟩
/-- xs.extend(e) of an owned list by a frozen one -/
theorem s_ext (k : Nat) {i : Nat} {l : Addr} {ds : List D} {Pl : List D → Prop} (m : Mod S O ρ G0 H0 σ G H) (hi : ρ[i]? = some (some (.obj l))) (hk : O[k]? = some (l, .lst ds)) (he : Ev S O ρ G te (fun d => ∃ es, d = .lst es ∧ Pl es)) (hz : ∀ es, Pl es → ds.length + es.length ≤ sizeLine)
    (q : ∀ es G' H', Pl es → Same G G' → Mod S (O.set k (l, .lst (ds ++ es))) ρ G0 H0 σ G' H' → D'.nx σ H') : tDrop (tBM K "list" rExtend (tVar i) (tCons te tNil)) D' σ H := by
  obtain ⟨v, hv, dv⟩ := m.sl.2 i _ hi
  have ev := da_obj dv
  subst ev
  obtain ⟨xs, hx, _⟩ := ow_at m.sta hk
  refine ⟨.ref l, hv, .inl ⟨rfl, xs, SqL.of hx⟩, he σ G H (Same.refl G) m.sta _ fun v d G' H' g da p => ?_⟩
  have m' := m.up g
  obtain ⟨ys, hy, dy⟩ := ow_at m'.sta hk
  obtain ⟨es, rfl, p⟩ := p
  cases da with
  | lst a b => exact ⟨l, _, ys, _, rfl, rfl, hy, m'.g.gh _ _ a, by rw [dy.len, b.len]; exact hz es p, q es G' _ p g.gg (m'.change hk (dy.app b))⟩
/-- xs[j] = e of an owned list -/
theorem s_put (k : Nat) {i : Nat} {l : Addr} {ds : List D} {j : Nat} {tj : TE} {z : Int} (m : Mod S O ρ G0 H0 σ G H) (hi : ρ[i]? = some (some (.obj l))) (hk : O[k]? = some (l, .lst ds)) (he : Ev S O ρ G te P) (hj : Ev S O ρ G tj (· = .int z)) (hz : ixN ds.length z = some j)
    (q : ∀ d G' H', P d → Same G G' → Mod S (O.set k (l, .lst (ds.set j d))) ρ G0 H0 σ G' H' → D'.nx σ H') : tAsg te (gSub (tVar i) tj rSetL) D' σ H :=
  he σ G H (Same.refl G) m.sta _ fun v d G1 H1 g1 da p => by
    have m1 := m.up g1
    obtain ⟨w, hv, dv⟩ := m1.sl.2 i _ hi
    have ev := da_obj dv
    subst ev
    refine ⟨.ref l, hv, hj σ G1 H1 g1.gg m1.sta _ fun x d' G2 H2 g2 da2 p2 => ?_⟩
    subst p2
    cases da2
    have m2 := m1.up g2
    obtain ⟨ys, hy, dy⟩ := ow_at m2.sta hk
    exact ⟨l, ys, z, j, rfl, rfl, hy, by rw [dy.len]; exact hz, q d G2 _ p (g1.gg.trans g2.gg) (m2.change hk (dy.set (da.up g2.gg) j))⟩
/-- xs[j], y = e, xs an owned list -/
theorem s_asgPut (k : Nat) {i q : Nat} {l : Addr} {ds : List D} {j : Nat} {tj : TE} {z : Int} {d1 d2 : D} (m : Mod S O ρ G0 H0 σ G H) (he : Ev S O ρ G te (· = .tup [d1, d2])) (hi : ρ[i]? = some (some (.obj l))) (hk : O[k]? = some (l, .lst ds)) (hj : Ev S O ρ G tj (· = .int z)) (hz : ixN ds.length z = some j)
    (cont : ∀ σ' G' H', Same G G' → Mod S (O.set k (l, .lst (ds.set j d1))) (ρ.set q (some d2)) G0 H0 σ' G' H' → D'.nx σ' H') : tAsg te (gTup K 2 (gCons (gSub (tVar i) tj rSetL) (gCons (gName q) gNil))) D' σ H :=
  he σ G H (Same.refl G) m.sta _ fun v d G1 H1 g1 da p => by
    subst p
    have m1 := m.up g1
    cases da with
    | tup a b =>
      cases b with
      | cons b1 b2 =>
        cases b2 with
        | cons b2 b3 =>
          cases b3
          obtain ⟨w, hv, dv⟩ := m1.sl.2 i _ hi
          have ev := da_obj dv
          subst ev
          refine ⟨_, _, rfl, SqT.of (m1.g.gh _ _ a), rfl, _, _, rfl, .ref l, hv, hj σ G1 H1 g1.gg m1.sta _ fun x d' G2 H2 g2 da2 p2 => ?_⟩
          subst p2
          cases da2
          have m2 := m1.up g2
          obtain ⟨ys, hy, dy⟩ := ow_at m2.sta hk
          exact ⟨l, ys, z, j, rfl, rfl, hy, by rw [dy.len]; exact hz, _, _, rfl, rfl, cont _ G2 _ (g1.gg.trans g2.gg) ((m2.change hk (dy.set (b1.up g2.gg) j)).set (b2.up g2.gg))⟩
/-- xs[j], len(xs) of an owned list -/
theorem ev_ixO (k : Nat) {i : Nat} {l : Addr} {ds : List D} {tj : TE} {z : Int} {d : D} (hi : ρ[i]? = some (some (.obj l))) (hk : O[k]? = some (l, .lst ds)) (hj : Ev S O ρ G0 tj (· = .int z)) (hd : atI ds z = some d) : Ev S O ρ G0 (tOp (rIxL K) (tVar i) tj) (· = d) := fun σ G H e s Q q => by
  obtain ⟨v, hv, dv⟩ := s.sl.2 i _ hi
  have ev := da_obj dv
  subst ev
  refine ⟨.ref l, hv, hj σ G H e s _ fun x d' G2 H2 g2 da2 p2 => ?_⟩
  subst p2
  cases da2
  obtain ⟨ys, hy, dy⟩ := ow_at (s.up g2) hk
  obtain ⟨v, a, b⟩ := atI_da dy hd
  exact ⟨l, ys, z, v, rfl, rfl, SqL.of hy, a, q v d G2 H2 g2 b rfl⟩
theorem ev_ixOP (k : Nat) {i : Nat} {l : Addr} {ds : List D} {tj : TE} {P Pj : D → Prop} (hi : ρ[i]? = some (some (.obj l))) (hk : O[k]? = some (l, .lst ds)) (hj : Ev S O ρ G0 tj Pj) (hd : ∀ d, Pj d → ∃ z e, d = .int z ∧ atI ds z = some e ∧ P e) : Ev S O ρ G0 (tOp (rIxL K) (tVar i) tj) P := fun σ G H e s Q q => by
  obtain ⟨v, hv, dv⟩ := s.sl.2 i _ hi
  have ev := da_obj dv
  subst ev
  refine ⟨.ref l, hv, hj σ G H e s _ fun x d' G2 H2 g2 da2 p2 => ?_⟩
  obtain ⟨z, e', rfl, h1, h2⟩ := hd d' p2
  cases da2
  obtain ⟨ys, hy, dy⟩ := ow_at (s.up g2) hk
  obtain ⟨v, a, b⟩ := atI_da dy h1
  exact ⟨l, ys, z, v, rfl, rfl, SqL.of hy, a, q v e' G2 H2 g2 b h2⟩
theorem ev_lenO (k : Nat) {i : Nat} {l : Addr} {ds : List D} (hi : ρ[i]? = some (some (.obj l))) (hk : O[k]? = some (l, .lst ds)) : Ev S O ρ G0 (tCB (fun xs H Q => ∃ p ys, xs = [.ref p] ∧ (SqL K H p ys ∨ SqT K H p ys) ∧ Q (.int ys.length) H) (tCons (tVar i) tNil)) (· = .int ds.length) := fun σ G H e s Q q => by
  obtain ⟨v, hv, dv⟩ := s.sl.2 i _ hi
  have ev := da_obj dv
  subst ev
  obtain ⟨ys, hy, dy⟩ := ow_at s hk
  exact ⟨.ref l, hv, l, ys, rfl, .inl (SqL.of hy), by rw [dy.len]; exact q _ _ G H (.refl s.e s.st) (.int _) rfl⟩
/-- list(xs) of an owned list: a new one -/
theorem en_listO (k : Nat) {i : Nat} {l : Addr} {ds : List D} (hi : ρ[i]? = some (some (.obj l))) (hk : O[k]? = some (l, .lst ds)) : EvN S O ρ G0 (tCB (fun xs H Q => ∃ p ys, xs = [.ref p] ∧ (SqL K H p ys ∨ SqT K H p ys) ∧ ∀ l, H l = none → Q (.ref l) (upd H l (.lst ys))) (tCons (tVar i) tNil)) (· = ds) := fun σ G H e s Q q => by
  obtain ⟨v, hv, dv⟩ := s.sl.2 i _ hi
  have ev := da_obj dv
  subst ev
  obtain ⟨ys, hy, dy⟩ := ow_at s hk
  refine ⟨.ref l, hv, l, ys, rfl, .inl (SqL.of hy), fun p hp => q p ys ds _ _ ((Grow.newM s.e hp).lift s.st) hp ?_ upd_same dy rfl⟩
  cases z : G p with
  | none => rfl
  | some o => rw [s.e _ _ z] at hp; cases hp
/-- tuple(xs) of an owned list -/
theorem ev_tupleO (k : Nat) {i : Nat} {l : Addr} {ds : List D} (hi : ρ[i]? = some (some (.obj l))) (hk : O[k]? = some (l, .lst ds)) : Ev S O ρ G0 (tCB (fun xs H Q => ∃ p ys, xs = [.ref p] ∧ ((SqL K H p ys ∧ ∀ l, H l = none → Q (.ref l) (upd H l (.tup ys))) ∨ (SqT K H p ys ∧ Q (.ref p) H))) (tCons (tVar i) tNil)) (· = .tup ds) := fun σ G H e s Q q => by
  obtain ⟨v, hv, dv⟩ := s.sl.2 i _ hi
  have ev := da_obj dv
  subst ev
  obtain ⟨ys, hy, dy⟩ := ow_at s hk
  exact ⟨.ref l, hv, l, ys, rfl, .inl ⟨SqL.of hy, fun p hp => q _ _ _ _ ((Grow.new s.e hp).lift s.st) (.tup upd_same (dy.up (Grow.new (o := .tup ys) s.e hp).gg)) rfl⟩⟩

/-! the same with what comes behind -/
theorem q_asg {ru : TS} {g : TG} (m : Mod S O ρ G0 H0 σ G H) (he : Ev S O ρ G te P) (hg : ∀ d G' H', P d → Same G G' → Mod S O ρ G0 H0 σ G' H' → ∃ ρ' js, Tg g d ρ ρ' js ∧ ∀ σ', Mod S O ρ' G0 H0 σ' G' H' → ru D' σ' H') : tSeq (tAsg te g) ru D' σ H := s_seq (s_asg m he hg)
theorem q_set {ru : TS} {i : Nat} (m : Mod S O ρ G0 H0 σ G H) (he : Ev S O ρ G te P) (k : ∀ d σ' G' H', P d → Same G G' → Mod S O (ρ.set i (some d)) G0 H0 σ' G' H' → ru D' σ' H') : tSeq (tAsg te (gName i)) ru D' σ H := s_seq (s_set m he k)
theorem q_setD {ru : TS} {i : Nat} {d : D} (m : Mod S O ρ G0 H0 σ G H) (he : Ev S O ρ G te (· = d)) (k : ∀ σ' G' H', Same G G' → Mod S O (ρ.set i (some d)) G0 H0 σ' G' H' → ru D' σ' H') : tSeq (tAsg te (gName i)) ru D' σ H := s_seq (s_setD m he k)
theorem q_asgD {ru : TS} {g : TG} {d : D} {js : List Nat} (m : Mod S O ρ G0 H0 σ G H) (he : Ev S O ρ G te (· = d)) (hg : Tg g d ρ ρ' js) (k : ∀ σ' G' H', Same G G' → Mod S O ρ' G0 H0 σ' G' H' → ru D' σ' H') : tSeq (tAsg te g) ru D' σ H := s_seq (s_asgD m he hg k)
theorem q_new {ru : TS} {i : Nat} {Pl : List D → Prop} (m : Mod S O ρ G0 H0 σ G H) (he : EvN S O ρ G te Pl) (k : ∀ l ds σ' G' H', Pl ds → Same G G' → Mod S ((l, .lst ds) :: O) (ρ.set i (some (.obj l))) G0 H0 σ' G' H' → ru D' σ' H') : tSeq (tAsg te (gName i)) ru D' σ H := s_seq (s_new m he k)
theorem q_par {ru : TS} {i j : Nat} {ta : TA} {Pl : List D → Prop} (m : Mod S O ρ G0 H0 σ G H) (he : EvA S O ρ G ta Pl) (hp : ∀ ds, Pl ds → ∃ d e, ds = [d, e]) (k : ∀ d e σ' G' H', Pl [d, e] → Same G G' → Mod S O ((ρ.set i (some d)).set j (some e)) G0 H0 σ' G' H' → ru D' σ' H') : tSeq (tPar i j ta) ru D' σ H := s_seq (s_par m he hp k)
theorem q_parD {ru : TS} {i j : Nat} {ta : TA} {d e : D} (m : Mod S O ρ G0 H0 σ G H) (he : EvA S O ρ G ta (· = [d, e])) (k : ∀ σ' G' H', Same G G' → Mod S O ((ρ.set i (some d)).set j (some e)) G0 H0 σ' G' H' → ru D' σ' H') : tSeq (tPar i j ta) ru D' σ H := s_seq (s_parD m he k)
theorem q_parN2 {ru : TS} {i j : Nat} {Pl : List D → Prop} (m : Mod S O ρ G0 H0 σ G H) (ha : Ev S O ρ G ta P) (hb : EvN S O ρ G tb Pl)
    (k : ∀ d l ds σ' G' H', P d → Pl ds → Same G G' → Mod S ((l, .lst ds) :: O) ((ρ.set i (some d)).set j (some (.obj l))) G0 H0 σ' G' H' → ru D' σ' H') : tSeq (tPar i j (tCons ta (tCons tb tNil))) ru D' σ H := s_seq (s_parN2 m ha hb k)
theorem q_parN1 {ru : TS} {i j : Nat} {Pl : List D → Prop} (m : Mod S O ρ G0 H0 σ G H) (ha : EvN S O ρ G ta Pl)
    (hb : ∀ l ds G', Same G G' → Pl ds → Ev S ((l, .lst ds) :: O) ρ G' tb P)
    (k : ∀ d l ds σ' G' H', P d → Pl ds → Same G G' → Mod S ((l, .lst ds) :: O) ((ρ.set i (some (.obj l))).set j (some d)) G0 H0 σ' G' H' → ru D' σ' H') : tSeq (tPar i j (tCons ta (tCons tb tNil))) ru D' σ H := s_seq (s_parN1 m ha hb k)
theorem q_parNN {ru : TS} {i j : Nat} {Pl Pm : List D → Prop} (m : Mod S O ρ G0 H0 σ G H) (ha : EvN S O ρ G ta Pl)
    (hb : ∀ l ds G', Same G G' → Pl ds → EvN S ((l, .lst ds) :: O) ρ G' tb Pm)
    (k : ∀ l l' ds es σ' G' H', Pl ds → Pm es → Same G G' → Mod S ((l', .lst es) :: (l, .lst ds) :: O) ((ρ.set i (some (.obj l))).set j (some (.obj l'))) G0 H0 σ' G' H' → ru D' σ' H') : tSeq (tPar i j (tCons ta (tCons tb tNil))) ru D' σ H := s_seq (s_parNN m ha hb k)
theorem q_drop {ru : TS} (m : Mod S O ρ G0 H0 σ G H) (he : Ev S O ρ G te P) (k : ∀ G' H', Same G G' → Mod S O ρ G0 H0 σ G' H' → ru D' σ H') : tSeq (tDrop te) ru D' σ H := s_seq (s_drop m he k)
theorem q_app {ru : TS} (k : Nat) {i : Nat} {l : Addr} {ds : List D} (m : Mod S O ρ G0 H0 σ G H) (hi : ρ[i]? = some (some (.obj l))) (hk : O[k]? = some (l, .lst ds)) (hz : ds.length < sizeLine) (he : Ev S O ρ G te P)
    (q : ∀ d G' H', P d → Same G G' → Mod S (O.set k (l, .lst (ds ++ [d]))) ρ G0 H0 σ G' H' → ru D' σ H') : tSeq (tDrop (tBM K "list" rAppend (tVar i) (tCons te tNil))) ru D' σ H := s_seq (s_app k m hi hk hz he q)
theorem q_ext {ru : TS} (k : Nat) {i : Nat} {l : Addr} {ds : List D} {Pl : List D → Prop} (m : Mod S O ρ G0 H0 σ G H) (hi : ρ[i]? = some (some (.obj l))) (hk : O[k]? = some (l, .lst ds)) (he : Ev S O ρ G te (fun d => ∃ es, d = .lst es ∧ Pl es)) (hz : ∀ es, Pl es → ds.length + es.length ≤ sizeLine)
    (q : ∀ es G' H', Pl es → Same G G' → Mod S (O.set k (l, .lst (ds ++ es))) ρ G0 H0 σ G' H' → ru D' σ H') : tSeq (tDrop (tBM K "list" rExtend (tVar i) (tCons te tNil))) ru D' σ H := s_seq (s_ext k m hi hk he hz q)
theorem q_put {ru : TS} (k : Nat) {i : Nat} {l : Addr} {ds : List D} {j : Nat} {tj : TE} {z : Int} (m : Mod S O ρ G0 H0 σ G H) (hi : ρ[i]? = some (some (.obj l))) (hk : O[k]? = some (l, .lst ds)) (he : Ev S O ρ G te P) (hj : Ev S O ρ G tj (· = .int z)) (hz : ixN ds.length z = some j)
    (q : ∀ d G' H', P d → Same G G' → Mod S (O.set k (l, .lst (ds.set j d))) ρ G0 H0 σ G' H' → ru D' σ H') : tSeq (tAsg te (gSub (tVar i) tj rSetL)) ru D' σ H := s_seq (s_put k m hi hk he hj hz q)
theorem q_asgPut {ru : TS} (k : Nat) {i q : Nat} {l : Addr} {ds : List D} {j : Nat} {tj : TE} {z : Int} {d1 d2 : D} (m : Mod S O ρ G0 H0 σ G H) (he : Ev S O ρ G te (· = .tup [d1, d2])) (hi : ρ[i]? = some (some (.obj l))) (hk : O[k]? = some (l, .lst ds)) (hj : Ev S O ρ G tj (· = .int z)) (hz : ixN ds.length z = some j)
    (cont : ∀ σ' G' H', Same G G' → Mod S (O.set k (l, .lst (ds.set j d1))) (ρ.set q (some d2)) G0 H0 σ' G' H' → ru D' σ' H') : tSeq (tAsg te (gTup K 2 (gCons (gSub (tVar i) tj rSetL) (gCons (gName q) gNil)))) ru D' σ H := s_seq (s_asgPut k m he hi hk hj hz cont)

/-! ### loops -/
/-- what a turn is to reach -/
def Nxt (S : Addr → Prop) (I : Os → Rho → Prop) (G0 H0 G : Hp) : L2.St → Hp → Prop := fun σ' H' => ∃ O' ρ' G', Same G G' ∧ I O' ρ' ∧ Mod S O' ρ' G0 H0 σ' G' H'
theorem Nxt.mk {I : Os → Rho → Prop} (e : Same G G') (h : I O' ρ') (m : Mod S O' ρ' G0 H0 σ' G' H') : Nxt S I G0 H0 G σ' H' := ⟨O', ρ', G', e, h, m⟩
theorem s_for {wi : TI} {g : TG} {Pw : List D → Prop} (I : List D → Nat → Os → Rho → Prop) (m : Mod S O ρ G0 H0 σ G H) (hw : Wk S O ρ G wi Pw) (h0 : ∀ ds, Pw ds → I ds 0 O ρ)
    (hs : ∀ (ds : List D) (i : Nat) (d : D) O1 ρ1 σ1 Gb G1 H1, Pw ds → ds[i]? = some d → I ds i O1 ρ1 → Same G Gb → Same Gb G1 → Mod S O1 ρ1 G0 H0 σ1 G1 H1 → ∃ ρ2 js, Tg g d ρ1 ρ2 js ∧
      ∀ σ2, Mod S O1 ρ2 G0 H0 σ2 G1 H1 → u { D' with nx := Nxt S (I ds (i + 1)) G0 H0 Gb, ct := Nxt S (I ds (i + 1)) G0 H0 Gb, bk := D'.nx } σ2 H1)
    (hd : ∀ ds O1 ρ1 σ1 G1 H1, Pw ds → I ds ds.length O1 ρ1 → Same G G1 → Mod S O1 ρ1 G0 H0 σ1 G1 H1 → D'.nx σ1 H1) : tFor wi g u D' σ H :=
  hw σ G H (Same.refl G) m.sta _ fun J ds G1 H1 g1 p go => by
    refine ⟨fun i n σc Hc => n = ds.length - i ∧ i ≤ ds.length ∧ Nxt S (I ds i) G0 H0 G1 σc Hc, ⟨_, rfl, Nat.zero_le _, O, ρ, G1, Same.refl _, h0 ds p, m.up g1⟩, ?_⟩
    rintro i n σc Hc ⟨rfl, hi, Oc, ρc, Gc, ec, hI, mc⟩
    by_cases hlt : i < ds.length
    · refine .inr ⟨go.go Gc Hc i ec mc.g.gh hlt, Nxt S (I ds (i + 1)) G0 H0 G1, fun σ' H' hn => ⟨ds.length - (i + 1), by omega, rfl, hlt, hn⟩, fun x H2 y => ?_⟩
      obtain ⟨d, G2, hd', g2, da⟩ := go.yld Gc Hc i x H2 ec mc.g.gh hlt y
      have m2 := mc.up (g2.lift mc.g.st)
      obtain ⟨ρ2, js, tg, k⟩ := hs ds i d Oc ρc σc G1 G2 H2 p hd' hI g1.gg (ec.trans g2.gg) m2
      exact tg σc G2 H2 x m2.g.gh m2.sl da _ fun σ' sl _ _ => k σ' (m2.slots sl)
    · have ei : i = ds.length := by omega
      subst ei
      exact .inl ⟨go.stop Gc Hc ec mc.g.gh, hd ds Oc ρc σc Gc Hc p hI (g1.gg.trans ec) mc⟩
/-- over what is told -/
theorem s_forD {wi : TI} {g : TG} {ds : List D} (I : Nat → Os → Rho → Prop) (m : Mod S O ρ G0 H0 σ G H) (hw : Wk S O ρ G wi (· = ds)) (h0 : I 0 O ρ)
    (hs : ∀ (i : Nat) (d : D) O1 ρ1 σ1 Gb G1 H1, ds[i]? = some d → I i O1 ρ1 → Same G Gb → Same Gb G1 → Mod S O1 ρ1 G0 H0 σ1 G1 H1 → ∃ ρ2 js, Tg g d ρ1 ρ2 js ∧
      ∀ σ2, Mod S O1 ρ2 G0 H0 σ2 G1 H1 → u { D' with nx := Nxt S (I (i + 1)) G0 H0 Gb, ct := Nxt S (I (i + 1)) G0 H0 Gb, bk := D'.nx } σ2 H1)
    (hd : ∀ O1 ρ1 σ1 G1 H1, I ds.length O1 ρ1 → Same G G1 → Mod S O1 ρ1 G0 H0 σ1 G1 H1 → D'.nx σ1 H1) : tFor wi g u D' σ H :=
  s_for (fun _ => I) m hw (fun _ _ => h0) (fun ds' i d O1 ρ1 σ1 Gb G1 H1 e hd' hI a b m1 => by subst e; exact hs i d O1 ρ1 σ1 Gb G1 H1 hd' hI a b m1) fun ds' O1 ρ1 σ1 G1 H1 e hI a m1 => by subst e; exact hd O1 ρ1 σ1 G1 H1 hI a m1
theorem s_while {tc : TT} (I : Nat → Os → Rho → Prop) (n0 : Nat) (m : Mod S O ρ G0 H0 σ G H) (h0 : I n0 O ρ)
    (hs : ∀ (n : Nat) O1 ρ1 σ1 G1 H1, I n O1 ρ1 → Same G G1 → Mod S O1 ρ1 G0 H0 σ1 G1 H1 → ∃ Pt, EvT S O1 ρ1 G1 tc Pt ∧
      (Pt true → ∀ G2 H2, Same G1 G2 → Mod S O1 ρ1 G0 H0 σ1 G2 H2 → u { D' with nx := Nxt S (fun O' ρ' => ∃ n', n' < n ∧ I n' O' ρ') G0 H0 G, ct := Nxt S (fun O' ρ' => ∃ n', n' < n ∧ I n' O' ρ') G0 H0 G, bk := D'.nx } σ1 H2) ∧
      (Pt false → ∀ G2 H2, Same G1 G2 → Mod S O1 ρ1 G0 H0 σ1 G2 H2 → D'.nx σ1 H2)) : tWhile tc u D' σ H := by
  refine ⟨fun n σc Hc => Nxt S (I n) G0 H0 G σc Hc, ⟨n0, O, ρ, G, Same.refl G, h0, m⟩, ?_⟩
  rintro n σc Hc ⟨Oc, ρc, Gc, ec, hI, mc⟩
  obtain ⟨Pt, et, h1, h2⟩ := hs n Oc ρc σc Gc Hc hI ec mc
  refine et σc Gc Hc (Same.refl Gc) mc.sta _ fun b G2 H2 g p => ?_
  cases b with
  | true =>
    show ∃ N, _
    refine ⟨_, fun σ' H' hn => ?_, h1 p G2 H2 g.gg (mc.up g)⟩
    obtain ⟨O', ρ', G', e', ⟨n', hn', hI'⟩, m'⟩ := hn
    exact ⟨n', hn', O', ρ', G', e', hI', m'⟩
  | false => exact h2 p G2 H2 g.gg (mc.up g)

/-- a test, nothing else behind it -/
theorem q_ifN {ru : TS} {tc : TT} {Pt : Bool → Prop} (m : Mod S O ρ G0 H0 σ G H) (hc : EvT S O ρ G tc Pt) (h1 : Pt true → ∀ G' H', Same G G' → Mod S O ρ G0 H0 σ G' H' → t { D' with nx := ru D' } σ H') (h2 : Pt false → ∀ G' H', Same G G' → Mod S O ρ G0 H0 σ G' H' → ru D' σ H') : tSeq (tIfS tc t tNext) ru D' σ H := s_seq (s_if m hc h1 h2)
theorem q_if {ru : TS} {tc : TT} {Pt : Bool → Prop} (m : Mod S O ρ G0 H0 σ G H) (hc : EvT S O ρ G tc Pt) (h1 : Pt true → ∀ G' H', Same G G' → Mod S O ρ G0 H0 σ G' H' → t { D' with nx := ru D' } σ H') (h2 : Pt false → ∀ G' H', Same G G' → Mod S O ρ G0 H0 σ G' H' → u { D' with nx := ru D' } σ H') : tSeq (tIfS tc t u) ru D' σ H := s_seq (s_if m hc h1 h2)
theorem q_ifF {ru : TS} {tc : TT} (m : Mod S O ρ G0 H0 σ G H) (hc : EvT S O ρ G tc (· = false)) (h1 : ∀ G' H', Same G G' → Mod S O ρ G0 H0 σ G' H' → ru D' σ H') : tSeq (tIfS tc t tNext) ru D' σ H := s_seq (s_ifF m hc h1)
theorem q_for {ru : TS} {wi : TI} {g : TG} {Pw : List D → Prop} (I : List D → Nat → Os → Rho → Prop) (m : Mod S O ρ G0 H0 σ G H) (hw : Wk S O ρ G wi Pw) (h0 : ∀ ds, Pw ds → I ds 0 O ρ)
    (hs : ∀ (ds : List D) (i : Nat) (d : D) O1 ρ1 σ1 Gb G1 H1, Pw ds → ds[i]? = some d → I ds i O1 ρ1 → Same G Gb → Same Gb G1 → Mod S O1 ρ1 G0 H0 σ1 G1 H1 → ∃ ρ2 js, Tg g d ρ1 ρ2 js ∧
      ∀ σ2, Mod S O1 ρ2 G0 H0 σ2 G1 H1 → u { D' with nx := Nxt S (I ds (i + 1)) G0 H0 Gb, ct := Nxt S (I ds (i + 1)) G0 H0 Gb, bk := ru D' } σ2 H1)
    (hd : ∀ ds O1 ρ1 σ1 G1 H1, Pw ds → I ds ds.length O1 ρ1 → Same G G1 → Mod S O1 ρ1 G0 H0 σ1 G1 H1 → ru D' σ1 H1) : tSeq (tFor wi g u) ru D' σ H := s_seq (s_for I m hw h0 hs hd)
theorem q_forD {ru : TS} {wi : TI} {g : TG} {ds : List D} (I : Nat → Os → Rho → Prop) (m : Mod S O ρ G0 H0 σ G H) (hw : Wk S O ρ G wi (· = ds)) (h0 : I 0 O ρ)
    (hs : ∀ (i : Nat) (d : D) O1 ρ1 σ1 Gb G1 H1, ds[i]? = some d → I i O1 ρ1 → Same G Gb → Same Gb G1 → Mod S O1 ρ1 G0 H0 σ1 G1 H1 → ∃ ρ2 js, Tg g d ρ1 ρ2 js ∧
      ∀ σ2, Mod S O1 ρ2 G0 H0 σ2 G1 H1 → u { D' with nx := Nxt S (I (i + 1)) G0 H0 Gb, ct := Nxt S (I (i + 1)) G0 H0 Gb, bk := ru D' } σ2 H1)
    (hd : ∀ O1 ρ1 σ1 G1 H1, I ds.length O1 ρ1 → Same G G1 → Mod S O1 ρ1 G0 H0 σ1 G1 H1 → ru D' σ1 H1) : tSeq (tFor wi g u) ru D' σ H := s_seq (s_forD I m hw h0 hs hd)
theorem q_while {ru : TS} {tc : TT} (I : Nat → Os → Rho → Prop) (n0 : Nat) (m : Mod S O ρ G0 H0 σ G H) (h0 : I n0 O ρ)
    (hs : ∀ (n : Nat) O1 ρ1 σ1 G1 H1, I n O1 ρ1 → Same G G1 → Mod S O1 ρ1 G0 H0 σ1 G1 H1 → ∃ Pt, EvT S O1 ρ1 G1 tc Pt ∧
      (Pt true → ∀ G2 H2, Same G1 G2 → Mod S O1 ρ1 G0 H0 σ1 G2 H2 → u { D' with nx := Nxt S (fun O' ρ' => ∃ n', n' < n ∧ I n' O' ρ') G0 H0 G, ct := Nxt S (fun O' ρ' => ∃ n', n' < n ∧ I n' O' ρ') G0 H0 G, bk := ru D' } σ1 H2) ∧
      (Pt false → ∀ G2 H2, Same G1 G2 → Mod S O1 ρ1 G0 H0 σ1 G2 H2 → ru D' σ1 H2)) : tSeq (tWhile tc u) ru D' σ H := s_seq (s_while I n0 m h0 hs)
/-- nothing more in this turn -/
theorem s_next {I : Os → Rho → Prop} {Gb : Hp} {D'' : Ends} (h : Nxt S I G0 H0 Gb σ H) : tNext { D'' with nx := Nxt S I G0 H0 Gb } σ H := h

/-! ### promises -/
/-- a def that changes nothing: arguments, what is asked ahead, what comes out -/
def spP {α : Type} (args : α → List D) (pre : α → Prop) (post : α → D → Prop) : Sp := fun vs H Q _ => ∃ G a, Same G H ∧ DaA G vs (args a) ∧ pre a ∧ ∀ v d G' H', Grow no G H G' H' → Da G' v d → post a d → Q v H'
/-- a def that draws from the store, its first argument -/
def spS {α : Type} (args : α → List D) (pre : α → Prop) (post : α → D → Prop) : Sp := fun vs H Q _ => ∃ G a s, Same G H ∧ Sto (· = s) G H ∧ DaA G vs (.obj s :: args a) ∧ pre a ∧ ∀ v d G' H', Grow (· = s) G H G' H' → Da G' v d → post a d → Q v H'
variable {α : Type} {args : α → List D} {pre : α → Prop} {post : α → D → Prop}
theorem ev_call {ta : TA} {Pl : List D → Prop} {E : XK} (h : EvA S O ρ G0 ta Pl) (hc : ∀ ds, Pl ds → ∃ a, ds = args a ∧ pre a ∧ ∀ d, post a d → P d) : Ev S O ρ G0 (tCall (spP args pre post) [] E ta) P := fun σ G H e s Q q =>
  h σ G H e s _ fun vs ds G1 H1 g1 d1 p1 => by
    obtain ⟨a, rfl, pa, pd⟩ := hc ds p1
    refine ⟨G1, a, g1.gh, by rw [List.append_nil]; exact d1, pa, fun v d G' H' g da pp => q v d G' H' (g1.trans (g.lift g1.st) s.st) da (pd d pp)⟩
theorem ev_callD {ta : TA} {E : XK} (a : α) (h : EvA S O ρ G0 ta (· = args a)) (hp : pre a) : Ev S O ρ G0 (tCall (spP args pre post) [] E ta) (post a) :=
  ev_call h fun ds e => ⟨a, e, hp, fun _ k => k⟩
theorem ev_callS {s : Addr} {ta : TA} {Pl : List D → Prop} {E : XK} (h : EvA (· = s) O ρ G0 ta Pl) (hc : ∀ ds, Pl ds → ∃ a, ds = .obj s :: args a ∧ pre a ∧ ∀ d, post a d → P d) : Ev (· = s) O ρ G0 (tCall (spS args pre post) [] E ta) P := fun σ G H e st Q q =>
  h σ G H e st _ fun vs ds G1 H1 g1 d1 p1 => by
    obtain ⟨a, rfl, pa, pd⟩ := hc ds p1
    refine ⟨G1, a, s, g1.gh, g1.st, by rw [List.append_nil]; exact d1, pa, fun v d G' H' g da pp => q v d G' H' (g1.trans g st.st) da (pd d pp)⟩
theorem ev_callSD {s : Addr} {ta : TA} {E : XK} (a : α) (h : EvA (· = s) O ρ G0 ta (· = .obj s :: args a)) (hp : pre a) : Ev (· = s) O ρ G0 (tCall (spS args pre post) [] E ta) (post a) :=
  ev_callS h fun ds e => ⟨a, e, hp, fun _ k => k⟩
end
end Dt

set_option Elab.async false
set_option linter.all false
set_option maxRecDepth 100000
/-! A def of the text, told once for all its callers. -/
namespace Dt
open PySem PySem.Spec PyProof.Rows L2

/-- built-ins that the module doesn't hide -/
structure Bl (mg : Str → Option Value) : Prop where
  len : mg "len" = none
  range : mg "range" = none
  zip : mg "zip" = none
  enumerate : mg "enumerate" = none
  all : mg "all" = none
  any : mg "any" = none
  sum : mg "sum" = none
  int : mg "int" = none
  bool : mg "bool" = none
  str : mg "str" = none
  tuple : mg "tuple" = none
  list : mg "list" = none
  abs : mg "abs" = none
  max : mg "max" = none
  min : mg "min" = none
  divmod : mg "divmod" = none
  isinstance : mg "isinstance" = none
  sorted : mg "sorted" = none
  set : mg "set" = none
  dict : mg "dict" = none
  repr : mg "repr" = none
section
variable (P : Program) (w : World) (K : PySem.W.Frag) (mg : Str → Option Value) (base : Heap)
/-- the def's text stands in the module under its name -/
def At (x : Str) (st : Stmt) : Prop := ∃ f fd, Fun K x x st f fd ∧ mg x = some (.ref f)
/-- what a caller needs -/
def Ok (x : Str) (k : Nat) (ps : List Str) (sp : Sp) : Prop := ∃ f fd, FnOk P w K mg base CX0 k f fd ps sp ∧ mg x = some (.ref f) ∧ PySem.W.keepIn K (.ref f) = true ∧ Binds K fd ps [] ∧ ∃ oc od osl, K.lookup f = some ⟨oc, od, .func fd, osl⟩
end
section
variable {P : Program} {w : World} {K : PySem.W.Frag} {mg : Str → Option Value} {base : Heap}
theorem at_mk {h : Heap} {x : Str} {st : Stmt} {f : Addr} {oc : Value} {od an : Option Addr} {osl : Array (Option Value)} {kV doc pm cdv ct : Value} (X : K.In h) (G : h.Ns mainGlobals mg) (a : PySem.W.nsIn K mainGlobals x = some (some (.ref f)))
    (l : K.lookup f = some ⟨oc, od, .func (PySem.W.fnOf x x (defArgs st) (defBody st) (defScope st) .none kV doc pm an cdv ct), osl⟩) (c : PySem.W.codeIn K cdv x = true) (k : PySem.W.keepIn K (.ref f) = true) : At K mg x st :=
  ⟨f, _, fun_mk l c k, PySem.W.mg_of X G a⟩
abbrev initR (N : List Str) (ds : List D) : Rho := ds.map some ++ List.replicate (N.length - ds.length) none
theorem Ok.imp {x : Str} {k : Nat} {ps : List Str} {sp sp' : Sp} (o : Ok P w K mg base x k ps sp) (h : ∀ vs H Q E, sp' vs H Q E → sp vs H Q E) : Ok P w K mg base x k ps sp' := by
  obtain ⟨f, fd, F, r⟩ := o
  exact ⟨f, fd, F.imp h, r⟩
theorem Ok.plain {α : Type} {args : α → List D} {pre : α → Prop} {post : α → D → Prop} {x : Str} {st : Stmt} {N ps : List Str} {k : Nat} (A : At K mg x st) (sc : FnScope N ps (defScope st))
    (hbi : ∀ (kV doc pm : Value) (an : Option Addr) (cdv ct : Value) (us : List Value), us.length = ps.length → bindArgs (PySem.W.fnOf x x (defArgs st) (defBody st) (defScope st) .none kV doc pm an cdv ct) ⟨us, []⟩ = pure (ps.zip us))
    (hl : ∀ a, (args a).length = ps.length)
    (body : ∀ (f : Addr) (cdv : Value) (A : Around) (outer : List Env) (s : Shared) (H : Hp) (vs : List V) (E : XK), Room k (A.deeper (envOfC x (defScope st) s.heap.objs.size f cdv)) → ∀ a, pre a →
      ∃ t, PSs (cxOf CX0 P w K mg base N x (defScope st) f cdv A outer s H E).nox (defBody st) t ∧ ∀ (G : Hp) (Q : VK), Mod no [] (initR N (args a)) G H (start N vs) G H →
        (∀ v d G' H', Grow no G H G' H' → Da G' v d → post a d → Q v H') → t { nx := fun _ H' => Q .non H', rt := Q } (start N vs) H) :
    Ok P w K mg base x (k + 1) ps (spP args pre post) := by
  obtain ⟨f, fd, F, hm⟩ := A
  refine ⟨f, fd, F.ok sc (fun vs H Q E h => ?_) (fun cdv A outer s H vs Q E hr h => ?_), hm, F.kp, F.binds hbi, by obtain ⟨oc, od, _, _, _, _, _, _, osl, _, l, _⟩ := F.ex; exact ⟨oc, od, osl, l⟩⟩
  · obtain ⟨G, a, _, d, _⟩ := h
    rw [d.len, hl]
  · obtain ⟨G, a, e, d, hp, q⟩ := h
    obtain ⟨t, ht, k⟩ := body f cdv A outer s H vs E hr a hp
    exact ⟨t, ht, k G Q (Mod.start e sto_no d) q⟩
theorem Ok.store {α : Type} {args : α → List D} {pre : α → Prop} {post : α → D → Prop} {x : Str} {st : Stmt} {N ps : List Str} {k : Nat} (A : At K mg x st) (sc : FnScope N ps (defScope st))
    (hbi : ∀ (kV doc pm : Value) (an : Option Addr) (cdv ct : Value) (us : List Value), us.length = ps.length → bindArgs (PySem.W.fnOf x x (defArgs st) (defBody st) (defScope st) .none kV doc pm an cdv ct) ⟨us, []⟩ = pure (ps.zip us))
    (hl : ∀ a, (args a).length + 1 = ps.length)
    (body : ∀ (f : Addr) (cdv : Value) (A : Around) (outer : List Env) (s : Shared) (H : Hp) (vs : List V) (E : XK), Room k (A.deeper (envOfC x (defScope st) s.heap.objs.size f cdv)) → ∀ a, pre a →
      ∃ t, PSs (cxOf CX0 P w K mg base N x (defScope st) f cdv A outer s H E).nox (defBody st) t ∧ ∀ (G : Hp) (Q : VK) (so : Addr), Mod (· = so) [] (initR N (.obj so :: args a)) G H (start N vs) G H →
        (∀ v d G' H', Grow (· = so) G H G' H' → Da G' v d → post a d → Q v H') → t { nx := fun _ H' => Q .non H', rt := Q } (start N vs) H) :
    Ok P w K mg base x (k + 1) ps (spS args pre post) := by
  obtain ⟨f, fd, F, hm⟩ := A
  refine ⟨f, fd, F.ok sc (fun vs H Q E h => ?_) (fun cdv A outer s H vs Q E hr h => ?_), hm, F.kp, F.binds hbi, by obtain ⟨oc, od, _, _, _, _, _, _, osl, _, l, _⟩ := F.ex; exact ⟨oc, od, osl, l⟩⟩
  · obtain ⟨G, a, s, _, _, d, _⟩ := h
    rw [d.len, List.length_cons, hl]
  · obtain ⟨G, a, so, e, st, d, hp, q⟩ := h
    obtain ⟨t, ht, k⟩ := body f cdv A outer s H vs E hr a hp
    exact ⟨t, ht, k G Q so (Mod.start e st d) q⟩
/-! f(k = v, ..), every parameter by its name -/
def tCallKw (m : Nat) (sp : Sp) (gV : List V → List V) (tk : TA) : TE := fun σ H Q => tk σ H fun zs H2 => zs.length = m ∧ sp (gV zs) H2 Q E0
theorem pe_fkw {X : Cx} {pos p : Pos} {kws : List Keyword} {tk : TA} {x : Str} {st : Stmt} {k j : Nat} {ps : List Str} {sp : Sp} (ks : List Str) (gV : List V → List V) (gU : List Value → List Value) (O : Ok X.prog X.w X.K X.mg X.base x k ps sp) (A : At X.K X.mg x st) (hr : Room j X.A) (hk : k ≤ j)
    (hb : ∀ (kV doc pm : Value) (an : Option Addr) (cdv ct : Value) (ws : List Value), ws.length = ks.length → bindArgs (PySem.W.fnOf x x (defArgs st) (defBody st) (defScope st) .none kV doc pm an cdv ct) ⟨[], ks.zip ws⟩ = pure (ps.zip (gU ws)))
    (hv : ∀ {vs : List V} {us : List Value}, Vals vs us → Vals (gV vs) (gU us)) (hkw : PK X kws tk) (hg : Gl X x := by rfl) (hall : (backToKw pos (keywordEach kws X.env)).all (·.1.isSome) = true := by rfl) (hks : (backToKw pos (keywordEach kws X.env)).filterMap (·.1) = ks := by rfl)
    (hd : (x == ("__debug__" : Str)) = false := by decide) (hpl : ((backTo pos (starEach [] X.env)).any (·.1) || (backToKw pos (keywordEach kws X.env)).any (·.1.isNone)) = false := by rfl) :
    PE X (.Call (.Name x p) [] kws pos) (tCallKw ks.length sp gV tk) := by
  obtain ⟨f, fd, F, hm, kp, _, oc, od, osl, l1⟩ := O
  obtain ⟨f', fd', F', hm'⟩ := A
  have e := hm.symm.trans hm'
  cases e
  obtain ⟨oc', od', kV, doc, pm, an, cdv, ct, osl', ef, l2, _⟩ := F'.ex
  have e2 := l1.symm.trans l2
  cases e2
  refine ⟨fun pins s σ H Q I h => ?_⟩
  refine wpAny_Call_Name_kw (ld_glob I hg hm ?_ hd)
  refine PySem.W.callWith_KW0 (h₀ := X.base) I.ok.mod.kin kp hall (thn (hkw.run pos pins s σ H _ I h) fun ws s2 ⟨zs, H2, I2, rz, l, q2⟩ => ⟨I2.kIn, ?_⟩) hpl
  rw [hks]
  have lw : ws.length = ks.length := rz.length.symm.trans l
  refine wpAny_call (codeAny_mono (F.run X.A X.stack s2 H2 ⟨[] ++ [], ks.zip ws⟩ (gU ws) (gV zs) Q E0 (hr.mono hk) I2.env0 (.of_eq (by rw [ef]; exact hb kV doc pm an cdv ct ws lw)) (hv rz) q2) fun r s' hq => ?_)
  cases r with
  | error e => exact hq.elim
  | ok fl =>
    cases fl with
    | ret u => exact I2.after hq
    | next => exact False.elim hq
    | brk => exact False.elim hq
    | cont => exact False.elim hq
theorem ev_fkw {S : Addr → Prop} {O : Os} {ρ : Rho} {G0 : Hp} {α : Type} {args : α → List D} {pre : α → Prop} {post : α → D → Prop} {m : Nat} {gV : List V → List V} {tk : TA} {ds : List D} (a : α) (h : EvA S O ρ G0 tk (· = ds)) (hz : ds.length = m) (hg : ∀ G vs, DaA G vs ds → DaA G (gV vs) (args a)) (hp : pre a) :
    Ev S O ρ G0 (tCallKw m (spP args pre post) gV tk) (post a) := fun σ G H e s Q q =>
  h σ G H e s _ fun vs es G1 H1 g1 d1 p1 => by
    subst p1
    exact ⟨by rw [d1.len]; exact hz, G1, a, g1.gh, hg G1 vs d1, hp, fun v d G' H' g da pp => q v d G' H' (g1.trans (g.lift g1.st) s.st) da pp⟩
/-! rules that name the frame: for comprehensions within comprehensions -/
section
variable {X : Cx} {K : PySem.W.Frag}
theorem ix_listK (h : X.K = K) : IxR X (rIxL K) := by subst h; exact ix_list
theorem ix_tupK (h : X.K = K) : IxR X (rIxT K) := by subst h; exact ix_tup
theorem ix_seqK (h : X.K = K) : IxR X (rIx K) := by subst h; exact ix_seq
theorem sl_listK (h : X.K = K) : SlR X (rSlL K) := by subst h; exact sl_list
theorem sl_tupAK (h : X.K = K) : SlR X (rSlA K) := by subst h; exact sl_tupA
theorem call_len_seqK (h : X.K = K) : CallR X (.builtin "len") (fun xs H Q => ∃ p ys, xs = [.ref p] ∧ (SqL K H p ys ∨ SqT K H p ys) ∧ Q (.int ys.length) H) := by subst h; exact call_len_seq
theorem call_tuple_ofK (h : X.K = K) : CallR X (.type "tuple") (fun xs H Q => ∃ p ys, xs = [.ref p] ∧ ((SqL K H p ys ∧ ∀ l, H l = none → Q (.ref l) (upd H l (.tup ys))) ∨ (SqT K H p ys ∧ Q (.ref p) H))) := by subst h; exact call_tuple_of
theorem call_list_ofK (h : X.K = K) : CallR X (.type "list") (fun xs H Q => ∃ p ys, xs = [.ref p] ∧ (SqL K H p ys ∨ SqT K H p ys) ∧ ∀ l, H l = none → Q (.ref l) (upd H l (.lst ys))) := by subst h; exact call_list_of
theorem cr_sumK (hc : X.calm = true) (h : X.K = K) : CallR X (.builtin "sum") (rSum K) := by subst h; exact cr_sum hc
theorem cr_allK (hc : X.calm = true) (h : X.K = K) : CallR X (.builtin "all") (rAll K) := by subst h; exact cr_all hc
theorem cr_anyK (hc : X.calm = true) (h : X.K = K) : CallR X (.builtin "any") (rAny K) := by subst h; exact cr_any hc
theorem pi_listK {tg l : Expr} {tl : TE} (h : X.K = K) (hl : PE X l tl) : PI X tg l (iList K tl) := by subst h; exact pi_list hl
theorem pi_tupK {tg l : Expr} {tl : TE} (h : X.K = K) (hl : PE X l tl) : PI X tg l (iTup K tl) := by subst h; exact pi_tup hl
theorem op_catAK (h : X.K = K) : OpR X (binaryOp .Add) (rCatA K) := by subst h; exact op_catA
theorem op_eqDK (hu : X.A.units + 64 < cLine) (h : X.K = K) : OpR X (compareOp .Eq) (rEqD K) := by subst h; exact op_eqD hu
theorem op_neDK (hu : X.A.units + 64 < cLine) (h : X.K = K) : OpR X (compareOp .NotEq) (rNeD K) := by subst h; exact op_neD hu
theorem hu65 {A : Around} {k : Nat} (hr : Room k A) : A.units + 65 < cLine := by have := hr.un; omega
end
variable {X : Cx} {pos p : Pos} {e : Expr} {es : List Expr} {t : TA}
/-- f(..) -/
theorem pe_f {x : Str} {k j : Nat} {ps : List Str} {sp : Sp} (O : Ok X.prog X.w X.K X.mg X.base x k ps sp) (hr : Room j X.A) (hk : k ≤ j) (ha : PA X (e :: es) t) (hg : Gl X x := by rfl)
    (hd : (x == ("__debug__" : Str)) = false := by decide) (hs : starEach (e :: es) X.env = (false, eval e X.env) :: starEach es X.env := by rfl) (hpl : (backTo pos (starEach es X.env)).any (·.1) = false := by rfl) :
    PE X (.Call (.Name x p) (e :: es) [] pos) (tCall sp [] E0 t) := by
  obtain ⟨f, fd, F, hm, kp, b, _⟩ := O
  exact pe_call F (hr.mono hk) hg hm kp b .nil pass0 ha hd hs hpl
end
end Dt

set_option Elab.async false
set_option linter.all false
set_option maxRecDepth 100000
/-! Equality of data without truths; list-or-tuple places; the law's store; the law's script. -/
namespace Dt
open PySem PySem.Spec PyProof.Rows L2

theorem call_isiK {X : Cx} {K : PySem.W.Frag} (h : X.K = K) : CallR X (.builtin "isinstance") (rIsi K) := by subst h; exact call_isi
theorem op_inDK {X : Cx} {K : PySem.W.Frag} (hu : X.A.units + 65 < cLine) (h : X.K = K) : OpR X (compareOp .In) (rInD K) := by subst h; exact op_inD hu
theorem op_notInDK {X : Cx} {K : PySem.W.Frag} (hu : X.A.units + 65 < cLine) (h : X.K = K) : OpR X (compareOp .NotIn) (rNotInD K) := by subst h; exact op_notInD hu

/-! ### data without truths within: equal as Python has it just when they are the same -/
inductive Nice : Nat → D → Prop
  | non {n : Nat} : Nice n .non
  | int {n : Nat} (i : Int) : Nice n (.int i)
  | str {n : Nat} (x : Str) : PyData.strOk x = true → Nice n (.str x)
  | tup {n : Nat} {ds : List D} : (∀ d, d ∈ ds → Nice n d) → Nice (n + 1) (.tup ds)
  | lst {n : Nat} {ds : List D} : (∀ d, d ∈ ds → Nice n d) → Nice (n + 1) (.lst ds)
theorem niceA_all (f : PyData → Bool) (F : List PyData → Bool) (h0 : F [] = true) (h1 : ∀ x xs, F (x :: xs) = (f x && F xs)) : ∀ ds : List D, (∀ d, d ∈ ds → f (toPy d) = true) → F (toPyA ds) = true
  | [], _ => h0
  | d :: ds, h => by
    show F (toPy d :: toPyA ds) = true
    rw [h1, h d List.mem_cons_self, niceA_all f F h0 h1 ds fun e he => h e (List.mem_cons_of_mem _ he)]; rfl
theorem Nice.plain {n : Nat} {d : D} (h : Nice n d) : plain d = true := by
  have key : ∀ ds : List D, (∀ d, d ∈ ds → Dt.plain d = true) → plainA ds = true := by
    intro ds
    induction ds with
    | nil => intro _; simp [plainA]
    | cons d ds ih => intro h; simp [plainA, h d List.mem_cons_self, ih fun e he => h e (List.mem_cons_of_mem _ he)]
  induction h with
  | non => simp [Dt.plain]
  | int i => simp [Dt.plain]
  | str x _ => simp [Dt.plain]
  | tup _ ih => simp [Dt.plain, key _ ih]
  | lst _ ih => simp [Dt.plain, key _ ih]
theorem plainA_of {n : Nat} : ∀ {ds : List D}, (∀ d, d ∈ ds → Nice n d) → plainA ds = true
  | [], _ => by simp [plainA]
  | d :: ds, h => by simp [plainA, (h d List.mem_cons_self).plain, plainA_of fun e he => h e (List.mem_cons_of_mem _ he)]
theorem Nice.lay {n : Nat} {d : D} (h : Nice n d) : PyData.canLay0 (toPy d) = true := by
  induction h with
  | non => simp [toPy, PyData.canLay0]
  | int i => simp [toPy, PyData.canLay0]
  | str x h => simp [toPy, PyData.canLay0, h]
  | tup _ ih => simp only [toPy, PyData.canLay0]; exact niceA_all _ PyData.canLayAll0 (by simp [PyData.canLayAll0]) (fun x xs => by simp [PyData.canLayAll0]) _ ih
  | lst _ ih => simp only [toPy, PyData.canLay0]; exact niceA_all _ PyData.canLayAll0 (by simp [PyData.canLayAll0]) (fun x xs => by simp [PyData.canLayAll0]) _ ih
theorem depA {n : Nat} : ∀ ds : List D, (∀ d, d ∈ ds → PyData.depth (toPy d) ≤ n) → PyData.depthAll (toPyA ds) ≤ n
  | [], _ => by simp [toPyA, PyData.depthAll]
  | d :: ds, h => by
    have a := h d List.mem_cons_self
    have b := depA ds fun e he => h e (List.mem_cons_of_mem _ he)
    simp only [toPyA, PyData.depthAll]
    omega
theorem Nice.dep {n : Nat} {d : D} (h : Nice n d) : PyData.depth (toPy d) ≤ n := by
  induction h with
  | non => simp [toPy, PyData.depth]
  | int i => simp [toPy, PyData.depth]
  | str x h => simp [toPy, PyData.depth]
  | tup _ ih => simp only [toPy, PyData.depth]; have := depA _ ih; omega
  | lst _ ih => simp only [toPy, PyData.depth]; have := depA _ ih; omega
theorem Nice.shaped {n : Nat} {d : D} (h : Nice n d) (hn : n ≤ 64) : SeqAt.shaped (toPy d) = true := by
  unfold SeqAt.shaped
  rw [h.lay, decide_eq_true (by have := h.dep; omega)]; rfl
theorem Nice.eqv {n : Nat} {d : D} (h : Nice n d) : ∀ {m : Nat} {e : D}, Nice m e → (PyData.eqv (toPy d) (toPy e) = true ↔ d = e) := by
  have key : ∀ ds : List D, (∀ d, d ∈ ds → ∀ {m : Nat} {e : D}, Nice m e → (PyData.eqv (toPy d) (toPy e) = true ↔ d = e)) → ∀ {m : Nat} (es : List D), (∀ e, e ∈ es → Nice m e) → (PyData.eqvAll (toPyA ds) (toPyA es) = true ↔ ds = es) := by
    intro ds
    induction ds with
    | nil =>
      intro _ m es _
      cases es with
      | nil => simp [toPyA, PyData.eqvAll]
      | cons e es => simp [toPyA, PyData.eqvAll]
    | cons d ds ih =>
      intro h m es he
      cases es with
      | nil => simp [toPyA, PyData.eqvAll]
      | cons e es =>
        simp only [toPyA, PyData.eqvAll, Bool.and_eq_true]
        rw [h d List.mem_cons_self (he e List.mem_cons_self), ih (fun d hd => h d (List.mem_cons_of_mem _ hd)) es fun e h => he e (List.mem_cons_of_mem _ h)]
        simp
  induction h with
  | non => intro m e he; cases he <;> simp [toPy, PyData.eqv]
  | int i => intro m e he; cases he <;> simp [toPy, PyData.eqv]
  | str x h => intro m e he; cases he <;> simp [toPy, PyData.eqv]
  | tup _ ih =>
    intro m e he
    cases he with
    | non => simp [toPy, PyData.eqv]
    | int _ => simp [toPy, PyData.eqv]
    | str _ _ => simp [toPy, PyData.eqv]
    | lst _ => simp [toPy, PyData.eqv]
    | tup k => simp only [toPy, PyData.eqv]; rw [key _ ih _ k]; simp
  | lst _ ih =>
    intro m e he
    cases he with
    | non => simp [toPy, PyData.eqv]
    | int _ => simp [toPy, PyData.eqv]
    | str _ _ => simp [toPy, PyData.eqv]
    | tup _ => simp [toPy, PyData.eqv]
    | lst k => simp only [toPy, PyData.eqv]; rw [key _ ih _ k]; simp
theorem bool_of {b : Bool} {p q : Prop} (h : b = true ↔ p) (k : q ↔ p) (c : Bool) (hc : c = true ↔ q) : b = c := by
  cases b <;> cases c <;> simp_all
section
variable {K : PySem.W.Frag} {P : D → Prop}
theorem o_eqN {n m : Nat} {d e : D} (hd : Nice n d) (he : Nice m e) (hn : n ≤ 64 := by decide) (hm : m ≤ 64 := by decide) {b : Bool} (hb : b = true ↔ d = e) : Op2 (rEqD K) d e (· = .bl b) := by
  have := o_eqD (K := K) hd.plain he.plain (hd.shaped hn) (he.shaped hm)
  rwa [bool_of (hd.eqv he) Iff.rfl b hb] at this
theorem o_neN {n m : Nat} {d e : D} (hd : Nice n d) (he : Nice m e) (hn : n ≤ 64 := by decide) (hm : m ≤ 64 := by decide) {b : Bool} (hb : b = true ↔ d = e) : Op2 (rNeD K) d e (· = .bl (!b)) := by
  have := o_neD (K := K) hd.plain he.plain (hd.shaped hn) (he.shaped hm)
  rwa [bool_of (hd.eqv he) Iff.rfl b hb] at this
theorem anyN {n m : Nat} {d : D} (hd : Nice n d) : ∀ {es : List D}, (∀ e, e ∈ es → Nice m e) → (((toPyA es).any fun z => PyData.eqv z (toPy d)) = true ↔ d ∈ es)
  | [], _ => by simp [toPyA]
  | e :: es, h => by
    have ih := anyN (m := m) hd (es := es) fun e he => h e (List.mem_cons_of_mem _ he)
    have := (h e List.mem_cons_self).eqv hd
    simp only [toPyA, List.any_cons, Bool.or_eq_true, List.mem_cons]
    rw [this, ih, eq_comm]
theorem o_inN {n m : Nat} {d : D} {es : List D} (hd : Nice n d) (he : ∀ e, e ∈ es → Nice m e) (hn : n ≤ 64 := by decide) (hm : m < 64 := by decide) {b : Bool} (hb : b = true ↔ d ∈ es) : Op2 (rInD K) d (.lst es) (· = .bl b) := by
  have := o_inD (K := K) hd.plain (plainA_of he) (hd.shaped hn) ((Nice.lst he).shaped hm)
  rwa [bool_of (anyN hd he) Iff.rfl b hb] at this
theorem o_notInN {n m : Nat} {d : D} {es : List D} (hd : Nice n d) (he : ∀ e, e ∈ es → Nice m e) (hn : n ≤ 64 := by decide) (hm : m < 64 := by decide) {b : Bool} (hb : b = true ↔ d ∈ es) : Op2 (rNotInD K) d (.lst es) (· = .bl (!b)) := by
  have := o_notInD (K := K) hd.plain (plainA_of he) (hd.shaped hn) ((Nice.lst he).shaped hm)
  rwa [bool_of (anyN hd he) Iff.rfl b hb] at this
theorem o_ixS {d' : D} {ds : List D} {i : Int} {d : D} (h : d' = .lst ds ∨ d' = .tup ds) (k : atI ds i = some d) : Op2 (rIx K) d' (.int i) (· = d) := fun G H x y e hx hy Q q => by
  rcases h with rfl | rfl
  · exact .inl (o_ixL k G H x y e hx hy Q q)
  · exact .inr (.inl (o_ixT k G H x y e hx hy Q q))
end

/-! ### whole numbers of which something is known -/
abbrev IP (p : Int → Prop) : D → Prop := fun d => ∃ n : Int, d = .int n ∧ p n
theorem Op2.imp {r : R2} {a b : D} {P P' : D → Prop} (h : Op2 r a b P) (k : ∀ d, P d → P' d) : Op2 r a b P' := fun G H x y e hx hy Q q => h G H x y e hx hy Q fun v d G' H' g da p => q v d G' H' g da (k d p)
theorem OpL.imp {r : List V → Hp → VK → Prop} {as : List D} {P P' : D → Prop} (h : OpL r as P) (k : ∀ d, P d → P' d) : OpL r as P' := fun G H x e hx Q q => h G H x e hx Q fun v d G' H' g da p => q v d G' H' g da (k d p)
section
variable {S : Addr → Prop} {O : Os} {ρ : Rho} {G0 : Hp} {ta tb te : TE} {p q r : Int → Prop} {c : Bool → Prop}
theorem Ev.ip {n : Int} (h : Ev S O ρ G0 te (· = .int n)) (hp : p n) : Ev S O ρ G0 te (IP p) := h.imp fun d e => ⟨n, e, hp⟩
theorem ip_int {n : Int} (hp : p n) : Ev S O ρ G0 (tC (.int n)) (IP p) := ev_int.ip hp
theorem ip_op {f : Int → Int → Int} (ha : Ev S O ρ G0 ta (IP p)) (hb : Ev S O ρ G0 tb (IP q)) (k : ∀ i j, p i → q j → r (f i j)) : Ev S O ρ G0 (tOp (rI0 fun i j => .int (f i j)) ta tb) (IP r) :=
  ev_op2 ha hb fun a b ⟨i, e1, p1⟩ ⟨j, e2, p2⟩ => by subst e1 e2; exact o_int.imp fun d e => ⟨_, e, k i j p1 p2⟩
theorem ip_opC {C : Int → Int → Prop} {f : Int → Int → Int} (ha : Ev S O ρ G0 ta (IP p)) (hb : Ev S O ρ G0 tb (IP q)) (k : ∀ i j, p i → q j → C i j ∧ r (f i j)) : Ev S O ρ G0 (tOp (rI C fun i j => .int (f i j)) ta tb) (IP r) :=
  ev_op2 ha hb fun a b ⟨i, e1, p1⟩ ⟨j, e2, p2⟩ => by subst e1 e2; exact (o_intC (k i j p1 p2).1).imp fun d e => ⟨_, e, (k i j p1 p2).2⟩
theorem ip_cmp {f : Int → Int → Bool} (ha : Ev S O ρ G0 ta (IP p)) (hb : Ev S O ρ G0 tb (IP q)) (k : ∀ i j, p i → q j → c (f i j)) : Ev S O ρ G0 (tOp (rI0 fun i j => .bl (f i j)) ta tb) (fun d => ∃ b, d = .bl b ∧ c b) :=
  ev_op2 ha hb fun a b ⟨i, e1, p1⟩ ⟨j, e2, p2⟩ => by subst e1 e2; exact o_cmp.imp fun d e => ⟨_, e, k i j p1 p2⟩
theorem ip_eq (ha : Ev S O ρ G0 ta (IP p)) (hb : Ev S O ρ G0 tb (IP q)) (k : ∀ i j, p i → q j → c (decide (i = j))) : Ev S O ρ G0 (tOp rEq ta tb) (fun d => ∃ b, d = .bl b ∧ c b) :=
  ev_op2 ha hb fun a b ⟨i, e1, p1⟩ ⟨j, e2, p2⟩ => by subst e1 e2; exact o_eqI.imp fun d e => ⟨_, e, k i j p1 p2⟩
theorem ip_ne (ha : Ev S O ρ G0 ta (IP p)) (hb : Ev S O ρ G0 tb (IP q)) (k : ∀ i j, p i → q j → c (!decide (i = j))) : Ev S O ρ G0 (tOp rNe ta tb) (fun d => ∃ b, d = .bl b ∧ c b) :=
  ev_op2 ha hb fun a b ⟨i, e1, p1⟩ ⟨j, e2, p2⟩ => by subst e1 e2; exact o_neI.imp fun d e => ⟨_, e, k i j p1 p2⟩
theorem bt_test (h : Ev S O ρ G0 te (fun d => ∃ b, d = .bl b ∧ c b)) : EvT S O ρ G0 (tTest te) c := (et_test h fun d ⟨b, e, _⟩ => ⟨b, e⟩).imp fun b ⟨b', e, k⟩ => by cases e; exact k
theorem bt_B (h : Ev S O ρ G0 te (fun d => ∃ b, d = .bl b ∧ c b)) : EvT S O ρ G0 (tB te) c := (et_B h fun d ⟨b, e, _⟩ => ⟨b, e⟩).imp fun b ⟨b', e, k⟩ => by cases e; exact k
theorem ev_intB {t : TE} (h : Ev S O ρ G0 t (fun d => ∃ b, d = .bl b ∧ c b)) (k : ∀ b, c b → p (if b then 1 else 0)) : Ev S O ρ G0 (tCB (fun xs H Q => (∃ i, xs = [.int i] ∧ Q (.int i) H) ∨ ∃ k, xs = [.bl k] ∧ Q (.int (if k then 1 else 0)) H) (tCons t tNil)) (IP p) :=
  ev_cb (ea_cons h ea_nil) fun ds ⟨d, r, e, ⟨b, e1, kb⟩, e2⟩ => by subst e e1 e2; exact l_intB.imp fun d e => ⟨_, e, k b kb⟩
end
theorem maps_of {α : Type} (f : α → D) (p : α → Prop) : ∀ {rs : List D}, (∀ (i : Nat) (d : D), rs[i]? = some d → ∃ a, d = f a ∧ p a) → ∃ as : List α, rs = as.map f ∧ ∀ a ∈ as, p a
  | [], _ => ⟨[], rfl, fun a ha => absurd ha List.not_mem_nil⟩
  | d :: rs, h => by
    obtain ⟨a, rfl, pa⟩ := h 0 d rfl
    obtain ⟨as, rfl, k⟩ := maps_of f p (rs := rs) fun i e he => h (i + 1) e (by simpa using he)
    exact ⟨a :: as, rfl, fun b hb => by
      rcases List.mem_cons.mp hb with rfl | hb
      · exact pa
      · exact k b hb⟩
section
variable {S : Addr → Prop} {O : Os} {ρ : Rho} {G0 : Hp} {te : TE}
/-- [e for .. in ..], each element of a form -/
theorem en_lcA {α : Type} (f : α → D) (p : α → Prop) {wi : TI} {g : TG} {vs : List Nat} {Pw : List D → Prop} (hw : Wk S O ρ G0 wi Pw) (hz : ∀ ds, Pw ds → ds.length ≤ sizeLine)
    (hb : ∀ (ds : List D) (i : Nat) (d : D), Pw ds → ds[i]? = some d → ∃ ρ' js, Tg g d (wipeR ρ vs) ρ' js ∧ (∀ j ∈ js, j ∈ vs) ∧ Ev S O ρ' G0 te (fun d => ∃ a, d = f a ∧ p a)) :
    EvN S O ρ G0 (tLc wi g tYes te vs) (fun rs => ∃ (ds : List D) (as : List α), Pw ds ∧ rs = as.map f ∧ as.length = ds.length ∧ ∀ a ∈ as, p a) :=
  (en_lcP (Pe := fun _ _ d => ∃ a, d = f a ∧ p a) hw hz hb).imp fun rs ⟨ds, h1, h2, h3⟩ => by
    obtain ⟨as, rfl, k⟩ := maps_of f p h3
    exact ⟨ds, as, h1, rfl, by rw [← h2, List.length_map], k⟩
/-- range(n), something known of n -/
theorem wk_rngI {p : Int → Prop} (h : Ev S O ρ G0 te (IP p)) (k : ∀ n, p n → -100000 ≤ n ∧ n ≤ 100000) : Wk S O ρ G0 (iRng1 (tCons te tNil)) (fun ds => ∃ n : Int, p n ∧ ds = rngD 0 n.toNat) :=
  (wk_rng1 (P := fun ds => ∃ n : Int, ds = [.int n] ∧ p n) ((ea_cons h ea_nil).imp fun ds ⟨d, r, e, ⟨n, e1, hp⟩, e2⟩ => by subst e e1 e2; exact ⟨n, rfl, hp⟩) fun ds ⟨n, e, hp⟩ => by
    have h1 := k n hp
    have : (2 : Int) ^ 62 = 4611686018427387904 := by decide
    exact ⟨n, e, by omega, by omega⟩).imp fun ds ⟨n, ⟨n', e, hp⟩, q⟩ => by cases e; exact ⟨n, hp, q⟩
theorem ip_pow {i : Int} {j k : Int} (h : CPow i j) (e : i ^ j.toNat = k) : Ev S O ρ G0 (tOp (rI CPow fun i j => .int (i ^ j.toNat)) (tC (.int i)) (tC (.int j))) (· = .int k) := by
  have := ev_op2D (S := S) (O := O) (ρ := ρ) (G0 := G0) (ev_int (i := i)) (ev_int (i := j)) (o_intC (C := CPow) (f := fun i j => i ^ j.toNat) h)
  rwa [e] at this
theorem cut_map {α β : Type} (f : α → β) (xs : List α) (lo hi : Option Int) : cut (xs.map f) lo hi = (cut xs lo hi).map f := by
  unfold cut
  rw [List.length_map, List.map_take, List.map_drop]
theorem cut_mem {α : Type} {xs : List α} {lo hi : Option Int} {x : α} (h : x ∈ cut xs lo hi) : x ∈ xs := List.mem_of_mem_drop (List.mem_of_mem_take h)
theorem cut_le {α : Type} (xs : List α) (lo hi : Option Int) : (cut xs lo hi).length ≤ xs.length := by
  unfold cut
  rw [List.length_take, List.length_drop]
  omega
end
/-! ### what is owned is forgotten -/
section
variable {K : PySem.W.Frag} {S : Addr → Prop} {O O' : Os} {ρ ρ' : Rho} {G0 H0 G H G' H' : Hp} {σ σ' : L2.St} {D' : Ends}
theorem Mod.forget {p : Addr × Ow} (m : Mod S (p :: O) ρ G0 H0 σ G H) : Mod S O ρ G0 H0 σ G H :=
  ⟨m.s0, m.g, m.sl, fun q hq => m.ow q (List.mem_cons_of_mem _ hq), (List.nodup_cons.mp (by have := m.nd; rwa [List.map_cons] at this)).2, fun q hq => m.nw q (List.mem_cons_of_mem _ hq)⟩

/-- a test whose two sides meet again -/
theorem q_ifJ {ru t u : TS} {tc : TT} {Pt : Bool → Prop} (J : Os → Rho → Prop) (m : Mod S O ρ G0 H0 σ G H) (hc : EvT S O ρ G tc Pt) (k : ∀ O' ρ' σ' G' H', J O' ρ' → Same G G' → Mod S O' ρ' G0 H0 σ' G' H' → ru D' σ' H')
    (h1 : (∀ σ' H', Nxt S J G0 H0 G σ' H' → ru D' σ' H') → Pt true → ∀ G' H', Same G G' → Mod S O ρ G0 H0 σ G' H' → t { D' with nx := ru D' } σ H')
    (h2 : (∀ σ' H', Nxt S J G0 H0 G σ' H' → ru D' σ' H') → Pt false → ∀ G' H', Same G G' → Mod S O ρ G0 H0 σ G' H' → u { D' with nx := ru D' } σ H') : tSeq (tIfS tc t u) ru D' σ H := by
  have K : ∀ σ' H', Nxt S J G0 H0 G σ' H' → ru D' σ' H' := fun σ' H' ⟨O', ρ', G', e, hJ, m'⟩ => k O' ρ' σ' G' H' hJ e m'
  exact s_seq (s_if m hc (h1 K) (h2 K))
/-- a new list is given back -/
theorem s_retN {te : TE} {Pl : List D → Prop} (m : Mod S O ρ G0 H0 σ G H) (he : EvN S O ρ G te Pl) (k : ∀ l xs ds G' H', Grow S G0 H0 G' H' → H0 l = none → G' l = none → H' l = some (.lst xs) → DaA G' xs ds → Pl ds → D'.rt (.ref l) H') : tRet te D' σ H :=
  he σ G H (Same.refl G) m.sta _ fun l xs ds G' H' g hl h1 h2 h3 p => k l xs ds G' H' (m.g.trans g m.s0) (m.g.back hl) h1 h2 h3 p

/-! ### the law's store -/
variable {s : Addr}
theorem Mod.store (m : Mod (· = s) O ρ G0 H0 σ G H) (a b c : Int) : Mod (· = s) O ρ G0 H0 σ G (upd H s (.lst [.int a, .int b, .int c])) := by
  have nG : G s = none := (m.g.st s rfl).1
  have nG' : ∀ x o, G x = some o → x ≠ s := fun x o q z => by subst z; rw [nG] at q; cases q
  refine ⟨m.s0, ⟨m.g.gg, fun x o q => ?_, fun x o q z => ?_, m.g.fr, fun t ht => ?_⟩, m.sl, fun p hp => ?_, m.nd, m.nw⟩
  · rw [upd_ne (nG' x o q)]; exact m.g.gh _ _ q
  · rw [upd_ne (show x ≠ s from z)]; exact m.g.hh x o q z
  · cases ht
    exact ⟨nG, a, b, c, upd_same⟩
  · obtain ⟨x, y, z⟩ := m.ow p hp
    exact ⟨x, y, z.up (Same.refl G) fun o q => by rw [upd_ne (show p.1 ≠ s from x)]; exact q⟩
theorem at3 {a b c : Int} {z : Int} (h : z = 0 ∨ z = 1 ∨ z = 2) : ∃ i : Int, atI [V.int a, V.int b, V.int c] z = some (.int i) := by
  rcases h with rfl | rfl | rfl
  · exact ⟨a, rfl⟩
  · exact ⟨b, rfl⟩
  · exact ⟨c, rfl⟩
theorem set3 {a b c i : Int} {z : Int} (h : z = 0 ∨ z = 1 ∨ z = 2) : ∃ j, ixN [V.int a, V.int b, V.int c].length z = some j ∧ ∃ a' b' c' : Int, [V.int a, V.int b, V.int c].set j (.int i) = [.int a', .int b', .int c'] := by
  rcases h with rfl | rfl | rfl
  · exact ⟨0, rfl, _, _, _, rfl⟩
  · exact ⟨1, rfl, _, _, _, rfl⟩
  · exact ⟨2, rfl, _, _, _, rfl⟩
theorem ev_ixSt {i : Nat} {z : Int} {tj : TE} (hi : ρ[i]? = some (some (.obj s))) (hj : Ev (· = s) O ρ G0 tj (· = .int z)) (hz : z = 0 ∨ z = 1 ∨ z = 2) : Ev (· = s) O ρ G0 (tOp (rIxL K) (tVar i) tj) (fun d => ∃ n : Int, d = .int n) := fun σ G H e st Q q => by
  obtain ⟨v, hv, dv⟩ := st.sl.2 i _ hi
  have ev := da_obj dv
  subst ev
  refine ⟨.ref s, hv, hj σ G H e st _ fun x d' G2 H2 g2 da2 p2 => ?_⟩
  subst p2
  cases da2
  obtain ⟨_, a, b, c, hs⟩ := g2.st s rfl
  obtain ⟨n, hn⟩ := at3 (a := a) (b := b) (c := c) hz
  exact ⟨s, _, z, .int n, rfl, rfl, SqL.of hs, hn, q _ _ G2 H2 g2 (.int n) ⟨n, rfl⟩⟩
variable {te ta tb : TE} {t u : TS} {P : D → Prop}
theorem q_putSt {ru : TS} {i : Nat} {z : Int} {tj : TE} (m : Mod (· = s) O ρ G0 H0 σ G H) (hi : ρ[i]? = some (some (.obj s))) (he : Ev (· = s) O ρ G te (fun d => ∃ n : Int, d = .int n)) (hj : Ev (· = s) O ρ G tj (· = .int z)) (hz : z = 0 ∨ z = 1 ∨ z = 2)
    (q : ∀ G' H', Same G G' → Mod (· = s) O ρ G0 H0 σ G' H' → ru D' σ H') : tSeq (tAsg te (gSub (tVar i) tj rSetL)) ru D' σ H :=
  he σ G H (Same.refl G) m.sta _ fun v d G1 H1 g1 da p => by
    obtain ⟨n, rfl⟩ := p
    cases da
    have m1 := m.up g1
    obtain ⟨w, hv, dv⟩ := m1.sl.2 i _ hi
    have ev := da_obj dv
    subst ev
    refine ⟨.ref s, hv, hj σ G1 H1 g1.gg m1.sta _ fun x d' G2 H2 g2 da2 p2 => ?_⟩
    subst p2
    cases da2
    have m2 := m1.up g2
    obtain ⟨_, a, b, c, hs⟩ := m2.g.st s rfl
    obtain ⟨j, hj, a', b', c', e⟩ := set3 (a := a) (b := b) (c := c) (i := n) hz
    exact ⟨s, _, z, j, rfl, rfl, hs, hj, by rw [e]; exact q G2 _ (g1.gg.trans g2.gg) (m2.store a' b' c')⟩
/-- store[z], y = e -/
theorem q_asgPutSt {ru : TS} {i r : Nat} {z : Int} {tj : TE} {P : D → Prop} (m : Mod (· = s) O ρ G0 H0 σ G H) (he : Ev (· = s) O ρ G te (fun d => ∃ (n : Int) (e : D), d = .tup [.int n, e] ∧ P e)) (hi : ρ[i]? = some (some (.obj s))) (hj : Ev (· = s) O ρ G tj (· = .int z)) (hz : z = 0 ∨ z = 1 ∨ z = 2)
    (cont : ∀ e σ' G' H', P e → Same G G' → Mod (· = s) O (ρ.set r (some e)) G0 H0 σ' G' H' → ru D' σ' H') : tSeq (tAsg te (gTup K 2 (gCons (gSub (tVar i) tj rSetL) (gCons (gName r) gNil)))) ru D' σ H :=
  he σ G H (Same.refl G) m.sta _ fun v d G1 H1 g1 da p => by
    obtain ⟨n, e, rfl, pe⟩ := p
    have m1 := m.up g1
    cases da with
    | tup a b =>
      cases b with
      | cons b1 b2 =>
        cases b2 with
        | cons b2 b3 =>
          cases b3
          cases b1
          obtain ⟨w, hv, dv⟩ := m1.sl.2 i _ hi
          have ev := da_obj dv
          subst ev
          refine ⟨_, _, rfl, SqT.of (m1.g.gh _ _ a), rfl, _, _, rfl, .ref s, hv, hj σ G1 H1 g1.gg m1.sta _ fun x d' G2 H2 g2 da2 p2 => ?_⟩
          subst p2
          cases da2
          have m2 := m1.up g2
          obtain ⟨_, a, b, c, hs⟩ := m2.g.st s rfl
          obtain ⟨j, hj, a', b', c', e'⟩ := set3 (a := a) (b := b) (c := c) (i := n) hz
          exact ⟨s, _, z, j, rfl, rfl, hs, hj, _, _, rfl, rfl, by rw [e']; exact cont e _ G2 _ pe (g1.gg.trans g2.gg) ((m2.store a' b' c').set (b2.up g2.gg))⟩

/-! ### the law's script -/
/-- the script's list as it stands in the frozen heap -/
def Scr (K : PySem.W.Frag) (G : Hp) (p : Addr) (ns : List Int) : Prop := SqL K G p (ns.map V.int)
theorem scr_to {p : Addr} {xs : List V} (h : SqL K G p xs) (e : Same G H) : SqL K H p xs := by
  rcases h with (h | ⟨o, h⟩) | h
  · exact .inl (.inl (e _ _ h))
  · exact .inl (.inr ⟨o, e _ _ h⟩)
  · exact .inr h
theorem Scr.up {p : Addr} {ns : List Int} (h : Scr K G p ns) (e : Same G H) : SqL K H p (ns.map V.int) := scr_to h e
theorem Scr.mono {p : Addr} {ns : List Int} (h : Scr K G p ns) (e : Same G H) : Scr K H p ns := scr_to h e
theorem scr_mk {p : Addr} {ns : List Int} (h : SqL K H p (ns.map V.int)) : ∃ G, Same G H ∧ Scr K G p ns := by
  rcases h with h | h
  · refine ⟨fun a => if a = p then H a else none, ?_, .inl ?_⟩
    · intro a o k
      have k : (if a = p then H a else none) = some o := k
      by_cases e : a = p
      · rwa [if_pos e] at k
      · rw [if_neg e] at k; cases k
    · have z : (fun a => if a = p then H a else none) p = H p := if_pos rfl
      rcases h with h | ⟨o, h⟩
      · exact .inl (z.trans h)
      · exact .inr ⟨o, z.trans h⟩
  · exact ⟨fun _ => none, (fun a o k => by cases k), Or.inr h⟩
theorem ev_lenScr {p : Addr} {ns : List Int} {i : Nat} (hs : Scr K G0 p ns) (hi : ρ[i]? = some (some (.obj p))) : Ev S O ρ G0 (tCB (fun xs H Q => ∃ p ys, xs = [.ref p] ∧ (SqL K H p ys ∨ SqT K H p ys) ∧ Q (.int ys.length) H) (tCons (tVar i) tNil)) (· = .int ns.length) := fun σ G H e s Q q => by
  obtain ⟨v, hv, dv⟩ := s.sl.2 i _ hi
  have ev := da_obj dv
  subst ev
  exact ⟨.ref p, hv, p, _, rfl, .inl (hs.up (e.trans s.e)), by rw [List.length_map]; exact q _ _ G H (.refl s.e s.st) (.int _) rfl⟩
theorem ev_ixScr {p : Addr} {ns : List Int} {i k : Nat} {tj : TE} (hs : Scr K G0 p ns) (hi : ρ[i]? = some (some (.obj p))) (hj : Ev S O ρ G0 tj (· = .int (k : Int))) (hk : k < ns.length) : Ev S O ρ G0 (tOp (rIxL K) (tVar i) tj) (fun d => ∃ n : Int, d = .int n) := fun σ G H e s Q q => by
  obtain ⟨v, hv, dv⟩ := s.sl.2 i _ hi
  have ev := da_obj dv
  subst ev
  refine ⟨.ref p, hv, hj σ G H e s _ fun x d' G2 H2 g2 da2 p2 => ?_⟩
  subst p2
  cases da2
  have hs' := hs.up (e.trans (g2.gg.trans g2.gh))
  refine ⟨p, _, (k : Int), .int ns[k], rfl, rfl, hs', ?_, q _ _ G2 H2 g2 (.int _) ⟨_, rfl⟩⟩
  have : ixN (ns.map V.int).length (k : Int) = some k := by
    unfold ixN
    rw [if_pos (by omega), if_pos (by simp; omega)]
    simp
  unfold atI
  rw [this]
  show (ns.map V.int)[k]? = _
  rw [List.getElem?_map, List.getElem?_eq_getElem hk]; rfl
/-- opened(script, k): a new store -/
def spO (K : PySem.W.Frag) : Sp := fun vs H Q _ => ∃ (G : Hp) (p : Addr) (ns : List Int) (k : Nat), Same G H ∧ DaA G vs [.obj p, .int (k : Int)] ∧ Scr K G p ns ∧ k ≤ 1000 ∧
  ∀ (s : Addr) (G' H' : Hp) (a b c : Int), Grow no G H G' H' → H s = none → G' s = none → H' s = some (.lst [.int a, .int b, .int c]) → Q (.ref s) H'
theorem Ok.opened {P : Program} {w : World} {mg : Str → Option Value} {base : Heap} {x : Str} {st : Stmt} {N ps : List Str} {k : Nat} (A : At K mg x st) (sc : FnScope N ps (defScope st))
    (hbi : ∀ (kV doc pm : Value) (an : Option Addr) (cdv ct : Value) (us : List Value), us.length = ps.length → bindArgs (PySem.W.fnOf x x (defArgs st) (defBody st) (defScope st) .none kV doc pm an cdv ct) ⟨us, []⟩ = pure (ps.zip us))
    (hl : ps.length = 2)
    (body : ∀ (f : Addr) (cdv : Value) (A : Around) (outer : List Env) (s : Shared) (H : Hp) (vs : List V) (E : XK), Room k (A.deeper (envOfC x (defScope st) s.heap.objs.size f cdv)) → ∀ (p : Addr) (ns : List Int) (n : Nat), n ≤ 1000 →
      ∃ t, PSs (cxOf CX0 P w K mg base N x (defScope st) f cdv A outer s H E).nox (defBody st) t ∧ ∀ (G : Hp) (Q : VK), Scr K G p ns → Mod no [] (initR N [.obj p, .int (n : Int)]) G H (start N vs) G H →
        (∀ (s : Addr) (G' H' : Hp) (a b c : Int), Grow no G H G' H' → H s = none → G' s = none → H' s = some (.lst [.int a, .int b, .int c]) → Q (.ref s) H') → t { nx := fun _ H' => Q .non H', rt := Q } (start N vs) H) :
    Ok P w K mg base x (k + 1) ps (spO K) := by
  obtain ⟨f, fd, F, hm⟩ := A
  refine ⟨f, fd, F.ok sc (fun vs H Q E h => ?_) (fun cdv A outer s H vs Q E hr h => ?_), hm, F.kp, F.binds hbi, by obtain ⟨oc, od, _, _, _, _, _, _, osl, _, l, _⟩ := F.ex; exact ⟨oc, od, osl, l⟩⟩
  · obtain ⟨G, p, ns, n, _, d, _⟩ := h
    rw [d.len, hl]; rfl
  · obtain ⟨G, p, ns, n, e, d, hs, hn, q⟩ := h
    obtain ⟨t, ht, k⟩ := body f cdv A outer s H vs E hr p ns n hn
    exact ⟨t, ht, k G Q hs (Mod.start e sto_no d) q⟩
/-- law(script): True, whatever the script -/
def spLaw (K : PySem.W.Frag) : Sp := fun vs H Q _ => ∃ (p : Addr) (ns : List Int), vs = [.ref p] ∧ SqL K H p (ns.map V.int) ∧ ns.length ≤ 63 ∧ ∀ H', Q (.bl true) H'
theorem Ok.law {P : Program} {w : World} {mg : Str → Option Value} {base : Heap} {x : Str} {st : Stmt} {N ps : List Str} {k : Nat} (A : At K mg x st) (sc : FnScope N ps (defScope st))
    (hbi : ∀ (kV doc pm : Value) (an : Option Addr) (cdv ct : Value) (us : List Value), us.length = ps.length → bindArgs (PySem.W.fnOf x x (defArgs st) (defBody st) (defScope st) .none kV doc pm an cdv ct) ⟨us, []⟩ = pure (ps.zip us))
    (hl : ps.length = 1)
    (body : ∀ (f : Addr) (cdv : Value) (A : Around) (outer : List Env) (s : Shared) (H : Hp) (vs : List V) (E : XK), Room k (A.deeper (envOfC x (defScope st) s.heap.objs.size f cdv)) → ∀ (p : Addr) (ns : List Int), ns.length ≤ 63 →
      ∃ t, PSs (cxOf CX0 P w K mg base N x (defScope st) f cdv A outer s H E).nox (defBody st) t ∧ ∀ (G : Hp) (Q : VK), Scr K G p ns → Mod no [] (initR N [.obj p]) G H (start N vs) G H →
        (∀ H', Q (.bl true) H') → t { nx := fun _ H' => Q .non H', rt := Q } (start N vs) H) :
    Ok P w K mg base x (k + 1) ps (spLaw K) := by
  obtain ⟨f, fd, F, hm⟩ := A
  refine ⟨f, fd, F.ok sc (fun vs H Q E h => ?_) (fun cdv A outer s H vs Q E hr h => ?_), hm, F.kp, F.binds hbi, by obtain ⟨oc, od, _, _, _, _, _, _, osl, _, l, _⟩ := F.ex; exact ⟨oc, od, osl, l⟩⟩
  · obtain ⟨p, ns, rfl, _⟩ := h
    rw [hl]; rfl
  · obtain ⟨p, ns, rfl, hS, h63, q⟩ := h
    obtain ⟨t, ht, k⟩ := body f cdv A outer s H _ E hr p ns h63
    obtain ⟨G, e, hs⟩ := scr_mk hS
    exact ⟨t, ht, k G Q hs (Mod.start e sto_no (.cons (.obj p) .nil)) q⟩
theorem law_F {P : Program} {w : World} {mg : Str → Option Value} {fa : Addr} {st : Stmt} {x y : Str} {k : Nat} {sp : Sp} (A : At K mg x st) (hfa : mg x = some (.ref fa))
    (hb : ∀ (kV doc pm : Value) (an : Option Addr) (cdv ct : Value) (u : Value), bindArgs (PySem.W.fnOf x x (defArgs st) (defBody st) (defScope st) .none kV doc pm an cdv ct) ⟨[u], []⟩ = pure [(y, u)])
    (hO : ∀ base : Heap, Ok P w K mg base x k [y] sp) :
    ∃ fd : FuncData, (∀ (s : Shared) (u : Value), BindsTo s fd ⟨[u], []⟩ [(y, u)]) ∧ ∀ base : Heap, K.In base → base.Ns mainGlobals mg → FnOk P w K mg base CX0 k fa fd [y] sp := by
  obtain ⟨f, fd, F, hm⟩ := A
  have e := hfa.symm.trans hm
  cases e
  obtain ⟨oc, od, kV, doc, pm, an, cdv, ct, osl, ef, l, _⟩ := F.ex
  refine ⟨fd, fun s u => .of_eq (by rw [ef]; exact hb kV doc pm an cdv ct u), fun base _ _ => ?_⟩
  obtain ⟨f', fd', FO, hm', _, _, oc', od', osl', l'⟩ := hO base
  have e1 := hm.symm.trans hm'
  cases e1
  have e2 := l.symm.trans l'
  cases e2
  exact FO
/-- a fresh store is drawn from, then let go -/
theorem Grow.closed {G1 H1 G2 H2 : Hp} {a b c : Int} (g1 : Grow no G H G1 H1) (h : H s = none) (h1 : G1 s = none) (h2 : H1 s = some (.lst [.int a, .int b, .int c])) (g2 : Grow (· = s) G1 H1 G2 H2) : Grow no G H G2 H2 where
  gg := g1.gg.trans g2.gg
  gh := g2.gh
  hh := fun x o k _ => g2.hh x o (g1.hh x o k id) (show x ≠ s from ne_of_none k h)
  fr := fun x o k z => g2.fr x o (g1.hh x o k id) (g1.fr x o k z)
  st := sto_no
theorem ev_opened {α : Type} {args : α → List D} {pre : α → Prop} {post : α → D → Prop} {p : Addr} {ns : List Int} {k : Nat} {ta : TA} {E E' : XK} (al : α) (hs : Scr K G0 p ns) (ha : EvA no O ρ G0 ta (· = [.obj p, .int (k : Int)])) (hk : k ≤ 1000) (hp : pre al) (hz : args al = []) :
    Ev no O ρ G0 (tCall (spS args pre post) [] E (tCons (tCall (spO K) [] E' ta) tNil)) (post al) := fun σ G H e st Q q =>
  ha σ G H e st _ fun vs ds G1 H1 g1 d1 p1 => by
    subst p1
    refine ⟨G1, p, ns, k, g1.gh, by rw [List.append_nil]; exact d1, hs.mono (e.trans g1.gg), hk, fun s G2 H2 a b c g2 n1 n2 n3 => ?_⟩
    have nS : (· = s) s := rfl
    refine ⟨G2, al, s, g2.gh, fun t ht => ?_, ?_, hp, fun v d G' H' g3 da pd => q v d G' H' (g1.trans (Grow.closed g2 n1 n2 n3 g3) st.st) da pd⟩
    · cases ht; exact ⟨n2, a, b, c, n3⟩
    · rw [hz, List.append_nil]; exact .cons (.obj s) .nil
end
end Dt

set_option autoImplicit false
/-! Spans in plain Lean: what the program reckons, and that it is right. -/
namespace SpM

def g (r : List Int) (q : Nat) : Int := r.getD q 0
def lessF (a b : List Int) (t : Int) : List Int := List.zipWith (fun x y => x - t * y) a b
def byRests (r m : List Int) (p : Nat) : List Int := r.take (p + 1) ++ List.zipWith (fun x y => x % y) (r.drop (p + 1)) (m.drop (p + 1))
abbrev Rg := List Int × List Int
def metF : Nat → List Int → Nat → List Int → List Int → List Int → List Int → Rg × Rg
  | 0, _, _, o, i, t, y => ((o, i), (t, y))
  | f + 1, m, p, o, i, t, y => if g t p = 0 then ((o, i), (t, y)) else metF f m p t y (byRests (lessF o t (g o p / g t p)) m p) (lessF i y (g o p / g t p))
def met (m : List Int) (p : Nat) (r w : Rg) : Rg × Rg := metF ((g w.1 p).toNat + 1) m p r.1 r.2 w.1 w.2
def absR (m : List Int) : Nat → List Rg → Rg → List Rg × Rg
  | _, [], w => ([], w)
  | p, r :: rs, w => ((met m p r w).1 :: (absR m (p + 1) rs (met m p r w).2).1, (absR m (p + 1) rs (met m p r w).2).2)
def row0 (m : List Int) (k : Nat) (j : Nat) (v : List Int) : Rg := (List.zipWith (fun x y => x % y) v m, (List.range k).map fun a => if a = j then 1 else 0)
def rung0 (m : List Int) (k : Nat) (p : Nat) : Rg := ((List.range m.length).map (fun a => g m a * if a = p then 1 else 0), List.replicate k 0)
def rungs0 (m : List Int) (k : Nat) : List Rg := (List.range m.length).map (rung0 m k)
def laidV (m : List Int) (k : Nat) : Nat → List (List Int) → List Rg → List Rg
  | _, [], rs => rs
  | j, v :: vs, rs => laidV m k (j + 1) vs (absR m 0 rs (row0 m k j v)).1
def subR (r s : Rg) (t : Int) : Rg := (lessF r.1 s.1 t, lessF r.2 s.2 t)
def redOne : Nat → Rg → List Rg → Rg
  | _, r, [] => r
  | l, r, s :: rs => redOne (l + 1) (subR r s (g r.1 l / g s.1 l)) rs
def redAll : Nat → List Rg → List Rg
  | _, [] => []
  | p, r :: rs => redOne (p + 1) r rs :: redAll (p + 1) rs
def laid (m : List Int) (vs : List (List Int)) : List Rg := redAll 0 (laidV m vs.length 0 vs (rungs0 m vs.length))
def gdF : Nat → List Rg → Rg → Rg
  | _, [], s => s
  | p, r :: rs, s => gdF (p + 1) rs (lessF s.1 r.1 (g s.1 p / g r.1 p), lessF s.2 r.2 (-(g s.1 p / g r.1 p)))
def goneDown (k : Nat) (rs : List Rg) (v : List Int) : Rg := gdF 0 rs (v, List.replicate k 0)
def lcmF (f n : Int) : Int := f / (Int.gcd f n : Int) * n
def common (ns : List Int) : Int := ns.foldl lcmF 1
def sumsF (m : List Int) (vs : List (List Int)) (v : List Int) : Option (List Int) :=
  if (goneDown vs.length (laid m vs) v).1.any (fun x => x != 0) then none else some ((goneDown vs.length (laid m vs) v).2.map (· % common m))

/-! ### entries -/
theorem g_nil (q : Nat) : g [] q = 0 := rfl
theorem g_zero (x : Int) (r : List Int) : g (x :: r) 0 = x := rfl
theorem g_succ (x : Int) (r : List Int) (q : Nat) : g (x :: r) (q + 1) = g r q := rfl
theorem g_big : ∀ (r : List Int) (q : Nat), r.length ≤ q → g r q = 0
  | [], _, _ => rfl
  | _ :: r, 0, h => by simp at h
  | _ :: r, q + 1, h => g_big r q (by simp at h; omega)
theorem g_mem : ∀ (r : List Int) (q : Nat), q < r.length → g r q ∈ r
  | [], _, h => by simp at h
  | x :: r, 0, _ => List.mem_cons_self
  | x :: r, q + 1, h => List.mem_cons_of_mem _ (g_mem r q (by simp at h; omega))
theorem g_get {r : List Int} {q : Nat} {x : Int} (h : r[q]? = some x) : g r q = x := by
  unfold g
  rw [List.getD_eq_getElem?_getD, h]; rfl
theorem get_g {r : List Int} {q : Nat} (h : q < r.length) : r[q]? = some (g r q) := by
  unfold g
  rw [List.getD_eq_getElem?_getD, List.getElem?_eq_getElem h]; rfl
theorem mem_g {r : List Int} {x : Int} (h : x ∈ r) : ∃ q, q < r.length ∧ g r q = x := by
  obtain ⟨q, hq⟩ := List.getElem?_of_mem h
  exact ⟨q, (List.getElem?_eq_some_iff.mp hq).1, g_get hq⟩
theorem ext_g {r s : List Int} (hl : r.length = s.length) (h : ∀ q, q < r.length → g r q = g s q) : r = s := by
  apply List.ext_getElem?
  intro i
  by_cases hi : i < r.length
  · rw [get_g hi, get_g (by omega), h i hi]
  · rw [List.getElem?_eq_none (by omega), List.getElem?_eq_none (by omega)]
theorem g_zip (f : Int → Int → Int) (h0 : f 0 0 = 0) : ∀ (a b : List Int) (q : Nat), a.length = b.length → g (List.zipWith f a b) q = f (g a q) (g b q)
  | [], [], q, _ => by simp [g_nil, h0]
  | [], _ :: _, _, h => by simp at h
  | _ :: _, [], _, h => by simp at h
  | x :: a, y :: b, 0, _ => rfl
  | x :: a, y :: b, q + 1, h => by
    show g (List.zipWith f a b) q = f (g a q) (g b q)
    exact g_zip f h0 a b q (by simpa using h)
theorem less_len {a b : List Int} {t : Int} (h : a.length = b.length) : (lessF a b t).length = a.length := by simp [lessF, h]
theorem g_less {a b : List Int} (t : Int) (q : Nat) (h : a.length = b.length) : g (lessF a b t) q = g a q - t * g b q := by
  unfold lessF
  rw [g_zip (fun x y => x - t * y) (by simp) a b q h]
theorem g_take (r : List Int) (n q : Nat) : g (r.take n) q = if q < n then g r q else 0 := by
  unfold g
  rw [List.getD_eq_getElem?_getD, List.getD_eq_getElem?_getD, List.getElem?_take]
  split <;> rfl
theorem g_drop (r : List Int) (n q : Nat) : g (r.drop n) q = g r (n + q) := by
  unfold g
  rw [List.getD_eq_getElem?_getD, List.getD_eq_getElem?_getD, List.getElem?_drop]
theorem g_app (a b : List Int) (q : Nat) : g (a ++ b) q = if q < a.length then g a q else g b (q - a.length) := by
  unfold g
  rw [List.getD_eq_getElem?_getD, List.getD_eq_getElem?_getD, List.getD_eq_getElem?_getD]
  by_cases h : q < a.length
  · rw [if_pos h, List.getElem?_append_left h]
  · rw [if_neg h, List.getElem?_append_right (by omega)]
theorem rests_len {r m : List Int} {p : Nat} (h : r.length = m.length) : (byRests r m p).length = r.length := by
  unfold byRests
  simp [h]; omega
theorem g_rests {r m : List Int} {p : Nat} (q : Nat) (h : r.length = m.length) : g (byRests r m p) q = if q ≤ p then g r q else g r q % g m q := by
  unfold byRests
  rw [g_app]
  by_cases hq : q < (r.take (p + 1)).length
  · rw [if_pos hq, g_take]
    have : q < p + 1 := by simp at hq; omega
    rw [if_pos this, if_pos (by omega)]
  · rw [if_neg hq]
    by_cases hp : q ≤ p
    · have hr : r.length ≤ q := by simp at hq; omega
      rw [if_pos hp, g_big r q hr, g_big _ _ (by simp; omega)]
    · rw [if_neg hp, g_zip (fun x y => x % y) (by simp) _ _ _ (by simp [h])]
      by_cases hr : r.length ≤ p + 1
      · rw [g_drop, g_drop, g_big r _ (by omega), g_big r q (by omega), g_big m _ (by omega)]; simp
      · have : (r.take (p + 1)).length = p + 1 := by simp; omega
        rw [this, g_drop, g_drop, show p + 1 + (q - (p + 1)) = q by omega]

/-! ### sizes -/
def Bd (b : Nat) (xs : List Int) : Prop := ∀ x ∈ xs, x.natAbs < 2 ^ b
def Sm (xs : List Int) : Prop := ∀ x ∈ xs, 0 ≤ x ∧ x < 100
theorem Bd.mono {a b : Nat} {xs : List Int} (h : Bd a xs) (k : a ≤ b) : Bd b xs := fun x hx => Nat.lt_of_lt_of_le (h x hx) (Nat.pow_le_pow_right (by decide) k)
theorem Bd.at {b : Nat} {xs : List Int} (h : Bd b xs) (q : Nat) : (g xs q).natAbs < 2 ^ b := by
  by_cases hq : q < xs.length
  · exact h _ (g_mem xs q hq)
  · rw [g_big xs q (by omega)]; exact Nat.two_pow_pos b
theorem Sm.at {xs : List Int} (h : Sm xs) (q : Nat) : 0 ≤ g xs q ∧ g xs q < 100 := by
  by_cases hq : q < xs.length
  · exact h _ (g_mem xs q hq)
  · rw [g_big xs q (by omega)]; decide
theorem Sm.bd {xs : List Int} (h : Sm xs) : Bd 7 xs := fun x hx => by have := h x hx; show x.natAbs < 128; omega
theorem bd_of {b : Nat} {xs : List Int} (h : ∀ q, q < xs.length → (g xs q).natAbs < 2 ^ b) : Bd b xs := fun x hx => by
  obtain ⟨q, hq, e⟩ := mem_g hx
  rw [← e]; exact h q hq
theorem sm_of {xs : List Int} (h : ∀ q, q < xs.length → 0 ≤ g xs q ∧ g xs q < 100) : Sm xs := fun x hx => by
  obtain ⟨q, hq, e⟩ := mem_g hx
  rw [← e]; exact h q hq
theorem bd_less {a b c : Nat} {xs ys : List Int} {t : Int} (hx : Bd a xs) (hy : Bd b ys) (ht : t.natAbs < 2 ^ c) (hl : xs.length = ys.length) : Bd (max a (b + c) + 1) (lessF xs ys t) :=
  bd_of fun q _ => by
    rw [g_less t q hl]
    have h1 := hx.at q
    have h2 := hy.at q
    have h3 : (t * g ys q).natAbs < 2 ^ (b + c) := by
      rw [Int.natAbs_mul, Nat.pow_add, Nat.mul_comm (2 ^ b)]
      exact Nat.mul_lt_mul'' ht h2
    have h4 : 2 ^ a ≤ 2 ^ max a (b + c) := Nat.pow_le_pow_right (by decide) (Nat.le_max_left _ _)
    have h5 : 2 ^ (b + c) ≤ 2 ^ max a (b + c) := Nat.pow_le_pow_right (by decide) (Nat.le_max_right _ _)
    rw [Nat.pow_succ]
    omega

/-! ### the greatest divisor of two rows -/
/-- what met asks of its rows -/
structure Two (m : List Int) (p : Nat) (o t : List Int) : Prop where
  pl : p < m.length
  mp : ∀ q, q < m.length → 0 < g m q ∧ g m q < 100
  lo : o.length = m.length
  lt : t.length = m.length
  so : Sm o
  st : Sm t
  zo : ∀ q, q < p → g o q = 0
  zt : ∀ q, q < p → g t q = 0
  po : 0 < g o p
theorem Two.next {m : List Int} {p : Nat} {o t : List Int} (h : Two m p o t) (ht : g t p ≠ 0) :
    Two m p t (byRests (lessF o t (g o p / g t p)) m p) ∧ g (byRests (lessF o t (g o p / g t p)) m p) p = g o p % g t p ∧ (g o p % g t p).toNat < (g t p).toNat := by
  have hl : o.length = t.length := h.lo.trans h.lt.symm
  have l1 : (lessF o t (g o p / g t p)).length = m.length := (less_len hl).trans h.lo
  have tp : 0 < g t p := by have := (h.st.at p).1; omega
  have e : g (byRests (lessF o t (g o p / g t p)) m p) p = g o p % g t p := by
    rw [g_rests p l1, if_pos (Nat.le_refl p), g_less _ _ hl, Int.emod_def, Int.mul_comm]
  have r0 := Int.emod_nonneg (g o p) (show g t p ≠ 0 from ht)
  have r1 := Int.emod_lt_of_pos (g o p) tp
  refine ⟨⟨h.pl, h.mp, h.lt, (rests_len l1).trans l1, h.st, sm_of fun q hq => ?_, h.zt, fun q hq => ?_, tp⟩, e, by omega⟩
  · rw [rests_len l1, l1] at hq
    by_cases hqp : q = p
    · subst hqp
      rw [e]
      have := (h.st.at q).2
      omega
    · rw [g_rests q l1]
      by_cases hq2 : q ≤ p
      · rw [if_pos hq2, g_less _ _ hl, h.zo q (by omega), h.zt q (by omega)]; simp
      · rw [if_neg hq2]
        have := h.mp q hq
        have a := Int.emod_nonneg (g (lessF o t (g o p / g t p)) q) (show g m q ≠ 0 by omega)
        have b := Int.emod_lt_of_pos (g (lessF o t (g o p / g t p)) q) this.1
        omega
  · rw [g_rests q l1, if_pos (by omega), g_less _ _ hl, h.zo q hq, h.zt q hq]; simp
theorem metF_fuel {m : List Int} {p : Nat} : ∀ (f f' : Nat) (o i t y : List Int), Two m p o t → (g t p).toNat < f → (g t p).toNat < f' → metF f m p o i t y = metF f' m p o i t y := by
  intro f
  induction f with
  | zero => intro f' o i t y h a b; omega
  | succ f ih =>
    intro f' o i t y h a b
    cases f' with
    | zero => omega
    | succ f' =>
      unfold metF
      by_cases ht : g t p = 0
      · rw [if_pos ht, if_pos ht]
      · rw [if_neg ht, if_neg ht]
        obtain ⟨n1, n2, n3⟩ := h.next ht
        exact ih f' _ _ _ _ n1 (by rw [n2]; omega) (by rw [n2]; omega)
/-- an invariant of the turns -/
theorem metF_ind {m : List Int} {p : Nat} (R : List Int → List Int → List Int → List Int → Prop)
    (hs : ∀ o i t y, Two m p o t → g t p ≠ 0 → R o i t y → R t y (byRests (lessF o t (g o p / g t p)) m p) (lessF i y (g o p / g t p))) :
    ∀ (f : Nat) (o i t y : List Int), Two m p o t → (g t p).toNat < f → R o i t y →
      R (metF f m p o i t y).1.1 (metF f m p o i t y).1.2 (metF f m p o i t y).2.1 (metF f m p o i t y).2.2 ∧ Two m p (metF f m p o i t y).1.1 (metF f m p o i t y).2.1 ∧ g (metF f m p o i t y).2.1 p = 0 := by
  intro f
  induction f with
  | zero => intro o i t y h a; omega
  | succ f ih =>
    intro o i t y h a r
    unfold metF
    by_cases ht : g t p = 0
    · rw [if_pos ht]; exact ⟨r, h, ht⟩
    · rw [if_neg ht]
      obtain ⟨n1, n2, n3⟩ := h.next ht
      exact ih _ _ _ _ n1 (by rw [n2]; omega) (hs o i t y h ht r)
/-- back from the end -/
theorem metF_back {m : List Int} {p : Nat} (R : List Int → List Int → Prop)
    (hs : ∀ o t, Two m p o t → g t p ≠ 0 → R t (byRests (lessF o t (g o p / g t p)) m p) → R o t) :
    ∀ (f : Nat) (o i t y : List Int), Two m p o t → (g t p).toNat < f → R (metF f m p o i t y).1.1 (metF f m p o i t y).2.1 → R o t := by
  intro f
  induction f with
  | zero => intro o i t y h a; omega
  | succ f ih =>
    intro o i t y h a r
    unfold metF at r
    by_cases ht : g t p = 0
    · rw [if_pos ht] at r; exact r
    · rw [if_neg ht] at r
      obtain ⟨n1, n2, n3⟩ := h.next ht
      exact hs o t h ht (ih _ _ _ _ n1 (by rw [n2]; omega) r)
theorem metF_bd {m : List Int} {p k : Nat} : ∀ (f b : Nat) (o i t y : List Int), Two m p o t → (g t p).toNat < f → i.length = k → y.length = k → Bd b i → Bd b y →
    ((metF f m p o i t y).1.2.length = k ∧ (metF f m p o i t y).2.2.length = k) ∧ Bd (b + 8 * f) (metF f m p o i t y).1.2 ∧ Bd (b + 8 * f) (metF f m p o i t y).2.2 := by
  intro f
  induction f with
  | zero => intro b o i t y h a; omega
  | succ f ih =>
    intro b o i t y h a li ly hi hy
    unfold metF
    by_cases ht : g t p = 0
    · rw [if_pos ht]; exact ⟨⟨li, ly⟩, hi.mono (by omega), hy.mono (by omega)⟩
    · rw [if_neg ht]
      obtain ⟨n1, n2, n3⟩ := h.next ht
      have tq : (g o p / g t p).natAbs < 2 ^ 7 := by
        have a1 := (h.so.at p)
        have a2 := (h.st.at p)
        have a3 : 0 ≤ g o p / g t p := Int.ediv_nonneg a1.1 a2.1
        have a4 : g o p / g t p ≤ g o p := Int.ediv_le_self _ a1.1
        show _ < 128
        omega
      have l : i.length = y.length := li.trans ly.symm
      have b1 : Bd (b + 8) (lessF i y (g o p / g t p)) := (bd_less hi hy tq l).mono (by omega)
      obtain ⟨c1, c2, c3⟩ := ih (b + 8) _ _ _ _ n1 (by rw [n2]; omega) ly ((less_len l).trans li) (hy.mono (by omega)) b1
      exact ⟨c1, c2.mono (by omega), c3.mono (by omega)⟩

/-! ### rows made of vectors -/
def lin (cs : List Int) (vs : List (List Int)) (q : Nat) : Int := (List.zipWith (fun c v => c * g v q) cs vs).sum
theorem lin_less : ∀ (a b : List Int) (vs : List (List Int)) (t : Int) (q : Nat), a.length = b.length → lin (lessF a b t) vs q = lin a vs q - t * lin b vs q
  | [], [], _, _, _, _ => by simp [lin, lessF]
  | [], _ :: _, _, _, _, h => by simp at h
  | _ :: _, [], _, _, _, h => by simp at h
  | x :: a, y :: b, [], t, q, _ => by simp [lin]
  | x :: a, y :: b, v :: vs, t, q, h => by
    have ih := lin_less a b vs t q (by simpa using h)
    unfold lin lessF at ih ⊢
    simp only [List.zipWith_cons_cons, List.sum_cons]
    rw [ih, Int.sub_mul, Int.mul_add, Int.mul_assoc]
    omega
/-- the row is made of the vectors, so often, by the rests -/
def Lin (m : List Int) (vs : List (List Int)) (r : Rg) : Prop := ∀ q, g m q ∣ g r.1 q - lin r.2 vs q
theorem Lin.sub {m : List Int} {vs : List (List Int)} {r s : Rg} {t : Int} (hr : Lin m vs r) (hs : Lin m vs s) (h1 : r.1.length = s.1.length) (h2 : r.2.length = s.2.length) : Lin m vs (lessF r.1 s.1 t, lessF r.2 s.2 t) := fun q => by
  show g m q ∣ g (lessF r.1 s.1 t) q - lin (lessF r.2 s.2 t) vs q
  rw [g_less t q h1, lin_less _ _ vs t q h2]
  have : g r.1 q - t * g s.1 q - (lin r.2 vs q - t * lin s.2 vs q) = (g r.1 q - lin r.2 vs q) - t * (g s.1 q - lin s.2 vs q) := by rw [Int.mul_sub]; omega
  rw [this]
  exact Int.dvd_sub (hr q) (Int.dvd_mul_of_dvd_right (hs q))
theorem Lin.rests {m : List Int} {vs : List (List Int)} {r : Rg} {p : Nat} (hr : Lin m vs r) (h : r.1.length = m.length) : Lin m vs (byRests r.1 m p, r.2) := fun q => by
  show g m q ∣ g (byRests r.1 m p) q - lin r.2 vs q
  rw [g_rests q h]
  split
  · exact hr q
  · have : g r.1 q % g m q - lin r.2 vs q = (g r.1 q - lin r.2 vs q) - g m q * (g r.1 q / g m q) := by rw [Int.emod_def]; omega
    rw [this]
    exact Int.dvd_sub (hr q) (Int.dvd_mul_right _ _)
end SpM

set_option autoImplicit false
/-! What the rungs span. -/
namespace SpM

/-- w is made of the rows rs, the first of which stands at p -/
def In : List (List Int) → Nat → (Nat → Int) → Prop
  | [], p, w => ∀ q, p ≤ q → w q = 0
  | r :: rs, p, w => ∃ k, w p = k * g r p ∧ In rs (p + 1) fun q => w q - k * g r q
theorem In.ext : ∀ {rs : List (List Int)} {p : Nat} {w w' : Nat → Int}, In rs p w → (∀ q, p ≤ q → w' q = w q) → In rs p w'
  | [], p, w, w', h, e => fun q hq => by rw [e q hq]; exact h q hq
  | r :: rs, p, w, w', ⟨k, h1, h2⟩, e => ⟨k, by rw [e p (Nat.le_refl p)]; exact h1, In.ext h2 fun q hq => by rw [e q (by omega)]⟩
theorem In.comb : ∀ {rs : List (List Int)} {p : Nat} {w w' : Nat → Int} (t : Int), In rs p w → In rs p w' → In rs p fun q => w q + t * w' q
  | [], p, w, w', t, h, h' => fun q hq => by
    show w q + t * w' q = 0
    rw [h q hq, h' q hq]; simp
  | r :: rs, p, w, w', t, ⟨k, h1, h2⟩, ⟨k', h1', h2'⟩ => by
    refine ⟨k + t * k', ?_, In.ext (In.comb t h2 h2') fun q hq => ?_⟩
    · show w p + t * w' p = _
      rw [h1, h1', Int.add_mul, Int.mul_assoc]
    · show w q + t * w' q - (k + t * k') * g r q = w q - k * g r q + t * (w' q - k' * g r q)
      rw [Int.mul_sub, Int.add_mul, Int.mul_assoc]; omega
theorem In.zero : ∀ {rs : List (List Int)} {p : Nat}, In rs p fun _ => 0
  | [], p => fun _ _ => rfl
  | r :: rs, p => ⟨0, by simp, In.zero.ext fun q _ => by simp⟩
theorem In.smul {rs : List (List Int)} {p : Nat} {w : Nat → Int} (t : Int) (h : In rs p w) : In rs p fun q => t * w q := (In.zero.comb t h).ext fun q _ => by simp
/-- all rests of the moduli are in -/
def Cl (m : List Int) (rs : List (List Int)) (p : Nat) : Prop := ∀ z : Nat → Int, (∀ q, p ≤ q → g m q ∣ z q) → In rs p z
theorem In.cong {m : List Int} {rs : List (List Int)} {p : Nat} {w w' : Nat → Int} (c : Cl m rs p) (h : In rs p w) (d : ∀ q, p ≤ q → g m q ∣ w' q - w q) : In rs p w' :=
  (h.comb 1 (c (fun q => w' q - w q) d)).ext fun q _ => by omega

/-- a rung list from the place p on -/
inductive Rungs (m : List Int) (k : Nat) : Nat → List Rg → Prop
  | nil : Rungs m k m.length []
  | cons {p : Nat} {r : Rg} {rs : List Rg} : p < m.length → r.1.length = m.length → r.2.length = k → Sm r.1 → 0 < g r.1 p → (∀ q, q < p → g r.1 q = 0) → Rungs m k (p + 1) rs → Rungs m k p (r :: rs)
theorem Rungs.len {m : List Int} {k : Nat} : ∀ {p : Nat} {rs : List Rg}, Rungs m k p rs → p + rs.length = m.length
  | _, _, .nil => rfl
  | _, _, .cons _ _ _ _ _ _ t => by have := t.len; simp; omega
def AllBd (b : Nat) (rs : List Rg) : Prop := ∀ r ∈ rs, Bd b r.2
def AllLin (m : List Int) (vs : List (List Int)) (rs : List Rg) : Prop := ∀ r ∈ rs, Lin m vs r
abbrev MP (m : List Int) : Prop := ∀ q, q < m.length → 0 < g m q ∧ g m q < 100
/-- a row that comes to the place p -/
structure Row (m : List Int) (k p : Nat) (w : Rg) : Prop where
  l1 : w.1.length = m.length
  l2 : w.2.length = k
  sm : Sm w.1
  z : ∀ q, q < p → g w.1 q = 0
theorem Row.two {m : List Int} {k p : Nat} {w r : Rg} {rs : List Rg} (mp : MP m) (hw : Row m k p w) (h : Rungs m k p (r :: rs)) : Two m p r.1 w.1 := by
  cases h with
  | cons a b c d e f _ => exact ⟨a, mp, b, hw.l1, d, hw.sm, f, hw.z, e⟩
theorem met_ok {m : List Int} {k p b : Nat} {w r : Rg} {rs : List Rg} (mp : MP m) (hw : Row m k p w) (h : Rungs m k p (r :: rs)) (b1 : Bd b r.2) (b2 : Bd b w.2) :
    Rungs m k p ((met m p r w).1 :: rs) ∧ Row m k (p + 1) (met m p r w).2 ∧ Bd (b + 800) (met m p r w).1.2 ∧ Bd (b + 800) (met m p r w).2.2 := by
  have t := hw.two mp h
  have hf : (g w.1 p).toNat < (g w.1 p).toNat + 1 := Nat.lt_succ_self _
  have hs := (hw.sm.at p).2
  have hs0 := (hw.sm.at p).1
  cases h with
  | cons a1 a2 a3 a4 a5 a6 a7 =>
    obtain ⟨_, t', z⟩ := metF_ind (m := m) (p := p) (fun _ _ _ _ => True) (fun _ _ _ _ _ _ _ => trivial) _ r.1 r.2 w.1 w.2 t hf trivial
    obtain ⟨⟨c1, c2⟩, c3, c4⟩ := metF_bd _ b r.1 r.2 w.1 w.2 t hf a3 hw.l2 b1 b2
    refine ⟨.cons a1 t'.lo c1 t'.so t'.po t'.zo a7, ⟨t'.lt, c2, t'.st, fun q hq => ?_⟩, c3.mono (by omega), c4.mono (by omega)⟩
    by_cases e : q = p
    · subst e; exact z
    · exact t'.zt q (by omega)
theorem met_lin {m : List Int} {k p : Nat} {w r : Rg} {rs : List Rg} {vs : List (List Int)} (mp : MP m) (hw : Row m k p w) (h : Rungs m k p (r :: rs)) (l1 : Lin m vs r) (l2 : Lin m vs w) :
    Lin m vs (met m p r w).1 ∧ Lin m vs (met m p r w).2 := by
  have t := hw.two mp h
  cases h with
  | cons a1 a2 a3 a4 a5 a6 a7 =>
    obtain ⟨⟨x1, x2, x3, x4⟩, _⟩ := metF_ind (m := m) (p := p) (fun o i t y => Lin m vs (o, i) ∧ Lin m vs (t, y) ∧ i.length = k ∧ y.length = k) (fun o i t y T _ ⟨y1, y2, y3, y4⟩ => by
      have e1 : o.length = t.length := T.lo.trans T.lt.symm
      have e2 : i.length = y.length := y3.trans y4.symm
      exact ⟨y2, (Lin.sub y1 y2 e1 e2).rests ((less_len e1).trans T.lo), y4, (less_len e2).trans y3⟩) _ r.1 r.2 w.1 w.2 t (Nat.lt_succ_self _) ⟨l1, l2, a3, hw.l2⟩
    exact ⟨x1, x2⟩

theorem abs_ok {m : List Int} {k : Nat} (mp : MP m) : ∀ {p b : Nat} {rs : List Rg} {w : Rg}, Rungs m k p rs → Row m k p w → AllBd b rs → Bd b w.2 →
    Rungs m k p (absR m p rs w).1 ∧ AllBd (b + 800 * rs.length) (absR m p rs w).1 := by
  intro p b rs
  induction rs generalizing p b with
  | nil => intro w h hw _ _; exact ⟨h, fun r hr => absurd hr List.not_mem_nil⟩
  | cons r rs ih =>
    intro w h hw b1 b2
    obtain ⟨x1, x2, x3, x4⟩ := met_ok mp hw h (b1 r List.mem_cons_self) b2
    cases x1 with
    | cons a1 a2 a3 a4 a5 a6 a7 =>
      obtain ⟨y1, y2⟩ := ih a7 x2 (b := b + 800) (fun s hs => (b1 s (List.mem_cons_of_mem _ hs)).mono (by omega)) x4
      refine ⟨.cons a1 a2 a3 a4 a5 a6 y1, fun s hs => ?_⟩
      rcases List.mem_cons.mp hs with rfl | hs
      · exact x3.mono (by simp; omega)
      · exact (y2 s hs).mono (by simp; omega)
theorem abs_lin {m : List Int} {k : Nat} {vs : List (List Int)} (mp : MP m) : ∀ {p : Nat} {rs : List Rg} {w : Rg}, Rungs m k p rs → Row m k p w → AllLin m vs rs → Lin m vs w → AllLin m vs (absR m p rs w).1 := by
  intro p rs
  induction rs generalizing p with
  | nil => intro w _ _ _ _ r hr; exact absurd hr List.not_mem_nil
  | cons r rs ih =>
    intro w h hw l1 l2
    obtain ⟨z1, z2⟩ := met_lin mp hw h (l1 r List.mem_cons_self) l2
    have hb : ∃ b, Bd b r.2 ∧ Bd b w.2 := by
      have all : ∀ xs : List Int, ∃ b, Bd b xs := by
        intro xs
        induction xs with
        | nil => exact ⟨0, fun x hx => absurd hx List.not_mem_nil⟩
        | cons x xs ih =>
          obtain ⟨b, hb⟩ := ih
          refine ⟨max b x.natAbs, fun y hy => ?_⟩
          rcases List.mem_cons.mp hy with rfl | hy
          · exact Nat.lt_of_lt_of_le Nat.lt_two_pow_self (Nat.pow_le_pow_right (by decide) (Nat.le_max_right _ _))
          · exact Nat.lt_of_lt_of_le (hb y hy) (Nat.pow_le_pow_right (by decide) (Nat.le_max_left _ _))
      obtain ⟨b1, h1⟩ := all r.2
      obtain ⟨b2, h2⟩ := all w.2
      exact ⟨max b1 b2, h1.mono (Nat.le_max_left _ _), h2.mono (Nat.le_max_right _ _)⟩
    obtain ⟨b, hb1, hb2⟩ := hb
    obtain ⟨x1, x2, _, _⟩ := met_ok mp hw h hb1 hb2
    cases x1 with
    | cons a1 a2 a3 a4 a5 a6 a7 =>
      intro s hs
      rcases List.mem_cons.mp hs with rfl | hs
      · exact z1
      · exact ih a7 x2 (fun s hs => l1 s (List.mem_cons_of_mem _ hs)) z2 s hs
def rows : List Rg → List (List Int)
  | [] => []
  | r :: rs => r.1 :: rows rs
theorem rows_cons (r : Rg) (rs : List Rg) : rows (r :: rs) = r.1 :: rows rs := rfl
/-- what the rungs and the row span is spanned by the new rungs -/
theorem abs_in {m : List Int} {k : Nat} (mp : MP m) : ∀ {p : Nat} {rs : List Rg} {w : Rg}, Rungs m k p rs → Row m k p w → Cl m (rows rs) p →
    (∀ x, In (rows rs) p x → In (rows (absR m p rs w).1) p x) ∧ In (rows (absR m p rs w).1) p (g w.1) := by
  intro p rs
  induction rs generalizing p with
  | nil =>
    intro w h hw _
    refine ⟨fun x h => h, fun q hq => ?_⟩
    exact g_big _ _ (by have := h.len; rw [hw.l1]; simp at this; omega)
  | cons r rs ih =>
    intro w h hw cl
    have t := hw.two mp h
    have h' := h
    have tt := metF_ind (m := m) (p := p) (fun _ _ _ _ => True) (fun _ _ _ _ _ _ _ => trivial) _ r.1 r.2 w.1 w.2 t (Nat.lt_succ_self _) trivial
    have tz : g (met m p r w).2.1 p = 0 := tt.2.2
    cases h with
    | cons a1 a2 a3 a4 a5 a6 a7 =>
      -- the rest of the rungs is closed, too
      have cl1 : Cl m (rows rs) (p + 1) := fun z hz => by
        obtain ⟨c, e1, e2⟩ := cl (fun q => if q = p then 0 else z q) fun q hq => by
          by_cases e : q = p
          · rw [if_pos e]; exact Int.dvd_zero _
          · rw [if_neg e]; exact hz q (by omega)
        have e1 : (if p = p then (0 : Int) else z p) = c * g r.1 p := e1
        rw [if_pos rfl] at e1
        have c0 : c = 0 := by
          rcases Int.mul_eq_zero.mp e1.symm with h | h
          · exact h
          · omega
        subst c0
        refine In.ext e2 fun q hq => ?_
        show z q = (if q = p then (0 : Int) else z q) - 0 * g r.1 q
        rw [if_neg (by omega)]; omega
      have hb : ∃ b, Bd b r.2 ∧ Bd b w.2 := by
        have all : ∀ xs : List Int, ∃ b, Bd b xs := by
          intro xs
          induction xs with
          | nil => exact ⟨0, fun x hx => absurd hx List.not_mem_nil⟩
          | cons x xs ih =>
            obtain ⟨b, hb⟩ := ih
            refine ⟨max b x.natAbs, fun y hy => ?_⟩
            rcases List.mem_cons.mp hy with rfl | hy
            · exact Nat.lt_of_lt_of_le Nat.lt_two_pow_self (Nat.pow_le_pow_right (by decide) (Nat.le_max_right _ _))
            · exact Nat.lt_of_lt_of_le (hb y hy) (Nat.pow_le_pow_right (by decide) (Nat.le_max_left _ _))
        obtain ⟨b1, h1⟩ := all r.2
        obtain ⟨b2, h2⟩ := all w.2
        exact ⟨max b1 b2, h1.mono (Nat.le_max_left _ _), h2.mono (Nat.le_max_right _ _)⟩
      obtain ⟨b, hb1, hb2⟩ := hb
      obtain ⟨_, rw', _, _⟩ := met_ok mp hw h' hb1 hb2
      obtain ⟨i1, i2⟩ := ih a7 rw' cl1
      -- T: what the new later rungs span
      have T1 : ∀ x : Nat → Int, x p = 0 → In (rows (absR m (p + 1) rs (met m p r w).2).1) (p + 1) x → In (rows (absR m p (r :: rs) w).1) p x := fun x x0 hx =>
        ⟨0, by rw [x0]; simp, hx.ext fun q _ => by simp⟩
      have base : In (rows (absR m p (r :: rs) w).1) p (g (met m p r w).1.1) ∧ In (rows (absR m p (r :: rs) w).1) p (g (met m p r w).2.1) :=
        ⟨⟨1, by show _ = 1 * _; rw [Int.one_mul], In.zero.ext fun q _ => by
          show g (met m p r w).1.1 q - 1 * g (met m p r w).1.1 q = 0
          rw [Int.one_mul]; omega⟩, T1 _ tz i2⟩
      have back : In (rows (absR m p (r :: rs) w).1) p (g r.1) ∧ In (rows (absR m p (r :: rs) w).1) p (g w.1) := by
        refine metF_back (m := m) (p := p) (fun o t => In (rows (absR m p (r :: rs) w).1) p (g o) ∧ In (rows (absR m p (r :: rs) w).1) p (g t)) (fun o t T ht ⟨h1, h2⟩ => ⟨?_, h1⟩) _ r.1 r.2 w.1 w.2 t (Nat.lt_succ_self _) base
        have hl : o.length = t.length := T.lo.trans T.lt.symm
        have l1 : (lessF o t (g o p / g t p)).length = m.length := (less_len hl).trans T.lo
        -- o = the new row + times * t + what the moduli make
        have dz : In (rows (absR m p (r :: rs) w).1) p (fun q => if q ≤ p then 0 else g (lessF o t (g o p / g t p)) q - g (lessF o t (g o p / g t p)) q % g m q) := by
          refine T1 _ (by simp) (i1 _ (cl1 _ fun q hq => ?_))
          rw [if_neg (by omega)]
          exact Int.dvd_self_sub_emod
        refine ((h2.comb (g o p / g t p) h1).comb 1 dz).ext fun q _ => ?_
        rw [g_rests q l1]
        by_cases e : q ≤ p
        · rw [if_pos e, if_pos e, g_less _ _ hl]; omega
        · rw [if_neg e, if_neg e, g_less _ _ hl]; omega
      refine ⟨fun x ⟨c, e1, e2⟩ => ?_, back.2⟩
      have e1 : x p = c * g r.1 p := e1
      have := (T1 (fun q => x q - c * g r.1 q) (by show x p - c * g r.1 p = 0; rw [e1]; omega) (i1 _ e2)).comb c back.1
      exact this.ext fun q _ => by omega

/-! ### the start -/
theorem rung0_g {m : List Int} {k p q : Nat} : g (rung0 m k p).1 q = if q = p then g m p else 0 := by
  unfold rung0
  by_cases hq : q < m.length
  · have : ((List.range m.length).map (fun a => g m a * if a = p then (1 : Int) else 0))[q]? = some (g m q * if q = p then 1 else 0) := by
      rw [List.getElem?_map, List.getElem?_range hq]; rfl
    rw [g_get this]
    by_cases e : q = p
    · subst e; simp
    · simp [e]
  · rw [g_big _ _ (by simp; omega)]
    by_cases e : q = p
    · subst e; simp [g_big m q (by omega)]
    · simp [e]
def rungsFrom (m : List Int) (k : Nat) : Nat → Nat → List Rg
  | 0, _ => []
  | n + 1, p => rung0 m k p :: rungsFrom m k n (p + 1)
theorem rungs0_eq (m : List Int) (k : Nat) : rungs0 m k = rungsFrom m k m.length 0 := by
  have : ∀ n p, (List.range n).map (fun i => rung0 m k (p + i)) = rungsFrom m k n p := by
    intro n
    induction n with
    | zero => intro p; rfl
    | succ n ih =>
      intro p
      rw [List.range_succ_eq_map, List.map_cons, List.map_map]
      show rung0 m k (p + 0) :: _ = rung0 m k p :: rungsFrom m k n (p + 1)
      rw [← ih (p + 1), Nat.add_zero]
      congr 1
      apply List.map_congr_left
      intro i _
      show rung0 m k (p + (i + 1)) = rung0 m k (p + 1 + i)
      rw [show p + (i + 1) = p + 1 + i by omega]
  rw [← this m.length 0]
  unfold rungs0
  apply List.map_congr_left
  intro i _
  rw [Nat.zero_add]
theorem rungsFrom_ok {m : List Int} (mp : MP m) (k : Nat) : ∀ (n p : Nat), p + n = m.length → Rungs m k p (rungsFrom m k n p) ∧ Cl m (rows (rungsFrom m k n p)) p
  | 0, p, h => by
    have e : p = m.length := by omega
    subst e
    exact ⟨.nil, fun z hz q hq => by have := hz q hq; rw [g_big m q hq] at this; exact Int.zero_dvd.mp this⟩
  | n + 1, p, h => by
    obtain ⟨a, b⟩ := rungsFrom_ok mp k n (p + 1) (by omega)
    have hp : p < m.length := by omega
    refine ⟨.cons hp (by simp [rung0]) (by simp [rung0]) (sm_of fun q _ => ?_) ?_ (fun q hq => ?_) a, fun z hz => ?_⟩
    · rw [rung0_g]
      split
      · have := mp p hp; omega
      · decide
    · rw [rung0_g, if_pos rfl]; exact (mp p hp).1
    · rw [rung0_g, if_neg (by omega)]
    · obtain ⟨c, hc⟩ := hz p (Nat.le_refl p)
      refine ⟨c, by rw [rung0_g, if_pos rfl, hc, Int.mul_comm], b _ fun q hq => ?_⟩
      rw [rung0_g, if_neg (by omega)]
      simpa using hz q (by omega)
theorem rungs0_ok {m : List Int} (mp : MP m) (k : Nat) : Rungs m k 0 (rungs0 m k) ∧ Cl m (rows (rungs0 m k)) 0 := by
  rw [rungs0_eq]; exact rungsFrom_ok mp k m.length 0 (by omega)
theorem rung_mem {m : List Int} {k : Nat} {r : Rg} (h : r ∈ rungs0 m k) : ∃ p, r = rung0 m k p := by
  obtain ⟨p, _, e⟩ := List.mem_map.mp h
  exact ⟨p, e.symm⟩
theorem lin_rep (k : Nat) : ∀ (vs : List (List Int)) (q : Nat), lin (List.replicate k 0) vs q = 0 := by
  induction k with
  | zero => intro vs q; simp [lin]
  | succ k ih =>
    intro vs q
    cases vs with
    | nil => simp [lin]
    | cons v vs =>
      have := ih vs q
      unfold lin at this ⊢
      simp [List.replicate_succ, this]
theorem rungs0_lin {m : List Int} {k : Nat} (vs : List (List Int)) : AllLin m vs (rungs0 m k) := fun r hr q => by
  obtain ⟨p, rfl⟩ := rung_mem hr
  rw [rung0_g]
  show g m q ∣ _ - lin (List.replicate k 0) vs q
  rw [lin_rep]
  split
  · rename_i e; rw [← e]; simp
  · simp
theorem rungs0_bd {m : List Int} {k : Nat} : AllBd 0 (rungs0 m k) := fun r hr => by
  obtain ⟨p, rfl⟩ := rung_mem hr
  intro x hx
  have : x = 0 := by
    have := List.mem_replicate.mp (show x ∈ List.replicate k (0 : Int) from hx)
    exact this.2
  subst this; decide

/-! ### the vectors in turn -/
theorem row0_ok {m : List Int} {k j : Nat} {v : List Int} (mp : MP m) (hv : v.length = m.length) : Row m k 0 (row0 m k j v) ∧ Bd 1 (row0 m k j v).2 := by
  refine ⟨⟨by simp [row0, hv], by simp [row0], sm_of fun q hq => ?_, fun q hq => absurd hq (Nat.not_lt_zero q)⟩, fun x hx => ?_⟩
  · have hq' : q < m.length := by simp [row0, hv] at hq; exact hq
    show 0 ≤ g (List.zipWith (fun x y => x % y) v m) q ∧ g (List.zipWith (fun x y => x % y) v m) q < 100
    rw [g_zip (fun x y => x % y) (by simp) v m q hv]
    have := mp q hq'
    have a := Int.emod_nonneg (g v q) (show g m q ≠ 0 by omega)
    have b := Int.emod_lt_of_pos (g v q) this.1
    omega
  · obtain ⟨a, _, e⟩ := List.mem_map.mp (show x ∈ (List.range k).map fun a => if a = j then (1 : Int) else 0 from hx)
    rw [← e]; split <;> decide
theorem lin_unit : ∀ (vs : List (List Int)) (n k j : Nat) (q : Nat), vs.length = k → lin ((List.range k).map fun a => if a + n = j + n then (1 : Int) else 0) vs q = g (vs.getD j []) q := by
  intro vs
  induction vs with
  | nil => intro n k j q h; simp at h; subst h; simp [lin, g_nil]
  | cons v vs ih =>
    intro n k j q h
    cases k with
    | zero => simp at h
    | succ k =>
      have hk : vs.length = k := by simpa using h
      rw [List.range_succ_eq_map, List.map_cons, List.map_map]
      cases j with
      | zero =>
        have z : lin (List.map ((fun a => if a + n = 0 + n then (1 : Int) else 0) ∘ Nat.succ) (List.range k)) vs q = 0 := by
          have e : List.map ((fun a => if a + n = 0 + n then (1 : Int) else 0) ∘ Nat.succ) (List.range k) = List.replicate k 0 := by
            apply List.ext_getElem?
            intro i
            by_cases hi : i < k
            · rw [List.getElem?_map, List.getElem?_range hi, List.getElem?_replicate, if_pos hi]; simp
            · rw [List.getElem?_eq_none (by simp; omega), List.getElem?_eq_none (by simp; omega)]
          rw [e, lin_rep]
        unfold lin at z ⊢
        simp only [List.zipWith_cons_cons, List.sum_cons, z]
        simp
      | succ j =>
        have := ih (n + 1) k j q hk
        have e : List.map ((fun a => if a + n = j + 1 + n then (1 : Int) else 0) ∘ Nat.succ) (List.range k) = List.map (fun a => if a + (n + 1) = j + (n + 1) then (1 : Int) else 0) (List.range k) := by
          apply List.map_congr_left
          intro a _
          simp only [Function.comp]
          rw [show Nat.succ a + n = a + (n + 1) by omega, show j + 1 + n = j + (n + 1) by omega]
        rw [e]
        unfold lin at this ⊢
        simp only [List.zipWith_cons_cons, List.sum_cons, this]
        simp
theorem row0_lin {m : List Int} {j : Nat} {v : List Int} {vs : List (List Int)} (hv : v.length = m.length) (h : vs[j]? = some v) : Lin m vs (row0 m vs.length j v) := fun q => by
  show g m q ∣ g (List.zipWith (fun x y => x % y) v m) q - lin ((List.range vs.length).map fun a => if a = j then (1 : Int) else 0) vs q
  have := lin_unit vs 0 vs.length j q rfl
  simp only [Nat.add_zero] at this
  rw [this, g_zip (fun x y => x % y) (by simp) v m q hv, List.getD_eq_getElem?_getD, h]
  show g m q ∣ g v q % g m q - g v q
  have e : g v q % g m q - g v q = - (g v q - g v q % g m q) := by omega
  rw [e]
  exact Int.dvd_neg.mpr Int.dvd_self_sub_emod
theorem laidV_ok {m : List Int} {k : Nat} (mp : MP m) : ∀ (vs : List (List Int)) (j b : Nat) (rs : List Rg), (∀ v ∈ vs, v.length = m.length) → Rungs m k 0 rs → AllBd (b + 1) rs →
    Rungs m k 0 (laidV m k j vs rs) ∧ AllBd (b + 1 + 800 * m.length * vs.length) (laidV m k j vs rs) := by
  intro vs
  induction vs with
  | nil => intro j b rs _ h hb; exact ⟨h, by simpa [laidV] using hb⟩
  | cons v vs ih =>
    intro j b rs hv h hb
    obtain ⟨r1, r2⟩ := row0_ok (k := k) (j := j) mp (hv v List.mem_cons_self)
    obtain ⟨x1, x2⟩ := abs_ok mp h r1 hb (r2.mono (by omega))
    have hl := h.len
    rw [Nat.zero_add] at hl
    rw [hl] at x2
    have := ih (j + 1) (b + 800 * m.length) _ (fun u hu => hv u (List.mem_cons_of_mem _ hu)) x1 (by rw [show b + 800 * m.length + 1 = b + 1 + 800 * m.length by omega]; exact x2)
    refine ⟨this.1, ?_⟩
    have e : b + 800 * m.length + 1 + 800 * m.length * vs.length = b + 1 + 800 * m.length * (v :: vs).length := by
      rw [List.length_cons, Nat.mul_succ]; omega
    rw [← e]; exact this.2
theorem laidV_lin {m : List Int} (mp : MP m) (ws : List (List Int)) : ∀ (vs : List (List Int)) (j : Nat) (rs : List Rg), (∀ v ∈ vs, v.length = m.length) → (∀ i v, vs[i]? = some v → ws[j + i]? = some v) → Rungs m ws.length 0 rs → (∃ b, AllBd (b + 1) rs) → AllLin m ws rs →
    AllLin m ws (laidV m ws.length j vs rs) := by
  intro vs
  induction vs with
  | nil => intro j rs _ _ _ _ h; exact h
  | cons v vs ih =>
    intro j rs hv hi h ⟨b, hb⟩ hl
    obtain ⟨r1, r2⟩ := row0_ok (k := ws.length) (j := j) mp (hv v List.mem_cons_self)
    obtain ⟨x1, x2⟩ := abs_ok mp h r1 hb (r2.mono (by omega))
    refine ih (j + 1) _ (fun u hu => hv u (List.mem_cons_of_mem _ hu)) (fun i u hu => ?_) x1 ⟨b + 800 * rs.length, by rw [show b + 800 * rs.length + 1 = b + 1 + 800 * rs.length by omega]; exact x2⟩ (abs_lin mp h r1 hl (row0_lin (hv v List.mem_cons_self) (by simpa using hi 0 v rfl)))
    have := hi (i + 1) u (by simpa using hu)
    rwa [show j + (i + 1) = j + 1 + i by omega] at this
theorem laidV_in {m : List Int} {k : Nat} (mp : MP m) : ∀ (vs : List (List Int)) (j : Nat) (rs : List Rg), (∀ v ∈ vs, v.length = m.length) → Rungs m k 0 rs → (∃ b, AllBd (b + 1) rs) → Cl m (rows rs) 0 →
    (∀ x, In (rows rs) 0 x → In (rows (laidV m k j vs rs)) 0 x) ∧ (∀ v ∈ vs, In (rows (laidV m k j vs rs)) 0 (g v)) := by
  intro vs
  induction vs with
  | nil => intro j rs _ _ _ _; exact ⟨fun x h => h, fun v hv => absurd hv List.not_mem_nil⟩
  | cons v vs ih =>
    intro j rs hv h ⟨b, hb⟩ cl
    obtain ⟨r1, r2⟩ := row0_ok (k := k) (j := j) mp (hv v List.mem_cons_self)
    obtain ⟨x1, x2⟩ := abs_ok mp h r1 hb (r2.mono (by omega))
    obtain ⟨i1, i2⟩ := abs_in mp h r1 cl
    have cl' : Cl m (rows (absR m 0 rs (row0 m k j v)).1) 0 := fun z hz => i1 z (cl z hz)
    obtain ⟨y1, y2⟩ := ih (j + 1) _ (fun u hu => hv u (List.mem_cons_of_mem _ hu)) x1 ⟨b + 800 * rs.length, by rw [show b + 800 * rs.length + 1 = b + 1 + 800 * rs.length by omega]; exact x2⟩ cl'
    refine ⟨fun x hx => y1 x (i1 x hx), fun u hu => ?_⟩
    rcases List.mem_cons.mp hu with rfl | hu
    · refine y1 _ (i2.cong cl' fun q _ => ?_)
      show g m q ∣ g u q - g (List.zipWith (fun x y => x % y) u m) q
      rw [g_zip (fun x y => x % y) (by simp) u m q (hv u List.mem_cons_self)]
      exact Int.dvd_self_sub_emod
    · exact y2 u hu
end SpM

set_option autoImplicit false
/-! The rungs told least; what is left of a vector; sums. -/
namespace SpM

/-- rows of rungs from the place p on, any entries -/
inductive Rws (m : List Int) (k : Nat) : Nat → List Rg → Prop
  | nil : Rws m k m.length []
  | cons {p : Nat} {r : Rg} {rs : List Rg} : p < m.length → r.1.length = m.length → r.2.length = k → 0 < g r.1 p → g r.1 p < 100 → (∀ q, q < p → g r.1 q = 0) → Rws m k (p + 1) rs → Rws m k p (r :: rs)
theorem Rungs.rws {m : List Int} {k : Nat} : ∀ {p : Nat} {rs : List Rg}, Rungs m k p rs → Rws m k p rs
  | _, _, .nil => .nil
  | _, _, .cons a b c d e f t => .cons a b c e (d.at _).2 f t.rws
theorem Rws.len {m : List Int} {k : Nat} : ∀ {p : Nat} {rs : List Rg}, Rws m k p rs → p + rs.length = m.length
  | _, _, .nil => rfl
  | _, _, .cons _ _ _ _ _ _ t => by have := t.len; simp; omega
theorem Rungs.uncons {m : List Int} {k p : Nat} {rs : List Rg} (h : Rungs m k p rs) (hp : p < m.length) : ∃ r rs', rs = r :: rs' := by
  cases h with
  | nil => omega
  | @cons _ r rs' _ _ _ _ _ _ _ => exact ⟨r, rs', rfl⟩
theorem Rungs.unnil {m : List Int} {k p : Nat} {rs : List Rg} (h : Rungs m k p rs) (hp : m.length ≤ p) : rs = [] := by
  cases h with
  | nil => rfl
  | cons => omega
structure Hd (m : List Int) (k p : Nat) (r : Rg) : Prop where
  pl : p < m.length
  l1 : r.1.length = m.length
  l2 : r.2.length = k
  po : 0 < g r.1 p
  hi : g r.1 p < 100
  z : ∀ q, q < p → g r.1 q = 0
theorem Rungs.tl {m : List Int} {k p : Nat} {r : Rg} {rs : List Rg} (h : Rungs m k p (r :: rs)) : Hd m k p r ∧ Sm r.1 ∧ Rungs m k (p + 1) rs := by
  cases h with
  | cons a b c d e f t => exact ⟨⟨a, b, c, e, (d.at _).2, f⟩, d, t⟩
theorem Rws.uncons {m : List Int} {k p : Nat} {rs : List Rg} (h : Rws m k p rs) (hp : p < m.length) : ∃ r rs', rs = r :: rs' := by
  cases h with
  | nil => omega
  | @cons _ r rs' _ _ _ _ _ _ _ => exact ⟨r, rs', rfl⟩
theorem Rws.unnil {m : List Int} {k p : Nat} {rs : List Rg} (h : Rws m k p rs) (hp : m.length ≤ p) : rs = [] := by
  cases h with
  | nil => rfl
  | cons => omega
theorem Rws.tl {m : List Int} {k p : Nat} {r : Rg} {rs : List Rg} (h : Rws m k p (r :: rs)) : Hd m k p r ∧ Rws m k (p + 1) rs := by
  cases h with
  | cons a b c d e f t => exact ⟨⟨a, b, c, d, e, f⟩, t⟩
theorem AllBd.mono {a b : Nat} {r : List Rg} (h : AllBd a r) (k : a ≤ b) : AllBd b r := fun s hs => (h s hs).mono k
theorem AllBd.cons {b : Nat} {r : Rg} {rs : List Rg} (h : Bd b r.2) (k : AllBd b rs) : AllBd b (r :: rs) := fun s hs => by
  rcases List.mem_cons.mp hs with rfl | hs
  · exact h
  · exact k s hs
theorem AllBd.app {b : Nat} {r rs : List Rg} (h : AllBd b r) (k : AllBd b rs) : AllBd b (r ++ rs) := fun s hs => by
  rcases List.mem_append.mp hs with hs | hs
  · exact h s hs
  · exact k s hs
/-- the numbers of a row are below the steps -/
def Low : Nat → List Rg → (Nat → Int) → Prop
  | _, [], _ => True
  | l, s :: rs, w => (0 ≤ w l ∧ w l < g s.1 l) ∧ Low (l + 1) rs w
theorem Low.ext : ∀ {l : Nat} {rs : List Rg} {w w' : Nat → Int}, Low l rs w → (∀ q, l ≤ q → w' q = w q) → Low l rs w'
  | _, [], _, _, _, _ => trivial
  | l, s :: rs, w, w', ⟨a, b⟩, e => ⟨by rw [e l (Nat.le_refl l)]; exact a, b.ext fun q hq => e q (by omega)⟩
theorem redOne_ok {m : List Int} {k : Nat} : ∀ {l : Nat} {rs : List Rg} {r : Rg}, Rws m k l rs → r.1.length = m.length → r.2.length = k →
    (redOne l r rs).1.length = m.length ∧ (redOne l r rs).2.length = k ∧ (∀ q, q < l → g (redOne l r rs).1 q = g r.1 q) ∧ In (rows rs) l (fun q => g r.1 q - g (redOne l r rs).1 q) ∧ Low l rs (g (redOne l r rs).1) := by
  intro l rs
  induction rs generalizing l with
  | nil =>
    intro r h h1 h2
    exact ⟨h1, h2, fun _ _ => rfl, fun q hq => by show g r.1 q - g r.1 q = 0; omega, trivial⟩
  | cons s rs ih =>
    intro r h h1 h2
    cases h with
    | cons a b c d d' e t =>
      have l1 : r.1.length = s.1.length := h1.trans b.symm
      have l2 : r.2.length = s.2.length := h2.trans c.symm
      obtain ⟨x1, x2, x3, x4, x5⟩ := ih (r := subR r s (g r.1 l / g s.1 l)) t ((less_len l1).trans h1) ((less_len l2).trans h2)
      have gs : ∀ q, g (subR r s (g r.1 l / g s.1 l)).1 q = g r.1 q - g r.1 l / g s.1 l * g s.1 q := fun q => g_less _ q l1
      show (redOne (l + 1) (subR r s (g r.1 l / g s.1 l)) rs).1.length = _ ∧ _
      refine ⟨x1, x2, fun q hq => ?_, ⟨g r.1 l / g s.1 l, ?_, x4.ext fun q hq => ?_⟩, ?_, x5⟩
      · show g (redOne (l + 1) (subR r s (g r.1 l / g s.1 l)) rs).1 q = _
        rw [x3 q (by omega), gs, e q hq]; simp
      · show g r.1 l - g (redOne (l + 1) (subR r s (g r.1 l / g s.1 l)) rs).1 l = _
        rw [x3 l (by omega), gs]; omega
      · show g r.1 q - g (redOne (l + 1) (subR r s (g r.1 l / g s.1 l)) rs).1 q - _ = _
        rw [gs]; omega
      · show 0 ≤ g (redOne (l + 1) (subR r s (g r.1 l / g s.1 l)) rs).1 l ∧ g (redOne (l + 1) (subR r s (g r.1 l / g s.1 l)) rs).1 l < _
        rw [x3 l (by omega), gs]
        have e1 : g r.1 l - g r.1 l / g s.1 l * g s.1 l = g r.1 l % g s.1 l := by rw [Int.emod_def, Int.mul_comm]
        rw [e1]
        exact ⟨Int.emod_nonneg _ (by omega), Int.emod_lt_of_pos _ d⟩
theorem redOne_lin {m : List Int} {k : Nat} {vs : List (List Int)} : ∀ {l : Nat} {rs : List Rg} {r : Rg}, Rws m k l rs → r.1.length = m.length → r.2.length = k → Lin m vs r → AllLin m vs rs → Lin m vs (redOne l r rs) := by
  intro l rs
  induction rs generalizing l with
  | nil => intro r _ _ _ h _; exact h
  | cons s rs ih =>
    intro r h h1 h2 hr hs
    cases h with
    | cons a b c d d' e t =>
      have l1 : r.1.length = s.1.length := h1.trans b.symm
      have l2 : r.2.length = s.2.length := h2.trans c.symm
      exact ih t ((less_len l1).trans h1) ((less_len l2).trans h2) (Lin.sub hr (hs s List.mem_cons_self) l1 l2) fun u hu => hs u (List.mem_cons_of_mem _ hu)
theorem div_bd {a b : Int} {n : Nat} (h : a.natAbs < 2 ^ n) (hb : 0 < b) : (a / b).natAbs < 2 ^ n := by
  have : (a / b).natAbs ≤ a.natAbs := by
    rcases Int.le_total 0 a with h0 | h0
    · have h1 := Int.ediv_nonneg h0 (Int.le_of_lt hb)
      have h2 := Int.ediv_le_self b h0
      omega
    · have h1 : a / b ≤ 0 := by
        have := Int.ediv_le_ediv hb h0
        simpa using this
      have h2 : a ≤ a / b := by
        have e := Int.mul_ediv_add_emod a b
        have f := Int.emod_nonneg a (show b ≠ 0 by omega)
        have : b * (a / b) ≤ a / b := by
          have : b * (a / b) ≤ 1 * (a / b) := Int.mul_le_mul_of_nonpos_right (by omega) h1
          omega
        have g1 : a % b < b := Int.emod_lt_of_pos a hb
        -- a = b*q + r, r < b, q ≤ 0 : a ≥ b*q ; want a ≤ q... so look at q = floor: q ≥ a since b ≥ 1
        rcases Int.lt_or_le (a / b) a with hlt | hle
        · exfalso
          have k1 : a / b ≤ a - 1 := by omega
          have k2 : b * (a / b) ≤ b * (a - 1) := Int.mul_le_mul_of_nonneg_left k1 (by omega)
          have k3 : b * (a - 1) = b * a - b := by rw [Int.mul_sub]; omega
          have k4 : b * a ≤ a := by
            have := Int.mul_le_mul_of_nonpos_right (show (1 : Int) ≤ b by omega) h0
            omega
          omega
        · exact hle
      omega
  omega
theorem redOne_bd {m : List Int} {k : Nat} : ∀ {l : Nat} {rs : List Rg} {r : Rg} {b c C : Nat}, Rws m k l rs → r.1.length = m.length → r.2.length = k → (∀ s ∈ rs, Bd 7 s.1) → AllBd C rs → Bd b r.1 → Bd c r.2 → C + b + 8 * rs.length ≤ c →
    Bd (b + 8 * rs.length) (redOne l r rs).1 ∧ Bd (c + rs.length) (redOne l r rs).2 := by
  intro l rs
  induction rs generalizing l with
  | nil => intro r b c C _ _ _ _ _ h1 h2 _; exact ⟨h1, h2⟩
  | cons s rs ih =>
    intro r b c C h h1 h2 hs hC hb hc hle
    cases h with
    | cons x1 x2 x3 d d' e t =>
      have l1 : r.1.length = s.1.length := h1.trans x2.symm
      have l2 : r.2.length = s.2.length := h2.trans x3.symm
      have ht : (g r.1 l / g s.1 l).natAbs < 2 ^ b := div_bd (hb.at l) d
      have k1 : Bd (b + 8) (lessF r.1 s.1 (g r.1 l / g s.1 l)) := (bd_less hb (hs s List.mem_cons_self) ht l1).mono (by omega)
      rw [List.length_cons] at hle
      have k2 : Bd (c + 1) (lessF r.2 s.2 (g r.1 l / g s.1 l)) := (bd_less hc (hC s List.mem_cons_self) ht l2).mono (by omega)
      obtain ⟨y1, y2⟩ := ih (r := subR r s (g r.1 l / g s.1 l)) (b := b + 8) (c := c + 1) (C := C) t ((less_len l1).trans h1) ((less_len l2).trans h2) (fun u hu => hs u (List.mem_cons_of_mem _ hu)) (fun u hu => hC u (List.mem_cons_of_mem _ hu)) k1 k2 (by omega)
      exact ⟨y1.mono (by rw [List.length_cons]; omega), y2.mono (by rw [List.length_cons]; omega)⟩
/-- the rungs as they are told: later numbers below the steps there -/
inductive Fin (m : List Int) (k : Nat) : Nat → List Rg → Prop
  | nil : Fin m k m.length []
  | cons {p : Nat} {r : Rg} {rs : List Rg} : p < m.length → r.1.length = m.length → r.2.length = k → 0 < g r.1 p → g r.1 p < 100 → (∀ q, q < p → g r.1 q = 0) → Low (p + 1) rs (g r.1) → Fin m k (p + 1) rs → Fin m k p (r :: rs)
theorem Fin.rws {m : List Int} {k : Nat} : ∀ {p : Nat} {rs : List Rg}, Fin m k p rs → Rws m k p rs
  | _, _, .nil => .nil
  | _, _, .cons a b c e e' f _ t => .cons a b c e e' f t.rws
theorem Low.all {m : List Int} {k : Nat} : ∀ {l : Nat} {rs : List Rg} {w : Nat → Int}, Rws m k l rs → Low l rs w → ∀ q, l ≤ q → q < m.length → 0 ≤ w q ∧ w q < 100
  | _, [], w, .nil, _, q, h1, h2 => by omega
  | l, s :: rs, w, .cons a b c d d' e t, ⟨x, y⟩, q, h1, h2 => by
    by_cases hq : q = l
    · subst hq; omega
    · exact Low.all t y q (by omega) h2
theorem Fin.sm {m : List Int} {k : Nat} : ∀ {p : Nat} {rs : List Rg}, Fin m k p rs → ∀ r ∈ rs, Sm r.1
  | _, _, .nil, r, hr => absurd hr List.not_mem_nil
  | p, _, .cons (r := r) a b c d d' e lo t, s, hs => by
    rcases List.mem_cons.mp hs with rfl | hs
    · refine sm_of fun q hq => ?_
      rw [b] at hq
      by_cases h1 : q < p
      · rw [e q h1]; decide
      · by_cases h2 : q = p
        · subst h2; omega
        · exact lo.all t.rws q (by omega) hq
    · exact t.sm s hs
/-- steps are as they were -/
def steps : Nat → List Rg → List Int
  | _, [] => []
  | p, r :: rs => g r.1 p :: steps (p + 1) rs
theorem Low.steps : ∀ {l : Nat} {rs rs' : List Rg} {w : Nat → Int}, Low l rs w → SpM.steps l rs' = SpM.steps l rs → Low l rs' w
  | _, [], [], _, _, _ => trivial
  | l, [], s' :: rs', _, _, e => by cases e
  | l, s :: rs, [], _, _, e => by cases e
  | l, s :: rs, s' :: rs', w, ⟨a, b⟩, e => by
    have e' : g s'.1 l :: SpM.steps (l + 1) rs' = g s.1 l :: SpM.steps (l + 1) rs := e
    injection e' with e1 e2
    exact ⟨by rw [e1]; exact a, b.steps e2⟩
theorem redAll_ok {m : List Int} {k : Nat} : ∀ {p : Nat} {rs : List Rg}, Rws m k p rs → Fin m k p (redAll p rs) ∧ steps p (redAll p rs) = steps p rs ∧ (∀ x, In (rows rs) p x → In (rows (redAll p rs)) p x)
  | _, [], .nil => ⟨.nil, rfl, fun x h => h⟩
  | p, r :: rs, .cons a b c d d' e t => by
    obtain ⟨y1, y2, y3⟩ := redAll_ok t
    obtain ⟨x1, x2, x3, x4, x5⟩ := redOne_ok t b c
    have gp : g (redOne (p + 1) r rs).1 p = g r.1 p := x3 p (by omega)
    refine ⟨.cons a x1 x2 (by rw [gp]; exact d) (by rw [gp]; exact d') (fun q hq => by rw [x3 q (by omega)]; exact e q hq) (x5.steps y2) y1, ?_, fun x ⟨c0, h1, h2⟩ => ?_⟩
    · show g (redOne (p + 1) r rs).1 p :: steps (p + 1) (redAll (p + 1) rs) = g r.1 p :: steps (p + 1) rs
      rw [gp, y2]
    · have h1 : x p = c0 * g r.1 p := h1
      refine ⟨c0, by rw [gp]; exact h1, ?_⟩
      refine In.ext (In.comb c0 (y3 _ h2) (y3 _ x4)) fun q hq => ?_
      show x q - c0 * g (redOne (p + 1) r rs).1 q = x q - c0 * g r.1 q + c0 * (g r.1 q - g (redOne (p + 1) r rs).1 q)
      rw [Int.mul_sub]; omega
theorem redAll_lin {m : List Int} {k : Nat} {vs : List (List Int)} : ∀ {p : Nat} {rs : List Rg}, Rws m k p rs → AllLin m vs rs → AllLin m vs (redAll p rs)
  | _, [], .nil, _ => fun r hr => absurd hr List.not_mem_nil
  | p, r :: rs, .cons a b c d d' e t, h => fun s hs => by
    rcases List.mem_cons.mp hs with rfl | hs
    · exact redOne_lin t b c (h r List.mem_cons_self) fun u hu => h u (List.mem_cons_of_mem _ hu)
    · exact redAll_lin t (fun u hu => h u (List.mem_cons_of_mem _ hu)) s hs
theorem redAll_bd {m : List Int} {k C : Nat} : ∀ {p : Nat} {rs : List Rg}, Rws m k p rs → (∀ s ∈ rs, Bd 7 s.1) → AllBd C rs → AllBd (C + 7 + 9 * rs.length) (redAll p rs)
  | _, [], .nil, _, _ => fun r hr => absurd hr List.not_mem_nil
  | p, r :: rs, .cons a b c d d' e t, h, hC => fun s hs => by
    rcases List.mem_cons.mp hs with rfl | hs
    · have := (redOne_bd (b := 7) (c := C + 7 + 8 * rs.length) (C := C) t b c (fun u hu => h u (List.mem_cons_of_mem _ hu)) (fun u hu => hC u (List.mem_cons_of_mem _ hu)) (h r List.mem_cons_self) ((hC r List.mem_cons_self).mono (by omega)) (by omega)).2
      exact this.mono (by rw [List.length_cons]; omega)
    · exact (redAll_bd t (fun u hu => h u (List.mem_cons_of_mem _ hu)) (fun u hu => hC u (List.mem_cons_of_mem _ hu)) s hs).mono (by rw [List.length_cons]; omega)
theorem Rungs.bd7 {m : List Int} {k : Nat} : ∀ {p : Nat} {rs : List Rg}, Rungs m k p rs → ∀ s ∈ rs, Bd 7 s.1
  | _, _, .nil, s, hs => absurd hs List.not_mem_nil
  | _, _, .cons a b c d e f t, s, hs => by
    rcases List.mem_cons.mp hs with rfl | hs
    · exact d.bd
    · exact t.bd7 s hs

/-! ### the whole ladder -/
structure Vecs (m : List Int) (vs : List (List Int)) : Prop where
  mp : MP m
  lv : ∀ v ∈ vs, v.length = m.length
theorem laidV_all {m : List Int} {vs : List (List Int)} (h : Vecs m vs) : Rungs m vs.length 0 (laidV m vs.length 0 vs (rungs0 m vs.length)) ∧ AllBd (1 + 800 * m.length * vs.length) (laidV m vs.length 0 vs (rungs0 m vs.length)) := by
  have := laidV_ok h.mp vs 0 0 (rungs0 m vs.length) h.lv (rungs0_ok h.mp vs.length).1 (fun r hr => (rungs0_bd r hr).mono (by omega))
  simpa using this
theorem laid_fin {m : List Int} {vs : List (List Int)} (h : Vecs m vs) : Fin m vs.length 0 (laid m vs) := (redAll_ok (laidV_all h).1.rws).1
theorem laid_bd {m : List Int} {vs : List (List Int)} (h : Vecs m vs) : AllBd (8 + 800 * m.length * vs.length + 9 * m.length) (laid m vs) := by
  obtain ⟨a, b⟩ := laidV_all h
  have l := a.len
  have := redAll_bd a.rws a.bd7 b
  rw [Nat.zero_add] at l
  rw [l] at this
  intro r hr
  exact (this r hr).mono (by omega)
theorem laid_lin {m : List Int} {vs : List (List Int)} (h : Vecs m vs) : AllLin m vs (laid m vs) :=
  redAll_lin (laidV_all h).1.rws (laidV_lin h.mp vs vs 0 _ h.lv (fun i v hv => by simpa using hv) (rungs0_ok h.mp _).1 ⟨0, fun r hr => (rungs0_bd r hr).mono (by omega)⟩ (rungs0_lin vs))
theorem laid_in {m : List Int} {vs : List (List Int)} (h : Vecs m vs) : Cl m (rows (laid m vs)) 0 ∧ ∀ v ∈ vs, In (rows (laid m vs)) 0 (g v) := by
  obtain ⟨a, b⟩ := laidV_in h.mp vs 0 (rungs0 m vs.length) h.lv (rungs0_ok h.mp _).1 ⟨0, fun r hr => (rungs0_bd r hr).mono (by omega)⟩ (rungs0_ok h.mp _).2
  have r := (redAll_ok (laidV_all h).1.rws).2.2
  exact ⟨fun z hz => r z (a z ((rungs0_ok h.mp _).2 z hz)), fun v hv => r _ (b v hv)⟩

/-! ### what is left of a vector -/
theorem gd_ok {m : List Int} {k : Nat} : ∀ {p : Nat} {rs : List Rg} {s : Rg}, Rws m k p rs → s.1.length = m.length → s.2.length = k →
    (gdF p rs s).1.length = m.length ∧ (gdF p rs s).2.length = k ∧ (∀ q, q < p → g (gdF p rs s).1 q = g s.1 q) ∧ In (rows rs) p (fun q => g s.1 q - g (gdF p rs s).1 q) ∧ Low p rs (g (gdF p rs s).1) := by
  intro p rs
  induction rs generalizing p with
  | nil =>
    intro r h h1 h2
    exact ⟨h1, h2, fun _ _ => rfl, fun q hq => by show g r.1 q - g r.1 q = 0; omega, trivial⟩
  | cons s rs ih =>
    intro r h h1 h2
    cases h with
    | cons a b c d d' e t =>
      have l1 : r.1.length = s.1.length := h1.trans b.symm
      have l2 : r.2.length = s.2.length := h2.trans c.symm
      obtain ⟨x1, x2, x3, x4, x5⟩ := ih (s := (lessF r.1 s.1 (g r.1 p / g s.1 p), lessF r.2 s.2 (-(g r.1 p / g s.1 p)))) t ((less_len l1).trans h1) ((less_len l2).trans h2)
      have gs : ∀ q, g (lessF r.1 s.1 (g r.1 p / g s.1 p)) q = g r.1 q - g r.1 p / g s.1 p * g s.1 q := fun q => g_less _ q l1
      show (gdF (p + 1) rs (lessF r.1 s.1 (g r.1 p / g s.1 p), lessF r.2 s.2 (-(g r.1 p / g s.1 p)))).1.length = _ ∧ _
      refine ⟨x1, x2, fun q hq => ?_, ⟨g r.1 p / g s.1 p, ?_, x4.ext fun q hq => ?_⟩, ?_, x5⟩
      · show g (gdF (p + 1) rs (lessF r.1 s.1 (g r.1 p / g s.1 p), lessF r.2 s.2 (-(g r.1 p / g s.1 p)))).1 q = _
        rw [x3 q (by omega), gs, e q hq]; simp
      · show g r.1 p - g (gdF (p + 1) rs (lessF r.1 s.1 (g r.1 p / g s.1 p), lessF r.2 s.2 (-(g r.1 p / g s.1 p)))).1 p = _
        rw [x3 p (by omega), gs]; omega
      · show g r.1 q - g (gdF (p + 1) rs (lessF r.1 s.1 (g r.1 p / g s.1 p), lessF r.2 s.2 (-(g r.1 p / g s.1 p)))).1 q - g r.1 p / g s.1 p * g s.1 q = g (lessF r.1 s.1 (g r.1 p / g s.1 p)) q - g (gdF (p + 1) rs (lessF r.1 s.1 (g r.1 p / g s.1 p), lessF r.2 s.2 (-(g r.1 p / g s.1 p)))).1 q
        rw [gs]; omega
      · show 0 ≤ g (gdF (p + 1) rs (lessF r.1 s.1 (g r.1 p / g s.1 p), lessF r.2 s.2 (-(g r.1 p / g s.1 p)))).1 p ∧ g (gdF (p + 1) rs (lessF r.1 s.1 (g r.1 p / g s.1 p), lessF r.2 s.2 (-(g r.1 p / g s.1 p)))).1 p < _
        rw [x3 p (by omega), gs]
        have e1 : g r.1 p - g r.1 p / g s.1 p * g s.1 p = g r.1 p % g s.1 p := by rw [Int.emod_def, Int.mul_comm]
        rw [e1]
        exact ⟨Int.emod_nonneg _ (by omega), Int.emod_lt_of_pos _ d⟩
theorem gd_lin {m : List Int} {k : Nat} {vs : List (List Int)} {v : Nat → Int} : ∀ {p : Nat} {rs : List Rg} {s : Rg}, Rws m k p rs → s.1.length = m.length → s.2.length = k → AllLin m vs rs → (∀ q, g m q ∣ v q - g s.1 q - lin s.2 vs q) →
    ∀ q, g m q ∣ v q - g (gdF p rs s).1 q - lin (gdF p rs s).2 vs q := by
  intro p rs
  induction rs generalizing p with
  | nil => intro s _ _ _ _ h; exact h
  | cons r rs ih =>
    intro s h h1 h2 hl hs
    cases h with
    | cons a b c d d' e t =>
      have l1 : s.1.length = r.1.length := h1.trans b.symm
      have l2 : s.2.length = r.2.length := h2.trans c.symm
      refine ih (s := (lessF s.1 r.1 (g s.1 p / g r.1 p), lessF s.2 r.2 (-(g s.1 p / g r.1 p)))) t ((less_len l1).trans h1) ((less_len l2).trans h2) (fun u hu => hl u (List.mem_cons_of_mem _ hu)) fun q => ?_
      show g m q ∣ v q - g (lessF s.1 r.1 (g s.1 p / g r.1 p)) q - lin (lessF s.2 r.2 (-(g s.1 p / g r.1 p))) vs q
      rw [g_less _ q l1, lin_less _ _ vs _ q l2]
      have e0 : v q - (g s.1 q - g s.1 p / g r.1 p * g r.1 q) - (lin s.2 vs q - -(g s.1 p / g r.1 p) * lin r.2 vs q) = (v q - g s.1 q - lin s.2 vs q) + g s.1 p / g r.1 p * (g r.1 q - lin r.2 vs q) := by
        rw [Int.mul_sub, Int.neg_mul]; omega
      rw [e0]
      exact Int.dvd_add (hs q) (Int.dvd_mul_of_dvd_right (hl r List.mem_cons_self q))
/-- of what is spanned nothing is left -/
theorem gd_zero {m : List Int} {k : Nat} : ∀ {p : Nat} {rs : List Rg} {s : Rg}, Rws m k p rs → s.1.length = m.length → s.2.length = k → In (rows rs) p (g s.1) → (∀ q, q < p → g s.1 q = 0) → ∀ q, g (gdF p rs s).1 q = 0 := by
  intro p rs
  induction rs generalizing p with
  | nil =>
    intro s h h1 h2 hi hz q
    by_cases hq : q < p
    · exact hz q hq
    · exact hi q (by omega)
  | cons r rs ih =>
    intro s h h1 h2 hi hz
    cases h with
    | cons a b c d d' e t =>
      have l1 : s.1.length = r.1.length := h1.trans b.symm
      have l2 : s.2.length = r.2.length := h2.trans c.symm
      obtain ⟨n, e1, e2⟩ := hi
      have e1 : g s.1 p = n * g r.1 p := e1
      have en : g s.1 p / g r.1 p = n := by rw [e1]; exact Int.mul_ediv_cancel _ (by omega)
      have gs : ∀ q, g (lessF s.1 r.1 (g s.1 p / g r.1 p)) q = g s.1 q - n * g r.1 q := fun q => by rw [g_less _ q l1, en]
      refine ih (s := (lessF s.1 r.1 (g s.1 p / g r.1 p), lessF s.2 r.2 (-(g s.1 p / g r.1 p)))) t ((less_len l1).trans h1) ((less_len l2).trans h2) (In.ext e2 fun q _ => gs q) fun q hq => ?_
      show g (lessF s.1 r.1 (g s.1 p / g r.1 p)) q = 0
      rw [gs]
      by_cases hp : q = p
      · subst hp; omega
      · rw [hz q (by omega), e q (by omega)]; simp
theorem gd_bd {m : List Int} {k : Nat} : ∀ {p : Nat} {rs : List Rg} {s : Rg} {b c C : Nat}, Rws m k p rs → s.1.length = m.length → s.2.length = k → (∀ r ∈ rs, Bd 7 r.1) → AllBd C rs → Bd b s.1 → Bd c s.2 → C + b + 8 * rs.length ≤ c →
    Bd (b + 8 * rs.length) (gdF p rs s).1 ∧ Bd (c + rs.length) (gdF p rs s).2 := by
  intro p rs
  induction rs generalizing p with
  | nil => intro r b c C _ _ _ _ _ h1 h2 _; exact ⟨h1, h2⟩
  | cons s rs ih =>
    intro r b c C h h1 h2 hs hC hb hc hle
    cases h with
    | cons x1 x2 x3 d d' e t =>
      have l1 : r.1.length = s.1.length := h1.trans x2.symm
      have l2 : r.2.length = s.2.length := h2.trans x3.symm
      have ht : (g r.1 p / g s.1 p).natAbs < 2 ^ b := div_bd (hb.at p) d
      have k1 : Bd (b + 8) (lessF r.1 s.1 (g r.1 p / g s.1 p)) := (bd_less hb (hs s List.mem_cons_self) ht l1).mono (by omega)
      rw [List.length_cons] at hle
      have k2 : Bd (c + 1) (lessF r.2 s.2 (-(g r.1 p / g s.1 p))) := (bd_less hc (hC s List.mem_cons_self) (by rw [Int.natAbs_neg]; exact ht) l2).mono (by omega)
      obtain ⟨y1, y2⟩ := ih (s := (lessF r.1 s.1 (g r.1 p / g s.1 p), lessF r.2 s.2 (-(g r.1 p / g s.1 p)))) (b := b + 8) (c := c + 1) (C := C) t ((less_len l1).trans h1) ((less_len l2).trans h2) (fun u hu => hs u (List.mem_cons_of_mem _ hu)) (fun u hu => hC u (List.mem_cons_of_mem _ hu)) k1 k2 (by omega)
      exact ⟨y1.mono (by rw [List.length_cons]; omega), y2.mono (by rw [List.length_cons]; omega)⟩

/-! ### the least number that all divide -/
theorem lcmF_ok {f n : Int} (hf : 0 < f) (hn : 0 < n) : 0 < lcmF f n ∧ f ∣ lcmF f n ∧ n ∣ lcmF f n := by
  unfold lcmF
  have g0 : 0 < (Int.gcd f n : Int) := by
    have : Int.gcd f n ≠ 0 := fun h => by have := (Int.gcd_eq_zero_iff.mp h).1; omega
    omega
  obtain ⟨a, ha⟩ := Int.gcd_dvd_left f n
  obtain ⟨b, hb⟩ := Int.gcd_dvd_right f n
  have e : f / (Int.gcd f n : Int) = a := by
    conv => lhs; lhs; rw [ha]
    exact Int.mul_ediv_cancel_left _ (by omega)
  rw [e]
  have a0 : 0 < a := by
    have h : 0 < (Int.gcd f n : Int) * a := by rw [← ha]; exact hf
    rcases Int.lt_or_le 0 a with k | k
    · exact k
    · have := Int.mul_le_mul_of_nonneg_left k (Int.le_of_lt g0)
      rw [Int.mul_zero] at this
      omega
  refine ⟨Int.mul_pos a0 hn, ⟨b, ?_⟩, Int.dvd_mul_left _ _⟩
  conv => rhs; rw [ha]
  conv => lhs; rw [hb]
  rw [← Int.mul_assoc, Int.mul_comm a]
theorem common_go : ∀ (ns : List Int) (f : Int), 0 < f → (∀ n ∈ ns, 0 < n) → 0 < ns.foldl lcmF f ∧ f ∣ ns.foldl lcmF f ∧ ∀ n ∈ ns, n ∣ ns.foldl lcmF f
  | [], f, h, _ => ⟨h, Int.dvd_refl f, fun n hn => absurd hn List.not_mem_nil⟩
  | n :: ns, f, h, k => by
    obtain ⟨a, b, c⟩ := lcmF_ok h (k n List.mem_cons_self)
    obtain ⟨x, y, z⟩ := common_go ns (lcmF f n) a fun u hu => k u (List.mem_cons_of_mem _ hu)
    refine ⟨x, Int.dvd_trans b y, fun u hu => ?_⟩
    rcases List.mem_cons.mp hu with rfl | hu
    · exact Int.dvd_trans c y
    · exact z u hu
theorem common_ok {ns : List Int} (h : ∀ n ∈ ns, 0 < n) : 0 < common ns ∧ ∀ n ∈ ns, n ∣ common ns :=
  let ⟨a, _, c⟩ := common_go ns 1 (by decide) h
  ⟨a, c⟩

/-! ### sums -/
theorem lin_in {m : List Int} {vs : List (List Int)} (rs : List (List Int)) (p : Nat) (h : ∀ v ∈ vs, In rs p (g v)) : ∀ cs : List Int, In rs p (lin cs vs) := by
  induction vs with
  | nil => intro cs; exact In.zero.ext fun q _ => by simp [lin]
  | cons v vs ih =>
    intro cs
    cases cs with
    | nil => exact In.zero.ext fun q _ => by simp [lin]
    | cons c cs =>
      refine In.ext (In.comb c (ih (fun u hu => h u (List.mem_cons_of_mem _ hu)) cs) (h v List.mem_cons_self)) fun q _ => ?_
      simp only [lin, List.zipWith_cons_cons, List.sum_cons]
      omega
theorem lin_mod {w : Int} : ∀ (cs : List Int) (vs : List (List Int)) (q : Nat), w ∣ lin cs vs q - lin (cs.map (· % w)) vs q
  | [], vs, q => by simp [lin]
  | c :: cs, [], q => by simp [lin]
  | c :: cs, v :: vs, q => by
    have ih := lin_mod (w := w) cs vs q
    simp only [lin, List.map_cons, List.zipWith_cons_cons, List.sum_cons] at ih ⊢
    have e : c * g v q + (List.zipWith (fun c v => c * g v q) cs vs).sum - (c % w * g v q + (List.zipWith (fun c v => c * g v q) (List.map (fun x => x % w) cs) vs).sum) =
        (c - c % w) * g v q + ((List.zipWith (fun c v => c * g v q) cs vs).sum - (List.zipWith (fun c v => c * g v q) (List.map (fun x => x % w) cs) vs).sum) := by rw [Int.sub_mul]; omega
    rw [e]
    exact Int.dvd_add (Int.dvd_mul_of_dvd_left Int.dvd_self_sub_emod) ih
theorem lin_far {m : List Int} : ∀ {vs : List (List Int)} {cs : List Int} {q : Nat}, (∀ v ∈ vs, v.length = m.length) → m.length ≤ q → lin cs vs q = 0
  | [], cs, q, _, _ => by simp [lin]
  | v :: vs, [], q, _, _ => by simp [lin]
  | v :: vs, c :: cs, q, h, hq => by
    have := lin_far (m := m) (vs := vs) (cs := cs) (fun u hu => h u (List.mem_cons_of_mem _ hu)) hq
    simp only [lin, List.zipWith_cons_cons, List.sum_cons] at this ⊢
    rw [this, g_big v q (by rw [h v List.mem_cons_self]; omega)]; simp
theorem gone_ok {m : List Int} {vs : List (List Int)} (h : Vecs m vs) {v : List Int} (hv : v.length = m.length) :
    (goneDown vs.length (laid m vs) v).1.length = m.length ∧ (goneDown vs.length (laid m vs) v).2.length = vs.length ∧
    (∀ q, g m q ∣ g v q - g (goneDown vs.length (laid m vs) v).1 q - lin (goneDown vs.length (laid m vs) v).2 vs q) ∧
    In (rows (laid m vs)) 0 (fun q => g v q - g (goneDown vs.length (laid m vs) v).1 q) ∧ Low 0 (laid m vs) (g (goneDown vs.length (laid m vs) v).1) := by
  obtain ⟨a, b, _, c, d⟩ := gd_ok (s := (v, List.replicate vs.length 0)) (laid_fin h).rws hv (by simp)
  refine ⟨a, b, ?_, c, d⟩
  exact gd_lin (s := (v, List.replicate vs.length 0)) (v := g v) (laid_fin h).rws hv (by simp) (laid_lin h) fun q => by
    show g m q ∣ g v q - g v q - lin (List.replicate vs.length 0) vs q
    rw [lin_rep]; simp
theorem any_ne {xs : List Int} : xs.any (fun x => x != 0) = false ↔ ∀ q, g xs q = 0 := by
  rw [List.any_eq_false]
  constructor
  · intro h q
    by_cases hq : q < xs.length
    · have := h _ (g_mem xs q hq); simpa using this
    · exact g_big xs q (by omega)
  · intro h x hx
    obtain ⟨q, _, e⟩ := mem_g hx
    simp [← e, h q]
/-- what is told makes the vector -/
theorem sums_some {m : List Int} {vs : List (List Int)} (h : Vecs m vs) {v : List Int} (hv : v.length = m.length) {cs : List Int} (e : sumsF m vs v = some cs) :
    cs.length = vs.length ∧ (∀ c ∈ cs, 0 ≤ c ∧ c < common m) ∧ ∀ q, g m q ∣ g v q - lin cs vs q := by
  obtain ⟨a, b, c, _, _⟩ := gone_ok h hv
  unfold sumsF at e
  split at e
  · cases e
  · rename_i hn
    have hz := any_ne.mp (by simpa using hn)
    cases e
    obtain ⟨w0, wd⟩ := common_ok (ns := m) fun n hn => by
      obtain ⟨q, hq, e⟩ := mem_g hn
      rw [← e]; exact (h.mp q hq).1
    refine ⟨by simp [b], fun c hc => ?_, fun q => ?_⟩
    · obtain ⟨d, _, rfl⟩ := List.mem_map.mp hc
      exact ⟨Int.emod_nonneg _ (by omega), Int.emod_lt_of_pos _ w0⟩
    · have d1 : g m q ∣ common m ∨ g m q = 0 := by
        by_cases hq : q < m.length
        · exact .inl (wd _ (g_mem m q hq))
        · exact .inr (g_big m q (by omega))
      have k := c q
      rw [hz q] at k
      by_cases hq : q < m.length
      · have d1 := wd _ (g_mem m q hq)
        have k2 := Int.dvd_trans d1 (lin_mod (w := common m) (goneDown vs.length (laid m vs) v).2 vs q)
        have := Int.dvd_add k k2
        have e : g v q - 0 - lin (goneDown vs.length (laid m vs) v).2 vs q + (lin (goneDown vs.length (laid m vs) v).2 vs q - lin ((goneDown vs.length (laid m vs) v).2.map (· % common m)) vs q) = g v q - lin ((goneDown vs.length (laid m vs) v).2.map (· % common m)) vs q := by omega
        rwa [e] at this
      · rw [lin_far (m := m) h.lv (by omega), g_big v q (by omega)]; simp
/-- None is told of what no numbers make -/
theorem sums_none {m : List Int} {vs : List (List Int)} (h : Vecs m vs) {v : List Int} (hv : v.length = m.length) (e : sumsF m vs v = none) (cs : List Int) (hc : ∀ q, g m q ∣ g v q - lin cs vs q) : False := by
  obtain ⟨cl, iv⟩ := laid_in h
  have hi : In (rows (laid m vs)) 0 (g v) := (lin_in (m := m) (rows (laid m vs)) 0 iv cs).cong cl fun q _ => hc q
  have z := gd_zero (s := (v, List.replicate vs.length 0)) (laid_fin h).rws hv (by simp) hi fun q hq => absurd hq (Nat.not_lt_zero q)
  unfold sumsF at e
  rw [show (goneDown vs.length (laid m vs) v).1.any (fun x => x != 0) = false from any_ne.mpr z] at e
  cases e
end SpM

set_option autoImplicit false
/-! What the laws of spans reckon by hand: sums by rests; all that is spanned, gone through. -/
namespace SpM

def summedF (m : List Int) (vs : List (List Int)) (cs : List Int) : List Int := (List.range m.length).map fun q => lin cs vs q % g m q
theorem g_range {n : Nat} (f : Nat → Int) (q : Nat) : g ((List.range n).map f) q = if q < n then f q else 0 := by
  by_cases h : q < n
  · rw [if_pos h]
    exact g_get (by rw [List.getElem?_map, List.getElem?_range h]; rfl)
  · rw [if_neg h, g_big _ _ (by simp; omega)]
theorem g_summed {m : List Int} {vs : List (List Int)} {cs : List Int} {q : Nat} (h : q < m.length) : g (summedF m vs cs) q = lin cs vs q % g m q := by
  unfold summedF
  rw [g_range, if_pos h]
theorem summed_len (m : List Int) (vs : List (List Int)) (cs : List Int) : (summedF m vs cs).length = m.length := by simp [summedF]
structure Box (m x : List Int) : Prop where
  len : x.length = m.length
  lo : ∀ q, q < m.length → 0 ≤ g x q ∧ g x q < g m q
abbrev Pos (m : List Int) : Prop := ∀ q, q < m.length → 0 < g m q
theorem summed_box {m : List Int} (mp : Pos m) (vs : List (List Int)) (cs : List Int) : Box m (summedF m vs cs) := ⟨summed_len m vs cs, fun q hq => by
  rw [g_summed hq]
  have := mp q hq
  exact ⟨Int.emod_nonneg _ (by omega), Int.emod_lt_of_pos _ this⟩⟩
theorem Box.ext {m x y : List Int} (hx : Box m x) (hy : Box m y) (h : ∀ q, q < m.length → g m q ∣ g x q - g y q) : x = y :=
  ext_g (hx.len.trans hy.len.symm) fun q hq => by
    rw [hx.len] at hq
    have a := hx.lo q hq
    have b := hy.lo q hq
    have c := Int.emod_emod_of_dvd 0 (Int.dvd_refl 1)
    have d := (Int.emod_eq_emod_iff_emod_sub_eq_zero (m := g x q) (n := g m q) (k := g y q)).mpr (Int.emod_eq_zero_of_dvd (h q hq))
    rw [Int.emod_eq_of_lt a.1 a.2, Int.emod_eq_of_lt b.1 b.2] at d
    exact d
theorem lin1 (v : List Int) (c : Int) (q : Nat) : lin [c] [v] q = c * g v q := by simp [lin]
theorem lin2 (v w : List Int) (c d : Int) (q : Nat) : lin [c, d] [v, w] q = c * g v q + d * g w q := by simp [lin]
/-- so often one vector, by rests; two vectors together -/
abbrev mulV (m a : List Int) (c : Int) : List Int := summedF m [a] [c]
abbrev addV (m x y : List Int) : List Int := summedF m [x, y] [1, 1]
theorem mul_step {m a : List Int} (mp : Pos m) (c : Int) : addV m (mulV m a c) a = mulV m a (c + 1) :=
  (summed_box mp _ _).ext (summed_box mp _ _) fun q hq => by
    rw [g_summed hq, g_summed hq, lin2, lin1, g_summed hq, lin1]
    have e : ∀ x y z : Int, z ∣ x - x % z := fun x y z => Int.dvd_self_sub_emod
    have k1 : g m q ∣ (1 * (c * g a q % g m q) + 1 * g a q) - (1 * (c * g a q % g m q) + 1 * g a q) % g m q := Int.dvd_self_sub_emod
    have k2 : g m q ∣ (c + 1) * g a q - (c + 1) * g a q % g m q := Int.dvd_self_sub_emod
    have k3 : g m q ∣ c * g a q - c * g a q % g m q := Int.dvd_self_sub_emod
    have := Int.dvd_sub (Int.dvd_sub k2 k1) k3
    have e2 : (c + 1) * g a q = c * g a q + g a q := by rw [Int.add_mul, Int.one_mul]
    rw [show (1 * (c * g a q % g m q) + 1 * g a q) % g m q - (c + 1) * g a q % g m q = ((c + 1) * g a q - (c + 1) * g a q % g m q - ((1 * (c * g a q % g m q) + 1 * g a q) - (1 * (c * g a q % g m q) + 1 * g a q) % g m q)) - (c * g a q - c * g a q % g m q) by rw [e2]; omega]
    exact this
/-- a vector below the moduli that numbers make -/
def SpS (m : List Int) (vs : List (List Int)) (x : List Int) : Prop := Box m x ∧ ∃ cs, cs.length = vs.length ∧ ∀ q, q < m.length → g m q ∣ g x q - lin cs vs q
structure IsSpan (m : List Int) (vs : List (List Int)) (sp : List (List Int)) : Prop where
  nd : sp.Nodup
  mem : ∀ x, x ∈ sp ↔ SpS m vs x
def blk (m : List Int) (sp : List (List Int)) (a : List Int) : Nat → List (List Int)
  | 0 => []
  | c + 1 => blk m sp a c ++ sp.map fun x => addV m x (mulV m a (c : Int))
theorem mem_blk {m : List Int} {sp : List (List Int)} {a x : List Int} : ∀ {c : Nat}, x ∈ blk m sp a c ↔ ∃ j, j < c ∧ ∃ y, y ∈ sp ∧ x = addV m y (mulV m a (j : Int))
  | 0 => by simp [blk]
  | c + 1 => by
    unfold blk
    rw [List.mem_append, mem_blk, List.mem_map]
    constructor
    · rintro (⟨j, h, y, hy, e⟩ | ⟨y, hy, e⟩)
      · exact ⟨j, by omega, y, hy, e⟩
      · exact ⟨c, by omega, y, hy, e.symm⟩
    · rintro ⟨j, h, y, hy, e⟩
      by_cases hj : j = c
      · subst hj; exact .inr ⟨y, hy, e.symm⟩
      · exact .inl ⟨j, by omega, y, hy, e⟩
theorem add_dvd {m x y : List Int} {q : Nat} (hq : q < m.length) : g m q ∣ g (addV m x y) q - (g x q + g y q) := by
  rw [g_summed hq, lin2, Int.one_mul, Int.one_mul]
  have : g m q ∣ (g x q + g y q) - (g x q + g y q) % g m q := Int.dvd_self_sub_emod
  have := Int.dvd_neg.mpr this
  rwa [Int.neg_sub] at this
theorem mul_dvd {m a : List Int} {c : Int} {q : Nat} (hq : q < m.length) : g m q ∣ g (mulV m a c) q - c * g a q := by
  rw [g_summed hq, lin1]
  have : g m q ∣ c * g a q - c * g a q % g m q := Int.dvd_self_sub_emod
  have := Int.dvd_neg.mpr this
  rwa [Int.neg_sub] at this
theorem add_zero {m a x : List Int} (mp : Pos m) (hx : Box m x) : addV m x (mulV m a 0) = x :=
  (summed_box mp _ _).ext hx fun q hq => by
    have h1 := add_dvd (x := x) (y := mulV m a 0) hq
    have h2 := mul_dvd (a := a) (c := 0) hq
    have := Int.dvd_add h1 h2
    rw [show g (addV m x (mulV m a 0)) q - (g x q + g (mulV m a 0) q) + (g (mulV m a 0) q - 0 * g a q) = g (addV m x (mulV m a 0)) q - g x q by omega] at this
    exact this
theorem blk_one {m a : List Int} {vs : List (List Int)} {sp : List (List Int)} (mp : Pos m) (h : IsSpan m vs sp) : blk m sp a 1 = sp := by
  show [] ++ sp.map _ = sp
  rw [List.nil_append]
  conv => rhs; rw [← List.map_id sp]
  apply List.map_congr_left
  intro x hx
  exact add_zero mp ((h.mem x).mp hx).1
theorem lin_snoc (a : List Int) (t : Int) (q : Nat) : ∀ (cs : List Int) (vs : List (List Int)), cs.length = vs.length → lin (cs ++ [t]) (vs ++ [a]) q = lin cs vs q + t * g a q
  | [], [], _ => by simp [lin]
  | [], _ :: _, h => by simp at h
  | _ :: _, [], h => by simp at h
  | c :: cs, v :: vs, h => by
    have ih := lin_snoc a t q cs vs (by simpa using h)
    simp only [lin, List.cons_append, List.zipWith_cons_cons, List.sum_cons] at ih ⊢
    rw [ih]; omega
theorem SpS.box {m : List Int} {vs : List (List Int)} {x : List Int} (h : SpS m vs x) : Box m x := h.1
/-- what comes apart by a number of the vector is spanned -/
theorem sps_sub {m : List Int} {vs : List (List Int)} {x y z : List Int} (hx : SpS m vs x) (hy : SpS m vs y) (t : Int) (bz : Box m z) (h : ∀ q, q < m.length → g m q ∣ g z q - (g x q - t * g y q)) : SpS m vs z := by
  obtain ⟨_, cs, lc, hc⟩ := hx
  obtain ⟨_, ds, ld, hd⟩ := hy
  refine ⟨bz, lessF cs ds t, (less_len (lc.trans ld.symm)).trans lc, fun q hq => ?_⟩
  rw [lin_less cs ds vs t q (lc.trans ld.symm)]
  have := Int.dvd_sub (Int.dvd_add (h q hq) (hc q hq)) (show g m q ∣ t * (g y q - lin ds vs q) from Int.dvd_mul_of_dvd_right (hd q hq))
  rw [show g z q - (g x q - t * g y q) + (g x q - lin cs vs q) - t * (g y q - lin ds vs q) = g z q - (lin cs vs q - t * lin ds vs q) by rw [Int.mul_sub]; omega] at this
  exact this
theorem blk_nodup {m a : List Int} {vs : List (List Int)} {sp : List (List Int)} (mp : Pos m) (h : IsSpan m vs sp) : ∀ c : Nat, (∀ j : Nat, 1 ≤ j → j < c → mulV m a (j : Int) ∉ sp) → (blk m sp a c).Nodup
  | 0, _ => List.nodup_nil
  | c + 1, hc => by
    unfold blk
    have inj : ∀ x y, x ∈ sp → y ∈ sp → ∀ j j' : Nat, addV m x (mulV m a (j : Int)) = addV m y (mulV m a (j' : Int)) → SpS m vs (mulV m a ((j' : Int) - (j : Int))) ∧ (j = j' → x = y) := by
      intro x y hx hy j j' e
      have hx' := (h.mem x).mp hx
      have hy' := (h.mem y).mp hy
      have key : ∀ q, q < m.length → g m q ∣ (g x q + (j : Int) * g a q) - (g y q + (j' : Int) * g a q) := fun q hq => by
        have h1 := add_dvd (x := x) (y := mulV m a (j : Int)) hq
        have h2 := mul_dvd (a := a) (c := (j : Int)) hq
        have h3 := add_dvd (x := y) (y := mulV m a (j' : Int)) hq
        have h4 := mul_dvd (a := a) (c := (j' : Int)) hq
        rw [e] at h1
        have := Int.dvd_sub (Int.dvd_add h3 h4) (Int.dvd_add h1 h2)
        rw [show g (addV m y (mulV m a (j' : Int))) q - (g y q + g (mulV m a (j' : Int)) q) + (g (mulV m a (j' : Int)) q - (j' : Int) * g a q) - (g (addV m y (mulV m a (j' : Int))) q - (g x q + g (mulV m a (j : Int)) q) + (g (mulV m a (j : Int)) q - (j : Int) * g a q)) = g x q + (j : Int) * g a q - (g y q + (j' : Int) * g a q) by omega] at this
        exact this
      refine ⟨sps_sub hx' hy' 1 (summed_box mp _ _) fun q hq => ?_, fun ej => ?_⟩
      · have h5 := mul_dvd (a := a) (c := (j' : Int) - (j : Int)) hq
        have := Int.dvd_sub h5 (key q hq)
        rw [show g (mulV m a ((j' : Int) - (j : Int))) q - ((j' : Int) - (j : Int)) * g a q - (g x q + (j : Int) * g a q - (g y q + (j' : Int) * g a q)) = g (mulV m a ((j' : Int) - (j : Int))) q - (g x q - 1 * g y q) by rw [Int.sub_mul]; omega] at this
        exact this
      · subst ej
        exact hx'.1.ext hy'.1 fun q hq => by
          have := key q hq
          rwa [show g x q + (j : Int) * g a q - (g y q + (j : Int) * g a q) = g x q - g y q by omega] at this
    rw [List.nodup_append]
    refine ⟨blk_nodup mp h c fun j h1 h2 => hc j h1 (by omega), ?_, ?_⟩
    · have : ∀ l : List (List Int), l.Nodup → (∀ x ∈ l, x ∈ sp) → (l.map fun x => addV m x (mulV m a (c : Int))).Nodup := by
        intro l
        induction l with
        | nil => intro _ _; exact List.nodup_nil
        | cons x l ih =>
          intro hn hs
          rw [List.nodup_cons] at hn
          rw [List.map_cons, List.nodup_cons]
          refine ⟨fun hm => ?_, ih hn.2 fun y hy => hs y (List.mem_cons_of_mem _ hy)⟩
          obtain ⟨y, hy, e⟩ := List.mem_map.mp hm
          have := (inj y x (hs y (List.mem_cons_of_mem _ hy)) (hs x List.mem_cons_self) c c e).2 rfl
          subst this
          exact hn.1 hy
      exact this sp h.nd fun x hx => hx
    · intro x hx y hy e
      subst e
      obtain ⟨j, hj, z, hz, e1⟩ := mem_blk.mp hx
      obtain ⟨z', hz', e2⟩ := List.mem_map.mp hy
      have := (inj z z' hz hz' j c (e1.symm.trans e2.symm)).1
      rw [show (c : Int) - (j : Int) = ((c - j : Nat) : Int) by omega] at this
      exact hc (c - j) (by omega) (by omega) ((h.mem _).mpr this)
theorem blk_span {m a : List Int} {vs : List (List Int)} {sp : List (List Int)} (mp : Pos m) (h : IsSpan m vs sp) {c : Nat} (c1 : 1 ≤ c) (hc : mulV m a (c : Int) ∈ sp) (hn : ∀ j : Nat, 1 ≤ j → j < c → mulV m a (j : Int) ∉ sp) : IsSpan m (vs ++ [a]) (blk m sp a c) := by
  refine ⟨blk_nodup mp h c hn, fun x => ?_⟩
  rw [mem_blk]
  constructor
  · rintro ⟨j, hj, y, hy, rfl⟩
    obtain ⟨by1, cs, lc, h1⟩ := (h.mem y).mp hy
    refine ⟨summed_box mp _ _, cs ++ [(j : Int)], by simp [lc], fun q hq => ?_⟩
    rw [lin_snoc a _ q cs vs lc]
    have h2 := add_dvd (x := y) (y := mulV m a (j : Int)) hq
    have h3 := mul_dvd (a := a) (c := (j : Int)) hq
    have := Int.dvd_add (Int.dvd_add h2 h3) (h1 q hq)
    rw [show g (addV m y (mulV m a (j : Int))) q - (g y q + g (mulV m a (j : Int)) q) + (g (mulV m a (j : Int)) q - (j : Int) * g a q) + (g y q - lin cs vs q) = g (addV m y (mulV m a (j : Int))) q - (lin cs vs q + (j : Int) * g a q) by omega] at this
    exact this
  · rintro ⟨bx, cs, lc, h1⟩
    obtain ⟨bc, ds, ld, h2⟩ := (h.mem _).mp hc
    -- cs = cs' ++ [t]
    have hne : cs ≠ [] := fun e => by subst e; simp at lc
    obtain ⟨cs', t, rfl⟩ : ∃ cs' t, cs = cs' ++ [t] := ⟨cs.dropLast, cs.getLast hne, (List.dropLast_concat_getLast hne).symm⟩
    have lc' : cs'.length = vs.length := by simpa using lc
    have cpos : (0 : Int) < (c : Int) := by omega
    have r0 := Int.emod_nonneg t (show (c : Int) ≠ 0 by omega)
    have r1 := Int.emod_lt_of_pos t cpos
    have te := Int.mul_ediv_add_emod t (c : Int)
    refine ⟨(t % (c : Int)).toNat, by omega, summedF m [x, a] [1, -(t % (c : Int))], ?_, ?_⟩
    · refine (h.mem _).mpr ⟨summed_box mp _ _, lessF cs' ds (-(t / (c : Int))), (less_len (lc'.trans ld.symm)).trans lc', fun q hq => ?_⟩
      rw [lin_less cs' ds vs _ q (lc'.trans ld.symm), g_summed hq, lin2]
      have k1 := h1 q hq
      rw [lin_snoc a t q cs' vs lc'] at k1
      have k2 := h2 q hq
      have k3 := mul_dvd (a := a) (c := (c : Int)) hq
      have k4 : g m q ∣ (1 * g x q + -(t % (c : Int)) * g a q) - (1 * g x q + -(t % (c : Int)) * g a q) % g m q := Int.dvd_self_sub_emod
      have := Int.dvd_sub (Int.dvd_add k1 (show g m q ∣ t / (c : Int) * _ from Int.dvd_mul_of_dvd_right (Int.dvd_sub k2 k3))) k4
      have e2 : t * g a q = (c : Int) * (t / (c : Int)) * g a q + t % (c : Int) * g a q := by rw [← Int.add_mul, te]
      rw [show (1 * g x q + -(t % (c : Int)) * g a q) % g m q - (lin cs' vs q - -(t / (c : Int)) * lin ds vs q) = g x q - (lin cs' vs q + t * g a q) + t / (c : Int) * (g (mulV m a (c : Int)) q - lin ds vs q - (g (mulV m a (c : Int)) q - (c : Int) * g a q)) - (1 * g x q + -(t % (c : Int)) * g a q - (1 * g x q + -(t % (c : Int)) * g a q) % g m q) by
        rw [e2]
        have e3 : t / (c : Int) * (g (mulV m a (c : Int)) q - lin ds vs q - (g (mulV m a (c : Int)) q - (c : Int) * g a q)) = (c : Int) * (t / (c : Int)) * g a q - t / (c : Int) * lin ds vs q := by
          rw [show g (mulV m a (c : Int)) q - lin ds vs q - (g (mulV m a (c : Int)) q - (c : Int) * g a q) = (c : Int) * g a q - lin ds vs q by omega, Int.mul_sub, ← Int.mul_assoc, Int.mul_comm (t / (c : Int))]
        rw [e3, Int.neg_mul, Int.neg_mul]
        omega]
      exact this
    · refine bx.ext (summed_box mp _ _) fun q hq => ?_
      have k2 := add_dvd (x := summedF m [x, a] [1, -(t % (c : Int))]) (y := mulV m a ((t % (c : Int)).toNat : Int)) hq
      have k3 := mul_dvd (a := a) (c := ((t % (c : Int)).toNat : Int)) hq
      rw [show (((t % (c : Int)).toNat : Nat) : Int) = t % (c : Int) by omega] at k2 k3 ⊢
      have k4 : g m q ∣ (1 * g x q + -(t % (c : Int)) * g a q) - (1 * g x q + -(t % (c : Int)) * g a q) % g m q := Int.dvd_self_sub_emod
      have := Int.dvd_neg.mpr (Int.dvd_sub (Int.dvd_add k2 k3) k4)
      rw [g_summed (vs := [x, a]) hq, lin2] at this
      rw [show -(g (addV m (summedF m [x, a] [1, -(t % (c : Int))]) (mulV m a (t % (c : Int)))) q - ((1 * g x q + -(t % (c : Int)) * g a q) % g m q + g (mulV m a (t % (c : Int))) q) + (g (mulV m a (t % (c : Int))) q - t % (c : Int) * g a q) - (1 * g x q + -(t % (c : Int)) * g a q - (1 * g x q + -(t % (c : Int)) * g a q) % g m q)) = g x q - g (addV m (summedF m [x, a] [1, -(t % (c : Int))]) (mulV m a (t % (c : Int)))) q by rw [Int.neg_mul]; omega] at this
      exact this
/-! ### how many there are at most -/
def box : List Int → List (List Int)
  | [] => [[]]
  | s :: m => (box m).flatMap fun t => (List.range s.toNat).map fun (i : Nat) => (i : Int) :: t
def prodL (ns : List Int) : Int := ns.foldl (· * ·) 1
theorem prod_go : ∀ (ns : List Int) (f : Int), ns.foldl (· * ·) f = f * prodL ns
  | [], f => by simp [prodL]
  | n :: ns, f => by
    have h1 := prod_go ns (f * n)
    have h2 := prod_go ns (1 * n)
    unfold prodL
    rw [List.foldl_cons, List.foldl_cons, h1, h2, Int.one_mul, Int.mul_assoc]
theorem prod_cons (n : Int) (ns : List Int) : prodL (n :: ns) = n * prodL ns := by
  have := prod_go ns (1 * n)
  rw [Int.one_mul] at this
  unfold prodL
  rw [List.foldl_cons, Int.one_mul]
  exact this
theorem prod_snoc (n : Int) (ns : List Int) : prodL (ns ++ [n]) = prodL ns * n := by
  unfold prodL
  rw [List.foldl_append]; rfl
theorem box_mem : ∀ {m x : List Int}, Box m x → x ∈ box m
  | [], x, h => by
    have := h.len
    cases x with
    | nil => exact List.mem_singleton.mpr rfl
    | cons a b => simp at this
  | s :: m, x, h => by
    have hl := h.len
    cases x with
    | nil => simp at hl
    | cons a t =>
      have ht : Box m t := ⟨by simpa using hl, fun q hq => by have := h.lo (q + 1) (by simp; omega); simpa [g_succ] using this⟩
      have ha := h.lo 0 (by simp)
      rw [g_zero, g_zero] at ha
      refine List.mem_flatMap.mpr ⟨t, box_mem ht, List.mem_map.mpr ⟨a.toNat, List.mem_range.mpr (by omega), ?_⟩⟩
      rw [Int.toNat_of_nonneg ha.1]
theorem box_len : ∀ {m : List Int}, (∀ n ∈ m, 0 < n) → ((box m).length : Int) = prodL m
  | [], _ => rfl
  | s :: m, h => by
    have hs := h s List.mem_cons_self
    have ih := box_len (m := m) fun n hn => h n (List.mem_cons_of_mem _ hn)
    rw [prod_cons, ← ih]
    show (((box m).flatMap fun t => (List.range s.toNat).map fun (i : Nat) => ((i : Int) :: t)).length : Int) = s * ((box m).length : Int)
    have : ∀ l : List (List Int), (l.flatMap fun t => (List.range s.toNat).map fun (i : Nat) => ((i : Int) :: t)).length = l.length * s.toNat := by
      intro l
      induction l with
      | nil => simp
      | cons a l ih => rw [List.flatMap_cons, List.length_append, ih]; simp [Nat.succ_mul]; omega
    rw [this, Int.natCast_mul, Int.mul_comm]
    congr 1
    omega
theorem nodup_le {α : Type} [DecidableEq α] : ∀ (l u : List α), l.Nodup → (∀ x ∈ l, x ∈ u) → l.length ≤ u.length
  | [], _, _, _ => Nat.zero_le _
  | x :: l, u, hn, hs => by
    rw [List.nodup_cons] at hn
    have hx := hs x List.mem_cons_self
    have := nodup_le l (u.erase x) hn.2 fun y hy => (List.mem_erase_of_ne (fun e => by subst e; exact hn.1 hy)).mpr (hs y (List.mem_cons_of_mem _ hy))
    rw [List.length_erase_of_mem hx] at this
    have pos : 0 < u.length := List.length_pos_of_mem hx
    rw [List.length_cons]; omega
theorem boxes_le {m : List Int} (mp : ∀ n ∈ m, 0 < n) {l : List (List Int)} (hn : l.Nodup) (hb : ∀ x ∈ l, Box m x) : (l.length : Int) ≤ prodL m := by
  have := nodup_le l (box m) hn fun x hx => box_mem (hb x hx)
  rw [← box_len mp]; omega
theorem pos_of {m : List Int} (h : ∀ n ∈ m, 0 < n) : Pos m := fun q hq => h _ (g_mem m q hq)
theorem blk_le {m a : List Int} {vs : List (List Int)} {sp : List (List Int)} (mp : ∀ n ∈ m, 0 < n) (h : IsSpan m vs sp) (c : Nat) (hn : ∀ j : Nat, 1 ≤ j → j < c → mulV m a (j : Int) ∉ sp) : ((blk m sp a c).length : Int) ≤ prodL m :=
  boxes_le mp (blk_nodup (pos_of mp) h c hn) fun x hx => by
    obtain ⟨j, _, y, _, rfl⟩ := mem_blk.mp hx
    exact summed_box (pos_of mp) _ _
/-- often enough nothing is left -/
theorem mul_common {m a : List Int} {vs : List (List Int)} {sp : List (List Int)} (mp : ∀ n ∈ m, 0 < n) (h : IsSpan m vs sp) : mulV m a (common m) ∈ sp := by
  refine (h.mem _).mpr ⟨summed_box (pos_of mp) _ _, List.replicate vs.length 0, by simp, fun q hq => ?_⟩
  rw [lin_rep, Int.sub_zero]
  have h1 := mul_dvd (m := m) (a := a) (c := common m) hq
  have h2 : g m q ∣ common m * g a q := Int.dvd_mul_of_dvd_left ((common_ok mp).2 _ (g_mem m q hq))
  have := Int.dvd_add h1 h2
  rwa [show g (mulV m a (common m)) q - common m * g a q + common m * g a q = g (mulV m a (common m)) q by omega] at this
theorem span_nil {m : List Int} (mp : ∀ n ∈ m, 0 < n) : IsSpan m [] [List.replicate m.length 0] := by
  have gz : ∀ q, g (List.replicate m.length (0 : Int)) q = 0 := fun q => by
    by_cases hq : q < m.length
    · exact g_get (by rw [List.getElem?_replicate, if_pos hq])
    · exact g_big _ _ (by simp; omega)
  refine ⟨by simp, fun x => ?_⟩
  rw [List.mem_singleton]
  constructor
  · rintro rfl
    exact ⟨⟨by simp, fun q hq => by rw [gz]; exact ⟨Int.le_refl 0, pos_of mp q hq⟩⟩, [], rfl, fun q _ => by rw [gz]; simp [lin]⟩
  · rintro ⟨b, cs, lc, h⟩
    have e : cs = [] := by cases cs with | nil => rfl | cons a b => simp at lc
    subst e
    refine b.ext ⟨by simp, fun q hq => by rw [gz]; exact ⟨Int.le_refl 0, pos_of mp q hq⟩⟩ fun q hq => ?_
    have := h q hq
    rw [gz]
    simpa [lin] using this
/-! ### a sum is told just of what is spanned -/
theorem mem_sums {m : List Int} {vs : List (List Int)} {sp : List (List Int)} (hV : Vecs m vs) (h : IsSpan m vs sp) {v : List Int} (hv : v.length = m.length) : mulV m v 1 ∈ sp ↔ (sumsF m vs v).isSome = true := by
  have mp : Pos m := fun q hq => (hV.mp q hq).1
  constructor
  · intro hm
    obtain ⟨_, cs, lc, h1⟩ := (h.mem _).mp hm
    cases e : sumsF m vs v with
    | some cs => rfl
    | none =>
      refine (sums_none hV hv e cs fun q => ?_).elim
      by_cases hq : q < m.length
      · have k1 := h1 q hq
        have k2 := mul_dvd (m := m) (a := v) (c := 1) hq
        have := Int.dvd_sub k1 k2
        rwa [show g (mulV m v 1) q - lin cs vs q - (g (mulV m v 1) q - 1 * g v q) = g v q - lin cs vs q by omega] at this
      · rw [lin_far (m := m) hV.lv (by omega), g_big v q (by omega)]; simp
  · intro hs
    cases e : sumsF m vs v with
    | none => rw [e] at hs; cases hs
    | some cs =>
      obtain ⟨a, _, b⟩ := sums_some hV hv e
      refine (h.mem _).mpr ⟨summed_box mp _ _, cs, a, fun q hq => ?_⟩
      have k2 := mul_dvd (m := m) (a := v) (c := 1) hq
      have := Int.dvd_add k2 (b q)
      rwa [show g (mulV m v 1) q - 1 * g v q + (g v q - lin cs vs q) = g (mulV m v 1) q - lin cs vs q by omega] at this
theorem sums_is {m : List Int} {vs : List (List Int)} (hV : Vecs m vs) {v cs : List Int} (hv : v.length = m.length) (h : ∀ q, q < m.length → g m q ∣ g v q - lin cs vs q) : (sumsF m vs v).isSome = true := by
  cases e : sumsF m vs v with
  | some cs => rfl
  | none =>
    refine (sums_none hV hv e cs fun q => ?_).elim
    by_cases hq : q < m.length
    · exact h q hq
    · rw [lin_far (m := m) hV.lv (by omega), g_big v q (by omega)]; simp
theorem lcmF_le {f n : Int} (hf : 0 < f) (hn : 0 < n) : lcmF f n ≤ f * n := by
  unfold lcmF
  have : f / (Int.gcd f n : Int) ≤ f := Int.ediv_le_self _ (by omega)
  exact Int.mul_le_mul_of_nonneg_right this (by omega)
theorem common_le : ∀ (ns : List Int) (f : Int), 0 < f → (∀ n ∈ ns, 0 < n ∧ n ≤ 100) → ns.foldl lcmF f ≤ f * 100 ^ ns.length
  | [], f, _, _ => by simp
  | n :: ns, f, hf, h => by
    have h1 := h n List.mem_cons_self
    have h2 := lcmF_le hf h1.1
    have h3 := (common_go ns (lcmF f n) (lcmF_ok hf h1.1).1 fun x hx => (h x (List.mem_cons_of_mem _ hx)).1)
    have ih := common_le ns (lcmF f n) (lcmF_ok hf h1.1).1 fun x hx => h x (List.mem_cons_of_mem _ hx)
    have p : (0 : Int) ≤ 100 ^ ns.length := Int.le_of_lt (Int.pow_pos (by decide))
    have h4 : f * n ≤ f * 100 := Int.mul_le_mul_of_nonneg_left h1.2 (by omega)
    rw [List.foldl_cons, List.length_cons, Int.pow_succ, Int.mul_comm (100 ^ ns.length), ← Int.mul_assoc]
    exact Int.le_trans ih (Int.mul_le_mul_of_nonneg_right (Int.le_trans h2 h4) p)
theorem common_lt {m : List Int} (h : ∀ n ∈ m, 0 < n ∧ n ≤ 100) (hl : m.length ≤ 12) : common m < 2 ^ 100 := by
  have h1 := common_le m 1 (by decide) h
  rw [Int.one_mul] at h1
  have h2 : (100 : Int) ^ m.length ≤ 100 ^ 12 := (show ∀ k : Nat, k < 13 → (100 : Int) ^ k ≤ 100 ^ 12 by decide) _ (by omega)
  have h3 : (100 : Int) ^ 12 < 2 ^ 100 := by decide
  unfold common
  omega
theorem summed_eq {m : List Int} {vs : List (List Int)} {v cs : List Int} (h : ∀ q, q < m.length → g m q ∣ g v q - lin cs vs q) : summedF m vs cs = summedF m [v] [1] := by
  unfold summedF
  apply List.map_congr_left
  intro q hq
  have hq := List.mem_range.mp hq
  rw [lin1, Int.one_mul]
  have := Int.emod_eq_emod_iff_emod_sub_eq_zero.mpr (Int.emod_eq_zero_of_dvd (h q hq))
  exact this.symm
end SpM

set_option Elab.async false
set_option linter.all false
set_option maxRecDepth 100000
/-! The text of the row, def by def. -/
namespace Dt
open PySem PySem.Spec PyProof.Rows L2
def topS (i : Nat) : Stmt := PySem.Challenge.pw_sincerung_k33_sums.main.body.getD i (.Pass ⟨0, 0, 0, 0⟩)
abbrev s_shared : Stmt := topS 9
abbrev n_shared : List Str := ["one", "other"]
theorem sc_shared : FnScope n_shared ["one", "other"] (defScope s_shared) := ⟨rfl, rfl, rfl, by decide +kernel, rfl, by decide +kernel, by decide +kernel⟩
abbrev s_is_whole : Stmt := topS 11
abbrev n_is_whole : List Str := ["thing"]
theorem sc_is_whole : FnScope n_is_whole ["thing"] (defScope s_is_whole) := ⟨rfl, rfl, rfl, by decide +kernel, rfl, by decide +kernel, by decide +kernel⟩
abbrev s_is_within : Stmt := topS 12
abbrev n_is_within : List Str := ["thing", "low", "high"]
theorem sc_is_within : FnScope n_is_within ["thing", "low", "high"] (defScope s_is_within) := ⟨rfl, rfl, rfl, by decide +kernel, rfl, by decide +kernel, by decide +kernel⟩
abbrev s_check_moduli : Stmt := topS 14
abbrev n_check_moduli : List Str := ["moduli", "modulus"]
theorem sc_check_moduli : FnScope n_check_moduli ["moduli"] (defScope s_check_moduli) := ⟨rfl, rfl, rfl, by decide +kernel, rfl, by decide +kernel, by decide +kernel⟩
abbrev s_is_vector : Stmt := topS 15
abbrev n_is_vector : List Str := ["moduli", "thing", "part"]
theorem sc_is_vector : FnScope n_is_vector ["moduli", "thing"] (defScope s_is_vector) := ⟨rfl, rfl, rfl, by decide +kernel, rfl, by decide +kernel, by decide +kernel⟩
abbrev s_check_vectors : Stmt := topS 16
abbrev n_check_vectors : List Str := ["moduli", "vectors", "place", "vector"]
theorem sc_check_vectors : FnScope n_check_vectors ["moduli", "vectors"] (defScope s_check_vectors) := ⟨rfl, rfl, rfl, by decide +kernel, rfl, by decide +kernel, by decide +kernel⟩
abbrev s_check_vector : Stmt := topS 17
abbrev n_check_vector : List Str := ["moduli", "vectors", "vector"]
theorem sc_check_vector : FnScope n_check_vector ["moduli", "vectors", "vector"] (defScope s_check_vector) := ⟨rfl, rfl, rfl, by decide +kernel, rfl, by decide +kernel, by decide +kernel⟩
abbrev s_common : Stmt := topS 18
abbrev n_common : List Str := ["numbers", "found", "number"]
theorem sc_common : FnScope n_common ["numbers"] (defScope s_common) := ⟨rfl, rfl, rfl, by decide +kernel, rfl, by decide +kernel, by decide +kernel⟩
abbrev s_less : Stmt := topS 19
abbrev n_less : List Str := ["one", "other", "times", "mine", "yours"]
theorem sc_less : FnScope n_less ["one", "other", "times"] (defScope s_less) := ⟨rfl, rfl, rfl, by decide +kernel, rfl, by decide +kernel, by decide +kernel⟩
abbrev s_by_rests : Stmt := topS 20
abbrev n_by_rests : List Str := ["row", "moduli", "place", "part", "modulus"]
theorem sc_by_rests : FnScope n_by_rests ["row", "moduli", "place"] (defScope s_by_rests) := ⟨rfl, rfl, rfl, by decide +kernel, rfl, by decide +kernel, by decide +kernel⟩
abbrev s_met : Stmt := topS 21
abbrev n_met : List Str := ["rung", "row", "moduli", "place", "one", "mine", "other", "yours", "times"]
theorem sc_met : FnScope n_met ["rung", "row", "moduli", "place"] (defScope s_met) := ⟨rfl, rfl, rfl, by decide +kernel, rfl, by decide +kernel, by decide +kernel⟩
abbrev s_laid : Stmt := topS 22
abbrev n_laid : List Str := ["moduli", "vectors", "size", "many", "rungs", "number", "vector", "row", "place", "later", "counts", "times", "at", "part", "modulus"]
theorem sc_laid : FnScope n_laid ["moduli", "vectors"] (defScope s_laid) := ⟨rfl, rfl, rfl, by decide +kernel, rfl, by decide +kernel, by decide +kernel⟩
abbrev s_gone_down : Stmt := topS 23
abbrev n_gone_down : List Str := ["rungs", "vector", "row", "counts", "place", "rung", "taken", "times"]
theorem sc_gone_down : FnScope n_gone_down ["rungs", "vector"] (defScope s_gone_down) := ⟨rfl, rfl, rfl, by decide +kernel, rfl, by decide +kernel, by decide +kernel⟩
abbrev s_sums_of : Stmt := topS 24
abbrev n_sums_of : List Str := ["moduli", "vectors", "vector", "rest", "counts", "whole", "part", "count"]
theorem sc_sums_of : FnScope n_sums_of ["moduli", "vectors", "vector"] (defScope s_sums_of) := ⟨rfl, rfl, rfl, by decide +kernel, rfl, by decide +kernel, by decide +kernel⟩
abbrev s_sums : Stmt := topS 25
abbrev n_sums : List Str := ["moduli", "vectors", "vector"]
theorem sc_sums : FnScope n_sums ["moduli", "vectors", "vector"] (defScope s_sums) := ⟨rfl, rfl, rfl, by decide +kernel, rfl, by decide +kernel, by decide +kernel⟩
abbrev s_l_opened : Stmt := topS 27
abbrev n_l_opened : List Str := ["_law_script", "_law_k", "_law_cell", "_law_great"]
theorem sc_l_opened : FnScope n_l_opened ["_law_script", "_law_k"] (defScope s_l_opened) := ⟨rfl, rfl, rfl, by decide +kernel, rfl, by decide +kernel, by decide +kernel⟩
abbrev s_l_pull : Stmt := topS 28
abbrev n_l_pull : List Str := ["_law_store", "_law_many", "_law_found", "_law_state"]
theorem sc_l_pull : FnScope n_l_pull ["_law_store", "_law_many"] (defScope s_l_pull) := ⟨rfl, rfl, rfl, by decide +kernel, rfl, by decide +kernel, by decide +kernel⟩
abbrev s_l_sizes : Stmt := topS 29
abbrev n_l_sizes : List Str := ["_law_store", "_law_many", "_law_most", "_law_bulk", "_law_found", "_law_times", "_law_turn", "_law_size"]
theorem sc_l_sizes : FnScope n_l_sizes ["_law_store", "_law_many", "_law_most", "_law_bulk"] (defScope s_l_sizes) := ⟨rfl, rfl, rfl, by decide +kernel, rfl, by decide +kernel, by decide +kernel⟩
abbrev s_l_arrow : Stmt := topS 30
abbrev n_l_arrow : List Str := ["_law_store", "_law_sizes_here", "_law_mode", "_law_found", "_law_size", "_law_some"]
theorem sc_l_arrow : FnScope n_l_arrow ["_law_store", "_law_sizes_here"] (defScope s_l_arrow) := ⟨rfl, rfl, rfl, by decide +kernel, rfl, by decide +kernel, by decide +kernel⟩
abbrev s_l_arrows : Stmt := topS 31
abbrev n_l_arrows : List Str := ["_law_store", "_law_sizes_here", "_law_most", "_law_found", "_law_turn"]
theorem sc_l_arrows : FnScope n_l_arrows ["_law_store", "_law_sizes_here", "_law_most"] (defScope s_l_arrows) := ⟨rfl, rfl, rfl, by decide +kernel, rfl, by decide +kernel, by decide +kernel⟩
abbrev s_l_summed : Stmt := topS 32
abbrev n_l_summed : List Str := ["_law_sizes_here", "_law_arrows_here", "_law_often", "_law_found", "_law_k", "_law_j"]
theorem sc_l_summed : FnScope n_l_summed ["_law_sizes_here", "_law_arrows_here", "_law_often"] (defScope s_l_summed) := ⟨rfl, rfl, rfl, by decide +kernel, rfl, by decide +kernel, by decide +kernel⟩
abbrev s_l_span : Stmt := topS 33
abbrev n_l_span : List Str := ["_law_sizes_here", "_law_arrows_here", "_law_found", "_law_arrow_here", "_law_ahead", "_law_here", "_law_size", "_law_old"]
theorem sc_l_span : FnScope n_l_span ["_law_sizes_here", "_law_arrows_here"] (defScope s_l_span) := ⟨rfl, rfl, rfl, by decide +kernel, rfl, by decide +kernel, by decide +kernel⟩
abbrev s_l_is_sum : Stmt := topS 34
abbrev n_l_is_sum : List Str := ["_law_sizes_here", "_law_arrows_here", "_law_arrow_here", "_law_told", "_law_often"]
theorem sc_l_is_sum : FnScope n_l_is_sum ["_law_sizes_here", "_law_arrows_here", "_law_arrow_here", "_law_told"] (defScope s_l_is_sum) := ⟨rfl, rfl, rfl, by decide +kernel, rfl, by decide +kernel, by decide +kernel⟩
abbrev s_l_told_right : Stmt := topS 35
abbrev n_l_told_right : List Str := ["_law_sizes_here", "_law_arrows_here", "_law_arrow_here", "_law_can", "_law_told"]
theorem sc_l_told_right : FnScope n_l_told_right ["_law_sizes_here", "_law_arrows_here", "_law_arrow_here", "_law_can"] (defScope s_l_told_right) := ⟨rfl, rfl, rfl, by decide +kernel, rfl, by decide +kernel, by decide +kernel⟩
abbrev s_l_great_right : Stmt := topS 36
abbrev n_l_great_right : List Str := ["_law_store", "_law_sizes_here", "_law_arrows_here", "_law_far", "_law_often", "_law_goal", "_law_more", "_law_turn", "_law_part", "_law_k"]
theorem sc_l_great_right : FnScope n_l_great_right ["_law_store"] (defScope s_l_great_right) := ⟨rfl, rfl, rfl, by decide +kernel, rfl, by decide +kernel, by decide +kernel⟩
abbrev s_l_right : Stmt := topS 37
abbrev n_l_right : List Str := ["_law_store", "_law_turn", "_law_sizes_here", "_law_arrows_here", "_law_span_here", "_law_some", "_law_arrow_here", "_law_k"]
theorem sc_l_right : FnScope n_l_right ["_law_store"] (defScope s_l_right) := ⟨rfl, rfl, rfl, by decide +kernel, rfl, by decide +kernel, by decide +kernel⟩
abbrev s_law : Stmt := topS 38
abbrev n_law : List Str := ["_law_script", "_law_k"]
theorem sc_law : FnScope n_law ["_law_script"] (defScope s_law) := ⟨rfl, rfl, rfl, by decide +kernel, rfl, by decide +kernel, by decide +kernel⟩
end Dt

set_option Elab.async false
set_option linter.all false
set_option maxRecDepth 100000
namespace Dt
open PySem PySem.Spec PyProof.Rows L2 SpM
abbrev dl (xs : List Int) : D := .lst (xs.map D.int)
abbrev dt (xs : List Int) : D := .tup (xs.map D.int)
abbrev dg (r : Rg) : D := .tup [dl r.1, dl r.2]
abbrev dgs (rs : List Rg) : D := .lst (rs.map dg)
abbrev dvs (vs : List (List Int)) : D := .tup (vs.map dt)
/-- a module's whole number -/
def IntC (mg : Str → Option Value) (x : Str) (i : Int) : Prop := ∃ t, mg x = some (.int i t)
theorem ic_mk {K : PySem.W.Frag} {h : Heap} {mg : Str → Option Value} {x : Str} {i : Int} {t : Tok} (X : K.In h) (G : h.Ns mainGlobals mg) (e : PySem.W.nsIn K mainGlobals x = some (some (.int i t))) : IntC mg x i := ⟨t, PySem.W.mg_of X G e⟩
theorem pe_ic {X : Cx} {x : Str} {i : Int} {pos : Pos} (h : IntC X.mg x i) (hg : Gl X x := by rfl) (hd : (x == ("__debug__" : Str)) = false := by decide) : PE X (.Name x pos) (tC (.int i)) := by
  obtain ⟨t, ht⟩ := h
  exact pe_glob hg ht ⟨t, rfl⟩ hd
section
variable {P : Program} {w : World} {K : PySem.W.Frag} {mg : Str → Option Value} {base : Heap}
theorem gcd_step {x y : Int} (hx : 0 ≤ x) (hy : 0 ≤ y) : Int.gcd y (x % y) = Int.gcd x y := by
  obtain ⟨a, rfl⟩ := Int.eq_ofNat_of_zero_le hx
  obtain ⟨b, rfl⟩ := Int.eq_ofNat_of_zero_le hy
  show Nat.gcd b (a % b) = Nat.gcd a b
  rw [Nat.gcd_comm a b, Nat.gcd_rec b a, Nat.gcd_comm]
abbrev spShared : Sp := spP (α := Int × Int) (fun a => [.int a.1, .int a.2]) (fun a => 0 ≤ a.1 ∧ 0 ≤ a.2) (fun a d => d = .int (Int.gcd a.1 a.2))
theorem ok_shared (A : At K mg "shared" s_shared) : Ok P w K mg base "shared" 1 ["one", "other"] spShared := by
  refine Ok.plain A sc_shared (fun _ _ _ _ _ _ us hl => match us, hl with | [_, _], _ => rfl) (fun _ => rfl) fun f cdv A outer s H vs E hr a hp => ?_
  obtain ⟨x, y⟩ := a
  refine ⟨_, pss_cons (ps_while PassesOwn.never (pt_cmpR op_gt (pv 1) pe_int (nomark _))
        (pss_one (ps_par (i := 0) (j := 1) rfl sc_shared.nd rfl rfl (by decide) rfl rfl (pa_cons (pv 1) (pa_cons (pe_op op_mod (pv 0) (pv 1)) pa_nil)) (by rfl))))
      (pss_one (ps_ret (pv 0))), fun G Q m q => ?_⟩
  refine s_seq (s_while (fun n O ρ => ∃ x' y' : Int, O = [] ∧ ρ = [some (.int x'), some (.int y')] ∧ 0 ≤ x' ∧ 0 ≤ y' ∧ Int.gcd x' y' = Int.gcd x y ∧ n = y'.toNat) y.toNat m ⟨x, y, rfl, rfl, hp.1, hp.2, rfl, rfl⟩ ?_)
  rintro n O1 ρ1 σ1 G1 H1 ⟨x', y', rfl, rfl, h1, h2, h3, rfl⟩ e1 m1
  refine ⟨_, et_testD (ev_op2D (ev_var rfl) ev_int o_cmp), fun hb G2 H2 e2 m2 => ?_, fun hb G2 H2 e2 m2 => ?_⟩
  · have hy : 0 < y' := of_decide_eq_true hb.symm
    refine s_parD m2 (ea_consD (ev_var rfl) (ea_consD (ev_op2D (ev_var rfl) (ev_var rfl) (o_intC hy)) ea_nil)) fun σ3 G3 H3 e3 m3 => ?_
    have a1 := Int.emod_nonneg x' (show y' ≠ 0 by omega)
    have a2 := Int.emod_lt_of_pos x' hy
    refine Nxt.mk (e1.trans (e2.trans e3)) ⟨(x' % y').toNat, by omega, y', x' % y', rfl, rfl, h2, a1, ?_, rfl⟩ m3
    rw [← h3]
    exact gcd_step h1 h2
  · have hy : ¬ 0 < y' := of_decide_eq_false hb.symm
    have hy0 : y' = 0 := by omega
    subst hy0
    refine s_ret m2 (ev_var rfl) fun v d G' H' hd m3 da => q v d G' H' m3.g da ?_
    rw [hd, ← h3, Int.gcd_zero_right]
    congr 1
    omega
abbrev spLess : Sp := spP (α := List Int × List Int × Int) (fun a => [dl a.1, dl a.2.1, .int a.2.2]) (fun a => a.1.length = a.2.1.length ∧ a.1.length ≤ 1000 ∧ Bd 50000000 a.2.1 ∧ a.2.2.natAbs < 2 ^ 50000000) (fun a d => d = dl (lessF a.1 a.2.1 a.2.2))
theorem mulX {i j : Int} {a b : Nat} (ha : i.natAbs < 2 ^ a) (hb : j.natAbs < 2 ^ b) (h : a + b ≤ 134217728) : CMulX i j := by
  have h1 := PyProof.Rows.intBits_le ha
  have h2 := PyProof.Rows.intBits_le hb
  unfold CMulX
  omega
theorem zip_map2 {α β : Type} (f : α → β → Int) (F : D → D) (A : α → D) (B : β → D) (h : ∀ a b, F (.tup [A a, B b]) = .int (f a b)) : ∀ (xs : List α) (ys : List β), (zipD (xs.map A) (ys.map B)).map F = (List.zipWith f xs ys).map D.int
  | [], _ => by simp [zipD]
  | _ :: _, [] => by simp [zipD]
  | x :: xs, y :: ys => by
    have ih := zip_map2 f F A B h xs ys
    simp only [zipD] at ih ⊢
    simp [h, ih]
def un2 (f : Int → Int → Int) : D → D
  | .tup [.int a, .int b] => .int (f a b)
  | d => d
theorem ok_less (A : At K mg "less" s_less) (B : Bl mg) : Ok P w K mg base "less" 1 ["one", "other", "times"] spLess := by
  refine Ok.plain A sc_less (fun _ _ _ _ _ _ us hl => match us, hl with | [_, _, _], _ => rfl) (fun _ => rfl) fun f cdv A outer s H vs E hr a hp => ?_
  obtain ⟨one, other, t⟩ := a
  obtain ⟨h1, h2, h3, h4⟩ := hp
  refine ⟨_, pss_one (ps_ret (pe_lc (own := [("mine", 3), ("yours", 4)]) (g := gTup K 2 (gCons (gName 3) (gCons (gName 4) (gNil)))) (tt := tYes) rfl sc_less.nd (pi_zip2 .l .l (by rfl) B.zip (pa_cons (pv 0) (pa_cons (pv 1) pa_nil))) (blkOk_by (own := [("mine", 3), ("yours", 4)]) (N := n_less) (sc := defScope s_less) (by decide +kernel)) (fun _ _ _ _ _ => pg_tup rfl (pgs_cons (pg_name (i := 3) sc_less.nd rfl (Or.inl rfl)) (pgs_cons (pg_name (i := 4) sc_less.nd rfl (Or.inl rfl)) pgs_nil))) (fun _ _ _ _ _ => pts_nil) (fun _ _ _ _ _ => pe_op op_sub (pv 3) (pe_op op_mulX (pv 2) (pv 4))))), fun G Q m q => ?_⟩
  refine s_ret m (EvN.evD (en_lcM (v := un2 fun x y => x - t * y) (wk_zip2 .l .l (ea_consD (ev_var rfl) (ea_consD (ev_var rfl) ea_nil)) rfl rfl (by simpa using h1)) (by simp [zipD]; exact Nat.le_trans (Nat.min_le_left _ _) (Nat.le_trans h2 (by decide))) fun i d hd => ?_)) fun v d G' H' hd m3 da => q v d G' H' m3.g da ?_
  · obtain ⟨a, b, ha, hb, rfl⟩ := zipD_get hd
    rw [List.getElem?_map] at ha hb
    obtain ⟨x, hx, rfl⟩ := Option.map_eq_some_iff.mp ha
    obtain ⟨y, hy, rfl⟩ := Option.map_eq_some_iff.mp hb
    refine ⟨_, _, tg_tup (tgs_cons tg_name (tgs_cons tg_name tgs_nil)) rfl, by decide, ?_⟩
    exact ev_op2D (ev_var rfl) (ev_op2D (ev_var rfl) (ev_var rfl) (o_intC (mulX h4 (h3 y (List.mem_of_getElem? hy)) (by decide)))) o_int
  · rw [hd, zip_map2 (fun x y => x - t * y) _ D.int D.int fun a b => rfl]
    rfl

theorem any3 {α : Type} (x : Option α) : ∃ y, x = y := ⟨x, rfl⟩
/-! ### common -/
abbrev spCommon : Sp := spP (α := List Int) (fun a => [dt a]) (fun a => a.length ≤ 1000 ∧ ∀ n ∈ a, 0 < n ∧ n < 1000) (fun a d => d = .int (SpM.common a))
theorem ok_common (A : At K mg "common" s_common) (Oshared : Ok P w K mg base "shared" 1 ["one", "other"] spShared) : Ok P w K mg base "common" 2 ["numbers"] spCommon := by
  refine Ok.plain A sc_common (fun _ _ _ _ _ _ us hl => match us, hl with | [_], _ => rfl) (fun _ => rfl) fun f cdv A outer s H vs E hr a hp => ?_
  obtain ⟨h1, h2⟩ := hp
  refine ⟨_, pss_cons (ps_set (i := 1) sc_common.nd rfl (.inl rfl) pe_int)
      (pss_cons (ps_for PassesOwn.never rfl (pi_tup (pv 0)) (pg_name (i := 2) sc_common.nd rfl (Or.inl rfl))
        (pss_one (ps_set (i := 1) sc_common.nd rfl (.inl rfl) (pe_op op_mul (pe_op op_fdiv (pv 1) (pe_f Oshared hr (by decide) (pa_cons (pv 1) (pa_cons (pv 2) pa_nil)))) (pv 2)))))
      (pss_one (ps_ret (pv 1)))), fun G Q m q => ?_⟩
  refine s_seq (s_setD m ev_int fun σ1 G1 H1 e1 m1 => ?_)
  refine s_seq (s_forD (ds := a.map D.int) (fun i O ρ => ∃ x, O = [] ∧ ρ = [some (dt a), some (.int ((a.take i).foldl lcmF 1)), x]) m1 (wk_tupD (ev_var rfl)) ⟨_, rfl, rfl⟩ ?_ ?_)
  · rintro i d O2 ρ2 σ2 Gb G2 H2 hd ⟨x, rfl, rfl⟩ eb e2 m2
    rw [List.getElem?_map] at hd
    obtain ⟨n, hn, rfl⟩ := Option.map_eq_some_iff.mp hd
    have hm := h2 n (List.mem_of_getElem? hn)
    have hf : 0 < (a.take i).foldl lcmF 1 := (common_go (a.take i) 1 (by decide) fun u hu => (h2 u (List.mem_of_mem_take hu)).1).1
    have g0 : 0 < (Int.gcd ((a.take i).foldl lcmF 1) n : Int) := by
      have : Int.gcd ((a.take i).foldl lcmF 1) n ≠ 0 := fun h => by have := (Int.gcd_eq_zero_iff.mp h).2; omega
      omega
    have g1 : (Int.gcd ((a.take i).foldl lcmF 1) n : Int) ≤ n := Int.le_of_dvd hm.1 (Int.gcd_dvd_right ..)
    refine ⟨_, _, tg_name, fun σ3 m3 => ?_⟩
    refine s_setD m3 (ev_op2D (ev_op2D (ev_var rfl) (ev_callD ((a.take i).foldl lcmF 1, n) (ea_consD (ev_var rfl) (ea_consD (ev_var rfl) ea_nil)) ⟨Int.le_of_lt hf, Int.le_of_lt hm.1⟩) (o_intC ⟨g0, by show (Int.gcd ((a.take i).foldl lcmF 1) n : Int) < 1073741824; omega⟩)) (ev_var rfl) (o_intC (.inr ⟨by omega, by omega⟩))) fun σ4 G4 H4 e4 m4 => ?_
    refine Nxt.mk (e2.trans e4) ⟨some (.int n), rfl, ?_⟩ m4
    rw [List.take_add_one, hn, List.foldl_append]
    rfl
  · rintro O2 ρ2 σ2 G2 H2 ⟨x, rfl, rfl⟩ e2 m2
    refine s_ret m2 (ev_var rfl) fun v d G' H' hd m3 da => q v d G' H' m3.g da ?_
    rw [hd, List.length_map, List.take_length]; rfl
/-! ### by_rests -/
abbrev spRests : Sp := spP (α := List Int × List Int × Nat) (fun a => [dl a.1, dt a.2.1, .int (a.2.2 : Int)]) (fun a => a.1.length = a.2.1.length ∧ a.1.length ≤ 1000 ∧ ∀ x ∈ a.2.1, 0 < x) (fun a d => d = dl (byRests a.1 a.2.1 a.2.2))
theorem line1000 {n : Nat} (h : n ≤ 100000) : n ≤ sizeLine := Nat.le_trans h (by decide)
theorem ok_rests (A : At K mg "by_rests" s_by_rests) (B : Bl mg) : Ok P w K mg base "by_rests" 1 ["row", "moduli", "place"] spRests := by
  refine Ok.plain A sc_by_rests (fun _ _ _ _ _ _ us hl => match us, hl with | [_, _, _], _ => rfl) (fun _ => rfl) fun f cdv A outer s H vs E hr a hp => ?_
  obtain ⟨r, m0, p⟩ := a
  obtain ⟨h1, h2, h3⟩ := hp
  have h1 : r.length = m0.length := h1
  have h2 : r.length ≤ 1000 := h2
  refine ⟨_, pss_one (ps_ret (pe_op op_cat (pe_slice sl_list (pv 0) po_none (po_some (pe_op op_add (pv 2) pe_int))) (pe_lc (own := [("part", 3), ("modulus", 4)]) (g := gTup K 2 (gCons (gName 3) (gCons (gName 4) (gNil)))) (tt := tYes) rfl sc_by_rests.nd (pi_zip2 .l .t (by rfl) B.zip (pa_cons (pe_slice sl_list (pv 0) (po_some (pe_op op_add (pv 2) pe_int)) po_none) (pa_cons (pe_slice sl_tupA (pv 1) (po_some (pe_op op_add (pv 2) pe_int)) po_none) pa_nil))) (blkOk_by (own := [("part", 3), ("modulus", 4)]) (N := n_by_rests) (sc := defScope s_by_rests) (by decide +kernel)) (fun _ _ _ _ _ => pg_tup rfl (pgs_cons (pg_name (i := 3) sc_by_rests.nd rfl (Or.inl rfl)) (pgs_cons (pg_name (i := 4) sc_by_rests.nd rfl (Or.inl rfl)) pgs_nil))) (fun _ _ _ _ _ => pts_nil) (fun _ _ _ _ _ => pe_op op_mod (pv 3) (pv 4))))), fun G Q m q => ?_⟩
  have e1 : cut (r.map D.int) none (some ((p : Int) + 1)) = (r.take (p + 1)).map D.int := by
    rw [show ((p : Int) + 1) = ((p + 1 : Nat) : Int) from rfl, cut_to, List.map_take]
  have e2 : ∀ x : List Int, cut (x.map D.int) (some ((p : Int) + 1)) none = (x.drop (p + 1)).map D.int := fun x => by
    rw [show ((p : Int) + 1) = ((p + 1 : Nat) : Int) from rfl, cut_from, List.map_drop]
  refine s_ret m (ev_op2D (ev_slL (ds := r.map D.int) (ev_var rfl) eo_none (eo_some (ev_op2D (ev_var rfl) ev_int o_int)))
    (EvN.evD (en_lcM (v := un2 fun x y => x % y) (wk_zip2 .l .t (ea_consD (ev_slL (ds := r.map D.int) (ev_var rfl) (eo_some (ev_op2D (ev_var rfl) ev_int o_int)) eo_none) (ea_consD (ev_slT (ds := m0.map D.int) (ev_var rfl) (eo_some (ev_op2D (ev_var rfl) ev_int o_int)) eo_none) ea_nil)) rfl rfl (by rw [e2, e2]; simp [h1])) (by rw [e2, e2]; simp [zipD]; exact line1000 (by omega)) fun i d hd => ?_)) (o_cat ?_)) fun v d G' H' hd m3 da => q v d G' H' m3.g da ?_
  · rw [e2, e2] at hd
    obtain ⟨a, b, ha, hb, rfl⟩ := zipD_get hd
    rw [List.getElem?_map] at ha hb
    obtain ⟨x, hx, rfl⟩ := Option.map_eq_some_iff.mp ha
    obtain ⟨y, hy, rfl⟩ := Option.map_eq_some_iff.mp hb
    refine ⟨_, _, tg_tup (tgs_cons tg_name (tgs_cons tg_name tgs_nil)) rfl, by decide, ?_⟩
    exact ev_op2D (ev_var rfl) (ev_var rfl) (o_intC (h3 y (List.mem_of_mem_drop (List.mem_of_getElem? hy))))
  · rw [e1, e2, e2]
    simp [zipD]
    exact line1000 (by omega)
  · rw [hd, e1, e2, e2, zip_map2 (fun x y => x % y) _ D.int D.int fun a b => rfl, ← List.map_append]
    rfl
/-! ### met -/
theorem at_dl {t : List Int} {p : Nat} (h : p < t.length) : atI (t.map D.int) (p : Int) = some (.int (g t p)) := atI_nat (by rw [List.getElem?_map, get_g h]; rfl)
abbrev spMet : Sp := spP (α := Rg × Rg × List Int × Nat) (fun a => [dg a.1, dg a.2.1, dt a.2.2.1, .int (a.2.2.2 : Int)])
  (fun a => Two a.2.2.1 a.2.2.2 a.1.1 a.2.1.1 ∧ a.2.2.1.length ≤ 100 ∧ a.1.2.length = a.2.1.2.length ∧ a.1.2.length ≤ 1000 ∧ Bd 40000000 a.1.2 ∧ Bd 40000000 a.2.1.2)
  (fun a d => d = .tup [dg (met a.2.2.1 a.2.2.2 a.1 a.2.1).1, dg (met a.2.2.1 a.2.2.2 a.1 a.2.1).2])
theorem mod_pos {m : List Int} (h : MP m) : ∀ x ∈ m, 0 < x ∧ x < 100 := fun x hx => by
  obtain ⟨q, hq, e⟩ := mem_g hx
  rw [← e]; exact h q hq
theorem ok_met (A : At K mg "met" s_met) (B : Bl mg) (Oless : Ok P w K mg base "less" 1 ["one", "other", "times"] spLess) (Oby_rests : Ok P w K mg base "by_rests" 1 ["row", "moduli", "place"] spRests) : Ok P w K mg base "met" 2 ["rung", "row", "moduli", "place"] spMet := by
  refine Ok.plain A sc_met (fun _ _ _ _ _ _ us hl => match us, hl with | [_, _, _, _], _ => rfl) (fun _ => rfl) fun f cdv A outer s H vs E hr a hp => ?_
  obtain ⟨r, w, m0, p⟩ := a
  obtain ⟨h1, h2, h3, h4, h5, h6⟩ := hp
  have h1 : Two m0 p r.1 w.1 := h1
  have h2 : m0.length ≤ 100 := h2
  have h3 : r.2.length = w.2.length := h3
  have h4 : r.2.length ≤ 1000 := h4
  refine ⟨_, pss_cons (ps_asg (pe_tup (pa_cons (pv 0) (pa_cons (pv 1) pa_nil))) (pg_tup rfl (pgs_cons (pg_tup rfl (pgs_cons (pg_name (i := 4) sc_met.nd rfl (Or.inl rfl)) (pgs_cons (pg_name (i := 5) sc_met.nd rfl (Or.inl rfl)) pgs_nil))) (pgs_cons (pg_tup rfl (pgs_cons (pg_name (i := 6) sc_met.nd rfl (Or.inl rfl)) (pgs_cons (pg_name (i := 7) sc_met.nd rfl (Or.inl rfl)) pgs_nil))) pgs_nil))))
      (pss_cons (ps_while PassesOwn.never (pt_cmpR op_ne (pe_ix ix_list (pv 6) (pv 3) (fun _ _ => rfl)) pe_int (nomark _))
        (pss_cons (ps_set (i := 8) sc_met.nd rfl (.inl rfl) (pe_op op_fdiv (pe_ix ix_list (pv 4) (pv 3) (fun _ _ => rfl)) (pe_ix ix_list (pv 6) (pv 3) (fun _ _ => rfl))))
        (pss_cons (ps_par (i := 4) (j := 6) rfl sc_met.nd rfl rfl (by decide) rfl rfl (pa_cons (pv 6) (pa_cons (pe_f Oby_rests hr (by decide) (pa_cons (pe_f Oless hr (by decide) (pa_cons (pv 4) (pa_cons (pv 6) (pa_cons (pv 8) pa_nil)))) (pa_cons (pv 2) (pa_cons (pv 3) pa_nil)))) pa_nil)) (by rfl))
        (pss_one (ps_par (i := 5) (j := 7) rfl sc_met.nd rfl rfl (by decide) rfl rfl (pa_cons (pv 7) (pa_cons (pe_f Oless hr (by decide) (pa_cons (pv 5) (pa_cons (pv 7) (pa_cons (pv 8) pa_nil)))) pa_nil)) (by rfl))))))
      (pss_one (ps_ret (pe_tup (pa_cons (pe_tup (pa_cons (pv 4) (pa_cons (pv 5) pa_nil))) (pa_cons (pe_tup (pa_cons (pv 6) (pa_cons (pv 7) pa_nil))) pa_nil)))))), fun G Q m q => ?_⟩
  refine s_seq (s_asgD m (ev_tupD (ea_consD (ev_var rfl) (ea_consD (ev_var rfl) ea_nil)) (by show 2 ≤ sizeLine; decide)) (tg_tup (tgs_cons (tg_tup (tgs_cons tg_name (tgs_cons tg_name tgs_nil)) rfl) (tgs_cons (tg_tup (tgs_cons tg_name (tgs_cons tg_name tgs_nil)) rfl) tgs_nil)) rfl) fun σ1 G1 H1 e1 m1 => ?_)
  refine s_seq (s_while (fun n O ρ => ∃ o i t y j x, O = [] ∧ ρ = [some (dg r), some (dg w), some (dt m0), some (.int (p : Int)), some (dl o), some (dl i), some (dl t), some (dl y), x] ∧ Two m0 p o t ∧ i.length = r.2.length ∧ y.length = r.2.length ∧
    Bd (40000000 + 8 * j) i ∧ Bd (40000000 + 8 * j) y ∧ j + n ≤ 100 ∧ n = (g t p).toNat ∧ metF (n + 1) m0 p o i t y = met m0 p r w) (g w.1 p).toNat m1
    ⟨r.1, r.2, w.1, w.2, 0, none, rfl, rfl, h1, rfl, h3.symm, h5, h6, by have := (h1.st.at p).2; omega, rfl, rfl⟩ ?_)
  rintro n O2 ρ2 σ2 G2 H2 ⟨o, i, t, y, j, x, rfl, rfl, T, li, ly, bi, by', hj, rfl, hR⟩ e2 m2
  have pt : p < t.length := by rw [T.lt]; exact T.pl
  have po : p < o.length := by rw [T.lo]; exact T.pl
  refine ⟨_, et_testD (ev_op2D (ev_op2D (ev_var rfl) (ev_var rfl) (o_ixL (at_dl pt))) ev_int o_neI), fun hb G3 H3 e3 m3 => ?_, fun hb G3 H3 e3 m3 => ?_⟩
  · have ht : g t p ≠ 0 := by simpa using hb
    have tp := T.st.at p
    have tp0 : 0 < g t p := by omega
    obtain ⟨n1, n2, n3⟩ := T.next ht
    have hl : o.length = t.length := T.lo.trans T.lt.symm
    have opz := T.so.at p
    have tq : (g o p / g t p).natAbs < 2 ^ 7 := by
      have a3 : 0 ≤ g o p / g t p := Int.ediv_nonneg opz.1 tp.1
      have a4 : g o p / g t p ≤ g o p := Int.ediv_le_self _ opz.1
      show _ < 128
      omega
    have tq' : (g o p / g t p).natAbs < 2 ^ 50000000 := Nat.lt_of_lt_of_le tq (Nat.pow_le_pow_right (by decide) (by decide))
    refine s_seq (s_setD m3 (ev_op2D (ev_op2D (ev_var rfl) (ev_var rfl) (o_ixL (at_dl po))) (ev_op2D (ev_var rfl) (ev_var rfl) (o_ixL (at_dl pt))) (o_intC ⟨tp0, by show g t p < 1073741824; omega⟩)) fun σ4 G4 H4 e4 m4 => ?_)
    refine s_seq (s_parD m4 (ea_consD (ev_var rfl) (ea_consD (ev_callD (lessF o t (g o p / g t p), m0, p) (ea_consD (ev_callD (o, t, g o p / g t p) (ea_consD (ev_var rfl) (ea_consD (ev_var rfl) (ea_consD (ev_var rfl) ea_nil))) ⟨hl, by show o.length ≤ 1000; rw [T.lo]; omega, T.st.bd.mono (by decide), tq'⟩) (ea_consD (ev_var rfl) (ea_consD (ev_var rfl) ea_nil)))
      ⟨(less_len hl).trans T.lo, by show (lessF o t _).length ≤ 1000; rw [less_len hl, T.lo]; omega, fun x hx => (mod_pos T.mp x hx).1⟩) ea_nil)) fun σ5 G5 H5 e5 m5 => ?_)
    refine s_parD m5 (ea_consD (ev_var rfl) (ea_consD (ev_callD (i, y, g o p / g t p) (ea_consD (ev_var rfl) (ea_consD (ev_var rfl) (ea_consD (ev_var rfl) ea_nil))) ⟨li.trans ly.symm, by show i.length ≤ 1000; rw [li]; exact h4, by'.mono (by omega), tq'⟩) ea_nil)) fun σ6 G6 H6 e6 m6 => ?_
    refine Nxt.mk (e2.trans (e3.trans (e4.trans (e5.trans e6)))) ⟨(g o p % g t p).toNat, n3, t, y, _, lessF i y (g o p / g t p), j + 1, some (.int (g o p / g t p)), rfl, rfl, n1, ly, (less_len (li.trans ly.symm)).trans li, by'.mono (by omega), (bd_less bi by' tq (li.trans ly.symm)).mono (by omega), by omega, by rw [n2], ?_⟩ m6
    rw [← hR, metF_fuel ((g o p % g t p).toNat + 1) (g t p).toNat _ _ _ _ n1 (by rw [n2]; omega) (by rw [n2]; omega)]
    conv => rhs; unfold metF
    rw [if_neg ht]
  · have ht : g t p = 0 := by simpa using hb
    refine s_ret m3 (ev_tupD (ea_consD (ev_tupD (ea_consD (ev_var rfl) (ea_consD (ev_var rfl) ea_nil)) (by show 2 ≤ sizeLine; decide)) (ea_consD (ev_tupD (ea_consD (ev_var rfl) (ea_consD (ev_var rfl) ea_nil)) (by show 2 ≤ sizeLine; decide)) ea_nil)) (by show 2 ≤ sizeLine; decide)) fun v d G' H' hd m3 da => q v d G' H' m3.g da ?_
    rw [hd]
    show _ = D.tup [dg (met m0 p r w).1, dg (met m0 p r w).2]
    rw [← hR]
    unfold metF
    rw [if_pos ht]
end
end Dt

set_option Elab.async false
set_option linter.all false
set_option maxRecDepth 100000
namespace Dt
open PySem PySem.Spec PyProof.Rows L2 SpM
section
variable {P : Program} {w : World} {K : PySem.W.Frag} {mg : Str → Option Value} {base : Heap}
theorem ixN_of {n j : Nat} (h : j < n) : ixN n (j : Int) = some j := by
  unfold ixN
  rw [if_pos (by omega), if_pos (by omega)]
  simp
theorem rng0_get {n i : Nat} {d : D} (h : (rngD 0 n)[i]? = some d) : i < n ∧ d = .int (i : Int) := by
  obtain ⟨a, b⟩ := rngD_get h
  exact ⟨a, by rw [b, Int.zero_add]⟩
theorem n62 {n : Nat} (h : n ≤ 100000) : -(2 ^ 62 : Int) ≤ (n : Int) ∧ (n : Int) < 2 ^ 62 := by
  have : (2 : Int) ^ 62 = 4611686018427387904 := by decide
  omega
theorem lt63 {n : Nat} (h : n ≤ 100000) : (n : Int) < 2 ^ 63 := by
  have : (2 : Int) ^ 63 = 9223372036854775808 := by decide
  omega
theorem r62 {a b : Nat} (h : a ≤ 100000) (k : b ≤ 100000) : -(2 ^ 62 : Int) ≤ (a : Int) + 1 ∧ (a : Int) + 1 < 2 ^ 62 ∧ -(2 ^ 62 : Int) ≤ (b : Int) ∧ (b : Int) < 2 ^ 62 := by
  have : (2 : Int) ^ 62 = 4611686018427387904 := by decide
  omega
theorem at_app {ds : List Rg} {r : Rg} {es : List Rg} : atI ((ds ++ r :: es).map dg) (ds.length : Int) = some (dg r) :=
  atI_nat (by rw [List.getElem?_map, List.getElem?_append_right (Nat.le_refl _), Nat.sub_self]; rfl)
theorem set_app {ds : List Rg} {r r' : Rg} {es : List Rg} : ((ds ++ r :: es).map dg).set ds.length (dg r') = ((ds ++ r' :: es).map dg) := by
  rw [List.map_append, List.map_append, List.set_append_right _ _ (by simp)]
  simp
abbrev spLaid : Sp := spP (α := List Int × List (List Int)) (fun a => [dt a.1, dvs a.2]) (fun a => Vecs a.1 a.2 ∧ 0 < a.1.length ∧ a.1.length ≤ 12 ∧ a.2.length ≤ 40) (fun a d => d = dgs (laid a.1 a.2))
theorem ok_laid (A : At K mg "laid" s_laid) (B : Bl mg) (Oless : Ok P w K mg base "less" 1 ["one", "other", "times"] spLess) (Omet : Ok P w K mg base "met" 2 ["rung", "row", "moduli", "place"] spMet) : Ok P w K mg base "laid" 3 ["moduli", "vectors"] spLaid := by
  refine Ok.plain A sc_laid (fun _ _ _ _ _ _ us hl => match us, hl with | [_, _], _ => rfl) (fun _ => rfl) fun f cdv A outer s H vs E hr a hp => ?_
  obtain ⟨mm, vv⟩ := a
  obtain ⟨hV, hn0, hn, hk⟩ := hp
  have hV : Vecs mm vv := hV
  have hn0 : 0 < mm.length := hn0
  have hn : mm.length ≤ 12 := hn
  have hk : vv.length ≤ 40 := hk
  refine ⟨_, pss_cons (ps_asg (pe_tup (pa_cons (pe_callB call_len_seq (by rfl) B.len PySem.boot_len (pa_cons (pv 0) pa_nil)) (pa_cons (pe_callB call_len_seq (by rfl) B.len PySem.boot_len (pa_cons (pv 1) pa_nil)) pa_nil))) (pg_tup rfl (pgs_cons (pg_name (i := 2) sc_laid.nd rfl (Or.inr rfl)) (pgs_cons (pg_name (i := 3) sc_laid.nd rfl (Or.inr rfl)) pgs_nil))))
      (pss_cons (ps_setLc (i := 4) (own := [("place", 8)]) (g := gName 8) (tt := tYes) rfl sc_laid.nd rfl rfl (sw_true rfl rfl rfl (by decide +kernel)) (pi_range1 (by rfl) B.range (pa_cons (pv 2) pa_nil)) (blkOk_by (own := [("place", 8)]) (N := n_laid) (sc := defScope s_laid) (by decide +kernel)) (fun _ _ _ _ _ => pg_name (i := 8) sc_laid.nd rfl (Or.inr rfl)) (fun _ _ _ _ _ => pts_nil) (fun _ _ _ _ _ => pe_tup (pa_cons (pe_lc (own := [("at", 12)]) (g := gName 12) (tt := tYes) rfl sc_laid.nd (pi_range1 (by rfl) B.range (pa_cons (pv 2) pa_nil)) (by exact blkOk_by (by kernel_rfl)) (fun _ _ _ _ _ => pg_name (i := 12) sc_laid.nd rfl (Or.inl rfl)) (fun _ _ _ _ _ => pts_nil) (fun _ _ _ _ _ => pe_op op_mul (pe_ix (ix_tupK (K := K) rfl) (pv 0) (pv 12) (fun _ _ => rfl)) (pe_callTy call_int1 (by rfl) B.int PyProof.Rows.boot_int (pa_cons (pe_cmpR op_eq (pv 12) (pv 8) (nomark _)) pa_nil)))) (pa_cons (pe_op op_rep (pe_lst (pa_cons pe_int pa_nil)) (pv 3)) pa_nil))))
      (pss_cons (ps_for PassesOwn.never rfl (pi_en .t (by rfl) B.enumerate (pa_cons (pv 1) pa_nil)) (pg_tup rfl (pgs_cons (pg_name (i := 5) sc_laid.nd rfl (Or.inr rfl)) (pgs_cons (pg_name (i := 6) sc_laid.nd rfl (Or.inl rfl)) pgs_nil)))
        (pss_cons (ps_set (i := 7) sc_laid.nd rfl (.inl rfl) (pe_tup (pa_cons (pe_lc (own := [("part", 13), ("modulus", 14)]) (g := gTup K 2 (gCons (gName 13) (gCons (gName 14) (gNil)))) (tt := tYes) rfl sc_laid.nd (pi_zip2 .t .t (by rfl) B.zip (pa_cons (pv 6) (pa_cons (pv 0) pa_nil))) (blkOk_by (own := [("part", 13), ("modulus", 14)]) (N := n_laid) (sc := defScope s_laid) (by decide +kernel)) (fun _ _ _ _ _ => pg_tup rfl (pgs_cons (pg_name (i := 13) sc_laid.nd rfl (Or.inl rfl)) (pgs_cons (pg_name (i := 14) sc_laid.nd rfl (Or.inl rfl)) pgs_nil))) (fun _ _ _ _ _ => pts_nil) (fun _ _ _ _ _ => pe_op op_mod (pv 13) (pv 14))) (pa_cons (pe_lc (own := [("at", 12)]) (g := gName 12) (tt := tYes) rfl sc_laid.nd (pi_range1 (by rfl) B.range (pa_cons (pv 3) pa_nil)) (blkOk_by (own := [("at", 12)]) (N := n_laid) (sc := defScope s_laid) (by decide +kernel)) (fun _ _ _ _ _ => pg_name (i := 12) sc_laid.nd rfl (Or.inl rfl)) (fun _ _ _ _ _ => pts_nil) (fun _ _ _ _ _ => pe_callTy call_int1 (by rfl) B.int PyProof.Rows.boot_int (pa_cons (pe_cmpR op_eq (pv 12) (pv 5) (nomark _)) pa_nil))) pa_nil))))
        (pss_one (ps_for PassesOwn.never rfl (pi_range1 (by rfl) B.range (pa_cons (pv 2) pa_nil)) (pg_name (i := 8) sc_laid.nd rfl (Or.inl rfl))
          (pss_one (ps_asg (pe_f Omet hr (by decide) (pa_cons (pe_ix ix_list (pv 4) (pv 8) (fun _ _ => rfl)) (pa_cons (pv 7) (pa_cons (pv 0) (pa_cons (pv 8) pa_nil))))) (pg_tup rfl (pgs_cons (pg_sub (pv 4) (pv 8) set_list) (pgs_cons (pg_name (i := 7) sc_laid.nd rfl (Or.inl rfl)) pgs_nil)))))))))
      (pss_cons (ps_for PassesOwn.never rfl (pi_range1 (by rfl) B.range (pa_cons (pv 2) pa_nil)) (pg_name (i := 8) sc_laid.nd rfl (Or.inl rfl))
        (pss_one (ps_for PassesOwn.never rfl (pi_range2 (by rfl) B.range (pa_cons (pe_op op_add (pv 8) pe_int) (pa_cons (pv 2) pa_nil))) (pg_name (i := 9) sc_laid.nd rfl (Or.inl rfl))
          (pss_cons (ps_asg (pe_ix ix_list (pv 4) (pv 8) (fun _ _ => rfl)) (pg_tup rfl (pgs_cons (pg_name (i := 7) sc_laid.nd rfl (Or.inl rfl)) (pgs_cons (pg_name (i := 10) sc_laid.nd rfl (Or.inl rfl)) pgs_nil))))
          (pss_cons (ps_set (i := 11) sc_laid.nd rfl (.inl rfl) (pe_op op_fdiv (pe_ix ix_list (pv 7) (pv 9) (fun _ _ => rfl)) (pe_ix ix_list (pe_ix ix_tup (pe_ix ix_list (pv 4) (pv 9) (fun _ _ => rfl)) pe_int (fun _ _ => rfl)) (pv 9) (fun _ _ => rfl))))
          (pss_one (ps_asg (pe_tup (pa_cons (pe_f Oless hr (by decide) (pa_cons (pv 7) (pa_cons (pe_ix ix_tup (pe_ix ix_list (pv 4) (pv 9) (fun _ _ => rfl)) pe_int (fun _ _ => rfl)) (pa_cons (pv 11) pa_nil)))) (pa_cons (pe_f Oless hr (by decide) (pa_cons (pv 10) (pa_cons (pe_ix ix_tup (pe_ix ix_list (pv 4) (pv 9) (fun _ _ => rfl)) pe_int (fun _ _ => rfl)) (pa_cons (pv 11) pa_nil)))) pa_nil))) (pg_sub (pv 4) (pv 8) set_list))))))))
      (pss_one (ps_ret (pv 4)))))), fun G Q m q => ?_⟩
  refine s_seq (s_asgD m (ev_tupD (ea_consD ((ev_cbD (ea_consD (ev_var rfl) ea_nil) (l_len (.inr rfl))).is (by rw [List.length_map])) (ea_consD ((ev_cbD (ea_consD (ev_var rfl) ea_nil) (l_len (.inr rfl))).is (by rw [List.length_map])) ea_nil)) (by show 2 ≤ sizeLine; decide)) (tg_tup (tgs_cons tg_name (tgs_cons tg_name tgs_nil)) rfl) fun σ1 G1 H1 e1 m1 => ?_)
  -- rungs = [..]
  refine s_seq (s_new m1 (en_lcI (v := fun p => dg (rung0 mm vv.length p)) (wk_rng1D (ea_consD (ev_var rfl) ea_nil) (n62 (by omega)).1 (n62 (by omega)).2) (by rw [rngD_len]; exact line1000 (by omega)) fun i d hd => ?_) fun l ds σ2 G2 H2 hds e2 m2 => ?_)
  · obtain ⟨hi, rfl⟩ := rng0_get hd
    refine ⟨_, _, tg_name, by decide, ?_⟩
    refine (ev_tupD (ea_consD (EvN.evD (en_lcI (v := fun a => .int (g mm a * if a = i then 1 else 0)) (wk_rng1D (ea_consD (ev_var rfl) ea_nil) (n62 (by omega)).1 (n62 (by omega)).2) (by rw [rngD_len]; exact line1000 (by omega)) fun a d ha => ?_)) (ea_consD (ev_op2D (ev_lstD (ea_consD ev_int ea_nil) (by show 1 ≤ sizeLine; decide)) (ev_var rfl) (o_rep (by omega) (lt63 (by omega)) (by simp; exact line1000 (by omega)))) ea_nil)) (by show 2 ≤ sizeLine; decide)).is ?_
    · obtain ⟨ha', rfl⟩ := rng0_get ha
      refine ⟨_, _, tg_name, by decide, ?_⟩
      refine (ev_op2D (ev_op2D (ev_var rfl) (ev_var rfl) (o_ixT (at_dl (by simpa using ha')))) (ev_cbD (ea_consD (ev_op2D (ev_var rfl) (ev_var rfl) o_eqI) ea_nil) l_intB) (o_intC (.inr (by split <;> decide)))).is ?_
      congr 2
      by_cases e : a = i
      · subst e; simp
      · rw [if_neg e, if_neg (by simp; omega)]
    · show D.tup [_, _] = dg (rung0 mm vv.length i)
      unfold rung0
      congr 2
      · rw [rngD_len]
        simp
      · congr 1
        simp
  obtain rfl : ds = (rungs0 mm vv.length).map dg := by rw [hds]; simp [rungs0, rngD_len]
  clear hds
  obtain ⟨hr0, hb0⟩ := laidV_all hV
  -- the vectors in turn
  refine s_seq (s_forD (ds := enD (vv.map dt)) (fun j O ρ => ∃ rs x5 x6 x7 x8, O = [(l, .lst (rs.map dg))] ∧ ρ = [some (dt mm), some (dvs vv), some (.int mm.length), some (.int vv.length), some (.obj l), x5, x6, x7, x8, none, none, none, none, none, none] ∧
    Rungs mm vv.length 0 rs ∧ AllBd (1 + 800 * mm.length * j) rs ∧ laidV mm vv.length j (vv.drop j) rs = laidV mm vv.length 0 vv (rungs0 mm vv.length)) m2 (wk_en .t (ea_consD (ev_var rfl) ea_nil) rfl)
    ⟨rungs0 mm vv.length, _, _, _, _, rfl, rfl, (rungs0_ok hV.mp _).1, fun r hr => (rungs0_bd r hr).mono (by omega), rfl⟩ ?_ ?_)
  · rintro j d O3 ρ3 σ3 Gb G3 H3 hd ⟨rs, x5, x6, x7, x8, rfl, rfl, hR, hB, hL⟩ eb e3 m3
    obtain ⟨y, hy, rfl⟩ := enD_get hd
    rw [List.getElem?_map] at hy
    obtain ⟨v, hv, rfl⟩ := Option.map_eq_some_iff.mp hy
    have hj : j < vv.length := (List.getElem?_eq_some_iff.mp hv).1
    have lv : v.length = mm.length := hV.lv v (List.mem_of_getElem? hv)
    obtain ⟨rw0, rb0⟩ := row0_ok (k := vv.length) (j := j) hV.mp lv
    refine ⟨_, _, tg_tup (tgs_cons tg_name (tgs_cons tg_name tgs_nil)) rfl, fun σ4 m4 => ?_⟩
    refine s_seq (s_setD m4 (d := dg (row0 mm vv.length j v)) ((ev_tupD (ea_consD (EvN.evD (en_lcM (v := un2 fun x y => x % y) (wk_zip2 .t .t (ea_consD (ev_var rfl) (ea_consD (ev_var rfl) ea_nil)) rfl rfl (by simpa using lv)) (by simp [zipD]; exact line1000 (by omega)) fun i d hd => ?_))
      (ea_consD (EvN.evD (en_lcI (v := fun a => .int (if a = j then 1 else 0)) (wk_rng1D (ea_consD (ev_var rfl) ea_nil) (n62 (by omega)).1 (n62 (by omega)).2) (by rw [rngD_len]; exact line1000 (by omega)) fun a d ha => ?_)) ea_nil)) (by show 2 ≤ sizeLine; decide)).is ?_) fun σ5 G5 H5 e5 m5 => ?_)
    · obtain ⟨a, b, ha, hb, rfl⟩ := zipD_get hd
      rw [List.getElem?_map] at ha hb
      obtain ⟨x, hx, rfl⟩ := Option.map_eq_some_iff.mp ha
      obtain ⟨y, hy, rfl⟩ := Option.map_eq_some_iff.mp hb
      refine ⟨_, _, tg_tup (tgs_cons tg_name (tgs_cons tg_name tgs_nil)) rfl, by decide, ?_⟩
      exact ev_op2D (ev_var rfl) (ev_var rfl) (o_intC (mod_pos hV.mp y (List.mem_of_getElem? hy)).1)
    · obtain ⟨ha, rfl⟩ := rng0_get ha
      refine ⟨_, _, tg_name, by decide, ?_⟩
      refine (ev_cbD (ea_consD (ev_op2D (ev_var rfl) (ev_var rfl) o_eqI) ea_nil) l_intB).is ?_
      congr 1
      by_cases e : a = j
      · subst e; simp
      · rw [if_neg e, if_neg (by simp; omega)]
    · show D.tup [_, _] = dg (row0 mm vv.length j v)
      unfold row0
      congr 2
      · rw [zip_map2 (fun x y => x % y) _ D.int D.int fun a b => rfl]
      · congr 1
        rw [rngD_len]
        simp
    -- the places in turn
    refine s_forD (ds := rngD 0 mm.length) (fun i O ρ => ∃ dn rest w' x8', O = [(l, .lst ((dn ++ rest).map dg))] ∧ ρ = [some (dt mm), some (dvs vv), some (.int mm.length), some (.int vv.length), some (.obj l), some (.int (j : Int)), some (dt v), some (dg w'), x8', none, none, none, none, none, none] ∧
      dn.length = i ∧ Rungs mm vv.length i rest ∧ Row mm vv.length i w' ∧ AllBd (1 + 800 * mm.length * j + 800 * i) (dn ++ rest) ∧ Bd (1 + 800 * mm.length * j + 800 * i) w'.2 ∧ (absR mm 0 rs (row0 mm vv.length j v)).1 = dn ++ (absR mm i rest w').1) m5
      (wk_rng1D (ea_consD (ev_var rfl) ea_nil) (n62 (by omega)).1 (n62 (by omega)).2) ⟨[], rs, row0 mm vv.length j v, x8, rfl, rfl, rfl, hR, rw0, hB.mono (by omega), rb0.mono (by omega), rfl⟩ ?_ ?_
    · rintro i d O6 ρ6 σ6 Gb' G6 H6 hd ⟨dn, rest, w', x8', rfl, rfl, rfl, h1, h2, h3, h4, h5⟩ eb' e6 m6
      obtain ⟨hi, rfl⟩ := rng0_get hd
      refine ⟨_, _, tg_name, fun σ7 m7 => ?_⟩
      obtain ⟨r, rest', rfl⟩ := h1.uncons hi
      · have hjm : 800 * mm.length * j ≤ 800 * 12 * 40 := Nat.mul_le_mul (Nat.mul_le_mul_left _ hn) (by omega)
        have hb : ∀ b : Nat, b ≤ 1 + 800 * mm.length * j + 800 * dn.length → b ≤ 40000000 := fun b hb => by omega
        obtain ⟨k1, k2, k3, k4⟩ := met_ok hV.mp h2 h1 (h3 r (List.mem_append_right _ List.mem_cons_self)) h4
        have two := h2.two hV.mp h1
        have l2 : r.2.length = vv.length := h1.tl.1.l2
        refine s_asgPut 0 m7 (ev_callD (r, w', mm, dn.length) (ea_consD (ev_ixO 0 rfl rfl (ev_var rfl) at_app) (ea_consD (ev_var rfl) (ea_consD (ev_var rfl) (ea_consD (ev_var rfl) ea_nil))))
          ⟨two, by show mm.length ≤ 100; omega, by show r.2.length = w'.2.length; rw [l2, h2.l2], by show r.2.length ≤ 1000; omega, (h3 r (List.mem_append_right _ List.mem_cons_self)).mono (hb _ (Nat.le_refl _)), h4.mono (hb _ (Nat.le_refl _))⟩) rfl rfl (ev_var rfl) (ixN_of (by simp)) fun σ8 G8 H8 e8 m8 => ?_
        have a7 := k1.tl.2.2
        · refine Nxt.mk (e6.trans e8) ⟨dn ++ [(met mm dn.length r w').1], rest', (met mm dn.length r w').2, some (.int (dn.length : Int)), ?_, rfl, by simp, a7, k2, ?_, k4.mono (by omega), ?_⟩ m8
          · rw [set_app, List.append_assoc]; rfl
          · rw [List.append_assoc]
            exact AllBd.app (fun s hs => (h3 s (List.mem_append_left _ hs)).mono (by omega)) (AllBd.cons (k3.mono (by omega)) fun s hs => (h3 s (List.mem_append_right _ (List.mem_cons_of_mem _ hs))).mono (by omega))
          · rw [h5, List.append_assoc]; rfl
    · rintro O6 ρ6 σ6 G6 H6 ⟨dn, rest, w', x8', rfl, rfl, hdn, h1, h2, h3, h4, h5⟩ e6 m6
      rw [rngD_len] at hdn h1 h3
      have : rest = [] := h1.unnil (Nat.le_refl _)
      subst this
      obtain ⟨q1, q2⟩ := abs_ok hV.mp hR rw0 hB (rb0.mono (by omega))
      rw [h5] at q1
      simp only [absR, List.append_nil] at q1 h3 h5 ⊢
      rw [List.append_nil] at m6
      refine Nxt.mk (e3.trans (e5.trans e6)) ⟨dn, _, _, _, _, rfl, rfl, q1, h3.mono (by rw [Nat.mul_succ]; omega), ?_⟩ m6
      rw [← hL, List.drop_eq_getElem_cons hj]
      have ev : vv[j] = v := by rw [List.getElem?_eq_getElem hj] at hv; exact Option.some.inj hv
      rw [ev]
      show _ = laidV mm vv.length (j + 1) (vv.drop (j + 1)) (absR mm 0 rs (row0 mm vv.length j v)).1
      rw [h5]
  · rintro O3 ρ3 σ3 G3 H3 ⟨rs, x5, x6, x7, x8, rfl, rfl, hR, hB, hL⟩ e3 m3
    rw [enD_len, List.length_map] at hL hB
    rw [List.drop_length] at hL
    have hL : rs = laidV mm vv.length 0 vv (rungs0 mm vv.length) := hL
    have hC : 1 + 800 * mm.length * vv.length ≤ 400000 := by
      have : 800 * mm.length * vv.length ≤ 800 * 12 * 40 := Nat.mul_le_mul (Nat.mul_le_mul_left _ hn) hk
      omega
    have hB := hB.mono hC
    refine s_seq (s_forD (ds := rngD 0 mm.length) (fun i O ρ => ∃ dn rest x5 x6 x7 x8 x9 x10 x11, O = [(l, .lst ((dn ++ rest).map dg))] ∧ ρ = [some (dt mm), some (dvs vv), some (.int mm.length), some (.int vv.length), some (.obj l), x5, x6, x7, x8, x9, x10, x11, none, none, none] ∧
      dn.length = i ∧ Rws mm vv.length i rest ∧ (∀ s ∈ rest, Bd 7 s.1) ∧ AllBd 400000 rest ∧ redAll 0 rs = dn ++ redAll i rest) m3 (wk_rng1D (ea_consD (ev_var rfl) ea_nil) (n62 (by omega)).1 (n62 (by omega)).2)
      ⟨[], rs, _, _, _, _, _, _, _, rfl, rfl, rfl, hR.rws, hR.bd7, hB, rfl⟩ ?_ ?_)
    · rintro i d O6 ρ6 σ6 Gb' G6 H6 hd ⟨dn, rest, x5, x6, x7, x8, x9, x10, x11, rfl, rfl, rfl, h1, h2, h3, h4⟩ eb' e6 m6
      obtain ⟨hi, rfl⟩ := rng0_get hd
      refine ⟨_, _, tg_name, fun σ7 m7 => ?_⟩
      obtain ⟨r, rest', rfl⟩ := h1.uncons hi
      obtain ⟨⟨a1, a2, a3, a4, a4', a5⟩, a6⟩ := h1.tl
      · have hl := a6.len
        refine s_forD (ds := rngD ((dn.length : Int) + 1) (mm.length - ((dn.length : Int) + 1)).toNat) (fun t O ρ => ∃ cur dn2 tl x7 x9 x10 x11, O = [(l, .lst ((dn ++ cur :: (dn2 ++ tl)).map dg))] ∧ ρ = [some (dt mm), some (dvs vv), some (.int mm.length), some (.int vv.length), some (.obj l), x5, x6, x7, some (.int (dn.length : Int)), x9, x10, x11, none, none, none] ∧
          rest' = dn2 ++ tl ∧ dn2.length = t ∧ cur.1.length = mm.length ∧ cur.2.length = vv.length ∧ Bd (7 + 8 * t) cur.1 ∧ Bd (400200 + t) cur.2 ∧ Rws mm vv.length (dn.length + 1 + t) tl ∧ redOne (dn.length + 1) r rest' = redOne (dn.length + 1 + t) cur tl) m7
          (wk_rng2D (ea_consD (ev_op2D (ev_var rfl) ev_int o_int) (ea_consD (ev_var rfl) ea_nil)) (r62 (by omega) (by omega))) ⟨r, [], rest', _, _, _, _, rfl, rfl, rfl, rfl, a2, a3, h2 r List.mem_cons_self, (h3 r List.mem_cons_self).mono (by omega), a6, rfl⟩ ?_ ?_
        · rintro t d O8 ρ8 σ8 Gb8 G8 H8 hd8 ⟨cur, dn2, tl, x7, x9, x10, x11, rfl, rfl, rfl, rfl, c1, c2, c3, c4, c5, c6⟩ eb8 e8 m8
          obtain ⟨ht, rfl⟩ := rngD_get hd8
          refine ⟨_, _, tg_name, fun σ9 m9 => ?_⟩
          have hle : dn.length + 1 + dn2.length + tl.length = mm.length := c5.len
          obtain ⟨s, tl', rfl⟩ := c5.uncons (by omega)
          obtain ⟨⟨b1, b2, b3, b4, b4', b5⟩, b6⟩ := c5.tl
          · have lt : ((dn.length : Int) + 1 + (dn2.length : Int)) = ((dn.length + 1 + dn2.length : Nat) : Int) := by omega
            have hs : atI ((dn ++ cur :: (dn2 ++ s :: tl')).map dg) ((dn.length : Int) + 1 + (dn2.length : Int)) = some (dg s) := by
              rw [lt, show dn ++ cur :: (dn2 ++ s :: tl') = (dn ++ cur :: dn2) ++ s :: tl' by simp]
              have := at_app (ds := dn ++ cur :: dn2) (r := s) (es := tl')
              rw [show (dn ++ cur :: dn2).length = dn.length + 1 + dn2.length by simp; omega] at this
              exact this
            refine s_seq (s_asgD m9 (ev_ixO 0 rfl rfl (ev_var rfl) at_app) (tg_tup (tgs_cons tg_name (tgs_cons tg_name tgs_nil)) rfl) fun σa Ga Ha ea ma => ?_)
            have hc : atI (cur.1.map D.int) ((dn.length : Int) + 1 + (dn2.length : Int)) = some (.int (g cur.1 (dn.length + 1 + dn2.length))) := by rw [lt]; exact at_dl (by rw [c1]; exact b1)
            have hc2 : atI (s.1.map D.int) ((dn.length : Int) + 1 + (dn2.length : Int)) = some (.int (g s.1 (dn.length + 1 + dn2.length))) := by rw [lt]; exact at_dl (by rw [b2]; exact b1)
            refine s_seq (s_setD ma (ev_op2D (ev_op2D (ev_var rfl) (ev_var rfl) (o_ixL hc)) (ev_op2D (ev_op2D (ev_ixO 0 rfl rfl (ev_var rfl) hs) ev_int (o_ixT rfl)) (ev_var rfl) (o_ixL hc2)) (o_intC ⟨b4, by omega⟩)) fun σb Gb2 Hb eb2 mb => ?_)
            have hq : (g cur.1 (dn.length + 1 + dn2.length) / g s.1 (dn.length + 1 + dn2.length)).natAbs < 2 ^ (7 + 8 * dn2.length) := div_bd (c3.at _) b4
            have hq' : (g cur.1 (dn.length + 1 + dn2.length) / g s.1 (dn.length + 1 + dn2.length)).natAbs < 2 ^ 50000000 := Nat.lt_of_lt_of_le hq (Nat.pow_le_pow_right (by decide) (by omega))
            have l1 : cur.1.length = s.1.length := c1.trans b2.symm
            have l2 : cur.2.length = s.2.length := c2.trans b3.symm
            have bs1 : Bd 7 s.1 := h2 s (List.mem_cons_of_mem _ (List.mem_append_right _ List.mem_cons_self))
            have bs2 : Bd 400000 s.2 := h3 s (List.mem_cons_of_mem _ (List.mem_append_right _ List.mem_cons_self))
            dsimp only
            show tAsg _ _ _ _ _
            refine s_put (i := 4) (l := l) (j := dn.length) (P := fun d => d = dg (subR cur s (g cur.1 (dn.length + 1 + dn2.length) / g s.1 (dn.length + 1 + dn2.length)))) 0 mb rfl rfl ?_ (ev_var (i := 8) rfl) (ixN_of (by simp)) fun dd Gd Hd hdd ed md => ?_
            · exact ev_tupD (ea_consD (ev_callD (cur.1, s.1, g cur.1 (dn.length + 1 + dn2.length) / g s.1 (dn.length + 1 + dn2.length)) (ea_consD (ev_var rfl) (ea_consD (ev_op2D (ev_ixO 0 rfl rfl (ev_var rfl) hs) ev_int (o_ixT rfl)) (ea_consD (ev_var rfl) ea_nil))) ⟨l1, by show cur.1.length ≤ 1000; omega, bs1.mono (by decide), hq'⟩)
                (ea_consD (ev_callD (cur.2, s.2, g cur.1 (dn.length + 1 + dn2.length) / g s.1 (dn.length + 1 + dn2.length)) (ea_consD (ev_var rfl) (ea_consD (ev_op2D (ev_ixO 0 rfl rfl (ev_var rfl) hs) ev_int (o_ixT rfl)) (ea_consD (ev_var rfl) ea_nil))) ⟨l2, by show cur.2.length ≤ 1000; omega, bs2.mono (by decide), hq'⟩) ea_nil)) (by show 2 ≤ sizeLine; decide)
            subst hdd
            refine Nxt.mk (e8.trans (ea.trans (eb2.trans ed))) ⟨subR cur s (g cur.1 (dn.length + 1 + dn2.length) / g s.1 (dn.length + 1 + dn2.length)), dn2 ++ [s], tl', _, _, _, _, ?_, rfl, by simp, by simp, (less_len l1).trans c1, (less_len l2).trans c2, (bd_less c3 bs1 hq l1).mono (by omega), (bd_less c4 bs2 hq l2).mono (by omega), b6, c6⟩ md
            have := set_app (ds := dn) (r := cur) (r' := subR cur s (g cur.1 (dn.length + 1 + dn2.length) / g s.1 (dn.length + 1 + dn2.length))) (es := dn2 ++ s :: tl')
            rw [show dn2 ++ [s] ++ tl' = dn2 ++ s :: tl' by simp, ← this]
            rfl
        · rintro O8 ρ8 σ8 G8 H8 ⟨cur, dn2, tl, x7, x9, x10, x11, rfl, rfl, rfl, ht, c1, c2, c3, c4, c5, c6⟩ e8 m8
          rw [rngD_len] at ht
          have hle : dn.length + 1 + _ + tl.length = mm.length := c5.len
          rw [rngD_len] at hle
          have : tl = [] := c5.unnil (by rw [rngD_len]; omega)
          subst this
          simp only [List.append_nil] at *
          refine Nxt.mk (e6.trans e8) ⟨dn ++ [cur], dn2, _, _, _, _, _, _, _, ?_, rfl, by simp, a6, fun s hs => h2 s (List.mem_cons_of_mem _ hs), fun s hs => h3 s (List.mem_cons_of_mem _ hs), ?_⟩ m8
          · rw [List.append_assoc]; rfl
          · rw [h4, List.append_assoc]
            show dn ++ (redOne (dn.length + 1) r dn2 :: redAll (dn.length + 1) dn2) = _
            rw [c6]; rfl
    · rintro O6 ρ6 σ6 G6 H6 ⟨dn, rest, x5, x6, x7, x8, x9, x10, x11, rfl, rfl, hdn, h1, h2, h3, h4⟩ e6 m6
      rw [rngD_len] at hdn h1
      have : rest = [] := h1.unnil (Nat.le_refl _)
      subst this
      rw [List.append_nil] at m6
      obtain ⟨G7, e7, m7⟩ := m6.freeze (i := 4) rfl
      refine s_ret m7 (ev_var (i := 4) rfl) fun v d G' H' hd m8 da => q v d G' H' m8.g da ?_
      rw [hd]
      show _ = dgs (redAll 0 (laidV mm vv.length 0 vv (rungs0 mm vv.length)))
      rw [← hL, h4]
      simp [redAll]
end
end Dt

set_option Elab.async false
set_option linter.all false
set_option maxRecDepth 100000
namespace Dt
open PySem PySem.Spec PyProof.Rows L2 SpM
section
variable {P : Program} {w : World} {K : PySem.W.Frag} {mg : Str → Option Value} {base : Heap}
/-- a vector handed in as a tuple or a list -/
def sq (b : Bool) (xs : List Int) : D := if b then dl xs else dt xs
theorem sq_or (b : Bool) (xs : List Int) : sq b xs = .lst (xs.map D.int) ∨ sq b xs = .tup (xs.map D.int) := by
  cases b
  · exact .inr rfl
  · exact .inl rfl
abbrev spGone : Sp := spP (α := List Rg × Bool × List Int × Nat × List Int) (fun a => [dgs a.1, sq a.2.1 a.2.2.1])
  (fun a => Rws a.2.2.2.2 a.2.2.2.1 0 a.1 ∧ a.1 ≠ [] ∧ a.2.2.2.2.length ≤ 12 ∧ a.2.2.2.1 ≤ 1000 ∧ a.2.2.1.length = a.2.2.2.2.length ∧ (∀ r ∈ a.1, Bd 7 r.1) ∧ AllBd 40000000 a.1 ∧ Bd 40000 a.2.2.1)
  (fun a d => d = .tup [dl (goneDown a.2.2.2.1 a.1 a.2.2.1).1, dl (goneDown a.2.2.2.1 a.1 a.2.2.1).2])
theorem ok_gone (A : At K mg "gone_down" s_gone_down) (B : Bl mg) (Oless : Ok P w K mg base "less" 1 ["one", "other", "times"] spLess) : Ok P w K mg base "gone_down" 2 ["rungs", "vector"] spGone := by
  refine Ok.plain A sc_gone_down (fun _ _ _ _ _ _ us hl => match us, hl with | [_, _], _ => rfl) (fun _ => rfl) fun f cdv A outer s H vs E hr a hp => ?_
  obtain ⟨rs, b, v, k, mm⟩ := a
  obtain ⟨hR, hne, hm, hk, hv, h7, hB, hvb⟩ := hp
  have hR : Rws mm k 0 rs := hR
  have hne : rs ≠ [] := hne
  have hm : mm.length ≤ 12 := hm
  have hk : k ≤ 1000 := hk
  have hv : v.length = mm.length := hv
  have h7 : ∀ r ∈ rs, Bd 7 r.1 := h7
  have hB : AllBd 40000000 rs := hB
  have hvb : Bd 40000 v := hvb
  refine ⟨_, pss_cons (ps_par (i := 2) (j := 3) rfl sc_gone_down.nd rfl rfl (by decide) rfl rfl (pa_cons (pe_callTy call_list_of (by rfl) B.list PyProof.Rows.boot_list (pa_cons (pv 1) pa_nil)) (pa_cons (pe_op op_rep (pe_lst (pa_cons pe_int pa_nil)) (pe_callB call_len_seq (by rfl) B.len PySem.boot_len (pa_cons (pe_ix ix_tup (pe_ix ix_list (pv 0) pe_int (fun _ _ => rfl)) pe_int (fun _ _ => rfl)) pa_nil))) pa_nil)) (by rfl))
      (pss_cons (ps_for PassesOwn.never rfl (pi_en .l (by rfl) B.enumerate (pa_cons (pv 0) pa_nil)) (pg_tup rfl (pgs_cons (pg_name (i := 4) sc_gone_down.nd rfl (Or.inl rfl)) (pgs_cons (pg_tup rfl (pgs_cons (pg_name (i := 5) sc_gone_down.nd rfl (Or.inl rfl)) (pgs_cons (pg_name (i := 6) sc_gone_down.nd rfl (Or.inl rfl)) pgs_nil))) pgs_nil)))
        (pss_cons (ps_set (i := 7) sc_gone_down.nd rfl (.inl rfl) (pe_op op_fdiv (pe_ix ix_list (pv 2) (pv 4) (fun _ _ => rfl)) (pe_ix ix_list (pv 5) (pv 4) (fun _ _ => rfl))))
        (pss_one (ps_par (i := 2) (j := 3) rfl sc_gone_down.nd rfl rfl (by decide) rfl rfl (pa_cons (pe_f Oless hr (by decide) (pa_cons (pv 2) (pa_cons (pv 5) (pa_cons (pv 7) pa_nil)))) (pa_cons (pe_f Oless hr (by decide) (pa_cons (pv 3) (pa_cons (pv 6) (pa_cons (pe_un un_neg (pv 7)) pa_nil)))) pa_nil)) (by rfl)))))
      (pss_one (ps_ret (pe_tup (pa_cons (pv 2) (pa_cons (pv 3) pa_nil)))))), fun G Q m q => ?_⟩
  obtain ⟨r0, rs', rfl⟩ : ∃ r rs', rs = r :: rs' := by
    cases rs with
    | nil => exact absurd rfl hne
    | cons r rs' => exact ⟨r, rs', rfl⟩
  have k0 : r0.2.length = k := hR.tl.1.l2
  refine s_seq (s_parD m (ea_consD (EvN.evD (en_list (ds := v.map D.int) (ea_consD (ev_var rfl) ea_nil) (sq_or b v))) (ea_consD ((ev_op2D (ev_lstD (ea_consD ev_int ea_nil) (by show 1 ≤ sizeLine; decide)) ((ev_cbD (ea_consD (ev_op2D (ev_op2D (ev_var rfl) ev_int (o_ixL (d := dg r0) (atI_nat (j := 0) rfl))) ev_int (o_ixT (d := dl r0.2) rfl)) ea_nil) (l_len (.inl rfl))).is (d' := .int (k : Int)) (by simp [k0])) (o_rep (by omega) (lt63 (by omega)) (by simp; exact line1000 (by omega)))).is (d' := dl (List.replicate k 0)) (by simp)) ea_nil)) fun σ1 G1 H1 e1 m1 => ?_)
  refine s_seq (s_forD (ds := enD ((r0 :: rs').map dg)) (fun i O ρ => ∃ dn rest row cs x4 x5 x6 x7, O = [] ∧ ρ = [some (dgs (r0 :: rs')), some (sq b v), some (dl row), some (dl cs), x4, x5, x6, x7] ∧ r0 :: rs' = dn ++ rest ∧ dn.length = i ∧ Rws mm k i rest ∧
    row.length = mm.length ∧ cs.length = k ∧ Bd (40000 + 8 * i) row ∧ Bd (40050000 + i) cs ∧ goneDown k (r0 :: rs') v = gdF i rest (row, cs)) m1 (wk_en .l (ea_consD (ev_var rfl) ea_nil) rfl)
    ⟨[], r0 :: rs', v, List.replicate k 0, _, _, _, _, rfl, rfl, rfl, rfl, hR, hv, by simp, hvb, fun x hx => by
      rw [(List.mem_replicate.mp hx).2]; exact Nat.two_pow_pos _, rfl⟩ ?_ ?_)
  · rintro i d O3 ρ3 σ3 Gb G3 H3 hd ⟨dn, rest, row, cs, x4, x5, x6, x7, rfl, rfl, hsp, rfl, h1, h2, h3, h4, h5, h6⟩ eb e3 m3
    obtain ⟨y, hy, rfl⟩ := enD_get hd
    rw [List.getElem?_map] at hy
    obtain ⟨r, hr, rfl⟩ := Option.map_eq_some_iff.mp hy
    rw [hsp, List.getElem?_append_right (Nat.le_refl _), Nat.sub_self] at hr
    obtain ⟨rest', rfl⟩ : ∃ rest', rest = r :: rest' := by
      cases rest with
      | nil => simp at hr
      | cons a b => simp at hr; subst hr; exact ⟨b, rfl⟩
    obtain ⟨⟨b1, b2, b3, b4, b4', b5⟩, b6⟩ := h1.tl
    refine ⟨_, _, tg_tup (tgs_cons tg_name (tgs_cons (tg_tup (tgs_cons tg_name (tgs_cons tg_name tgs_nil)) rfl) tgs_nil)) rfl, fun σ4 m4 => ?_⟩
    refine q_setD m4 (ev_op2D (ev_op2D (ev_var rfl) (ev_var rfl) (o_ixL (at_dl (by omega)))) (ev_op2D (ev_var rfl) (ev_var rfl) (o_ixL (at_dl (by omega)))) (o_intC ⟨b4, by omega⟩)) fun σ5 G5 H5 e5 m5 => ?_
    have mem : r ∈ r0 :: rs' := by rw [hsp]; exact List.mem_append_right _ List.mem_cons_self
    have hq : (g row dn.length / g r.1 dn.length).natAbs < 2 ^ (40000 + 8 * dn.length) := div_bd (h4.at _) b4
    have hq' : (g row dn.length / g r.1 dn.length).natAbs < 2 ^ 50000000 := Nat.lt_of_lt_of_le hq (Nat.pow_le_pow_right (by decide) (by omega))
    have l1 : row.length = r.1.length := h2.trans b2.symm
    have l2 : cs.length = r.2.length := h3.trans b3.symm
    refine s_parD m5 (ea_consD (ev_callD (row, r.1, g row dn.length / g r.1 dn.length) (ea_consD (ev_var rfl) (ea_consD (ev_var rfl) (ea_consD (ev_var rfl) ea_nil))) ⟨l1, by show row.length ≤ 1000; omega, (h7 r mem).mono (by decide), hq'⟩)
      (ea_consD (ev_callD (cs, r.2, -(g row dn.length / g r.1 dn.length)) (ea_consD (ev_var rfl) (ea_consD (ev_var rfl) (ea_consD (ev_op1D (ev_var rfl) o_neg) ea_nil))) ⟨l2, by show cs.length ≤ 1000; omega, (hB r mem).mono (by decide), by rw [Int.natAbs_neg]; exact hq'⟩) ea_nil)) fun σ6 G6 H6 e6 m6 => ?_
    refine Nxt.mk (e3.trans (e5.trans e6)) ⟨dn ++ [r], rest', _, _, _, _, _, _, rfl, rfl, by rw [hsp]; simp, by simp, b6, (less_len l1).trans h2, (less_len l2).trans h3, (bd_less h4 (h7 r mem) hq l1).mono (by omega), (bd_less h5 (hB r mem) (show (-(g row dn.length / g r.1 dn.length)).natAbs < _ by rw [Int.natAbs_neg]; exact hq) l2).mono (by omega), ?_⟩ m6
    rw [h6]; rfl
  · rintro O3 ρ3 σ3 G3 H3 ⟨dn, rest, row, cs, x4, x5, x6, x7, rfl, rfl, hsp, hdn, h1, h2, h3, h4, h5, h6⟩ e3 m3
    have : rest = [] := h1.unnil (by rw [enD_len, List.length_map]; have := hR.len; omega)
    subst this
    refine s_ret m3 (ev_tupD (ea_consD (ev_var rfl) (ea_consD (ev_var rfl) ea_nil)) (by show 2 ≤ sizeLine; decide)) fun v' d G' H' hd m4 da => q v' d G' H' m4.g da ?_
    rw [hd]
    show _ = D.tup [dl (goneDown k (r0 :: rs') v).1, dl (goneDown k (r0 :: rs') v).2]
    rw [h6]; rfl
/-! ### sums_of -/
structure VB (m : List Int) (vs : List (List Int)) : Prop where
  v : Vecs m vs
  n0 : 0 < m.length
  n12 : m.length ≤ 12
  k40 : vs.length ≤ 40
theorem VB.gone {m : List Int} {vs : List (List Int)} (h : VB m vs) {v : List Int} (hv : v.length = m.length) (hb : Bd 40000 v) :
    Rws m vs.length 0 (laid m vs) ∧ laid m vs ≠ [] ∧ m.length ≤ 12 ∧ vs.length ≤ 1000 ∧ v.length = m.length ∧ (∀ r ∈ laid m vs, Bd 7 r.1) ∧ AllBd 40000000 (laid m vs) ∧ Bd 40000 v := by
  have f := laid_fin h.v
  have hl := f.rws.len
  refine ⟨f.rws, fun e => ?_, h.n12, by have := h.k40; omega, hv, fun r hr => (f.sm r hr).bd, (laid_bd h.v).mono ?_, hb⟩
  · rw [e] at hl; have := h.n0; simp at hl; omega
  · have h1 : 800 * m.length * vs.length ≤ 800 * 12 * 40 := Nat.mul_le_mul (Nat.mul_le_mul_left _ h.n12) h.k40
    have := h.n12
    omega
def optD : Option (List Int) → D
  | none => .non
  | some cs => dt cs
abbrev spSumsOf : Sp := spP (α := List Int × List (List Int) × Bool × List Int) (fun a => [dt a.1, dvs a.2.1, sq a.2.2.1 a.2.2.2]) (fun a => VB a.1 a.2.1 ∧ a.2.2.2.length = a.1.length ∧ Bd 40000 a.2.2.2) (fun a d => d = optD (sumsF a.1 a.2.1 a.2.2.2))
theorem map_un (f : Int → Int) (F : D → D) (h : ∀ x, F (.int x) = .int (f x)) (xs : List Int) : (xs.map D.int).map F = (xs.map f).map D.int := by
  rw [List.map_map, List.map_map]
  apply List.map_congr_left
  intro x _
  exact h x
def un1 (f : Int → Int) : D → D
  | .int a => .int (f a)
  | d => d
def ub1 (f : Int → Bool) : D → D
  | .int a => .bl (f a)
  | d => d
theorem map_ub (f : Int → Bool) (xs : List Int) : (xs.map D.int).map (ub1 f) = (xs.map f).map D.bl := by
  rw [List.map_map, List.map_map]
  apply List.map_congr_left
  intro x _
  rfl
theorem ok_sums_of (A : At K mg "sums_of" s_sums_of) (B : Bl mg) (Ogone_down : Ok P w K mg base "gone_down" 2 ["rungs", "vector"] spGone) (Olaid : Ok P w K mg base "laid" 3 ["moduli", "vectors"] spLaid) (Ocommon : Ok P w K mg base "common" 2 ["numbers"] spCommon) :
    Ok P w K mg base "sums_of" 4 ["moduli", "vectors", "vector"] spSumsOf := by
  refine Ok.plain A sc_sums_of (fun _ _ _ _ _ _ us hl => match us, hl with | [_, _, _], _ => rfl) (fun _ => rfl) fun f cdv A outer s H vs E hr a hp => ?_
  obtain ⟨mm, vv, b, v⟩ := a
  obtain ⟨hV, hv, hb⟩ := hp
  have hV : VB mm vv := hV
  have hv : v.length = mm.length := hv
  have hb : Bd 40000 v := hb
  refine ⟨_, pss_cons (ps_asg (pe_f Ogone_down hr (by decide) (pa_cons (pe_f Olaid hr (by decide) (pa_cons (pv 0) (pa_cons (pv 1) pa_nil))) (pa_cons (pv 2) pa_nil))) (pg_tup rfl (pgs_cons (pg_name (i := 3) sc_sums_of.nd rfl (Or.inl rfl)) (pgs_cons (pg_name (i := 4) sc_sums_of.nd rfl (Or.inl rfl)) pgs_nil))))
      (pss_cons (ps_if (pt_val (pe_callB (cr_any rfl) (by rfl) B.any PyProof.Rows.boot_any (pa_cons (pe_lc (own := [("part", 6)]) (g := gName 6) (tt := tYes) rfl sc_sums_of.nd (pi_list (pv 3)) (blkOk_by (own := [("part", 6)]) (N := n_sums_of) (sc := defScope s_sums_of) (by decide +kernel)) (fun _ _ _ _ _ => pg_name (i := 6) sc_sums_of.nd rfl (Or.inl rfl)) (fun _ _ _ _ _ => pts_nil) (fun _ _ _ _ _ => pe_cmpR op_ne (pv 6) pe_int (nomark _))) pa_nil)))
        (pss_one (ps_ret pe_non))
        (pss_nil))
      (pss_cons (ps_set (i := 5) sc_sums_of.nd rfl (.inr rfl) (pe_f Ocommon hr (by decide) (pa_cons (pv 0) pa_nil)))
      (pss_one (ps_ret (pe_callTy call_tuple_of (by rfl) B.tuple PyProof.Rows.boot_tuple (pa_cons (pe_lc (own := [("count", 7)]) (g := gName 7) (tt := tYes) rfl sc_sums_of.nd (pi_list (pv 4)) (blkOk_by (own := [("count", 7)]) (N := n_sums_of) (sc := defScope s_sums_of) (by decide +kernel)) (fun _ _ _ _ _ => pg_name (i := 7) sc_sums_of.nd rfl (Or.inl rfl)) (fun _ _ _ _ _ => pts_nil) (fun _ _ _ _ _ => pe_op op_mod (pv 7) (pv 5))) pa_nil)))))), fun G Q m q => ?_⟩
  have gk := gone_ok hV.v hv
  refine s_seq (s_asgD m (ev_callD (laid mm vv, b, v, vv.length, mm) (ea_consD (ev_callD (mm, vv) (ea_consD (ev_var rfl) (ea_consD (ev_var rfl) ea_nil)) ⟨hV.v, hV.n0, hV.n12, hV.k40⟩) (ea_consD (ev_var rfl) ea_nil)) (hV.gone hv hb)) (tg_tup (tgs_cons tg_name (tgs_cons tg_name tgs_nil)) rfl) fun σ1 G1 H1 e1 m1 => ?_)
  have hle : mm.length ≤ 12 := hV.n12
  have hk : vv.length ≤ 40 := hV.k40
  refine s_seq (s_if m1 (et_BD (b := (goneDown vv.length (laid mm vv) v).1.any (fun x => x != 0)) ((ev_cbD (ea_consD ((EvN.evD (en_lcM (v := ub1 (fun x => x != 0)) (wk_listD (ds := (goneDown vv.length (laid mm vv) v).1.map D.int) (ev_var rfl)) (by rw [List.length_map, gk.1]; exact line1000 (by omega)) fun i d hd => ?_)).is (congrArg D.lst (map_ub _ _))) ea_nil) l_any).is (by simp [Function.comp_def]))) (fun hb G2 H2 e2 m2 => ?_) fun hb G2 H2 e2 m2 => ?_)
  · rw [List.getElem?_map] at hd
    obtain ⟨x, hx, rfl⟩ := Option.map_eq_some_iff.mp hd
    refine ⟨_, _, tg_name, by decide, ?_⟩
    refine (ev_op2D (ev_var rfl) ev_int o_neI).is ?_
    show D.bl _ = D.bl (x != 0)
    congr 1
  · refine s_ret m2 ev_non fun v' d G' H' hd m4 da => q v' d G' H' m4.g da ?_
    rw [hd]
    show D.non = optD (sumsF mm vv v)
    unfold sumsF
    rw [if_pos hb.symm]; rfl
  · dsimp only [tNext]
    refine s_seq (s_setD m2 (ev_callD mm (ea_consD (ev_var rfl) ea_nil) ⟨by omega, fun n hn => by have := mod_pos hV.v.mp n hn; omega⟩) fun σ3 G3 H3 e3 m3 => ?_)
    have w0 : 0 < SpM.common mm := (common_ok fun n hn => (mod_pos hV.v.mp n hn).1).1
    refine s_ret m3 (ev_cbD (ea_consD ((EvN.evD (en_lcM (v := un1 (fun x => x % SpM.common mm)) (wk_listD (ds := (goneDown vv.length (laid mm vv) v).2.map D.int) (ev_var rfl)) (by rw [List.length_map, gk.2.1]; exact line1000 (by omega)) fun i d hd => ?_)).is (congrArg D.lst (map_un (fun x => x % SpM.common mm) _ (fun _ => rfl) _))) ea_nil) l_tupleL) fun v' d G' H' hd m4 da => q v' d G' H' m4.g da ?_
    · rw [List.getElem?_map] at hd
      obtain ⟨x, hx, rfl⟩ := Option.map_eq_some_iff.mp hd
      refine ⟨_, _, tg_name, by decide, ?_⟩
      exact ev_op2D (ev_var rfl) (ev_var rfl) (o_intC w0)
    · rw [hd]
      show _ = optD (sumsF mm vv v)
      unfold sumsF
      rw [if_neg (by rw [← hb]; decide)]; rfl
/-! ### what is handed in is looked at -/
theorem isi {S : Addr → Prop} {O : Os} {ρ : Rho} {G0 : Hp} {te : TE} {d : D} {m n : String} {r : Bool} (h : Ev S O ρ G0 te (· = d)) (t : tyD d = some m) (k : kitB m n = some r) : Ev S O ρ G0 (tCB (rIsi K) (tCons te (tCons (tC (.ty n)) tNil))) (· = .bl r) :=
  ev_cbD (ea_consD h (ea_consD ev_ty ea_nil)) (l_isi t k)
theorem kit_ii : kitB "int" "int" = some true := by decide +kernel
theorem kit_ib : kitB "int" "bool" = some false := by decide +kernel
theorem kit_tt : kitB "tuple" "tuple" = some true := by decide +kernel
abbrev spWhole : Sp := spP (α := Int) (fun a => [.int a]) (fun _ => True) (fun _ d => d = .bl true)
theorem ok_is_whole (A : At K mg "is_whole" s_is_whole) (B : Bl mg) : Ok P w K mg base "is_whole" 1 ["thing"] spWhole := by
  refine Ok.plain A sc_is_whole (fun _ _ _ _ _ _ us hl => match us, hl with | [_], _ => rfl) (fun _ => rfl) fun f cdv A outer s H vs E hr a hp => ?_
  refine ⟨_, pss_one (ps_ret (pe_and (pe_callB call_isi (by rfl) B.isinstance PyProof.Rows.boot_isinstance (pa_cons (pv 0) (pa_cons (pe_bltn (v := .ty "int") (by rfl) B.int PyProof.Rows.boot_int rfl) pa_nil))) (pe_one (pe_not (pe_callB call_isi (by rfl) B.isinstance PyProof.Rows.boot_isinstance (pa_cons (pv 0) (pa_cons (pe_bltn (v := .ty "bool") (by rfl) B.bool PyProof.Rows.boot_bool rfl) pa_nil))))))), fun G Q m q => ?_⟩
  exact s_ret m (ev_andVD (isi (ev_var rfl) rfl kit_ii) fun _ => ev_notVD (isi (ev_var rfl) rfl kit_ib)) fun v d G' H' hd m3 da => q v d G' H' m3.g da hd
abbrev spWithin : Sp := spP (α := Int × Int × Int) (fun a => [.int a.1, .int a.2.1, .int a.2.2]) (fun _ => True) (fun a d => d = .bl (decide (a.2.1 ≤ a.1) && decide (a.1 ≤ a.2.2)))
theorem ok_is_within (A : At K mg "is_within" s_is_within) (Ois_whole : Ok P w K mg base "is_whole" 1 ["thing"] spWhole) : Ok P w K mg base "is_within" 2 ["thing", "low", "high"] spWithin := by
  refine Ok.plain A sc_is_within (fun _ _ _ _ _ _ us hl => match us, hl with | [_, _, _], _ => rfl) (fun _ => rfl) fun f cdv A outer s H vs E hr a hp => ?_
  refine ⟨_, pss_one (ps_ret (pe_and (pe_f Ois_whole hr (by decide) (pa_cons (pv 0) pa_nil)) (pe_one (pe_chain op_le op_le (pv 1) (pv 0) (pv 2))))), fun G Q m q => ?_⟩
  refine s_ret m (ev_andVD (a := true) (ev_callD a.1 (ea_consD (ev_var rfl) ea_nil) trivial) fun _ => ev_chain (ev_var rfl) (ev_var rfl) o_cmp (fun _ => ev_var rfl) fun _ => o_cmp) fun v d G' H' hd m3 da => q v d G' H' m3.g da ?_
  rw [hd]
  simp
structure Cn (mg : Str → Option Value) : Prop where
  MOST_MODULI : IntC mg "MOST_MODULI" 12
  MOST_MODULUS : IntC mg "MOST_MODULUS" 99
  MOST_VECTORS : IntC mg "MOST_VECTORS" 40
theorem all_true {n : Nat} : ((List.replicate n true).map D.bl) = List.replicate n (D.bl true) := by simp
theorem map_const_true : ∀ (xs : List D), xs.map (fun _ => D.bl true) = (List.replicate xs.length true).map D.bl
  | [] => rfl
  | x :: xs => by
    have := map_const_true xs
    rw [List.map_cons, List.length_cons, List.replicate_succ, List.map_cons, this]
abbrev spChkM : Sp := spP (α := List Int) (fun a => [dt a]) (fun a => 0 < a.length ∧ a.length ≤ 12 ∧ MP a) (fun _ d => d = .non)
theorem ok_check_moduli (A : At K mg "check_moduli" s_check_moduli) (B : Bl mg) (C : Cn mg) (Ois_within : Ok P w K mg base "is_within" 2 ["thing", "low", "high"] spWithin) : Ok P w K mg base "check_moduli" 3 ["moduli"] spChkM := by
  refine Ok.plain A sc_check_moduli (fun _ _ _ _ _ _ us hl => match us, hl with | [_], _ => rfl) (fun _ => rfl) fun f cdv A outer s H vs E hr a hp => ?_
  obtain ⟨h0, h1, h2⟩ := hp
  refine ⟨_, pss_cons (ps_if (PW.pt (pw_or (pt_not (pt_val (pe_callB call_isi (by rfl) B.isinstance PyProof.Rows.boot_isinstance (pa_cons (pv 0) (pa_cons (pe_bltn (v := .ty "tuple") (by rfl) B.tuple PyProof.Rows.boot_tuple rfl) pa_nil))))) (pw_or1 (pt_not (pt_chain op_le op_le pe_int (pe_callB call_len_seq (by rfl) B.len PySem.boot_len (pa_cons (pv 0) pa_nil)) (pe_ic C.MOST_MODULI))))))
        (pss_one (ps_never))
        (pss_nil))
      (pss_one (ps_if (pt_not (pt_val (pe_callB (cr_all rfl) (by rfl) B.all PyProof.Rows.boot_all (pa_cons (pe_lc (own := [("modulus", 1)]) (g := gName 1) (tt := tYes) rfl sc_check_moduli.nd (pi_tup (pv 0)) (blkOk_by (own := [("modulus", 1)]) (N := n_check_moduli) (sc := defScope s_check_moduli) (by decide +kernel)) (fun _ _ _ _ _ => pg_name (i := 1) sc_check_moduli.nd rfl (Or.inl rfl)) (fun _ _ _ _ _ => pts_nil) (fun _ _ _ _ _ => pe_f Ois_within hr (by decide) (pa_cons (pv 1) (pa_cons pe_int (pa_cons (pe_ic C.MOST_MODULUS) pa_nil))))) pa_nil))))
        (pss_one (ps_never))
        (pss_nil))), fun G Q m q => ?_⟩
  refine s_seq (s_ifF m ((et_orD (a := false) (b := false) ((et_notD (et_BD (isi (ev_var rfl) rfl kit_tt)))) fun _ => (et_notD (et_testD (b := true) ((ev_chain ev_int (ev_cbD (ea_consD (ev_var rfl) ea_nil) (l_len (ds := a.map D.int) (.inr rfl))) o_cmp (fun _ => ev_int) fun _ => o_cmp).is ?_))))) fun G1 H1 e1 m1 => ?_)
  · congr 1
    simp only [List.length_map]
    rw [decide_eq_true (by omega), decide_eq_true (by omega)]; rfl
  · dsimp only [tNext]
    refine s_ifF m1 ((et_notD (et_BD (b := true) ((ev_cbD (ea_consD ((EvN.evD (en_lcM (v := fun _ => D.bl true) (wk_tupD (ds := a.map D.int) (ev_var rfl)) (by rw [List.length_map]; exact line1000 (by omega)) fun i d hd => ?_)).is (congrArg D.lst (map_const_true _))) ea_nil) l_all).is (by simp))))) fun G2 H2 e2 m2 => ?_
    · rw [List.getElem?_map] at hd
      obtain ⟨x, hx, rfl⟩ := Option.map_eq_some_iff.mp hd
      refine ⟨_, _, tg_name, by decide, ?_⟩
      refine Ev.imp (ev_callD (x, 1, 99) (ea_consD (ev_var rfl) (ea_consD ev_int (ea_consD ev_int ea_nil))) trivial) fun d hd => ?_
      rw [hd]
      have := mod_pos h2 x (List.mem_of_getElem? hx)
      show D.bl (decide (1 ≤ x) && decide (x ≤ 99)) = D.bl true
      rw [decide_eq_true (by omega), decide_eq_true (by omega)]; rfl
    · exact q _ _ G2 H2 m2.g .non rfl
abbrev spIsV : Sp := spP (α := List Int × List Int) (fun a => [dt a.1, dt a.2]) (fun a => a.2.length = a.1.length ∧ a.1.length ≤ 1000) (fun _ d => d = .bl true)
theorem ok_is_vector (A : At K mg "is_vector" s_is_vector) (B : Bl mg) (Ois_whole : Ok P w K mg base "is_whole" 1 ["thing"] spWhole) : Ok P w K mg base "is_vector" 2 ["moduli", "thing"] spIsV := by
  refine Ok.plain A sc_is_vector (fun _ _ _ _ _ _ us hl => match us, hl with | [_, _], _ => rfl) (fun _ => rfl) fun f cdv A outer s H vs E hr a hp => ?_
  obtain ⟨mm, v⟩ := a
  obtain ⟨h1, h2⟩ := hp
  have h1 : v.length = mm.length := h1
  have h2 : mm.length ≤ 1000 := h2
  refine ⟨_, pss_one (ps_ret (pe_and (pe_callB call_isi (by rfl) B.isinstance PyProof.Rows.boot_isinstance (pa_cons (pv 1) (pa_cons (pe_bltn (v := .ty "tuple") (by rfl) B.tuple PyProof.Rows.boot_tuple rfl) pa_nil))) (pe_and (pe_cmpR op_eq (pe_callB call_len_seq (by rfl) B.len PySem.boot_len (pa_cons (pv 1) pa_nil)) (pe_callB call_len_seq (by rfl) B.len PySem.boot_len (pa_cons (pv 0) pa_nil)) (nomark _)) (pe_one (pe_callB (cr_all rfl) (by rfl) B.all PyProof.Rows.boot_all (pa_cons (pe_lc (own := [("part", 2)]) (g := gName 2) (tt := tYes) rfl sc_is_vector.nd (pi_tup (pv 1)) (blkOk_by (own := [("part", 2)]) (N := n_is_vector) (sc := defScope s_is_vector) (by decide +kernel)) (fun _ _ _ _ _ => pg_name (i := 2) sc_is_vector.nd rfl (Or.inl rfl)) (fun _ _ _ _ _ => pts_nil) (fun _ _ _ _ _ => pe_f Ois_whole hr (by decide) (pa_cons (pv 2) pa_nil))) pa_nil)))))), fun G Q m q => ?_⟩
  refine s_ret m (ev_andVD (isi (ev_var rfl) rfl kit_tt) fun _ => ev_andVD (a := true) (b := true) ((ev_op2D (ev_cbD (ea_consD (ev_var rfl) ea_nil) (l_len (ds := v.map D.int) (.inr rfl))) (ev_cbD (ea_consD (ev_var rfl) ea_nil) (l_len (ds := mm.map D.int) (.inr rfl))) o_eqI).is (by simp [h1])) fun _ =>
    ((ev_cbD (ea_consD ((EvN.evD (en_lcM (v := fun _ => D.bl true) (wk_tupD (ds := v.map D.int) (ev_var rfl)) (by rw [List.length_map]; exact line1000 (by omega)) fun i d hd => ?_)).is (congrArg D.lst (map_const_true _))) ea_nil) l_all).is (by simp))) fun v d G' H' hd m3 da => q v d G' H' m3.g da hd
  rw [List.getElem?_map] at hd
  obtain ⟨x, hx, rfl⟩ := Option.map_eq_some_iff.mp hd
  exact ⟨_, _, tg_name, by decide, ev_callD x (ea_consD (ev_var rfl) ea_nil) trivial⟩
abbrev spChkVs : Sp := spP (α := List Int × List (List Int)) (fun a => [dt a.1, dvs a.2]) (fun a => VB a.1 a.2) (fun _ d => d = .non)
theorem ok_check_vectors (A : At K mg "check_vectors" s_check_vectors) (B : Bl mg) (C : Cn mg) (Ocheck_moduli : Ok P w K mg base "check_moduli" 3 ["moduli"] spChkM) (Ois_vector : Ok P w K mg base "is_vector" 2 ["moduli", "thing"] spIsV) :
    Ok P w K mg base "check_vectors" 4 ["moduli", "vectors"] spChkVs := by
  refine Ok.plain A sc_check_vectors (fun _ _ _ _ _ _ us hl => match us, hl with | [_, _], _ => rfl) (fun _ => rfl) fun f cdv A outer s H vs E hr a hp => ?_
  obtain ⟨mm, vv⟩ := a
  have hV : VB mm vv := hp
  refine ⟨_, pss_cons (ps_expr (pe_f Ocheck_moduli hr (by decide) (pa_cons (pv 0) pa_nil)))
      (pss_cons (ps_if (PW.pt (pw_or (pt_not (pt_val (pe_callB call_isi (by rfl) B.isinstance PyProof.Rows.boot_isinstance (pa_cons (pv 1) (pa_cons (pe_bltn (v := .ty "tuple") (by rfl) B.tuple PyProof.Rows.boot_tuple rfl) pa_nil))))) (pw_or1 (pt_cmpR op_gt (pe_callB call_len_seq (by rfl) B.len PySem.boot_len (pa_cons (pv 1) pa_nil)) (pe_ic C.MOST_VECTORS) (nomark _)))))
        (pss_one (ps_never))
        (pss_nil))
      (pss_one (ps_for PassesOwn.never rfl (pi_en .t (by rfl) B.enumerate (pa_cons (pv 1) pa_nil)) (pg_tup rfl (pgs_cons (pg_name (i := 2) sc_check_vectors.nd rfl (Or.inl rfl)) (pgs_cons (pg_name (i := 3) sc_check_vectors.nd rfl (Or.inl rfl)) pgs_nil)))
        (pss_one (ps_if (pt_not (pt_val (pe_f Ois_vector hr (by decide) (pa_cons (pv 0) (pa_cons (pv 3) pa_nil)))))
          (pss_one (ps_never))
          (pss_nil)))))), fun G Q m q => ?_⟩
  refine s_seq (s_drop m (ev_callD mm (ea_consD (ev_var rfl) ea_nil) ⟨hV.n0, hV.n12, hV.v.mp⟩) fun G1 H1 e1 m1 => ?_)
  refine s_seq (s_ifF m1 ((et_orD (a := false) (b := false) ((et_notD (et_BD (isi (ev_var rfl) rfl kit_tt)))) fun _ => et_testD ((ev_op2D (ev_cbD (ea_consD (ev_var rfl) ea_nil) (l_len (ds := vv.map dt) (.inr rfl))) ev_int o_cmp).is ?_))) fun G2 H2 e2 m2 => ?_)
  · congr 1
    have := hV.k40
    simp only [List.length_map]
    rw [decide_eq_false (by omega)]
  · dsimp only [tNext]
    refine s_forD (ds := enD (vv.map dt)) (fun i O ρ => ∃ x2 x3, O = [] ∧ ρ = [some (dt mm), some (dvs vv), x2, x3]) m2 (wk_en .t (ea_consD (ev_var rfl) ea_nil) rfl) ⟨_, _, rfl, rfl⟩ ?_ ?_
    · rintro i d O3 ρ3 σ3 Gb G3 H3 hd ⟨x2, x3, rfl, rfl⟩ eb e3 m3
      obtain ⟨y, hy, rfl⟩ := enD_get hd
      rw [List.getElem?_map] at hy
      obtain ⟨v, hv, rfl⟩ := Option.map_eq_some_iff.mp hy
      refine ⟨_, _, tg_tup (tgs_cons tg_name (tgs_cons tg_name tgs_nil)) rfl, fun σ4 m4 => ?_⟩
      have h12 := hV.n12
      refine s_ifF m4 ((et_notD (et_BD (b := true) (ev_callD (mm, v) (ea_consD (ev_var rfl) (ea_consD (ev_var rfl) ea_nil)) ⟨hV.v.lv v (List.mem_of_getElem? hv), by show mm.length ≤ 1000; omega⟩)))) fun G5 H5 e5 m5 => ?_
      exact Nxt.mk (e3.trans e5) ⟨_, _, rfl, rfl⟩ m5
    · rintro O3 ρ3 σ3 G3 H3 ⟨x2, x3, rfl, rfl⟩ e3 m3
      exact q _ _ G3 H3 m3.g .non rfl
abbrev spChkV : Sp := spP (α := List Int × List (List Int) × List Int) (fun a => [dt a.1, dvs a.2.1, dt a.2.2]) (fun a => VB a.1 a.2.1 ∧ a.2.2.length = a.1.length) (fun _ d => d = .non)
theorem ok_check_vector (A : At K mg "check_vector" s_check_vector) (B : Bl mg) (Ocheck_vectors : Ok P w K mg base "check_vectors" 4 ["moduli", "vectors"] spChkVs) (Ois_vector : Ok P w K mg base "is_vector" 2 ["moduli", "thing"] spIsV) :
    Ok P w K mg base "check_vector" 5 ["moduli", "vectors", "vector"] spChkV := by
  refine Ok.plain A sc_check_vector (fun _ _ _ _ _ _ us hl => match us, hl with | [_, _, _], _ => rfl) (fun _ => rfl) fun f cdv A outer s H vs E hr a hp => ?_
  obtain ⟨mm, vv, v⟩ := a
  obtain ⟨hV, hv⟩ := hp
  have hV : VB mm vv := hV
  have h12 := hV.n12
  refine ⟨_, pss_cons (ps_expr (pe_f Ocheck_vectors hr (by decide) (pa_cons (pv 0) (pa_cons (pv 1) pa_nil))))
      (pss_one (ps_if (pt_not (pt_val (pe_f Ois_vector hr (by decide) (pa_cons (pv 0) (pa_cons (pv 2) pa_nil)))))
        (pss_one (ps_never))
        (pss_nil))), fun G Q m q => ?_⟩
  refine q_drop m (ev_callD (mm, vv) (ea_consD (ev_var rfl) (ea_consD (ev_var rfl) ea_nil)) hV) fun G1 H1 e1 m1 => ?_
  refine s_ifF m1 ((et_notD (et_BD (b := true) (ev_callD (mm, v) (ea_consD (ev_var rfl) (ea_consD (ev_var rfl) ea_nil)) ⟨hv, by show mm.length ≤ 1000; omega⟩)))) fun G5 H5 e5 m5 => ?_
  exact q _ _ G5 H5 m5.g .non rfl
abbrev spSums : Sp := spP (α := List Int × List (List Int) × List Int) (fun a => [dt a.1, dvs a.2.1, dt a.2.2]) (fun a => VB a.1 a.2.1 ∧ a.2.2.length = a.1.length ∧ Bd 40000 a.2.2) (fun a d => d = optD (sumsF a.1 a.2.1 a.2.2))
theorem ok_sums (A : At K mg "sums" s_sums) (Ocheck_vector : Ok P w K mg base "check_vector" 5 ["moduli", "vectors", "vector"] spChkV) (Osums_of : Ok P w K mg base "sums_of" 4 ["moduli", "vectors", "vector"] spSumsOf) :
    Ok P w K mg base "sums" 6 ["moduli", "vectors", "vector"] spSums := by
  refine Ok.plain A sc_sums (fun _ _ _ _ _ _ us hl => match us, hl with | [_, _, _], _ => rfl) (fun _ => rfl) fun f cdv A outer s H vs E hr a hp => ?_
  obtain ⟨mm, vv, v⟩ := a
  obtain ⟨hV, hv, hb⟩ := hp
  refine ⟨_, pss_cons (ps_expr (pe_f Ocheck_vector hr (by decide) (pa_cons (pv 0) (pa_cons (pv 1) (pa_cons (pv 2) pa_nil)))))
      (pss_one (ps_ret (pe_f Osums_of hr (by decide) (pa_cons (pv 0) (pa_cons (pv 1) (pa_cons (pv 2) pa_nil)))))), fun G Q m q => ?_⟩
  refine q_drop m (ev_callD (mm, vv, v) (ea_consD (ev_var rfl) (ea_consD (ev_var rfl) (ea_consD (ev_var rfl) ea_nil))) ⟨hV, hv⟩) fun G1 H1 e1 m1 => ?_
  exact s_ret m1 (ev_callD (mm, vv, false, v) (ea_consD (ev_var rfl) (ea_consD (ev_var rfl) (ea_consD (ev_var rfl) ea_nil))) ⟨hV, hv, hb⟩) fun v d G' H' hd m3 da => q v d G' H' m3.g da hd
end
end Dt

set_option Elab.async false
set_option linter.all false
set_option maxRecDepth 100000
/-! How the laws of spans draw: the store, sizes, arrows; sums by rests; all that is spanned. -/
namespace Dt
open PySem PySem.Spec PyProof.Rows L2 SpM
section
variable {P : Program} {w : World} {K : PySem.W.Frag} {mg : Str → Option Value} {base : Heap}
abbrev Rg1 (n : Int) : Int → Prop := fun i => 0 ≤ i ∧ i < n
abbrev spPull : Sp := spS (α := Int) (fun n => [.int n]) (fun n => 0 < n ∧ n < 1073741824) (fun n d => IP (Rg1 n) d)
theorem cdiv_of {j : Int} (h : 0 < j) (k : j < 1073741824) (i : Int) : CDiv i j := ⟨h, k⟩
theorem ok_pull (A : At K mg "_law_pull" s_l_pull) (B : Bl mg) : Ok P w K mg base "_law_pull" 1 ["_law_store", "_law_many"] spPull := by
  refine Ok.store A sc_l_pull (fun _ _ _ _ _ _ us hl => match us, hl with | [_, _], _ => rfl) (fun _ => rfl) fun f cdv A outer s H vs E hr n hp => ?_
  obtain ⟨h0, h1⟩ := hp
  refine ⟨_, pss_cons (ps_asg (pe_op op_add (pe_ix ix_list (pv 0) pe_int (fun _ _ => rfl)) pe_int) (pg_sub (pv 0) pe_int set_list))
      (pss_cons (ps_if (pt_cmpR op_gt (pe_ix ix_list (pv 0) pe_int (fun _ _ => rfl)) pe_int (nomark _))
        (pss_cons (ps_asg (pe_callB call_divmod (by rfl) B.divmod PyProof.Rows.boot_divmod (pa_cons (pe_ix ix_list (pv 0) pe_int (fun _ _ => rfl)) (pa_cons (pv 1) pa_nil))) (pg_tup rfl (pgs_cons (pg_sub (pv 0) pe_int set_list) (pgs_cons (pg_name (i := 2) sc_l_pull.nd rfl (Or.inl rfl)) pgs_nil))))
        (pss_one (ps_ret (pv 2))))
        (pss_nil))
      (pss_cons (ps_set (i := 3) sc_l_pull.nd rfl (.inl rfl) (pe_ix ix_list (pv 0) pe_int (fun _ _ => rfl)))
      (pss_cons (ps_asg (pe_op op_mod (pe_op op_add (pe_op op_add (pe_op op_mul (pv 3) (pe_op op_add (pe_op op_mod (pv 3) pe_int) pe_int)) (pe_op op_mul pe_int (pe_ix ix_list (pv 0) pe_int (fun _ _ => rfl)))) pe_int) pe_int) (pg_sub (pv 0) pe_int set_list))
      (pss_one (ps_ret (pe_op op_mod (pe_op op_fdiv (pe_ix ix_list (pv 0) pe_int (fun _ _ => rfl)) pe_int) (pv 1))))))), fun G Q so m q => ?_⟩
  have any : ∀ {te : TE} {O : Os} {ρ : Rho} {G : Hp}, Ev (· = so) O ρ G te (fun d => ∃ n : Int, d = .int n) → Ev (· = so) O ρ G te (IP fun _ => True) := fun h => h.imp fun d ⟨n, e⟩ => ⟨n, e, trivial⟩
  have ynA : ∀ {te : TE} {O : Os} {ρ : Rho} {G : Hp}, Ev (· = so) O ρ G te (IP fun _ => True) → Ev (· = so) O ρ G te (fun d => ∃ n : Int, d = .int n) := fun h => h.imp fun d ⟨n, e, _⟩ => ⟨n, e⟩
  refine q_putSt m rfl (ynA (ip_op (any (ev_ixSt rfl ev_int (.inr (.inr rfl)))) (ip_int (p := fun _ => True) trivial) fun _ _ _ _ => trivial)) ev_int (.inr (.inr rfl)) fun G1 H1 e1 m1 => ?_
  refine q_ifN (Pt := fun _ => True) m1 (bt_test (ip_cmp (any (ev_ixSt rfl ev_int (.inl rfl))) (ip_int (p := fun _ => True) trivial) fun _ _ _ _ => trivial)) (fun _ G2 H2 e2 m2 => ?_) fun _ G2 H2 e2 m2 => ?_
  · refine q_asgPutSt (P := IP (Rg1 n)) m2 (ev_cb (ea_cons (ev_ixSt rfl ev_int (.inl rfl)) (ea_consD (ev_var rfl) ea_nil)) fun ds ⟨d, r, e, ⟨x, ex⟩, er⟩ => ?_) rfl ev_int (.inl rfl) fun e σ3 G3 H3 pe e3 m3 => ?_
    · subst e ex er
      refine (l_divmod (cdiv_of h0 h1 x)).imp fun d hd => ⟨_, _, hd, _, rfl, Int.emod_nonneg _ (by omega), Int.emod_lt_of_pos _ h0⟩
    · exact s_ret m3 (ev_var rfl) fun v d G' H' hd m4 da => q v d G' H' m4.g da (by rw [hd]; exact pe)
  · refine q_set m2 (any (ev_ixSt rfl ev_int (.inr (.inl rfl)))) fun d σ3 G3 H3 hd e3 m3 => ?_
    obtain ⟨x, rfl, _⟩ := hd
    refine q_putSt m3 rfl (ynA (ip_opC (q := fun j => j = 1000000433) (p := fun _ => True) (ip_op (p := fun _ => True) (ip_op (q := fun _ => True) (p := fun _ => True) (ip_opC (p := fun i => i = x) (q := Rg1 61000) ((ev_var rfl).ip rfl) (ip_op (p := Rg1 40961) (q := fun j => j = 20011) (ip_opC (p := fun _ => True) (q := fun j => j = 40961) ((ev_var rfl).ip trivial) (ip_int rfl) fun i j _ hj => ?_) (ip_int rfl) fun i j hi hj => ?_) fun i j _ hj => ?_)
      (ip_opC (p := fun i => i = 50021) (q := fun _ => True) (ip_int rfl) (any (ev_ixSt rfl ev_int (.inr (.inr rfl)))) fun i j hi _ => ?_) fun _ _ _ _ => trivial) (ip_int (p := fun _ => True) trivial) fun _ _ _ _ => trivial) (ip_int rfl) fun i j _ hj => ?_)) ev_int (.inr (.inl rfl)) fun G4 H4 e4 m4 => ?_
    · subst hj
      exact ⟨by decide, Int.emod_nonneg _ (by decide), Int.emod_lt_of_pos _ (by decide)⟩
    · have a := hi.1
      have b := hi.2
      subst hj
      exact ⟨by omega, by omega⟩
    · have a := hj.1
      have b := hj.2
      have c : (61000 : Int) < 2 ^ 64 := by decide
      have c' : (-(2 ^ 64) : Int) < 0 := by decide
      exact ⟨.inr ⟨by omega, by omega⟩, trivial⟩
    · subst hi
      exact ⟨.inl ⟨by decide, by decide⟩, trivial⟩
    · subst hj
      exact ⟨by decide, trivial⟩
    · refine s_ret m4 (ip_opC (p := fun _ => True) (q := fun j => j = n) (r := Rg1 n) (ip_opC (p := fun _ => True) (q := fun j => j = 48) (any (ev_ixSt rfl ev_int (.inr (.inl rfl)))) (ip_int rfl) fun i j _ hj => ?_) ((ev_var rfl).ip rfl) fun i j _ hj => ?_) fun v d G' H' hd m5 da => q v d G' H' m5.g da hd
      · subst hj; exact ⟨by constructor <;> decide, trivial⟩
      · subst hj; exact ⟨h0, Int.emod_nonneg _ (by omega), Int.emod_lt_of_pos _ h0⟩
theorem ok_opened (A : At K mg "_law_opened" s_l_opened) (B : Bl mg) : Ok P w K mg base "_law_opened" 1 ["_law_script", "_law_k"] (spO K) := by
  refine Ok.opened A sc_l_opened (fun _ _ _ _ _ _ us hl => match us, hl with | [_, _], _ => rfl) rfl fun f cdv A outer s H vs E hr p ns n hn => ?_
  refine ⟨_, pss_cons (ps_set (i := 2) sc_l_opened.nd rfl (.inl rfl) (pe_op op_add (pe_op op_mul pe_int (pv 1)) pe_int))
      (pss_cons (ps_if (pt_cmpR op_lt (pv 1) (pe_callB call_len_seq (by rfl) B.len PySem.boot_len (pa_cons (pv 0) pa_nil)) (nomark _))
        (pss_one (ps_set (i := 2) sc_l_opened.nd rfl (.inl rfl) (pe_ix ix_list (pv 0) (pv 1) (fun _ _ => rfl))))
        (pss_nil))
      (pss_cons (ps_set (i := 3) sc_l_opened.nd rfl (.inl rfl) (pe_callTy call_int1 (by rfl) B.int PyProof.Rows.boot_int (pa_cons (pe_or (pe_cmpR op_lt (pv 2) pe_int (nomark _)) (pe_one (pe_cmpR op_gt (pv 2) (pe_op op_pow pe_int pe_int) (nomark _)))) pa_nil)))
      (pss_one (ps_ret (pe_lst (pa_cons (pe_op op_mul (pe_callB call_abs (by rfl) B.abs PyProof.Rows.boot_abs (pa_cons (pv 2) pa_nil)) (pv 3)) (pa_cons (pe_op op_add (pe_op op_mod (pe_op op_add (pe_op op_add (pe_op op_add (pe_op op_mul pe_int (pe_callB call_abs (by rfl) B.abs PyProof.Rows.boot_abs (pa_cons (pv 2) pa_nil))) (pv 3)) (pe_op op_mul pe_int (pv 1))) pe_int) pe_int) pe_int) (pa_cons pe_int pa_nil)))))))), fun G Q hs m q => ?_⟩
  have c64 : (1000 : Int) < 2 ^ 64 := by decide
  have c64' : (-(2 ^ 64) : Int) < 0 := by decide
  refine q_set m (ip_op (r := fun _ => True) (p := fun _ => True) (ip_opC (p := fun _ => True) (q := fun j => j = (n : Int)) (ip_int trivial) ((ev_var rfl).ip rfl) fun i j _ hj => ⟨.inr ⟨by omega, by omega⟩, trivial⟩) (ip_int (p := fun _ => True) trivial) fun _ _ _ _ => trivial) fun d σ1 G1 H1 hd e1 m1 => ?_
  obtain ⟨x, rfl, _⟩ := hd
  refine q_ifJ (fun O ρ => ∃ x : Int, O = [] ∧ ρ = [some (.obj p), some (.int (n : Int)), some (.int x), none]) m1 (et_testD (ev_op2D (ev_var rfl) (ev_lenScr (hs.mono e1) rfl) o_cmp)) ?_ ?_ ?_
  · rintro O2 ρ2 σ2 G2 H2 ⟨x, rfl, rfl⟩ e2 m2
    refine q_set m2 (ev_intB (p := Rg1 2) (c := fun _ => True) ((ev_orV (P := fun d => ∃ b, d = .bl b ∧ True) (ev_op2D (ev_var rfl) ev_int o_cmp) (fun d hd => ⟨_, hd⟩) (fun _ => (ip_cmp (p := fun _ => True) (q := fun _ => True) ((ev_var rfl).ip trivial) (ip_opC (p := fun i => i = 10) (q := fun j => j = 17) (ip_int rfl) (ip_int rfl) fun i j hi hj => ⟨?_, trivial⟩) fun _ _ _ _ => trivial)) fun _ => ⟨_, rfl, trivial⟩)) fun b _ => ?_) fun d σ3 G3 H3 hd e3 m3 => ?_
    · subst hi hj; exact ⟨by decide, by decide, by decide⟩
    · cases b
      · exact ⟨by decide, by decide⟩
      · exact ⟨by decide, by decide⟩
    · obtain ⟨y, rfl, hy0, hy1⟩ := hd
      have ab : ∀ {G : Hp}, Ev no [] [some (.obj p), some (.int (n : Int)), some (.int x), some (.int y)] G (tCB (fun xs H Q => ∃ i, xs = [.int i] ∧ Q (.int (if i < 0 then -i else i)) H) (tCons (tVar 2) tNil)) (IP fun _ => True) := (ev_cbD (ea_consD (ev_var rfl) ea_nil) l_abs).ip trivial
      refine s_retN m3 (en_lst (ea_cons (Pa := IP fun _ => True) (ip_opC (p := fun _ => True) (q := fun j => j = y) ab ((ev_var rfl).ip rfl) fun i j _ hj => ⟨.inr ⟨by omega, by omega⟩, trivial⟩) (ea_cons (Pa := IP fun _ => True) (ip_op (p := fun _ => True) (q := fun _ => True) (ip_opC (p := fun _ => True) (q := fun j => j = 998244353) (ip_op (p := fun _ => True) (q := fun _ => True) (ip_op (p := fun _ => True) (q := fun _ => True) (ip_op (p := fun _ => True) (q := fun _ => True) (ip_opC (p := fun i => i = 2) (q := fun _ => True) (ip_int rfl) ab fun i j hi _ => ?_) ((ev_var rfl).ip trivial) fun _ _ _ _ => trivial)
        (ip_opC (p := fun _ => True) (q := fun j => j = (n : Int)) (ip_int trivial) ((ev_var rfl).ip rfl) fun i j _ hj => ⟨.inr ⟨by omega, by omega⟩, trivial⟩) fun _ _ _ _ => trivial) (ip_int trivial) fun _ _ _ _ => trivial) (ip_int rfl) fun i j _ hj => ?_) (ip_int trivial) fun _ _ _ _ => trivial) (ea_consD ev_int ea_nil))) fun ds hds => ?_) fun l xs ds G' H' g h0 h1 h2 h3 hds => ?_
      · subst hi; exact ⟨.inl ⟨by decide, by decide⟩, trivial⟩
      · subst hj; exact ⟨by decide, trivial⟩
      · obtain ⟨d, r, rfl, _, d2, r2, rfl, _, rfl⟩ := hds
        show 3 ≤ sizeLine
        decide
      · obtain ⟨d, r, rfl, ⟨a, rfl, _⟩, d2, r2, rfl, ⟨b, rfl, _⟩, rfl⟩ := hds
        have : xs = [.int a, .int b, .int 0] := h3.ints [a, b, 0]
        subst this
        exact q l G' H' a b 0 g h0 h1 h2
  · intro Kc hb G2 H2 e2 m2
    have hk : n < ns.length := by have := of_decide_eq_true hb.symm; omega
    refine s_set m2 (ev_ixScr (hs.mono (e1.trans e2)) rfl (ev_var rfl) hk) fun d σ3 G3 H3 hd e3 m3 => ?_
    obtain ⟨y, rfl⟩ := hd
    exact Kc _ _ (Nxt.mk (e2.trans e3) ⟨y, rfl, rfl⟩ m3)
  · intro Kc hb G2 H2 e2 m2
    exact Kc _ _ (Nxt.mk e2 ⟨x, rfl, rfl⟩ m2)
end
end Dt

set_option Elab.async false
set_option linter.all false
set_option maxRecDepth 100000
namespace Dt
open PySem PySem.Spec PyProof.Rows L2 SpM
section
variable {P : Program} {w : World} {K : PySem.W.Frag} {mg : Str → Option Value} {base : Heap}
theorem nice_int (xs : List Int) : ∀ d, d ∈ xs.map D.int → Nice 0 d := fun d hd => by
  obtain ⟨x, _, rfl⟩ := List.mem_map.mp hd
  exact .int x
theorem nice_dt (xs : List Int) : Nice 1 (dt xs) := .tup (nice_int xs)
theorem nice_dl (xs : List Int) : Nice 1 (dl xs) := .lst (nice_int xs)
theorem nice_dts (vs : List (List Int)) : ∀ d, d ∈ vs.map dt → Nice 1 d := fun d hd => by
  obtain ⟨x, _, rfl⟩ := List.mem_map.mp hd
  exact nice_dt x
theorem ints_inj : ∀ {x y : List Int}, x.map D.int = y.map D.int → x = y
  | [], [], _ => rfl
  | [], _ :: _, h => by simp at h
  | _ :: _, [], h => by simp at h
  | a :: x, b :: y, h => by
    rw [List.map_cons, List.map_cons, List.cons.injEq] at h
    rw [D.int.inj h.1, ints_inj h.2]
theorem dt_inj {x y : List Int} : dt x = dt y ↔ x = y := ⟨fun h => ints_inj (D.tup.inj h), fun h => by rw [h]⟩
theorem dl_inj {x y : List Int} : dl x = dl y ↔ x = y := ⟨fun h => ints_inj (D.lst.inj h), fun h => by rw [h]⟩
theorem dt_mem {x : List Int} {vs : List (List Int)} : dt x ∈ vs.map dt ↔ x ∈ vs := by
  rw [List.mem_map]
  constructor
  · rintro ⟨y, hy, e⟩
    rw [← dt_inj.mp e]; exact hy
  · intro h
    exact ⟨x, h, rfl⟩
theorem l62 {n : Int} (h : -100000 ≤ n) (k : n ≤ 100000) : n < 2 ^ 62 ∧ -(2 ^ 62) ≤ n := by
  have : (2 : Int) ^ 62 = 4611686018427387904 := by decide
  omega
theorem mulS {i j : Int} (h0 : 0 ≤ i) (h1 : i ≤ 1000000000000) : CMul i j := by
  have : (2 : Int) ^ 64 = 18446744073709551616 := by decide
  exact .inl ⟨by omega, by omega⟩
theorem mulS' {i j : Int} (h0 : -1000000000000 ≤ j) (h1 : j ≤ 1000000000000) : CMul i j := by
  have : (2 : Int) ^ 64 = 18446744073709551616 := by decide
  exact .inr ⟨by omega, by omega⟩
theorem prod_pos : ∀ {ns : List Int}, (∀ n ∈ ns, 1 ≤ n) → 1 ≤ prodL ns
  | [], _ => by show (1 : Int) ≤ 1; omega
  | n :: ns, h => by
    have a := h n List.mem_cons_self
    have b := prod_pos (ns := ns) fun x hx => h x (List.mem_cons_of_mem _ hx)
    rw [prod_cons]
    have := Int.mul_le_mul a b (by omega) (by omega)
    omega
structure Sizes (many most bulk : Int) (ns : List Int) : Prop where
  l0 : 0 < ns.length
  l1 : (ns.length : Int) ≤ many
  b : ∀ n ∈ ns, 1 ≤ n ∧ n ≤ most
  p : prodL ns ≤ bulk
abbrev spSizes : Sp := spS (α := Int × Int × Int) (fun a => [.int a.1, .int a.2.1, .int a.2.2]) (fun a => (1 ≤ a.1 ∧ a.1 ≤ 100) ∧ (1 ≤ a.2.1 ∧ a.2.1 ≤ 1000) ∧ 1 ≤ a.2.2 ∧ a.2.2 ≤ 1000000) (fun a d => ∃ ns, d = dt ns ∧ Sizes a.1 a.2.1 a.2.2 ns)
theorem pull_in {s : Addr} {O : Os} {ρ : Rho} {G0 : Hp} {E : XK} {i : Nat} {te : TE} {p : Int → Prop} {r : Int → Prop} (hi : ρ[i]? = some (some (.obj s))) (h : Ev (· = s) O ρ G0 te (IP p)) (k : ∀ n, p n → (0 < n ∧ n < 1073741824) ∧ ∀ x, 0 ≤ x → x < n → r x) :
    Ev (· = s) O ρ G0 (tCall spPull [] E (tCons (tVar i) (tCons te tNil))) (IP r) :=
  ev_callS (ea_cons (ev_var hi) (ea_cons h ea_nil)) fun ds ⟨d, t, e, e1, d2, t2, e2, ⟨n, e3, pn⟩, e4⟩ => by
    subst e e1 e2 e3 e4
    exact ⟨n, rfl, (k n pn).1, fun d ⟨x, e, h1, h2⟩ => ⟨x, e, (k n pn).2 x h1 h2⟩⟩
theorem ok_sizes (A : At K mg "_law_sizes" s_l_sizes) (B : Bl mg) (O_law_pull : Ok P w K mg base "_law_pull" 1 ["_law_store", "_law_many"] spPull) : Ok P w K mg base "_law_sizes" 2 ["_law_store", "_law_many", "_law_most", "_law_bulk"] spSizes := by
  refine Ok.store A sc_l_sizes (fun _ _ _ _ _ _ us hl => match us, hl with | [_, _, _, _], _ => rfl) (fun _ => rfl) fun f cdv A outer s H vs E hr a hp => ?_
  obtain ⟨many, most, bulk⟩ := a
  obtain ⟨⟨a1, a2⟩, ⟨b1, b2⟩, c1, c2⟩ := hp
  have a1 : 1 ≤ many := a1
  have a2 : many ≤ 100 := a2
  have b1 : 1 ≤ most := b1
  have b2 : most ≤ 1000 := b2
  have c1 : 1 ≤ bulk := c1
  have c2 : bulk ≤ 1000000 := c2
  refine ⟨_, pss_cons (ps_par (i := 4) (j := 5) rfl sc_l_sizes.nd rfl rfl (by decide) rfl rfl (pa_cons (pe_lst (pa_nil)) (pa_cons pe_int pa_nil)) (by rfl))
      (pss_cons (ps_for PassesOwn.never rfl (pi_range1 (by rfl) B.range (pa_cons (pe_op op_add pe_int (pe_f O_law_pull hr (by decide) (pa_cons (pv 0) (pa_cons (pv 1) pa_nil)))) pa_nil)) (pg_name (i := 6) sc_l_sizes.nd rfl (Or.inl rfl))
        (pss_cons (ps_set (i := 7) sc_l_sizes.nd rfl (.inl rfl) (pe_op op_add pe_int (pe_f O_law_pull hr (by decide) (pa_cons (pv 0) (pa_cons (pv 2) pa_nil)))))
        (pss_one (ps_if (pt_cmpR op_le (pe_op op_mul (pv 5) (pv 7)) (pv 3) (nomark _))
          (pss_cons (ps_expr (pe_bm PySem.F.plainAttrs_list PySem.F.slot_list_append PySem.F.type_list_append mt_append (pv 4) (pa_cons (pv 7) pa_nil)))
          (pss_one (ps_set (i := 5) sc_l_sizes.nd rfl (.inl rfl) (pe_op op_mul (pv 5) (pv 7)))))
          (pss_nil)))))
      (pss_one (ps_ret (pe_ifExp (pt_cmpR (op_neD hr.units) (pv 4) (pe_lst (pa_nil)) (nomark _)) (pe_callTy call_tuple_of (by rfl) B.tuple PyProof.Rows.boot_tuple (pa_cons (pv 4) pa_nil)) (pe_tup (pa_cons pe_int pa_nil)))))), fun G Q so m q => ?_⟩
  refine q_parN1 m en_nil (fun l ds G1 e1 hd => ev_int) fun d l ds σ1 G1 H1 hd hds e1 m1 => ?_
  subst hd hds
  refine q_for (Pw := fun ds => ∃ n : Int, (1 ≤ n ∧ n ≤ many) ∧ ds = rngD 0 n.toNat) (fun ds i O ρ => ∃ ns x6 x7, O = [(l, .lst (ns.map D.int))] ∧ ρ = [some (.obj so), some (.int many), some (.int most), some (.int bulk), some (.obj l), some (.int (prodL ns)), x6, x7] ∧ ns.length ≤ i ∧ (0 < i → 0 < ns.length ∨ ∀ n : Int, 1 ≤ n → n ≤ most → True) ∧ (∀ n ∈ ns, 1 ≤ n ∧ n ≤ most) ∧ prodL ns ≤ bulk) m1 ?_ ?_ ?_ ?_
  · refine (wk_rng1 (P := fun ds => ∃ n : Int, ds = [.int n] ∧ 1 ≤ n ∧ n ≤ many) ((ea_cons (ip_op (r := fun n => 1 ≤ n ∧ n ≤ many) (p := fun i => i = 1) (q := Rg1 many) (ip_int rfl) (pull_in (p := fun n => n = many) rfl ((ev_var rfl).ip rfl) fun n hn => ?_) fun i j hi hj => ?_) ea_nil).imp ?_) ?_).imp ?_
    · subst hn; exact ⟨⟨by omega, by omega⟩, fun x h1 h2 => ⟨h1, h2⟩⟩
    · have := hj.1
      have := hj.2
      omega
    · rintro d ⟨d, r, rfl, ⟨n, rfl, h⟩, rfl⟩
      exact ⟨n, rfl, h⟩
    · rintro ds ⟨n, rfl, h1, h2⟩
      have := l62 (n := n) (by omega) (by omega)
      exact ⟨n, rfl, this.1, this.2⟩
    · rintro ds ⟨n, ⟨n', e, h⟩, rfl⟩
      cases e
      exact ⟨n, h, rfl⟩
  · rintro ds ⟨n, hn, rfl⟩
    exact ⟨[], _, _, rfl, rfl, Nat.le_refl _, fun h => absurd h (by decide), (fun n hn => absurd hn List.not_mem_nil), c1⟩
  · rintro ds i d O3 ρ3 σ3 Gb G3 H3 ⟨n, hn, rfl⟩ hd ⟨ns, x6, x7, rfl, rfl, h1, _, h2, h3⟩ eb e3 m3
    obtain ⟨hi, rfl⟩ := rng0_get hd
    refine ⟨_, _, tg_name, fun σ4 m4 => ?_⟩
    refine q_set m4 (ip_op (r := fun n => 1 ≤ n ∧ n ≤ most) (p := fun i => i = 1) (q := Rg1 most) (ip_int rfl) (pull_in (p := fun n => n = most) rfl ((ev_var rfl).ip rfl) fun n hn => ?_) fun i j hi hj => ?_) fun d σ5 G5 H5 hd e5 m5 => ?_
    · subst hn; exact ⟨⟨by omega, by omega⟩, fun x h1 h2 => ⟨h1, h2⟩⟩
    · have := hj.1
      have := hj.2
      omega
    · obtain ⟨z, rfl, z1, z2⟩ := hd
      have pp := prod_pos fun n hn => (h2 n hn).1
      have cm : CMul (prodL ns) z := mulS (by omega) (by omega)
      refine s_if m5 (et_testD (ev_op2D (ev_op2D (ev_var rfl) (ev_var rfl) (o_intC cm)) (ev_var rfl) o_cmp)) (fun hb G6 H6 e6 m6 => ?_) fun hb G6 H6 e6 m6 => ?_
      · have hb : prodL ns * z ≤ bulk := of_decide_eq_true hb.symm
        refine q_app 0 m6 rfl rfl (by rw [List.length_map]; exact Nat.lt_of_lt_of_le (show ns.length < 1000 by omega) (line1000 (by decide))) (ev_var rfl) fun d G7 H7 hd e7 m7 => ?_
        subst hd
        refine s_setD m7 (ev_op2D (ev_var rfl) (ev_var rfl) (o_intC cm)) fun σ8 G8 H8 e8 m8 => ?_
        refine Nxt.mk (e3.trans (e5.trans (e6.trans (e7.trans e8)))) ⟨ns ++ [z], some (.int (i : Int)), some (.int z), ?_, ?_, by simp; omega, fun _ => .inr fun _ _ _ => trivial, ?_, by rw [prod_snoc]; exact hb⟩ m8
        · rw [List.map_append]; rfl
        · rw [prod_snoc]; rfl
        · intro n hn
          rcases List.mem_append.mp hn with h | h
          · exact h2 n h
          · rw [List.mem_singleton.mp h]; exact ⟨z1, z2⟩
      · dsimp only [tNext]
        exact Nxt.mk (e3.trans (e5.trans e6)) ⟨ns, _, _, rfl, rfl, by omega, fun _ => .inr fun _ _ _ => trivial, h2, h3⟩ m6
  · rintro ds O3 ρ3 σ3 G3 H3 ⟨n, hn, rfl⟩ ⟨ns, x6, x7, rfl, rfl, h1, _, h2, h3⟩ e3 m3
    rw [rngD_len] at h1
    obtain ⟨G4, e4, m4⟩ := m3.freeze (i := 4) rfl
    refine s_ret m4 (P := fun d => ∃ ns, d = dt ns ∧ Sizes many most bulk ns) (ev_if (Pt := (· = !decide (ns = []))) (et_testD (ev_op2D (ev_var rfl) (ev_lstD (ds := []) ea_nil (Nat.zero_le _)) (o_neN (nice_dl ns) (nice_dl []) (b := decide (ns = [])) (hb := by rw [decide_eq_true_iff]; exact dl_inj.symm)))) (fun hb => ?_) fun hb => ?_) fun v d G' H' hd m5 da => q v d G' H' m5.g da hd
    · have hne : ns ≠ [] := by simpa using hb.symm
      refine (ev_cbD (ea_consD (ev_var rfl) ea_nil) l_tupleL).imp fun d hd => ⟨ns, hd, List.length_pos_iff.mpr hne, by omega, h2, h3⟩
    · refine (ev_tupD (ea_consD ev_int ea_nil) (by show 1 ≤ sizeLine; decide)).imp fun d hd => ⟨[1], hd, by decide, by show (1 : Int) ≤ many; omega, fun n hn => ?_, by show (1 : Int) ≤ bulk; omega⟩
      rw [List.mem_singleton.mp hn]; omega
abbrev MS (m : List Int) : Prop := ∀ n ∈ m, 1 ≤ n ∧ n ≤ 1000
abbrev spArrow : Sp := spS (α := List Int) (fun m => [dt m]) (fun m => MS m ∧ m.length ≤ 1000) (fun m d => ∃ v, d = dt v ∧ v.length = m.length ∧ Bd 20 v)
theorem nat_lt_pow {x : Int} (h : -1048576 < x) (k : x < 1048576) : x.natAbs < 2 ^ 20 := by
  have : 2 ^ 20 = 1048576 := by decide
  omega
theorem ok_arrow (A : At K mg "_law_arrow" s_l_arrow) (B : Bl mg) (O_law_pull : Ok P w K mg base "_law_pull" 1 ["_law_store", "_law_many"] spPull) : Ok P w K mg base "_law_arrow" 2 ["_law_store", "_law_sizes_here"] spArrow := by
  refine Ok.store A sc_l_arrow (fun _ _ _ _ _ _ us hl => match us, hl with | [_, _], _ => rfl) (fun _ => rfl) fun f cdv A outer s H vs E hr mm hp => ?_
  obtain ⟨hm, hz⟩ := hp
  refine ⟨_, pss_cons (ps_par (i := 2) (j := 3) rfl sc_l_arrow.nd rfl rfl (by decide) rfl rfl (pa_cons (pe_f O_law_pull hr (by decide) (pa_cons (pv 0) (pa_cons pe_int pa_nil))) (pa_cons (pe_lst (pa_nil)) pa_nil)) (by rfl))
      (pss_cons (ps_for PassesOwn.never rfl (pi_tup (pv 1)) (pg_name (i := 4) sc_l_arrow.nd rfl (Or.inl rfl))
        (pss_cons (ps_set (i := 5) sc_l_arrow.nd rfl (.inl rfl) (pe_lst (pa_cons (pe_f O_law_pull hr (by decide) (pa_cons (pv 0) (pa_cons (pv 4) pa_nil))) (pa_cons (pe_f O_law_pull hr (by decide) (pa_cons (pv 0) (pa_cons (pe_op op_pow pe_int pe_int) pa_nil))) (pa_cons (pe_op op_sub pe_int (pe_f O_law_pull hr (by decide) (pa_cons (pv 0) (pa_cons (pe_op op_mul pe_int (pv 4)) pa_nil)))) pa_nil)))))
        (pss_cons (ps_expr (pe_bm PySem.F.plainAttrs_list PySem.F.slot_list_append PySem.F.type_list_append mt_append (pv 5) (pa_cons (pe_op op_mul (pe_ix ix_list (pv 5) pe_int (fun _ _ => rfl)) (pe_callTy call_int1 (by rfl) B.int PyProof.Rows.boot_int (pa_cons (pe_cmpR op_eq (pe_f O_law_pull hr (by decide) (pa_cons (pv 0) (pa_cons pe_int pa_nil))) pe_int (nomark _)) pa_nil))) pa_nil)))
        (pss_one (ps_expr (pe_bm PySem.F.plainAttrs_list PySem.F.slot_list_append PySem.F.type_list_append mt_append (pv 3) (pa_cons (pe_ix ix_list (pv 5) (pv 2) (fun _ _ => rfl)) pa_nil)))))))
      (pss_one (ps_ret (pe_callTy call_tuple_of (by rfl) B.tuple PyProof.Rows.boot_tuple (pa_cons (pv 3) pa_nil))))), fun G Q so m q => ?_⟩
  refine q_parN2 m (pull_in (p := fun n => n = 4) (r := Rg1 4) rfl (ip_int rfl) fun n hn => by subst hn; exact ⟨by decide, fun x h1 h2 => ⟨h1, h2⟩⟩) en_nil fun d l ds σ1 G1 H1 hd hds e1 m1 => ?_
  obtain ⟨mode, rfl, md0, md1⟩ := hd
  subst hds
  refine q_forD (ds := mm.map D.int) (fun i O ρ => ∃ xs x4 x5, O = [(l, .lst (xs.map D.int))] ∧ ρ = [some (.obj so), some (dt mm), some (.int mode), some (.obj l), x4, x5] ∧ xs.length = i ∧ Bd 20 xs) m1 (wk_tupD (ev_var rfl)) ⟨[], _, _, rfl, rfl, rfl, (fun x hx => absurd hx List.not_mem_nil)⟩ ?_ ?_
  · rintro i d O3 ρ3 σ3 Gb G3 H3 hd ⟨xs, x4, x5, rfl, rfl, rfl, hB⟩ eb e3 m3
    have hi := (List.getElem?_eq_some_iff.mp hd).1
    rw [List.length_map] at hi
    rw [List.getElem?_map] at hd
    obtain ⟨z, hz', rfl⟩ := Option.map_eq_some_iff.mp hd
    obtain ⟨z1, z2⟩ := hm z (List.mem_of_getElem? hz')
    refine ⟨_, _, tg_name, fun σ4 m4 => ?_⟩
    have small : ∀ {O : Os} {ρ : Rho} {G : Hp}, Ev (· = so) O ρ G (tOp (rI CPow fun i j => .int (i ^ j.toNat)) (tC (.int 10)) (tC (.int 6))) (IP fun n => n = 1000000) := fun {O ρ G} => ip_opC (p := fun i => i = 10) (q := fun j => j = 6) (ip_int rfl) (ip_int rfl) fun i j hi hj => by subst hi hj; exact ⟨⟨by decide, by decide, by decide⟩, by decide⟩
    refine q_new m4 (en_lst (ea_cons (Pa := IP (fun x => 0 ≤ x ∧ x < 1048576)) (pull_in (p := fun n => n = z) rfl ((ev_var rfl).ip rfl) fun n hn => ?_) (ea_cons (Pa := IP (fun x => 0 ≤ x ∧ x < 1048576)) (pull_in rfl small fun n hn => ?_) (ea_cons (Pa := IP (fun x => -1048576 < x ∧ x ≤ 0)) (ip_op (p := fun i => i = 0) (q := fun x => 0 ≤ x ∧ x < 1048576) (ip_int rfl) (pull_in (p := fun n => n = 3 * z) rfl (ip_opC (p := fun i => i = 3) (q := fun j => j = z) (ip_int rfl) ((ev_var rfl).ip rfl) fun i j hi hj => ?_) fun n hn => ?_) fun i j hi hj => ?_) ea_nil))) fun ds hds => ?_) fun l2 ds σ5 G5 H5 hds e5 m5 => ?_
    · subst hn; exact ⟨⟨by omega, by omega⟩, fun x h1 h2 => ⟨h1, by omega⟩⟩
    · subst hn; exact ⟨⟨by omega, by omega⟩, fun x h1 h2 => ⟨h1, by omega⟩⟩
    · subst hi hj; exact ⟨mulS (by decide) (by decide), rfl⟩
    · subst hn; exact ⟨⟨by omega, by omega⟩, fun x h1 h2 => ⟨h1, by omega⟩⟩
    · omega
    · obtain ⟨d, r, rfl, _, d2, r2, rfl, _, d3, r3, rfl, _, rfl⟩ := hds
      show 3 ≤ sizeLine
      decide
    · obtain ⟨d, r, rfl, ⟨a, rfl, a0, a1⟩, d2, r2, rfl, ⟨b, rfl, b0, b1⟩, d3, r3, rfl, ⟨c, rfl, c0, c1⟩, rfl⟩ := hds
      refine q_app 0 m5 rfl rfl (by show 3 < sizeLine; decide) (ip_opC (r := fun x => 0 ≤ x ∧ x < 1048576) (p := fun i => i = a) (q := Rg1 2) ((ev_ixO 0 rfl rfl ev_int rfl).ip rfl) (ev_intB (c := fun _ => True) (ip_eq (p := fun _ => True) (q := fun _ => True) (pull_in (p := fun n => n = 3) rfl (ip_int rfl) fun n hn => ?_) (ip_int trivial) fun _ _ _ _ => trivial) fun b _ => ?_) fun i j hi hj => ?_) fun d G6 H6 hd e6 m6 => ?_
      · subst hn; exact ⟨by decide, fun _ _ _ => trivial⟩
      · cases b
        · exact ⟨by decide, by decide⟩
        · exact ⟨by decide, by decide⟩
      · have h0 := hj.1
        have h1 := hj.2
        subst hi
        refine ⟨mulS (by omega) (by omega), ?_⟩
        rcases (show j = 0 ∨ j = 1 by omega) with rfl | rfl
        · rw [Int.mul_zero]; omega
        · rw [Int.mul_one]; omega
      · obtain ⟨e, rfl, e0, e1'⟩ := hd
        have hat : ∃ x : Int, atI [D.int a, D.int b, D.int c, D.int e] mode = some (.int x) ∧ x.natAbs < 2 ^ 20 := by
          rcases (show mode = 0 ∨ mode = 1 ∨ mode = 2 ∨ mode = 3 by omega) with rfl | rfl | rfl | rfl
          · exact ⟨a, rfl, nat_lt_pow (by omega) (by omega)⟩
          · exact ⟨b, rfl, nat_lt_pow (by omega) (by omega)⟩
          · exact ⟨c, rfl, nat_lt_pow (by omega) (by omega)⟩
          · exact ⟨e, rfl, nat_lt_pow (by omega) (by omega)⟩
        obtain ⟨x, hx, bx⟩ := hat
        refine s_app 1 m6 rfl rfl (by rw [List.length_map]; exact Nat.lt_of_lt_of_le (show xs.length < 1000 by omega) (line1000 (by decide))) (ev_ixO 0 rfl rfl (ev_var rfl) hx) fun d G7 H7 hd e7 m7 => ?_
        subst hd
        refine Nxt.mk (e3.trans (e5.trans (e6.trans e7))) ⟨xs ++ [x], some (.int z), some (.obj l2), ?_, rfl, by simp, ?_⟩ m7.forget
        · rw [List.map_append]; rfl
        · intro y hy
          rcases List.mem_append.mp hy with h | h
          · exact hB y h
          · rw [List.mem_singleton.mp h]; exact bx
  · rintro O3 ρ3 σ3 G3 H3 ⟨xs, x4, x5, rfl, rfl, hl, hB⟩ e3 m3
    rw [List.length_map] at hl
    exact s_ret m3 (ev_tupleO 0 rfl rfl) fun v d G' H' hd m4 da => q v d G' H' m4.g da ⟨xs, hd, hl, hB⟩
abbrev VS (n : Nat) (vs : List (List Int)) : Prop := ∀ v ∈ vs, v.length = n ∧ Bd 20 v
theorem vs_snoc {n : Nat} {vs : List (List Int)} {v : List Int} (h : VS n vs) (k : v.length = n ∧ Bd 20 v) : VS n (vs ++ [v]) := fun x hx => by
  rcases List.mem_append.mp hx with a | a
  · exact h x a
  · rw [List.mem_singleton.mp a]; exact k
theorem vs_set {n j : Nat} {vs : List (List Int)} {v : List Int} (h : VS n vs) (k : v.length = n ∧ Bd 20 v) : VS n (vs.set j v) := fun x hx => by
  rcases List.mem_or_eq_of_mem_set hx with a | a
  · exact h x a
  · rw [a]; exact k
theorem ixN_neg1 {n : Nat} (h : 0 < n) : ixN n (-1) = some (n - 1) := by
  unfold ixN
  rw [if_neg (by decide), if_pos (by omega)]
  congr 1
  omega
abbrev spArrows : Sp := spS (α := List Int × Int) (fun a => [dt a.1, .int a.2]) (fun a => MS a.1 ∧ a.1.length ≤ 1000 ∧ 0 ≤ a.2 ∧ a.2 ≤ 1000) (fun a d => ∃ vs, d = dvs vs ∧ (vs.length : Int) ≤ a.2 ∧ VS a.1.length vs)
theorem ok_arrows (A : At K mg "_law_arrows" s_l_arrows) (B : Bl mg) (O_law_pull : Ok P w K mg base "_law_pull" 1 ["_law_store", "_law_many"] spPull) (O_law_arrow : Ok P w K mg base "_law_arrow" 2 ["_law_store", "_law_sizes_here"] spArrow) :
    Ok P w K mg base "_law_arrows" 3 ["_law_store", "_law_sizes_here", "_law_most"] spArrows := by
  refine Ok.store A sc_l_arrows (fun _ _ _ _ _ _ us hl => match us, hl with | [_, _, _], _ => rfl) (fun _ => rfl) fun f cdv A outer s H vs E hr a hp => ?_
  obtain ⟨mm, most⟩ := a
  obtain ⟨hm, hz, a0, a1⟩ := hp
  have hz : mm.length ≤ 1000 := hz
  have a0 : 0 ≤ most := a0
  have a1 : most ≤ 1000 := a1
  refine ⟨_, pss_cons (ps_set (i := 3) sc_l_arrows.nd rfl (.inl rfl) (pe_lst (pa_nil)))
      (pss_cons (ps_for PassesOwn.never rfl (pi_range1 (by rfl) B.range (pa_cons (pe_f O_law_pull hr (by decide) (pa_cons (pv 0) (pa_cons (pe_op op_add (pv 2) pe_int) pa_nil))) pa_nil)) (pg_name (i := 4) sc_l_arrows.nd rfl (Or.inl rfl))
        (pss_cons (ps_expr (pe_bm PySem.F.plainAttrs_list PySem.F.slot_list_append PySem.F.type_list_append mt_append (pv 3) (pa_cons (pe_f O_law_arrow hr (by decide) (pa_cons (pv 0) (pa_cons (pv 1) pa_nil))) pa_nil)))
        (pss_one (ps_if (pt_cmpR op_eq (pe_f O_law_pull hr (by decide) (pa_cons (pv 0) (pa_cons pe_int pa_nil))) pe_int (nomark _))
          (pss_one (ps_asg (pe_ix ix_list (pv 3) (pe_f O_law_pull hr (by decide) (pa_cons (pv 0) (pa_cons (pe_callB call_len_seq (by rfl) B.len PySem.boot_len (pa_cons (pv 3) pa_nil)) pa_nil))) (fun _ _ => rfl)) (pg_sub (pv 3) (pe_un un_neg pe_int) set_list)))
          (pss_nil)))))
      (pss_one (ps_ret (pe_callTy call_tuple_of (by rfl) B.tuple PyProof.Rows.boot_tuple (pa_cons (pv 3) pa_nil))))), fun G Q so m q => ?_⟩
  refine q_new m en_nil fun l ds σ1 G1 H1 hds e1 m1 => ?_
  subst hds
  refine q_for (Pw := fun ds => ∃ n : Int, (0 ≤ n ∧ n ≤ most) ∧ ds = rngD 0 n.toNat) (fun ds i O ρ => ∃ vs x4, O = [(l, .lst (vs.map dt))] ∧ ρ = [some (.obj so), some (dt mm), some (.int most), some (.obj l), x4] ∧ vs.length = i ∧ VS mm.length vs) m1 ?_ ?_ ?_ ?_
  · refine (wk_rng1 (P := fun ds => ∃ n : Int, ds = [.int n] ∧ 0 ≤ n ∧ n ≤ most) ((ea_cons (pull_in (p := fun n => n = most + 1) (r := fun n => 0 ≤ n ∧ n ≤ most) rfl (ip_op (p := fun i => i = most) (q := fun i => i = 1) ((ev_var rfl).ip rfl) (ip_int rfl) fun i j hi hj => by rw [hi, hj]) fun n hn => ?_) ea_nil).imp ?_) ?_).imp ?_
    · subst hn; exact ⟨⟨by omega, by omega⟩, fun x h1 h2 => ⟨h1, by omega⟩⟩
    · rintro d ⟨d, r, rfl, ⟨n, rfl, h⟩, rfl⟩
      exact ⟨n, rfl, h⟩
    · rintro ds ⟨n, rfl, h1, h2⟩
      have := l62 (n := n) (by omega) (by omega)
      exact ⟨n, rfl, this.1, this.2⟩
    · rintro ds ⟨n, ⟨n', e, h⟩, rfl⟩
      cases e
      exact ⟨n, h, rfl⟩
  · rintro ds ⟨n, hn, rfl⟩
    exact ⟨[], _, rfl, rfl, rfl, fun v hv => absurd hv List.not_mem_nil⟩
  · rintro ds i d O3 ρ3 σ3 Gb G3 H3 ⟨n, hn, rfl⟩ hd ⟨vs, x4, rfl, rfl, rfl, hV⟩ eb e3 m3
    obtain ⟨hi, rfl⟩ := rng0_get hd
    refine ⟨_, _, tg_name, fun σ4 m4 => ?_⟩
    refine q_app 0 m4 rfl rfl (by rw [List.length_map]; exact Nat.lt_of_lt_of_le (show vs.length < 2000 by omega) (line1000 (by decide))) (ev_callSD mm (ea_consD (ev_var rfl) (ea_consD (ev_var rfl) ea_nil)) ⟨hm, hz⟩) fun d G5 H5 hd e5 m5 => ?_
    obtain ⟨v, rfl, hv⟩ := hd
    have m5 := m5
    have em : vs.map dt ++ [dt v] = (vs ++ [v]).map dt := by rw [List.map_append]; rfl
    have es : ([(l, Ow.lst (vs.map dt))] : Os).set 0 (l, Ow.lst (vs.map dt ++ [dt v])) = [(l, Ow.lst ((vs ++ [v]).map dt))] := by rw [em]; rfl
    rw [es] at m5
    have hl : (vs ++ [v]).length = vs.length + 1 := by simp
    refine s_if (Pt := fun _ => True) m5 (bt_test (ip_eq (p := fun _ => True) (q := fun _ => True) (pull_in (p := fun n => n = 6) rfl (ip_int rfl) fun n hn => by subst hn; exact ⟨by decide, fun _ _ _ => trivial⟩) (ip_int trivial) fun _ _ _ _ => trivial)) (fun _ G6 H6 e6 m6 => ?_) fun _ G6 H6 e6 m6 => ?_
    · refine s_put 0 m6 rfl rfl (ev_ixOP 0 (P := fun d => ∃ w, d = dt w ∧ w.length = mm.length ∧ Bd 20 w) rfl rfl (pull_in (p := fun n => n = ((vs ++ [v]).length : Int)) (r := Rg1 ((vs ++ [v]).length : Int)) rfl (((ev_lenO 0 rfl rfl).is (by rw [List.length_map])).ip rfl) fun n hn => ?_) ?_) (ev_op1D ev_int o_neg) (ixN_neg1 (by simp)) fun d G7 H7 hd e7 m7 => ?_
      · subst hn; exact ⟨⟨by omega, by omega⟩, fun x h1 h2 => ⟨h1, h2⟩⟩
      · rintro d ⟨z, rfl, z0, z1⟩
        obtain ⟨k, rfl⟩ := Int.eq_ofNat_of_zero_le z0
        have hk : k < (vs ++ [v]).length := by omega
        refine ⟨_, dt (vs ++ [v])[k], rfl, atI_nat (by rw [List.getElem?_map, List.getElem?_eq_getElem hk]; rfl), _, rfl, vs_snoc hV hv _ (List.getElem_mem hk)⟩
      · obtain ⟨w, rfl, hw⟩ := hd
        refine Nxt.mk (e3.trans (e5.trans (e6.trans e7))) ⟨(vs ++ [v]).set ((vs ++ [v]).map dt).length.pred w, some (.int (vs.length : Int)), ?_, rfl, by simp, vs_set (vs_snoc hV hv) hw⟩ m7
        rw [List.map_set]; rfl
    · dsimp only [tNext]
      exact Nxt.mk (e3.trans (e5.trans e6)) ⟨vs ++ [v], _, rfl, rfl, hl, vs_snoc hV hv⟩ m6
  · rintro ds O3 ρ3 σ3 G3 H3 ⟨n, hn, rfl⟩ ⟨vs, x4, rfl, rfl, hl, hV⟩ e3 m3
    rw [rngD_len] at hl
    exact s_ret m3 (ev_tupleO 0 rfl rfl) fun v d G' H' hd m4 da => q v d G' H' m4.g da ⟨vs, hd, by show (vs.length : Int) ≤ most; omega, hV⟩
end
end Dt

set_option Elab.async false
set_option linter.all false
set_option maxRecDepth 100000
namespace Dt
open PySem PySem.Spec PyProof.Rows L2 SpM
section
variable {P : Program} {w : World} {K : PySem.W.Frag} {mg : Str → Option Value} {base : Heap}
theorem at_nil {α : Type} [Inhabited α] (xs : List α) (d : α) (j : Nat) (h : j < xs.length) : xs[j]? = some (xs.getD j d) := by
  rw [List.getD_eq_getElem?_getD, List.getElem?_eq_getElem h]; rfl
theorem lin_range (q : Nat) : ∀ (vs : List (List Int)) (cs : List Int), cs.length = vs.length → ((List.range vs.length).map fun j => g (vs.getD j []) q * cs.getD j 0).sum = lin cs vs q
  | [], cs, _ => by simp [lin]
  | v :: vs, [], h => by simp at h
  | v :: vs, c :: cs, h => by
    have ih := lin_range q vs cs (by simpa using h)
    rw [List.length_cons, List.range_succ_eq_map, List.map_cons, List.sum_cons, List.map_map]
    have e : ((fun j => g ((v :: vs).getD j []) q * (c :: cs).getD j 0) ∘ Nat.succ) = fun j => g (vs.getD j []) q * cs.getD j 0 := by
      funext j
      simp
    rw [e, ih]
    simp [lin, Int.mul_comm]
/-- vectors as a list or a tuple -/
def sv (b : Bool) (vs : List (List Int)) : D := if b then .lst (vs.map dt) else dvs vs
theorem sv_or (b : Bool) (vs : List (List Int)) : sv b vs = .lst (vs.map dt) ∨ sv b vs = .tup (vs.map dt) := by
  cases b
  · exact .inr rfl
  · exact .inl rfl
abbrev MPos (m : List Int) : Prop := ∀ n ∈ m, 0 < n
abbrev spSummed : Sp := spP (α := List Int × (Bool × List (List Int)) × (Bool × List Int)) (fun a => [dt a.1, sv a.2.1.1 a.2.1.2, sq a.2.2.1 a.2.2.2])
  (fun a => MPos a.1 ∧ a.1.length ≤ 1000 ∧ a.2.1.2.length ≤ 1000 ∧ a.2.2.2.length = a.2.1.2.length ∧ (∀ v ∈ a.2.1.2, v.length = a.1.length ∧ Bd 60000000 v) ∧ Bd 60000000 a.2.2.2)
  (fun a d => d = dt (summedF a.1 a.2.1.2 a.2.2.2))
theorem ok_summed (A : At K mg "_law_summed" s_l_summed) (B : Bl mg) : Ok P w K mg base "_law_summed" 1 ["_law_sizes_here", "_law_arrows_here", "_law_often"] spSummed := by
  refine Ok.plain A sc_l_summed (fun _ _ _ _ _ _ us hl => match us, hl with | [_, _, _], _ => rfl) (fun _ => rfl) fun f cdv A outer s H vs E hr a hp => ?_
  obtain ⟨mm, ⟨b1, vv⟩, b2, cs⟩ := a
  obtain ⟨hm, hz, hk, hc, hv, hB⟩ := hp
  have hz : mm.length ≤ 1000 := hz
  have hk : vv.length ≤ 1000 := hk
  have hc : cs.length = vv.length := hc
  have hv : ∀ v ∈ vv, v.length = mm.length ∧ Bd 60000000 v := hv
  have hB : Bd 60000000 cs := hB
  refine ⟨_, pss_cons (ps_set (i := 3) sc_l_summed.nd rfl (.inl rfl) (pe_lst (pa_nil)))
      (pss_cons (ps_for PassesOwn.never rfl (pi_range1 (by rfl) B.range (pa_cons (pe_callB call_len_seq (by rfl) B.len PySem.boot_len (pa_cons (pv 0) pa_nil)) pa_nil)) (pg_name (i := 4) sc_l_summed.nd rfl (Or.inr rfl))
        (pss_one (ps_expr (pe_bm PySem.F.plainAttrs_list PySem.F.slot_list_append PySem.F.type_list_append mt_append (pv 3) (pa_cons (pe_op op_mod (pe_callB (cr_sum rfl) (by rfl) B.sum PyProof.Rows.boot_sum (pa_cons (pe_lc (own := [("_law_j", 5)]) (g := gName 5) (tt := tYes) rfl sc_l_summed.nd (pi_range1 (by rfl) B.range (pa_cons (pe_callB call_len_seq (by rfl) B.len PySem.boot_len (pa_cons (pv 1) pa_nil)) pa_nil)) (blkOk_by (own := [("_law_j", 5)]) (N := n_l_summed) (sc := defScope s_l_summed) (by decide +kernel)) (fun _ _ _ _ _ => pg_name (i := 5) sc_l_summed.nd rfl (Or.inl rfl)) (fun _ _ _ _ _ => pts_nil) (fun _ _ _ _ _ => pe_op op_mulX (pe_ix (ix_tupK (K := K) rfl) (pe_ix (ix_seqK (K := K) rfl) (pv 1) (pv 5) (fun _ _ => rfl)) (pv 4) (fun _ _ => rfl)) (pe_ix (ix_seqK (K := K) rfl) (pv 2) (pv 5) (fun _ _ => rfl)))) pa_nil)) (pe_ix ix_tup (pv 0) (pv 4) (fun _ _ => rfl))) pa_nil)))))
      (pss_one (ps_ret (pe_callTy call_tuple_of (by rfl) B.tuple PyProof.Rows.boot_tuple (pa_cons (pv 3) pa_nil))))), fun G Q m q => ?_⟩
  refine q_new m en_nil fun l ds σ1 G1 H1 hds e1 m1 => ?_
  subst hds
  refine q_forD (ds := rngD 0 mm.length) (fun i O ρ => ∃ x4 x5, O = [(l, .lst (((List.range i).map fun q => lin cs vv q % g mm q).map D.int))] ∧ ρ = [some (dt mm), some (sv b1 vv), some (sq b2 cs), some (.obj l), x4, x5]) m1
    (wk_rng1D (n := (mm.length : Int)) (ea_consD ((ev_cbD (ea_consD (ev_var rfl) ea_nil) (l_len (ds := mm.map D.int) (.inr rfl))).is (by rw [List.length_map])) ea_nil) (n62 (by omega)).1 (n62 (by omega)).2) ⟨_, _, rfl, rfl⟩ ?_ ?_
  · rintro i d O3 ρ3 σ3 Gb G3 H3 hd ⟨x4, x5, rfl, rfl⟩ eb e3 m3
    obtain ⟨hi, rfl⟩ := rng0_get hd
    refine ⟨_, _, tg_name, fun σ4 m4 => ?_⟩
    have hp := hm _ (g_mem mm i hi)
    refine s_app 0 m4 rfl rfl (by simp only [List.length_map, List.length_range]; exact Nat.lt_of_lt_of_le (show i < 1001 by omega) (line1000 (by decide))) (P := fun d => d = .int (lin cs vv i % g mm i)) ((ev_op2D ((ev_cbD (ea_consD ((EvN.evD (en_lcI (ds := rngD 0 vv.length) (v := fun j => .int (g (vv.getD j []) i * cs.getD j 0)) (wk_rng1D (n := (vv.length : Int)) (ea_consD ((ev_cbD (ea_consD (ev_var rfl) ea_nil) (l_len (sv_or b1 vv))).is (by rw [List.length_map])) ea_nil) (n62 (by omega)).1 (n62 (by omega)).2) (by rw [rngD_len]; exact line1000 (by omega)) fun j d hd => ?_)).is (d' := .lst (((List.range vv.length).map fun j => g (vv.getD j []) i * cs.getD j 0).map D.int)) ?_) ea_nil) l_sum).is (congrArg D.int (lin_range i vv cs hc))) (ev_op2D (ev_var rfl) (ev_var rfl) (o_ixT (at_dl (by omega)))) (o_intC (i := lin cs vv i) hp))) fun d G5 H5 hd e5 m5 => ?_
    · obtain ⟨hj, rfl⟩ := rng0_get hd
      refine ⟨_, _, tg_name, by decide, ?_⟩
      have h1 : vv[j]? = some (vv.getD j []) := at_nil _ _ _ hj
      have h2 := hv _ (List.mem_of_getElem? h1)
      have h3 : cs[j]? = some (cs.getD j 0) := at_nil _ _ _ (by omega)
      refine ev_op2D (ev_op2D (ev_op2D (ev_var rfl) (ev_var rfl) (o_ixS (sv_or b1 vv) (atI_nat (by rw [List.getElem?_map, h1]; rfl)))) (ev_var rfl) (o_ixT (at_dl (by rw [h2.1]; exact hi)))) (ev_op2D (ev_var rfl) (ev_var rfl) (o_ixS (d := .int (cs.getD j 0)) (sq_or b2 cs) (atI_nat (by rw [List.getElem?_map, h3]; rfl)))) (o_intC (mulX (h2.2.at i) (hB _ (List.mem_of_getElem? h3)) (by decide)))
    · show D.lst _ = D.lst _
      rw [rngD_len, List.map_map]
      rfl
    · subst hd
      refine Nxt.mk (e3.trans e5) ⟨_, _, ?_, rfl⟩ m5
      rw [List.range_succ, List.map_append, List.map_append]
      rfl
  · rintro O3 ρ3 σ3 G3 H3 ⟨x4, x5, rfl, rfl⟩ e3 m3
    rw [rngD_len] at m3
    exact s_ret m3 (ev_tupleO 0 rfl rfl) fun v d G' H' hd m4 da => q v d G' H' m4.g da hd
abbrev spSpan : Sp := spP (α := List Int × List (List Int)) (fun a => [dt a.1, dvs a.2]) (fun a => MS a.1 ∧ a.1.length ≤ 100 ∧ prodL a.1 ≤ 1000 ∧ a.2.length ≤ 1000 ∧ VS a.1.length a.2) (fun a d => ∃ sp, d = .lst (sp.map dt) ∧ IsSpan a.1 a.2 sp)
theorem box_bd {m x : List Int} (hm : MS m) (h : Box m x) : Bd 60000000 x := fun y hy => by
  obtain ⟨i, hi, e⟩ := List.getElem_of_mem hy
  have h1 := h.lo i (by rw [← h.len]; exact hi)
  have h2 : g x i = y := g_get (by rw [List.getElem?_eq_getElem hi, e])
  have h3 := hm _ (g_mem m i (by rw [← h.len]; exact hi))
  rw [h2] at h1
  exact Nat.lt_of_lt_of_le (show y.natAbs < 2 ^ 10 by have : 2 ^ 10 = 1024 := by decide
                                                      omega) (Nat.pow_le_pow_right (by decide) (show 10 ≤ 60000000 by decide))
theorem one_bd : Bd 60000000 [1] := fun x hx => by
  rw [List.mem_singleton.mp hx]
  exact Nat.one_lt_two_pow (by decide)
theorem two_bd : Bd 60000000 [1, 1] := fun x hx => by
  have : x = 1 := by simpa using hx
  rw [this]
  exact Nat.one_lt_two_pow (by decide)
/-- two vectors of so many parts, none too wide -/
theorem two_vs {n : Nat} {x y : List Int} (hx : x.length = n ∧ Bd 60000000 x) (hy : y.length = n ∧ Bd 60000000 y) : ∀ v ∈ [x, y], v.length = n ∧ Bd 60000000 v := fun v hv => by
  rcases List.mem_cons.mp hv with rfl | h
  · exact hx
  · rw [List.mem_singleton.mp h]; exact hy
theorem one_vs {n : Nat} {x : List Int} (hx : x.length = n ∧ Bd 60000000 x) : ∀ v ∈ [x], v.length = n ∧ Bd 60000000 v := fun v hv => by
  rw [List.mem_singleton.mp hv]; exact hx
theorem blk_len_le {m a : List Int} {vs : List (List Int)} {sp : List (List Int)} (hm : MS m) (h : IsSpan m vs sp) (hp : prodL m ≤ 1000) (c : Nat) (hn : ∀ j : Nat, 1 ≤ j → j < c → mulV m a (j : Int) ∉ sp) : (blk m sp a c).length ≤ 1000 := by
  have := blk_le (a := a) (fun n hn => by have := hm n hn; omega) h c hn
  omega
theorem ok_span (A : At K mg "_law_span" s_l_span) (B : Bl mg) (O_law_summed : Ok P w K mg base "_law_summed" 1 ["_law_sizes_here", "_law_arrows_here", "_law_often"] spSummed) : Ok P w K mg base "_law_span" 2 ["_law_sizes_here", "_law_arrows_here"] spSpan := by
  refine Ok.plain A sc_l_span (fun _ _ _ _ _ _ us hl => match us, hl with | [_, _], _ => rfl) (fun _ => rfl) fun f cdv A outer s H vs E hr a hp => ?_
  obtain ⟨mm, vv⟩ := a
  obtain ⟨hm, hz, hpr, hk, hv⟩ := hp
  have hm : MS mm := hm
  have hz : mm.length ≤ 100 := hz
  have hpr : prodL mm ≤ 1000 := hpr
  have hk : vv.length ≤ 1000 := hk
  have hv : VS mm.length vv := hv
  have mp : ∀ n ∈ mm, 0 < n := fun n hn => by have := hm n hn; omega
  have sl : ∀ {n : Nat}, n ≤ 1000 → n ≤ sizeLine := fun h => line1000 (by omega)
  refine ⟨_, pss_cons (ps_set (i := 2) sc_l_span.nd rfl (.inl rfl) (pe_lst (pa_cons (pe_callTy call_tuple_of (by rfl) B.tuple PyProof.Rows.boot_tuple (pa_cons (pe_lc (own := [("_law_size", 6)]) (g := gName 6) (tt := tYes) rfl sc_l_span.nd (pi_tup (pv 0)) (blkOk_by (own := [("_law_size", 6)]) (N := n_l_span) (sc := defScope s_l_span) (by decide +kernel)) (fun _ _ _ _ _ => pg_name (i := 6) sc_l_span.nd rfl (Or.inl rfl)) (fun _ _ _ _ _ => pts_nil) (fun _ _ _ _ _ => pe_int)) pa_nil)) pa_nil)))
      (pss_cons (ps_for PassesOwn.never rfl (pi_tup (pv 1)) (pg_name (i := 3) sc_l_span.nd rfl (Or.inl rfl))
        (pss_cons (ps_asg (pe_tup (pa_cons (pe_callTy call_list_of (by rfl) B.list PyProof.Rows.boot_list (pa_cons (pv 2) pa_nil)) (pa_cons (pe_f O_law_summed hr (by decide) (pa_cons (pv 0) (pa_cons (pe_lst (pa_cons (pv 3) pa_nil)) (pa_cons (pe_lst (pa_cons pe_int pa_nil)) pa_nil)))) pa_nil))) (pg_tup rfl (pgs_cons (pg_name (i := 4) sc_l_span.nd rfl (Or.inl rfl)) (pgs_cons (pg_name (i := 5) sc_l_span.nd rfl (Or.inr rfl)) pgs_nil))))
        (pss_one (ps_while PassesOwn.never (pt_cmpR (op_notInD (hu65 hr)) (pv 5) (pv 4) rfl)
          (pss_cons (ps_expr (pe_bm PySem.F.plainAttrs_list PySem.F.slot_list_extend PySem.F.type_list_extend mt_extend (pv 2) (pa_cons (pe_lc (own := [("_law_old", 7)]) (g := gName 7) (tt := tYes) rfl sc_l_span.nd (pi_list (pv 4)) (blkOk_by (own := [("_law_old", 7)]) (N := n_l_span) (sc := defScope s_l_span) (by decide +kernel)) (fun _ _ _ _ _ => pg_name (i := 7) sc_l_span.nd rfl (Or.inl rfl)) (fun _ _ _ _ _ => pts_nil) (fun _ _ _ _ _ => pe_f O_law_summed hr (by decide) (pa_cons (pv 0) (pa_cons (pe_lst (pa_cons (pv 7) (pa_cons (pv 5) pa_nil))) (pa_cons (pe_lst (pa_cons pe_int (pa_cons pe_int pa_nil))) pa_nil))))) pa_nil)))
          (pss_one (ps_set (i := 5) sc_l_span.nd rfl (.inr rfl) (pe_f O_law_summed hr (by decide) (pa_cons (pv 0) (pa_cons (pe_lst (pa_cons (pv 5) (pa_cons (pv 3) pa_nil))) (pa_cons (pe_lst (pa_cons pe_int (pa_cons pe_int pa_nil))) pa_nil)))))))))))
      (pss_one (ps_ret (pv 2)))), fun G Q m q => ?_⟩
  refine q_new m (en_lst (Pl := (· = [dt (List.replicate mm.length 0)])) (ea_consD ((ev_cbD (ea_consD ((EvN.evD (en_lcM (v := fun _ => D.int 0) (wk_tupD (ds := mm.map D.int) (ev_var rfl)) (by rw [List.length_map]; exact sl (by omega)) fun i d hd => ⟨_, _, tg_name, by decide, ev_int⟩)).is (d' := dl (List.replicate mm.length 0)) ?_) ea_nil) l_tupleL)) ea_nil) fun ds hds => by rw [hds]; show 1 ≤ sizeLine; decide) fun l ds σ1 G1 H1 hds e1 m1 => ?_
  · show D.lst _ = D.lst _
    congr 1
    rw [List.map_map, List.map_replicate]
    exact List.eq_replicate_iff.mpr ⟨by simp, fun b hb => by obtain ⟨x, _, e⟩ := List.mem_map.mp hb; exact e.symm⟩
  subst hds
  refine q_forD (ds := vv.map dt) (fun i O ρ => ∃ sp x3 x4 x5 x6 x7, O = [(l, .lst (sp.map dt))] ∧ ρ = [some (dt mm), some (dvs vv), some (.obj l), x3, x4, x5, x6, x7] ∧ IsSpan mm (vv.take i) sp) m1 (wk_tupD (ev_var rfl))
    ⟨_, _, _, _, _, _, rfl, rfl, by rw [List.take_zero]; exact span_nil mp⟩ ?_ ?_
  · rintro i d O3 ρ3 σ3 Gb G3 H3 hd ⟨sp, x3, x4, x5, x6, x7, rfl, rfl, hS⟩ eb e3 m3
    rw [List.getElem?_map] at hd
    obtain ⟨v, hv', rfl⟩ := Option.map_eq_some_iff.mp hd
    obtain ⟨lv, bv⟩ := hv v (List.mem_of_getElem? hv')
    have bv : Bd 60000000 v := bv.mono (by decide)
    have hi := (List.getElem?_eq_some_iff.mp hv').1
    refine ⟨_, _, tg_name, fun σ4 m4 => ?_⟩
    have hb : ∀ cs ws, Box mm (summedF mm cs ws) := summed_box (pos_of mp)
    have bb : ∀ x : List Int, Box mm x → x.length = mm.length ∧ Bd 60000000 x := fun x hx => ⟨hx.len, box_bd hm hx⟩
    have cc := common_ok mp
    refine q_asgD m4 (ev_tupD (ea_consD (EvN.evD (en_listO 0 rfl rfl)) (ea_consD (ev_callD (mm, (true, [v]), true, [1]) (ea_consD (ev_var rfl) (ea_consD (ev_lstD (ea_consD (ev_var rfl) ea_nil) (by show 1 ≤ sizeLine; decide)) (ea_consD (ev_lstD (ea_consD ev_int ea_nil) (by show 1 ≤ sizeLine; decide)) ea_nil)))
      ⟨mp, by show mm.length ≤ 1000; omega, by show 1 ≤ 1000; decide, rfl, one_vs ⟨lv, bv⟩, one_bd⟩) ea_nil)) (by show 2 ≤ sizeLine; decide)) (tg_tup (tgs_cons tg_name (tgs_cons tg_name tgs_nil)) rfl) fun σ5 G5 H5 e5 m5 => ?_
    refine s_while (fun n O ρ => ∃ (c : Nat) (x7 : Option D), O = [(l, .lst ((blk mm sp v c).map dt))] ∧ ρ = [some (dt mm), some (dvs vv), some (.obj l), some (dt v), some (.lst (sp.map dt)), some (dt (mulV mm v (c : Int))), x6, x7] ∧ 1 ≤ c ∧ (c : Int) ≤ SpM.common mm ∧ (∀ j : Nat, 1 ≤ j → j < c → mulV mm v (j : Int) ∉ sp) ∧ n = (SpM.common mm).toNat + 1 - c) ((SpM.common mm).toNat + 1 - 1) m5
      ⟨1, _, by rw [blk_one (pos_of mp) hS], rfl, Nat.le_refl _, by have := cc.1; omega, fun j h1 h2 => by omega, rfl⟩ ?_
    rintro n O6 ρ6 σ6 G6 H6 ⟨c, x7', rfl, rfl, c1, c2, hn, rfl⟩ e6 m6
    refine ⟨_, et_testD (b := !decide (mulV mm v (c : Int) ∈ sp)) (ev_op2D (ev_var rfl) (ev_var rfl) (o_notInN (nice_dt _) (nice_dts sp) (hb := by rw [decide_eq_true_iff]; exact dt_mem.symm))), fun hb' G7 H7 e7 m7 => ?_, fun hb' G7 H7 e7 m7 => ?_⟩
    · have hni : mulV mm v (c : Int) ∉ sp := by simpa using hb'.symm
      have hn' : ∀ j : Nat, 1 ≤ j → j < c + 1 → mulV mm v (j : Int) ∉ sp := fun j h1 h2 => by
        by_cases e : j = c
        · rw [e]; exact hni
        · exact hn j h1 (by omega)
      have clt : (c : Int) ≠ SpM.common mm := fun e => hni (by rw [e]; exact mul_common mp hS)
      have hlen := blk_len_le hm hS hpr (c + 1) hn'
      have hsl : (blk mm sp v c).length + sp.length ≤ 1000 := by
        have : (blk mm sp v (c + 1)).length = (blk mm sp v c).length + sp.length := by simp [blk]
        omega
      refine q_ext 0 m7 (Pl := (· = (sp.map fun x => addV mm x (mulV mm v (c : Int))).map dt)) rfl rfl ((EvN.ev (en_lcP (Pw := (· = sp.map dt)) (Pe := fun ds i d => ∀ x, sp[i]? = some x → d = dt (addV mm x (mulV mm v (c : Int)))) (wk_listD (ev_var rfl)) (fun ds hds => by rw [hds, List.length_map]; exact sl (by omega)) fun ds i d hds hd => ?_)).imp ?_) (fun es hes => by rw [hes]; simp only [List.length_map]; exact sl hsl) fun es G8 H8 hes e8 m8 => ?_
      · subst hds
        rw [List.getElem?_map] at hd
        obtain ⟨x, hx, rfl⟩ := Option.map_eq_some_iff.mp hd
        refine ⟨_, _, tg_name, by decide, ?_⟩
        have bx := bb x ((hS.mem x).mp (List.mem_of_getElem? hx)).1
        refine Ev.imp (ev_callD (mm, (true, [x, mulV mm v (c : Int)]), true, [1, 1]) (ea_consD (ev_var rfl) (ea_consD (ev_lstD (ea_consD (ev_var rfl) (ea_consD (ev_var rfl) ea_nil)) (by show 2 ≤ sizeLine; decide)) (ea_consD (ev_lstD (ea_consD ev_int (ea_consD ev_int ea_nil)) (by show 2 ≤ sizeLine; decide)) ea_nil)))
          ⟨mp, by show mm.length ≤ 1000; omega, by show 2 ≤ 1000; decide, rfl, two_vs bx (bb _ (hb _ _)), two_bd⟩) fun d hd y hy => ?_
        rw [hx] at hy
        cases hy
        exact hd
      · rintro d ⟨rs, rfl, ds, rfl, hl, hp⟩
        refine ⟨_, rfl, ?_⟩
        apply List.ext_getElem?
        intro i
        rw [List.length_map] at hl
        by_cases hi : i < sp.length
        · have h1 : rs[i]? = some rs[i] := List.getElem?_eq_getElem (by omega)
          rw [h1, hp i _ h1 _ (List.getElem?_eq_getElem hi), List.getElem?_map, List.getElem?_map, List.getElem?_eq_getElem hi]; rfl
        · rw [List.getElem?_eq_none (by omega), List.getElem?_eq_none (by simp; omega)]
      · subst hes
        refine s_setD m8 (ev_callD (mm, (true, [mulV mm v (c : Int), v]), true, [1, 1]) (ea_consD (ev_var rfl) (ea_consD (ev_lstD (ea_consD (ev_var rfl) (ea_consD (ev_var rfl) ea_nil)) (by show 2 ≤ sizeLine; decide)) (ea_consD (ev_lstD (ea_consD ev_int (ea_consD ev_int ea_nil)) (by show 2 ≤ sizeLine; decide)) ea_nil)))
          ⟨mp, by show mm.length ≤ 1000; omega, by show 2 ≤ 1000; decide, rfl, two_vs (bb _ (hb _ _)) ⟨lv, bv⟩, two_bd⟩) fun σ9 G9 H9 e9 m9 => ?_
        refine Nxt.mk (e6.trans (e7.trans (e8.trans e9))) ⟨(SpM.common mm).toNat + 1 - (c + 1), by omega, c + 1, x7', ?_, ?_, by omega, by omega, hn', rfl⟩ m9
        · show _ = [(l, Ow.lst ((blk mm sp v c ++ sp.map fun x => addV mm x (mulV mm v (c : Int))).map dt))]
          rw [List.map_append]; rfl
        · show [_, _, _, _, _, _, _, _] = _
          have := mul_step (a := v) (pos_of mp) (c : Int)
          unfold addV at this
          rw [this]; rfl
    · have hin : mulV mm v (c : Int) ∈ sp := by simpa using hb'.symm
      refine Nxt.mk (e3.trans (e5.trans (e6.trans e7))) ⟨blk mm sp v c, _, _, _, _, _, rfl, rfl, ?_⟩ m7
      have : vv.take (i + 1) = vv.take i ++ [v] := by
        rw [List.take_add_one, hv']; rfl
      rw [this]
      exact blk_span (pos_of mp) hS c1 hin hn
  · rintro O3 ρ3 σ3 G3 H3 ⟨sp, x3, x4, x5, x6, x7, rfl, rfl, hS⟩ e3 m3
    rw [List.length_map, List.take_length] at hS
    obtain ⟨G4, e4, m4⟩ := m3.freeze (i := 2) rfl
    exact s_ret m4 (ev_var rfl) fun v d G' H' hd m5 da => q v d G' H' m5.g da ⟨sp, hd, hS⟩
end
end Dt

set_option Elab.async false
set_option linter.all false
set_option maxRecDepth 100000
namespace Dt
open PySem PySem.Spec PyProof.Rows L2 SpM
section
variable {P : Program} {w : World} {K : PySem.W.Frag} {mg : Str → Option Value} {base : Heap}
theorem pos_mp {m : List Int} (h : MP m) : ∀ n ∈ m, 0 < n ∧ n ≤ 100 := fun n hn => by
  have := mod_pos h n hn
  omega
theorem mp_of {m : List Int} (h : ∀ n ∈ m, 1 ≤ n ∧ n ≤ 99) : MP m := fun q hq => by
  have := h _ (g_mem m q hq)
  omega
theorem cs_bd {m : List Int} (hm : MP m) (hl : m.length ≤ 12) {cs : List Int} (h : ∀ c ∈ cs, 0 ≤ c ∧ c < SpM.common m) : Bd 60000000 cs := fun c hc => by
  have h1 := h c hc
  have h2 := common_lt (pos_mp hm) hl
  refine Nat.lt_of_lt_of_le (show c.natAbs < 2 ^ 100 from ?_) (Nat.pow_le_pow_right (by decide) (show 100 ≤ 60000000 by decide))
  have e : ((2 ^ 100 : Nat) : Int) = (2 : Int) ^ 100 := by decide
  omega
structure GB (m : List Int) (vs : List (List Int)) : Prop where
  vb : VB m vs
  bd : ∀ v ∈ vs, Bd 40000 v
theorem GB.two {m : List Int} {vs : List (List Int)} (h : GB m vs) : ∀ v ∈ vs, v.length = m.length ∧ Bd 60000000 v := fun v hv => ⟨h.vb.v.lv v hv, (h.bd v hv).mono (by decide)⟩
theorem GB.mp {m : List Int} {vs : List (List Int)} (h : GB m vs) : MPos m := fun n hn => (pos_mp h.vb.v.mp n hn).1
abbrev spIsSum : Sp := spP (α := List Int × List (List Int) × List Int × List Int) (fun a => [dt a.1, dvs a.2.1, dt a.2.2.1, dt a.2.2.2]) (fun a => GB a.1 a.2.1 ∧ a.2.2.1.length = a.1.length ∧ Bd 40000 a.2.2.1 ∧ sumsF a.1 a.2.1 a.2.2.1 = some a.2.2.2) (fun _ d => d = .bl true)
theorem ok_is_sum (A : At K mg "_law_is_sum" s_l_is_sum) (B : Bl mg) (O_law_summed : Ok P w K mg base "_law_summed" 1 ["_law_sizes_here", "_law_arrows_here", "_law_often"] spSummed) :
    Ok P w K mg base "_law_is_sum" 2 ["_law_sizes_here", "_law_arrows_here", "_law_arrow_here", "_law_told"] spIsSum := by
  refine Ok.plain A sc_l_is_sum (fun _ _ _ _ _ _ us hl => match us, hl with | [_, _, _, _], _ => rfl) (fun _ => rfl) fun f cdv A outer s H vs E hr a hp => ?_
  obtain ⟨mm, vv, v, cs⟩ := a
  obtain ⟨hV, hv, hb, he⟩ := hp
  have hV : GB mm vv := hV
  have hv : v.length = mm.length := hv
  have hb : Bd 40000 v := hb
  have he : sumsF mm vv v = some cs := he
  obtain ⟨c1, c2, c3⟩ := sums_some hV.vb.v hv he
  have h12 := hV.vb.n12
  have h40 := hV.vb.k40
  refine ⟨_, pss_cons (ps_if (PW.pt (pw_or (pt_not (pt_val (pe_callB call_isi (by rfl) B.isinstance PyProof.Rows.boot_isinstance (pa_cons (pv 3) (pa_cons (pe_bltn (v := .ty "tuple") (by rfl) B.tuple PyProof.Rows.boot_tuple rfl) pa_nil))))) (pw_or1 (pt_cmpR op_ne (pe_callB call_len_seq (by rfl) B.len PySem.boot_len (pa_cons (pv 3) pa_nil)) (pe_callB call_len_seq (by rfl) B.len PySem.boot_len (pa_cons (pv 1) pa_nil)) (nomark _)))))
        (pss_one (ps_ret pe_bl))
        (pss_nil))
      (pss_cons (ps_if (pt_not (pt_val (pe_callB (cr_all rfl) (by rfl) B.all PyProof.Rows.boot_all (pa_cons (pe_lc (own := [("_law_often", 4)]) (g := gName 4) (tt := tYes) rfl sc_l_is_sum.nd (pi_tup (pv 3)) (blkOk_by (own := [("_law_often", 4)]) (N := n_l_is_sum) (sc := defScope s_l_is_sum) (by decide +kernel)) (fun _ _ _ _ _ => pg_name (i := 4) sc_l_is_sum.nd rfl (Or.inl rfl)) (fun _ _ _ _ _ => pts_nil) (fun _ _ _ _ _ => pe_and (pe_callB (call_isiK (K := K) rfl) (by rfl) B.isinstance PyProof.Rows.boot_isinstance (pa_cons (pv 4) (pa_cons (pe_bltn (v := .ty "int") (by rfl) B.int PyProof.Rows.boot_int rfl) pa_nil))) (pe_and (pe_not (pe_callB (call_isiK (K := K) rfl) (by rfl) B.isinstance PyProof.Rows.boot_isinstance (pa_cons (pv 4) (pa_cons (pe_bltn (v := .ty "bool") (by rfl) B.bool PyProof.Rows.boot_bool rfl) pa_nil)))) (pe_one (pe_cmpR op_ge (pv 4) pe_int (nomark _)))))) pa_nil))))
        (pss_one (ps_ret pe_bl))
        (pss_nil))
      (pss_one (ps_ret (pe_cmpR (op_eqD hr.units) (pe_f O_law_summed hr (by decide) (pa_cons (pv 0) (pa_cons (pv 1) (pa_cons (pv 3) pa_nil)))) (pe_f O_law_summed hr (by decide) (pa_cons (pv 0) (pa_cons (pe_lst (pa_cons (pv 2) pa_nil)) (pa_cons (pe_lst (pa_cons pe_int pa_nil)) pa_nil)))) (nomark _))))), fun G Q m q => ?_⟩
  refine q_ifF m (et_orD (a := false) (b := false) (et_notD (et_BD (isi (ev_var rfl) rfl kit_tt))) fun _ => et_testD ((ev_op2D (ev_cbD (ea_consD (ev_var rfl) ea_nil) (l_len (ds := cs.map D.int) (.inr rfl))) (ev_cbD (ea_consD (ev_var rfl) ea_nil) (l_len (ds := vv.map dt) (.inr rfl))) o_neI).is (by simp [c1]))) fun G1 H1 e1 m1 => ?_
  refine q_ifF m1 (et_notD (et_BD (b := true) ((ev_cbD (ea_consD ((EvN.evD (en_lcM (v := fun _ => D.bl true) (wk_tupD (ds := cs.map D.int) (ev_var rfl)) (by rw [List.length_map]; exact line1000 (by omega)) fun i d hd => ?_)).is (congrArg D.lst (map_const_true _))) ea_nil) l_all).is (by simp)))) fun G2 H2 e2 m2 => ?_
  · rw [List.getElem?_map] at hd
    obtain ⟨x, hx, rfl⟩ := Option.map_eq_some_iff.mp hd
    refine ⟨_, _, tg_name, by decide, ?_⟩
    refine ev_andVD (b := true) (isi (ev_var rfl) rfl kit_ii) fun _ => ev_andVD (b := true) (ev_notVD (isi (ev_var rfl) rfl kit_ib)) fun _ => (ev_op2D (ev_var rfl) ev_int o_cmp).is ?_
    have := (c2 x (List.mem_of_getElem? hx)).1
    congr 1
    simpa using this
  · refine s_ret m2 (ev_op2D (ev_callD (mm, (false, vv), false, cs) (ea_consD (ev_var rfl) (ea_consD (ev_var rfl) (ea_consD (ev_var rfl) ea_nil))) ⟨hV.mp, by show mm.length ≤ 1000; omega, by show vv.length ≤ 1000; omega, c1, hV.two, cs_bd hV.vb.v.mp h12 c2⟩)
      (ev_callD (mm, (true, [v]), true, [1]) (ea_consD (ev_var rfl) (ea_consD (ev_lstD (ea_consD (ev_var rfl) ea_nil) (by show 1 ≤ sizeLine; decide)) (ea_consD (ev_lstD (ea_consD ev_int ea_nil) (by show 1 ≤ sizeLine; decide)) ea_nil)))
      ⟨hV.mp, by show mm.length ≤ 1000; omega, by show 1 ≤ 1000; decide, rfl, one_vs ⟨hv, hb.mono (by decide)⟩, one_bd⟩) (o_eqN (nice_dt _) (nice_dt _) (b := true) (hb := ⟨fun _ => ?_, fun _ => rfl⟩))) fun v d G' H' hd m5 da => q v d G' H' m5.g da hd
    exact dt_inj.mpr (summed_eq fun q hq => c3 q)
def kwV_sums : List V → List V
  | [a, b, c] => [c, b, a]
  | l => l
def kwU_sums : List Value → List Value
  | [a, b, c] => [c, b, a]
  | l => l
theorem kwR_sums {vs : List V} {us : List Value} (h : Vals vs us) : Vals (kwV_sums vs) (kwU_sums us) := by
  match vs, us, h with
  | [], [], h => exact h
  | [_], [_], h => exact h
  | [_, _], [_, _], h => exact h
  | [_, _, _], [_, _, _], .cons a (.cons b (.cons c .nil)) => exact .cons c (.cons b (.cons a .nil))
  | _ :: _ :: _ :: _ :: _, _ :: _ :: _ :: _ :: _, h => exact h
theorem kwB_sums : ∀ (kV doc pm : Value) (an : Option Addr) (cdv ct : Value) (ws : List Value), ws.length = (["vector", "vectors", "moduli"] : List Str).length → bindArgs (PySem.W.fnOf "sums" "sums" (defArgs s_sums) (defBody s_sums) (defScope s_sums) .none kV doc pm an cdv ct) ⟨[], (["vector", "vectors", "moduli"] : List Str).zip ws⟩ = pure ((["moduli", "vectors", "vector"] : List Str).zip (kwU_sums ws)) :=
  fun _ _ _ _ _ _ ws hl => match ws, hl with | [_, _, _], _ => rfl
theorem nice_opt : ∀ o : Option (List Int), Nice 1 (optD o)
  | none => .non
  | some cs => nice_dt cs
abbrev spTold : Sp := spP (α := List Int × List (List Int) × List Int × Bool) (fun a => [dt a.1, dvs a.2.1, dt a.2.2.1, .bl a.2.2.2]) (fun a => GB a.1 a.2.1 ∧ a.2.2.1.length = a.1.length ∧ Bd 40000 a.2.2.1 ∧ a.2.2.2 = (sumsF a.1 a.2.1 a.2.2.1).isSome) (fun _ d => d = .bl true)
theorem ok_told_right (A : At K mg "_law_told_right" s_l_told_right) (B : Bl mg) (Asums : At K mg "sums" s_sums) (Osums : Ok P w K mg base "sums" 6 ["moduli", "vectors", "vector"] spSums)
    (O_law_is_sum : Ok P w K mg base "_law_is_sum" 2 ["_law_sizes_here", "_law_arrows_here", "_law_arrow_here", "_law_told"] spIsSum) :
    Ok P w K mg base "_law_told_right" 7 ["_law_sizes_here", "_law_arrows_here", "_law_arrow_here", "_law_can"] spTold := by
  refine Ok.plain A sc_l_told_right (fun _ _ _ _ _ _ us hl => match us, hl with | [_, _, _, _], _ => rfl) (fun _ => rfl) fun f cdv A outer s H vs E hr a hp => ?_
  obtain ⟨mm, vv, v, can⟩ := a
  obtain ⟨hV, hv, hb, hc⟩ := hp
  have hV : GB mm vv := hV
  have hv : v.length = mm.length := hv
  have hb : Bd 40000 v := hb
  have hc : can = (sumsF mm vv v).isSome := hc
  refine ⟨_, pss_cons (ps_set (i := 4) sc_l_told_right.nd rfl (.inl rfl) (pe_f Osums hr (by decide) (pa_cons (pv 0) (pa_cons (pv 1) (pa_cons (pv 2) pa_nil)))))
      (pss_cons (ps_if (PW.pt (pw_or (pt_cmpR (op_neD hr.units) (pe_fkw ["vector", "vectors", "moduli"] kwV_sums kwU_sums Osums Asums hr (by decide) kwB_sums kwR_sums (pk_cons (pv 2) (pk_cons (pv 1) (pk_cons (pv 0) pk_nil)))) (pv 4) (nomark _)) (pw_or1 (pt_cmpR (op_neD hr.units) (pe_f Osums hr (by decide) (pa_cons (pv 0) (pa_cons (pv 1) (pa_cons (pv 2) pa_nil)))) (pv 4) (nomark _)))))
        (pss_one (ps_ret pe_bl))
        (pss_nil))
      (pss_one (ps_ret (pe_ifExp (pt_val (pv 3)) (pe_f O_law_is_sum hr (by decide) (pa_cons (pv 0) (pa_cons (pv 1) (pa_cons (pv 2) (pa_cons (pv 4) pa_nil))))) (pe_cmpR op_isN (pv 4) pe_non (nomark _)))))), fun G Q m q => ?_⟩
  have hpre : VB mm vv ∧ v.length = mm.length ∧ Bd 40000 v := ⟨hV.vb, hv, hb⟩
  refine q_setD m (ev_callD (mm, vv, v) (ea_consD (ev_var rfl) (ea_consD (ev_var rfl) (ea_consD (ev_var rfl) ea_nil))) hpre) fun σ1 G1 H1 e1 m1 => ?_
  have ne : ∀ {r : R2}, r = rNeD K → Op2 r (optD (sumsF mm vv v)) (optD (sumsF mm vv v)) (· = .bl false) := fun e => by
    subst e
    exact o_neN (nice_opt _) (nice_opt _) (b := true) (hb := ⟨fun _ => rfl, fun _ => rfl⟩)
  refine q_ifF m1 (et_orD (a := false) (b := false) (et_testD (ev_op2D (ev_fkw (mm, vv, v) (ea_consD (ev_var rfl) (ea_consD (ev_var rfl) (ea_consD (ev_var rfl) ea_nil))) rfl (fun G vs h => ?_) hpre) (ev_var rfl) (ne rfl))) fun _ => et_testD (ev_op2D (ev_callD (mm, vv, v) (ea_consD (ev_var rfl) (ea_consD (ev_var rfl) (ea_consD (ev_var rfl) ea_nil))) hpre) (ev_var rfl) (ne rfl))) fun G2 H2 e2 m2 => ?_
  · match vs, h with
    | [_, _, _], .cons a (.cons b (.cons c .nil)) => exact .cons c (.cons b (.cons a .nil))
  · refine s_ret m2 (P := (· = .bl true)) (ev_if (et_BD (ev_var rfl)) (fun hb' => ?_) fun hb' => ?_) fun v d G' H' hd m5 da => q v d G' H' m5.g da hd
    · have hs : (sumsF mm vv v).isSome = true := hc.symm.trans hb'.symm
      obtain ⟨cs, ecs⟩ := Option.isSome_iff_exists.mp hs
      refine ev_callD (mm, vv, v, cs) (ea_consD (ev_var rfl) (ea_consD (ev_var rfl) (ea_consD (ev_var rfl) (ea_consD ((ev_var rfl).is ?_) ea_nil)))) ⟨hV, hv, hb, ecs⟩
      show optD (sumsF mm vv v) = dt cs
      rw [ecs]; rfl
    · have hs : sumsF mm vv v = none := by
        cases h : sumsF mm vv v with
        | none => rfl
        | some cs => rw [h] at hc; rw [hc] at hb'; cases hb'
      refine (ev_op2D (ev_var rfl) ev_non o_isN).is ?_
      show D.bl (optD (sumsF mm vv v)).isNon = .bl true
      rw [hs]; rfl
end
end Dt

set_option Elab.async false
set_option linter.all false
set_option maxRecDepth 100000
namespace Dt
open PySem PySem.Spec PyProof.Rows L2 SpM
section
variable {P : Program} {w : World} {K : PySem.W.Frag} {mg : Str → Option Value} {base : Heap}
theorem nat_abs_lt {x : Int} {k : Nat} {b : Int} (h : -b < x) (h2 : x < b) (hb : b = ((2 ^ k : Nat) : Int)) : x.natAbs < 2 ^ k := by omega
theorem cut_m1 {α : Type} (xs : List α) (h : 0 < xs.length) : (cut xs none (some (-1))).length = xs.length - 1 := by
  unfold cut
  rw [HT.sIx_none, List.length_take, List.length_drop]
  have : HT.sIx xs.length xs.length (some (-1)) = xs.length - 1 := by
    show (if (-1 : Int) < 0 then ((-1 : Int) + (xs.length : Int)).toNat else min (-1 : Int).toNat xs.length) = _
    rw [if_pos (by decide)]
    omega
  rw [this]
  omega
theorem gb_of {m : List Int} {vs : List (List Int)} (h : ∀ n ∈ m, 1 ≤ n ∧ n ≤ 99) (h0 : 0 < m.length) (h12 : m.length ≤ 12) (h40 : vs.length ≤ 40) (hv : ∀ v ∈ vs, v.length = m.length ∧ Bd 40000 v) : GB m vs :=
  ⟨⟨⟨mp_of h, fun v hv' => (hv v hv').1⟩, h0, h12, h40⟩, fun v hv' => (hv v hv').2⟩
abbrev Far : Int → Prop := fun n => 0 ≤ n ∧ n < 2 ^ 200
abbrev spYes : Sp := spS (α := Unit) (fun _ => []) (fun _ => True) (fun _ d => d = .bl true)
theorem ok_great_right (A : At K mg "_law_great_right" s_l_great_right) (B : Bl mg) (O_law_pull : Ok P w K mg base "_law_pull" 1 ["_law_store", "_law_many"] spPull) (O_law_arrow : Ok P w K mg base "_law_arrow" 2 ["_law_store", "_law_sizes_here"] spArrow)
    (O_law_summed : Ok P w K mg base "_law_summed" 1 ["_law_sizes_here", "_law_arrows_here", "_law_often"] spSummed) (O_law_told_right : Ok P w K mg base "_law_told_right" 7 ["_law_sizes_here", "_law_arrows_here", "_law_arrow_here", "_law_can"] spTold) :
    Ok P w K mg base "_law_great_right" 8 ["_law_store"] spYes := by
  refine Ok.store A sc_l_great_right (fun _ _ _ _ _ _ us hl => match us, hl with | [_], _ => rfl) (fun _ => rfl) fun f cdv A outer s H vs E hr a hp => ?_
  refine ⟨_, pss_cons (ps_set (i := 1) sc_l_great_right.nd rfl (.inr rfl) (pe_callTy call_tuple_of (by rfl) B.tuple PyProof.Rows.boot_tuple (pa_cons (pe_lc (own := [("_law_turn", 7)]) (g := gName 7) (tt := tYes) rfl sc_l_great_right.nd (pi_range1 (by rfl) B.range (pa_cons (pe_op op_add pe_int (pe_f O_law_pull hr (by decide) (pa_cons (pv 0) (pa_cons pe_int pa_nil)))) pa_nil)) (blkOk_by (own := [("_law_turn", 7)]) (N := n_l_great_right) (sc := defScope s_l_great_right) (by decide +kernel)) (fun _ _ _ _ _ => pg_name (i := 7) sc_l_great_right.nd rfl (Or.inl rfl)) (fun _ _ _ _ _ => pts_nil) (fun _ _ _ _ _ => pe_op op_add pe_int (pe_f O_law_pull hr (by decide) (pa_cons (pv 0) (pa_cons pe_int pa_nil))))) pa_nil)))
      (pss_cons (ps_setLc (i := 2) (own := [("_law_turn", 7)]) (g := gName 7) (tt := tYes) rfl sc_l_great_right.nd rfl rfl (sw_true rfl rfl rfl (by decide +kernel)) (pi_range1 (by rfl) B.range (pa_cons (pe_op op_add pe_int (pe_f O_law_pull hr (by decide) (pa_cons (pv 0) (pa_cons pe_int pa_nil)))) pa_nil)) (blkOk_by (own := [("_law_turn", 7)]) (N := n_l_great_right) (sc := defScope s_l_great_right) (by decide +kernel)) (fun _ _ _ _ _ => pg_name (i := 7) sc_l_great_right.nd rfl (Or.inl rfl)) (fun _ _ _ _ _ => pts_nil) (fun _ _ _ _ _ => pe_f O_law_arrow hr (by decide) (pa_cons (pv 0) (pa_cons (pv 1) pa_nil))))
      (pss_cons (ps_set (i := 3) sc_l_great_right.nd rfl (.inr rfl) (pe_op op_mulX (pe_op op_pow pe_int pe_int) (pe_f O_law_pull hr (by decide) (pa_cons (pv 0) (pa_cons (pe_op op_pow pe_int pe_int) pa_nil)))))
      (pss_cons (ps_set (i := 2) sc_l_great_right.nd rfl (.inl rfl) (pe_callTy call_tuple_of (by rfl) B.tuple PyProof.Rows.boot_tuple (pa_cons (pe_op op_cat (pe_slice sl_list (pv 2) po_none (po_some (pe_un un_neg pe_int))) (pe_lst (pa_cons (pe_callTy call_tuple_of (by rfl) B.tuple PyProof.Rows.boot_tuple (pa_cons (pe_lc (own := [("_law_part", 8)]) (g := gName 8) (tt := tYes) rfl sc_l_great_right.nd (pi_tup (pe_ix ix_list (pv 2) (pe_un un_neg pe_int) (fun _ _ => rfl))) (blkOk_by (own := [("_law_part", 8)]) (N := n_l_great_right) (sc := defScope s_l_great_right) (by decide +kernel)) (fun _ _ _ _ _ => pg_name (i := 8) sc_l_great_right.nd rfl (Or.inl rfl)) (fun _ _ _ _ _ => pts_nil) (fun _ _ _ _ _ => pe_op op_add (pv 8) (pv 3))) pa_nil)) pa_nil))) pa_nil)))
      (pss_cons (ps_setLc (i := 4) (own := [("_law_turn", 7)]) (g := gName 7) (tt := tYes) rfl sc_l_great_right.nd rfl rfl (sw_true rfl rfl rfl (by decide +kernel)) (pi_range1 (by rfl) B.range (pa_cons (pe_callB call_len_seq (by rfl) B.len PySem.boot_len (pa_cons (pv 2) pa_nil)) pa_nil)) (blkOk_by (own := [("_law_turn", 7)]) (N := n_l_great_right) (sc := defScope s_l_great_right) (by decide +kernel)) (fun _ _ _ _ _ => pg_name (i := 7) sc_l_great_right.nd rfl (Or.inl rfl)) (fun _ _ _ _ _ => pts_nil) (fun _ _ _ _ _ => pe_op op_sub (pe_f O_law_pull hr (by decide) (pa_cons (pv 0) (pa_cons (pe_op op_pow pe_int pe_int) pa_nil))) (pe_op op_pow pe_int pe_int)))
      (pss_cons (ps_set (i := 5) sc_l_great_right.nd rfl (.inr rfl) (pe_f O_law_summed hr (by decide) (pa_cons (pv 1) (pa_cons (pv 2) (pa_cons (pv 4) pa_nil)))))
      (pss_cons (ps_set (i := 6) sc_l_great_right.nd rfl (.inl rfl) (pe_callTy call_tuple_of (by rfl) B.tuple PyProof.Rows.boot_tuple (pa_cons (pe_lc (own := [("_law_k", 9)]) (g := gName 9) (tt := tYes) rfl sc_l_great_right.nd (pi_range1 (by rfl) B.range (pa_cons (pe_callB call_len_seq (by rfl) B.len PySem.boot_len (pa_cons (pv 1) pa_nil)) pa_nil)) (blkOk_by (own := [("_law_k", 9)]) (N := n_l_great_right) (sc := defScope s_l_great_right) (by decide +kernel)) (fun _ _ _ _ _ => pg_name (i := 9) sc_l_great_right.nd rfl (Or.inl rfl)) (fun _ _ _ _ _ => pts_nil) (fun _ _ _ _ _ => pe_op op_sub (pe_ix (ix_tupK (K := K) rfl) (pv 5) (pv 9) (fun _ _ => rfl)) (pe_op op_mulX (pe_ix (ix_tupK (K := K) rfl) (pv 1) (pv 9) (fun _ _ => rfl)) (pe_op op_add (pe_f O_law_pull hr (by decide) (pa_cons (pv 0) (pa_cons pe_int pa_nil))) (pv 3))))) pa_nil)))
      (pss_one (ps_ret (pe_and (pe_f O_law_told_right hr (by decide) (pa_cons (pv 1) (pa_cons (pv 2) (pa_cons (pv 5) (pa_cons pe_bl pa_nil))))) (pe_one (pe_f O_law_told_right hr (by decide) (pa_cons (pv 1) (pa_cons (pv 2) (pa_cons (pv 6) (pa_cons pe_bl pa_nil))))))))))))))), fun G Q so m q => ?_⟩
  have pw : (2 : Int) ^ 200 = 1606938044258990275541962092341162602522202993782792835301376 := by decide
  -- the sizes
  refine q_set m (P := fun d => ∃ ns, d = dt ns ∧ 0 < ns.length ∧ ns.length ≤ 12 ∧ ∀ n ∈ ns, 1 ≤ n ∧ n ≤ 99) (ev_cb (ea_cons (EvN.ev (en_lcA D.int (fun n => 1 ≤ n ∧ n ≤ 99) (wk_rngI (p := fun n => 1 ≤ n ∧ n ≤ 12) (ip_op (p := fun i => i = 1) (q := Rg1 12) (ip_int rfl) (pull_in (p := fun n => n = 12) rfl (ip_int rfl) fun n hn => ?_) fun i j hi hj => ?_) fun n hn => ?_) (fun ds ⟨n, hn, e⟩ => ?_) fun ds i d hds hd => ?_)) ea_nil) ?_) fun d σ1 G1 H1 hd e1 m1 => ?_
  · subst hn; exact ⟨by decide, fun x h1 h2 => ⟨h1, h2⟩⟩
  · have := hj.1
    have := hj.2
    omega
  · omega
  · rw [e, rngD_len]; exact line1000 (by omega)
  · refine ⟨_, _, tg_name, by decide, ip_op (r := fun n => 1 ≤ n ∧ n ≤ 99) (p := fun i => i = 1) (q := Rg1 99) (ip_int rfl) (pull_in (p := fun n => n = 99) rfl (ip_int rfl) fun n hn => ?_) fun i j hi hj => ?_⟩
    · subst hn; exact ⟨by decide, fun x h1 h2 => ⟨h1, h2⟩⟩
    · have := hj.1
      have := hj.2
      omega
  · rintro ds ⟨d, r, rfl, ⟨rs, rfl, ds, ns, ⟨n, hn, rfl⟩, rfl, hl, hns⟩, rfl⟩
    rw [rngD_len] at hl
    exact l_tupleL.imp fun d hd => ⟨ns, hd, by omega, by omega, hns⟩
  obtain ⟨mm, rfl, m0, m12, hm⟩ := hd
  have hMS : MS mm := fun n hn => by have := hm n hn; omega
  have hMP : MPos mm := fun n hn => by have := hm n hn; omega
  -- the arrows
  refine q_set m1 (P := fun d => ∃ vs, d = .lst (vs.map dt) ∧ 0 < vs.length ∧ vs.length ≤ 40 ∧ VS mm.length vs) ((EvN.ev (en_lcA dt (fun v => v.length = mm.length ∧ Bd 20 v) (wk_rngI (p := fun n => 1 ≤ n ∧ n ≤ 40) (ip_op (p := fun i => i = 1) (q := Rg1 40) (ip_int rfl) (pull_in (p := fun n => n = 40) rfl (ip_int rfl) fun n hn => ?_) fun i j hi hj => ?_) fun n hn => ?_) (fun ds ⟨n, hn, e⟩ => ?_) fun ds i d hds hd => ?_)).imp ?_) fun d σ2 G2 H2 hd e2 m2 => ?_
  · subst hn; exact ⟨by decide, fun x h1 h2 => ⟨h1, h2⟩⟩
  · have := hj.1
    have := hj.2
    omega
  · omega
  · rw [e, rngD_len]; exact line1000 (by omega)
  · exact ⟨_, _, tg_name, by decide, ev_callSD mm (ea_consD (ev_var rfl) (ea_consD (ev_var rfl) ea_nil)) ⟨hMS, by omega⟩⟩
  · rintro d ⟨rs, rfl, ds, vs, ⟨n, hn, rfl⟩, rfl, hl, hns⟩
    rw [rngD_len] at hl
    exact ⟨vs, rfl, by omega, by omega, hns⟩
  obtain ⟨vs, rfl, v0, v40, hv⟩ := hd
  -- how far
  refine q_set m2 (P := IP Far) (ip_opC (p := fun i => i = 10 ^ 50) (q := Rg1 1000000) ((ip_pow ⟨by decide, by decide, by decide⟩ rfl).ip rfl) (pull_in (p := fun n => n = 1000000) rfl ((ip_pow ⟨by decide, by decide, by decide⟩ rfl).ip rfl) fun n hn => ?_) fun i j hi hj => ?_) fun d σ3 G3 H3 hd e3 m3 => ?_
  · subst hn; exact ⟨by decide, fun x h1 h2 => ⟨h1, h2⟩⟩
  · have h0 := hj.1
    have h1 := hj.2
    have : (10 : Int) ^ 50 = 100000000000000000000000000000000000000000000000000 := by decide
    rw [this] at hi
    subst hi
    exact ⟨mulX (a := 200) (b := 20) (by decide) (nat_lt_pow (by omega) (by omega)) (by decide), by omega, by rw [pw]; omega⟩
  obtain ⟨far, rfl, f0, f1⟩ := hd
  have vl : atI (vs.map dt) (-1) = some (dt vs[vs.length - 1]) := by
    unfold atI
    rw [List.length_map, ixN_neg1 v0]
    show (vs.map dt)[vs.length - 1]? = _
    rw [List.getElem?_map, List.getElem?_eq_getElem (by omega)]; rfl
  have lb := hv vs[vs.length - 1] (List.getElem_mem _)
  generalize vs[vs.length - 1] = lv at vl lb
  refine q_set m3 (P := fun d => ∃ ws, d = dvs ws ∧ ws.length ≤ 40 ∧ ∀ v ∈ ws, v.length = mm.length ∧ Bd 300 v) ((ev_cbD (ea_consD (ev_op2D (ev_slL (ev_var rfl) eo_none (eo_some (ev_op1D ev_int o_neg))) (ev_lstD (ds := [dt (lv.map fun x => x + far)]) (ea_consD (ev_cbD (ea_consD ((EvN.evD (en_lcM (v := un1 fun x => x + far) (wk_tupD (ds := lv.map D.int) (ev_op2D (ev_var rfl) (ev_op1D ev_int o_neg) (o_ixL vl))) (by rw [List.length_map]; exact line1000 (by omega)) fun i d hd => ?_)).is (congrArg D.lst (map_un _ _ (fun _ => rfl) _))) ea_nil) l_tupleL) ea_nil) (by show 1 ≤ sizeLine; decide)) (o_cat ?_)) ea_nil) l_tupleL).imp fun d hd => ?_) fun d σ4 G4 H4 hd e4 m4 => ?_
  · rw [List.getElem?_map] at hd
    obtain ⟨x, hx, rfl⟩ := Option.map_eq_some_iff.mp hd
    exact ⟨_, _, tg_name, by decide, ev_op2D (ev_var rfl) (ev_var rfl) o_int⟩
  · have := cut_le (vs.map dt) none (some (-1))
    rw [List.length_map] at this
    exact line1000 (show _ + 1 ≤ 100000 by omega)
  · refine ⟨cut vs none (some (-1)) ++ [lv.map fun x => x + far], ?_, ?_, fun v hv' => ?_⟩
    · rw [hd]
      show D.tup _ = D.tup _
      rw [List.map_append, cut_map]; rfl
    · rw [List.length_append, cut_m1 vs v0]
      show _ + 1 ≤ 40
      omega
    · rcases List.mem_append.mp hv' with h | h
      · have := hv v (cut_mem h)
        exact ⟨this.1, this.2.mono (by decide)⟩
      · rw [List.mem_singleton.mp h]
        refine ⟨by rw [List.length_map]; exact lb.1, fun x hx => ?_⟩
        obtain ⟨y, hy, rfl⟩ := List.mem_map.mp hx
        have h1 := lb.2 y hy
        have h2 : y.natAbs < 1048576 := h1
        refine Nat.lt_of_lt_of_le (show (y + far).natAbs < 2 ^ 201 from ?_) (Nat.pow_le_pow_right (by decide) (by decide))
        rw [pw] at f1
        refine nat_abs_lt (b := 3213876088517980551083924184682325205044405987565585670602752) (by omega) (by omega) (by decide)
  obtain ⟨ws, rfl, w40, hw⟩ := hd
  have hw' : ∀ v ∈ ws, v.length = mm.length ∧ Bd 60000000 v := fun v h => ⟨(hw v h).1, (hw v h).2.mono (by decide)⟩
  have hG : GB mm ws := gb_of hm m0 m12 w40 fun v h => ⟨(hw v h).1, (hw v h).2.mono (by decide)⟩
  -- how often each
  refine q_set m4 (P := fun d => ∃ cs, d = dl cs ∧ cs.length = ws.length ∧ Bd 20 cs) ((EvN.ev (en_lcA D.int (fun c => c.natAbs < 2 ^ 20) (wk_rng1D (n := (ws.length : Int)) (ea_consD ((ev_cbD (ea_consD (ev_var rfl) ea_nil) (l_len (ds := ws.map dt) (.inr rfl))).is (by rw [List.length_map])) ea_nil) (n62 (by omega)).1 (n62 (by omega)).2) (fun ds e => ?_) fun ds i d hds hd => ?_)).imp ?_) fun d σ5 G5 H5 hd e5 m5 => ?_
  · rw [e, rngD_len]; exact line1000 (by omega)
  · refine ⟨_, _, tg_name, by decide, ip_op (p := Rg1 1000000) (q := fun j => j = 100000) (pull_in (p := fun n => n = 1000000) rfl ((ip_pow ⟨by decide, by decide, by decide⟩ rfl).ip rfl) fun n hn => ?_) ((ip_pow ⟨by decide, by decide, by decide⟩ rfl).ip rfl) fun i j hi hj => ?_⟩
    · subst hn; exact ⟨by decide, fun x h1 h2 => ⟨h1, h2⟩⟩
    · have := hi.1
      have := hi.2
      exact nat_lt_pow (by omega) (by omega)
  · rintro d ⟨rs, rfl, ds, cs, rfl, rfl, hl, hcs⟩
    rw [rngD_len] at hl
    exact ⟨cs, rfl, by omega, hcs⟩
  obtain ⟨cs, rfl, hcl, hcb⟩ := hd
  refine q_setD m5 (ev_callD (mm, (false, ws), true, cs) (ea_consD (ev_var rfl) (ea_consD (ev_var rfl) (ea_consD (ev_var rfl) ea_nil))) ⟨hMP, by show mm.length ≤ 1000; omega, by show ws.length ≤ 1000; omega, hcl, hw', hcb.mono (by decide)⟩) fun σ6 G6 H6 e6 m6 => ?_
  have hbox : Box mm (summedF mm ws cs) := summed_box (pos_of hMP) _ _
  have hgd : ∀ q, q < mm.length → g mm q ∣ g (summedF mm ws cs) q - lin cs ws q := fun q hq => by
    rw [g_summed hq]
    have : g mm q ∣ lin cs ws q - lin cs ws q % g mm q := Int.dvd_self_sub_emod
    have := Int.dvd_neg.mpr this
    rwa [Int.neg_sub] at this
  have hsmall : ∀ q, q < mm.length → 0 ≤ g (summedF mm ws cs) q ∧ g (summedF mm ws cs) q < 100 := fun q hq => by
    have h1 := hbox.lo q hq
    have h2 := hm _ (g_mem mm q hq)
    omega
  -- further off
  refine q_set m6 (P := fun d => ∃ v, d = dt v ∧ v.length = mm.length ∧ Bd 40000 v ∧ ∀ q, q < mm.length → g mm q ∣ g v q - lin cs ws q) (ev_cb (ea_cons (EvN.ev (en_lcP (Pw := (· = rngD 0 mm.length)) (Pe := fun _ i d => ∃ a : Int, d = .int a ∧ (a.natAbs < 2 ^ 300 ∧ g mm i ∣ a - lin cs ws i)) (wk_rng1D (n := (mm.length : Int)) (ea_consD ((ev_cbD (ea_consD (ev_var rfl) ea_nil) (l_len (ds := mm.map D.int) (.inr rfl))).is (by rw [List.length_map])) ea_nil) (n62 (by omega)).1 (n62 (by omega)).2) (fun ds e => ?_) fun ds i d hds hd => ?_)) ea_nil) ?_) fun d σ7 G7 H7 hd e7 m7 => ?_
  · rw [e, rngD_len]; exact line1000 (by omega)
  · subst hds
    obtain ⟨hi, rfl⟩ := rng0_get hd
    have h1 := hm _ (g_mem mm i hi)
    have h2 := hsmall i hi
    have h3 := hgd i hi
    rw [pw] at f1
    refine ⟨_, _, tg_name, by decide, ip_op (p := fun x => x = g (summedF mm ws cs) i) (q := fun x => ∃ y, x = g mm i * y ∧ 0 ≤ y ∧ y < 1606938044258990275541962092341162602522202993782792835301476) ((ev_op2D (ev_var rfl) (ev_var rfl) (o_ixT (at_dl (by rw [summed_len]; exact hi)))).ip rfl)
      (ip_opC (p := fun x => x = g mm i) (q := fun y => 0 ≤ y ∧ y < 1606938044258990275541962092341162602522202993782792835301476) ((ev_op2D (ev_var rfl) (ev_var rfl) (o_ixT (at_dl hi))).ip rfl) (ip_op (p := Rg1 50) (q := fun x => x = far) (pull_in (p := fun n => n = 50) rfl (ip_int rfl) fun n hn => ?_) ((ev_var rfl).ip rfl) fun i j hi hj => ?_) fun x y hx hy => ?_) fun x y hx hy => ?_⟩
    · subst hn; exact ⟨by decide, fun x h1 h2 => ⟨h1, h2⟩⟩
    · have := hi.1
      have := hi.2
      omega
    · subst hx
      exact ⟨mulX (a := 7) (b := 201) (by rw [show 2 ^ 7 = 128 by decide]; omega) (nat_abs_lt (b := 3213876088517980551083924184682325205044405987565585670602752) (by omega) (by omega) (by decide)) (by decide), y, rfl, hy⟩
    · obtain ⟨y, rfl, y0, y1⟩ := hy
      subst hx
      have p0 : 0 ≤ g mm i * y := Int.mul_nonneg (by omega) y0
      have p1 : g mm i * y ≤ 100 * y := Int.mul_le_mul_of_nonneg_right (by omega) y0
      refine ⟨Nat.lt_of_lt_of_le (show _ < 2 ^ 210 from nat_abs_lt (b := 1645504557321206042154969182557350504982735865633579863348609024) (by omega) (by omega) (by decide)) (Nat.pow_le_pow_right (by decide) (by decide)), ?_⟩
      have := Int.dvd_sub h3 (Int.dvd_mul_right (g mm i) y)
      rwa [show g (summedF mm ws cs) i - lin cs ws i - g mm i * y = g (summedF mm ws cs) i - g mm i * y - lin cs ws i by omega] at this
  · rintro ds ⟨d, r, rfl, ⟨rs, rfl, ds, rfl, hl, hrs⟩, rfl⟩
    rw [rngD_len] at hl
    obtain ⟨v, rfl, hv'⟩ := maps_of D.int (fun a => a.natAbs < 2 ^ 300) fun i d hd => by
      obtain ⟨a, e, h, _⟩ := hrs i d hd
      exact ⟨a, e, h⟩
    rw [List.length_map] at hl
    refine l_tupleL.imp fun d hd => ⟨v, hd, hl, Bd.mono (show Bd 300 v from hv') (by decide), fun q hq => ?_⟩
    obtain ⟨a, e, _, h⟩ := hrs q (.int (g v q)) (by rw [List.getElem?_map, get_g (by omega)]; rfl)
    cases e
    exact h
  obtain ⟨more, rfl, lm, bm, dm⟩ := hd
  have hBox : Bd 40000 (summedF mm ws cs) := fun y hy => by
    obtain ⟨i, hi, e⟩ := List.getElem_of_mem hy
    have h1 := hsmall i (by rw [← summed_len mm ws cs]; exact hi)
    have h2 : g (summedF mm ws cs) i = y := g_get (by rw [List.getElem?_eq_getElem hi, e])
    rw [h2] at h1
    exact Nat.lt_of_lt_of_le (show y.natAbs < 2 ^ 7 by rw [show 2 ^ 7 = 128 by decide]; omega) (Nat.pow_le_pow_right (by decide) (by decide))
  refine s_ret m7 (P := (· = .bl true)) (ev_andV (Pa := (· = .bl true)) (ev_callD (mm, ws, summedF mm ws cs, true) (ea_consD (ev_var rfl) (ea_consD (ev_var rfl) (ea_consD (ev_var rfl) (ea_consD ev_bl ea_nil)))) ⟨hG, summed_len _ _ _, hBox, ?_⟩) (fun d hd => ⟨_, hd⟩) (fun _ => ev_callD (mm, ws, more, true) (ea_consD (ev_var rfl) (ea_consD (ev_var rfl) (ea_consD (ev_var rfl) (ea_consD ev_bl ea_nil)))) ⟨hG, lm, bm, ?_⟩) fun e => by cases e) fun v d G' H' hd m5 da => q v d G' H' m5.g da hd
  · exact (sums_is hG.vb.v (summed_len _ _ _) hgd).symm
  · exact (sums_is hG.vb.v lm dm).symm
end
end Dt

set_option Elab.async false
set_option linter.all false
set_option maxRecDepth 100000
namespace Dt
open PySem PySem.Spec PyProof.Rows L2 SpM
section
variable {P : Program} {w : World} {K : PySem.W.Frag} {mg : Str → Option Value} {base : Heap}
theorem box_bd4 {m x : List Int} (hm : MS m) (h : Box m x) : Bd 40000 x := fun y hy => by
  obtain ⟨i, hi, e⟩ := List.getElem_of_mem hy
  have h1 := h.lo i (by rw [← h.len]; exact hi)
  have h2 : g x i = y := g_get (by rw [List.getElem?_eq_getElem hi, e])
  have h3 := hm _ (g_mem m i (by rw [← h.len]; exact hi))
  rw [h2] at h1
  exact Nat.lt_of_lt_of_le (show y.natAbs < 2 ^ 10 by have : 2 ^ 10 = 1024 := by decide
                                                      omega) (Nat.pow_le_pow_right (by decide) (show 10 ≤ 40000 by decide))
/-- a list of vectors, so many at most -/
abbrev VL (n k : Nat) : D → Prop := fun d => ∃ us : List (List Int), d = .lst (us.map dt) ∧ us.length ≤ k ∧ ∀ u ∈ us, u.length = n ∧ Bd 40000 u
theorem vl_cat {S : Addr → Prop} {O : Os} {ρ : Rho} {G0 : Hp} {ta tb : TE} {n a b : Nat} (ha : Ev S O ρ G0 ta (VL n a)) (hb : Ev S O ρ G0 tb (VL n b)) (h : a + b ≤ 100000) : Ev S O ρ G0 (tOp rCat ta tb) (VL n (a + b)) :=
  ev_op2 ha hb fun x y ⟨us, e1, l1, k1⟩ ⟨ws, e2, l2, k2⟩ => by
    subst e1 e2
    refine (o_cat (by simp only [List.length_map]; exact line1000 (by omega))).imp fun d hd => ⟨us ++ ws, by rw [hd, List.map_append], by rw [List.length_append]; omega, fun u hu => ?_⟩
    rcases List.mem_append.mp hu with h | h
    · exact k1 u h
    · exact k2 u h
theorem span_pos {m : List Int} {vs sp : List (List Int)} (hm : MPos m) (h : IsSpan m vs sp) : 0 < sp.length := by
  have : List.replicate m.length 0 ∈ sp := (h.mem _).mpr ⟨⟨by simp, fun q hq => ?_⟩, List.replicate vs.length 0, by simp, fun q hq => ?_⟩
  · exact List.length_pos_of_mem this
  · have gz : g (List.replicate m.length (0 : Int)) q = 0 := g_get (by rw [List.getElem?_replicate, if_pos hq])
    rw [gz]
    exact ⟨Int.le_refl 0, pos_of hm q hq⟩
  · have gz : g (List.replicate m.length (0 : Int)) q = 0 := g_get (by rw [List.getElem?_replicate, if_pos hq])
    rw [gz, lin_rep]
    exact ⟨0, by simp⟩
theorem span_le {m : List Int} {vs sp : List (List Int)} (hm : MPos m) (h : IsSpan m vs sp) : (sp.length : Int) ≤ prodL m := boxes_le hm h.nd fun x hx => ((h.mem x).mp hx).1
theorem ok_right (A : At K mg "_law_right" s_l_right) (B : Bl mg) (O_law_pull : Ok P w K mg base "_law_pull" 1 ["_law_store", "_law_many"] spPull) (O_law_sizes : Ok P w K mg base "_law_sizes" 2 ["_law_store", "_law_many", "_law_most", "_law_bulk"] spSizes) (O_law_arrow : Ok P w K mg base "_law_arrow" 2 ["_law_store", "_law_sizes_here"] spArrow)
    (O_law_arrows : Ok P w K mg base "_law_arrows" 3 ["_law_store", "_law_sizes_here", "_law_most"] spArrows) (O_law_span : Ok P w K mg base "_law_span" 2 ["_law_sizes_here", "_law_arrows_here"] spSpan)
    (O_law_summed : Ok P w K mg base "_law_summed" 1 ["_law_sizes_here", "_law_arrows_here", "_law_often"] spSummed) (O_law_told_right : Ok P w K mg base "_law_told_right" 7 ["_law_sizes_here", "_law_arrows_here", "_law_arrow_here", "_law_can"] spTold)
    (O_law_great_right : Ok P w K mg base "_law_great_right" 8 ["_law_store"] spYes) :
    Ok P w K mg base "_law_right" 9 ["_law_store"] spYes := by
  refine Ok.store A sc_l_right (fun _ _ _ _ _ _ us hl => match us, hl with | [_], _ => rfl) (fun _ => rfl) fun f cdv A outer s H vs E hr a hp => ?_
  refine ⟨_, pss_cons (ps_for PassesOwn.never rfl (pi_range1 (by rfl) B.range (pa_cons pe_int pa_nil)) (pg_name (i := 1) sc_l_right.nd rfl (Or.inl rfl))
        (pss_cons (ps_set (i := 2) sc_l_right.nd rfl (.inr rfl) (pe_f O_law_sizes hr (by decide) (pa_cons (pv 0) (pa_cons pe_int (pa_cons pe_int (pa_cons pe_int pa_nil))))))
        (pss_cons (ps_set (i := 3) sc_l_right.nd rfl (.inl rfl) (pe_f O_law_arrows hr (by decide) (pa_cons (pv 0) (pa_cons (pv 2) (pa_cons pe_int pa_nil)))))
        (pss_cons (ps_par (i := 4) (j := 5) rfl sc_l_right.nd rfl rfl (by decide) rfl rfl (pa_cons (pe_f O_law_span hr (by decide) (pa_cons (pv 2) (pa_cons (pv 3) pa_nil))) (pa_cons (pe_lc (own := [("_law_k", 7)]) (g := gName 7) (tt := tYes) rfl sc_l_right.nd (pi_range1 (by rfl) B.range (pa_cons pe_int pa_nil)) (blkOk_by (own := [("_law_k", 7)]) (N := n_l_right) (sc := defScope s_l_right) (by decide +kernel)) (fun _ _ _ _ _ => pg_name (i := 7) sc_l_right.nd rfl (Or.inl rfl)) (fun _ _ _ _ _ => pts_nil) (fun _ _ _ _ _ => pe_f O_law_arrow hr (by decide) (pa_cons (pv 0) (pa_cons (pv 2) pa_nil)))) pa_nil)) (by rfl))
        (pss_cons (ps_set (i := 5) sc_l_right.nd rfl (.inl rfl) (pe_op op_cat (pe_op op_cat (pv 5) (pe_lst (pa_cons (pe_ix ix_list (pv 4) (pe_f O_law_pull hr (by decide) (pa_cons (pv 0) (pa_cons (pe_callB call_len_seq (by rfl) B.len PySem.boot_len (pa_cons (pv 4) pa_nil)) pa_nil))) (fun _ _ => rfl)) (pa_cons (pe_ix ix_list (pv 4) (pe_un un_neg pe_int) (fun _ _ => rfl)) (pa_cons (pe_ix ix_list (pv 4) pe_int (fun _ _ => rfl)) pa_nil))))) (pe_slice sl_list (pe_callTy call_list_of (by rfl) B.list PyProof.Rows.boot_list (pa_cons (pv 3) pa_nil)) po_none (po_some pe_int))))
        (pss_one (ps_for PassesOwn.never rfl (pi_list (pv 5)) (pg_name (i := 6) sc_l_right.nd rfl (Or.inl rfl))
          (pss_one (ps_if (pt_not (pt_val (pe_f O_law_told_right hr (by decide) (pa_cons (pv 2) (pa_cons (pv 3) (pa_cons (pv 6) (pa_cons (pe_cmpR (op_inD (hu65 hr)) (pe_f O_law_summed hr (by decide) (pa_cons (pv 2) (pa_cons (pe_lst (pa_cons (pv 6) pa_nil)) (pa_cons (pe_lst (pa_cons pe_int pa_nil)) pa_nil)))) (pv 4) rfl) pa_nil)))))))
            (pss_one (ps_ret pe_bl))
            (pss_nil))))))))))
      (pss_one (ps_ret (pe_f O_law_great_right hr (by decide) (pa_cons (pv 0) pa_nil)))), fun G Q so m q => ?_⟩
  refine q_forD (ds := rngD 0 3) (fun i O ρ => ∃ x1 x2 x3 x4 x5 x6 x7, O = [] ∧ ρ = [some (.obj so), x1, x2, x3, x4, x5, x6, x7]) m (wk_rng1D (n := 3) (ea_consD ev_int ea_nil) (by decide) (by decide)) ⟨_, _, _, _, _, _, _, rfl, rfl⟩ ?_ ?_
  · rintro i d O3 ρ3 σ3 Gb G3 H3 hd ⟨x1, x2, x3, x4, x5, x6, x7, rfl, rfl⟩ eb e3 m3
    refine ⟨_, _, tg_name, fun σ4 m4 => ?_⟩
    refine q_set m4 (ev_callSD (4, 9, 240) (ea_consD (ev_var rfl) (ea_consD ev_int (ea_consD ev_int (ea_consD ev_int ea_nil)))) ⟨⟨by decide, by decide⟩, ⟨by decide, by decide⟩, by decide, by decide⟩) fun d σ5 G5 H5 hd e5 m5 => ?_
    obtain ⟨mm, rfl, m0, m4', hm, hpr⟩ := hd
    have m4' : (mm.length : Int) ≤ 4 := m4'
    have hm : ∀ n ∈ mm, 1 ≤ n ∧ n ≤ 9 := hm
    have hpr : prodL mm ≤ 240 := hpr
    have hMS : MS mm := fun n hn => by have := hm n hn; omega
    have hMP : MPos mm := fun n hn => by have := hm n hn; omega
    refine q_set m5 (ev_callSD (mm, 5) (ea_consD (ev_var rfl) (ea_consD (ev_var rfl) (ea_consD ev_int ea_nil))) ⟨hMS, by show mm.length ≤ 1000; omega, by show (0 : Int) ≤ 5; decide, by show (5 : Int) ≤ 1000; decide⟩) fun d σ6 G6 H6 hd e6 m6 => ?_
    obtain ⟨vs, rfl, v5, hv⟩ := hd
    have v5 : (vs.length : Int) ≤ 5 := v5
    have hv : VS mm.length vs := hv
    have hG : GB mm vs := gb_of (fun n hn => by have := hm n hn; omega) m0 (by omega) (by omega) fun v h => ⟨(hv v h).1, (hv v h).2.mono (by decide)⟩
    refine q_par m6 (ea_cons (ev_callD (mm, vs) (ea_consD (ev_var rfl) (ea_consD (ev_var rfl) ea_nil)) ⟨hMS, by show mm.length ≤ 100; omega, by show prodL mm ≤ 1000; omega, by show vs.length ≤ 1000; omega, hv⟩)
      (ea_cons (Pa := VL mm.length 4) ((EvN.ev (en_lcA dt (fun v => v.length = mm.length ∧ Bd 20 v) (wk_rng1D (n := 4) (ea_consD ev_int ea_nil) (by decide) (by decide)) (fun ds e => by rw [e]; decide) fun ds i d hds hd => ?_)).imp ?_) ea_nil)) ?_ fun d e σ7 G7 H7 hd e7 m7 => ?_
    · exact ⟨_, _, tg_name, by decide, ev_callSD mm (ea_consD (ev_var rfl) (ea_consD (ev_var rfl) ea_nil)) ⟨hMS, by omega⟩⟩
    · rintro d ⟨rs, rfl, ds, us, rfl, rfl, hl, hus⟩
      exact ⟨us, rfl, by rw [hl]; decide, fun u hu => ⟨(hus u hu).1, (hus u hu).2.mono (by decide)⟩⟩
    · rintro ds ⟨d, r, rfl, _, e, r2, rfl, _, rfl⟩
      exact ⟨d, e, rfl⟩
    obtain ⟨d', r', e', ⟨sp, h1, hS⟩, d2, r2, e2', ⟨us, h2, ul, hu⟩, e3'⟩ := hd
    cases e'
    cases e2'
    subst h1 h2
    have hS : IsSpan mm vs sp := hS
    have s0 := span_pos hMP hS
    have sL := span_le hMP hS
    have bx : ∀ x ∈ sp, x.length = mm.length ∧ Bd 40000 x := fun x hx => ⟨((hS.mem x).mp hx).1.len, box_bd4 hMS ((hS.mem x).mp hx).1⟩
    have one : ∀ {te : TE} {O : Os} {ρ : Rho} {G : Hp} (z : Int) (j : Nat), ixN sp.length z = some j → j < sp.length → Ev (· = so) O ρ G te (· = .lst (sp.map dt)) → ∀ {tj : TE}, Ev (· = so) O ρ G tj (· = .int z) → Ev (· = so) O ρ G (tOp (rIxL K) te tj) (fun d => ∃ x, d = dt x ∧ x.length = mm.length ∧ Bd 40000 x) := fun {te O ρ G} z j hz hj h {tj} ht =>
      (ev_op2D h ht (o_ixL (d := dt sp[j]) (by unfold atI; rw [List.length_map, hz]; show (sp.map dt)[j]? = _; rw [List.getElem?_map, List.getElem?_eq_getElem hj]; rfl))).imp fun d hd => ⟨_, hd, bx _ (List.getElem_mem hj)⟩
    refine q_set m7 (vl_cat (a := 7) (b := 1000) (n := mm.length) (vl_cat (a := 4) (b := 3) ((ev_var rfl).imp fun d hd => ⟨us, hd, ul, hu⟩) ((ev_lst (ea_cons (Pa := fun d => ∃ x, d = dt x ∧ x.length = mm.length ∧ Bd 40000 x) (ev_op2 (ev_var rfl) (pull_in (p := fun n => n = (sp.length : Int)) (r := Rg1 (sp.length : Int)) rfl (((ev_cbD (ea_consD (ev_var rfl) ea_nil) (l_len (ds := sp.map dt) (.inl rfl))).is (by rw [List.length_map])).ip rfl) fun n hn => ?_) ?_) (ea_cons (one (-1) (sp.length - 1) (ixN_neg1 s0) (by omega) (ev_var rfl) (ev_op1D ev_int o_neg)) (ea_cons (one 0 0 (ixN_of (j := 0) s0) s0 (ev_var rfl) ev_int) ea_nil))) ?_).imp ?_) (by decide))
      ((ev_slL (ds := vs.map dt) (ev_cbD (ea_consD (ev_var rfl) ea_nil) (l_list (.inr rfl))) eo_none (eo_some ev_int)).imp fun d hd => ⟨cut vs none (some 2), by rw [hd, cut_map], ?_, fun u hu => ?_⟩) (by decide)) fun d σ8 G8 H8 hd e8 m8 => ?_
    · subst hn; exact ⟨⟨by omega, by omega⟩, fun x h1 h2 => ⟨h1, h2⟩⟩
    · intro a b ha hb
      obtain ⟨z, rfl, z0, z1⟩ := hb
      subst ha
      obtain ⟨k, rfl⟩ := Int.eq_ofNat_of_zero_le z0
      have hk : k < sp.length := by omega
      exact (o_ixL (d := dt sp[k]) (atI_nat (by rw [List.getElem?_map, List.getElem?_eq_getElem hk]; rfl))).imp (P' := fun d => ∃ x, d = dt x ∧ x.length = mm.length ∧ Bd 40000 x) fun d hd => ⟨_, hd, bx _ (List.getElem_mem hk)⟩
    · rintro ds ⟨d, r, rfl, _, d2, r2, rfl, _, d3, r3, rfl, _, rfl⟩
      show 3 ≤ sizeLine
      decide
    · rintro d ⟨ds, rfl, d1, r, rfl, ⟨x, rfl, hx⟩, d2, r2, rfl, ⟨y, rfl, hy⟩, d3, r3, rfl, ⟨z, rfl, hz⟩, rfl⟩
      refine ⟨[x, y, z], rfl, by simp, fun u hu => ?_⟩
      rcases List.mem_cons.mp hu with rfl | hu
      · exact hx
      · rcases List.mem_cons.mp hu with rfl | hu
        · exact hy
        · rw [List.mem_singleton.mp hu]; exact hz
    · have := cut_le vs none (some 2)
      omega
    · have := hv u (cut_mem hu)
      exact ⟨this.1, this.2.mono (by decide)⟩
    obtain ⟨us2, rfl, ul2, hu2⟩ := hd
    refine s_forD (ds := us2.map dt) (fun i O ρ => ∃ x1 x6 x7, O = [] ∧ ρ = [some (.obj so), x1, some (dt mm), some (dvs vs), some (.lst (sp.map dt)), some (.lst (us2.map dt)), x6, x7]) m8 (wk_listD (ev_var rfl)) ⟨_, _, _, rfl, rfl⟩ ?_ ?_
    · rintro i d O9 ρ9 σ9 Gb' G9 H9 hd ⟨x1, x6, x7, rfl, rfl⟩ eb' e9 m9
      rw [List.getElem?_map] at hd
      obtain ⟨u, hu', rfl⟩ := Option.map_eq_some_iff.mp hd
      obtain ⟨lu, bu⟩ := hu2 u (List.mem_of_getElem? hu')
      refine ⟨_, _, tg_name, fun σa ma => ?_⟩
      have hcan : decide (mulV mm u 1 ∈ sp) = (sumsF mm vs u).isSome := by
        have := mem_sums hG.vb.v hS lu
        cases h : (sumsF mm vs u).isSome
        · exact decide_eq_false fun k => by rw [this.mp k] at h; cases h
        · exact decide_eq_true (this.mpr h)
      refine s_ifF ma (et_notD (et_BD (b := true) (ev_callD (mm, vs, u, decide (mulV mm u 1 ∈ sp)) (ea_consD (ev_var rfl) (ea_consD (ev_var rfl) (ea_consD (ev_var rfl) (ea_consD (ev_op2D (ev_callD (mm, (true, [u]), true, [1]) (ea_consD (ev_var rfl) (ea_consD (ev_lstD (ea_consD (ev_var rfl) ea_nil) (by show 1 ≤ sizeLine; decide)) (ea_consD (ev_lstD (ea_consD ev_int ea_nil) (by show 1 ≤ sizeLine; decide)) ea_nil)))
        ⟨hMP, by show mm.length ≤ 1000; omega, by show 1 ≤ 1000; decide, rfl, one_vs ⟨lu, bu.mono (by decide)⟩, one_bd⟩) (ev_var rfl) (o_inN (nice_dt _) (nice_dts sp) (hb := by rw [decide_eq_true_iff]; exact dt_mem.symm))) ea_nil)))) ⟨hG, lu, bu, hcan⟩))) fun Gc Hc ec mc => ?_
      exact Nxt.mk (e9.trans ec) ⟨_, _, _, rfl, rfl⟩ mc
    · rintro O9 ρ9 σ9 G9 H9 ⟨x1, x6, x7, rfl, rfl⟩ e9 m9
      exact Nxt.mk (e3.trans (e5.trans (e6.trans (e7.trans (e8.trans e9))))) ⟨_, _, _, _, _, _, _, rfl, rfl⟩ m9
  · rintro O3 ρ3 σ3 G3 H3 ⟨x1, x2, x3, x4, x5, x6, x7, rfl, rfl⟩ e3 m3
    exact s_ret m3 (ev_callSD () (ea_consD (ev_var rfl) ea_nil) trivial) fun v d G' H' hd m5 da => q v d G' H' m5.g da hd
theorem ok_law (A : At K mg "law" s_law) (B : Bl mg) (O_law_opened : Ok P w K mg base "_law_opened" 1 ["_law_script", "_law_k"] (spO K)) (O_law_right : Ok P w K mg base "_law_right" 9 ["_law_store"] spYes) : Ok P w K mg base "law" 10 ["_law_script"] (spLaw K) := by
  refine Ok.law A sc_law (fun _ _ _ _ _ _ us hl => match us, hl with | [_], _ => rfl) rfl fun f cdv A outer s H vs E hr p ns h63 => ?_
  refine ⟨_, pss_one (ps_ret (pe_callB (cr_all rfl) (by rfl) B.all PyProof.Rows.boot_all (pa_cons (pe_lc (own := [("_law_k", 1)]) (g := gName 1) (tt := tYes) rfl sc_law.nd (pi_range1 (by rfl) B.range (pa_cons (pe_callB (call_max2 rfl) (by rfl) B.max PyProof.Rows.boot_max (pa_cons pe_int (pa_cons (pe_callB (call_min2 rfl) (by rfl) B.min PyProof.Rows.boot_min (pa_cons (pe_callB call_len_seq (by rfl) B.len PySem.boot_len (pa_cons (pv 0) pa_nil)) (pa_cons pe_int pa_nil))) pa_nil))) pa_nil)) (blkOk_by (own := [("_law_k", 1)]) (N := n_law) (sc := defScope s_law) (by decide +kernel)) (fun _ _ _ _ _ => pg_name (i := 1) sc_law.nd rfl (Or.inl rfl)) (fun _ _ _ _ _ => pts_nil) (fun _ _ _ _ _ => pe_f O_law_right hr (by decide) (pa_cons (pe_f O_law_opened hr (by decide) (pa_cons (pv 0) (pa_cons (pv 1) pa_nil))) pa_nil))) pa_nil))), fun G Q hs m q => ?_⟩
  have hn : ∀ n : Int, n = (if (if (6 : Int) < (ns.length : Int) then 6 else (ns.length : Int)) > 2 then (if (6 : Int) < (ns.length : Int) then 6 else (ns.length : Int)) else 2) → 0 ≤ n ∧ n ≤ 6 := fun n hn => by
    split at hn <;> split at hn <;> omega
  have hn' := hn _ rfl
  refine s_ret m (P := (· = .bl true)) ((ev_cbD (ea_consD ((EvN.evD (en_lcM (v := fun _ => D.bl true) (wk_rng1D (ea_consD (ev_cbD (ea_consD ev_int (ea_consD (ev_cbD (ea_consD (ev_lenScr hs rfl) (ea_consD ev_int ea_nil)) l_min2) ea_nil)) l_max2) ea_nil) (by omega) (by omega)) (by rw [rngD_len]; exact line1000 (by omega)) fun i d hd => ?_)).is (congrArg D.lst (map_const_true _))) ea_nil) l_all).is (by simp)) fun v d G' H' hd m5 da => ?_
  · obtain ⟨hi, rfl⟩ := rng0_get hd
    exact ⟨_, _, tg_name, by decide, ev_opened () hs (ea_consD (ev_var rfl) (ea_consD (ev_var rfl) ea_nil)) (by omega) trivial rfl⟩
  · subst hd
    cases da
    exact q H'
end
end Dt

set_option Elab.async false
set_option linter.all false
set_option maxRecDepth 100000
namespace Dt
open PySem PySem.Spec PyProof.Rows L2 SpM
theorem all_mk {P : Program} {w : World} {K : PySem.W.Frag} {mg : Str → Option Value} {fa : Addr} (hfa : mg "law" = some (.ref fa))
    (A1 : At K mg "shared" s_shared) (A2 : At K mg "is_whole" s_is_whole) (A3 : At K mg "is_within" s_is_within) (A4 : At K mg "check_moduli" s_check_moduli) (A5 : At K mg "is_vector" s_is_vector) (A6 : At K mg "check_vectors" s_check_vectors) (A7 : At K mg "check_vector" s_check_vector)
    (A8 : At K mg "common" s_common) (A9 : At K mg "less" s_less) (A10 : At K mg "by_rests" s_by_rests) (A11 : At K mg "met" s_met) (A12 : At K mg "laid" s_laid) (A13 : At K mg "gone_down" s_gone_down) (A14 : At K mg "sums_of" s_sums_of) (A15 : At K mg "sums" s_sums)
    (L1 : At K mg "_law_opened" s_l_opened) (L2 : At K mg "_law_pull" s_l_pull) (L3 : At K mg "_law_sizes" s_l_sizes) (L4 : At K mg "_law_arrow" s_l_arrow) (L5 : At K mg "_law_arrows" s_l_arrows) (L6 : At K mg "_law_summed" s_l_summed) (L7 : At K mg "_law_span" s_l_span)
    (L8 : At K mg "_law_is_sum" s_l_is_sum) (L9 : At K mg "_law_told_right" s_l_told_right) (L10 : At K mg "_law_great_right" s_l_great_right) (L11 : At K mg "_law_right" s_l_right) (L12 : At K mg "law" s_law) (B : Bl mg) (C : Cn mg) :
    ∃ fd : FuncData, (∀ (s : Shared) (u : Value), BindsTo s fd ⟨[u], []⟩ [("_law_script", u)]) ∧ ∀ base : Heap, K.In base → base.Ns mainGlobals mg → FnOk P w K mg base CX0 10 fa fd ["_law_script"] (spLaw K) := by
  refine law_F L12 hfa (fun _ _ _ _ _ _ _ => rfl) fun base => ?_
  have less := ok_less (P := P) (w := w) (base := base) A9 B
  have laid := ok_laid A12 B less (ok_met A11 B less (ok_rests A10 B))
  have whole := ok_is_whole (P := P) (w := w) (base := base) A2 B
  have within := ok_is_within A3 whole
  have isv := ok_is_vector A5 B whole
  have chk := ok_check_vector A7 B (ok_check_vectors A6 B C (ok_check_moduli A4 B C within) isv) isv
  have sums := ok_sums A15 chk (ok_sums_of A14 B (ok_gone A13 B less) laid (ok_common A8 (ok_shared A1)))
  have pull := ok_pull (P := P) (w := w) (base := base) L2 B
  have arrow := ok_arrow L4 B pull
  have summed := ok_summed (P := P) (w := w) (base := base) L6 B
  have told := ok_told_right L9 B A15 sums (ok_is_sum L8 B summed)
  exact ok_law L12 B (ok_opened L1 B) (ok_right L11 B pull (ok_sizes L3 B pull) arrow (ok_arrows L5 B pull arrow) (ok_span L7 B summed) summed told (ok_great_right L10 B pull arrow summed told))
end Dt
open PySem PySem.W PyProof.Rows
set_option Elab.async false in
set_option maxRecDepth 100000 in
set_option maxHeartbeats 0 in
theorem PySem.Challenge.cw_sincerung_k33_sums_holds : PySem.Challenge.rw_sincerung_k33_sums.Holds := by
  w_on; o_law; k_head; (case hw => w_witness2)
  k_fill
  refine L2.walk_of (l := PySem.Challenge.rw_sincerung_k33_sums) (n := 63) (k := 10) (x := "_law_script") (CX := fun _ => L2.CX0) (sp := fun w => Dt.spLaw _) rfl (by decide) rfl ⟨rfl, by decide, by decide⟩ (fun w h Y => PySem.W.kIn_of Y) ?F (fun _ _ a ns hl _ hS => ⟨a, ns, rfl, hS, hl, fun _ => rfl⟩) (fun _ _ _ _ _ h => h)
  case F =>
    intro w mg fa h KX G hmg
    refine' Dt.all_mk hmg (Dt.at_mk KX G ?a0 ?l0 ?c0 ?k0) (Dt.at_mk KX G ?a1 ?l1 ?c1 ?k1) (Dt.at_mk KX G ?a2 ?l2 ?c2 ?k2) (Dt.at_mk KX G ?a3 ?l3 ?c3 ?k3) (Dt.at_mk KX G ?a4 ?l4 ?c4 ?k4) (Dt.at_mk KX G ?a5 ?l5 ?c5 ?k5) (Dt.at_mk KX G ?a6 ?l6 ?c6 ?k6) (Dt.at_mk KX G ?a7 ?l7 ?c7 ?k7) (Dt.at_mk KX G ?a8 ?l8 ?c8 ?k8) (Dt.at_mk KX G ?a9 ?l9 ?c9 ?k9) (Dt.at_mk KX G ?a10 ?l10 ?c10 ?k10) (Dt.at_mk KX G ?a11 ?l11 ?c11 ?k11) (Dt.at_mk KX G ?a12 ?l12 ?c12 ?k12) (Dt.at_mk KX G ?a13 ?l13 ?c13 ?k13) (Dt.at_mk KX G ?a14 ?l14 ?c14 ?k14) (Dt.at_mk KX G ?a15 ?l15 ?c15 ?k15) (Dt.at_mk KX G ?a16 ?l16 ?c16 ?k16) (Dt.at_mk KX G ?a17 ?l17 ?c17 ?k17) (Dt.at_mk KX G ?a18 ?l18 ?c18 ?k18) (Dt.at_mk KX G ?a19 ?l19 ?c19 ?k19) (Dt.at_mk KX G ?a20 ?l20 ?c20 ?k20) (Dt.at_mk KX G ?a21 ?l21 ?c21 ?k21) (Dt.at_mk KX G ?a22 ?l22 ?c22 ?k22) (Dt.at_mk KX G ?a23 ?l23 ?c23 ?k23) (Dt.at_mk KX G ?a24 ?l24 ?c24 ?k24) (Dt.at_mk KX G ?a25 ?l25 ?c25 ?k25) (Dt.at_mk KX G ?a26 ?l26 ?c26 ?k26) ⟨PySem.W.mg_none_of KX G ?z0, PySem.W.mg_none_of KX G ?z1, PySem.W.mg_none_of KX G ?z2, PySem.W.mg_none_of KX G ?z3, PySem.W.mg_none_of KX G ?z4, PySem.W.mg_none_of KX G ?z5, PySem.W.mg_none_of KX G ?z6, PySem.W.mg_none_of KX G ?z7, PySem.W.mg_none_of KX G ?z8, PySem.W.mg_none_of KX G ?z9, PySem.W.mg_none_of KX G ?z10, PySem.W.mg_none_of KX G ?z11, PySem.W.mg_none_of KX G ?z12, PySem.W.mg_none_of KX G ?z13, PySem.W.mg_none_of KX G ?z14, PySem.W.mg_none_of KX G ?z15, PySem.W.mg_none_of KX G ?z16, PySem.W.mg_none_of KX G ?z17, PySem.W.mg_none_of KX G ?z18, PySem.W.mg_none_of KX G ?z19, PySem.W.mg_none_of KX G ?z20⟩ ⟨Dt.ic_mk KX G ?y0, Dt.ic_mk KX G ?y1, Dt.ic_mk KX G ?y2⟩
    (case a0 => k_is); (case l0 => k_is); (case c0 => k_is); (case k0 => k_is)
    (case a1 => k_is); (case l1 => k_is); (case c1 => k_is); (case k1 => k_is)
    (case a2 => k_is); (case l2 => k_is); (case c2 => k_is); (case k2 => k_is)
    (case a3 => k_is); (case l3 => k_is); (case c3 => k_is); (case k3 => k_is)
    (case a4 => k_is); (case l4 => k_is); (case c4 => k_is); (case k4 => k_is)
    (case a5 => k_is); (case l5 => k_is); (case c5 => k_is); (case k5 => k_is)
    (case a6 => k_is); (case l6 => k_is); (case c6 => k_is); (case k6 => k_is)
    (case a7 => k_is); (case l7 => k_is); (case c7 => k_is); (case k7 => k_is)
    (case a8 => k_is); (case l8 => k_is); (case c8 => k_is); (case k8 => k_is)
    (case a9 => k_is); (case l9 => k_is); (case c9 => k_is); (case k9 => k_is)
    (case a10 => k_is); (case l10 => k_is); (case c10 => k_is); (case k10 => k_is)
    (case a11 => k_is); (case l11 => k_is); (case c11 => k_is); (case k11 => k_is)
    (case a12 => k_is); (case l12 => k_is); (case c12 => k_is); (case k12 => k_is)
    (case a13 => k_is); (case l13 => k_is); (case c13 => k_is); (case k13 => k_is)
    (case a14 => k_is); (case l14 => k_is); (case c14 => k_is); (case k14 => k_is)
    (case a15 => k_is); (case l15 => k_is); (case c15 => k_is); (case k15 => k_is)
    (case a16 => k_is); (case l16 => k_is); (case c16 => k_is); (case k16 => k_is)
    (case a17 => k_is); (case l17 => k_is); (case c17 => k_is); (case k17 => k_is)
    (case a18 => k_is); (case l18 => k_is); (case c18 => k_is); (case k18 => k_is)
    (case a19 => k_is); (case l19 => k_is); (case c19 => k_is); (case k19 => k_is)
    (case a20 => k_is); (case l20 => k_is); (case c20 => k_is); (case k20 => k_is)
    (case a21 => k_is); (case l21 => k_is); (case c21 => k_is); (case k21 => k_is)
    (case a22 => k_is); (case l22 => k_is); (case c22 => k_is); (case k22 => k_is)
    (case a23 => k_is); (case l23 => k_is); (case c23 => k_is); (case k23 => k_is)
    (case a24 => k_is); (case l24 => k_is); (case c24 => k_is); (case k24 => k_is)
    (case a25 => k_is); (case l25 => k_is); (case c25 => k_is); (case k25 => k_is)
    (case a26 => k_is); (case l26 => k_is); (case c26 => k_is); (case k26 => k_is)
    (case z0 => k_is)
    (case z1 => k_is)
    (case z2 => k_is)
    (case z3 => k_is)
    (case z4 => k_is)
    (case z5 => k_is)
    (case z6 => k_is)
    (case z7 => k_is)
    (case z8 => k_is)
    (case z9 => k_is)
    (case z10 => k_is)
    (case z11 => k_is)
    (case z12 => k_is)
    (case z13 => k_is)
    (case z14 => k_is)
    (case z15 => k_is)
    (case z16 => k_is)
    (case z17 => k_is)
    (case z18 => k_is)
    (case z19 => k_is)
    (case z20 => k_is)
    (case y0 => k_is)
    (case y1 => k_is)
    (case y2 => k_is)
