import PyProof.Rows.All
import Wide.All
import OpenK.AllK
import Wide.FinOn
import HandS.ForMost
import HandS.Defaults
import HandS.TupAny
import HandS.IsInst
import HandS.Flow
import HandS.Deep
import HandS.Style
import HandS.SortInts
import HandS.More
import PySem.Challenge.RW_carryround_k72_houses_and_standings_writ
set_option Elab.async false
set_option linter.all false
set_option maxRecDepth 100000
set_option maxHeartbeats 1000000
/-! A layer of plain data over the hand layer: what a slot holds is data, lists that a def alone holds may change. -/
namespace Dl
open PySem PySem.Spec PyProof.Rows L2

inductive D where
  | non | bl (b : Bool) | int (i : Int) | str (x : Str) | byt (b : Array UInt8) | pen
  | tup (ds : List D) | lst (ds : List D) | obj (o : HO) | opq (v : V)

/-- all but the pen as it was; the pen has its cells where it had them -/
structure SameP (P : Addr) (H H' : Hp) : Prop where
  keep : ∀ a o, H a = some o → a ≠ P → H' a = some o
  cel : ∀ c t r, H P = some (.lst [.ref c, .int t, .int r]) → ∃ t' r', H' P = some (.lst [.ref c, .int t', .int r'])
instance {P : Addr} {H H' : Hp} : CoeFun (SameP P H H') (fun _ => ∀ a o, H a = some o → a ≠ P → H' a = some o) := ⟨SameP.keep⟩
theorem SameP.refl (P : Addr) (H : Hp) : SameP P H H := ⟨fun _ _ h _ => h, fun _ t r h => ⟨t, r, h⟩⟩
theorem SameP.trans {P : Addr} {H H1 H2 : Hp} (a : SameP P H H1) (b : SameP P H1 H2) : SameP P H H2 := ⟨fun c o h n => b c o (a c o h n) n, fun c t r h => by
  obtain ⟨t', r', h'⟩ := a.cel c t r h
  exact b.cel c t' r' h'⟩
theorem SameP.of {P : Addr} {H H' : Hp} (a : Same H H') : SameP P H H' := ⟨fun c o h _ => a c o h, fun c t r h => ⟨t, r, a _ _ h⟩⟩
theorem SameP.new {P p : Addr} {H : Hp} {o : HO} (h : H p = none) : SameP P H (upd H p o) := SameP.of fun a u e => by
  rw [upd_ne (ne_of_none e h)]; exact e
theorem SameP.none {P a : Addr} {H H' : Hp} (s : SameP P H H') (h : H' a = none) (n : a ≠ P) : H a = none := by
  cases q : H a with
  | none => rfl
  | some o => rw [s a o q n] at h; cases h
theorem same_new {p : Addr} {H : Hp} {o : HO} (h : H p = none) : Same H (upd H p o) := fun a u e => by
  rw [upd_ne (ne_of_none e h)]; exact e

/-- the pen: a list of the cells, how many were begun, what is left of a great one -/
def PenOk (P : Addr) (n : Nat) (H : Hp) : Prop :=
  ∃ (c : Addr) (t r : Int) (cells : List Int), H P = some (.lst [.ref c, .int t, .int r]) ∧ H c = some (.lst (cells.map V.int)) ∧ c ≠ P ∧ cells.length ≤ 63 ∧ 0 ≤ t ∧ t ≤ n ∧ 0 ≤ r
theorem PenOk.some {P : Addr} {n : Nat} {H : Hp} (h : PenOk P n H) : H P ≠ none := by
  obtain ⟨c, t, r, cells, h, _⟩ := h
  rw [h]; simp
theorem PenOk.same {P : Addr} {n : Nat} {H H' : Hp} (h : PenOk P n H) (s : Same H H') : PenOk P n H' := by
  obtain ⟨c, t, r, cells, h1, h2, h3⟩ := h
  exact ⟨c, t, r, cells, s _ _ h1, s _ _ h2, h3⟩
theorem PenOk.mono {P : Addr} {n m : Nat} {H : Hp} (h : PenOk P n H) (l : n ≤ m) : PenOk P m H := by
  obtain ⟨c, t, r, cells, h1, h2, h3, h4, h5, h6, h7⟩ := h
  exact ⟨c, t, r, cells, h1, h2, h3, h4, h5, by omega, h7⟩

mutual
inductive Rp (P : Addr) (A : Addr → Prop) (H : Hp) : V → D → Prop
  | non : Rp P A H .non .non
  | bl (b : Bool) : Rp P A H (.bl b) (.bl b)
  | int (i : Int) : Rp P A H (.int i) (.int i)
  | str (x : Str) : Rp P A H (.str x) (.str x)
  | byt (x : Array UInt8) : Rp P A H (.byt x) (.byt x)
  | opq (v : V) : Rp P A H v (.opq v)
  | pen : Rp P A H (.ref P) .pen
  | tup {a : Addr} {vs : List V} {ds : List D} : H a = some (.tup vs) → a ≠ P → RpAll P A H vs ds → Rp P A H (.ref a) (.tup ds)
  | lst {a : Addr} {vs : List V} {ds : List D} : H a = some (.lst vs) → a ≠ P → A a → RpAll P A H vs ds → Rp P A H (.ref a) (.lst ds)
  | obj {a : Addr} {o : HO} : H a = some o → a ≠ P → A a → Rp P A H (.ref a) (.obj o)
inductive RpAll (P : Addr) (A : Addr → Prop) (H : Hp) : List V → List D → Prop
  | nil : RpAll P A H [] []
  | cons {v : V} {vs : List V} {d : D} {ds : List D} : Rp P A H v d → RpAll P A H vs ds → RpAll P A H (v :: vs) (d :: ds)
end

/-- the heap may change where no rep stands -/
def Stay (P : Addr) (A A' : Addr → Prop) (H H' : Hp) : Prop :=
  (∀ a vs, H a = some (.tup vs) → a ≠ P → H' a = some (.tup vs)) ∧ ∀ a o, H a = some o → a ≠ P → A a → H' a = some o ∧ A' a
mutual
theorem Rp.stay {P : Addr} {A A' : Addr → Prop} {H H' : Hp} (s : Stay P A A' H H') : ∀ (d : D) (v : V), Rp P A H v d → Rp P A' H' v d
  | .non, _, h => by cases h; exact .non
  | .bl _, _, h => by cases h; exact .bl _
  | .int _, _, h => by cases h; exact .int _
  | .str _, _, h => by cases h; exact .str _
  | .byt _, _, h => by cases h; exact .byt _
  | .opq _, _, h => by cases h; exact .opq _
  | .pen, _, h => by cases h; exact .pen
  | .tup ds, _, h => by
    cases h with
    | tup h1 h2 h3 => exact .tup (s.1 _ _ h1 h2) h2 (RpAll.stay s ds _ h3)
  | .lst ds, _, h => by
    cases h with
    | lst h1 h2 h4 h3 => exact .lst (s.2 _ _ h1 h2 h4).1 h2 (s.2 _ _ h1 h2 h4).2 (RpAll.stay s ds _ h3)
  | .obj o, _, h => by
    cases h with
    | obj h1 h2 h4 => exact .obj (s.2 _ _ h1 h2 h4).1 h2 (s.2 _ _ h1 h2 h4).2
theorem RpAll.stay {P : Addr} {A A' : Addr → Prop} {H H' : Hp} (s : Stay P A A' H H') : ∀ (ds : List D) (vs : List V), RpAll P A H vs ds → RpAll P A' H' vs ds
  | [], _, h => by cases h; exact .nil
  | d :: ds, _, h => by
    cases h with
    | cons h1 h2 => exact .cons (Rp.stay s d _ h1) (RpAll.stay s ds _ h2)
end
theorem Rp.same {P : Addr} {A : Addr → Prop} {H H' : Hp} {v : V} {d : D} (h : Rp P A H v d) (s : SameP P H H') : Rp P A H' v d :=
  Rp.stay ⟨fun a vs e n => s a _ e n, fun a vs e n q => ⟨s a _ e n, q⟩⟩ d v h
theorem RpAll.same {P : Addr} {A : Addr → Prop} {H H' : Hp} {v : List V} {d : List D} (h : RpAll P A H v d) (s : SameP P H H') : RpAll P A H' v d :=
  RpAll.stay ⟨fun a vs e n => s a _ e n, fun a vs e n q => ⟨s a _ e n, q⟩⟩ d v h
theorem Rp.imp {P : Addr} {A A' : Addr → Prop} {H : Hp} {v : V} {d : D} (h : Rp P A H v d) (s : ∀ a o, H a = some o → A a → A' a) : Rp P A' H v d :=
  Rp.stay ⟨fun a vs e n => e, fun a vs e n q => ⟨e, s a _ e q⟩⟩ d v h
theorem RpAll.imp {P : Addr} {A A' : Addr → Prop} {H : Hp} {v : List V} {d : List D} (h : RpAll P A H v d) (s : ∀ a o, H a = some o → A a → A' a) : RpAll P A' H v d :=
  RpAll.stay ⟨fun a vs e n => e, fun a vs e n q => ⟨e, s a _ e q⟩⟩ d v h

/- no list within -/
mutual
def flat : D → Bool
  | .lst _ => false
  | .obj _ => false
  | .tup ds => flatAll ds
  | _ => true
def flatAll : List D → Bool
  | [] => true
  | d :: ds => flat d && flatAll ds
end
mutual
theorem Rp.flat {P : Addr} {A A' : Addr → Prop} {H : Hp} : ∀ (d : D) (v : V), Dl.flat d = true → Rp P A H v d → Rp P A' H v d
  | .non, _, _, h => by cases h; exact .non
  | .bl _, _, _, h => by cases h; exact .bl _
  | .int _, _, _, h => by cases h; exact .int _
  | .str _, _, _, h => by cases h; exact .str _
  | .byt _, _, _, h => by cases h; exact .byt _
  | .opq _, _, _, h => by cases h; exact .opq _
  | .pen, _, _, h => by cases h; exact .pen
  | .tup ds, _, f, h => by
    cases h with
    | tup h1 h2 h3 => exact .tup h1 h2 (RpAll.flat ds _ (by simpa only [Dl.flat] using f) h3)
  | .lst ds, _, f, h => by simp only [Dl.flat] at f; cases f
  | .obj o, _, f, h => by simp only [Dl.flat] at f; cases f
theorem RpAll.flat {P : Addr} {A A' : Addr → Prop} {H : Hp} : ∀ (ds : List D) (vs : List V), flatAll ds = true → RpAll P A H vs ds → RpAll P A' H vs ds
  | [], _, _, h => by cases h; exact .nil
  | d :: ds, _, f, h => by
    simp only [flatAll, Bool.and_eq_true] at f
    cases h with
    | cons h1 h2 => exact .cons (Rp.flat d _ f.1 h1) (RpAll.flat ds _ f.2 h2)
end
theorem flatAll_iff : ∀ {ds : List D}, flatAll ds = true ↔ ∀ d ∈ ds, flat d = true
  | [] => by simp [flatAll]
  | d :: ds => by simp [flatAll, flatAll_iff (ds := ds)]
theorem flatAll_map {α : Type} {f : α → D} (h : ∀ x, flat (f x) = true) (xs : List α) : flatAll (xs.map f) = true := by
  rw [flatAll_iff]
  intro d hd
  obtain ⟨x, _, rfl⟩ := List.mem_map.mp hd
  exact h x

section
variable {P : Addr} {A : Addr → Prop} {H : Hp}
theorem RpAll.length : ∀ {vs : List V} {ds : List D}, RpAll P A H vs ds → vs.length = ds.length
  | _, _, .nil => rfl
  | _, _, .cons _ h => by simp [RpAll.length h]
theorem RpAll.get : ∀ {vs : List V} {ds : List D} {i : Nat} {d : D}, RpAll P A H vs ds → ds[i]? = some d → ∃ v, vs[i]? = some v ∧ Rp P A H v d
  | _, _, _, _, .nil, e => by simp at e
  | _, _, 0, _, .cons r _, e => by simp at e; subst e; exact ⟨_, rfl, r⟩
  | _, _, i + 1, d, .cons _ t, e => by
    obtain ⟨u, h1, h2⟩ := RpAll.get (i := i) (d := d) t (by simpa using e)
    exact ⟨u, by simpa using h1, h2⟩
theorem RpAll.get' : ∀ {vs : List V} {ds : List D} {i : Nat} {v : V}, RpAll P A H vs ds → vs[i]? = some v → ∃ d, ds[i]? = some d ∧ Rp P A H v d
  | _, _, _, _, .nil, e => by simp at e
  | _, _, 0, _, .cons r _, e => by simp at e; subst e; exact ⟨_, rfl, r⟩
  | _, _, i + 1, d, .cons _ t, e => by
    obtain ⟨u, h1, h2⟩ := RpAll.get' (i := i) (v := d) t (by simpa using e)
    exact ⟨u, by simpa using h1, h2⟩
theorem RpAll.append : ∀ {vs us : List V} {ds es : List D}, RpAll P A H vs ds → RpAll P A H us es → RpAll P A H (vs ++ us) (ds ++ es)
  | _, _, _, _, .nil, s => s
  | _, _, _, _, .cons r t, s => .cons r (RpAll.append t s)
theorem RpAll.take : ∀ {vs : List V} {ds : List D} (n : Nat), RpAll P A H vs ds → RpAll P A H (vs.take n) (ds.take n)
  | _, _, 0, _ => .nil
  | _, _, _ + 1, .nil => .nil
  | _, _, n + 1, .cons r t => .cons r (RpAll.take n t)
theorem RpAll.drop : ∀ {vs : List V} {ds : List D} (n : Nat), RpAll P A H vs ds → RpAll P A H (vs.drop n) (ds.drop n)
  | _, _, 0, r => r
  | _, _, _ + 1, .nil => .nil
  | _, _, n + 1, .cons _ t => RpAll.drop n t
theorem RpAll.set {v : V} {d : D} (r : Rp P A H v d) : ∀ {vs : List V} {ds : List D} (i : Nat), RpAll P A H vs ds → RpAll P A H (vs.set i v) (ds.set i d)
  | _, _, _, .nil => .nil
  | _, _, 0, .cons _ t => .cons r t
  | _, _, i + 1, .cons q t => .cons q (RpAll.set r i t)
theorem RpAll.reverse : ∀ {vs : List V} {ds : List D}, RpAll P A H vs ds → RpAll P A H vs.reverse ds.reverse
  | _, _, .nil => .nil
  | _, _, .cons r t => by
    rw [List.reverse_cons, List.reverse_cons]
    exact (RpAll.reverse t).append (.cons r .nil)
theorem RpAll.ints : ∀ {vs : List V} {ns : List Int}, RpAll P A H vs (ns.map D.int) → vs = ns.map V.int
  | _, [], h => by cases h; rfl
  | _, n :: ns, h => by
    rw [List.map_cons] at h
    cases h with
    | cons h1 h2 => cases h1; rw [RpAll.ints h2]; rfl
theorem RpAll.bls : ∀ {vs : List V} {ns : List Bool}, RpAll P A H vs (ns.map D.bl) → vs = ns.map V.bl
  | _, [], h => by cases h; rfl
  | _, n :: ns, h => by
    rw [List.map_cons] at h
    cases h with
    | cons h1 h2 => cases h1; rw [RpAll.bls h2]; rfl
theorem RpAll.strs : ∀ {vs : List V} {ns : List Str}, RpAll P A H vs (ns.map D.str) → vs = ns.map V.str
  | _, [], h => by cases h; rfl
  | _, n :: ns, h => by
    rw [List.map_cons] at h
    cases h with
    | cons h1 h2 => cases h1; rw [RpAll.strs h2]; rfl
theorem RpAll.of_ints : ∀ (ns : List Int), RpAll P A H (ns.map V.int) (ns.map D.int)
  | [] => .nil
  | n :: ns => .cons (.int n) (RpAll.of_ints ns)
theorem RpAll.of_strs : ∀ (ns : List Str), RpAll P A H (ns.map V.str) (ns.map D.str)
  | [] => .nil
  | n :: ns => .cons (.str n) (RpAll.of_strs ns)
theorem RpAll.of_bls : ∀ (ns : List Bool), RpAll P A H (ns.map V.bl) (ns.map D.bl)
  | [] => .nil
  | n :: ns => .cons (.bl n) (RpAll.of_bls ns)
end

/-! ### what slots hold -/
inductive SV where
  /-- data that stays -/
  | frz (d : D)
  /-- a list that this slot alone holds -/
  | own (ds : List D)
abbrev DEnv := List (Option SV)
/-- not one of the lists that slots hold alone, nor one that is under way -/
def NO (av : List Addr) (σ : L2.St) (Δ : DEnv) (a : Addr) : Prop := a ∉ av ∧ ∀ (i : Nat) (ds : List D), Δ[i]? = some (some (SV.own ds)) → σ[i]? ≠ some (some (V.ref a))
/-- the state: H0 the heap at the entry, fr what stays besides the slots, av lists under way, n how many cells were begun at most -/
structure StR (P : Addr) (H0 : Hp) (fr : List (V × D)) (av : List Addr) (n : Nat) (σ : L2.St) (Δ : DEnv) (H : Hp) : Prop where
  p0 : H0 P ≠ none
  pc : ∃ c t r, H0 P = some (.lst [.ref c, .int t, .int r]) ∧ H0 c ≠ none ∧ c ≠ P
  same : SameP P H0 H
  pen : PenOk P n H
  len : σ.length = Δ.length
  frz : ∀ (i : Nat) (d : D), Δ[i]? = some (some (SV.frz d)) → ∃ v, σ[i]? = some (some v) ∧ Rp P (NO av σ Δ) H v d
  own : ∀ (i : Nat) (ds : List D), Δ[i]? = some (some (SV.own ds)) → ∃ p vs, σ[i]? = some (some (V.ref p)) ∧ p ∉ av ∧ H0 p = none ∧ H p = some (.lst vs) ∧ RpAll P (NO av σ Δ) H vs ds
  dis : ∀ (i j : Nat) (p : Addr) (di dj : List D), Δ[i]? = some (some (SV.own di)) → Δ[j]? = some (some (SV.own dj)) → σ[i]? = some (some (V.ref p)) → σ[j]? = some (some (V.ref p)) → i = j
  gh : ∀ g ∈ fr, Rp P (NO av σ Δ) H g.1 g.2
  avn : ∀ a ∈ av, H a ≠ none
section
variable {P : Addr} {H0 : Hp} {fr : List (V × D)} {av : List Addr} {n n' : Nat} {σ : L2.St} {Δ : DEnv} {H H' : Hp}
theorem StR.mono (S : StR P H0 fr av n σ Δ H) (s : SameP P H H') (p : PenOk P n' H') : StR P H0 fr av n' σ Δ H' where
  p0 := S.p0
  pc := S.pc
  same := S.same.trans s
  pen := p
  len := S.len
  frz := fun i d e => let ⟨v, h1, h2⟩ := S.frz i d e; ⟨v, h1, h2.same s⟩
  own := fun i ds e => by
    obtain ⟨q, vs, h1, h2, h3, h4, h5⟩ := S.own i ds e
    have np : q ≠ P := fun z => S.p0 (z ▸ h3)
    exact ⟨q, vs, h1, h2, h3, s _ _ h4 np, h5.same s⟩
  dis := S.dis
  gh := fun g hg => (S.gh g hg).same s
  avn := fun a ha z => by
    by_cases hp : a = P
    · subst hp; exact p.some z
    · exact S.avn a ha (s.none z hp)
/-- a new address is none of those -/
theorem StR.no_new (S : StR P H0 fr av n σ Δ H) {p : Addr} (h : H p = none) : NO av σ Δ p :=
  ⟨fun z => S.avn p z h, fun i ds e z => by
    obtain ⟨q, vs, h1, h2, h3, h4, h5⟩ := S.own i ds e
    rw [h1] at z
    cases z
    rw [h] at h4; cases h4⟩
theorem StR.old (S : StR P H0 fr av n σ Δ H) {p : Addr} (h : H p = none) : H0 p = none :=
  S.same.none h fun z => S.pen.some (z ▸ h)
theorem StR.neP (S : StR P H0 fr av n σ Δ H) {p : Addr} (h : H p = none) : p ≠ P := fun z => S.pen.some (z ▸ h)
end

/-! ### how a value is wanted: for the moment; to stay; new since the entry; new since B -/
inductive Md where
  | bor | frz | ret | new
/-- where its lists may stand -/
def Al (m : Md) (B H0 : Hp) (av : List Addr) (σ : L2.St) (Δ : DEnv) (a : Addr) : Prop :=
  match m with
  | .bor => a ∉ av
  | .frz => NO av σ Δ a
  | .ret => a ∉ av ∧ H0 a = none
  | .new => a ∉ av ∧ B a = none
theorem Al.new {P : Addr} {H0 B : Hp} {fr : List (V × D)} {av : List Addr} {n : Nat} {σ : L2.St} {Δ : DEnv} {H : Hp} (S : StR P H0 fr av n σ Δ H) (b : SameP P B H) (m : Md) {p : Addr} (h : H p = none) : Al m B H0 av σ Δ p := by
  have h1 := S.no_new h
  cases m with
  | bor => exact h1.1
  | frz => exact h1
  | ret => exact ⟨h1.1, S.old h⟩
  | new => exact ⟨h1.1, b.none h (S.neP h)⟩

abbrev DTE := Md → DEnv → Nat → (D → Nat → Prop) → Prop
abbrev DTT := DEnv → Nat → (Bool → Nat → Prop) → Prop
abbrev DTA := Md → DEnv → Nat → (List D → Nat → Prop) → Prop
def lift (t : DTE) : TE := fun σ H Q => ∃ P H0 B fr av n Δ m Qd, StR P H0 fr av n σ Δ H ∧ SameP P B H ∧ t m Δ n Qd ∧
  ∀ v H' d n', SameP P H H' → PenOk P n' H' → Rp P (Al m B H0 av σ Δ) H' v d → Qd d n' → Q v H'
def liftT (t : DTT) : TT := fun σ H Q => ∃ P H0 fr av n Δ Qd, StR P H0 fr av n σ Δ H ∧ t Δ n Qd ∧
  ∀ b H' n', SameP P H H' → PenOk P n' H' → Qd b n' → Q b H'
def liftA (t : DTA) : TA := fun σ H Q => ∃ P H0 B fr av n Δ m Qd, StR P H0 fr av n σ Δ H ∧ SameP P B H ∧ t m Δ n Qd ∧
  ∀ vs H' ds n', SameP P H H' → PenOk P n' H' → RpAll P (Al m B H0 av σ Δ) H' vs ds → Qd ds n' → Q vs H'
abbrev DE (X : Cx) (e : Expr) (t : DTE) : Prop := PE X e (lift t)
abbrev DT (X : Cx) (e : Expr) (t : DTT) : Prop := PT X e (liftT t)
abbrev DW (X : Cx) (e : Expr) (t : DTT) : Prop := PW X e (liftT t)
abbrev DA (X : Cx) (es : List Expr) (t : DTA) : Prop := PA X es (liftA t)
theorem wkE {X : Cx} {e : Expr} {t t' : TE} (h : PE X e t) (w : ∀ σ H Q, t' σ H Q → t σ H Q) : PE X e t' := ⟨fun pins s σ H Q I q => h.run pins s σ H Q I (w σ H Q q)⟩
theorem wkT {X : Cx} {e : Expr} {t t' : TT} (h : PT X e t) (w : ∀ σ H Q, t' σ H Q → t σ H Q) : PT X e t' := ⟨fun pins s σ H Q I q => h.run pins s σ H Q I (w σ H Q q)⟩
theorem wkW {X : Cx} {e : Expr} {t t' : TT} (h : PW X e t) (w : ∀ σ H Q, t' σ H Q → t σ H Q) : PW X e t' := ⟨fun wh pins s σ H Q I q => h.run wh pins s σ H Q I (w σ H Q q)⟩
theorem wkA {X : Cx} {e : List Expr} {t t' : TA} (h : PA X e t) (w : ∀ σ H Q, t' σ H Q → t σ H Q) : PA X e t' := ⟨fun po pins s σ H Q I q => h.run po pins s σ H Q I (w σ H Q q)⟩
theorem wkS {X : Cx} {e : Stmt} {t t' : TS} (h : PS X e t) (w : ∀ D σ H, t' D σ H → t D σ H) : PS X e t' := ⟨fun pins s σ H D I q => h.run pins s σ H D I (w D σ H q)⟩
theorem wkSs {X : Cx} {e : List Stmt} {t t' : TS} (h : PSs X e t) (w : ∀ D σ H, t' D σ H → t D σ H) : PSs X e t' := ⟨fun pins s σ H D I q => h.run pins s σ H D I (w D σ H q)⟩
theorem wkI {X : Cx} {tg e : Expr} {t t' : TI} (h : PI X tg e t) (w : ∀ σ H R, t' σ H R → t σ H R) : PI X tg e t' := ⟨fun pins s σ H R I q => h.run pins s σ H R I (w σ H R q)⟩

/-- an expression within: what it is lifted from, at a state -/
theorem lift_at {t : DTE} {P : Addr} {H0 B : Hp} {fr : List (V × D)} {av : List Addr} {n : Nat} {σ : L2.St} {Δ : DEnv} {H : Hp} {Q : VK} (m : Md) {Qd : D → Nat → Prop} (S : StR P H0 fr av n σ Δ H) (b : SameP P B H) (h : t m Δ n Qd)
    (k : ∀ v H' d n', SameP P H H' → StR P H0 fr av n' σ Δ H' → Rp P (Al m B H0 av σ Δ) H' v d → Qd d n' → Q v H') : lift t σ H Q :=
  ⟨P, H0, B, fr, av, n, Δ, m, Qd, S, b, h, fun v H' d n' s p r q => k v H' d n' s (S.mono s p) r q⟩
theorem liftT_at {t : DTT} {P : Addr} {H0 : Hp} {fr : List (V × D)} {av : List Addr} {n : Nat} {σ : L2.St} {Δ : DEnv} {H : Hp} {Q : Bool → Hp → Prop} {Qd : Bool → Nat → Prop} (S : StR P H0 fr av n σ Δ H) (h : t Δ n Qd)
    (k : ∀ v H' n', SameP P H H' → StR P H0 fr av n' σ Δ H' → Qd v n' → Q v H') : liftT t σ H Q :=
  ⟨P, H0, fr, av, n, Δ, Qd, S, h, fun v H' n' s p q => k v H' n' s (S.mono s p) q⟩
theorem liftA_at {t : DTA} {P : Addr} {H0 B : Hp} {fr : List (V × D)} {av : List Addr} {n : Nat} {σ : L2.St} {Δ : DEnv} {H : Hp} {Q : List V → Hp → Prop} (m : Md) {Qd : List D → Nat → Prop} (S : StR P H0 fr av n σ Δ H) (b : SameP P B H) (h : t m Δ n Qd)
    (k : ∀ v H' d n', SameP P H H' → StR P H0 fr av n' σ Δ H' → RpAll P (Al m B H0 av σ Δ) H' v d → Qd d n' → Q v H') : liftA t σ H Q :=
  ⟨P, H0, B, fr, av, n, Δ, m, Qd, S, b, h, fun v H' d n' s p r q => k v H' d n' s (S.mono s p) r q⟩
end Dl

set_option Elab.async false
set_option linter.all false
set_option maxRecDepth 100000
set_option maxHeartbeats 1000000
namespace Dl
open PySem PySem.Spec PyProof.Rows L2

/-! ### names, constants -/
def tVarD (i : Nat) : DTE := fun m Δ n Q => match Δ[i]? with
  | some (some (.frz d)) => (match m with | .bor => Q d n | .frz => Q d n | .ret => flat d = true ∧ Q d n | .new => flat d = true ∧ Q d n)
  | some (some (.own ds)) => (match m with | .bor => Q (.lst ds) n | .ret => flatAll ds = true ∧ Q (.lst ds) n | .frz => False | .new => False)
  | _ => False
def tCD (d : D) : DTE := fun _ _ n Q => Q d n
section
variable {X : Cx}
theorem lift_var {i : Nat} {σ : L2.St} {H : Hp} {Q : VK} (h : lift (tVarD i) σ H Q) : tVar i σ H Q := by
  obtain ⟨P, H0, B, fr, av, n, Δ, m, Qd, S, b, h, k⟩ := h
  unfold tVarD at h
  split at h
  · rename_i d e
    obtain ⟨v, e1, r⟩ := S.frz _ _ e
    refine ⟨v, e1, ?_⟩
    cases m with
    | bor => exact k v H d n (SameP.refl P H) S.pen (r.imp fun a o _ z => z.1) h
    | frz => exact k v H d n (SameP.refl P H) S.pen r h
    | ret => exact k v H d n (SameP.refl P H) S.pen (Rp.flat _ _ h.1 r) h.2
    | new => exact k v H d n (SameP.refl P H) S.pen (Rp.flat _ _ h.1 r) h.2
  · rename_i ds e
    obtain ⟨p, vs, e1, e2, e3, e4, r⟩ := S.own _ _ e
    have np : p ≠ P := fun z => S.p0 (z ▸ e3)
    refine ⟨.ref p, e1, ?_⟩
    cases m with
    | bor => exact k _ H _ n (SameP.refl P H) S.pen (.lst e4 np e2 (r.imp fun a o _ z => z.1)) h
    | ret => exact k _ H _ n (SameP.refl P H) S.pen (.lst e4 np ⟨e2, e3⟩ (RpAll.flat _ _ h.1 r)) h.2
    | frz => exact h.elim
    | new => exact h.elim
  · exact h.elim
theorem dv (i : Nat) {x : Str} {pos : Pos} (hN : X.N[i]? = some x := by rfl) (hv : Vis X.env.scope x := by first | exact Or.inl rfl | exact Or.inr (Or.inl rfl) | exact Or.inr (Or.inr rfl)) (hd : (x == ("__debug__" : Str)) = false := by decide)
    (hcd : (x == ("__classdict__" : Str)) = false := by decide) : DE X (.Name x pos) (tVarD i) := wkE (pe_var hN hv hd hcd) fun σ H Q h => lift_var h
theorem lift_c {d : D} {v : V} (hf : flat d = true) (hr : ∀ P A H, Rp P A H v d) {σ : L2.St} {H : Hp} {Q : VK} (h : lift (tCD d) σ H Q) : tC v σ H Q := by
  obtain ⟨P, H0, B, fr, av, n, Δ, m, Qd, S, b, h, k⟩ := h
  exact k v H d n (SameP.refl P H) S.pen (hr _ _ _) h
theorem d_int {i j pos} : DE X (.Constant (.int i) j pos) (tCD (.int i)) := wkE pe_int fun _ _ _ h => lift_c rfl (fun _ _ _ => .int i) h
theorem d_bl {b j pos} : DE X (.Constant (.bool b) j pos) (tCD (.bl b)) := wkE pe_bl fun _ _ _ h => lift_c rfl (fun _ _ _ => .bl b) h
theorem d_non {j pos} : DE X (.Constant .none j pos) (tCD .non) := wkE pe_non fun _ _ _ h => lift_c rfl (fun _ _ _ => .non) h
theorem d_str {x j pos} : DE X (.Constant (.str x) j pos) (tCD (.str x)) := wkE pe_str fun _ _ _ h => lift_c rfl (fun _ _ _ => .str x) h
theorem d_globI {x : Str} {i : Int} {u : Value} {pos : Pos} (hg : Gl X x) (hm : X.mg x = some u) (r : RelV (.int i) u) (hd : (x == ("__debug__" : Str)) = false := by decide) : DE X (.Name x pos) (tCD (.int i)) :=
  wkE (pe_glob hg hm r hd) fun _ _ _ h => lift_c rfl (fun _ _ _ => .int i) h
theorem d_globS {x : Str} {i : Str} {u : Value} {pos : Pos} (hg : Gl X x) (hm : X.mg x = some u) (r : RelV (.str i) u) (hd : (x == ("__debug__" : Str)) = false := by decide) : DE X (.Name x pos) (tCD (.str i)) :=
  wkE (pe_glob hg hm r hd) fun _ _ _ h => lift_c rfl (fun _ _ _ => .str i) h
end

/-! ### operators by values -/
abbrev DR2 := D → D → (D → Prop) → Prop
abbrev DR1 := D → (D → Prop) → Prop
abbrev DRn := List D → (D → Prop) → Prop
def Snd2 (r : R2) (dr : DR2) : Prop := ∀ (P : Addr) (A B : Addr → Prop) (H : Hp) (x y : V) (d e : D) (Q : VK) (Qd : D → Prop), H P ≠ none → (∀ a, H a = none → A a) → Rp P B H x d → Rp P B H y e → dr d e Qd →
  (∀ v H' z, Same H H' → Rp P A H' v z → Qd z → Q v H') → r x y H Q
def Snd1 (r : V → Hp → VK → Prop) (dr : DR1) : Prop := ∀ (P : Addr) (A B : Addr → Prop) (H : Hp) (x : V) (d : D) (Q : VK) (Qd : D → Prop), H P ≠ none → (∀ a, H a = none → A a) → Rp P B H x d → dr d Qd →
  (∀ v H' z, Same H H' → Rp P A H' v z → Qd z → Q v H') → r x H Q
def SndN (r : List V → Hp → VK → Prop) (dr : DRn) : Prop := ∀ (P : Addr) (A B : Addr → Prop) (H : Hp) (xs : List V) (ds : List D) (Q : VK) (Qd : D → Prop), H P ≠ none → (∀ a, H a = none → A a) → RpAll P B H xs ds → dr ds Qd →
  (∀ v H' z, Same H H' → Rp P A H' v z → Qd z → Q v H') → r xs H Q
def tOpD (dr : DR2) (ta tb : DTE) : DTE := fun _ Δ n Q => ta .bor Δ n fun x n1 => tb .bor Δ n1 fun y n2 => dr x y fun z => Q z n2
def tUnD (dr : DR1) (ta : DTE) : DTE := fun _ Δ n Q => ta .bor Δ n fun x n1 => dr x fun z => Q z n1
def tCallN (dr : DRn) (ta : DTA) : DTE := fun _ Δ n Q => ta .bor Δ n fun xs n1 => dr xs fun z => Q z n1
def tTestD (t : DTE) : DTT := fun Δ n Q => t .bor Δ n fun z n1 => match z with | .bl b => Q b n1 | _ => False
section
variable {X : Cx} {a b c e : Expr} {ta tb tc te : DTE} {pos : Pos}
theorem lift_op {r : R2} {dr : DR2} (sn : Snd2 r dr) {σ : L2.St} {H : Hp} {Q : VK} (h : lift (tOpD dr ta tb) σ H Q) : tOp r (lift ta) (lift tb) σ H Q := by
  obtain ⟨P, H0, B, fr, av, n, Δ, m, Qd, S, b, h, k⟩ := h
  refine lift_at .bor S b h fun x H1 d n1 s1 S1 r1 q1 => ?_
  refine lift_at .bor S1 (b.trans s1) q1 fun y H2 e n2 s2 S2 r2 q2 => ?_
  refine sn P (Al m B H0 av σ Δ) _ H2 x y d e Q _ S2.pen.some (fun a ha => Al.new S2 ((b.trans s1).trans s2) m ha) (r1.same s2) r2 q2 fun v H3 z s3 rz qz => ?_
  exact k v H3 z n2 ((s1.trans s2).trans (.of s3)) (S2.pen.same s3) rz qz
theorem lift_un {r : V → Hp → VK → Prop} {dr : DR1} (sn : Snd1 r dr) {σ : L2.St} {H : Hp} {Q : VK} (h : lift (tUnD dr ta) σ H Q) : tUn r (lift ta) σ H Q := by
  obtain ⟨P, H0, B, fr, av, n, Δ, m, Qd, S, b, h, k⟩ := h
  refine lift_at .bor S b h fun x H1 d n1 s1 S1 r1 q1 => ?_
  refine sn P (Al m B H0 av σ Δ) _ H1 x d Q _ S1.pen.some (fun a ha => Al.new S1 (b.trans s1) m ha) r1 q1 fun v H3 z s3 rz qz => ?_
  exact k v H3 z n1 (s1.trans (.of s3)) (S1.pen.same s3) rz qz
theorem lift_call {r : List V → Hp → VK → Prop} {dr : DRn} {ta : DTA} (sn : SndN r dr) {σ : L2.St} {H : Hp} {Q : VK} (h : lift (tCallN dr ta) σ H Q) : tCB r (liftA ta) σ H Q := by
  obtain ⟨P, H0, B, fr, av, n, Δ, m, Qd, S, b, h, k⟩ := h
  refine liftA_at .bor S b h fun x H1 d n1 s1 S1 r1 q1 => ?_
  refine sn P (Al m B H0 av σ Δ) _ H1 x d Q _ S1.pen.some (fun a ha => Al.new S1 (b.trans s1) m ha) r1 q1 fun v H3 z s3 rz qz => ?_
  exact k v H3 z n1 (s1.trans (.of s3)) (S1.pen.same s3) rz qz
theorem d_op {op : Operator} {r : R2} {dr : DR2} (ho : OpR X (binaryOp op) r) (sn : Snd2 r dr) (ha : DE X a ta) (hb : DE X b tb) : DE X (.BinOp a op b pos) (tOpD dr ta tb) :=
  wkE (pe_op ho ha hb) fun _ _ _ h => lift_op sn h
theorem d_un {op : UnaryOp} {r : V → Hp → VK → Prop} {dr : DR1} (ho : UnR X (unaryOp op) r) (sn : Snd1 r dr) (ha : DE X a ta) : DE X (.UnaryOp op a pos) (tUnD dr ta) :=
  wkE (pe_un ho ha) fun _ _ _ h => lift_un sn h
theorem d_cmp {op : CmpOp} {r : R2} {dr : DR2} (ho : OpR X (compareOp op) r) (sn : Snd2 r dr) (ha : DE X a ta) (hb : DE X b tb) (hm : behindInMarks op b = false) : DE X (.Compare a [op] [b] pos) (tOpD dr ta tb) :=
  wkE (pe_cmpR ho ha hb hm) fun _ _ _ h => lift_op sn h
theorem lift_test {t : DTE} {σ : L2.St} {H : Hp} {Q : Bool → Hp → Prop} {te : TE} (hw : ∀ Q, lift t σ H Q → te σ H Q) (h : liftT (tTestD t) σ H Q) : tTest te σ H Q := by
  obtain ⟨P, H0, fr, av, n, Δ, Qd, S, h, k⟩ := h
  refine hw _ (lift_at (B := H) .bor S (SameP.refl P H) h fun x H1 d n1 s1 S1 r1 q1 => ?_)
  cases d with
  | bl b => cases r1; exact ⟨b, rfl, k b H1 n1 s1 S1.pen q1⟩
  | _ => exact q1.elim
theorem dt_cmp {op : CmpOp} {r : R2} {dr : DR2} (ho : OpR X (compareOp op) r) (sn : Snd2 r dr) (ha : DE X a ta) (hb : DE X b tb) (hm : behindInMarks op b = false) : DT X (.Compare a [op] [b] pos) (tTestD (tOpD dr ta tb)) :=
  wkT (pt_cmpR ho ha hb hm) fun _ _ _ h => lift_test (fun _ => lift_op sn) h
/-- two comparisons of ints -/
def tChainD (dr dr' : DR2) (ta tb tc : DTE) : DTE := fun _ Δ n Q => ta .bor Δ n fun x n1 => tb .bor Δ n1 fun y n2 => dr x y fun z => match z with
  | .bl true => tc .bor Δ n2 fun w n3 => dr' y w fun u => Q u n3
  | .bl false => Q (.bl false) n2
  | _ => False
theorem lift_chain {r r' : R2} {dr dr' : DR2} (sn : Snd2 r dr) (sn' : Snd2 r' dr') {σ : L2.St} {H : Hp} {Q : VK} (h : lift (tChainD dr dr' ta tb tc) σ H Q) : tChain r r' (lift ta) (lift tb) (lift tc) σ H Q := by
  obtain ⟨P, H0, B, fr, av, n, Δ, m, Qd, S, b, h, k⟩ := h
  refine lift_at .bor S b h fun x H1 d n1 s1 S1 r1 q1 => ?_
  refine lift_at .bor S1 (b.trans s1) q1 fun y H2 e n2 s2 S2 r2 q2 => ?_
  refine sn P (Al m B H0 av σ Δ) _ H2 x y d e _ _ S2.pen.some (fun a ha => Al.new S2 ((b.trans s1).trans s2) m ha) (r1.same s2) r2 q2 fun v H3 z s3 rz qz => ?_
  have S3 := S2.mono (.of s3) (S2.pen.same s3)
  cases z with
  | bl c =>
    cases rz
    refine ⟨c, rfl, ?_⟩
    cases c with
    | false => exact k _ H3 _ n2 ((s1.trans s2).trans (.of s3)) (S2.pen.same s3) (.bl _) qz
    | true =>
      refine lift_at .bor S3 ((b.trans s1).trans (s2.trans (.of s3))) qz fun w H4 f n4 s4 S4 r4 q4 => ?_
      refine sn' P (Al m B H0 av σ Δ) _ H4 y w e f Q _ S4.pen.some (fun a ha => Al.new S4 (((b.trans s1).trans (s2.trans (.of s3))).trans s4) m ha) (r2.same ((SameP.of s3).trans s4)) r4 q4 fun v H5 z s5 rz qz => ?_
      exact k v H5 z n4 (((s1.trans s2).trans (.of s3)).trans (s4.trans (.of s5))) (S4.pen.same s5) rz qz
  | _ => exact qz.elim
theorem d_chain {op op' : CmpOp} {r r' : R2} {dr dr' : DR2} (ho : OpR X (compareOp op) r) (sn : Snd2 r dr) (ho' : OpR X (compareOp op') r') (sn' : Snd2 r' dr') (ha : DE X a ta) (hb : DE X b tb) (hc : DE X c tc)
    (hm : lastMarks [op, op'] [b, c] = false := by with_unfolding_all rfl) : DE X (.Compare a [op, op'] [b, c] pos) (tChainD dr dr' ta tb tc) :=
  wkE (pe_chain ho ho' ha hb hc hm) fun _ _ _ h => lift_chain sn sn' h
theorem dt_chain {op op' : CmpOp} {r r' : R2} {dr dr' : DR2} (ho : OpR X (compareOp op) r) (sn : Snd2 r dr) (ho' : OpR X (compareOp op') r') (sn' : Snd2 r' dr') (ha : DE X a ta) (hb : DE X b tb) (hc : DE X c tc)
    (hm : lastMarks [op, op'] [b, c] = false := by with_unfolding_all rfl) : DT X (.Compare a [op, op'] [b, c] pos) (tTestD (tChainD dr dr' ta tb tc)) :=
  wkT (pt_chain ho ho' ha hb hc hm) fun _ _ _ h => lift_test (fun _ => lift_chain sn sn') h
/-- an expression that gives a truth, as a test -/
theorem dt_val {e : Expr} (h : DE X e te) (he : ∀ whole, isTrue e X.env whole = (do let v ← whole; standAt e.pos; holding [v] (truthy v)) := by intro _; rfl) : DT X e (tTestD te) :=
  wkT (pt_val h he) fun _ _ _ h => lift_test (fun _ h => h) h
/-! and, or, not -/
def tAndD (t u : DTT) : DTT := fun Δ n Q => t Δ n fun b n1 => if b = true then u Δ n1 Q else Q false n1
def tOrD (t u : DTT) : DTT := fun Δ n Q => t Δ n fun b n1 => if b = true then Q true n1 else u Δ n1 Q
def tNotD (t : DTT) : DTT := fun Δ n Q => t Δ n fun b n1 => Q (!b) n1
variable {tA tB' : DTT} {rest : List Expr}
theorem dw_and1 (ha : DT X a tA) : DW X (.BoolOp .And [a] pos) tA := pw_and1 ha
theorem dw_or1 (ha : DT X a tA) : DW X (.BoolOp .Or [a] pos) tA := pw_or1 ha
theorem dw_and (ha : DT X a tA) (hb : DW X (.BoolOp .And (b :: rest) pos) tB') : DW X (.BoolOp .And (a :: b :: rest) pos) (tAndD tA tB') :=
  wkW (pw_and ha hb) fun σ H Q ⟨P, H0, fr, av, n, Δ, Qd, S, h, k⟩ => liftT_at S h fun v H1 n1 s1 S1 q1 => by
    cases v with
    | true => exact liftT_at S1 q1 fun v H2 n2 s2 S2 q2 => k v H2 n2 (s1.trans s2) S2.pen q2
    | false => exact k false H1 n1 s1 S1.pen q1
theorem dw_or (ha : DT X a tA) (hb : DW X (.BoolOp .Or (b :: rest) pos) tB') : DW X (.BoolOp .Or (a :: b :: rest) pos) (tOrD tA tB') :=
  wkW (pw_or ha hb) fun σ H Q ⟨P, H0, fr, av, n, Δ, Qd, S, h, k⟩ => liftT_at S h fun v H1 n1 s1 S1 q1 => by
    cases v with
    | false => exact liftT_at S1 q1 fun v H2 n2 s2 S2 q2 => k v H2 n2 (s1.trans s2) S2.pen q2
    | true => exact k true H1 n1 s1 S1.pen q1
theorem dt_not (ha : DT X a tA) : DT X (.UnaryOp .Not a pos) (tNotD tA) :=
  wkT (pt_not ha) fun σ H Q ⟨P, H0, fr, av, n, Δ, Qd, S, h, k⟩ => liftT_at S h fun v H1 n1 s1 S1 q1 => k (!v) H1 n1 s1 S1.pen q1
/-- .. as values -/
def tAndVD (ta tb : DTE) : DTE := fun m Δ n Q => ta .bor Δ n fun x n1 => match x with | .bl true => tb m Δ n1 Q | .bl false => Q (.bl false) n1 | _ => False
def tOrVD (ta tb : DTE) : DTE := fun m Δ n Q => ta .bor Δ n fun x n1 => match x with | .bl true => Q (.bl true) n1 | .bl false => tb m Δ n1 Q | _ => False
def tNotVD (ta : DTE) : DTE := fun m Δ n Q => ta .bor Δ n fun x n1 => match x with | .bl b => Q (.bl (!b)) n1 | _ => False
theorem d_one {op} (h : DE X a ta) : DE X (.BoolOp op [a] pos) ta := pe_one h
theorem d_and (ha : DE X a ta) (hb : DE X (.BoolOp .And (b :: rest) pos) tb) : DE X (.BoolOp .And (a :: b :: rest) pos) (tAndVD ta tb) :=
  wkE (pe_and ha hb) fun σ H Q ⟨P, H0, B, fr, av, n, Δ, m, Qd, S, bb, h, k⟩ => lift_at .bor S bb h fun v H1 d n1 s1 S1 r1 q1 => by
    cases d with
    | bl c =>
      cases r1
      cases c with
      | true => exact ⟨true, rfl, lift_at m S1 (bb.trans s1) q1 fun v H2 d n2 s2 S2 r2 q2 => k v H2 d n2 (s1.trans s2) S2.pen r2 q2⟩
      | false => exact ⟨false, rfl, k _ H1 _ n1 s1 S1.pen (.bl _) q1⟩
    | _ => exact q1.elim
theorem d_or (ha : DE X a ta) (hb : DE X (.BoolOp .Or (b :: rest) pos) tb) : DE X (.BoolOp .Or (a :: b :: rest) pos) (tOrVD ta tb) :=
  wkE (pe_or ha hb) fun σ H Q ⟨P, H0, B, fr, av, n, Δ, m, Qd, S, bb, h, k⟩ => lift_at .bor S bb h fun v H1 d n1 s1 S1 r1 q1 => by
    cases d with
    | bl c =>
      cases r1
      cases c with
      | false => exact ⟨false, rfl, lift_at m S1 (bb.trans s1) q1 fun v H2 d n2 s2 S2 r2 q2 => k v H2 d n2 (s1.trans s2) S2.pen r2 q2⟩
      | true => exact ⟨true, rfl, k _ H1 _ n1 s1 S1.pen (.bl _) q1⟩
    | _ => exact q1.elim
theorem d_not (ha : DE X a ta) : DE X (.UnaryOp .Not a pos) (tNotVD ta) :=
  wkE (pe_not ha) fun σ H Q ⟨P, H0, B, fr, av, n, Δ, m, Qd, S, bb, h, k⟩ => lift_at .bor S bb h fun v H1 d n1 s1 S1 r1 q1 => by
    cases d with
    | bl c => cases r1; exact ⟨c, rfl, k _ H1 _ n1 s1 S1.pen (.bl _) q1⟩
    | _ => exact q1.elim
def tIfD (t : DTT) (ta tb : DTE) : DTE := fun m Δ n Q => t Δ n fun b n1 => if b = true then ta m Δ n1 Q else tb m Δ n1 Q
theorem d_if (hc : DT X c tA) (ha : DE X a ta) (hb : DE X b tb) : DE X (.IfExp c a b pos) (tIfD tA ta tb) :=
  wkE (pe_ifExp hc ha hb) fun σ H Q ⟨P, H0, B, fr, av, n, Δ, m, Qd, S, bb, h, k⟩ => liftT_at S h fun v H1 n1 s1 S1 q1 => by
    cases v with
    | true => exact lift_at m S1 (bb.trans s1) q1 fun v H2 d n2 s2 S2 r2 q2 => k v H2 d n2 (s1.trans s2) S2.pen r2 q2
    | false => exact lift_at m S1 (bb.trans s1) q1 fun v H2 d n2 s2 S2 r2 q2 => k v H2 d n2 (s1.trans s2) S2.pen r2 q2
/-! arguments, displays -/
def tNilD : DTA := fun _ _ n Q => Q [] n
def tConsD (ta : DTE) (tr : DTA) : DTA := fun m Δ n Q => ta m Δ n fun x n1 => tr m Δ n1 fun xs n2 => Q (x :: xs) n2
theorem da_nil : DA X [] tNilD := wkA pa_nil fun σ H Q ⟨P, H0, B, fr, av, n, Δ, m, Qd, S, bb, h, k⟩ => k [] H [] n (SameP.refl P H) S.pen .nil h
theorem da_cons {es : List Expr} {tr : DTA} (ha : DE X a ta) (hr : DA X es tr) (hst : starEach (a :: es) X.env = (false, eval a X.env) :: starEach es X.env := by rfl) : DA X (a :: es) (tConsD ta tr) :=
  wkA (pa_cons ha hr hst) fun σ H Q ⟨P, H0, B, fr, av, n, Δ, m, Qd, S, bb, h, k⟩ => lift_at m S bb h fun v H1 d n1 s1 S1 r1 q1 =>
    liftA_at m S1 (bb.trans s1) q1 fun vs H2 ds n2 s2 S2 r2 q2 => k _ H2 _ n2 (s1.trans s2) S2.pen (.cons (r1.same s2) r2) q2
def tTupD (t : DTA) : DTE := fun m Δ n Q => t m Δ n fun ds n1 => ds.length ≤ sizeLine ∧ Q (.tup ds) n1
def tLstD (t : DTA) : DTE := fun m Δ n Q => t m Δ n fun ds n1 => ds.length ≤ sizeLine ∧ Q (.lst ds) n1
theorem rp_upd {P p : Addr} {A A' : Addr → Prop} {H : Hp} {o : HO} (hp : H p = none) (ha : ∀ a o, H a = some o → A a → A' a) {vs : List V} {ds : List D} (r : RpAll P A H vs ds) : RpAll P A' (upd H p o) vs ds :=
  RpAll.stay ⟨fun a vs e n => by rw [upd_ne (ne_of_none e hp)]; exact e, fun a vs e n z => ⟨by rw [upd_ne (ne_of_none e hp)]; exact e, ha a _ e z⟩⟩ _ _ r
theorem lift_tup {es : List Expr} {t : DTA} {σ : L2.St} {H : Hp} {Q : VK} (h : lift (tTupD t) σ H Q) : tTup (liftA t) σ H Q := by
  obtain ⟨P, H0, B, fr, av, n, Δ, m, Qd, S, bb, h, k⟩ := h
  refine liftA_at m S bb h fun vs H1 ds n1 s1 S1 r1 q1 => ⟨by rw [r1.length]; exact q1.1, fun p hp => ?_⟩
  exact k _ _ _ n1 (s1.trans (SameP.new hp)) (S1.pen.same (same_new hp)) (.tup upd_same (S1.neP hp) (rp_upd hp (fun _ _ _ z => z) r1)) q1.2
theorem lift_lst {es : List Expr} {t : DTA} {σ : L2.St} {H : Hp} {Q : VK} (h : lift (tLstD t) σ H Q) : tLst (liftA t) σ H Q := by
  obtain ⟨P, H0, B, fr, av, n, Δ, m, Qd, S, bb, h, k⟩ := h
  refine liftA_at m S bb h fun vs H1 ds n1 s1 S1 r1 q1 => ⟨by rw [r1.length]; exact q1.1, fun p hp => ?_⟩
  exact k _ _ _ n1 (s1.trans (SameP.new hp)) (S1.pen.same (same_new hp)) (.lst upd_same (S1.neP hp) (Al.new S1 (bb.trans s1) m hp) (rp_upd hp (fun _ _ _ z => z) r1)) q1.2
theorem d_tup {es : List Expr} {t : DTA} {x1} (h : DA X es t) : DE X (.Tuple es x1 pos) (tTupD t) := wkE (pe_tup h) fun _ _ _ h => lift_tup (es := es) h
theorem d_lst {es : List Expr} {t : DTA} (h : DA X es t) : DE X (.List es pos) (tLstD t) := wkE (pe_lst h) fun _ _ _ h => lift_lst (es := es) h
/-! built-ins by their names -/
theorem d_callB {id : String} {x : Str} {p : Pos} {es : List Expr} {r : List V → Hp → VK → Prop} {dr : DRn} {t : DTA} (hc : CallR X (.builtin id) r) (sn : SndN r dr) (hg : Gl X x) (hm : X.mg x = none) (hv : bootBuiltins x = some (.builtin id)) (ha : DA X (e :: es) t)
    (hn : x ≠ "__name__" := by decide) (hdb : (x == ("__debug__" : Str)) = false := by decide)
    (he : starEach (e :: es) X.env = (false, eval e X.env) :: starEach es X.env := by rfl) (hpl : (backTo pos (starEach es X.env)).any (·.1) = false := by rfl) :
    DE X (.Call (.Name x p) (e :: es) [] pos) (tCallN dr t) := wkE (pe_callB hc hg hm hv ha hn hdb he hpl) fun _ _ _ h => lift_call sn h
theorem d_callTy {T : String} {x : Str} {p : Pos} {es : List Expr} {r : List V → Hp → VK → Prop} {dr : DRn} {t : DTA} (hc : CallR X (.type T) r) (sn : SndN r dr) (hg : Gl X x) (hm : X.mg x = none) (hv : bootBuiltins x = some (.type T)) (ha : DA X (e :: es) t)
    (hn : x ≠ "__name__" := by decide) (hdb : (x == ("__debug__" : Str)) = false := by decide)
    (he : starEach (e :: es) X.env = (false, eval e X.env) :: starEach es X.env := by rfl) (hpl : (backTo pos (starEach es X.env)).any (·.1) = false := by rfl) :
    DE X (.Call (.Name x p) (e :: es) [] pos) (tCallN dr t) := wkE (pe_callTy hc hg hm hv ha hn hdb he hpl) fun _ _ _ h => lift_call sn h
end
end Dl

set_option Elab.async false
set_option linter.all false
set_option maxRecDepth 100000
set_option maxHeartbeats 1000000
namespace Dl
open PySem PySem.Spec PyProof.Rows L2

/-! ### ints -/
def drI (C : Int → Int → Prop) (g : Int → Int → Int) : DR2 := fun x y Q => match x, y with | .int i, .int j => C i j ∧ Q (.int (g i j)) | _, _ => False
def drI0 (g : Int → Int → Int) : DR2 := fun x y Q => match x, y with | .int i, .int j => Q (.int (g i j)) | _, _ => False
def drB0 (g : Int → Int → Bool) : DR2 := fun x y Q => match x, y with | .int i, .int j => Q (.bl (g i j)) | _, _ => False
theorem sn_I {C : Int → Int → Prop} {g : Int → Int → Int} : Snd2 (rI C fun i j => .int (g i j)) (drI C g) := fun P A B H x y d e Q Qd p0 nA rx ry h k => by
  cases d <;> cases e <;> first | exact h.elim | skip
  cases rx
  cases ry
  exact ⟨_, _, rfl, rfl, h.1, k _ H _ (Same.refl H) (.int _) h.2⟩
theorem sn_I0 {g : Int → Int → Int} : Snd2 (rI0 fun i j => .int (g i j)) (drI0 g) := fun P A B H x y d e Q Qd p0 nA rx ry h k => by
  cases d <;> cases e <;> first | exact h.elim | skip
  cases rx
  cases ry
  exact ⟨_, _, rfl, rfl, k _ H _ (Same.refl H) (.int _) h⟩
theorem sn_B0 {g : Int → Int → Bool} : Snd2 (rI0 fun i j => .bl (g i j)) (drB0 g) := fun P A B H x y d e Q Qd p0 nA rx ry h k => by
  cases d <;> cases e <;> first | exact h.elim | skip
  cases rx
  cases ry
  exact ⟨_, _, rfl, rfl, k _ H _ (Same.refl H) (.bl _) h⟩
def drNeg : DR1 := fun x Q => match x with | .int i => Q (.int (-i)) | _ => False
theorem sn_neg : Snd1 (rU fun i => .int (-i)) drNeg := fun P A B H x d Q Qd p0 nA rx h k => by
  cases d <;> first | exact h.elim | skip
  cases rx
  exact ⟨_, rfl, k _ H _ (Same.refl H) (.int _) h⟩
/-! ### texts, lists, tuples: + * -/
def drAddS : DR2 := fun x y Q => match x, y with | .str i, .str j => i.length + j.length ≤ sizeLine ∧ Q (.str (i ++ j)) | _, _ => False
theorem sn_addS : Snd2 (fun x y H Q => ∃ i j, x = .str i ∧ y = .str j ∧ i.length + j.length ≤ sizeLine ∧ Q (.str (i ++ j)) H) drAddS := fun P A B H x y d e Q Qd p0 nA rx ry h k => by
  cases d <;> cases e <;> first | exact h.elim | skip
  cases rx
  cases ry
  exact ⟨_, _, rfl, rfl, h.1, k _ H _ (Same.refl H) (.str _) h.2⟩
theorem ne_P {P p : Addr} {H : Hp} (p0 : H P ≠ none) (hp : H p = none) : p ≠ P := fun z => p0 (z ▸ hp)
def drCatL : DR2 := fun x y Q => match x, y with | .lst i, .lst j => i.length + j.length ≤ sizeLine ∧ flatAll i = true ∧ flatAll j = true ∧ Q (.lst (i ++ j)) | _, _ => False
theorem sn_catL : Snd2 rCat drCatL := fun P A B H x y d e Q Qd p0 nA rx ry h k => by
  cases d <;> cases e <;> first | exact h.elim | skip
  cases rx with
  | lst h1 h2 h3 r1 =>
    cases ry with
    | lst h4 h5 h6 r2 =>
      refine ⟨_, _, _, _, rfl, rfl, h1, h4, by rw [r1.length, r2.length]; exact h.1, fun p hp => ?_⟩
      exact k _ _ _ (same_new hp) (.lst upd_same (ne_P p0 hp) (nA p hp) (rp_upd hp (fun _ _ _ z => z) ((RpAll.flat _ _ h.2.1 r1).append (RpAll.flat _ _ h.2.2.1 r2)))) h.2.2.2
def drCatT : DR2 := fun x y Q => match x, y with | .tup i, .tup j => i.length + j.length ≤ sizeLine ∧ flatAll i = true ∧ flatAll j = true ∧ Q (.tup (i ++ j)) | _, _ => False
theorem sn_catT {K : PySem.W.Frag} : Snd2 (rCatA K) drCatT := fun P A B H x y d e Q Qd p0 nA rx ry h k => by
  cases d <;> cases e <;> first | exact h.elim | skip
  cases rx with
  | tup h1 h2 r1 =>
    cases ry with
    | tup h4 h5 r2 =>
      have f1 : RpAll P A H _ _ := RpAll.flat _ _ h.2.1 r1
      have f2 : RpAll P A H _ _ := RpAll.flat _ _ h.2.2.1 r2
      refine ⟨_, _, _, _, rfl, rfl, SqT.of h1, SqT.of h4, by rw [r1.length, r2.length]; exact h.1, fun e => ?_, fun _ e => ?_, fun _ _ p hp => ?_⟩
      · subst e
        cases r1
        exact k _ _ _ (Same.refl H) (.tup h4 h5 f2) h.2.2.2
      · subst e
        cases r2
        have q := h.2.2.2
        rw [List.append_nil] at q
        exact k _ _ _ (Same.refl H) (.tup h1 h2 f1) q
      · exact k _ _ _ (same_new hp) (.tup upd_same (ne_P p0 hp) (rp_upd hp (fun _ _ _ z => z) (f1.append f2))) h.2.2.2
def drRep : DR2 := fun x y Q => match x, y with | .lst i, .int j => -(2 ^ 63) ≤ j ∧ j < 2 ^ 63 ∧ i.length * j.toNat ≤ sizeLine ∧ flatAll i = true ∧ Q (.lst (List.replicate j.toNat i).flatten) | _, _ => False
theorem RpAll.rep {P : Addr} {A : Addr → Prop} {H : Hp} {vs : List V} {ds : List D} (r : RpAll P A H vs ds) : ∀ n : Nat, RpAll P A H (List.replicate n vs).flatten (List.replicate n ds).flatten
  | 0 => .nil
  | n + 1 => by
    rw [List.replicate_succ, List.replicate_succ, List.flatten_cons, List.flatten_cons]
    exact r.append (RpAll.rep r n)
theorem sn_rep : Snd2 rRep drRep := fun P A B H x y d e Q Qd p0 nA rx ry h k => by
  cases d <;> cases e <;> first | exact h.elim | skip
  cases rx with
  | lst h1 h2 h3 r1 =>
    cases ry
    refine ⟨_, _, _, rfl, rfl, h1, h.1, h.2.1, by rw [r1.length]; exact h.2.2.1, fun p hp => ?_⟩
    exact k _ _ _ (same_new hp) (.lst upd_same (ne_P p0 hp) (nA p hp) (rp_upd hp (fun _ _ _ z => z) ((RpAll.flat _ _ h.2.2.2.1 r1).rep _))) h.2.2.2.2
/-! ### == != -/
mutual
def toPy : D → PyData
  | .non => .none
  | .bl b => .bool b
  | .int i => .int i
  | .str x => .str x
  | .tup ds => .tuple (toPys ds)
  | .lst ds => .list (toPys ds)
  | _ => .none
def toPys : List D → List PyData
  | [] => []
  | d :: ds => toPy d :: toPys ds
end
mutual
def pyb : D → Bool
  | .byt _ => false
  | .pen => false
  | .obj _ => false
  | .opq _ => false
  | .tup ds => pybs ds
  | .lst ds => pybs ds
  | _ => true
def pybs : List D → Bool
  | [] => true
  | d :: ds => pyb d && pybs ds
end
mutual
theorem Rp.dp {K : PySem.W.Frag} {P : Addr} {A : Addr → Prop} {H : Hp} : ∀ (d : D) (v : V), pyb d = true → Rp P A H v d → Dp K H v (toPy d)
  | .non, _, _, h => by cases h; simp only [toPy]; exact .non
  | .bl _, _, _, h => by cases h; simp only [toPy]; exact .bl _
  | .int _, _, _, h => by cases h; simp only [toPy]; exact .int _
  | .str _, _, _, h => by cases h; simp only [toPy]; exact .str _
  | .byt _, _, f, h => by simp [pyb] at f
  | .opq _, _, f, h => by simp [pyb] at f
  | .pen, _, f, h => by simp [pyb] at f
  | .obj o, _, f, h => by simp [pyb] at f
  | .tup ds, _, f, h => by
    simp only [pyb] at f
    cases h with
    | tup h1 h2 h3 => simp only [toPy]; exact .tup (SqT.of h1) (RpAll.dp ds _ f h3)
  | .lst ds, _, f, h => by
    simp only [pyb] at f
    cases h with
    | lst h1 h2 h4 h3 => simp only [toPy]; exact .lst (SqL.of h1) (RpAll.dp ds _ f h3)
theorem RpAll.dp {K : PySem.W.Frag} {P : Addr} {A : Addr → Prop} {H : Hp} : ∀ (ds : List D) (vs : List V), pybs ds = true → RpAll P A H vs ds → DpAll K H vs (toPys ds)
  | [], _, _, h => by cases h; simp only [toPys]; exact .nil
  | d :: ds, _, f, h => by
    simp only [pybs, Bool.and_eq_true] at f
    cases h with
    | cons h1 h2 => simp only [toPys]; exact .cons (Rp.dp d _ f.1 h1) (RpAll.dp ds _ f.2 h2)
end
def eqS : D → D → Option Bool
  | .int i, .int j => some (decide (i = j))
  | .str i, .str j => some (decide (i = j))
  | .bl i, .bl j => some (decide (i = j))
  | .non, .non => some true
  | .non, .int _ => some false
  | .int _, .non => some false
  | .byt i, .byt j => some (decide (i = j))
  | _, _ => none
/-- what == compares as data -/
def shp (d : D) : Prop := pyb d = true ∧ SeqAt.shaped (toPy d) = true
def drEq : DR2 := fun x y Q => match eqS x y with
  | some b => Q (.bl b)
  | none => shp x ∧ shp y ∧ Q (.bl (PyData.eqv (toPy x) (toPy y)))
def drNe : DR2 := fun x y Q => match eqS x y with
  | some b => Q (.bl (!b))
  | none => shp x ∧ shp y ∧ Q (.bl (!PyData.eqv (toPy x) (toPy y)))
theorem eqS_V {P : Addr} {B : Addr → Prop} {H : Hp} {x y : V} {d e : D} {b : Bool} (rx : Rp P B H x d) (ry : Rp P B H y e) (h : eqS d e = some b) : scal x y = true ∧ decide (x = y) = b := by
  unfold eqS at h
  split at h <;> first | (cases h; done) | skip
  all_goals (cases rx; cases ry; simp only [Option.some.injEq] at h; subst h; refine ⟨rfl, ?_⟩; simp)
theorem sn_eq {K : PySem.W.Frag} : Snd2 (fun x y H Q => rEq x y H Q ∨ rEqD K x y H Q) drEq := fun P A B H x y d e Q Qd p0 nA rx ry h k => by
  unfold drEq at h
  split at h
  · rename_i b hb
    obtain ⟨h1, h2⟩ := eqS_V rx ry hb
    exact .inl ⟨h1, by rw [h2]; exact k _ H _ (Same.refl H) (.bl _) h⟩
  · exact .inr ⟨_, _, Rp.dp d x h.1.1 rx, Rp.dp e y h.2.1.1 ry, h.1.2, h.2.1.2, k _ H _ (Same.refl H) (.bl _) h.2.2⟩
theorem sn_ne {K : PySem.W.Frag} : Snd2 (fun x y H Q => rNe x y H Q ∨ rNeD K x y H Q) drNe := fun P A B H x y d e Q Qd p0 nA rx ry h k => by
  unfold drNe at h
  split at h
  · rename_i b hb
    obtain ⟨h1, h2⟩ := eqS_V rx ry hb
    exact .inl ⟨h1, by rw [h2]; exact k _ H _ (Same.refl H) (.bl _) h⟩
  · exact .inr ⟨_, _, Rp.dp d x h.1.1 rx, Rp.dp e y h.2.1.1 ry, h.1.2, h.2.1.2, k _ H _ (Same.refl H) (.bl _) h.2.2⟩
theorem op_eqU {X : Cx} (hu : X.A.units + 64 < cLine) : OpR X (compareOp .Eq) (fun x y H Q => rEq x y H Q ∨ rEqD X.K x y H Q) := op_eq.or (op_eqD hu)
theorem op_neU {X : Cx} (hu : X.A.units + 64 < cLine) : OpR X (compareOp .NotEq) (fun x y H Q => rNe x y H Q ∨ rNeD X.K x y H Q) := op_ne.or (op_neD hu)
/-! ### is None -/
def isNonD : D → Option Bool
  | .non => some true
  | .opq _ => none
  | _ => some false
def drIsN : DR2 := fun x y Q => match y, isNonD x with | .non, some b => Q (.bl b) | _, _ => False
def drNotN : DR2 := fun x y Q => match y, isNonD x with | .non, some b => Q (.bl (!b)) | _, _ => False
theorem isNon_V {P : Addr} {B : Addr → Prop} {H : Hp} {x : V} {d : D} {b : Bool} (rx : Rp P B H x d) (h : isNonD d = some b) : decide (x = .non) = b := by
  cases rx <;> simp [isNonD] at h <;> subst h <;> simp
theorem sn_isN : Snd2 (fun x y H Q => y = .non ∧ Q (.bl (decide (x = .non))) H) drIsN := fun P A B H x y d e Q Qd p0 nA rx ry h k => by
  unfold drIsN at h
  split at h
  · rename_i b hb
    cases ry
    exact ⟨rfl, by rw [isNon_V rx hb]; exact k _ H _ (Same.refl H) (.bl _) h⟩
  · exact h.elim
theorem sn_notN : Snd2 (fun x y H Q => y = .non ∧ Q (.bl (!decide (x = .non))) H) drNotN := fun P A B H x y d e Q Qd p0 nA rx ry h k => by
  unfold drNotN at h
  split at h
  · rename_i b hb
    cases ry
    exact ⟨rfl, by rw [isNon_V rx hb]; exact k _ H _ (Same.refl H) (.bl _) h⟩
  · exact h.elim
/-! ### in, not in -/
def scD : D → Bool
  | .non => true
  | .bl _ => true
  | .int _ => true
  | .str _ => true
  | _ => false
def eqD : D → D → Bool
  | .non, .non => true
  | .bl a, .bl b => a == b
  | .bl a, .int b => (if a then 1 else 0) == b
  | .int a, .bl b => a == (if b then 1 else 0)
  | .int a, .int b => a == b
  | .str a, .str b => a == b
  | _, _ => false
def inD (x : D) (ds : List D) : Bool := ds.any fun y => eqD y x
def seqOf : D → Option (List D)
  | .lst ds => some ds
  | .tup ds => some ds
  | _ => none
theorem sc_V {P : Addr} {B : Addr → Prop} {H : Hp} {x : V} {d : D} (r : Rp P B H x d) (h : scD d = true) : flatV x = true := by
  cases r <;> first | rfl | simp [scD] at h
theorem eqD_V {P : Addr} {B : Addr → Prop} {H : Hp} {x y : V} {d e : D} (rx : Rp P B H x d) (ry : Rp P B H y e) (h1 : scD d = true) (h2 : scD e = true) : eqV x y = eqD d e := by
  cases rx <;> first | (simp [scD] at h1; done) | skip
  all_goals (cases ry <;> first | rfl | (simp [scD] at h2; done))
theorem inD_V {P : Addr} {B : Addr → Prop} {H : Hp} {x : V} {d : D} (rx : Rp P B H x d) (h1 : scD d = true) : ∀ {vs : List V} {ds : List D}, RpAll P B H vs ds → ds.all scD = true → vs.all flatV = true ∧ inV x vs = inD d ds
  | _, _, .nil, _ => ⟨rfl, rfl⟩
  | v :: vs, e :: es, .cons r t, h => by
    rw [List.all_cons, Bool.and_eq_true] at h
    obtain ⟨a, b⟩ := inD_V rx h1 t h.2
    refine ⟨by rw [List.all_cons, sc_V r h.1, a]; rfl, ?_⟩
    show (eqV v x || inV x vs) = (eqD e d || inD d es)
    rw [eqD_V r rx h.1 h1, b]
def drIn (neg : Bool) : DR2 := fun x y Q => ∃ ds, seqOf y = some ds ∧ scD x = true ∧ ds.all scD = true ∧ Q (.bl (if neg then !inD x ds else inD x ds))
theorem sn_in {K : PySem.W.Frag} {neg : Bool} : Snd2 (rIn K neg) (drIn neg) := fun P A B H x y d e Q Qd p0 nA rx ry h k => by
  obtain ⟨ds, e1, h1, h2, h⟩ := h
  cases e <;> first | (cases e1; done) | skip
  · cases e1
    cases ry with
    | tup a1 a2 r =>
      obtain ⟨f, i⟩ := inD_V rx h1 r h2
      exact ⟨_, _, rfl, .inr (SqT.of a1), sc_V rx h1, f, by rw [i]; exact k _ H _ (Same.refl H) (.bl _) h⟩
  · cases e1
    cases ry with
    | lst a1 a2 a3 r =>
      obtain ⟨f, i⟩ := inD_V rx h1 r h2
      exact ⟨_, _, rfl, .inl (SqL.of a1), sc_V rx h1, f, by rw [i]; exact k _ H _ (Same.refl H) (.bl _) h⟩
theorem inD_ints (i : Int) : ∀ ns : List Int, inD (.int i) (ns.map D.int) = decide (i ∈ ns)
  | [] => rfl
  | n :: ns => by
    show ((n == i) || inD (.int i) (ns.map D.int)) = decide (i ∈ n :: ns)
    rw [inD_ints i ns, Bool.eq_iff_iff]
    simp only [List.mem_cons, Bool.or_eq_true, beq_iff_eq, decide_eq_true_eq]
    exact ⟨fun h => h.elim (fun h => .inl h.symm) .inr, fun h => h.elim (fun h => .inl h.symm) .inr⟩
theorem sc_ints : ∀ ns : List Int, (ns.map D.int).all scD = true
  | [] => rfl
  | n :: ns => by rw [List.map_cons, List.all_cons, sc_ints ns]; rfl
theorem flat_ints (ns : List Int) : flatAll (ns.map D.int) = true := flatAll_map (fun _ => rfl) ns
/-! ### x[i], x[a:b] -/
theorem RpAll.atI {P : Addr} {A : Addr → Prop} {H : Hp} {vs : List V} {ds : List D} {i : Int} {d : D} (r : RpAll P A H vs ds) (h : L2.atI ds i = some d) : ∃ v, L2.atI vs i = some v ∧ Rp P A H v d := by
  unfold L2.atI at h ⊢
  rw [r.length]
  cases e : ixN ds.length i with
  | none => rw [e] at h; cases h
  | some j =>
    rw [e] at h
    exact r.get h
def drIx : DR2 := fun x y Q => match x, y with
  | .lst xs, .int i => ∃ d, atI xs i = some d ∧ flat d = true ∧ Q d
  | .tup xs, .int i => ∃ d, atI xs i = some d ∧ flat d = true ∧ Q d
  | .str z, .int i => ∃ c, z.length ≤ sizeLine ∧ atI z.cps.toList i = some c ∧ Q (.str ⟨#[c]⟩)
  | _, _ => False
theorem sn_ix {K : PySem.W.Frag} : Snd2 (rIx K) drIx := fun P A B H x y d e Q Qd p0 nA rx ry h k => by
  cases d <;> cases e <;> first | exact h.elim | skip
  · cases rx
    cases ry
    obtain ⟨c, h1, h2, q⟩ := h
    exact .inr (.inr ⟨_, _, c, rfl, rfl, h1, h2, k _ H _ (Same.refl H) (.str _) q⟩)
  · obtain ⟨d, h1, h2, q⟩ := h
    cases ry
    cases rx with
    | tup a1 a2 r =>
      obtain ⟨v, e1, e2⟩ := r.atI h1
      exact .inr (.inl ⟨_, _, _, v, rfl, rfl, SqT.of a1, e1, k _ H _ (Same.refl H) (Rp.flat _ _ h2 e2) q⟩)
  · obtain ⟨d, h1, h2, q⟩ := h
    cases ry
    cases rx with
    | lst a1 a2 a3 r =>
      obtain ⟨v, e1, e2⟩ := r.atI h1
      exact .inl ⟨_, _, _, v, rfl, rfl, SqL.of a1, e1, k _ H _ (Same.refl H) (Rp.flat _ _ h2 e2) q⟩
section
variable {X : Cx} {a b c e : Expr} {ta tb tc te : DTE} {pos : Pos}
theorem d_ix (ha : DE X a ta) (hb : DE X b tb) (hs : PlainIx b) : DE X (.Subscript a b pos) (tOpD drIx ta tb) :=
  wkE (pe_ix ix_seq ha hb hs) fun _ _ _ h => lift_op sn_ix h
abbrev DTO := DEnv → Nat → (Option Int → Nat → Prop) → Prop
def liftO (t : DTO) : TO := fun σ H Q => ∃ P H0 fr av n Δ Qd, StR P H0 fr av n σ Δ H ∧ t Δ n Qd ∧ ∀ b H' n', SameP P H H' → PenOk P n' H' → Qd b n' → Q b H'
abbrev DO (X : Cx) (e : Option Expr) (t : DTO) : Prop := PO X e (liftO t)
def tNoPartD : DTO := fun _ n Q => Q none n
def tPartD (t : DTE) : DTO := fun Δ n Q => t .bor Δ n fun x n1 => match x with | .int i => Q (some i) n1 | _ => False
theorem wkO {e : Option Expr} {t t' : TO} (h : PO X e t) (w : ∀ σ H Q, t' σ H Q → t σ H Q) : PO X e t' := ⟨fun pins s σ H Q I q => h.run pins s σ H Q I (w σ H Q q)⟩
theorem do_none : DO X none tNoPartD := wkO po_none fun σ H Q ⟨P, H0, fr, av, n, Δ, Qd, S, h, k⟩ => k none H n (SameP.refl P H) S.pen h
theorem do_some (h : DE X e te) : DO X (some e) (tPartD te) := wkO (po_some h) fun σ H Q ⟨P, H0, fr, av, n, Δ, Qd, S, h, k⟩ => lift_at (B := H) .bor S (SameP.refl P H) h fun v H1 d n1 s1 S1 r1 q1 => by
  cases d <;> first | exact q1.elim | skip
  cases r1
  exact ⟨_, rfl, k _ H1 n1 s1 S1.pen q1⟩
theorem liftO_at {t : DTO} {P : Addr} {H0 : Hp} {fr : List (V × D)} {av : List Addr} {n : Nat} {σ : L2.St} {Δ : DEnv} {H : Hp} {Q : Option Int → Hp → Prop} {Qd : Option Int → Nat → Prop} (S : StR P H0 fr av n σ Δ H) (h : t Δ n Qd)
    (k : ∀ v H' n', SameP P H H' → StR P H0 fr av n' σ Δ H' → Qd v n' → Q v H') : liftO t σ H Q :=
  ⟨P, H0, fr, av, n, Δ, Qd, S, h, fun v H' n' s p q => k v H' n' s (S.mono s p) q⟩
def cutL {α : Type} (xs : List α) (lo hi : Option Int) : List α := (xs.drop (HT.sIx xs.length 0 lo)).take (HT.sIx xs.length xs.length hi - HT.sIx xs.length 0 lo)
theorem RpAll.cut {P : Addr} {A : Addr → Prop} {H : Hp} {vs : List V} {ds : List D} (r : RpAll P A H vs ds) (lo hi : Option Int) : RpAll P A H (cutV vs lo hi) (cutL ds lo hi) := by
  unfold cutV cutL
  rw [r.length]
  exact (r.drop _).take _
def tSlD (te : DTE) (tl th : DTO) : DTE := fun _ Δ n Q => te .bor Δ n fun x n1 => tl Δ n1 fun l n2 => th Δ n2 fun u n3 => match x with
  | .lst xs => flatAll xs = true ∧ Q (.lst (cutL xs l u)) n3
  | .tup xs => flatAll xs = true ∧ Q (.tup (cutL xs l u)) n3
  | .str z => z.length ≤ sizeLine ∧ Q (.str (cutS z l u)) n3
  | _ => False
theorem flat_cut {ds : List D} (h : flatAll ds = true) (lo hi : Option Int) : flatAll (cutL ds lo hi) = true := by
  rw [flatAll_iff] at h ⊢
  intro d hd
  exact h d (List.mem_of_mem_drop (List.mem_of_mem_take hd))
theorem d_sl {lo hi : Option Expr} {tl th : DTO} {p2 : Pos} (he : DE X e te) (hl : DO X lo tl) (hu : DO X hi th) : DE X (.Subscript e (.Slice lo hi none p2) pos) (tSlD te tl th) :=
  wkE (pe_slice (sl_list.or (sl_tupA.or sl_str)) he hl hu) fun σ H Q ⟨P, H0, B, fr, av, n, Δ, m, Qd, S, bb, h, k⟩ => lift_at .bor S bb h fun v H1 d n1 s1 S1 r1 q1 =>
    liftO_at S1 q1 fun l H2 n2 s2 S2 q2 => liftO_at S2 q2 fun u H3 n3 s3 S3 q3 => by
      have s13 := (s1.trans s2).trans s3
      cases d <;> first | exact q3.elim | skip
      · cases r1
        exact .inr (.inr ⟨_, rfl, q3.1, k _ H3 _ n3 s13 S3.pen (.str _) q3.2⟩)
      · cases r1 with
        | tup a1 a2 r =>
          have e1 := s2.trans s3 _ _ a1 a2
          have r3 := r.same (s2.trans s3)
          refine .inr (.inl ⟨_, _, rfl, SqT.of e1, fun z => ?_, fun _ p hp => ?_⟩)
          · have q := q3.2
            unfold cutL at q
            rw [← r.length, z.1, z.2, List.drop_zero, Nat.sub_zero, r.length, List.take_length] at q
            exact k _ H3 _ n3 s13 S3.pen (.tup e1 a2 (RpAll.flat _ _ q3.1 r3)) q
          · exact k _ _ _ n3 (s13.trans (SameP.new hp)) (S3.pen.same (same_new hp)) (.tup upd_same (S3.neP hp) (rp_upd hp (fun _ _ _ z => z) (RpAll.flat _ _ (flat_cut q3.1 _ _) (r3.cut l u)))) q3.2
      · cases r1 with
        | lst a1 a2 a3 r =>
          have e1 := s2.trans s3 _ _ a1 a2
          have r3 := r.same (s2.trans s3)
          refine .inl ⟨_, _, rfl, SqL.of e1, fun p hp => ?_⟩
          exact k _ _ _ n3 (s13.trans (SameP.new hp)) (S3.pen.same (same_new hp)) (.lst upd_same (S3.neP hp) (Al.new S3 (bb.trans s13) m hp) (rp_upd hp (fun _ _ _ z => z) (RpAll.flat _ _ (flat_cut q3.1 _ _) (r3.cut l u)))) q3.2
end
end Dl

set_option Elab.async false
set_option linter.all false
set_option maxRecDepth 100000
set_option maxHeartbeats 1000000
namespace Dl
open PySem PySem.Spec PyProof.Rows L2

/-! ### statements -/
structure DEnds where
  nx : DEnv → Nat → Prop
  rt : D → Nat → Prop
  bk : DEnv → Nat → Prop := fun _ _ => False
  ct : DEnv → Nat → Prop := fun _ _ => False
abbrev DTS := DEnds → DEnv → Nat → Prop
structure EndsOk (P : Addr) (H0 : Hp) (fr : List (V × D)) (av : List Addr) (Dd : DEnds) (E : Ends) : Prop where
  nx : ∀ σ' H' Δ' n', StR P H0 fr av n' σ' Δ' H' → Dd.nx Δ' n' → E.nx σ' H'
  rt : ∀ v H' d n', SameP P H0 H' → PenOk P n' H' → Rp P (fun a => H0 a = none) H' v d → Dd.rt d n' → E.rt v H'
  bk : ∀ σ' H' Δ' n', StR P H0 fr av n' σ' Δ' H' → Dd.bk Δ' n' → E.bk σ' H'
  ct : ∀ σ' H' Δ' n', StR P H0 fr av n' σ' Δ' H' → Dd.ct Δ' n' → E.ct σ' H'
def liftS (t : DTS) : TS := fun E σ H => ∃ P H0 fr av n Δ Dd, StR P H0 fr av n σ Δ H ∧ t Dd Δ n ∧ EndsOk P H0 fr av Dd E
abbrev DS (X : Cx) (st : Stmt) (t : DTS) : Prop := PS X st (liftS t)
abbrev DSs (X : Cx) (st : List Stmt) (t : DTS) : Prop := PSs X st (liftS t)
def tNextD : DTS := fun Dd Δ n => Dd.nx Δ n
def tSeqD (t u : DTS) : DTS := fun Dd Δ n => t { Dd with nx := u Dd } Δ n
def tBreakD : DTS := fun Dd Δ n => Dd.bk Δ n
def tContD : DTS := fun Dd Δ n => Dd.ct Δ n
def tDropD (te : DTE) : DTS := fun Dd Δ n => te .bor Δ n fun _ n1 => Dd.nx Δ n1
def tRetD (te : DTE) : DTS := fun Dd Δ n => te .ret Δ n Dd.rt
def tRetND : DTS := fun Dd _ n => Dd.rt .non n
def tIfSD (c : DTT) (t u : DTS) : DTS := fun Dd Δ n => c Δ n fun b n1 => if b = true then t Dd Δ n1 else u Dd Δ n1
section
variable {X : Cx} {st : Stmt} {rest : List Stmt} {t u : DTS} {e : Expr} {te : DTE} {pos : Pos}
theorem dss_nil : DSs X [] tNextD := wkSs pss_nil fun E σ H ⟨P, H0, fr, av, n, Δ, Dd, S, h, k⟩ => k.nx _ _ _ _ S h
theorem dss_cons (h1 : DS X st t) (h2 : DSs X rest u) : DSs X (st :: rest) (tSeqD t u) :=
  wkSs (pss_cons h1 h2) fun E σ H ⟨P, H0, fr, av, n, Δ, Dd, S, h, k⟩ =>
    ⟨P, H0, fr, av, n, Δ, _, S, h, ⟨fun σ' H' Δ' n' S' q => ⟨P, H0, fr, av, n', Δ', Dd, S', q, k⟩, k.rt, k.bk, k.ct⟩⟩
theorem dss_one (h1 : DS X st t) : DSs X [st] t := pss_one h1
theorem ds_pass : DS X (.Pass pos) tNextD := wkS ps_pass fun E σ H ⟨P, H0, fr, av, n, Δ, Dd, S, h, k⟩ => k.nx _ _ _ _ S h
theorem ds_break : DS X (.Break pos) tBreakD := wkS ps_break fun E σ H ⟨P, H0, fr, av, n, Δ, Dd, S, h, k⟩ => k.bk _ _ _ _ S h
theorem ds_continue : DS X (.Continue pos) tContD := wkS ps_continue fun E σ H ⟨P, H0, fr, av, n, Δ, Dd, S, h, k⟩ => k.ct _ _ _ _ S h
theorem ds_expr (he : DE X e te) (hs : swapsWith e none pos.line X.env = pure false := by rfl) : DS X (.Expr e pos) (tDropD te) :=
  wkS (ps_expr he hs) fun E σ H ⟨P, H0, fr, av, n, Δ, Dd, S, h, k⟩ => lift_at (B := H) .bor S (SameP.refl P H) h fun v H1 d n1 s1 S1 r1 q1 => k.nx _ _ _ _ S1 q1
theorem ds_ret (he : DE X e te) : DS X (.Return (some e) pos) (tRetD te) :=
  wkS (ps_ret he) fun E σ H ⟨P, H0, fr, av, n, Δ, Dd, S, h, k⟩ => lift_at (B := H) .ret S (SameP.refl P H) h fun v H1 d n1 s1 S1 r1 q1 =>
    k.rt v H1 d n1 S1.same S1.pen (r1.imp fun a o _ z => z.2) q1
theorem ds_retN : DS X (.Return none pos) tRetND := wkS ps_retN fun E σ H ⟨P, H0, fr, av, n, Δ, Dd, S, h, k⟩ => k.rt _ H _ n S.same S.pen .non h
theorem ds_if {c : Expr} {a b : List Stmt} {tc : DTT} (hc : DT X c tc) (ha : DSs X a t) (hb : DSs X b u) : DS X (.If c a b pos) (tIfSD tc t u) :=
  wkS (ps_if hc ha hb) fun E σ H ⟨P, H0, fr, av, n, Δ, Dd, S, h, k⟩ => liftT_at S h fun v H1 n1 s1 S1 q1 => by
    cases v with
    | true => exact ⟨P, H0, fr, av, n1, Δ, Dd, S1, q1, k⟩
    | false => exact ⟨P, H0, fr, av, n1, Δ, Dd, S1, q1, k⟩
end

/-! ### slots set -/
section
variable {P : Addr} {H0 : Hp} {fr : List (V × D)} {av : List Addr} {n n' : Nat} {σ : L2.St} {Δ : DEnv} {H H' : Hp}
theorem StR.lt (S : StR P H0 fr av n σ Δ H) (i : Nat) : i < σ.length ↔ i < Δ.length := by rw [S.len]
theorem no_setF {v : V} {d : D} {i : Nat} (hl : σ.length = Δ.length) (a : Addr) (h : NO av σ Δ a) : NO av (σ.set i (some v)) (Δ.set i (some (.frz d))) a := by
  refine ⟨h.1, fun j ds e => ?_⟩
  by_cases hj : i = j
  · subst hj
    rw [List.getElem?_set] at e
    simp only [if_true] at e
    split at e <;> cases e
  · rw [List.getElem?_set_ne hj] at e ⊢
    exact h.2 j ds e
theorem StR.setF (S : StR P H0 fr av n σ Δ H) {v : V} {d : D} (i : Nat) (r : Rp P (NO av σ Δ) H v d) : StR P H0 fr av n (σ.set i (some v)) (Δ.set i (some (.frz d))) H where
  p0 := S.p0
  pc := S.pc
  same := S.same
  pen := S.pen
  len := by rw [List.length_set, List.length_set, S.len]
  frz := fun j e h => by
    by_cases hj : i = j
    · subst hj
      have hi : i < Δ.length := by
        rw [List.getElem?_set] at h
        simp only [if_true] at h
        split at h
        · assumption
        · cases h
      rw [List.getElem?_set_self hi] at h
      cases h
      exact ⟨v, List.getElem?_set_self (by rw [S.len]; exact hi), r.imp fun a _ _ z => no_setF S.len a z⟩
    · rw [List.getElem?_set_ne hj] at h ⊢
      obtain ⟨u, h1, h2⟩ := S.frz j e h
      exact ⟨u, h1, h2.imp fun a _ _ z => no_setF S.len a z⟩
  own := fun j ds h => by
    by_cases hj : i = j
    · subst hj
      rw [List.getElem?_set] at h
      simp only [if_true] at h
      split at h <;> cases h
    · rw [List.getElem?_set_ne hj] at h ⊢
      obtain ⟨p, vs, h1, h2, h3, h4, h5⟩ := S.own j ds h
      exact ⟨p, vs, h1, h2, h3, h4, h5.imp fun a _ _ z => no_setF S.len a z⟩
  dis := fun j l p dj dl h1 h2 h3 h4 => by
    by_cases hj : i = j
    · subst hj
      rw [List.getElem?_set] at h1
      simp only [if_true] at h1
      split at h1 <;> cases h1
    · by_cases hl : i = l
      · subst hl
        rw [List.getElem?_set] at h2
        simp only [if_true] at h2
        split at h2 <;> cases h2
      · rw [List.getElem?_set_ne hj] at h1 h3
        rw [List.getElem?_set_ne hl] at h2 h4
        exact S.dis j l p dj dl h1 h2 h3 h4
  gh := fun g hg => (S.gh g hg).imp fun a _ _ z => no_setF S.len a z
  avn := S.avn
/-- a new list that this slot alone is to hold -/
theorem StR.setO (S : StR P H0 fr av n σ Δ H) (s : SameP P H H') (pe : PenOk P n' H') {p : Addr} {vs : List V} {ds : List D} (i : Nat) (hp : H p = none) (hp' : H' p = some (.lst vs)) (hf : flatAll ds = true) {A : Addr → Prop} (r : RpAll P A H' vs ds) :
    StR P H0 fr av n' (σ.set i (some (.ref p))) (Δ.set i (some (.own ds))) H' := by
  have no : ∀ a, NO av σ Δ a → a ≠ p → NO av (σ.set i (some (.ref p))) (Δ.set i (some (.own ds))) a := fun a h ne => by
    refine ⟨h.1, fun j es e => ?_⟩
    by_cases hj : i = j
    · subst hj
      intro z
      by_cases hi : i < σ.length
      · rw [List.getElem?_set_self hi] at z
        exact ne (by cases z; rfl)
      · rw [List.getElem?_eq_none (by rw [List.length_set]; omega)] at z
        cases z
    · rw [List.getElem?_set_ne hj] at e ⊢
      exact h.2 j es e
  have up : ∀ {v : V} {d : D}, Rp P (NO av σ Δ) H v d → Rp P (NO av (σ.set i (some (.ref p))) (Δ.set i (some (.own ds)))) H' v d := fun {v d} q =>
    ((q.imp (A' := fun a => NO av σ Δ a ∧ a ≠ p) fun a o e z => ⟨z, ne_of_none e hp⟩).same s).imp fun a _ _ z => no a z.1 z.2
  have ups : ∀ {v : List V} {d : List D}, RpAll P (NO av σ Δ) H v d → RpAll P (NO av (σ.set i (some (.ref p))) (Δ.set i (some (.own ds)))) H' v d := fun {v d} q =>
    ((q.imp (A' := fun a => NO av σ Δ a ∧ a ≠ p) fun a o e z => ⟨z, ne_of_none e hp⟩).same s).imp fun a _ _ z => no a z.1 z.2
  have S' := S.mono s pe
  refine ⟨S.p0, S.pc, S'.same, pe, by rw [List.length_set, List.length_set, S.len], fun j e h => ?_, fun j es h => ?_, fun j l q dj dl h1 h2 h3 h4 => ?_, fun g hg => up (S.gh g hg), S'.avn⟩
  · by_cases hj : i = j
    · subst hj
      rw [List.getElem?_set] at h
      simp only [if_true] at h
      split at h <;> cases h
    · rw [List.getElem?_set_ne hj] at h ⊢
      obtain ⟨u, h1, h2⟩ := S.frz j e h
      exact ⟨u, h1, up h2⟩
  · by_cases hj : i = j
    · subst hj
      have hi : i < Δ.length := by
        rw [List.getElem?_set] at h
        simp only [if_true] at h
        split at h
        · assumption
        · cases h
      rw [List.getElem?_set_self hi] at h
      cases h
      refine ⟨p, vs, List.getElem?_set_self (by rw [S.len]; exact hi), fun z => S.avn p z hp, S.old hp, hp', RpAll.flat _ _ hf r⟩
    · rw [List.getElem?_set_ne hj] at h ⊢
      obtain ⟨q, us, h1, h2, h3, h4, h5⟩ := S.own j es h
      exact ⟨q, us, h1, h2, h3, s _ _ h4 (fun z => S.p0 (z ▸ h3)), ups h5⟩
  · have key : ∀ (k : Nat) (dk : List D), i ≠ k → Δ[k]? = some (some (SV.own dk)) → σ[k]? = some (some (V.ref q)) → q ≠ p := fun k dk hk e1 e2 z => by
      obtain ⟨q', us, g1, g2, g3, g4, g5⟩ := S.own k dk e1
      rw [e2] at g1
      cases g1
      rw [z, hp] at g4
      cases g4
    have at_i : ∀ {x : Option V}, (σ.set i (some (V.ref p)))[i]? = some x → x = some (V.ref p) := fun {x} z => by
      by_cases hi : i < σ.length
      · rw [List.getElem?_set_self hi] at z; cases z; rfl
      · rw [List.getElem?_eq_none (by rw [List.length_set]; omega)] at z; cases z
    by_cases hj : i = j
    · by_cases hl : i = l
      · exact hj.symm.trans hl
      · rw [List.getElem?_set_ne hl] at h2 h4
        rw [← hj] at h3
        have e := at_i h3
        cases e
        exact absurd rfl (key l dl hl h2 h4)
    · by_cases hl : i = l
      · rw [List.getElem?_set_ne hj] at h1 h3
        rw [← hl] at h4
        have e := at_i h4
        cases e
        exact absurd rfl (key j dj hj h1 h3)
      · rw [List.getElem?_set_ne hj] at h1 h3
        rw [List.getElem?_set_ne hl] at h2 h4
        exact S.dis j l q dj dl h1 h2 h3 h4
/-- the list that a slot alone holds is changed -/
theorem StR.wr (S : StR P H0 fr av n σ Δ H) {p : Addr} {vs : List V} {ds es : List D} {i : Nat} (hi : Δ[i]? = some (some (SV.own ds))) (hp : σ[i]? = some (some (V.ref p))) (r : RpAll P (NO av σ Δ) H vs es) :
    StR P H0 fr av n σ (Δ.set i (some (.own es))) (upd H p (.lst vs)) := by
  obtain ⟨q, us, h1, h2, h3, h4, h5⟩ := S.own i ds hi
  rw [hp] at h1
  cases h1
  have il : i < Δ.length := (List.getElem?_eq_some_iff.mp hi).1
  have no : ∀ a, NO av σ Δ a → NO av σ (Δ.set i (some (.own es))) a := fun a h => by
    refine ⟨h.1, fun j fs e => ?_⟩
    by_cases hj : i = j
    · subst hj
      exact h.2 i ds hi
    · rw [List.getElem?_set_ne hj] at e
      exact h.2 j fs e
  have st : Stay P (NO av σ Δ) (NO av σ (Δ.set i (some (.own es)))) H (upd H p (.lst vs)) := by
    refine ⟨fun a xs e _ => by rw [upd_ne (ne_of e h4 (by intro z; cases z))]; exact e, fun a o e _ z => ?_⟩
    have ne : a ≠ p := fun y => by subst y; exact z.2 i ds hi hp
    exact ⟨by rw [upd_ne ne]; exact e, no a z⟩
  have np : p ≠ P := fun z => S.p0 (z ▸ h3)
  refine ⟨S.p0, S.pc, ⟨fun a o e ne => ?_, fun c t r e => ?_⟩, ?_, by rw [List.length_set, S.len], fun j e h => ?_, fun j fs h => ?_, fun j l q dj dl g1 g2 g3 g4 => ?_, fun g hg => Rp.stay st _ _ (S.gh g hg), fun a ha => ?_⟩
  · rw [upd_ne (ne_of_none e h3)]
    exact S.same a o e ne
  · rw [upd_ne (Ne.symm np)]
    exact S.same.cel c t r e
  · obtain ⟨c, t, r', cells, k1, k2, k3, k4⟩ := S.pen
    refine ⟨c, t, r', cells, by rw [upd_ne (Ne.symm np)]; exact k1, ?_, k3, k4⟩
    have : c ≠ p := fun z => by
      obtain ⟨c', t1, r1, e1, e2, e3⟩ := S.pc
      obtain ⟨t2, r2, e4⟩ := S.same.cel c' t1 r1 e1
      rw [k1] at e4
      cases e4
      exact e2 (z ▸ h3)
    rw [upd_ne this]; exact k2
  · by_cases hj : i = j
    · subst hj
      rw [List.getElem?_set_self il] at h
      cases h
    · rw [List.getElem?_set_ne hj] at h
      obtain ⟨u, k1, k2⟩ := S.frz j e h
      exact ⟨u, k1, Rp.stay st _ _ k2⟩
  · by_cases hj : i = j
    · subst hj
      rw [List.getElem?_set_self il] at h
      cases h
      exact ⟨p, vs, hp, h2, h3, upd_same, RpAll.stay st _ _ r⟩
    · rw [List.getElem?_set_ne hj] at h
      obtain ⟨q, us', k1, k2, k3, k4, k5⟩ := S.own j fs h
      have nq : q ≠ p := fun z => by
        subst z
        exact hj (S.dis i j q ds fs hi h hp k1)
      exact ⟨q, us', k1, k2, k3, by rw [upd_ne nq]; exact k4, RpAll.stay st _ _ k5⟩
  · have g1' : ∃ d, Δ[j]? = some (some (SV.own d)) := by
      by_cases hj : i = j
      · exact ⟨ds, hj ▸ hi⟩
      · rw [List.getElem?_set_ne hj] at g1; exact ⟨_, g1⟩
    have g2' : ∃ d, Δ[l]? = some (some (SV.own d)) := by
      by_cases hj : i = l
      · exact ⟨ds, hj ▸ hi⟩
      · rw [List.getElem?_set_ne hj] at g2; exact ⟨_, g2⟩
    obtain ⟨d1, g1'⟩ := g1'
    obtain ⟨d2, g2'⟩ := g2'
    exact S.dis j l q d1 d2 g1' g2' g3 g4
  · by_cases z : a = p
    · subst z; exact absurd ha h2
    · rw [upd_ne z]; exact S.avn a ha
end
end Dl

set_option Elab.async false
set_option linter.all false
set_option maxRecDepth 100000
set_option maxHeartbeats 1000000
namespace Dl
open PySem PySem.Spec PyProof.Rows L2

/-! ### x = e -/
def tSetD (i : Nat) (te : DTE) : DTS := fun Dd Δ n => te .frz Δ n fun d n1 => Dd.nx (Δ.set i (some (.frz d))) n1
def tOwnD (i : Nat) (te : DTE) : DTS := fun Dd Δ n => te .new Δ n fun d n1 => match d with | .lst ds => flatAll ds = true ∧ Dd.nx (Δ.set i (some (.own ds))) n1 | _ => False
theorem asg_F {i : Nat} {t : DTE} {te : TE} (w : ∀ σ H Q, lift t σ H Q → te σ H Q) (E : Ends) (σ : L2.St) (H : Hp) (h : liftS (tSetD i t) E σ H) : tAsg te (gName i) E σ H := by
  obtain ⟨P, H0, fr, av, n, Δ, Dd, S, h, k⟩ := h
  exact w _ _ _ (lift_at (B := H) .frz S (SameP.refl P H) h fun v H1 d n1 s1 S1 r1 q1 => k.nx _ _ _ _ (S1.setF i r1) q1)
theorem asg_O {i : Nat} {t : DTE} {te : TE} (w : ∀ σ H Q, lift t σ H Q → te σ H Q) (E : Ends) (σ : L2.St) (H : Hp) (h : liftS (tOwnD i t) E σ H) : tAsg te (gName i) E σ H := by
  obtain ⟨P, H0, fr, av, n, Δ, Dd, S, h, k⟩ := h
  refine w _ _ _ (lift_at (B := H) .new S (SameP.refl P H) h fun v H1 d n1 s1 S1 r1 q1 => ?_)
  cases d <;> first | exact q1.elim | skip
  cases r1 with
  | lst a1 a2 a3 r => exact k.nx _ _ _ _ (S.setO s1 S1.pen i a3.2 a1 q1.1 r) q1.2
section
variable {X : Cx} {i : Nat} {x : Str} {e : Expr} {te : DTE} {pos pos' : Pos}
theorem ds_set (i : Nat) (hN : X.N.Nodup) (he : DE X e te) (hi : X.N[i]? = some x := by rfl) (hx : Loc X.env.scope x := by first | exact Or.inl rfl | exact Or.inr rfl) (hs : swapsWith e (some (.Name x pos')) pos.line X.env = pure false := by rfl) (hf : X.fn x = true ∨ X.env.scope.names.lookup x = some .local := by first | exact .inl rfl | exact .inr rfl) :
    DS X (.Assign [.Name x pos'] e pos) (tSetD i te) := wkS (ps_set hN hi hx he hs hf) (asg_F fun _ _ _ h => h)
theorem ds_own (i : Nat) (hN : X.N.Nodup) (he : DE X e te) (hi : X.N[i]? = some x := by rfl) (hx : Loc X.env.scope x := by first | exact Or.inl rfl | exact Or.inr rfl) (hs : swapsWith e (some (.Name x pos')) pos.line X.env = pure false := by rfl) (hf : X.fn x = true ∨ X.env.scope.names.lookup x = some .local := by first | exact .inl rfl | exact .inr rfl) :
    DS X (.Assign [.Name x pos'] e pos) (tOwnD i te) := wkS (ps_set hN hi hx he hs hf) (asg_O fun _ _ _ h => h)
/-- x op= e -/
def tAugD (i : Nat) (dr : DR2) (te : DTE) : DTS := fun Dd Δ n => match Δ[i]? with
  | some (some (.frz d)) => te .bor Δ n fun y n1 => dr d y fun z => Dd.nx (Δ.set i (some (.frz z))) n1
  | _ => False
theorem ds_aug (i : Nat) {op : Operator} {r : R2} {dr : DR2} (hN : X.N.Nodup) (ho : OpR X (inplaceOp op) r) (sn : Snd2 r dr) (he : DE X e te) (hi : X.N[i]? = some x := by rfl) (hx : Loc X.env.scope x := by first | exact Or.inl rfl | exact Or.inr rfl)
    (hf : X.fn x = true ∨ X.env.scope.names.lookup x = some .local := by first | exact .inl rfl | exact .inr rfl) : DS X (.AugAssign (.Name x pos') op e pos) (tAugD i dr te) :=
  wkS (ps_aug (ti := r) hN hi hx he ho hf) fun E σ H ⟨P, H0, fr, av, n, Δ, Dd, S, h, k⟩ => by
    unfold tAugD at h
    split at h
    · rename_i d e1
      obtain ⟨v, e2, r1⟩ := S.frz _ _ e1
      refine ⟨v, e2, lift_at (B := H) .bor S (SameP.refl P H) h fun u H1 d1 n1 s1 S1 r2 q1 => ?_⟩
      have r2' : Rp P (fun _ => True) H1 u d1 := r2.imp fun _ _ _ _ => trivial
      have r1' : Rp P (fun _ => True) H1 v d := (r1.same s1).imp fun _ _ _ _ => trivial
      exact sn P (NO av σ Δ) _ H1 v u d d1 _ _ S1.pen.some (fun a ha => S1.no_new ha) r1' r2' q1 fun v' H2 z s2 rz qz =>
        k.nx _ _ _ _ ((S1.mono (.of s2) (S1.pen.same s2)).setF i rz) qz
    · exact h.elim
end

/-! ### targets -/
abbrev DTG := D → DEnv → Nat → (DEnv → Nat → Prop) → Prop
abbrev DTGs := List D → DEnv → Nat → (DEnv → Nat → Prop) → Prop
def liftG (g : DTG) : TG := fun v σ H Q => ∃ P H0 fr av n Δ d Qd, StR P H0 fr av n σ Δ H ∧ Rp P (NO av σ Δ) H v d ∧ g d Δ n Qd ∧ ∀ σ' H' Δ' n', StR P H0 fr av n' σ' Δ' H' → Qd Δ' n' → Q σ' H'
def liftGs (g : DTGs) : TGs := fun vs σ H Q => ∃ P H0 fr av n Δ ds Qd, StR P H0 fr av n σ Δ H ∧ RpAll P (NO av σ Δ) H vs ds ∧ g ds Δ n Qd ∧ ∀ σ' H' Δ' n', StR P H0 fr av n' σ' Δ' H' → Qd Δ' n' → Q σ' H'
theorem wkG {X : Cx} {tg : Expr} {t t' : TG} (h : PG X tg t) (w : ∀ v σ H Q, t' v σ H Q → t v σ H Q) : PG X tg t' := ⟨fun pins s σ H v u Q I r q => h.run pins s σ H v u Q I r (w v σ H Q q)⟩
theorem wkGs {X : Cx} {tg : List Expr} {t t' : TGs} (h : PGs X tg t) (w : ∀ v σ H Q, t' v σ H Q → t v σ H Q) : PGs X tg t' := ⟨fun pins s σ H v u Q I r q => h.run pins s σ H v u Q I r (w v σ H Q q)⟩
def gNameD (i : Nat) : DTG := fun d Δ n Q => Q (Δ.set i (some (.frz d))) n
def gNilD : DTGs := fun ds Δ n Q => match ds with | [] => Q Δ n | _ => False
def gConsD (g : DTG) (gs : DTGs) : DTGs := fun ds Δ n Q => match ds with | d :: r => g d Δ n fun Δ1 n1 => gs r Δ1 n1 Q | _ => False
def gTupD (k : Nat) (gs : DTGs) : DTG := fun d Δ n Q => match d with | .tup ds => ds.length = k ∧ gs ds Δ n Q | _ => False
theorem StR.unfr {P : Addr} {H0 : Hp} {fr gs : List (V × D)} {av : List Addr} {n : Nat} {σ : L2.St} {Δ : DEnv} {H : Hp} (S : StR P H0 (gs ++ fr) av n σ Δ H) : StR P H0 fr av n σ Δ H :=
  ⟨S.p0, S.pc, S.same, S.pen, S.len, S.frz, S.own, S.dis, fun g hg => S.gh g (List.mem_append_right _ hg), S.avn⟩
theorem StR.infr {P : Addr} {H0 : Hp} {fr gs : List (V × D)} {av : List Addr} {n : Nat} {σ : L2.St} {Δ : DEnv} {H : Hp} (S : StR P H0 fr av n σ Δ H) (h : ∀ g ∈ gs, Rp P (NO av σ Δ) H g.1 g.2) : StR P H0 (gs ++ fr) av n σ Δ H :=
  ⟨S.p0, S.pc, S.same, S.pen, S.len, S.frz, S.own, S.dis, fun g hg => (List.mem_append.mp hg).elim (h g) (S.gh g), S.avn⟩
theorem rp_zip {P : Addr} {A : Addr → Prop} {H : Hp} : ∀ {vs : List V} {ds : List D}, RpAll P A H vs ds → ∀ g ∈ vs.zip ds, Rp P A H g.1 g.2
  | _, _, .nil, g, h => by simp at h
  | v :: vs, d :: ds, .cons r t, g, h => by
    rcases List.mem_cons.mp (show g ∈ (v, d) :: vs.zip ds from h) with e | h
    · subst e; exact r
    · exact rp_zip t g h
theorem rp_unzip {P : Addr} {A A' : Addr → Prop} {H H' : Hp} : ∀ {vs : List V} {ds : List D}, RpAll P A H vs ds → (∀ g ∈ vs.zip ds, Rp P A' H' g.1 g.2) → RpAll P A' H' vs ds
  | _, _, .nil, h => .nil
  | v :: vs, d :: ds, .cons r t, h => .cons (h (v, d) (List.mem_cons_self ..)) (rp_unzip t fun g hg => h g (List.mem_cons_of_mem _ hg))
section
variable {X : Cx} {pos : Pos}
theorem dg_name (i : Nat) {x : Str} (hN : X.N.Nodup) (hi : X.N[i]? = some x := by rfl) (hx : Loc X.env.scope x := by first | exact Or.inl rfl | exact Or.inr rfl) (hf : X.fn x = true ∨ X.env.scope.names.lookup x = some .local := by first | exact .inl rfl | exact .inr rfl) : PG X (.Name x pos) (liftG (gNameD i)) :=
  wkG (pg_name hN hi hx hf) fun v σ H Q ⟨P, H0, fr, av, n, Δ, d, Qd, S, r, h, k⟩ => k _ _ _ _ (S.setF i r) h
theorem dgs_nil : PGs X [] (liftGs gNilD) := wkGs pgs_nil fun v σ H Q ⟨P, H0, fr, av, n, Δ, ds, Qd, S, r, h, k⟩ => by
  cases ds with
  | nil => cases r; exact ⟨rfl, k _ _ _ _ S h⟩
  | cons => exact h.elim
theorem dgs_cons {e : Expr} {es : List Expr} {g : DTG} {gs : DTGs} (h1 : PG X e (liftG g)) (h2 : PGs X es (liftGs gs))
    (hs : (assignEach (e :: es) X.env).map (·.2) = assign e X.env :: (assignEach es X.env).map (·.2) := by rfl) : PGs X (e :: es) (liftGs (gConsD g gs)) :=
  wkGs (pgs_cons h1 h2 hs) fun vs σ H Q ⟨P, H0, fr, av, n, Δ, ds, Qd, S, r, h, k⟩ => by
    cases ds with
    | nil => exact h.elim
    | cons d ds =>
      cases r with
      | @cons v0 vs0 _ _ r1 r2 =>
        refine ⟨v0, vs0, rfl, P, H0, vs0.zip ds ++ fr, av, n, Δ, d, _, S.infr (rp_zip r2), r1, h, fun σ' H' Δ' n' S' q => ?_⟩
        exact ⟨P, H0, fr, av, n', Δ', ds, Qd, S'.unfr, rp_unzip r2 fun g hg => S'.gh g (List.mem_append_left _ hg), q, k⟩
theorem dg_tup {es : List Expr} {k : Nat} {gs : DTGs} {n : Nat} (hc : X.calm = true) (h : PGs X es (liftGs gs))
    (hn : (assignEach es X.env).length = n := by rfl) (hst : (assignEach es X.env).findIdx? (·.1) = none := by rfl) : PG X (.Tuple es k pos) (liftG (gTupD n gs)) :=
  wkG (pg_tup hc h hn hst) fun v σ H Q ⟨P, H0, fr, av, n, Δ, d, Qd, S, r, h, k⟩ => by
    cases d <;> first | exact h.elim | skip
    cases r with
    | tup a1 a2 r => exact ⟨_, _, rfl, SqT.of a1, by rw [r.length]; exact h.1, P, H0, fr, av, n, Δ, _, Qd, S, r, h.2, k⟩
def tAsgD (te : DTE) (g : DTG) : DTS := fun Dd Δ n => te .frz Δ n fun d n1 => g d Δ n1 Dd.nx
theorem ds_asg {tg e : Expr} {te : DTE} {g : DTG} (he : DE X e te) (hg : PG X tg (liftG g)) (hs : swapsWithSole [tg] e pos.line X.env = pure false := by rfl) (hw : swappedStores [tg] e X.env = pure none := by rfl)
    (h1 : (assignEach [tg] X.env).map (·.2) = [assign tg X.env] := by rfl) : DS X (.Assign [tg] e pos) (tAsgD te g) :=
  wkS (ps_asg he hg hs hw h1) fun E σ H ⟨P, H0, fr, av, n, Δ, Dd, S, h, k⟩ => lift_at (B := H) .frz S (SameP.refl P H) h fun v H1 d n1 s1 S1 r1 q1 =>
    ⟨P, H0, fr, av, n1, Δ, d, _, S1, r1, q1, fun σ' H' Δ' n' S' q => k.nx _ _ _ _ S' q⟩
/-- a, b = x, y -/
def tParD (i j : Nat) (ta : DTA) : DTS := fun Dd Δ n => ta .frz Δ n fun ds n1 => match ds with | [d, e] => Dd.nx ((Δ.set i (some (.frz d))).set j (some (.frz e))) n1 | _ => False
theorem ds_par (i j : Nat) {x y : Str} {a b : Expr} {ta : DTA} {px py pt : Pos} {kt k2 pt2} (hc : X.calm = true) (hN : X.N.Nodup) (ha : DA X [a, b] ta) (hi : X.N[i]? = some x := by rfl) (hj : X.N[j]? = some y := by rfl) (hij : i ≠ j := by decide)
    (hx : X.env.scope.names.lookup x = some .local := by rfl) (hy : X.env.scope.names.lookup y = some .local := by rfl)
    (hw : swappedStores [.Tuple [.Name x px, .Name y py] kt pt] (.Tuple [a, b] k2 pt2) X.env = pure (some [x, y]) := by rfl)
    (hs : swapsWithSole [.Tuple [.Name x px, .Name y py] kt pt] (.Tuple [a, b] k2 pt2) pos.line X.env = pure false := by rfl) :
    DS X (.Assign [.Tuple [.Name x px, .Name y py] kt pt] (.Tuple [a, b] k2 pt2) pos) (tParD i j ta) :=
  wkS (ps_par hc hN hi hj hij hx hy ha hw hs) fun E σ H ⟨P, H0, fr, av, n, Δ, Dd, S, h, k⟩ => liftA_at (B := H) .frz S (SameP.refl P H) h fun vs H1 ds n1 s1 S1 r1 q1 => by
    match ds, r1, q1 with
    | [d, e], .cons r1 (.cons r2 .nil), q1 =>
      have S2 := (S1.infr (gs := [(_, e)]) (fun g hg => by cases List.mem_singleton.mp hg; exact r2)).setF i r1
      exact ⟨_, _, rfl, k.nx _ _ _ _ (S2.setF j (S2.gh _ (List.mem_append_left _ (List.mem_singleton.mpr rfl)))).unfr q1⟩
end

/-! ### lists that a slot alone holds: append, extend, insert, pop, x[i] = e -/
theorem StR.at_own {P : Addr} {H0 : Hp} {fr : List (V × D)} {av : List Addr} {n : Nat} {σ : L2.St} {Δ : DEnv} {H : Hp} {i : Nat} {ds : List D} (S : StR P H0 fr av n σ Δ H) (h : Δ[i]? = some (some (SV.own ds))) :
    ∃ p vs, σ[i]? = some (some (V.ref p)) ∧ p ≠ P ∧ H p = some (.lst vs) ∧ RpAll P (NO av σ Δ) H vs ds := by
  obtain ⟨p, vs, h1, h2, h3, h4, h5⟩ := S.own i ds h
  exact ⟨p, vs, h1, fun z => S.p0 (z ▸ h3), h4, h5⟩
section
variable {X : Cx} {pos apos px : Pos} {x : Str} {e e2 : Expr} {te te2 : DTE}
def tAppD (i : Nat) (te : DTE) : DTS := fun Dd Δ n => match Δ[i]? with
  | some (some (.own ds)) => te .frz Δ n fun d n1 => ds.length < sizeLine ∧ Dd.nx (Δ.set i (some (.own (ds ++ [d])))) n1
  | _ => False
theorem ds_app {i : Nat} (he : PE X e (tBM X.K "list" rAppend (tVar i) (tCons (lift te) tNil))) (hsw : swapsWith e none pos.line X.env = pure false := by rfl) : DS X (.Expr e pos) (tAppD i te) :=
  wkS (ps_expr he hsw) fun E σ H ⟨P, H0, fr, av, n, Δ, Dd, S, h, k⟩ => by
    unfold tAppD at h
    split at h
    · rename_i ds e1
      obtain ⟨p, vs, e2, np, e3, r⟩ := S.at_own e1
      refine ⟨_, e2, .inl ⟨rfl, _, SqL.of e3⟩, lift_at (B := H) .frz S (SameP.refl P H) h fun v H1 d n1 s1 S1 r1 q1 => ?_⟩
      refine ⟨p, vs, v, rfl, rfl, s1 _ _ e3 np, by rw [r.length]; exact q1.1, ?_⟩
      exact k.nx _ _ _ _ (S1.wr e1 e2 ((r.same s1).append (.cons r1 .nil))) q1.2
    · exact h.elim
def tExtD (i : Nat) (te : DTE) : DTS := fun Dd Δ n => match Δ[i]? with
  | some (some (.own ds)) => te .bor Δ n fun d n1 => match d with | .lst es => ds.length + es.length ≤ sizeLine ∧ flatAll es = true ∧ Dd.nx (Δ.set i (some (.own (ds ++ es)))) n1 | _ => False
  | _ => False
theorem ds_ext {i : Nat} (he : PE X e (tBM X.K "list" rExtend (tVar i) (tCons (lift te) tNil))) (hsw : swapsWith e none pos.line X.env = pure false := by rfl) : DS X (.Expr e pos) (tExtD i te) :=
  wkS (ps_expr he hsw) fun E σ H ⟨P, H0, fr, av, n, Δ, Dd, S, h, k⟩ => by
    unfold tExtD at h
    split at h
    · rename_i ds e1
      obtain ⟨p, vs, e2, np, e3, r⟩ := S.at_own e1
      refine ⟨_, e2, .inl ⟨rfl, _, SqL.of e3⟩, lift_at (B := H) .bor S (SameP.refl P H) h fun v H1 d n1 s1 S1 r1 q1 => ?_⟩
      cases d <;> first | exact q1.elim | skip
      cases r1 with
      | lst a1 a2 a3 r2 =>
        refine ⟨p, _, vs, _, rfl, rfl, s1 _ _ e3 np, a1, by rw [r.length, r2.length]; exact q1.1, ?_⟩
        exact k.nx _ _ _ _ (S1.wr e1 e2 ((r.same s1).append (RpAll.flat _ _ q1.2.1 r2))) q1.2.2
    · exact h.elim
def rInsert : V → List V → Hp → VK → Prop := fun x vs H Q => ∃ (l : Addr) (xs : List V) (i : Int) (y : V), x = .ref l ∧ vs = [.int i, y] ∧ H l = some (.lst xs) ∧ xs.length < sizeLine ∧ 0 ≤ i ∧ i < 2 ^ 63 ∧
    Q .non (upd H l (.lst (xs.take i.toNat ++ [y] ++ xs.drop i.toNat)))
def tInsD (i : Nat) (ti te : DTE) : DTS := fun Dd Δ n => match Δ[i]? with
  | some (some (.own ds)) => ti .frz Δ n fun k n0 => te .frz Δ n0 fun d n1 => match k with | .int z => ds.length < sizeLine ∧ 0 ≤ z ∧ z < 2 ^ 63 ∧ Dd.nx (Δ.set i (some (.own (ds.take z.toNat ++ [d] ++ ds.drop z.toNat)))) n1 | _ => False
  | _ => False
theorem ds_ins {i : Nat} (he : PE X e (tBM X.K "list" rInsert (tVar i) (tCons (lift te) (tCons (lift te2) tNil)))) (hsw : swapsWith e none pos.line X.env = pure false := by rfl) : DS X (.Expr e pos) (tInsD i te te2) :=
  wkS (ps_expr he hsw) fun E σ H ⟨P, H0, fr, av, n, Δ, Dd, S, h, k⟩ => by
    unfold tInsD at h
    split at h
    · rename_i ds e1
      obtain ⟨p, vs, e2, np, e3, r⟩ := S.at_own e1
      refine ⟨_, e2, .inl ⟨rfl, _, SqL.of e3⟩, lift_at (B := H) .frz S (SameP.refl P H) h fun v H1 d n1 s1 S1 r1 q1 => ?_⟩
      refine lift_at (B := H1) .frz S1 (SameP.refl P H1) q1 fun v2 H2 d2 n2 s2 S2 r2 q2 => ?_
      cases d <;> first | exact q2.elim | skip
      cases r1
      have s12 := s1.trans s2
      refine ⟨p, vs, _, v2, rfl, rfl, s12 _ _ e3 np, by rw [r.length]; exact q2.1, q2.2.1, q2.2.2.1, ?_⟩
      exact k.nx _ _ _ _ (S2.wr e1 e2 ((((r.same s12).take _).append (.cons r2 .nil)).append ((r.same s12).drop _))) q2.2.2.2
    · exact h.elim
/-- x[k] = e -/
def tStD (i : Nat) (tk te : DTE) : DTS := fun Dd Δ n => te .frz Δ n fun d n1 => match Δ[i]? with
  | some (some (.own ds)) => tk .bor Δ n1 fun k n2 => match k with | .int z => ∃ j, ixN ds.length z = some j ∧ Dd.nx (Δ.set i (some (.own (ds.set j d)))) n2 | _ => False
  | _ => False
theorem ds_st {tg : Expr} {i : Nat} (hp : PS X (.Assign [tg] e pos) (tAsg (lift te) (gSub (tVar i) (lift te2) rSetL))) : DS X (.Assign [tg] e pos) (tStD i te2 te) :=
  wkS hp fun E σ H ⟨P, H0, fr, av, n, Δ, Dd, S, h, k⟩ => lift_at (B := H) .frz S (SameP.refl P H) h fun v H1 d n1 s1 S1 r1 q1 => by
    split at q1
    · rename_i ds e1
      obtain ⟨p, vs, e2, np, e3, r⟩ := S1.at_own e1
      refine ⟨_, e2, lift_at (B := H1) .bor S1 (SameP.refl P H1) q1 fun v2 H2 d2 n2 s2 S2 r2 q2 => ?_⟩
      cases d2 <;> first | exact q2.elim | skip
      cases r2
      obtain ⟨j, g1, g2⟩ := q2
      refine ⟨p, vs, _, j, rfl, rfl, s2 _ _ e3 np, by rw [r.length]; exact g1, ?_⟩
      exact k.nx _ _ _ _ (S2.wr e1 e2 (RpAll.set (r1.same s2) j (r.same s2))) g2
    · exact q1.elim
/-- from now on the list stays as it is -/
def tFrzD (i : Nat) (t : DTS) : DTS := fun Dd Δ n => match Δ[i]? with
  | some (some (.own ds)) => t Dd (Δ.set i (some (.frz (.lst ds)))) n
  | _ => False
theorem StR.fz {P : Addr} {H0 : Hp} {fr : List (V × D)} {av : List Addr} {n : Nat} {σ : L2.St} {Δ : DEnv} {H : Hp} {i : Nat} {ds : List D} (S : StR P H0 fr av n σ Δ H) (h : Δ[i]? = some (some (SV.own ds))) : StR P H0 fr av n σ (Δ.set i (some (.frz (.lst ds)))) H := by
  have no : ∀ a, NO av σ Δ a → NO av σ (Δ.set i (some (.frz (.lst ds)))) a := fun a z => ⟨z.1, fun j es e => by
    by_cases hj : i = j
    · subst hj
      rw [List.getElem?_set] at e
      simp only [if_true] at e
      split at e <;> cases e
    · rw [List.getElem?_set_ne hj] at e
      exact z.2 j es e⟩
  have il : i < Δ.length := (List.getElem?_eq_some_iff.mp h).1
  have own : ∀ {j : Nat} {es : List D}, (Δ.set i (some (SV.frz (.lst ds))))[j]? = some (some (SV.own es)) → i ≠ j ∧ Δ[j]? = some (some (SV.own es)) := fun {j es} e => by
    by_cases hj : i = j
    · subst hj
      rw [List.getElem?_set] at e
      simp only [if_true] at e
      split at e <;> cases e
    · rw [List.getElem?_set_ne hj] at e
      exact ⟨hj, e⟩
  refine ⟨S.p0, S.pc, S.same, S.pen, by rw [List.length_set, S.len], fun j d e => ?_, fun j es e => ?_, fun j l q dj dl e1 e2 e3 e4 => S.dis j l q dj dl (own e1).2 (own e2).2 e3 e4, fun g hg => (S.gh g hg).imp fun a _ _ z => no a z, S.avn⟩
  · by_cases hj : i = j
    · subst hj
      rw [List.getElem?_set_self il] at e
      cases e
      obtain ⟨p, vs, k1, k2, k3, k4, k5⟩ := S.own _ _ h
      refine ⟨_, k1, .lst k4 (fun z => S.p0 (z ▸ k3)) ⟨k2, fun j es e z => ?_⟩ (k5.imp fun a _ _ z => no a z)⟩
      obtain ⟨hj, e'⟩ := own e
      exact hj (S.dis _ _ _ _ _ h e' k1 z)
    · rw [List.getElem?_set_ne hj] at e
      obtain ⟨v, k1, k2⟩ := S.frz j d e
      exact ⟨v, k1, k2.imp fun a _ _ z => no a z⟩
  · obtain ⟨hj, e'⟩ := own e
    obtain ⟨p, vs, k1, k2, k3, k4, k5⟩ := S.own j es e'
    exact ⟨p, vs, k1, k2, k3, k4, k5.imp fun a _ _ z => no a z⟩
theorem dss_frz {sts : List Stmt} {t : DTS} (i : Nat) (h : DSs X sts t) : DSs X sts (tFrzD i t) := wkSs h fun E σ H ⟨P, H0, fr, av, n, Δ, Dd, S, h, k⟩ => by
  unfold tFrzD at h
  split at h
  · rename_i ds e
    exact ⟨P, H0, fr, av, n, _, Dd, S.fz e, h, k⟩
  · exact h.elim
end
end Dl

set_option Elab.async false
set_option linter.all false
set_option maxRecDepth 100000
set_option maxHeartbeats 1000000
namespace Dl
open PySem PySem.Spec PyProof.Rows L2

/-! ### what is walked -/
def Goes (P : Addr) (J : It) (gs : List (V × D)) (items : List D) : Prop := ∀ (H : Hp) (A : Addr → Prop), H P ≠ none → (∀ a, H a = none → A a) → (∀ g ∈ gs, Rp P A H g.1 g.2) →
  ∀ i : Nat, (items.length ≤ i → J.stop i H) ∧ ∀ it, items[i]? = some it → J.go i H ∧ ∀ x H', J.yld i H x H' → Same H H' ∧ Rp P A H' x it
abbrev DTI := Md → DEnv → Nat → (List D → Nat → Prop) → Prop
def liftI (t : DTI) : TI := fun σ H R => ∃ P H0 fr av n Δ m Qd, StR P H0 fr av n σ Δ H ∧ t m Δ n Qd ∧
  ∀ J H' gs items n', SameP P H H' → PenOk P n' H' → (∀ g ∈ gs, Rp P (Al m H H0 av σ Δ) H' g.1 g.2) → Goes P J gs items → items.length ≤ 2 ^ 62 → Qd items n' → R J H'
abbrev DI (X : Cx) (tg e : Expr) (t : DTI) : Prop := PI X tg e (liftI t)
theorem sz62 {n : Nat} (h : n ≤ sizeLine) : n ≤ 2 ^ 62 := Nat.le_trans h (by decide)
def tWLst (te : DTE) : DTI := fun m Δ n Q => te m Δ n fun d n1 => match d with | .lst ds => Q ds n1 | _ => False
def tWTup (te : DTE) : DTI := fun m Δ n Q => te m Δ n fun d n1 => match d with | .tup ds => Q ds n1 | _ => False
/-- lo, lo + 1, .. : n of them -/
def rangeD (lo : Int) : Nat → List D
  | 0 => []
  | n + 1 => .int lo :: rangeD (lo + 1) n
theorem rangeD_length : ∀ (n : Nat) (lo : Int), (rangeD lo n).length = n
  | 0, _ => rfl
  | n + 1, lo => by rw [rangeD, List.length_cons, rangeD_length n]
theorem rangeD_get : ∀ (n : Nat) (lo : Int) (i : Nat), i < n → (rangeD lo n)[i]? = some (.int (lo + i))
  | 0, _, _, h => absurd h (Nat.not_lt_zero _)
  | n + 1, lo, 0, _ => by rw [rangeD]; simp
  | n + 1, lo, i + 1, h => by
    rw [rangeD, List.getElem?_cons_succ, rangeD_get n (lo + 1) i (by omega)]
    congr 2
    omega
def tWRng1 (te : DTE) : DTI := fun _ Δ n Q => te .bor Δ n fun d n1 => match d with | .int j => -(2 ^ 62) ≤ j ∧ j < 2 ^ 62 ∧ Q (rangeD 0 j.toNat) n1 | _ => False
def tWRng2 (ta tb : DTE) : DTI := fun _ Δ n Q => ta .bor Δ n fun d n1 => tb .bor Δ n1 fun e n2 => match d, e with | .int i, .int j => (-(2 ^ 62) ≤ i ∧ i < 2 ^ 62 ∧ -(2 ^ 62) ≤ j ∧ j < 2 ^ 62 ∧ j - i ≤ 2 ^ 62) ∧ Q (rangeD i (j - i).toNat) n2 | _, _ => False
theorem goes_lst {K : PySem.W.Frag} {P : Addr} {a : Addr} {ds : List D} : Goes P (Itl K a) [(.ref a, .lst ds)] ds := fun H A p0 nA hg i => by
  have r := hg _ (List.mem_singleton.mpr rfl)
  cases r with
  | lst h1 h2 h3 r =>
    refine ⟨fun hi => ⟨_, SqL.of h1, by rw [r.length]; exact hi⟩, fun it e => ?_⟩
    obtain ⟨v, e1, e2⟩ := r.get e
    refine ⟨⟨_, v, SqL.of h1, e1⟩, fun x H' y => ?_⟩
    obtain ⟨rfl, y⟩ := y
    have := y _ (SqL.of h1)
    rw [e1] at this
    cases this
    exact ⟨Same.refl _, e2⟩
theorem goes_tup {K : PySem.W.Frag} {P : Addr} {a : Addr} {ds : List D} : Goes P (Itt K a) [(.ref a, .tup ds)] ds := fun H A p0 nA hg i => by
  have r := hg _ (List.mem_singleton.mpr rfl)
  cases r with
  | tup h1 h2 r =>
    refine ⟨fun hi => ⟨_, SqT.of h1, by rw [r.length]; exact hi⟩, fun it e => ?_⟩
    obtain ⟨v, e1, e2⟩ := r.get e
    refine ⟨⟨_, v, SqT.of h1, e1⟩, fun x H' y => ?_⟩
    obtain ⟨rfl, y⟩ := y
    have := y _ (SqT.of h1)
    rw [e1] at this
    cases this
    exact ⟨Same.refl _, e2⟩
theorem goes_rng {P : Addr} {lo : Int} {n : Nat} : Goes P (Itr lo n) [] (rangeD lo n) := fun H A p0 nA hg i => by
  refine ⟨fun hi => by rw [rangeD_length] at hi; exact hi, fun it e => ?_⟩
  have hi : i < n := by
    have := (List.getElem?_eq_some_iff.mp e).1
    rw [rangeD_length] at this
    exact this
  rw [rangeD_get n lo i hi] at e
  cases e
  exact ⟨hi, fun x H' y => by obtain ⟨rfl, rfl⟩ := y; exact ⟨Same.refl _, .int _⟩⟩
section
variable {X : Cx} {tg e a b : Expr} {te ta tb : DTE} {p pos : Pos}
theorem di_lst (he : DE X e te) : DI X tg e (fun m Δ n Q => tWLst te m Δ n fun ds n1 => ds.length ≤ sizeLine ∧ Q ds n1) :=
  wkI (pi_list he) fun σ H R ⟨P, H0, fr, av, n, Δ, m, Qd, S, h, k⟩ => lift_at (B := H) m S (SameP.refl P H) h fun v H1 d n1 s1 S1 r1 q1 => by
    cases d <;> first | exact q1.elim | skip
    have r2 := r1
    cases r1 with
    | lst a1 a2 a3 r => exact ⟨_, rfl, ⟨_, SqL.of a1⟩, k _ _ [(_, .lst _)] _ n1 s1 S1.pen (fun g hg => by cases List.mem_singleton.mp hg; exact r2) goes_lst (sz62 q1.1) q1.2⟩
theorem di_tup (he : DE X e te) : DI X tg e (fun m Δ n Q => tWTup te m Δ n fun ds n1 => ds.length ≤ sizeLine ∧ Q ds n1) :=
  wkI (pi_tup he) fun σ H R ⟨P, H0, fr, av, n, Δ, m, Qd, S, h, k⟩ => lift_at (B := H) m S (SameP.refl P H) h fun v H1 d n1 s1 S1 r1 q1 => by
    cases d <;> first | exact q1.elim | skip
    have r2 := r1
    cases r1 with
    | tup a1 a2 r => exact ⟨_, rfl, ⟨_, SqT.of a1⟩, k _ _ [(_, .tup _)] _ n1 s1 S1.pen (fun g hg => by cases List.mem_singleton.mp hg; exact r2) goes_tup (sz62 q1.1) q1.2⟩
/-- a list or a tuple: which of them is said by its data -/
def tWSeq (te : DTE) : DTI := fun m Δ n Q => (te m Δ n fun d n1 => match d with | .lst ds => ds.length ≤ sizeLine ∧ Q ds n1 | _ => False) ∨ (te m Δ n fun d n1 => match d with | .tup ds => ds.length ≤ sizeLine ∧ Q ds n1 | _ => False)
theorem di_seq (he : DE X e te) : DI X tg e (tWSeq te) := ⟨fun pins s σ H R I ⟨P, H0, fr, av, n, Δ, m, Qd, S, h, k⟩ => by
  rcases h with h | h
  · exact (di_lst he).run pins s σ H R I ⟨P, H0, fr, av, n, Δ, m, Qd, S, h, k⟩
  · exact (di_tup he).run pins s σ H R I ⟨P, H0, fr, av, n, Δ, m, Qd, S, h, k⟩⟩
theorem di_rng1 (hg : Gl X "range") (hm : X.mg "range" = none) (he : DE X a te) (hs : starEach [a] X.env = [(false, eval a X.env)] := by rfl) : DI X tg (.Call (.Name "range" p) [a] [] pos) (tWRng1 te) :=
  wkI (pi_range1 hg hm (pa_cons he pa_nil hs) hs) fun σ H R ⟨P, H0, fr, av, n, Δ, m, Qd, S, h, k⟩ => lift_at (B := H) .bor S (SameP.refl P H) h fun v H1 d n1 s1 S1 r1 q1 => by
    cases d <;> first | exact q1.elim | skip
    cases r1
    refine ⟨_, rfl, q1.1, q1.2.1, k _ _ [] _ n1 s1 S1.pen (fun g hg => by cases hg) goes_rng (by rw [rangeD_length]; have := q1.2.1; omega) q1.2.2⟩
theorem di_rng2 (hg : Gl X "range") (hm : X.mg "range" = none) (ha : DE X a ta) (hb : DE X b tb) (hs : starEach [a, b] X.env = [(false, eval a X.env), (false, eval b X.env)] := by rfl) (hs2 : starEach [b] X.env = [(false, eval b X.env)] := by rfl) : DI X tg (.Call (.Name "range" p) [a, b] [] pos) (tWRng2 ta tb) :=
  wkI (pi_range2 hg hm (pa_cons ha (pa_cons hb pa_nil hs2) (by rw [hs, hs2])) hs hs2) fun σ H R ⟨P, H0, fr, av, n, Δ, m, Qd, S, h, k⟩ => lift_at (B := H) .bor S (SameP.refl P H) h fun v H1 d n1 s1 S1 r1 q1 =>
    lift_at (B := H1) .bor S1 (SameP.refl P H1) q1 fun v2 H2 d2 n2 s2 S2 r2 q2 => by
      cases d <;> cases d2 <;> first | exact q2.elim | skip
      cases r1
      cases r2
      obtain ⟨⟨g1, g2, g3, g4, g5⟩, q2⟩ := q2
      exact ⟨_, _, rfl, ⟨g1, g2, g3, g4⟩, k _ _ [] _ n2 (s1.trans s2) S2.pen (fun g hg => by cases hg) goes_rng (by rw [rangeD_length]; omega) q2⟩
end

/-! ### for, while -/
/-- I: what holds ahead of the j-th turn -/
def tForD (ti : DTI) (g : DTG) (tb : DTS) : DTS := fun Dd Δ n => ti .frz Δ n fun items n1 => ∃ I : Nat → DEnv → Nat → Prop, I 0 Δ n1 ∧
  (∀ (j : Nat) (d : D) Δ n, items[j]? = some d → I j Δ n → g d Δ n fun Δ1 n1 => tb { Dd with nx := I (j + 1), ct := I (j + 1), bk := Dd.nx } Δ1 n1) ∧ ∀ Δ n, I items.length Δ n → Dd.nx Δ n
def tWhileD (tc : DTT) (tb : DTS) : DTS := fun Dd Δ n => ∃ I : Nat → DEnv → Nat → Prop, (∃ m, I m Δ n) ∧ ∀ m Δ n, I m Δ n → tc Δ n fun b n1 =>
  if b = true then tb { Dd with nx := fun Δ' n' => ∃ m', m' < m ∧ I m' Δ' n', ct := fun Δ' n' => ∃ m', m' < m ∧ I m' Δ' n', bk := Dd.nx } Δ n1 else Dd.nx Δ n1
section
variable {X : Cx} {tg iter : Expr} {body : List Stmt} {ti : DTI} {g : DTG} {tb : DTS} {pos : Pos}
theorem ds_for (hp : PassesOwn (model X.prog X.w) X.A X.env X.xe) (hc : X.calm = true) (hi : DI X tg iter ti) (hg : PG X tg (liftG g)) (hb : DSs X body tb)
    (hs : ∀ x, foldedSetIterable iter X.env x = pure x := by intro _; rfl) : DS X (.For tg iter body [] pos) (tForD ti g tb) :=
  wkS (ps_for hp hc hi hg hb hs) fun E σ H ⟨P, H0, fr, av, n, Δ, Dd, S, h, k⟩ => by
    refine ⟨P, H0, fr, av, n, Δ, .frz, _, S, h, fun J H' gs items n' s pe rgs goes _ q => ?_⟩
    obtain ⟨I, i0, istep, iend⟩ := q
    refine ⟨fun i m σ2 H2 => m = items.length - i ∧ i ≤ items.length ∧ ∃ Δ2 n2, StR P H0 (gs ++ fr) av n2 σ2 Δ2 H2 ∧ I i Δ2 n2,
      ⟨items.length, by simp, Nat.zero_le _, Δ, n', (S.mono s pe).infr rgs, i0⟩, ?_⟩
    rintro i m σ2 H2 ⟨rfl, hi, Δ2, n2, S2, q2⟩
    have go := goes H2 (NO av σ2 Δ2) S2.pen.some (fun a ha => S2.no_new ha) (fun g hg => S2.gh g (List.mem_append_left _ hg)) i
    by_cases hlt : i < items.length
    · have e1 : items[i]? = some items[i] := List.getElem?_eq_getElem hlt
      obtain ⟨g1, g2⟩ := go.2 _ e1
      refine .inr ⟨g1, fun σ' H' => ∃ Δ' n', StR P H0 (gs ++ fr) av n' σ' Δ' H' ∧ I (i + 1) Δ' n', fun σ' H' ⟨Δ', n', S', q'⟩ => ⟨items.length - (i + 1), by omega, rfl, hlt, Δ', n', S', q'⟩, fun x H3 y => ?_⟩
      obtain ⟨s3, r3⟩ := g2 x H3 y
      refine ⟨P, H0, gs ++ fr, av, n2, Δ2, _, _, S2.mono (.of s3) (S2.pen.same s3), r3, istep i _ Δ2 n2 e1 q2, fun σ' H' Δ' n' S' q' => ?_⟩
      exact ⟨P, H0, gs ++ fr, av, n', Δ', _, S', q', ⟨fun σ'' H'' Δ'' n'' S'' q'' => ⟨Δ'', n'', S'', q''⟩, k.rt, fun σ'' H'' Δ'' n'' S'' q'' => k.nx _ _ _ _ S''.unfr q'', fun σ'' H'' Δ'' n'' S'' q'' => ⟨Δ'', n'', S'', q''⟩⟩⟩
    · have e : i = items.length := by omega
      subst e
      exact .inl ⟨go.1 (Nat.le_refl _), k.nx _ _ _ _ S2.unfr (iend _ _ q2)⟩
theorem ds_while {c : Expr} {tc : DTT} (hp : PassesOwn (model X.prog X.w) X.A X.env X.xe) (hc : DT X c tc) (hb : DSs X body tb) : DS X (.While c body [] pos) (tWhileD tc tb) :=
  wkS (ps_while hp hc hb) fun E σ H ⟨P, H0, fr, av, n, Δ, Dd, S, h, k⟩ => by
    obtain ⟨I, ⟨m0, h0⟩, hI⟩ := h
    refine ⟨fun m σ2 H2 => ∃ Δ2 n2, StR P H0 fr av n2 σ2 Δ2 H2 ∧ I m Δ2 n2, ⟨m0, Δ, n, S, h0⟩, fun m σ2 H2 ⟨Δ2, n2, S2, h2⟩ => ?_⟩
    refine liftT_at S2 (hI m Δ2 n2 h2) fun b H3 n3 s3 S3 q3 => ?_
    cases b with
    | true =>
      refine ⟨fun σ' H' => ∃ Δ' n', StR P H0 fr av n' σ' Δ' H' ∧ ∃ m', m' < m ∧ I m' Δ' n', fun σ' H' ⟨Δ', n', S', m', l, i⟩ => ⟨m', l, Δ', n', S', i⟩, ?_⟩
      exact ⟨P, H0, fr, av, n3, Δ2, _, S3, q3, ⟨fun σ' H' Δ' n' S' q' => ⟨Δ', n', S', q'⟩, k.rt, fun σ' H' Δ' n' S' q' => k.nx _ _ _ _ S' q', fun σ' H' Δ' n' S' q' => ⟨Δ', n', S', q'⟩⟩⟩
    | false => exact k.nx _ _ _ _ S3 q3
end
end Dl

set_option Elab.async false
set_option linter.all false
set_option maxRecDepth 100000
set_option maxHeartbeats 1000000
namespace Dl
open PySem PySem.Spec PyProof.Rows L2

/-! ### defs called where no repr is under way -/
structure FnG (P : Program) (w : World) (K : PySem.W.Frag) (mg : Str → Option Value) (base : Heap) (CX : CXT) (k : Nat) (f : Addr) (fd : FuncData) (ps : List Str) (sp : Sp) : Prop where
  len : ∀ vs H Q E, sp vs H Q E → vs.length = ps.length
  go : ∀ (A : Around) (fs : List Env) (s : Shared) (H : Hp) (ar : Args) (us : List Value) (vs : List V) (Q : VK) (E : XK), Room k A → A.guards = some [] → Env0 P w K mg base A fs s H → BindsTo s fd ar (ps.zip us) → Vals vs us →
    sp vs H Q E → codeAny (model P w) A (.call (.ref f) ar) (CR CX fs P w H s Q E) s
section
variable {P : Program} {w : World} {K : PySem.W.Frag} {mg : Str → Option Value} {base : Heap} {CX : CXT} {k : Nat} {f : Addr} {fd : FuncData} {ps : List Str} {sp : Sp}
theorem FnG.of (F : FnOk P w K mg base CX k f fd ps sp) : FnG P w K mg base CX k f fd ps sp :=
  ⟨F.len, fun A fs s H ar us vs Q E hr _ => F.run A fs s H ar us vs Q E hr⟩
theorem FnG.mono {j : Nat} (F : FnG P w K mg base CX j f fd ps sp) (h : j ≤ k) : FnG P w K mg base CX k f fd ps sp :=
  ⟨F.len, fun A fs s H ar us vs Q E hr => F.go A fs s H ar us vs Q E (hr.mono h)⟩
theorem FnG.imp {sp' : Sp} (F : FnG P w K mg base CX k f fd ps sp) (h : ∀ vs H Q E, sp' vs H Q E → sp vs H Q E) : FnG P w K mg base CX k f fd ps sp' :=
  ⟨fun vs H Q E q => F.len vs H Q E (h _ _ _ _ q), fun A fs s H ar us vs Q E hr hg e0 hb r q => F.go A fs s H ar us vs Q E hr hg e0 hb r (h _ _ _ _ q)⟩
/-- a def of the text, by its body: the body runs where no repr is under way -/
theorem fn_body {x qual : Str} {st : Stmt} {N : List Str} (F : L2.Fun K x qual st f fd) (S : FnScope N ps (defScope st)) (len : ∀ vs H Q E, sp vs H Q E → vs.length = ps.length)
    (hbody : ∀ (cv : Value) (A : Around) (fs : List Env) (s : Shared) (H : Hp) (vs : List V) (Q : VK) (E : XK), Room k (A.deeper (envOfC qual (defScope st) s.heap.objs.size f cv)) → A.guards = some [] → sp vs H Q E →
      ∃ t, PSs (cxOf CX P w K mg base N qual (defScope st) f cv A fs s H E) (defBody st) t ∧ t { nx := fun _ H' => Q .non H', rt := Q } (L2.start N vs) H) :
    FnG P w K mg base CX (k + 1) f fd ps sp := by
  obtain ⟨oc, od, kV, dc, pm, an, cv, ct, sl, rfl, look, code⟩ := F.ex
  constructor
  · exact len
  intro A fs s H ar us vs Q E room gd e0 bind rel hsp
  have nargs := len vs H Q E hsp
  have up : ∀ b o, base.get? b = some o → s.heap.get? b = some o := fun b o e => (e0.bs b o e).1
  have kin : K.In s.heap := e0.mod.kin.keeps up
  have nolim : s.heap.NoLimit := e0.mod.nolimit.keeps up
  refine codeAny_call_function room.depth (kin _ _ look) rfl S.co S.gen rfl (PySem.W.codeRec_of kin code) (bind _ _ _ _ ?_)
  refine wpAny_newFunctionEnv_cells S.kind ?_ ?_
  · rintro ⟨nm, u⟩ hy
    cases S.par nm (List.of_mem_zip hy).1 with
    | inl q => exact .inl q
    | inr q => exact .inr ⟨q, PySem.W.cellsFrom_some _ _ _ (.inl q)⟩
  · intro env he s1 st1
    subst he
    refine ⟨nolim.keeps st1.toInCall.keep, codeAny_func ?_⟩
    obtain ⟨t, der, rd⟩ := hbody cv A fs s H vs Q E (room.deeper _) gd hsp
    have inv := inv_start (CX := CX) (P := P) (w := w) (K := K) (mg := mg) (base := base) (E := E) S room.hd e0 nargs rel st1
    refine wpAny_mono (der.run [] s1 _ H _ inv rd) ?_ (fun _ _ z => z)
    intro fl s' z
    cases fl with
    | ret u =>
      obtain ⟨v, σ', H', J, rv, q⟩ := z
      exact ⟨v, H', J.os, J.bare, J.base, J.hok, rv, q⟩
    | next =>
      obtain ⟨σ', H', J, q⟩ := z
      exact ⟨.non, H', J.os, J.bare, J.base, J.hok, rfl, q⟩
    | brk => exact z.elim fun _ z => z.elim fun _ z => z.2.elim
    | cont => exact z.elim fun _ z => z.elim fun _ z => z.2.elim
end
section
variable {X : Cx} {CX : CXT} {k : Nat} {f : Addr} {fd : FuncData} {ps : List Str} {sp : Sp} {E : XK}
/-- the callee runs, however its arguments are bound -/
theorem run_g {pins : List (Addr × Obj)} {σ : L2.St} {H : Hp} {s : Shared} {Q : VK} {us : List Value} {kw : List (Str × Value)} {all : List Value} {vs : List V} (F : FnG X.prog X.w X.K X.mg X.base CX k f fd ps sp) (hr : Room k X.A) (hgd : X.A.guards = some []) (hx : Passes CX X E)
    (I : Inv X pins σ H s) (hb : BindsTo s fd ⟨us, kw⟩ (ps.zip all)) (r : Vals vs all) (h : sp vs H Q E) : wpAny (model X.prog X.w) X.A (call (.ref f) us kw) (EP X pins σ Q) X.xe s := by
  refine wpAny_call (codeAny_mono (F.go X.A X.stack s H ⟨us, kw⟩ all vs Q E hr hgd I.env0 hb r h) ?_)
  intro res s' z
  match res, z with
  | .error e, z => exact hx pins σ H s e s' I z
  | .ok (.ret u), z => exact I.after z
  | .ok .next, z => exact False.elim z
  | .ok .brk, z => exact False.elim z
  | .ok .cont, z => exact False.elim z
/-- f(e, ..) -/
theorem pe_callG {x : Str} {p pos : Pos} {e : Expr} {es : List Expr} {t : TA} (F : FnG X.prog X.w X.K X.mg X.base CX k f fd ps sp) (hr : Room k X.A) (hgd : X.A.guards = some []) (hg : Gl X x) (hm : X.mg x = some (.ref f)) (hk : PySem.W.keepIn X.K (.ref f) = true) (hb : Binds X.K fd ps [])
    (hx : Passes CX X E) (ha : PA X (e :: es) t) (hdb : (x == ("__debug__" : Str)) = false := by decide) (he : starEach (e :: es) X.env = (false, eval e X.env) :: starEach es X.env := by rfl) (hpl : (backTo pos (starEach es X.env)).any (·.1) = false := by rfl) :
    PE X (.Call (.Name x p) (e :: es) [] pos) (fun σ H Q => t σ H fun vs H1 => sp vs H1 Q E) := by
  constructor
  intro pins s σ H Q I h
  refine wpAny_Call_Name_kw (ld_glob I hg hm ?_ hdb)
  refine PySem.W.callWith_K (h₀ := X.base) I.ok.mod.kin hk (thn (ha.run pos pins s σ H _ I h) ?_) he hpl
  rintro us s1 ⟨vs, H1, I1, r, q⟩
  refine ⟨I1.kIn, ?_⟩
  have nargs : us.length = ps.length := by rw [← r.length]; exact F.len _ _ _ _ q
  have hb' := hb s1 us I1.kIn (by rw [List.append_nil]; exact nargs)
  rw [List.append_nil] at hb'
  exact run_g F hr hgd hx I1 hb' r q
theorem pe_callG0 {x : Str} {p pos : Pos} (F : FnG X.prog X.w X.K X.mg X.base CX k f fd ps sp) (hr : Room k X.A) (hgd : X.A.guards = some []) (hg : Gl X x) (hm : X.mg x = some (.ref f)) (hk : PySem.W.keepIn X.K (.ref f) = true) (hb : Binds X.K fd ps [])
    (hx : Passes CX X E) (hdb : (x == ("__debug__" : Str)) = false := by decide) : PE X (.Call (.Name x p) [] [] pos) (fun σ H Q => sp [] H Q E) := by
  constructor
  intro pins s σ H Q I h
  refine wpAny_Call_Name_kw (ld_glob I hg hm ?_ hdb)
  have nargs : ([] : List V).length = ps.length := F.len _ _ _ _ h
  exact PySem.W.callWith_K0 I.kIn hk (run_g F hr hgd hx I (hb s [] I.kIn nargs) .nil h)
end
end Dl

set_option Elab.async false
set_option linter.all false
set_option maxRecDepth 100000
set_option maxHeartbeats 1000000
namespace Dl
open PySem PySem.Spec PyProof.Rows L2

/-! ### what a def promises, by data -/
abbrev DSp := List D → Nat → (D → Nat → Prop) → Prop
def liftF (sp : DSp) : Sp := fun vs H Q _ => ∃ P n ds Qd, PenOk P n H ∧ RpAll P (fun _ => True) H vs ds ∧ sp ds n Qd ∧
  ∀ v H' d n', SameP P H H' → PenOk P n' H' → Rp P (fun a => H a = none) H' v d → Qd d n' → Q v H'
def startD (N : List Str) (ds : List D) : DEnv := ds.map (fun d => some (.frz d)) ++ List.replicate (N.length - ds.length) none
theorem start_get {N : List Str} {vs : List V} {ds : List D} {P : Addr} {A : Addr → Prop} {H : Hp} (r : RpAll P A H vs ds) (i : Nat) :
    (∀ d, (startD N ds)[i]? = some (some (SV.frz d)) → ∃ v, (L2.start N vs)[i]? = some (some v) ∧ Rp P A H v d) ∧ ∀ es, (startD N ds)[i]? ≠ some (some (SV.own es)) := by
  unfold startD L2.start
  by_cases hi : i < ds.length
  · have e1 : (ds.map (fun d => some (SV.frz d)) ++ List.replicate (N.length - ds.length) none)[i]? = some (some (.frz ds[i])) := by
      rw [List.getElem?_append_left (by simpa using hi), List.getElem?_map, List.getElem?_eq_getElem hi]; rfl
    rw [e1]
    obtain ⟨v, g1, g2⟩ := r.get (List.getElem?_eq_getElem hi)
    refine ⟨fun d e => ?_, fun es e => by cases e⟩
    cases e
    refine ⟨v, ?_, g2⟩
    rw [List.getElem?_append_left (by rw [List.length_map, r.length]; exact hi), List.getElem?_map, g1]; rfl
  · have e1 : ∀ s, (ds.map (fun d => some (SV.frz d)) ++ List.replicate (N.length - ds.length) none)[i]? ≠ some (some s) := fun s e => by
      rw [List.getElem?_append_right (by simpa using hi), List.getElem?_replicate] at e
      split at e <;> cases e
    exact ⟨fun d e => absurd e (e1 _), fun es => e1 _⟩
theorem StR.start {P : Addr} {n : Nat} {N : List Str} {vs : List V} {ds : List D} {H : Hp} (p : PenOk P n H) (r : RpAll P (fun _ => True) H vs ds) : StR P H [] [] n (L2.start N vs) (startD N ds) H where
  p0 := p.some
  pc := by
    obtain ⟨c, t, r, cells, h1, h2, h3, _⟩ := p
    exact ⟨c, t, r, h1, by rw [h2]; simp, h3⟩
  same := SameP.refl P H
  pen := p
  len := by
    unfold L2.start startD
    rw [List.length_append, List.length_append, List.length_map, List.length_map, List.length_replicate, List.length_replicate, r.length]
  frz := fun i d e => by
    obtain ⟨v, g1, g2⟩ := (start_get r i).1 d e
    exact ⟨v, g1, g2.imp fun a o _ _ => ⟨by simp, fun j es e' => absurd e' ((start_get r j).2 es)⟩⟩
  own := fun i ds e => absurd e ((start_get r i).2 ds)
  dis := fun i j p di dj e => absurd e ((start_get r i).2 di)
  gh := fun g hg => by cases hg
  avn := fun a ha => by cases ha

section
variable {P : Program} {w : World} {K : PySem.W.Frag} {mg : Str → Option Value} {base : Heap}
/-- THE RULE for a def: its body's derivation, and its reading over data -/
theorem Fun_dok {x qual : Str} {st : Stmt} {f : Addr} {fd : FuncData} {N ps : List Str} {k : Nat} {sp : DSp} {t : DTS} (F : L2.Fun K x qual st f fd) (S : FnScope N ps (defScope st)) (len : ∀ ds n Q, sp ds n Q → ds.length = ps.length)
    (hbody : ∀ (cv : Value) (A : Around) (fs : List Env) (s : Shared) (H : Hp) (E : XK), Room k (A.deeper (envOfC qual (defScope st) s.heap.objs.size f cv)) → (A.deeper (envOfC qual (defScope st) s.heap.objs.size f cv)).guards = some [] →
      DSs (cxOf CX0 P w K mg base N qual (defScope st) f cv A fs s H E).nox (defBody st) t)
    (hread : ∀ ds n Qd, sp ds n Qd → t { nx := fun _ n' => Qd .non n', rt := Qd } (startD N ds) n) : FnG P w K mg base CX0 (k + 1) f fd ps (liftF sp) := by
  refine fn_body F S (fun vs H Q E h => ?_) (fun cdv A outer s H vs Q E hr hgd h => ?_)
  · obtain ⟨P, n, ds, Qd, p, r, h, _⟩ := h
    rw [r.length]; exact len _ _ _ h
  · obtain ⟨P, n, ds, Qd, p, r, h, kk⟩ := h
    refine ⟨_, PSs.nox (hbody cdv A outer s H E hr hgd), P, H, [], [], n, startD N ds, _, StR.start p r, hread _ _ _ h, ⟨fun σ' H' Δ' n' S' q => ?_, fun v H' d n' s p r q => kk v H' d n' s p r q, fun _ _ _ _ _ q => q, fun _ _ _ _ _ q => q⟩⟩
    exact kk .non H' .non n' S'.same S'.pen .non q
end
def tCallD (sp : DSp) (ta : DTA) : DTE := fun _ Δ n Q => ta .bor Δ n fun ds n1 => sp ds n1 Q
section
variable {X : Cx} {k : Nat} {f : Addr} {fd : FuncData} {ps ks : List Str} {sp : DSp} {x : Str} {p pos : Pos} {e : Expr} {es : List Expr} {kws : List Keyword} {ta tk : DTA}
theorem call_end {vs : List V} {P : Addr} {H0 B : Hp} {fr : List (V × D)} {av : List Addr} {σ : L2.St} {Δ : DEnv} {m : Md} {H H1 : Hp} {n1 : Nat} {ds : List D} {Qd : D → Nat → Prop} {Q : VK} {E : XK} {A : Addr → Prop} (bb : SameP P B H) (s1 : SameP P H H1) (S1 : StR P H0 fr av n1 σ Δ H1) (r1 : RpAll P A H1 vs ds) (q1 : sp ds n1 Qd)
    (k : ∀ v H' d n', SameP P H H' → PenOk P n' H' → Rp P (Al m B H0 av σ Δ) H' v d → Qd d n' → Q v H') : liftF sp vs H1 Q E :=
  ⟨P, n1, ds, Qd, S1.pen, r1.imp fun _ _ _ _ => trivial, q1, fun v H' d n' s p r q => k v H' d n' (s1.trans s) p (r.imp fun a o _ z => Al.new S1 (bb.trans s1) m z) q⟩
theorem d_call (F : FnG X.prog X.w X.K X.mg X.base CX0 k f fd ps (liftF sp)) (hr : Room k X.A) (hgd : X.A.guards = some []) (hg : Gl X x) (hm : X.mg x = some (.ref f)) (hk : PySem.W.keepIn X.K (.ref f) = true) (hb : Binds X.K fd ps [])
    (ha : DA X (e :: es) ta) (hdb : (x == ("__debug__" : Str)) = false := by decide) (he : starEach (e :: es) X.env = (false, eval e X.env) :: starEach es X.env := by rfl) (hpl : (backTo pos (starEach es X.env)).any (·.1) = false := by rfl) :
    DE X (.Call (.Name x p) (e :: es) [] pos) (tCallD sp ta) :=
  wkE (pe_callG F hr hgd hg hm hk hb (pass0 (X := X)) ha hdb he hpl) fun σ H Q ⟨P, H0, B, fr, av, n, Δ, m, Qd, S, bb, h, kk⟩ => liftA_at .bor S bb h fun vs H1 ds n1 s1 S1 r1 q1 => call_end bb s1 S1 r1 q1 kk
theorem d_call0 (F : FnG X.prog X.w X.K X.mg X.base CX0 k f fd ps (liftF sp)) (hr : Room k X.A) (hgd : X.A.guards = some []) (hg : Gl X x) (hm : X.mg x = some (.ref f)) (hk : PySem.W.keepIn X.K (.ref f) = true) (hb : Binds X.K fd ps [])
    (hdb : (x == ("__debug__" : Str)) = false := by decide) : DE X (.Call (.Name x p) [] [] pos) (tCallD sp tNilD) :=
  wkE (pe_callG0 F hr hgd hg hm hk hb (pass0 (X := X)) hdb) fun σ H Q ⟨P, H0, B, fr, av, n, Δ, m, Qd, S, bb, h, kk⟩ => call_end (A := fun _ => True) bb (SameP.refl P H) S .nil h kk
/-- keywords alone, and behind places -/
def DKw (X : Cx) (kws : List Keyword) (t : DTA) : Prop := PK X kws (liftA t)
theorem wkK {kws : List Keyword} {t t' : TA} (h : PK X kws t) (w : ∀ σ H Q, t' σ H Q → t σ H Q) : PK X kws t' := ⟨fun po pins s σ H Q I q => h.run po pins s σ H Q I (w σ H Q q)⟩
theorem dk_nil : DKw X [] tNilD := wkK pk_nil fun σ H Q ⟨P, H0, B, fr, av, n, Δ, m, Qd, S, bb, h, k⟩ => k [] H [] n (SameP.refl P H) S.pen .nil h
theorem dk_cons {nm : Option Str} {kpos : Pos} {te : DTE} {t : DTA} (ha : DE X e te) (hr : DKw X kws t) : DKw X (⟨nm, e, kpos⟩ :: kws) (tConsD te t) :=
  wkK (pk_cons ha hr) fun σ H Q ⟨P, H0, B, fr, av, n, Δ, m, Qd, S, bb, h, k⟩ => lift_at m S bb h fun v H1 d n1 s1 S1 r1 q1 =>
    liftA_at m S1 (bb.trans s1) q1 fun vs H2 ds n2 s2 S2 r2 q2 => k _ H2 _ n2 (s1.trans s2) S2.pen (.cons (r1.same s2) r2) q2
/-- how keywords come to the parameters: pr puts the keywords' values behind the positional ones in order -/
structure KwB (K : PySem.W.Frag) (fd : FuncData) (ps ks : List Str) (pr : List Nat) : Prop where
  to : ∀ (s : Shared) (us ws : List Value), K.In s.heap → us.length + ws.length = ps.length → ws.length = ks.length → BindsTo s fd ⟨us, ks.zip ws⟩ (ps.zip (us ++ pr.filterMap fun i => ws[i]?))
  len : pr.length = ks.length
  lt : ∀ i ∈ pr, i < ks.length
theorem kw_vals {ws : List Value} {zs : List V} (r : Vals zs ws) : ∀ pr : List Nat, Vals (pr.filterMap fun i => zs[i]?) (pr.filterMap fun i => ws[i]?)
  | [] => .nil
  | i :: pr => by
    have t := kw_vals r pr
    cases e : zs[i]? with
    | none =>
      have e2 := r.none_of e
      rw [List.filterMap_cons_none e, List.filterMap_cons_none e2]
      exact t
    | some v =>
      obtain ⟨u, e2, rv⟩ := r.get e
      rw [List.filterMap_cons_some e, List.filterMap_cons_some e2]
      exact .cons rv t
theorem kw_reps {P : Addr} {A : Addr → Prop} {H : Hp} {zs : List V} {ds : List D} (r : RpAll P A H zs ds) : ∀ pr : List Nat, RpAll P A H (pr.filterMap fun i => zs[i]?) (pr.filterMap fun i => ds[i]?)
  | [] => .nil
  | i :: pr => by
    have t := kw_reps r pr
    cases e : ds[i]? with
    | none =>
      have e2 : zs[i]? = none := by
        rw [List.getElem?_eq_none_iff] at e ⊢
        rw [r.length]; exact e
      rw [List.filterMap_cons_none e, List.filterMap_cons_none e2]
      exact t
    | some v =>
      obtain ⟨u, e2, rv⟩ := r.get e
      rw [List.filterMap_cons_some e, List.filterMap_cons_some e2]
      exact .cons rv t
def tCallKD (sp : DSp) (pr : List Nat) (ta tk : DTA) : DTE := fun _ Δ n Q => ta .bor Δ n fun ds n1 => tk .bor Δ n1 fun es n2 => es.length = pr.length ∧ sp (ds ++ pr.filterMap fun i => es[i]?) n2 Q
theorem run_kw {pr : List Nat} {pins : List (Addr × Obj)} {σ : L2.St} {H : Hp} {s : Shared} {Q : VK} {us ws : List Value} {vs zs : List V} (F : FnG X.prog X.w X.K X.mg X.base CX0 k f fd ps (liftF sp)) (hr : Room k X.A) (hgd : X.A.guards = some []) (hb : KwB X.K fd ps ks pr)
    (I : Inv X pins σ H s) (r : Vals vs us) (rz : Vals zs ws) (hl : zs.length = pr.length) (h : liftF sp (vs ++ pr.filterMap fun i => zs[i]?) H Q E0) : wpAny (model X.prog X.w) X.A (call (.ref f) us (ks.zip ws)) (EP X pins σ Q) X.xe s := by
  have r2 : Vals (vs ++ pr.filterMap fun i => zs[i]?) (us ++ pr.filterMap fun i => ws[i]?) := r.append (kw_vals rz pr)
  have hl2 := F.len _ _ _ _ h
  have hw : ws.length = ks.length := by rw [← rz.length, hl, hb.len]
  have full : ∀ l : List Nat, (∀ i ∈ l, i < ws.length) → (l.filterMap fun i => ws[i]?).length = l.length := by
    intro l
    induction l with
    | nil => intro _; rfl
    | cons i l ih =>
      intro hlt
      have e : ws[i]? = some (ws[i]'(hlt i (List.mem_cons_self ..))) := List.getElem?_eq_getElem _
      rw [List.filterMap_cons_some e, List.length_cons, ih fun j hj => hlt j (List.mem_cons_of_mem _ hj), List.length_cons]
  have hl3 : us.length + ws.length = ps.length := by
    rw [← hl2, r2.length, List.length_append, full pr fun i hi => by rw [hw]; exact hb.lt i hi, hb.len, hw]
  exact run_g F hr hgd (pass0 (X := X)) I (hb.to s us ws I.kIn hl3 hw) r2 h
theorem d_callK {pr : List Nat} (F : FnG X.prog X.w X.K X.mg X.base CX0 k f fd ps (liftF sp)) (hr : Room k X.A) (hgd : X.A.guards = some []) (hg : Gl X x) (hm : X.mg x = some (.ref f)) (hk : PySem.W.keepIn X.K (.ref f) = true) (hb : KwB X.K fd ps ks pr)
    (ha : DA X (e :: es) ta) (hkw : DKw X kws tk) (hall : (backToKw pos (keywordEach kws X.env)).all (·.1.isSome) = true := by rfl) (hks : (backToKw pos (keywordEach kws X.env)).filterMap (·.1) = ks := by rfl)
    (hdb : (x == ("__debug__" : Str)) = false := by decide) (he : starEach (e :: es) X.env = (false, eval e X.env) :: starEach es X.env := by rfl)
    (hpl : ((backTo pos (starEach (e :: es) X.env)).any (·.1) || (backToKw pos (keywordEach kws X.env)).any (·.1.isNone)) = false := by rfl) :
    DE X (.Call (.Name x p) (e :: es) kws pos) (tCallKD sp pr ta tk) := by
  refine ⟨fun pins s σ H Q I ⟨P, H0, B, fr, av, n, Δ, m, Qd, S, bb, h, kk⟩ => ?_⟩
  refine wpAny_Call_Name_kw (ld_glob I hg hm ?_ hdb)
  refine PySem.W.callWith_KW (h₀ := X.base) I.ok.mod.kin hk hall (thn (PA.run ha pos pins s σ H _ I (liftA_at (Q := fun vs H1 => liftA tk σ H1 fun zs H2 => zs.length = pr.length ∧ liftF sp (vs ++ pr.filterMap fun i => zs[i]?) H2 Q E0) .bor S bb h fun vs H1 ds n1 s1 S1 r1 q1 => ?_)) fun us s1 ⟨vs, H1, I1, r, q⟩ => ?_) hpl he
  · refine liftA_at .bor S1 (bb.trans s1) q1 fun zs H2 es n2 s2 S2 r2 q2 => ⟨by rw [r2.length]; exact q2.1, ?_⟩
    exact call_end bb (s1.trans s2) S2 ((r1.same s2).append (kw_reps r2 pr)) q2.2 kk
  · refine thn (PK.run hkw pos pins s1 σ H1 _ I1 q) fun ws s2 ⟨zs, H2, I2, rz, q2⟩ => ⟨I2.kIn, ?_⟩
    rw [hks]
    exact run_kw F hr hgd hb I2 r rz q2.1 q2.2
theorem d_callK0 {pr : List Nat} (F : FnG X.prog X.w X.K X.mg X.base CX0 k f fd ps (liftF sp)) (hr : Room k X.A) (hgd : X.A.guards = some []) (hg : Gl X x) (hm : X.mg x = some (.ref f)) (hk : PySem.W.keepIn X.K (.ref f) = true) (hb : KwB X.K fd ps ks pr)
    (hkw : DKw X kws tk) (hall : (backToKw pos (keywordEach kws X.env)).all (·.1.isSome) = true := by rfl) (hks : (backToKw pos (keywordEach kws X.env)).filterMap (·.1) = ks := by rfl)
    (hdb : (x == ("__debug__" : Str)) = false := by decide)
    (hpl : (backToKw pos (keywordEach kws X.env)).any (·.1.isNone) = false := by rfl) :
    DE X (.Call (.Name x p) [] kws pos) (tCallKD sp pr tNilD tk) := by
  refine ⟨fun pins s σ H Q I ⟨P, H0, B, fr, av, n, Δ, m, Qd, S, bb, h, kk⟩ => ?_⟩
  refine wpAny_Call_Name_kw (ld_glob I hg hm ?_ hdb)
  refine PySem.W.callWith_KW0 (h₀ := X.base) (first := []) I.ok.mod.kin hk hall (thn (PK.run hkw pos pins s σ H _ I (liftA_at (Q := fun zs H2 => zs.length = pr.length ∧ liftF sp ([] ++ pr.filterMap fun i => zs[i]?) H2 Q E0) .bor S bb h fun zs H2 es n2 s2 S2 r2 q2 => ⟨by rw [r2.length]; exact q2.1, ?_⟩)) fun ws s2 ⟨zs, H2, I2, rz, q2⟩ => ⟨I2.kIn, ?_⟩) hpl
  · exact call_end (ds := [] ++ pr.filterMap fun i => es[i]?) bb s2 S2 (kw_reps r2 pr) q2.2 kk
  · rw [hks]
    exact run_kw (us := []) (vs := []) F hr hgd hb I2 .nil rz q2.1 q2.2
end
end Dl

set_option Elab.async false
set_option linter.all false
set_option maxRecDepth 100000
set_option maxHeartbeats 1000000
namespace Dl
open PySem PySem.Spec PyProof.Rows L2

/-! ### comprehensions -/
def lcW (i : Nat) (tt : DTT) (te : DTE) (m : Md) (Δ : DEnv) (Q : D → Nat → Prop) : List D → List D → Nat → Prop
  | [], acc, n => Q (.lst acc) n
  | d :: ds, acc, n => tt (Δ.set i (some (.frz d))) n fun b n1 => if b = true then te m (Δ.set i (some (.frz d))) n1 fun y n2 => acc.length < sizeLine ∧ lcW i tt te m Δ Q ds (acc ++ [y]) n2 else lcW i tt te m Δ Q ds acc n1
def tYesD : DTT := fun _ n Q => Q true n
/-- ms: how the walked one is wanted (bor: its items are flat; frz: it stays) -/
def tLcD (ms : Md) (ti : DTI) (i : Nat) (tt : DTT) (te : DTE) : DTE := fun m Δ n Q => (match Δ[i]? with | some (some (.own _)) => False | _ => True) ∧ ti ms Δ n fun items n1 => (match ms with | .frz => True | _ => flatAll items = true) ∧ lcW i tt te m Δ Q items [] n1
section
variable {P : Addr} {H0 B : Hp} {fr : List (V × D)} {av : List Addr} {n n' : Nat} {σ : L2.St} {Δ : DEnv} {H H' : Hp}
theorem no_cons {a b : Addr} : NO (b :: av) σ Δ a ↔ NO av σ Δ a ∧ a ≠ b := by
  unfold NO
  simp only [List.mem_cons, not_or]
  exact ⟨fun ⟨⟨h1, h2⟩, h3⟩ => ⟨⟨h2, h3⟩, h1⟩, fun ⟨⟨h2, h3⟩, h1⟩ => ⟨⟨h1, h2⟩, h3⟩⟩
/-- a new list is under way -/
theorem StR.addav (S : StR P H0 fr av n σ Δ H) {b : Addr} {o : HO} (hb : H b = none) : StR P H0 fr (b :: av) n σ Δ (upd H b o) := by
  have S' := S.mono (SameP.new (o := o) hb) (S.pen.same (same_new hb))
  have st : Stay P (NO av σ Δ) (NO (b :: av) σ Δ) H (upd H b o) := ⟨fun a vs e _ => by rw [upd_ne (ne_of_none e hb)]; exact e, fun a u e _ z => ⟨by rw [upd_ne (ne_of_none e hb)]; exact e, no_cons.mpr ⟨z, ne_of_none e hb⟩⟩⟩
  refine ⟨S.p0, S.pc, S'.same, S'.pen, S.len, fun i d e => ?_, fun i ds e => ?_, S.dis, fun g hg => Rp.stay st _ _ (S.gh g hg), fun a ha => ?_⟩
  · obtain ⟨v, h1, h2⟩ := S.frz i d e
    exact ⟨v, h1, Rp.stay st _ _ h2⟩
  · obtain ⟨p, vs, h1, h2, h3, h4, h5⟩ := S.own i ds e
    refine ⟨p, vs, h1, ?_, h3, by rw [upd_ne (ne_of_none h4 hb)]; exact h4, RpAll.stay st _ _ h5⟩
    simp only [List.mem_cons, not_or]
    exact ⟨ne_of_none h4 hb, h2⟩
  · rcases List.mem_cons.mp ha with e | ha
    · subst e; rw [upd_same]; simp
    · by_cases z : a = b
      · subst z; rw [upd_same]; simp
      · rw [upd_ne z]; exact S.avn a ha
/-- .. it grows -/
theorem stay_av {A : Addr → Prop} {b : Addr} (hA : ∀ a, A a → a ≠ b) {vs : List V} {o : HO} (hb : H b = some (.lst vs)) : Stay P A A H (upd H b o) :=
  ⟨fun a ws e _ => by rw [upd_ne (ne_of e hb (by intro z; cases z))]; exact e, fun a u e _ z => ⟨by rw [upd_ne (hA a z)]; exact e, z⟩⟩
theorem StR.wrav {b : Addr} (S : StR P H0 fr (b :: av) n σ Δ H) {vs : List V} {o : HO} (hb : H b = some (.lst vs)) (h0 : H0 b = none) (hP : b ≠ P) : StR P H0 fr (b :: av) n σ Δ (upd H b o) := by
  have st : Stay P (NO (b :: av) σ Δ) (NO (b :: av) σ Δ) H (upd H b o) := stay_av (fun a z => (no_cons.mp z).2) hb
  refine ⟨S.p0, S.pc, ⟨fun a u e ne => by rw [upd_ne (ne_of_none e h0)]; exact S.same a u e ne, fun c t r e => by rw [upd_ne (Ne.symm hP)]; exact S.same.cel c t r e⟩, ?_, S.len, fun i d e => ?_, fun i ds e => ?_, S.dis, fun g hg => Rp.stay st _ _ (S.gh g hg), fun a ha => ?_⟩
  · obtain ⟨c, t, r', cells, k1, k2, k3, k4⟩ := S.pen
    refine ⟨c, t, r', cells, by rw [upd_ne (Ne.symm hP)]; exact k1, ?_, k3, k4⟩
    have : c ≠ b := fun z => by
      obtain ⟨c', t1, r1, e1, e2, e3⟩ := S.pc
      obtain ⟨t2, r2, e4⟩ := S.same.cel c' t1 r1 e1
      rw [k1] at e4
      cases e4
      exact e2 (z ▸ h0)
    rw [upd_ne this]; exact k2
  · obtain ⟨v, h1, h2⟩ := S.frz i d e
    exact ⟨v, h1, Rp.stay st _ _ h2⟩
  · obtain ⟨p, vs, h1, h2, h3, h4, h5⟩ := S.own i ds e
    exact ⟨p, vs, h1, h2, h3, by rw [upd_ne (show p ≠ b from fun z => h2 (by rw [z]; exact List.mem_cons_self ..))]; exact h4, RpAll.stay st _ _ h5⟩
  · by_cases z : a = b
    · subst z; rw [upd_same]; simp
    · rw [upd_ne z]; exact S.avn a ha
theorem al_cons {m : Md} {b a : Addr} (h : Al m B H0 (b :: av) σ Δ a) : Al m B H0 av σ Δ a ∧ a ≠ b := by
  cases m with
  | bor => simp only [Al, List.mem_cons, not_or] at h ⊢; exact ⟨h.2, h.1⟩
  | frz => exact no_cons.mp h
  | ret => simp only [Al, List.mem_cons, not_or] at h ⊢; exact ⟨⟨h.1.2, h.2⟩, h.1.1⟩
  | new => simp only [Al, List.mem_cons, not_or] at h ⊢; exact ⟨⟨h.1.2, h.2⟩, h.1.1⟩
theorem al_unset {m : Md} {a : Addr} {i : Nat} {x : V} {d : D} (hno : match Δ[i]? with | some (some (.own _)) => False | _ => True) (h : Al m B H0 av (σ.set i (some x)) (Δ.set i (some (.frz d))) a) : Al m B H0 av σ Δ a := by
  cases m with
  | frz =>
    refine ⟨h.1, fun j ds e => ?_⟩
    have hj : i ≠ j := fun z => by subst z; rw [e] at hno; exact hno
    have := h.2 j ds (by rw [List.getElem?_set_ne hj]; exact e)
    rw [List.getElem?_set_ne hj] at this
    exact this
  | bor => exact h
  | ret => exact h
  | new => exact h
end
def Asr (ms : Md) (av : List Addr) (σ : L2.St) (Δ : DEnv) (a : Addr) : Prop := match ms with | .frz => NO av σ Δ a | _ => True
theorem lift_lc {ms : Md} {ti : DTI} {i : Nat} {tt : DTT} {te : DTE} {σ : L2.St} {H : Hp} {Q : VK} (h : lift (tLcD ms ti i tt te) σ H Q) : tLc (liftI ti) (gName i) (liftT tt) (lift te) [i] σ H Q := by
  obtain ⟨P, H0, B, fr, av, n, Δ, m, Qd, S, bb, ⟨hno, h⟩, k⟩ := h
  refine ⟨P, H0, fr, av, n, Δ, ms, _, S, h, fun J H1 gs items n1 s1 p1 rgs goes _ q Db hD => ?_⟩
  obtain ⟨hms, q⟩ := q
  have S1 := S.mono s1 p1
  have bP : Db ≠ P := S1.neP hD
  have b0 : H0 Db = none := S1.old hD
  -- the walked one's reps
  have S2 : StR P H0 fr (Db :: av) n1 σ Δ (upd H1 Db (.lst [])) := S1.addav hD
  have rg2 : ∀ g ∈ gs, Rp P (fun a => Asr ms av σ Δ a ∧ a ≠ Db) (upd H1 Db (.lst [])) g.1 g.2 := fun g hg => by
    refine Rp.stay ⟨fun a vs e _ => by rw [upd_ne (ne_of_none e hD)]; exact e, fun a u e _ z => ⟨by rw [upd_ne (ne_of_none e hD)]; exact e, ?_, ne_of_none e hD⟩⟩ _ _ (rgs g hg)
    cases ms with
    | frz => exact z
    | bor => trivial
    | ret => trivial
    | new => trivial
  refine ⟨fun j mm H2 => mm = items.length - j ∧ j ≤ items.length ∧ ∃ vacc acc n2, H2 Db = some (.lst vacc) ∧ RpAll P (Al m B H0 (Db :: av) σ Δ) H2 vacc acc ∧ SameP P H1 H2 ∧ StR P H0 fr (Db :: av) n2 σ Δ H2 ∧
    (∀ g ∈ gs, Rp P (fun a => Asr ms av σ Δ a ∧ a ≠ Db) H2 g.1 g.2) ∧ lcW i tt te m Δ Qd (items.drop j) acc n2, ⟨items.length, by simp, Nat.zero_le _, [], [], n1, upd_same, .nil, SameP.new hD, S2, rg2, by rw [List.drop_zero]; exact q⟩, ?_⟩
  rintro j mm H2 ⟨rfl, hj, vacc, acc, n2, hacc, racc, s2, S2, rg2, q2⟩
  have go := goes H2 (fun a => Asr ms av σ Δ a ∧ a ≠ Db) S2.pen.some (fun a ha => by
    have z := no_cons.mp (S2.no_new ha)
    refine ⟨?_, z.2⟩
    cases ms with
    | frz => exact z.1
    | bor => trivial
    | ret => trivial
    | new => trivial) rg2 j
  by_cases hlt : j < items.length
  · have e1 : items[j]? = some items[j] := List.getElem?_eq_getElem hlt
    rw [List.drop_eq_getElem_cons hlt] at q2
    obtain ⟨g1, g2⟩ := go.2 _ e1
    refine .inr ⟨g1, fun H' => ∃ vacc acc n2, H' Db = some (.lst vacc) ∧ RpAll P (Al m B H0 (Db :: av) σ Δ) H' vacc acc ∧ SameP P H1 H' ∧ StR P H0 fr (Db :: av) n2 σ Δ H' ∧
      (∀ g ∈ gs, Rp P (fun a => Asr ms av σ Δ a ∧ a ≠ Db) H' g.1 g.2) ∧ lcW i tt te m Δ Qd (items.drop (j + 1)) acc n2, fun H' ⟨va, ac, nn, z⟩ => ⟨items.length - (j + 1), by omega, rfl, hlt, va, ac, nn, z⟩, fun x H3 y => ?_⟩
    obtain ⟨s3, r3⟩ := g2 x H3 y
    show wipe ((wipe σ [i]).set i (some x)) [i] = wipe σ [i] ∧ liftT tt ((wipe σ [i]).set i (some x)) H3 _
    have es : (wipe σ [i]).set i (some x) = σ.set i (some x) := by show (σ.set i none).set i (some x) = _; rw [List.set_set]
    rw [es]
    refine ⟨by show (σ.set i (some x)).set i none = σ.set i none; rw [List.set_set], ?_⟩
    have S3 := S2.mono (.of s3) (S2.pen.same s3)
    have r3' : Rp P (NO (Db :: av) σ Δ) H3 x items[j] := by
      cases ms with
      | frz => exact r3.imp fun a _ _ z => no_cons.mpr ⟨z.1, z.2⟩
      | bor => exact Rp.flat _ _ (flatAll_iff.mp hms _ (List.getElem_mem hlt)) r3
      | ret => exact Rp.flat _ _ (flatAll_iff.mp hms _ (List.getElem_mem hlt)) r3
      | new => exact Rp.flat _ _ (flatAll_iff.mp hms _ (List.getElem_mem hlt)) r3
    have S3' := S3.setF i r3'
    have b3 : SameP P B H3 := (bb.trans s1).trans (s2.trans (.of s3))
    refine liftT_at S3' q2 fun b H4 n4 s4 S4 q4 => ?_
    -- back to the slots as they were
    have back : ∀ {H5 : Hp} {n5 : Nat}, SameP P H3 H5 → PenOk P n5 H5 → StR P H0 fr (Db :: av) n5 σ Δ H5 := fun s p => S3.mono s p
    have rgk : ∀ {H5 : Hp}, SameP P H3 H5 → ∀ g ∈ gs, Rp P (fun a => Asr ms av σ Δ a ∧ a ≠ Db) H5 g.1 g.2 := fun s g hg => ((rg2 g hg).same (.of s3)).same s
    cases b with
    | false => exact ⟨vacc, acc, n4, s4 _ _ (s3 _ _ hacc) bP, (racc.same (.of s3)).same s4, (s2.trans (.of s3)).trans s4, back s4 S4.pen, rgk s4, q4⟩
    | true =>
      refine lift_at m S4 (b3.trans s4) q4 fun v H5 d n5 s5 S5 r5 q5 => ?_
      have s45 := s4.trans s5
      have h5 : H5 Db = some (.lst vacc) := s45 _ _ (s3 _ _ hacc) bP
      have racc5 : RpAll P (Al m B H0 (Db :: av) σ Δ) H5 vacc acc := (racc.same (.of s3)).same s45
      refine ⟨vacc, h5, by rw [racc.length]; exact q5.1, vacc ++ [v], acc ++ [d], n5, upd_same, ?_, ?_, (back s45 S5.pen).wrav h5 b0 bP, fun g hg => ?_, q5.2⟩
      · refine RpAll.stay (stay_av (fun a z => (al_cons z).2) h5) _ _ (racc5.append (.cons ?_ .nil))
        exact r5.imp fun a _ _ z => al_unset hno z
      · have s25 := (s2.trans (.of s3)).trans s45
        exact ⟨fun a o e ne => by rw [upd_ne (ne_of_none e hD)]; exact s25 a o e ne, fun c t r e => by rw [upd_ne (Ne.symm bP)]; exact s25.cel c t r e⟩
      · exact Rp.stay (stay_av (fun a z => z.2) h5) _ _ (rgk s45 g hg)
  · have e : j = items.length := by omega
    subst e
    rw [List.drop_length] at q2
    exact .inl ⟨go.1 (Nat.le_refl _), k _ _ _ n2 (s1.trans s2) S2.pen (.lst hacc bP (Al.new S1 (bb.trans s1) m hD) (racc.imp fun a _ _ z => (al_cons z).1)) q2⟩
end Dl

set_option Elab.async false
set_option linter.all false
set_option maxRecDepth 100000
set_option maxHeartbeats 1000000
namespace Dl
open PySem PySem.Spec PyProof.Rows L2

/-! ### comprehensions as expressions and statements -/
section
variable {X : Cx}
theorem dts_nil : PTs X [] (liftT tYesD) := ⟨fun pins s σ H Q I ⟨P, H0, fr, av, n, Δ, Qd, S, h, k⟩ => pts_nil.run pins s σ H Q I (k true H n (SameP.refl P H) S.pen h)⟩
theorem dts_one {c : Expr} {t : DTT} (h : DT X c t) : PTs X [c] (liftT t) := pts_one h
theorem d_lc {elt tg iter : Expr} {ifs : List Expr} {scope : Scope} {i : Nat} {x : Str} {pos : Pos} {ti : DTI} {tt : DTT} {te : DTE} (ms : Md) (hc : X.calm = true) (hN : X.N.Nodup) (hi : DI X tg iter ti) (ok : BlkOk X.N X.env.scope scope [(x, i)])
    (hg : ∀ (s : Shared) (H : Hp) (C : Addr) (cl : List (Str × Addr)) (fp : List Addr), PG (X.blk s H scope (compEnvC scope cl C X.env) fp) tg (gName i)) (ht : ∀ (s : Shared) (H : Hp) (C : Addr) (cl : List (Str × Addr)) (fp : List Addr), PTs (X.blk s H scope (compEnvC scope cl C X.env) fp) ifs (liftT tt))
    (he : ∀ (s : Shared) (H : Hp) (C : Addr) (cl : List (Str × Addr)) (fp : List Addr), DE (X.blk s H scope (compEnvC scope cl C X.env) fp) elt te) (hs : ∀ x, foldedSetIterable iter X.env x = pure x := by intro _; rfl) :
    DE X (.ListComp elt [⟨tg, iter, ifs, 0⟩] scope pos) (tLcD ms ti i tt te) :=
  wkE (pe_lc (own := [(x, i)]) hc hN hi ok hg ht he hs) fun σ H Q h => lift_lc h
/-- y = [..] on one line -/
theorem ps_lcW {elt tg iter : Expr} {ifs : List Expr} {scope : Scope} {i j : Nat} {x y : Str} {pos py spos : Pos} {ti : DTI} {tt : DTT} {te : DTE} (hc : X.calm = true) (hN : X.N.Nodup) (hy : X.N[j]? = some y) (hyl : X.env.scope.names.lookup y = some .local)
    (hsw : swapsWith (.ListComp elt [⟨tg, iter, ifs, 0⟩] scope pos) (some (.Name y py)) spos.line X.env = pure true) (hi : DI X tg iter ti) (ok : BlkOk X.N X.env.scope scope [(x, i)])
    (hg : ∀ (s : Shared) (H : Hp) (C : Addr) (cl : List (Str × Addr)) (fp : List Addr), PG (X.blk s H scope (compEnvC scope cl C X.env) fp) tg (gName i)) (ht : ∀ (s : Shared) (H : Hp) (C : Addr) (cl : List (Str × Addr)) (fp : List Addr), PTs (X.blk s H scope (compEnvC scope cl C X.env) fp) ifs (liftT tt))
    (he : ∀ (s : Shared) (H : Hp) (C : Addr) (cl : List (Str × Addr)) (fp : List Addr), DE (X.blk s H scope (compEnvC scope cl C X.env) fp) elt te) (hs : ∀ x, foldedSetIterable iter X.env x = pure x := by intro _; rfl) :
    PS X (.Assign [.Name y py] (.ListComp elt [⟨tg, iter, ifs, 0⟩] scope pos) spos) (tAsg (tLc (liftI ti) (gName i) (liftT tt) (lift te) [i]) (gName j)) :=
  ps_setLc (own := [(x, i)]) hc hN hy hyl hsw hi ok hg ht he hs
theorem ds_lcF {st : Stmt} {i j : Nat} {ti : DTI} {tt : DTT} {te : DTE} (ms : Md) (h : PS X st (tAsg (tLc (liftI ti) (gName i) (liftT tt) (lift te) [i]) (gName j))) : DS X st (tSetD j (tLcD ms ti i tt te)) :=
  wkS h (asg_F fun _ _ _ h => lift_lc h)
theorem ds_lcO {st : Stmt} {i j : Nat} {ti : DTI} {tt : DTT} {te : DTE} (ms : Md) (h : PS X st (tAsg (tLc (liftI ti) (gName i) (liftT tt) (lift te) [i]) (gName j))) : DS X st (tOwnD j (tLcD ms ti i tt te)) :=
  wkS h (asg_O fun _ _ _ h => lift_lc h)
end
/-- a comprehension without a test whose element is a function of its item -/
theorem lcW_map {i : Nat} {tt : DTT} {te : DTE} {m : Md} {Δ : DEnv} {Q : D → Nat → Prop} (f : D → D) (htt : tt = tYesD) : ∀ (ds acc : List D) (n : Nat), acc.length + ds.length ≤ sizeLine →
    (∀ d ∈ ds, ∀ n' Q', Q' (f d) n' → te m (Δ.set i (some (.frz d))) n' Q') → Q (.lst (acc ++ ds.map f)) n → lcW i tt te m Δ Q ds acc n
  | [], acc, n, _, _, q => by rw [List.map_nil, List.append_nil] at q; exact q
  | d :: ds, acc, n, hz, h, q => by
    subst htt
    rw [List.length_cons] at hz
    refine h d (List.mem_cons_self ..) n _ ⟨by omega, lcW_map f rfl ds (acc ++ [f d]) n ?_ (fun d' hd' => h d' (List.mem_cons_of_mem _ hd')) ?_⟩
    · rw [List.length_append, List.length_singleton]; omega
    · rw [List.append_assoc]; exact q
/-- .. with a test -/
theorem lcW_filter {i : Nat} {tt : DTT} {te : DTE} {m : Md} {Δ : DEnv} {Q : D → Nat → Prop} (p : D → Bool) (f : D → D) : ∀ (ds acc : List D) (n : Nat), acc.length + ds.length ≤ sizeLine →
    (∀ d ∈ ds, ∀ n' Q', Q' (p d) n' → tt (Δ.set i (some (.frz d))) n' Q') → (∀ d ∈ ds, p d = true → ∀ n' Q', Q' (f d) n' → te m (Δ.set i (some (.frz d))) n' Q') → Q (.lst (acc ++ (ds.filter p).map f)) n → lcW i tt te m Δ Q ds acc n
  | [], acc, n, _, _, _, q => by rw [List.filter_nil, List.map_nil, List.append_nil] at q; exact q
  | d :: ds, acc, n, hz, h1, h2, q => by
    rw [List.length_cons] at hz
    refine h1 d (List.mem_cons_self ..) n _ ?_
    cases hp : p d with
    | true =>
      rw [if_pos rfl]
      refine h2 d (List.mem_cons_self ..) hp n _ ⟨by omega, lcW_filter p f ds (acc ++ [f d]) n ?_ (fun d' hd' => h1 d' (List.mem_cons_of_mem _ hd')) (fun d' hd' => h2 d' (List.mem_cons_of_mem _ hd')) ?_⟩
      · rw [List.length_append, List.length_singleton]; omega
      · rw [List.filter_cons_of_pos hp, List.map_cons] at q
        rw [List.append_assoc]; exact q
    | false =>
      rw [if_neg Bool.false_ne_true]
      refine lcW_filter p f ds acc n (by omega) (fun d' hd' => h1 d' (List.mem_cons_of_mem _ hd')) (fun d' hd' => h2 d' (List.mem_cons_of_mem _ hd')) ?_
      rw [List.filter_cons_of_neg (by rw [hp]; exact Bool.false_ne_true)] at q
      exact q
/-- .. whose elements are drawn: R tells of them -/
theorem lcW_any {i : Nat} {tt : DTT} {te : DTE} {m : Md} {Δ : DEnv} {Q : D → Nat → Prop} (htt : tt = tYesD) (R : List D → Nat → Prop) : ∀ (ds acc : List D) (n : Nat), acc.length + ds.length ≤ sizeLine → R acc n →
    (∀ d ∈ ds, ∀ acc n' Q', acc.length < sizeLine → R acc n' → (∀ y n'', R (acc ++ [y]) n'' → Q' y n'') → te m (Δ.set i (some (.frz d))) n' Q') → (∀ acc' n', acc'.length = acc.length + ds.length → R acc' n' → Q (.lst acc') n') → lcW i tt te m Δ Q ds acc n
  | [], acc, n, _, r, _, q => q acc n (by simp) r
  | d :: ds, acc, n, hz, r, h, q => by
    subst htt
    rw [List.length_cons] at hz
    refine h d (List.mem_cons_self ..) acc n _ (by omega) r fun y n'' r' => ⟨by omega, lcW_any rfl R ds (acc ++ [y]) n'' ?_ r' (fun d' hd' => h d' (List.mem_cons_of_mem _ hd')) fun acc' n' hl => ?_⟩
    · rw [List.length_append, List.length_singleton]; omega
    · refine q acc' n' ?_
      rw [hl, List.length_append, List.length_singleton, List.length_cons]; omega

/-! ### built-ins -/
def drLen : DRn := fun ds Q => match ds with | [.str z] => z.length ≤ sizeLine ∧ Q (.int z.length) | [.lst l] => Q (.int l.length) | [.tup l] => Q (.int l.length) | [.byt z] => z.size ≤ sizeLine ∧ Q (.int z.size) | _ => False
theorem sn_len {K : PySem.W.Frag} : SndN (fun xs H Q => ∃ x n, xs = [x] ∧ LenV K x H n ∧ Q (.int n) H) drLen := fun P A B H xs ds Q Qd p0 nA r h k => by
  match ds, r, h with
  | [.str z], .cons r .nil, h => cases r; exact ⟨_, _, rfl, ⟨h.1, rfl⟩, k _ H _ (Same.refl H) (.int _) h.2⟩
  | [.byt z], .cons r .nil, h => cases r; exact ⟨_, _, rfl, ⟨h.1, rfl⟩, k _ H _ (Same.refl H) (.int _) h.2⟩
  | [.lst l], .cons r .nil, h =>
    cases r with
    | lst a1 a2 a3 r => exact ⟨_, _, rfl, .inl ⟨_, SqL.of a1, rfl⟩, k _ H _ (Same.refl H) (by rw [r.length]; exact .int _) h⟩
  | [.tup l], .cons r .nil, h =>
    cases r with
    | tup a1 a2 r => exact ⟨_, _, rfl, .inr ⟨_, SqT.of a1, rfl⟩, k _ H _ (Same.refl H) (by rw [r.length]; exact .int _) h⟩
def drStrI : DRn := fun ds Q => match ds with | [.int i] => i.natAbs.log2 < 1920 ∧ Q (.str (toString i)) | _ => False
theorem sn_strI : SndN (fun xs H Q => ∃ i, xs = [.int i] ∧ i.natAbs.log2 < 1920 ∧ Q (.str (toString i)) H) drStrI := fun P A B H xs ds Q Qd p0 nA r h k => by
  match ds, r, h with
  | [.int z], .cons r .nil, h => cases r; exact ⟨_, rfl, h.1, k _ H _ (Same.refl H) (.str _) h.2⟩
def drInt : DRn := fun ds Q => match ds with | [.int i] => Q (.int i) | [.bl b] => Q (.int (if b then 1 else 0)) | _ => False
theorem sn_int : SndN (fun xs H Q => (∃ i, xs = [.int i] ∧ Q (.int i) H) ∨ ∃ k, xs = [.bl k] ∧ Q (.int (if k then 1 else 0)) H) drInt := fun P A B H xs ds Q Qd p0 nA r h k => by
  match ds, r, h with
  | [.int z], .cons r .nil, h => cases r; exact .inl ⟨_, rfl, k _ H _ (Same.refl H) (.int _) h⟩
  | [.bl z], .cons r .nil, h => cases r; exact .inr ⟨_, rfl, k _ H _ (Same.refl H) (.int _) h⟩
def drAbs : DRn := fun ds Q => match ds with | [.int i] => Q (.int (if i < 0 then -i else i)) | _ => False
theorem sn_abs : SndN (fun xs H Q => ∃ i, xs = [.int i] ∧ Q (.int (if i < 0 then -i else i)) H) drAbs := fun P A B H xs ds Q Qd p0 nA r h k => by
  match ds, r, h with
  | [.int z], .cons r .nil, h => cases r; exact ⟨_, rfl, k _ H _ (Same.refl H) (.int _) h⟩
def drSum : DRn := fun ds Q => ∃ ns : List Int, ds = [.lst (ns.map D.int)] ∧ Q (.int ns.sum)
theorem sn_sum {K : PySem.W.Frag} : SndN (rSum K) drSum := fun P A B H xs ds Q Qd p0 nA r h k => by
  obtain ⟨ns, rfl, h⟩ := h
  match r with
  | .cons (.lst a1 a2 a3 r) .nil => exact ⟨_, ns, rfl, by rw [← r.ints]; exact SqL.of a1, k _ H _ (Same.refl H) (.int _) h⟩
def drAll : DRn := fun ds Q => ∃ bs : List Bool, ds = [.lst (bs.map D.bl)] ∧ Q (.bl (bs.all id))
def drAny : DRn := fun ds Q => ∃ bs : List Bool, ds = [.lst (bs.map D.bl)] ∧ Q (.bl (bs.any id))
theorem sn_all {K : PySem.W.Frag} : SndN (rAll K) drAll := fun P A B H xs ds Q Qd p0 nA r h k => by
  obtain ⟨ns, rfl, h⟩ := h
  match r with
  | .cons (.lst a1 a2 a3 r) .nil => exact ⟨_, ns, rfl, by rw [← r.bls]; exact SqL.of a1, k _ H _ (Same.refl H) (.bl _) h⟩
theorem sn_any {K : PySem.W.Frag} : SndN (rAny K) drAny := fun P A B H xs ds Q Qd p0 nA r h k => by
  obtain ⟨ns, rfl, h⟩ := h
  match r with
  | .cons (.lst a1 a2 a3 r) .nil => exact ⟨_, ns, rfl, by rw [← r.bls]; exact SqL.of a1, k _ H _ (Same.refl H) (.bl _) h⟩
def drTup : DRn := fun ds Q => match ds with | [.lst l] => flatAll l = true ∧ Q (.tup l) | [.tup l] => flatAll l = true ∧ Q (.tup l) | _ => False
theorem sn_tup {K : PySem.W.Frag} : SndN (fun xs H Q => ∃ p ys, xs = [.ref p] ∧ ((SqL K H p ys ∧ ∀ l, H l = none → Q (.ref l) (upd H l (.tup ys))) ∨ (SqT K H p ys ∧ Q (.ref p) H))) drTup := fun P A B H xs ds Q Qd p0 nA r h k => by
  match ds, r, h with
  | [.lst l], .cons (.lst a1 a2 a3 r) .nil, h =>
    exact ⟨_, _, rfl, .inl ⟨SqL.of a1, fun p hp => k _ _ _ (same_new hp) (.tup upd_same (ne_P p0 hp) (rp_upd hp (fun _ _ _ z => z) (RpAll.flat _ _ h.1 r))) h.2⟩⟩
  | [.tup l], .cons (.tup a1 a2 r) .nil, h => exact ⟨_, _, rfl, .inr ⟨SqT.of a1, k _ H _ (Same.refl H) (.tup a1 a2 (RpAll.flat _ _ h.1 r)) h.2⟩⟩
def drList : DRn := fun ds Q => match ds with | [.lst l] => flatAll l = true ∧ Q (.lst l) | [.tup l] => flatAll l = true ∧ Q (.lst l) | _ => False
theorem sn_list {K : PySem.W.Frag} : SndN (fun xs H Q => ∃ p ys, xs = [.ref p] ∧ (SqL K H p ys ∨ SqT K H p ys) ∧ ∀ l, H l = none → Q (.ref l) (upd H l (.lst ys))) drList := fun P A B H xs ds Q Qd p0 nA r h k => by
  match ds, r, h with
  | [.lst l], .cons (.lst a1 a2 a3 r) .nil, h =>
    exact ⟨_, _, rfl, .inl (SqL.of a1), fun p hp => k _ _ _ (same_new hp) (.lst upd_same (ne_P p0 hp) (nA p hp) (rp_upd hp (fun _ _ _ z => z) (RpAll.flat _ _ h.1 r))) h.2⟩
  | [.tup l], .cons (.tup a1 a2 r) .nil, h =>
    exact ⟨_, _, rfl, .inr (SqT.of a1), fun p hp => k _ _ _ (same_new hp) (.lst upd_same (ne_P p0 hp) (nA p hp) (rp_upd hp (fun _ _ _ z => z) (RpAll.flat _ _ h.1 r))) h.2⟩
def drSorted : DRn := fun ds Q => ∃ ns : List Int, ds = [.lst (ns.map D.int)] ∧ ∀ ns' : List Int, ns'.Perm ns → ns'.Pairwise (· ≤ ·) → Q (.lst (ns'.map D.int))
theorem sn_sorted {K : PySem.W.Frag} : SndN (rSortedI K) drSorted := fun P A B H xs ds Q Qd p0 nA r h k => by
  obtain ⟨ns, rfl, h⟩ := h
  match r with
  | .cons (.lst a1 a2 a3 r) .nil =>
    exact ⟨_, ns, rfl, by rw [← r.ints]; exact SqL.of a1, fun ns' p h1 h2 hp => k _ _ _ (same_new hp) (.lst upd_same (ne_P p0 hp) (nA p hp) (RpAll.of_ints ns')) (h ns' h1 h2)⟩
/-- s.join(xs) -/
def tJoinD (to te : DTE) : DTE := fun _ Δ n Q => to .bor Δ n fun x n1 => match x with | .str a => te .bor Δ n1 fun y n2 => ∃ ys : List Str, y = .lst (ys.map D.str) ∧ (ys.map (·.length)).sum + ys.length * a.length ≤ 16777216 ∧ Q (.str (Txt.join a ys)) n2 | _ => False
section
variable {X : Cx} {e : Expr} {to te : DTE}
theorem d_join (h : PE X e (tM1 (fun x xs H Q => ∃ a p, ∃ ys : List Str, x = .str a ∧ xs = [.ref p] ∧ (SqL X.K H p (ys.map V.str) ∨ SqT X.K H p (ys.map V.str)) ∧ (ys.map (·.length)).sum + ys.length * a.length ≤ 16777216 ∧ Q (.str (Txt.join a ys)) H) (lift to) (lift te))) :
    DE X e (tJoinD to te) := wkE h fun σ H Q ⟨P, H0, B, fr, av, n, Δ, m, Qd, S, bb, h, k⟩ => lift_at .bor S bb h fun v H1 d n1 s1 S1 r1 q1 => by
  cases d <;> first | exact q1.elim | skip
  cases r1
  refine ⟨⟨_, rfl⟩, lift_at .bor S1 (bb.trans s1) q1 fun v2 H2 d2 n2 s2 S2 r2 q2 => ?_⟩
  obtain ⟨ys, rfl, hz, q⟩ := q2
  cases r2 with
  | lst a1 a2 a3 r => exact ⟨_, _, ys, rfl, rfl, .inl (by rw [← r.strs]; exact SqL.of a1), hz, k _ H2 _ n2 (s1.trans s2) S2.pen (.str _) q⟩
/-- x or y, by truth: texts -/
def tOrSD (ta tb : DTE) : DTE := fun m Δ n Q => ta .bor Δ n fun x n1 => match x with | .str z => z.length ≤ sizeLine ∧ if z.length = 0 then tb m Δ n1 Q else Q (.str z) n1 | _ => False
theorem d_orS {a b : Expr} {rest : List Expr} {pos : Pos} {ta tb : DTE} (ha : DE X a ta) (hb : DE X (.BoolOp .Or (b :: rest) pos) tb) : DE X (.BoolOp .Or (a :: b :: rest) pos) (tOrSD ta tb) :=
  wkE (pe_orT ha hb) fun σ H Q ⟨P, H0, B, fr, av, n, Δ, m, Qd, S, bb, h, k⟩ => lift_at .bor S bb h fun v H1 d n1 s1 S1 r1 q1 => by
    cases d <;> first | exact q1.elim | skip
    rename_i z
    cases r1
    obtain ⟨hz, q1⟩ := q1
    refine ⟨_, ⟨hz, rfl⟩, ?_⟩
    by_cases h0 : z.length = 0
    · rw [if_pos h0] at q1
      rw [h0]
      exact lift_at m S1 (bb.trans s1) q1 fun v H2 d n2 s2 S2 r2 q2 => k v H2 d n2 (s1.trans s2) S2.pen r2 q2
    · rw [if_neg h0] at q1
      rw [if_pos (by simp; omega)]
      exact k _ H1 _ n1 s1 S1.pen (.str _) q1
end
end Dl

set_option Elab.async false
set_option linter.all false
set_option maxRecDepth 100000
set_option maxHeartbeats 1000000
namespace Dl
open PySem PySem.Spec PyProof.Rows L2

/-! ### repr, isinstance -/
/- how long a text of it is at most -/
mutual
def szD : D → Nat
  | .non => 4
  | .bl _ => 5
  | .int i => ((toString i : String) : Str).length
  | .str x => (reprText x).length
  | .tup ds => 4 + szDs ds
  | .lst ds => 4 + szDs ds
  | _ => 0
def szDs : List D → Nat
  | [] => 0
  | d :: ds => 2 + szD d + szDs ds
end
/-- ints that are shown, no dict, not deep -/
def rpOk (d : D) : Prop := pyb d = true ∧ (toPy d).showable = true ∧ (toPy d).hasDict = false ∧ (toPy d).depth ≤ 60 ∧ (toPy d).shown.length ≤ sizeLine
def rRepr (K : PySem.W.Frag) : List V → Hp → VK → Prop := fun xs H Q => ∃ x d, xs = [x] ∧ Dp K H x d ∧ d.showable = true ∧ d.hasDict = false ∧ d.depth ≤ 60 ∧ d.shown.length ≤ sizeLine ∧ Q (.str d.shown) H
theorem call_repr {X : Cx} (hu : X.A.units + 64 < cLine) (hg : X.A.guards = some []) : CallR X (.builtin "repr") (rRepr X.K) := by
  intro pins s σ H xs us Q I r h
  obtain ⟨x, d, rfl, dp, h1, h2, h3, h4, q⟩ := h
  cases r with
  | cons r rr =>
    cases rr
    rename_i u
    obtain ⟨as, rd⟩ := Dp.reads I d x u dp r
    have fin : ∀ (h' : Heap) (t : Tok) (tk : Nat), (∀ b o, s.heap.get? b = some o → h'.get? b = some o) → EP X pins σ Q (.str d.shown t) { s with heap := h', toks := tk } := fun h' t tk k => ⟨.str d.shown, H, I.kept k, ⟨t, rfl⟩, q⟩
    cases dp with
    | non => cases r; simp only [PyData.shown] at fin; exact P.repr_of_none (fin s.heap _ _ fun _ _ e => e)
    | bl b => cases r; simp only [PyData.shown] at fin; exact P.repr_of_bool (fin s.heap _ _ fun _ _ e => e)
    | int i =>
      obtain ⟨t, rfl⟩ := r
      simp only [PyData.shown] at fin
      exact P.repr_of_int (by simpa [PyData.showable] using h1) (fin s.heap _ _ fun _ _ e => e)
    | str z =>
      obtain ⟨t, rfl⟩ := r
      simp only [PyData.shown] at fin h4
      exact P.repr_of_str (fin s.heap _ _ fun _ _ e => e) h4
    | lst a b =>
      cases r
      exact repr_of_reads' rd h1 (fun e => by rw [h2] at e; cases e) hg (by omega) (fun _ _ e => e) (fun h' t tk k => fin h' t tk k) h4
    | tup a b =>
      cases r
      exact repr_of_reads' rd h1 (fun e => by rw [h2] at e; cases e) hg (by omega) (fun _ _ e => e) (fun h' t tk k => fin h' t tk k) h4
@[irreducible] def shownD (d : D) : Str := (toPy d).shown
def drRepr : DRn := fun ds Q => match ds with | [d] => rpOk d ∧ Q (.str (shownD d)) | _ => False
theorem sn_repr {K : PySem.W.Frag} : SndN (rRepr K) drRepr := fun P A B H xs ds Q Qd p0 nA r h k => by
  match ds, r, h with
  | [d], .cons r .nil, ⟨⟨h1, h2, h3, h4, h5⟩, h⟩ => exact ⟨_, _, rfl, Rp.dp d _ h1 r, h2, h3, h4, h5, k _ H _ (Same.refl H) (.str _) (by unfold shownD at h; exact h)⟩
def tyD : D → Option String
  | .non => some "NoneType"
  | .bl _ => some "bool"
  | .int _ => some "int"
  | .str _ => some "str"
  | .byt _ => some "bytes"
  | .tup _ => some "tuple"
  | .lst _ => some "list"
  | _ => none
def drIsi : DRn := fun ds Q => match ds with | [d, .opq (.ty T)] => ∃ t b, tyD d = some t ∧ kitB t T = some b ∧ Q (.bl b) | _ => False
theorem tyD_V {K : PySem.W.Frag} {P : Addr} {B : Addr → Prop} {H : Hp} {x : V} {d : D} {t : String} (r : Rp P B H x d) (h : tyD d = some t) : TyX K H x (.type t) := by
  cases r <;> simp only [tyD, Option.some.injEq, reduceCtorEq] at h <;> subst h
  · exact .base .non
  · exact .base (.bl _)
  · exact .base (.int _)
  · exact .base (.str _)
  · exact .byt _
  · rename_i a vs ds h1 h2 h3; exact .base (.tup h1)
  · rename_i a vs ds h1 h2 h3 h4; exact .base (.lst h1)
theorem sn_isi {K : PySem.W.Frag} : SndN (rIsi K) drIsi := fun P A B H xs ds Q Qd p0 nA r h k => by
  match ds, r, h with
  | [d, .opq (.ty T)], .cons r (.cons r2 .nil), ⟨t, b, h1, h2, h⟩ =>
    cases r2
    exact ⟨_, _, _, _, b, rfl, .ty T, tyD_V r h1, kit_ty h2, k _ H _ (Same.refl H) (.bl _) h⟩
theorem d_bltn {X : Cx} {x : Str} {T : String} {pos : Pos} (hg : Gl X x) (hm : X.mg x = none) (hv : bootBuiltins x = some (.type T)) (hn : x ≠ "__name__" := by decide) (hd : (x == ("__debug__" : Str)) = false := by decide) : DE X (.Name x pos) (tCD (.opq (.ty T))) :=
  wkE (pe_bltn (v := .ty T) hg hm hv rfl hn hd) fun _ _ _ h => lift_c rfl (fun _ _ _ => .opq _) h

/-! ### a law's end -/
def spLaw (K : PySem.W.Frag) : Sp := fun vs H Q _ => ∃ (a : Addr) (ns : List Int), vs = [.ref a] ∧ SqL K H a (ns.map V.int) ∧ ns.length ≤ 63 ∧ ∀ H', Q (.bl true) H'
/-- the law's call behind the top, where the script is tracked as the object that it is, or is one of the module's own -/
theorem law_callG {P : Program} {w : World} {K : PySem.W.Frag} {mg mb : Str → Option Value} {k : Nat} {fa a : Addr} {fd : FuncData} {x : Str} {s₁ : Shared} {vs : List Value} {ns : List Int}
    (kin : K.In s₁.heap) (gl : s₁.heap.Ns mainGlobals mg) (bl : s₁.heap.Ns builtinsNs mb) (hbb : ∀ y : Str, y ≠ "__name__" → mb y = bootBuiltins y) (nol : s₁.heap.NoLimit) (gens : s₁.gens = #[])
    (scr : s₁.heap.get? a = some { cls := .type "list", data := .seq vs.toArray }) (isI : IntsAre vs ns) (few : ns.length ≤ 63) (hr : Room k callerA)
    (F : ∀ base : Heap, K.In base → base.Ns mainGlobals mg → FnG P w K mg base CX0 k fa fd [x] (spLaw K)) (bind : ∀ (s : Shared) (u : Value), BindsTo s fd ⟨[u], []⟩ [(x, u)]) :
    codeAny (model P w) callerA (.call (.ref fa) ⟨[.ref a], []⟩) (fun r s' => r = .ok (.ret (.bool true)) ∧ OldK s₁.heap s'.heap ∧ s'.os = s₁.os ∧ AllBare s'.gens) s₁ := by
  have rv := vals_ints isI
  -- H tracks at most the script, as what is known to the object
  suffices core : ∀ H : Hp, (∀ b u, H b = some u → b = a ∧ ∃ o xs, u = .frz o (.lst xs)) → SqL K H a (ns.map V.int) → HOk P w H s₁.heap → (H a ≠ none → K.lookup a = none) →
      codeAny (model P w) callerA (.call (.ref fa) ⟨[.ref a], []⟩) (fun r s' => r = .ok (.ret (.bool true)) ∧ OldK s₁.heap s'.heap ∧ s'.os = s₁.os ∧ AllBare s'.gens) s₁ by
    cases own : K.lookup a with
    | some o =>
      have e := kin a o own
      rw [scr] at e
      cases e
      refine core (fun _ => none) (fun b u z => by cases z) ?_ (fun b u z => by cases (show (none : Option HO) = some u from z)) (fun z => absurd rfl z)
      exact .inr ⟨_, vs.toArray, _, own, rfl, rfl, rfl, by rw [List.size_toArray, isI.length]; exact Nat.le_trans few (by decide), by simpa using rv⟩
    | none =>
      refine core (fun b => if b = a then some (.frz { cls := .type "list", data := .seq vs.toArray } (.lst (ns.map V.int))) else none) ?_ ?_ ?_ (fun _ => own)
      · intro b u z
        by_cases q : b = a
        · have z2 := (if_pos q).symm.trans z
          cases z2
          exact ⟨q, _, _, rfl⟩
        · have z2 := (if_neg q).symm.trans z
          cases z2
      · exact .inl (.inr ⟨{ cls := .type "list", data := .seq vs.toArray }, if_pos rfl⟩)
      · intro b u z
        by_cases q : b = a
        · have z2 := (if_pos q).symm.trans z
          cases z2
          subst q
          exact ⟨scr, by rw [List.length_map]; exact Nat.le_trans few (by decide), vs, _, rv, scr⟩
        · have z2 := (if_neg q).symm.trans z
          cases z2
  intro H only seq ok apart
  have untracked : ∀ {b : Addr} {o : Obj}, s₁.heap.get? b = some o → (b = a → False) → (hidT s₁.heap H).get? b = some o := fun {b o} e ne => hidT_get e (by
    cases q : H b with
    | none => rfl
    | some u => exact (ne (only b u q).1).elim)
  have nsA : ∀ {b : Addr} {m : Str → Option Value}, s₁.heap.Ns b m → (hidT s₁.heap H).Ns b m := fun {b m} z => by
    obtain ⟨o, es, ep, e, d, rest⟩ := z
    refine ⟨o, es, ep, untracked e (fun q => ?_), d, rest⟩
    subst q
    rw [scr] at e
    cases e
    cases (show Data.seq vs.toArray _ = Data.dict es ep from d)
  have kinA : K.In (hidT s₁.heap H) := fun b o e => hidT_get (kin b o e) (by
    cases q : H b with
    | none => rfl
    | some u =>
      have eb := (only b u q).1
      subst eb
      rw [apart (by rw [q]; simp)] at e
      cases e)
  have modA : Mod K mg (hidT s₁.heap H) := ⟨kinA, nsA gl, ⟨mb, nsA bl, hbb⟩, nol.elim fun mc z => ⟨mc, nsA z.1, z.2⟩⟩
  have e0 : Env0 P w K mg (hidT s₁.heap H) callerA [] s₁ H :=
    { frames := rfl, mod := modA, bs := fun b o e => of_hidT e, bsz := Nat.le_of_eq (hidT_size _ _), funs := trivial, frf := fun b hb => absurd (show b ∈ ([] : List Addr) from hb) (by simp), hok := ok, bare := .of_eq gens }
  refine codeAny_mono ((F _ kinA (nsA gl)).go callerA [] s₁ H ⟨[.ref a], []⟩ [.ref a] [.ref a] (fun v _ => v = .bl true) (fun _ _ _ => False) hr rfl e0 (bind s₁ (.ref a)) (.cons rfl .nil) ⟨a, ns, rfl, seq, few, fun _ => rfl⟩) ?_
  intro r s' z
  match r, z with
  | .error e, z => exact (show False from z).elim
  | .ok .next, z => exact False.elim z
  | .ok .brk, z => exact False.elim z
  | .ok .cont, z => exact False.elim z
  | .ok (.ret u), z =>
    obtain ⟨v, H', os, bare, un, ok', rel, q⟩ := z
    cases (show v = .bl true from q)
    cases (show u = Value.bool true from rel)
    refine ⟨rfl, OldK.of_keep fun b o e => ?_, os, bare⟩
    cases q : H b with
    | none => exact un.keep b o e q (fun z => absurd (show b ∈ ([] : List Addr) from z) (by simp)) (by simp)
    | some u =>
      obtain ⟨_, ob, xs, rfl⟩ := only b u q
      have e1 := (ok b _ q).1
      have e2 := (ok' b _ (un.frzs b ob _ q)).1
      rw [e] at e1
      cases e1
      exact e2
theorem walkG {l : PySem.W.OpenLaw} {k : Nat} {q : Program} {loose : List Str} {XP : (Str → Option Value) → Heap → Prop} {YP : World → Heap → Prop} {d : DefRec} {K : Params → PySem.W.Frag}
    (hn : l.most = some 63) (hdf : d.params.defaults = []) (hr : Room k callerA) (hY : ∀ (w : World) (h : Heap), YP w h → (K w.params).In h)
    (F : ∀ (w : World) (mg : Str → Option Value) (fa : Addr) (h : Heap), (K w.params).In h → h.Ns mainGlobals mg → mg d.name = some (.ref fa) →
      ∃ fd : FuncData, (∀ (s : Shared) (u : Value), BindsTo s fd ⟨[u], []⟩ [("script", u)]) ∧
        ∀ base : Heap, (K w.params).In base → base.Ns mainGlobals mg → FnG l.prog w (K w.params) mg base CX0 k fa fd ["script"] (spLaw (K w.params))) :
    PySem.W.WalkO q loose XP YP l.row.toRowW d [] (fun f vs => PySem.call f vs) := by
  refine Att.attach_call hn hdf ?_
  intro w s₀ s₁ mg mb fa o pm cd doc a vs ns G Y ho hd hcd hmg hobj hints hlen hg
  obtain ⟨fd, hb, hF⟩ := F w mg fa _ (hY w _ Y) G.T.g hmg
  exact law_callG (hY w _ Y) G.T.g G.T.b G.T.builtins G.T.nolimit hg hobj hints hlen hr hF hb
end Dl

set_option Elab.async false
set_option linter.all false
set_option maxRecDepth 100000
set_option maxHeartbeats 1000000
namespace Dl
open PySem PySem.Spec PyProof.Rows L2

/-! ### + and * whatever the kinds; a def as its callers know it -/
def drAdd : DR2 := fun x y Q => match x, y with
  | .int i, .int j => Q (.int (i + j))
  | .str i, .str j => i.length + j.length ≤ sizeLine ∧ Q (.str (i ++ j))
  | .lst i, .lst j => i.length + j.length ≤ sizeLine ∧ flatAll i = true ∧ flatAll j = true ∧ Q (.lst (i ++ j))
  | .tup i, .tup j => i.length + j.length ≤ sizeLine ∧ flatAll i = true ∧ flatAll j = true ∧ Q (.tup (i ++ j))
  | _, _ => False
abbrev rAddU (K : PySem.W.Frag) : R2 := fun x y H Q => (rI0 (fun i j => .int (i + j))) x y H Q ∨ (fun x y H Q => (fun x y H Q => ∃ i j, x = .str i ∧ y = .str j ∧ i.length + j.length ≤ sizeLine ∧ Q (.str (i ++ j)) H) x y H Q ∨ (fun x y H Q => rCat x y H Q ∨ rCatA K x y H Q) x y H Q) x y H Q
theorem op_addU {X : Cx} : OpR X (binaryOp .Add) (rAddU X.K) := op_add.or (op_add_str.or (op_cat.or op_catA))
theorem sn_add {K : PySem.W.Frag} : Snd2 (rAddU K) drAdd := fun P A B H x y d e Q Qd p0 nA rx ry h k => by
  cases d <;> cases e <;> first | exact h.elim | skip
  · exact .inl (sn_I0 (g := fun i j => i + j) P A B H x y _ _ Q Qd p0 nA rx ry h k)
  · exact .inr (.inl (sn_addS P A B H x y _ _ Q Qd p0 nA rx ry h k))
  · exact .inr (.inr (.inr (sn_catT P A B H x y _ _ Q Qd p0 nA rx ry h k)))
  · exact .inr (.inr (.inl (sn_catL P A B H x y _ _ Q Qd p0 nA rx ry h k)))
def drMul : DR2 := fun x y Q => match x, y with
  | .int i, .int j => CMul i j ∧ Q (.int (i * j))
  | .lst i, .int j => -(2 ^ 63) ≤ j ∧ j < 2 ^ 63 ∧ i.length * j.toNat ≤ sizeLine ∧ flatAll i = true ∧ Q (.lst (List.replicate j.toNat i).flatten)
  | _, _ => False
theorem op_mulU {X : Cx} : OpR X (binaryOp .Mult) (fun x y H Q => (rI CMul (fun i j => .int (i * j))) x y H Q ∨ rRep x y H Q) := op_mul.or op_rep
theorem sn_mul : Snd2 (fun x y H Q => (rI CMul (fun i j => .int (i * j))) x y H Q ∨ rRep x y H Q) drMul := fun P A B H x y d e Q Qd p0 nA rx ry h k => by
  cases d <;> cases e <;> first | exact h.elim | skip
  · exact .inl (sn_I (g := fun i j => i * j) P A B H x y _ _ Q Qd p0 nA rx ry h k)
  · exact .inr (sn_rep P A B H x y _ _ Q Qd p0 nA rx ry h k)
abbrev drSub := drI0 (fun i j => i - j)
abbrev drMod := drI (fun _ j => 0 < j) (fun i j => i % j)
abbrev drDiv := drI CDiv (fun i j => i / j)
abbrev drPow := drI CPow (fun i j => i ^ j.toNat)
abbrev drLt := drB0 (fun i j => decide (i < j))
abbrev drLe := drB0 (fun i j => decide (i ≤ j))
abbrev drGt := drB0 (fun i j => decide (j < i))
abbrev drGe := drB0 (fun i j => decide (j ≤ i))
theorem sn_sub : Snd2 (rI0 fun i j => .int (i - j)) drSub := sn_I0
theorem sn_mod : Snd2 (rI (fun _ j => 0 < j) fun i j => .int (i % j)) drMod := sn_I
theorem sn_div : Snd2 (rI CDiv fun i j => .int (i / j)) drDiv := sn_I
theorem sn_pow : Snd2 (rI CPow fun i j => .int (i ^ j.toNat)) drPow := sn_I
theorem sn_lt : Snd2 (rI0 fun i j => .bl (decide (i < j))) drLt := sn_B0
theorem sn_le : Snd2 (rI0 fun i j => .bl (decide (i ≤ j))) drLe := sn_B0
theorem sn_gt : Snd2 (rI0 fun i j => .bl (decide (j < i))) drGt := sn_B0
theorem sn_ge : Snd2 (rI0 fun i j => .bl (decide (j ≤ i))) drGe := sn_B0

/-- a def of the module as its callers know it -/
structure Cal (P : Program) (w : World) (K : PySem.W.Frag) (mg : Str → Option Value) (base : Heap) (x : Str) (k : Nat) (ps : List Str) (kws : List (List Str × List Nat)) (sp : Sp) : Prop where
  ex : ∃ (f : Addr) (fd : FuncData), mg x = some (.ref f) ∧ PySem.W.keepIn K (.ref f) = true ∧ Binds K fd ps [] ∧ (∀ q ∈ kws, KwB K fd ps q.1 q.2) ∧ FnG P w K mg base CX0 k f fd ps sp
section
variable {X : Cx} {k : Nat} {ps ks : List Str} {kw : List (List Str × List Nat)} {sp : DSp} {x : Str} {p pos : Pos} {e : Expr} {es : List Expr} {kws : List Keyword} {ta tk : DTA} {pr : List Nat}
theorem d_cal (c : Cal X.prog X.w X.K X.mg X.base x k ps kw (liftF sp)) (hr : Room k X.A) (hgd : X.A.guards = some []) (ha : DA X (e :: es) ta) (hg : Gl X x := by rfl)
    (hdb : (x == ("__debug__" : Str)) = false := by decide) (he : starEach (e :: es) X.env = (false, eval e X.env) :: starEach es X.env := by rfl) (hpl : (backTo pos (starEach es X.env)).any (·.1) = false := by rfl) :
    DE X (.Call (.Name x p) (e :: es) [] pos) (tCallD sp ta) := by
  obtain ⟨f, fd, h1, h2, h3, h4, F⟩ := c.ex
  exact d_call F hr hgd hg h1 h2 h3 ha hdb he hpl
theorem d_cal0 (c : Cal X.prog X.w X.K X.mg X.base x k ps kw (liftF sp)) (hr : Room k X.A) (hgd : X.A.guards = some []) (hg : Gl X x := by rfl) (hdb : (x == ("__debug__" : Str)) = false := by decide) :
    DE X (.Call (.Name x p) [] [] pos) (tCallD sp tNilD) := by
  obtain ⟨f, fd, h1, h2, h3, h4, F⟩ := c.ex
  exact d_call0 F hr hgd hg h1 h2 h3 hdb
theorem d_calK (pr : List Nat) (ks : List Str) (hq : (ks, pr) ∈ kw) (c : Cal X.prog X.w X.K X.mg X.base x k ps kw (liftF sp)) (hr : Room k X.A) (hgd : X.A.guards = some []) (ha : DA X (e :: es) ta) (hkw : DKw X kws tk) (hg : Gl X x := by rfl)
    (hall : (backToKw pos (keywordEach kws X.env)).all (·.1.isSome) = true := by rfl) (hks : (backToKw pos (keywordEach kws X.env)).filterMap (·.1) = ks := by rfl)
    (hdb : (x == ("__debug__" : Str)) = false := by decide) (he : starEach (e :: es) X.env = (false, eval e X.env) :: starEach es X.env := by rfl)
    (hpl : ((backTo pos (starEach (e :: es) X.env)).any (·.1) || (backToKw pos (keywordEach kws X.env)).any (·.1.isNone)) = false := by rfl) :
    DE X (.Call (.Name x p) (e :: es) kws pos) (tCallKD sp pr ta tk) := by
  obtain ⟨f, fd, h1, h2, h3, h4, F⟩ := c.ex
  exact d_callK F hr hgd hg h1 h2 (h4 _ hq) ha hkw hall hks hdb he hpl
theorem d_calK0 (pr : List Nat) (ks : List Str) (hq : (ks, pr) ∈ kw) (c : Cal X.prog X.w X.K X.mg X.base x k ps kw (liftF sp)) (hr : Room k X.A) (hgd : X.A.guards = some []) (hkw : DKw X kws tk) (hg : Gl X x := by rfl)
    (hall : (backToKw pos (keywordEach kws X.env)).all (·.1.isSome) = true := by rfl) (hks : (backToKw pos (keywordEach kws X.env)).filterMap (·.1) = ks := by rfl)
    (hdb : (x == ("__debug__" : Str)) = false := by decide)
    (hpl : (backToKw pos (keywordEach kws X.env)).any (·.1.isNone) = false := by rfl) :
    DE X (.Call (.Name x p) [] kws pos) (tCallKD sp pr tNilD tk) := by
  obtain ⟨f, fd, h1, h2, h3, h4, F⟩ := c.ex
  exact d_callK0 F hr hgd hg h1 h2 (h4 _ hq) hkw hall hks hdb hpl
end
end Dl

set_option Elab.async false
set_option linter.all false
set_option maxRecDepth 100000
set_option maxHeartbeats 1000000
namespace Dl
open PySem PySem.Spec PyProof.Rows L2
def tNeverD : DTS := fun _ _ _ => False
section
variable {X : Cx} {st : Stmt}
theorem ds_never : DS X st tNeverD := wkS ps_never fun E σ H ⟨P, H0, fr, av, n, Δ, Dd, S, h, k⟩ => h
end
abbrev tWL (te : DTE) : DTI := fun m Δ n Q => tWLst te m Δ n fun ds n1 => ds.length ≤ sizeLine ∧ Q ds n1
abbrev tWT (te : DTE) : DTI := fun m Δ n Q => tWTup te m Δ n fun ds n1 => ds.length ≤ sizeLine ∧ Q ds n1
section
variable {P : Program} {w : World} {K : PySem.W.Frag} {mg : Str → Option Value} {base : Heap}
/-- keywords' values come behind the positional ones -/
theorem kwb_of {x qual : Str} {st : Stmt} {f : Addr} {fd : FuncData} {ps ks : List Str} {pr : List Nat} (np : Nat) (F : L2.Fun K x qual st f fd) (hl : pr.length = ks.length) (hlt : ∀ i ∈ pr, i < ks.length) (hn : np + ks.length = ps.length)
    (h : ∀ (kV doc pm : Value) (an : Option Addr) (cdv ct : Value) (us ws : List Value), us.length = np → ws.length = ks.length →
      bindArgs (PySem.W.fnOf x qual (defArgs st) (defBody st) (defScope st) .none kV doc pm an cdv ct) ⟨us, ks.zip ws⟩ = pure (ps.zip (us ++ pr.filterMap fun i => ws[i]?))) : KwB K fd ps ks pr := by
  obtain ⟨oc, od, kV, doc, pm, an, cdv, ct, osl, rfl, lk, hcd⟩ := F.ex
  exact ⟨fun s us ws _ h1 h2 => .of_eq (h kV doc pm an cdv ct us ws (by omega) h2), hl, hlt⟩
theorem pe_cal {X : Cx} {k : Nat} {ps : List Str} {kw : List (List Str × List Nat)} {sp : Sp} {x : Str} {p pos : Pos} {e : Expr} {es : List Expr} {t : TA} (c : Cal X.prog X.w X.K X.mg X.base x k ps kw sp) (hr : Room k X.A) (hgd : X.A.guards = some []) (ha : PA X (e :: es) t) (hg : Gl X x := by rfl)
    (hdb : (x == ("__debug__" : Str)) = false := by decide) (he : starEach (e :: es) X.env = (false, eval e X.env) :: starEach es X.env := by rfl) (hpl : (backTo pos (starEach es X.env)).any (·.1) = false := by rfl) :
    PE X (.Call (.Name x p) (e :: es) [] pos) (fun σ H Q => t σ H fun vs H1 => sp vs H1 Q E0) := by
  obtain ⟨f, fd, h1, h2, h3, h4, F⟩ := c.ex
  exact pe_callG F hr hgd hg h1 h2 h3 pass0 ha hdb he hpl
def spPen (K : PySem.W.Frag) : Sp := fun vs H Q _ => ∃ (a : Addr) (ns : List Int), vs = [.ref a] ∧ SqL K H a (ns.map V.int) ∧ ns.length ≤ 63 ∧ ∀ H' p, Same H H' → H p = none → PenOk p 0 H' → Q (.ref p) H'
/-- a law: the pen is made, the rest is over data -/
theorem law_ok {st : Stmt} {f : Addr} {fd : FuncData} {N : List Str} {k : Nat} {t : DTS} (F : L2.Fun K "law" "law" st f fd) (S : FnScope N ["script"] (defScope st))
    (hbody : ∀ (cv : Value) (A : Around) (fs : List Env) (s : Shared) (H : Hp) (E : XK), Room k (A.deeper (envOfC "law" (defScope st) s.heap.objs.size f cv)) → (A.deeper (envOfC "law" (defScope st) s.heap.objs.size f cv)).guards = some [] →
      PSs (cxOf CX0 P w K mg base N "law" (defScope st) f cv A fs s H E).nox (defBody st) (tSeq (tAsg (fun σ H Q => (tCons (tVar 0) tNil) σ H fun vs H1 => spPen K vs H1 Q E0) (gName 1)) (liftS t)))
    (hread : ∀ v : V, t { nx := fun _ _ => False, rt := fun d _ => d = .bl true } ((startD N [.opq v]).set 1 (some (.frz .pen))) 0) : FnG P w K mg base CX0 (k + 1) f fd ["script"] (spLaw K) := by
  refine fn_body F S (fun vs H Q E h => ?_) (fun cdv A outer s H vs Q E hr hgd h => ?_)
  · obtain ⟨a, ns, rfl, _⟩ := h
    rfl
  · obtain ⟨a, ns, rfl, hS, hl, q⟩ := h
    refine ⟨_, PSs.nox (hbody cdv A outer s H E hr hgd), ?_⟩
    have e0 : (L2.start N [V.ref a])[0]? = some (some (V.ref a)) := rfl
    refine ⟨_, e0, a, ns, rfl, hS, hl, fun H1 p s1 hp pen => ?_⟩
    have S1 : StR p H1 [] [] 0 (L2.start N [V.ref a]) (startD N [.opq (.ref a)]) H1 := StR.start pen (.cons (.opq _) .nil)
    refine ⟨p, H1, [], [], 0, _, _, S1.setF 1 .pen, hread _, ⟨fun _ _ _ _ _ z => z.elim, fun v H' d n' s p r z => ?_, fun _ _ _ _ _ z => z, fun _ _ _ _ _ z => z⟩⟩
    subst z
    cases r
    exact q H'
end
end Dl

set_option Elab.async false
set_option linter.all false
set_option maxRecDepth 100000
set_option maxHeartbeats 1000000
/-! What is drawn: the specs of the laws' own drawing defs; houses, standings as data. -/
namespace Dl
open PySem PySem.Spec PyProof.Rows L2

abbrev lim : Nat := 4000000
def spPick : DSp := fun ds n Q => ∃ u : Int, ds = [.pen, .int u] ∧ 0 < u ∧ u < 1073741824 ∧ n < lim ∧ ∀ z : Int, 0 ≤ z → z < u → Q (.int z) (n + 1)
theorem pick_use {Pn : Addr} {n : Nat} {u : Int} {H : Hp} {Q : VK} {E : XK} (pen : PenOk Pn n H) (h0 : 0 < u) (h1 : u < 1073741824) (hn : n < lim) (h : ∀ z H', 0 ≤ z → z < u → SameP Pn H H' → PenOk Pn (n + 1) H' → Q (.int z) H') :
    liftF spPick [.ref Pn, .int u] H Q E :=
  ⟨Pn, n, [.pen, .int u], fun d n' => n' = n + 1 ∧ ∃ z : Int, d = .int z ∧ 0 ≤ z ∧ z < u, pen, .cons .pen (.cons (.int u) .nil), ⟨u, rfl, h0, h1, hn, fun z z0 z1 => ⟨rfl, z, rfl, z0, z1⟩⟩, fun v H' d n' s p r q => by
    obtain ⟨rfl, z, rfl, z0, z1⟩ := q
    cases r
    exact h z H' z0 z1 s p⟩

/-! ### houses and standings as data -/
abbrev Hs := List (List Int)
def encI (r : List Int) : D := .tup (r.map D.int)
def encH (h : Hs) : D := .tup (h.map encI)
def encS (b : List Int) (at' : Int) : D := .tup [encI b, .int at']
theorem flat_encI (r : List Int) : flat (encI r) = true := by
  show flat (.tup (r.map D.int)) = true
  simp only [flat]
  exact flat_ints r
theorem flat_encH (h : Hs) : flat (encH h) = true := by
  show flat (.tup (h.map encI)) = true
  simp only [flat]
  exact flatAll_map flat_encI h
theorem flat_encS (b : List Int) (a : Int) : flat (encS b a) = true := by
  show flat (.tup [encI b, .int a]) = true
  simp only [flat, flatAll, flat_encI]; rfl
/-- rooms with the ends of so many wires, each end once -/
structure IsHs (h : Hs) (rooms wires : Nat) : Prop where
  len : h.length = rooms
  perm : h.flatten.Perm ((List.range (2 * wires)).map fun (k : Nat) => (k : Int))
def spPlan : DSp := fun ds n Q => ∃ rooms wires : Nat, ds = [.pen, .int rooms, .int wires] ∧ 1 ≤ rooms ∧ rooms ≤ 100 ∧ wires ≤ 100 ∧ n + 4 * wires ≤ lim ∧ ∀ h, IsHs h rooms wires → Q (encH h) (n + 4 * wires)

/-! ### plan, by hand: a list of lists that grow -/
abbrev RowAt (H : Hp) : Addr → List Int → Prop := fun a r => H a = some (.lst (r.map V.int))
abbrev RowsAt (H : Hp) : List Addr → List (List Int) → Prop := Paired (RowAt H)
theorem RowsAt.get {H : Hp} : ∀ {as : List Addr} {rs : List (List Int)} {j : Nat} {a : Addr}, RowsAt H as rs → as[j]? = some a → ∃ r, rs[j]? = some r ∧ RowAt H a r
  | _, _, _, _, .nil, e => by simp at e
  | _, _, 0, _, .cons r _, e => by simp at e; subst e; exact ⟨_, rfl, r⟩
  | _, _, j + 1, a, .cons _ t, e => by
    obtain ⟨u, h1, h2⟩ := RowsAt.get (j := j) (a := a) t (by simpa using e)
    exact ⟨u, by simpa using h1, h2⟩
theorem RowsAt.imp {H H' : Hp} : ∀ {as : List Addr} {rs : List (List Int)}, RowsAt H as rs → (∀ a ∈ as, ∀ o, H a = some o → H' a = some o) → RowsAt H' as rs
  | _, _, .nil, _ => .nil
  | _, _, .cons r t, f => .cons (f _ (List.mem_cons_self ..) _ r) (RowsAt.imp t fun a ha => f a (List.mem_cons_of_mem _ ha))
theorem RowsAt.upd {H : Hp} {a : Addr} {r : List Int} : ∀ {as : List Addr} {rs : List (List Int)} {j : Nat}, RowsAt H as rs → as.Nodup → as[j]? = some a → RowsAt (upd H a (.lst (r.map V.int))) as (rs.set j r)
  | _, _, _, .nil, _, e => by simp at e
  | b :: as, _, 0, .cons _ t, nd, e => by
    simp at e; subst e
    rw [List.nodup_cons] at nd
    exact .cons upd_same (RowsAt.imp t fun c hc o ho => by rw [upd_ne (show c ≠ b from fun z => nd.1 (by rw [← z]; exact hc))]; exact ho)
  | b :: as, _, j + 1, .cons q t, nd, e => by
    rw [List.nodup_cons] at nd
    have e' : as[j]? = some a := by simpa using e
    refine .cons ?_ (RowsAt.upd t nd.2 e')
    show Dl.RowAt (L2.upd H a _) b _
    unfold RowAt
    rw [upd_ne (show b ≠ a from fun z => nd.1 (by rw [z]; exact List.mem_of_getElem? e'))]; exact q
theorem RowsAt.push {H : Hp} {a : Addr} {r : List Int} : ∀ {as : List Addr} {rs : List (List Int)}, RowsAt H as rs → RowAt H a r → RowsAt H (as ++ [a]) (rs ++ [r])
  | _, _, .nil, q => .cons q .nil
  | _, _, .cons p t, q => .cons p (RowsAt.push t q)
theorem flat_set_perm : ∀ (rs : List (List Int)) (j : Nat) (r : List Int) (i : Nat) (x : Int), rs[j]? = some r → (rs.set j (r.take i ++ [x] ++ r.drop i)).flatten.Perm (x :: rs.flatten)
  | [], j, r, i, x, h => by simp at h
  | s :: rs, 0, r, i, x, h => by
    simp at h; subst h
    rw [List.set_cons_zero, List.flatten_cons, List.flatten_cons]
    have p1 : (s.take i ++ [x] ++ s.drop i).Perm (x :: s) := by
      rw [List.append_assoc, List.singleton_append]
      refine List.perm_middle.trans ?_
      rw [List.take_append_drop]
    exact List.Perm.append_right _ p1
  | s :: rs, j + 1, r, i, x, h => by
    rw [List.set_cons_succ, List.flatten_cons, List.flatten_cons]
    exact (List.Perm.append_left s (flat_set_perm rs j r i x (by simpa using h))).trans List.perm_middle
end Dl

set_option Elab.async false
set_option linter.all false
set_option maxRecDepth 100000
set_option maxHeartbeats 1000000
namespace Dl
open PySem PySem.Spec PyProof.Rows L2
theorem lcW_mapE {α : Type} {i : Nat} {tt : DTT} {te : DTE} {m : Md} {Δ : DEnv} {Q : D → Nat → Prop} (e f : α → D) (htt : tt = tYesD) : ∀ (xs : List α) (acc : List D) (n : Nat), acc.length + xs.length ≤ sizeLine →
    (∀ x ∈ xs, ∀ n' Q', Q' (f x) n' → te m (Δ.set i (some (.frz (e x)))) n' Q') → Q (.lst (acc ++ xs.map f)) n → lcW i tt te m Δ Q (xs.map e) acc n
  | [], acc, n, _, _, q => by rw [List.map_nil, List.append_nil] at q; exact q
  | x :: xs, acc, n, hz, h, q => by
    subst htt
    rw [List.length_cons] at hz
    refine h x (List.mem_cons_self ..) n _ ⟨by omega, lcW_mapE e f rfl xs (acc ++ [f x]) n ?_ (fun d' hd' => h d' (List.mem_cons_of_mem _ hd')) ?_⟩
    · rw [List.length_append, List.length_singleton]; omega
    · rw [List.append_assoc]; exact q
theorem lcW_filterE {α : Type} {i : Nat} {tt : DTT} {te : DTE} {m : Md} {Δ : DEnv} {Q : D → Nat → Prop} (e : α → D) (p : α → Bool) (f : α → D) : ∀ (xs : List α) (acc : List D) (n : Nat), acc.length + xs.length ≤ sizeLine →
    (∀ x ∈ xs, ∀ n' Q', Q' (p x) n' → tt (Δ.set i (some (.frz (e x)))) n' Q') → (∀ x ∈ xs, p x = true → ∀ n' Q', Q' (f x) n' → te m (Δ.set i (some (.frz (e x)))) n' Q') → Q (.lst (acc ++ (xs.filter p).map f)) n → lcW i tt te m Δ Q (xs.map e) acc n
  | [], acc, n, _, _, _, q => by rw [List.filter_nil, List.map_nil, List.append_nil] at q; exact q
  | x :: xs, acc, n, hz, h1, h2, q => by
    rw [List.length_cons] at hz
    refine h1 x (List.mem_cons_self ..) n _ ?_
    cases hp : p x with
    | true =>
      rw [if_pos rfl]
      refine h2 x (List.mem_cons_self ..) hp n _ ⟨by omega, lcW_filterE e p f xs (acc ++ [f x]) n ?_ (fun d' hd' => h1 d' (List.mem_cons_of_mem _ hd')) (fun d' hd' => h2 d' (List.mem_cons_of_mem _ hd')) ?_⟩
      · rw [List.length_append, List.length_singleton]; omega
      · rw [List.filter_cons_of_pos hp, List.map_cons] at q
        rw [List.append_assoc]; exact q
    | false =>
      rw [if_neg Bool.false_ne_true]
      refine lcW_filterE e p f xs acc n (by omega) (fun d' hd' => h1 d' (List.mem_cons_of_mem _ hd')) (fun d' hd' => h2 d' (List.mem_cons_of_mem _ hd')) ?_
      rw [List.filter_cons_of_neg (by rw [hp]; exact Bool.false_ne_true)] at q
      exact q
/-- .. drawn, with a bound for how many they are -/
theorem lcW_some {i : Nat} {tt : DTT} {te : DTE} {m : Md} {Δ : DEnv} {Q : D → Nat → Prop} (htt : tt = tYesD) (L : Nat) (hL : L ≤ sizeLine) (R : List D → Nat → Prop) : ∀ (ds acc : List D) (n : Nat), acc.length + ds.length = L → R acc n →
    (∀ d ∈ ds, ∀ acc n' Q', acc.length < L → R acc n' → (∀ y n'', R (acc ++ [y]) n'' → Q' y n'') → te m (Δ.set i (some (.frz d))) n' Q') → (∀ acc' n', acc'.length = L → R acc' n' → Q (.lst acc') n') → lcW i tt te m Δ Q ds acc n
  | [], acc, n, hz, r, _, q => q acc n (by simpa using hz) r
  | d :: ds, acc, n, hz, r, h, q => by
    subst htt
    rw [List.length_cons] at hz
    refine h d (List.mem_cons_self ..) acc n _ (by omega) r fun y n'' r' => ⟨by omega, lcW_some rfl L hL R ds (acc ++ [y]) n'' ?_ r' (fun d' hd' => h d' (List.mem_cons_of_mem _ hd')) q⟩
    rw [List.length_append, List.length_singleton]; omega
/-- a range as a map -/
def rangeI (n : Nat) : List Int := (List.range n).map fun (k : Nat) => (k : Int)
theorem rangeD_eq : ∀ (n : Nat) (lo : Int), rangeD lo n = ((List.range n).map fun (k : Nat) => lo + (k : Int)).map D.int
  | 0, _ => rfl
  | n + 1, lo => by
    rw [rangeD, rangeD_eq n (lo + 1), List.range_succ_eq_map, List.map_cons, List.map_cons, List.map_map, List.map_map, List.map_map]
    congr 1
    · simp
    · refine List.map_congr_left fun k _ => ?_
      simp only [Function.comp, Nat.succ_eq_add_one]
      congr 1
      omega
theorem range0_eq (n : Nat) : rangeD 0 n = (rangeI n).map D.int := by
  rw [rangeD_eq]
  unfold rangeI
  congr 1
  refine List.map_congr_left fun k _ => ?_
  omega
theorem rangeI_length (n : Nat) : (rangeI n).length = n := by unfold rangeI; rw [List.length_map, List.length_range]
theorem mem_rangeI {n : Nat} {i : Int} : i ∈ rangeI n ↔ 0 ≤ i ∧ i < n := by
  unfold rangeI
  rw [List.mem_map]
  constructor
  · rintro ⟨k, hk, rfl⟩
    rw [List.mem_range] at hk
    omega
  · rintro ⟨h0, h1⟩
    exact ⟨i.toNat, by rw [List.mem_range]; omega, by omega⟩
theorem atI_get {α : Type} {xs : List α} {j : Nat} {x : α} (h : xs[j]? = some x) : atI xs (j : Int) = some x := atI_nat h
/-- an item at an int place -/
theorem atI_int {α : Type} {xs : List α} {i : Int} (h0 : 0 ≤ i) (h1 : i < xs.length) : ∃ x, atI xs i = some x ∧ x ∈ xs ∧ xs[i.toNat]? = some x := by
  have hl : i.toNat < xs.length := by omega
  refine ⟨xs[i.toNat], ?_, List.getElem_mem hl, List.getElem?_eq_getElem hl⟩
  have e : ((i.toNat : Nat) : Int) = i := by omega
  have := atI_nat (xs := xs) (j := i.toNat) (v := xs[i.toNat]) (List.getElem?_eq_getElem hl)
  rw [e] at this
  exact this
end Dl

set_option Elab.async false
set_option linter.all false
set_option maxRecDepth 100000
set_option maxHeartbeats 1000000
namespace Dl
open PySem PySem.Spec PyProof.Rows L2
/-! ### what repr and == take: data that is tame -/
/- ints of at most 59 figures, texts, none deeper than k -/
mutual
def tm : Nat → D → Bool
  | _, .non => true
  | _, .bl _ => true
  | _, .int i => decide (i.natAbs < 10 ^ 59)
  | _, .str x => x.cps.toList.all fun c => decide (c < 1114112)
  | k + 1, .tup ds => tms k ds
  | k + 1, .lst ds => tms k ds
  | _, _ => false
def tms : Nat → List D → Bool
  | _, [] => true
  | k, d :: ds => tm k d && tms k ds
end
mutual
def wtD : D → Nat
  | .int _ => 200
  | .str x => x.cps.size
  | .tup ds => wtDs ds
  | .lst ds => wtDs ds
  | _ => 0
def wtDs : List D → Nat
  | [] => 0
  | d :: ds => wtD d + 1 + wtDs ds
end
structure Tame (k : Nat) (d : D) : Prop where
  py : pyb d = true
  sh : (toPy d).showable = true
  nd : (toPy d).hasDict = false
  dp : (toPy d).depth ≤ k
  cl : (toPy d).canLay0 = true
  ls : (toPy d).leavesShort 60 = true
  wt : (toPy d).weight ≤ wtD d
theorem log_of_lt {m : Nat} (h : m < 10 ^ 59) : m.log2 < 199 := by
  by_cases h0 : m = 0
  · subst h0; decide
  · rw [Nat.log2_lt h0]
    exact Nat.lt_trans h (by decide)
mutual
theorem tame_of : ∀ (k : Nat) (d : D), tm k d = true → Tame k d
  | _, .non, _ => by
    constructor <;> simp [pyb, toPy, PyData.showable, PyData.hasDict, PyData.depth, PyData.canLay0, PyData.leavesShort, PyData.weight]
  | _, .bl b, _ => by
    constructor <;> simp [pyb, toPy, PyData.showable, PyData.hasDict, PyData.depth, PyData.canLay0, PyData.leavesShort, PyData.weight]
  | k, .int i, h => by
    have hi : i.natAbs < 10 ^ 59 := by cases k <;> simpa [tm] using h
    have hl := log_of_lt hi
    constructor
    · rfl
    · simp only [toPy, PyData.showable, decide_eq_true_eq]; omega
    · simp only [toPy, PyData.hasDict]
    · simp only [toPy, PyData.depth]; omega
    · simp only [toPy, PyData.canLay0]
    · simp only [toPy, PyData.leavesShort, decide_eq_true_eq, PyData.shown_int]
      have e := int_text_length_le10 (k := 59) (by decide) hi
      rw [PySem.ofString_length]
      exact e
    · simp only [toPy, PyData.weight, wtD]
      split <;> omega
  | k, .str x, h => by
    have hx : (x.cps.toList.all fun c => decide (c < 1114112)) = true := by cases k <;> simpa [tm] using h
    rw [List.all_eq_true] at hx
    constructor
    · rfl
    · simp only [toPy, PyData.showable]
    · simp only [toPy, PyData.hasDict]
    · simp only [toPy, PyData.depth]; omega
    · simp only [toPy, PyData.canLay0]
      show PyData.strOk x = true
      unfold PyData.strOk
      rw [← Array.all_toList, List.all_eq_true]
      intro c hc
      have := of_decide_eq_true (hx c hc)
      exact decide_eq_true (by omega)
    · simp only [toPy, PyData.leavesShort]
      rw [List.all_eq_true]
      intro c hc
      have := of_decide_eq_true (hx c hc)
      exact decide_eq_true (by omega)
    · simp only [toPy, PyData.weight, wtD]; exact Nat.le_refl _
  | 0, .tup ds, h => by simp [tm] at h
  | 0, .lst ds, h => by simp [tm] at h
  | k + 1, .tup ds, h => by
    simp only [tm] at h
    obtain ⟨h1, h2, h3, h4, h5, h6, h7⟩ := tames_of k ds h
    constructor
    · simpa only [pyb] using h1
    · simpa only [toPy, PyData.showable] using h2
    · simpa only [toPy, PyData.hasDict] using h3
    · simp only [toPy, PyData.depth]; omega
    · simpa only [toPy, PyData.canLay0] using h5
    · simpa only [toPy, PyData.leavesShort] using h6
    · simpa only [toPy, PyData.weight, wtD] using h7
  | k + 1, .lst ds, h => by
    simp only [tm] at h
    obtain ⟨h1, h2, h3, h4, h5, h6, h7⟩ := tames_of k ds h
    constructor
    · simpa only [pyb] using h1
    · simpa only [toPy, PyData.showable] using h2
    · simpa only [toPy, PyData.hasDict] using h3
    · simp only [toPy, PyData.depth]; omega
    · simpa only [toPy, PyData.canLay0] using h5
    · simpa only [toPy, PyData.leavesShort] using h6
    · simpa only [toPy, PyData.weight, wtD] using h7
  | k, .byt _, h => by cases k <;> simp [tm] at h
  | k, .pen, h => by cases k <;> simp [tm] at h
  | k, .obj _, h => by cases k <;> simp [tm] at h
  | k, .opq _, h => by cases k <;> simp [tm] at h
theorem tames_of : ∀ (k : Nat) (ds : List D), tms k ds = true → pybs ds = true ∧ PyData.showableAll (toPys ds) = true ∧ PyData.hasDictAll (toPys ds) = false ∧ PyData.depthAll (toPys ds) ≤ k ∧ PyData.canLayAll0 (toPys ds) = true ∧ PyData.leavesShortAll 60 (toPys ds) = true ∧ PyData.weightAll (toPys ds) ≤ wtDs ds
  | _, [], _ => by simp [pybs, toPys, PyData.showableAll, PyData.hasDictAll, PyData.depthAll, PyData.canLayAll0, PyData.leavesShortAll, PyData.weightAll, wtDs]
  | k, d :: ds, h => by
    simp only [tms, Bool.and_eq_true] at h
    have t := tame_of k d h.1
    obtain ⟨h1, h2, h3, h4, h5, h6, h7⟩ := tames_of k ds h.2
    refine ⟨?_, ?_, ?_, ?_, ?_, ?_, ?_⟩
    · simp only [pybs, t.py, h1]; rfl
    · simp only [toPys, PyData.showableAll, t.sh, h2]; rfl
    · simp only [toPys, PyData.hasDictAll, t.nd, h3]; rfl
    · simp only [toPys, PyData.depthAll]; have := t.dp; omega
    · simp only [toPys, PyData.canLayAll0, t.cl, h5]; rfl
    · simp only [toPys, PyData.leavesShortAll, t.ls, h6]; rfl
    · simp only [toPys, PyData.weightAll, wtDs]; have := t.wt; omega
end
theorem shp_of {k : Nat} {d : D} (h : tm k d = true) (hk : k ≤ 60) : shp d := by
  have t := tame_of k d h
  refine ⟨t.py, ?_⟩
  unfold SeqAt.shaped
  rw [t.cl, Bool.true_and]
  exact decide_eq_true (by have := t.dp; omega)
theorem rpOk_of {k : Nat} {d : D} (h : tm k d = true) (hk : k ≤ 60) (hw : wtD d ≤ 200000) : rpOk d := by
  have t := tame_of k d h
  have e := PyData.shown_le 60 (by decide) _ t.ls
  refine ⟨t.py, t.sh, t.nd, by have := t.dp; omega, ?_⟩
  have := t.wt
  have hs : sizeLine = 16777216 := by decide
  omega
theorem tms_iff {k : Nat} : ∀ {ds : List D}, tms k ds = true ↔ ∀ d ∈ ds, tm k d = true
  | [] => by simp [tms]
  | d :: ds => by simp [tms, tms_iff (ds := ds)]
theorem tms_map {α : Type} {k : Nat} {f : α → D} {xs : List α} (h : ∀ x ∈ xs, tm k (f x) = true) : tms k (xs.map f) = true := by
  rw [tms_iff]
  intro d hd
  obtain ⟨x, hx, rfl⟩ := List.mem_map.mp hd
  exact h x hx
theorem wt_map {α : Type} {f : α → D} {c : Nat} : ∀ {xs : List α}, (∀ x ∈ xs, wtD (f x) ≤ c) → wtDs (xs.map f) ≤ (c + 1) * xs.length
  | [], _ => by simp [wtDs]
  | x :: xs, h => by
    have ih := wt_map (xs := xs) fun y hy => h y (List.mem_cons_of_mem _ hy)
    have h1 := h x (List.mem_cons_self ..)
    simp only [List.map_cons, wtDs, List.length_cons]
    rw [Nat.mul_add]
    omega
def small (ns : List Int) : Prop := ∀ n ∈ ns, 0 ≤ n ∧ n < 100
theorem tm_int {k : Nat} {i : Int} (h : i.natAbs < 10 ^ 59) : tm k (.int i) = true := by cases k <;> simp [tm, h]
theorem tm_encI {r : List Int} (h : small r) : tm 1 (encI r) = true := by
  show tm 1 (.tup (r.map D.int)) = true
  simp only [tm]
  exact tms_map fun x hx => tm_int (by have := h x hx; omega)
theorem tm_mono : ∀ {k : Nat} {r : List Int}, small r → 1 ≤ k → tm k (encI r) = true
  | 0, _, _, h => absurd h (by decide)
  | k + 1, r, hs, _ => by
    show tm (k + 1) (.tup (r.map D.int)) = true
    simp only [tm]
    exact tms_map fun x hx => tm_int (by have := hs x hx; omega)
theorem wt_encI (r : List Int) : wtD (encI r) ≤ 201 * r.length := by
  show wtD (.tup (r.map D.int)) ≤ _
  simp only [wtD]
  exact wt_map (c := 200) fun x _ => by simp [wtD]
end Dl

set_option Elab.async false
set_option linter.all false
set_option maxRecDepth 100000
set_option maxHeartbeats 1000000
namespace Lw
open PySem PySem.Spec PyProof.Rows L2 Dl
abbrev numT (i : Int) : Str := ((toString i : String) : Str)
def wordsT (w : Str) (ns : List Int) : Str := ns.foldl (fun acc k => acc ++ Str.ofString " " ++ numT k) w
def lineT (w : Str) (ns : List Int) : Str := wordsT w ns ++ Str.ofString "\n"
theorem words_join : ∀ (ns : List Int) (w : Str), wordsT w ns = Str.join (Str.ofString " ") (w :: ns.map numT)
  | [], w => rfl
  | k :: ns, w => by
    show wordsT (w ++ Str.ofString " " ++ numT k) ns = _
    rw [words_join ns, StrLaws.join_shift]
    rfl
theorem num_len_all : ∀ n : Fin 100, (numT (n.val : Int)).length ≤ 2 := by decide +kernel
theorem num_len {i : Int} (h : 0 ≤ i ∧ i < 100) : (numT i).length ≤ 2 := by
  have := num_len_all ⟨i.toNat, by omega⟩
  have e : ((i.toNat : Nat) : Int) = i := Int.toNat_of_nonneg h.1
  simp only [e] at this
  exact this
theorem sp_len : (Str.ofString " ").length = 1 := by decide +kernel
theorem nl_len : (Str.ofString "\n").length = 1 := by decide +kernel
theorem words_len : ∀ (ns : List Int) (w : Str), small ns → (wordsT w ns).length ≤ w.length + 3 * ns.length
  | [], w, _ => by show w.length ≤ _; simp
  | k :: ns, w, h => by
    have ih := words_len ns (w ++ Str.ofString " " ++ numT k) fun n hn => h n (List.mem_cons_of_mem _ hn)
    have := num_len (h k (List.mem_cons_self ..))
    show (wordsT (w ++ Str.ofString " " ++ numT k) ns).length ≤ _
    rw [Str.length_append, Str.length_append, sp_len] at ih
    rw [List.length_cons]
    omega
theorem line_len (ns : List Int) (w : Str) (h : small ns) : (lineT w ns).length ≤ w.length + 3 * ns.length + 1 := by
  unfold lineT
  rw [Str.length_append, nl_len]
  have := words_len ns w h
  omega
theorem log_small {i : Int} (h : 0 ≤ i ∧ i < 100) : i.natAbs.log2 < 1920 := by
  have : i.natAbs.log2 ≤ i.natAbs := Nat.log2_le_self _
  omega
theorem num_sum : ∀ ns : List Int, small ns → ((ns.map numT).map (·.length)).sum ≤ 2 * ns.length
  | [], _ => by simp
  | k :: ns, h => by
    have ih := num_sum ns fun n hn => h n (List.mem_cons_of_mem _ hn)
    have := num_len (h k (List.mem_cons_self ..))
    simp only [List.map_cons, List.sum_cons, List.length_cons]
    omega
/-! ### line_of -/
def isSeq (d : D) (ns : List Int) : Prop := d = .lst (ns.map D.int) ∨ d = .tup (ns.map D.int)
def sp_line_of : DSp := fun ds n Q => ∃ (w : Str) (ns : List Int) (d : D), ds = [.str w, d] ∧ isSeq d ns ∧ w.length ≤ 100 ∧ ns.length ≤ 100 ∧ small ns ∧ Q (.str (lineT w ns)) n
theorem len_line_of : ∀ ds n Q, sp_line_of ds n Q → ds.length = 2 := by
  rintro ds n Q ⟨w, ns, d, rfl, _⟩; rfl
def rd_line_of : DTS := (tRetD (tOpD drAdd (tJoinD (tCD (.str (Str.ofString " "))) (tOpD drAdd (tLstD (tConsD (tVarD 0) tNilD)) (tLcD .bor (tWSeq (tVarD 1)) 2 tYesD (tCallN drStrI (tConsD (tVarD 2) tNilD))))) (tCD (.str (Str.ofString "\n")))))
def strD : D → D
  | .int i => .str (numT i)
  | _ => .non
theorem map_strD (ns : List Int) : (ns.map D.int).map strD = (ns.map numT).map D.str := by
  rw [List.map_map, List.map_map]; rfl
theorem small100 {n : Nat} (h : n ≤ 100000) : n ≤ sizeLine := Nat.le_trans h (by decide)
theorem flat_strs (ns : List Str) : flatAll (ns.map D.str) = true := flatAll_map (fun _ => rfl) ns
/-- [str(k) for k in ks] -/
theorem lc_strs {i : Nat} {m : Md} {Δ : DEnv} {ns : List Int} {n : Nat} {Q : D → Nat → Prop} (hs : small ns) (hl : ns.length ≤ 100) (hj : ∀ d, (Δ.set i (some (.frz d)))[i]? = some (some (.frz d)))
    (h : Q (.lst ((ns.map numT).map D.str)) n) : lcW i tYesD (tCallN drStrI (tConsD (tVarD i) tNilD)) m Δ Q (ns.map D.int) [] n := by
  refine lcW_map strD rfl _ [] n (by simp; exact small100 (by omega)) (fun d hd n' Q' q => ?_) (by rw [List.nil_append, map_strD]; exact h)
  obtain ⟨k, hk, rfl⟩ := List.mem_map.mp hd
  show tVarD i .bor _ n' _
  unfold tVarD
  rw [hj]
  exact ⟨log_small (hs k hk), q⟩
theorem read_line_of : ∀ ds n Qd, sp_line_of ds n Qd → rd_line_of { nx := fun _ n' => Qd .non n', rt := Qd } (startD ["word", "numbers", "number"] ds) n := by
  rintro ds n Qd ⟨w, ns, d, rfl, hd, hw, hl, hs, q⟩
  have key : drAdd (.lst [.str w]) (.lst ((ns.map numT).map D.str)) fun z => ∃ ys : List Str, z = .lst (ys.map D.str) ∧ (ys.map (·.length)).sum + ys.length * (Str.ofString " ").length ≤ 16777216 ∧ drAdd (.str (Txt.join (Str.ofString " ") ys)) (.str (Str.ofString "\n")) fun z => Qd z n := by
    refine ⟨small100 (by simp; omega), rfl, flat_strs _, w :: ns.map numT, rfl, ?_, ?_, ?_⟩
    · have := num_sum ns hs
      rw [sp_len]
      simp only [List.map_cons, List.sum_cons, List.length_cons, List.length_map] at this ⊢
      omega
    · rw [TL.join_eq, ← words_join]
      have := words_len ns w hs
      exact small100 (by rw [nl_len]; omega)
    · rw [TL.join_eq, ← words_join]
      exact q
  refine ⟨by show 1 ≤ sizeLine; decide, trivial, ?_⟩
  rcases hd with rfl | rfl
  · exact .inl ⟨small100 (by simp; omega), flat_ints ns, lc_strs hs hl (fun _ => rfl) key⟩
  · exact .inr ⟨small100 (by simp; omega), flat_ints ns, lc_strs hs hl (fun _ => rfl) key⟩
end Lw

set_option Elab.async false
set_option linter.all false
set_option maxRecDepth 100000
set_option maxHeartbeats 1000000
namespace Lw
open PySem PySem.Spec PyProof.Rows L2 Dl
structure okH (h : Hs) : Prop where
  len : h.length ≤ 100
  rows : ∀ r ∈ h, r.length ≤ 100 ∧ small r
def houseT (h : Hs) : Str := h.foldl (fun acc r => acc ++ lineT (Str.ofString "room") r) Str.empty
theorem room_len : (Str.ofString "room").length = 4 := by decide +kernel
theorem empty_len : (Str.ofString "").length = 0 := by decide +kernel
theorem ofs_empty : Str.ofString "" = Str.empty := by decide +kernel
theorem join_empty : ∀ (xs : List Str) (x : Str), Str.join (Str.ofString "") (x :: xs) = xs.foldl (fun acc p => acc ++ p) x
  | [], _ => rfl
  | y :: xs, x => by
    have h := join_empty xs (x ++ y)
    rw [List.foldl_cons, ← h]
    have e : x ++ y = x ++ Str.ofString "" ++ y := by rw [ofs_empty, Str.append_empty]
    rw [e, StrLaws.join_shift]
    rfl
theorem house_join (h : Hs) : Str.join (Str.ofString "") (h.map (lineT (Str.ofString "room"))) = houseT h := by
  cases h with
  | nil => rfl
  | cons r h =>
    rw [List.map_cons, join_empty, List.foldl_map]
    unfold houseT
    rw [List.foldl_cons, Str.empty_append]
theorem house_len : ∀ (h : Hs) (acc : Str), (∀ r ∈ h, r.length ≤ 100 ∧ small r) → (h.foldl (fun acc r => acc ++ lineT (Str.ofString "room") r) acc).length ≤ acc.length + 305 * h.length
  | [], acc, _ => by simp
  | r :: h, acc, ok => by
    have ih := house_len h (acc ++ lineT (Str.ofString "room") r) fun r' hr => ok r' (List.mem_cons_of_mem _ hr)
    obtain ⟨h1, h2⟩ := ok r (List.mem_cons_self ..)
    have := line_len r (Str.ofString "room") h2
    rw [Str.length_append] at ih
    rw [room_len] at this
    rw [List.foldl_cons, List.length_cons]
    omega
theorem lines_sum : ∀ h : Hs, (∀ r ∈ h, r.length ≤ 100 ∧ small r) → ((h.map (lineT (Str.ofString "room"))).map (·.length)).sum ≤ 305 * h.length
  | [], _ => by simp
  | r :: h, ok => by
    have ih := lines_sum h fun r' hr => ok r' (List.mem_cons_of_mem _ hr)
    obtain ⟨h1, h2⟩ := ok r (List.mem_cons_self ..)
    have := line_len r (Str.ofString "room") h2
    rw [room_len] at this
    simp only [List.map_cons, List.sum_cons, List.length_cons]
    omega
/-! ### show_house -/
def sp_show_house : DSp := fun ds n Q => ∃ h : Hs, ds = [encH h] ∧ okH h ∧ Q (.str (houseT h)) n
theorem len_show_house : ∀ ds n Q, sp_show_house ds n Q → ds.length = 1 := by
  rintro ds n Q ⟨h, rfl, _⟩; rfl
def rd_show_house : DTS := (tRetD (tJoinD (tCD (.str (Str.ofString ""))) (tLcD .bor (tWSeq (tVarD 0)) 1 tYesD (tCallD sp_line_of (tConsD (tCD (.str (Str.ofString "room"))) (tConsD (tVarD 1) tNilD))))))
theorem flat_encIs (h : Hs) : flatAll (h.map encI) = true := flatAll_map flat_encI h
theorem read_show_house : ∀ ds n Qd, sp_show_house ds n Qd → rd_show_house { nx := fun _ n' => Qd .non n', rt := Qd } (startD ["house", "room"] ds) n := by
  rintro ds n Qd ⟨h, rfl, ok, q⟩
  have hl := ok.len
  refine ⟨trivial, .inr ⟨small100 (by rw [List.length_map]; omega), flat_encIs h, lcW_mapE encI (fun r => .str (lineT (Str.ofString "room") r)) rfl h [] n (by simp; exact small100 (by omega)) (fun r hr n' Q' q' => ?_) ?_⟩⟩
  · obtain ⟨h1, h2⟩ := ok.rows r hr
    exact ⟨_, r, _, rfl, .inr rfl, by rw [room_len]; decide, h1, h2, q'⟩
  · refine ⟨h.map (lineT (Str.ofString "room")), by rw [List.nil_append, List.map_map]; rfl, ?_, ?_⟩
    · have := lines_sum h ok.rows
      rw [empty_len]
      omega
    · rw [TL.join_eq, house_join]; exact q
/-! ### show_standing -/
def standT (b : List Int) (a : Int) : Str := lineT (Str.ofString "beads") b ++ lineT (Str.ofString "at") [a]
def sp_show_standing : DSp := fun ds n Q => ∃ (b : List Int) (a : Int), ds = [encS b a] ∧ b.length ≤ 100 ∧ small b ∧ 0 ≤ a ∧ a < 100 ∧ Q (.str (standT b a)) n
theorem len_show_standing : ∀ ds n Q, sp_show_standing ds n Q → ds.length = 1 := by
  rintro ds n Q ⟨b, a, rfl, _⟩; rfl
theorem beads_len : (Str.ofString "beads").length = 5 := by decide +kernel
theorem at_len : (Str.ofString "at").length = 2 := by decide +kernel
theorem small_one {a : Int} (h0 : 0 ≤ a) (h1 : a < 100) : small [a] := fun n hn => by
  rw [List.mem_singleton] at hn; subst hn; exact ⟨h0, h1⟩
def rd_show_standing : DTS := (tSeqD (tAsgD (tVarD 0) (gTupD 2 (gConsD (gNameD 1) (gConsD (gNameD 2) gNilD))))
  (tRetD (tOpD drAdd (tCallD sp_line_of (tConsD (tCD (.str (Str.ofString "beads"))) (tConsD (tVarD 1) tNilD))) (tCallD sp_line_of (tConsD (tCD (.str (Str.ofString "at"))) (tConsD (tLstD (tConsD (tVarD 2) tNilD)) tNilD))))))
theorem stand_len {b : List Int} {a : Int} (hl : b.length ≤ 100) (hs : small b) (h0 : 0 ≤ a) (h1 : a < 100) : (lineT (Str.ofString "beads") b).length + (lineT (Str.ofString "at") [a]).length ≤ 400 := by
  have e1 := line_len b (Str.ofString "beads") hs
  have e2 := line_len [a] (Str.ofString "at") (small_one h0 h1)
  rw [beads_len] at e1
  rw [at_len] at e2
  simp only [List.length_singleton] at e2
  omega
theorem read_show_standing : ∀ ds n Qd, sp_show_standing ds n Qd → rd_show_standing { nx := fun _ n' => Qd .non n', rt := Qd } (startD ["standing", "beads", "at"] ds) n := by
  rintro ds n Qd ⟨b, a, rfl, hl, hs, h0, h1, q⟩
  refine ⟨rfl, _, b, _, rfl, .inr rfl, by rw [beads_len]; decide, hl, hs, by show 1 ≤ sizeLine; decide, _, [a], _, rfl, .inl rfl, by rw [at_len]; decide, by simp, small_one h0 h1, ?_, q⟩
  exact small100 (Nat.le_trans (stand_len hl hs h0 h1) (by decide))
/-! ### show_ends -/
def endsT (ns : List Int) : Str := if ns = [] then Str.ofString "-" else Str.join (Str.ofString " ") (ns.map numT)
def sp_show_ends : DSp := fun ds n Q => ∃ (ns : List Int) (d : D), ds = [d] ∧ isSeq d ns ∧ ns.length ≤ 100 ∧ small ns ∧ Q (.str (endsT ns)) n
theorem len_show_ends : ∀ ds n Q, sp_show_ends ds n Q → ds.length = 1 := by
  rintro ds n Q ⟨ns, d, rfl, _⟩; rfl
def rd_show_ends : DTS := (tRetD (tOrSD (tJoinD (tCD (.str (Str.ofString " "))) (tLcD .bor (tWSeq (tVarD 0)) 1 tYesD (tCallN drStrI (tConsD (tVarD 1) tNilD)))) (tCD (.str (Str.ofString "-")))))
theorem num_pos_all : ∀ n : Fin 100, 1 ≤ (numT (n.val : Int)).length := by decide +kernel
theorem num_pos {i : Int} (h : 0 ≤ i ∧ i < 100) : 1 ≤ (numT i).length := by
  have := num_pos_all ⟨i.toNat, by omega⟩
  have e : ((i.toNat : Nat) : Int) = i := Int.toNat_of_nonneg h.1
  simp only [e] at this
  exact this
theorem words_ge : ∀ (ns : List Int) (w : Str), w.length ≤ (wordsT w ns).length
  | [], w => Nat.le_refl _
  | k :: ns, w => by
    have ih := words_ge ns (w ++ Str.ofString " " ++ numT k)
    show w.length ≤ (wordsT (w ++ Str.ofString " " ++ numT k) ns).length
    rw [Str.length_append, Str.length_append] at ih
    omega
theorem join_words (k : Int) (ns : List Int) : Str.join (Str.ofString " ") ((k :: ns).map numT) = wordsT (numT k) ns := (words_join ns (numT k)).symm
theorem read_show_ends : ∀ ds n Qd, sp_show_ends ds n Qd → rd_show_ends { nx := fun _ n' => Qd .non n', rt := Qd } (startD ["ends", "end"] ds) n := by
  rintro ds n Qd ⟨ns, d, rfl, hd, hl, hs, q⟩
  have key : ∃ ys : List Str, D.lst ((ns.map numT).map D.str) = .lst (ys.map D.str) ∧ (ys.map (·.length)).sum + ys.length * (Str.ofString " ").length ≤ 16777216 ∧
      ((Txt.join (Str.ofString " ") ys).length ≤ sizeLine ∧ if (Txt.join (Str.ofString " ") ys).length = 0 then Qd (.str (Str.ofString "-")) n else Qd (.str (Txt.join (Str.ofString " ") ys)) n) := by
    refine ⟨ns.map numT, rfl, ?_, ?_⟩
    · have := num_sum ns hs
      rw [sp_len]
      simp only [List.length_map] at this ⊢
      omega
    · rw [TL.join_eq]
      unfold endsT at q
      cases ns with
      | nil =>
        rw [if_pos rfl] at q
        refine ⟨by decide, ?_⟩
        rw [if_pos (by decide)]
        exact q
      | cons k ns =>
        rw [if_neg (by simp)] at q
        rw [join_words] at q ⊢
        have e1 := num_pos (hs k (List.mem_cons_self ..))
        have e2 := words_ge ns (numT k)
        have e3 := words_len ns (numT k) fun n hn => hs n (List.mem_cons_of_mem _ hn)
        have e4 := num_len (hs k (List.mem_cons_self ..))
        rw [List.length_cons] at hl
        refine ⟨small100 (by omega), ?_⟩
        rw [if_neg (by omega)]
        exact q
  rcases hd with rfl | rfl
  · exact ⟨trivial, .inl ⟨small100 (by simp; omega), flat_ints ns, lc_strs hs hl (fun _ => rfl) key⟩⟩
  · exact ⟨trivial, .inr ⟨small100 (by simp; omega), flat_ints ns, lc_strs hs hl (fun _ => rfl) key⟩⟩
end Lw

set_option Elab.async false
set_option linter.all false
set_option maxRecDepth 100000
set_option maxHeartbeats 1000000
namespace Lw
open PySem PySem.Spec PyProof.Rows L2 Dl
abbrev sp_l_pick := spPick
abbrev sp_l_plan := spPlan
/-! ### drawn beads -/
def sp_l_loads : DSp := fun ds n Q => ∃ (wires : Nat) (upto : Int), ds = [.pen, .int wires, .int upto] ∧ wires ≤ 40 ∧ n + 2 * wires ≤ lim ∧ ∀ ls : List Int, ls.length = wires → (∀ l ∈ ls, 1 ≤ l ∧ l ≤ 9) → Q (encI ls) (n + 2 * wires)
theorem len_l_loads : ∀ ds n Q, sp_l_loads ds n Q → ds.length = 3 := by
  rintro ds n Q ⟨w, u, rfl, _⟩; rfl
def rd_l_loads : DTS := (tSeqD (tOwnD 3 (tLstD tNilD))
  (tSeqD (tSetD 4 (tCD (.int 1)))
  (tSeqD (tSetD 5 (tCD (.int 1)))
  (tSeqD (tForD (tWRng1 (tVarD 1)) (gNameD 6) (tSetD 5 (tOpD drMul (tVarD 5) (tCD (.int 2)))))
  (tSeqD (tForD (tWRng1 (tVarD 1)) (gNameD 6) (tSeqD (tSetD 5 (tOpD drDiv (tVarD 5) (tCD (.int 2))))
  (tSeqD (tSetD 7 (tOpD drAdd (tCD (.int 1)) (tCallD sp_l_pick (tConsD (tVarD 0) (tConsD (tOpD drIx (tLstD (tConsD (tCD (.int 1)) (tConsD (tCD (.int 2)) (tConsD (tCD (.int 3)) (tConsD (tCD (.int 9)) tNilD))))) (tCallD sp_l_pick (tConsD (tVarD 0) (tConsD (tCD (.int 4)) tNilD)))) tNilD)))))
  (tSeqD (tWhileD (tAndD (tTestD (tOpD drGt (tVarD 7) (tCD (.int 1)))) (tTestD (tOpD drGt (tOpD drMul (tOpD drMul (tVarD 4) (tOpD drAdd (tVarD 7) (tCD (.int 1)))) (tVarD 5)) (tVarD 2)))) (tSetD 7 (tOpD drSub (tVarD 7) (tCD (.int 1)))))
  (tSeqD (tAppD 3 (tVarD 7))
  (tSetD 4 (tOpD drMul (tVarD 4) (tOpD drAdd (tVarD 7) (tCD (.int 1))))))))))
  (tRetD (tCallN drTup (tConsD (tVarD 3) tNilD))))))))
theorem read_l_loads : ∀ ds n Qd, sp_l_loads ds n Qd → rd_l_loads { nx := fun _ n' => Qd .non n', rt := Qd } (startD ["pen", "wires", "upto", "found", "ways", "rest", "k", "many"] ds) n := by
  rintro ds n Qd ⟨wires, upto, rfl, hw, hn, q⟩
  have ew : ((wires : Int)).toNat = wires := Int.toNat_natCast wires
  refine ⟨by show 0 ≤ sizeLine; decide, rfl, by omega, by omega, ?_⟩
  -- rest = 2 ** wires
  refine ⟨fun j Δ n' => ∃ v6, Δ = [some (.frz .pen), some (.frz (.int wires)), some (.frz (.int upto)), some (.own []), some (.frz (.int 1)), some (.frz (.int (2 ^ j))), v6, none] ∧ n = n', ⟨none, rfl, rfl⟩, ?_, ?_⟩
  · rintro j d Δ n' hj ⟨v6, rfl, rfl⟩
    exact ⟨.inr ⟨by decide, by decide⟩, _, by rw [Int.pow_succ]; rfl, rfl⟩
  rintro Δ n' ⟨v6, rfl, rfl⟩
  rw [rangeD_length, ew]
  have hp : (2 : Int) ^ wires ≤ 2 ^ 40 := by
    have := Nat.pow_le_pow_right (n := 2) (by decide) hw
    have e : ((2 ^ wires : Nat) : Int) ≤ ((2 ^ 40 : Nat) : Int) := by exact_mod_cast this
    simpa using e
  have hp0 : (0 : Int) ≤ 2 ^ wires := Int.pow_nonneg (by decide)
  generalize (2 : Int) ^ wires = R at hp hp0 ⊢
  refine ⟨by omega, by omega, ?_⟩
  refine ⟨fun j Δ n' => ∃ (v6 v7 : Option SV) (rest ways : Int) (ls : List Int), Δ = [some (.frz .pen), some (.frz (.int wires)), some (.frz (.int upto)), some (.own (ls.map D.int)), some (.frz (.int ways)), some (.frz (.int rest)), v6, v7] ∧ 0 ≤ rest ∧ rest ≤ 2 ^ 40 ∧
    ls.length = j ∧ (∀ l ∈ ls, 1 ≤ l ∧ l ≤ 9) ∧ n' = n + 2 * j, ⟨v6, none, R, 1, [], rfl, hp0, hp, rfl, by simp, rfl⟩, ?_, ?_⟩
  · rintro j d Δ n' hj ⟨v6, v7, rest, ways, ls, rfl, r0, r1, hl, hb, rfl⟩
    have hjw : j < wires := by
      have := (List.getElem?_eq_some_iff.mp hj).1
      rw [rangeD_length, ew] at this
      exact this
    refine ⟨⟨by decide, by decide⟩, by show 4 ≤ sizeLine; decide, 4, rfl, by decide, by decide, by omega, fun z z0 z1 => ?_⟩
    have h4 : z = 0 ∨ z = 1 ∨ z = 2 ∨ z = 3 := by omega
    have top : ∃ t : Int, atI [D.int 1, D.int 2, D.int 3, D.int 9] z = some (.int t) ∧ 1 ≤ t ∧ t ≤ 9 := by
      rcases h4 with rfl | rfl | rfl | rfl
      · exact ⟨1, rfl, by decide, by decide⟩
      · exact ⟨2, rfl, by decide, by decide⟩
      · exact ⟨3, rfl, by decide, by decide⟩
      · exact ⟨9, rfl, by decide, by decide⟩
    obtain ⟨t, et, t1, t9⟩ := top
    refine ⟨_, et, rfl, t, rfl, by omega, by omega, by omega, fun y y0 y1 => ?_⟩
    have hr0 : 0 ≤ rest / 2 := by omega
    have hr1 : rest / 2 ≤ 2 ^ 40 := by omega
    -- while
    refine ⟨fun m Δ n'' => ∃ many : Int, m = many.toNat ∧ 1 ≤ many ∧ many ≤ 9 ∧ Δ = [some (.frz .pen), some (.frz (.int wires)), some (.frz (.int upto)), some (.own (ls.map D.int)), some (.frz (.int ways)), some (.frz (.int (rest / 2))), some (.frz d), some (.frz (.int many))] ∧ n'' = n + 2 * j + 2,
      ⟨_, 1 + y, rfl, by omega, by omega, rfl, rfl⟩, ?_⟩
    rintro m Δ n'' ⟨many, rfl, m1, m9, rfl, rfl⟩
    have fin : ∀ many : Int, 1 ≤ many → many ≤ 9 → (tSeqD (tAppD 3 (tVarD 7)) (tSetD 4 (tOpD drMul (tVarD 4) (tOpD drAdd (tVarD 7) (tCD (.int 1))))))
        { nx := fun Δ n' => ∃ (v6 v7 : Option SV) (rest ways : Int) (ls : List Int), Δ = [some (.frz .pen), some (.frz (.int wires)), some (.frz (.int upto)), some (.own (ls.map D.int)), some (.frz (.int ways)), some (.frz (.int rest)), v6, v7] ∧ 0 ≤ rest ∧ rest ≤ 2 ^ 40 ∧
            ls.length = j + 1 ∧ (∀ l ∈ ls, 1 ≤ l ∧ l ≤ 9) ∧ n' = n + 2 * (j + 1), rt := Qd, bk := fun _ _ => False, ct := fun _ _ => False }
        [some (.frz .pen), some (.frz (.int wires)), some (.frz (.int upto)), some (.own (ls.map D.int)), some (.frz (.int ways)), some (.frz (.int (rest / 2))), some (.frz d), some (.frz (.int many))] (n + 2 * j + 2) := fun many m1 m9 => by
      refine ⟨Nat.lt_of_le_of_lt (show (ls.map D.int).length ≤ 100 by rw [List.length_map]; omega) (by decide), .inr ⟨by omega, by omega⟩, some (.frz d), some (.frz (.int many)), rest / 2, ways * (many + 1), ls ++ [many], ?_, hr0, hr1, by simp [hl], ?_, by omega⟩
      · rw [List.map_append]; rfl
      · intro l hm
        rcases List.mem_append.mp hm with hm | hm
        · exact hb l hm
        · rw [List.mem_singleton] at hm; subst hm; exact ⟨m1, m9⟩
    refine ite2 (fun h1 => ?_) (fun h1 => iteF (fin many m1 m9))
    have h1 : 1 < many := of_decide_eq_true h1
    refine ⟨.inr ⟨by omega, by omega⟩, .inr ⟨by omega, by omega⟩, ite2 (fun _ => ?_) (fun _ => fin many m1 m9)⟩
    exact ⟨(many - 1).toNat, by omega, many - 1, rfl, by omega, by omega, rfl, rfl⟩
  · rintro Δ n' ⟨v6, v7, rest, ways, ls, rfl, r0, r1, hl, hb, rfl⟩
    rw [rangeD_length, ew] at hl ⊢
    exact ⟨flat_ints ls, q ls hl hb⟩
end Lw

set_option Elab.async false
set_option linter.all false
set_option maxRecDepth 100000
set_option maxHeartbeats 1000000
namespace Lw
open PySem PySem.Spec PyProof.Rows L2 Dl
/-! ### a drawn standing -/
def pairsF (ps : List (Int × Int)) : List Int := ps.flatMap fun p => [p.1, p.2]
structure IsSt (wires : Nat) (b : List Int) (a : Int) : Prop where
  pairs : ∃ ps : List (Int × Int), b = pairsF ps ∧ ps.length = wires ∧ ∀ p ∈ ps, 0 ≤ p.1 ∧ 0 ≤ p.2 ∧ 1 ≤ p.1 + p.2 ∧ p.1 + p.2 ≤ 9
  a0 : 0 ≤ a
  a1 : a < 2 * wires
  at' : ∃ x, b[a.toNat]? = some x ∧ 0 < x
theorem pairsF_len : ∀ ps : List (Int × Int), (pairsF ps).length = 2 * ps.length
  | [] => rfl
  | p :: ps => by
    have := pairsF_len ps
    unfold pairsF at this ⊢
    rw [List.flatMap_cons, List.length_append, this, List.length_cons]
    simp only [List.length_cons, List.length_nil]
    omega
theorem pairsF_app (ps qs : List (Int × Int)) : pairsF (ps ++ qs) = pairsF ps ++ pairsF qs := List.flatMap_append
theorem pairsF_mem {ps : List (Int × Int)} {x : Int} (h : x ∈ pairsF ps) : ∃ p ∈ ps, x = p.1 ∨ x = p.2 := by
  unfold pairsF at h
  obtain ⟨p, hp, hx⟩ := List.mem_flatMap.mp h
  exact ⟨p, hp, by simpa using hx⟩
def sp_l_laid : DSp := fun ds n Q => ∃ ls : List Int, ds = [.pen, encI ls] ∧ 1 ≤ ls.length ∧ ls.length ≤ 40 ∧ (∀ l ∈ ls, 1 ≤ l ∧ l ≤ 9) ∧ n + 2 * ls.length + 1 ≤ lim ∧ ∀ b a, IsSt ls.length b a → Q (encS b a) (n + 2 * ls.length + 1)
theorem len_l_laid : ∀ ds n Q, sp_l_laid ds n Q → ds.length = 2 := by
  rintro ds n Q ⟨w, rfl, _⟩; rfl
def rd_l_laid : DTS := (tSeqD (tOwnD 2 (tLstD tNilD))
  (tSeqD (tForD (tWSeq (tVarD 1)) (gNameD 3) (tSeqD (tSetD 5 (tOpD drIx (tLstD (tConsD (tCD (.int 0)) (tConsD (tVarD 3) (tConsD (tCallD sp_l_pick (tConsD (tVarD 0) (tConsD (tOpD drAdd (tVarD 3) (tCD (.int 1))) tNilD))) tNilD)))) (tCallD sp_l_pick (tConsD (tVarD 0) (tConsD (tCD (.int 3)) tNilD)))))
  (tExtD 2 (tLstD (tConsD (tVarD 5) (tConsD (tOpD drSub (tVarD 3) (tVarD 5)) tNilD))))))
  (tSeqD (tSetD 4 (tLcD .bor (tWRng1 (tCallN drLen (tConsD (tVarD 2) tNilD))) 6 (tTestD (tOpD drGt (tOpD drIx (tVarD 2) (tVarD 6)) (tCD (.int 0)))) (tVarD 6)))
  (tRetD (tTupD (tConsD (tCallN drTup (tConsD (tVarD 2) tNilD)) (tConsD (tOpD drIx (tVarD 4) (tCallD sp_l_pick (tConsD (tVarD 0) (tConsD (tCallN drLen (tConsD (tVarD 4) tNilD)) tNilD)))) tNilD)))))))
theorem read_l_laid : ∀ ds n Qd, sp_l_laid ds n Qd → rd_l_laid { nx := fun _ n' => Qd .non n', rt := Qd } (startD ["pen", "loads", "row", "many", "laden", "here", "end"] ds) n := by
  rintro ds n Qd ⟨ls, rfl, l1, l40, hb, hn, q⟩
  refine ⟨by show 0 ≤ sizeLine; decide, rfl, .inr ⟨small100 (by rw [List.length_map]; omega), ?_⟩⟩
  refine ⟨fun j Δ n' => ∃ (v3 v5 : Option SV) (ps : List (Int × Int)), Δ = [some (.frz .pen), some (.frz (encI ls)), some (.own ((pairsF ps).map D.int)), v3, none, v5, none] ∧ ps.length = j ∧ (∀ p ∈ ps, 0 ≤ p.1 ∧ 0 ≤ p.2 ∧ 1 ≤ p.1 + p.2 ∧ p.1 + p.2 ≤ 9) ∧ n' = n + 2 * j,
    ⟨none, none, [], rfl, rfl, by simp, rfl⟩, ?_, ?_⟩
  · rintro j d Δ n' hj ⟨v3, v5, ps, rfl, hl, hp, rfl⟩
    rw [List.getElem?_map] at hj
    obtain ⟨many, hm, rfl⟩ : ∃ many, ls[j]? = some many ∧ d = .int many := by
      cases e : ls[j]? with
      | none => rw [e] at hj; cases hj
      | some x => rw [e] at hj; cases hj; exact ⟨x, rfl, rfl⟩
    have hjl : j < ls.length := (List.getElem?_eq_some_iff.mp hm).1
    obtain ⟨m1, m9⟩ := hb many (List.mem_of_getElem? hm)
    refine ⟨many + 1, rfl, by omega, by omega, by omega, fun z z0 z1 => ⟨by show 3 ≤ sizeLine; decide, 3, rfl, by decide, by decide, by omega, fun y y0 y1 => ?_⟩⟩
    have top : ∃ t : Int, atI [D.int 0, D.int many, D.int z] y = some (.int t) ∧ 0 ≤ t ∧ t ≤ many := by
      have h3 : y = 0 ∨ y = 1 ∨ y = 2 := by omega
      rcases h3 with rfl | rfl | rfl
      · exact ⟨0, rfl, by omega, by omega⟩
      · exact ⟨many, rfl, by omega, by omega⟩
      · exact ⟨z, rfl, by omega, by omega⟩
    obtain ⟨t, et, t0, t1⟩ := top
    refine ⟨_, et, rfl, by show 2 ≤ sizeLine; decide, small100 ?_, rfl, some (.frz (.int many)), some (.frz (.int t)), ps ++ [(t, many - t)], ?_, by simp [hl], ?_, by omega⟩
    · rw [List.length_map, pairsF_len]; simp only [List.length_cons, List.length_nil]; omega
    · rw [pairsF_app, List.map_append]; rfl
    · intro p hpm
      rcases List.mem_append.mp hpm with hpm | hpm
      · exact hp p hpm
      · rw [List.mem_singleton] at hpm; subst hpm
        exact ⟨t0, by show 0 ≤ many - t; omega, by show 1 ≤ t + (many - t); omega, by show t + (many - t) ≤ 9; omega⟩
  · rintro Δ n' ⟨v3, v5, ps, rfl, hl, hp, rfl⟩
    rw [List.length_map] at hl ⊢
    have hbl : ((pairsF ps).map D.int).length = 2 * ls.length := by rw [List.length_map, pairsF_len, hl]
    refine ⟨trivial, by omega, by omega, ?_⟩
    rw [range0_eq]
    refine ⟨flat_ints _, ?_⟩
    have e0 : ((((pairsF ps).map D.int).length : Int)).toNat = 2 * ls.length := by omega
    rw [e0]
    refine lcW_filterE D.int (fun i => decide (0 < (pairsF ps).getD i.toNat 0)) D.int _ [] _ (by rw [rangeI_length]; simp; exact small100 (by omega)) (fun i hi n'' Q' q' => ?_) (fun i hi _ n'' Q' q' => q') ?_
    · obtain ⟨i0, i1⟩ := mem_rangeI.mp hi
      obtain ⟨x, ex, _, eg⟩ := atI_int (xs := (pairsF ps).map D.int) i0 (by omega)
      rw [List.getElem?_map] at eg
      obtain ⟨v, ev, rfl⟩ : ∃ v, (pairsF ps)[i.toNat]? = some v ∧ x = .int v := by
        cases e : (pairsF ps)[i.toNat]? with
        | none => rw [e] at eg; cases eg
        | some v => rw [e] at eg; cases eg; exact ⟨v, rfl, rfl⟩
      have eD : (pairsF ps).getD i.toNat 0 = v := by rw [List.getD_eq_getElem?_getD, ev]; rfl
      rw [eD] at q'
      exact ⟨_, ex, rfl, q'⟩
    · generalize hla : (rangeI (2 * ls.length)).filter (fun i => decide (0 < (pairsF ps).getD i.toNat 0)) = laden
      have mem : ∀ i ∈ laden, 0 ≤ i ∧ i < 2 * ls.length ∧ ∃ x, (pairsF ps)[i.toNat]? = some x ∧ 0 < x := fun i hi => by
        rw [← hla, List.mem_filter] at hi
        obtain ⟨h1, h2⟩ := hi
        obtain ⟨i0, i1⟩ := mem_rangeI.mp h1
        have h2 : 0 < (pairsF ps).getD i.toNat 0 := of_decide_eq_true h2
        rw [List.getD_eq_getElem?_getD] at h2
        refine ⟨i0, by omega, ?_⟩
        cases e : (pairsF ps)[i.toNat]? with
        | none => rw [e] at h2; simp at h2
        | some x => rw [e] at h2; exact ⟨x, rfl, h2⟩
      have ne : 0 < laden.length := by
        cases hps : ps with
        | nil => rw [hps] at hl; simp at hl; omega
        | cons p ps' =>
          obtain ⟨p1, p2, p3, p4⟩ := hp p (by rw [hps]; exact List.mem_cons_self ..)
          have hx : ∃ i : Int, i ∈ laden := by
            by_cases h : 0 < p.1
            · refine ⟨0, ?_⟩
              rw [← hla, List.mem_filter]
              exact ⟨mem_rangeI.mpr ⟨by omega, by omega⟩, decide_eq_true (by rw [hps]; exact h)⟩
            · refine ⟨1, ?_⟩
              rw [← hla, List.mem_filter]
              exact ⟨mem_rangeI.mpr ⟨by omega, by omega⟩, decide_eq_true (by rw [hps]; show 0 < p.2; omega)⟩
          obtain ⟨i, hi⟩ := hx
          exact List.length_pos_of_mem hi
      have ll : laden.length ≤ 2 * ls.length := by
        rw [← hla]
        exact Nat.le_trans (List.length_filter_le _ _) (by rw [rangeI_length]; exact Nat.le_refl _)
      refine ⟨flat_ints _, laden.length, by rw [List.nil_append, List.length_map], by omega, by omega, by omega, fun z z0 z1 => ?_⟩
      obtain ⟨x, ex, xm, _⟩ := atI_int (xs := laden.map D.int) z0 (by rw [List.length_map]; exact z1)
      obtain ⟨a, am, rfl⟩ := List.mem_map.mp xm
      obtain ⟨a0, a1, x, hx, x0⟩ := mem a am
      exact ⟨_, ex, rfl, by show 2 ≤ sizeLine; decide, q (pairsF ps) a ⟨⟨ps, rfl, hl, hp⟩, a0, by omega, x, hx, x0⟩⟩
end Lw

set_option Elab.async false
set_option linter.all false
set_option maxRecDepth 100000
set_option maxHeartbeats 1000000
namespace Lw
open PySem PySem.Spec PyProof.Rows L2 Dl
/-! ### a house and a standing of it -/
def sp_l_great : DSp := fun ds n Q => ds = [.pen] ∧ n + 300 ≤ lim ∧ ∀ (h : Hs) (rooms wires : Nat) (b : List Int) (a : Int) (n' : Nat), IsHs h rooms wires → 1 ≤ rooms → rooms ≤ 10 → 1 ≤ wires → wires ≤ 20 → IsSt wires b a → n' ≤ n + 300 → Q (.tup [encH h, encS b a]) n'
theorem len_l_great : ∀ ds n Q, sp_l_great ds n Q → ds.length = 1 := by
  rintro ds n Q ⟨rfl, _⟩; rfl
def rd_l_great : DTS := (tSeqD (tSetD 1 (tOpD drAdd (tCD (.int 1)) (tCallD sp_l_pick (tConsD (tVarD 0) (tConsD (tOpD drIx (tLstD (tConsD (tCD (.int 20)) (tConsD (tCD (.int 4)) tNilD))) (tCallD sp_l_pick (tConsD (tVarD 0) (tConsD (tCD (.int 2)) tNilD)))) tNilD)))))
  (tSeqD (tSetD 2 (tCallD sp_l_plan (tConsD (tVarD 0) (tConsD (tOpD drAdd (tCD (.int 1)) (tCallD sp_l_pick (tConsD (tVarD 0) (tConsD (tCD (.int 10)) tNilD)))) (tConsD (tVarD 1) tNilD)))))
  (tRetD (tTupD (tConsD (tVarD 2) (tConsD (tCallD sp_l_laid (tConsD (tVarD 0) (tConsD (tCallD sp_l_loads (tConsD (tVarD 0) (tConsD (tVarD 1) (tConsD (tOpD drPow (tCD (.int 10)) (tCD (.int 21))) tNilD)))) tNilD))) tNilD))))))
theorem read_l_great : ∀ ds n Qd, sp_l_great ds n Qd → rd_l_great { nx := fun _ n' => Qd .non n', rt := Qd } (startD ["pen", "wires", "home"] ds) n := by
  rintro ds n Qd ⟨rfl, hn, q⟩
  refine ⟨by show 2 ≤ sizeLine; decide, 2, rfl, by decide, by decide, by omega, fun z z0 z1 => ?_⟩
  have top : ∃ t : Int, atI [D.int 20, D.int 4] z = some (.int t) ∧ 1 ≤ t ∧ t ≤ 20 := by
    have h2 : z = 0 ∨ z = 1 := by omega
    rcases h2 with rfl | rfl
    · exact ⟨20, rfl, by decide, by decide⟩
    · exact ⟨4, rfl, by decide, by decide⟩
  obtain ⟨t, et, t1, t2⟩ := top
  refine ⟨_, et, rfl, t, rfl, by omega, by omega, by omega, fun y y0 y1 => ?_⟩
  obtain ⟨w, hw⟩ := Int.eq_ofNat_of_zero_le (show 0 ≤ 1 + y by omega)
  refine ⟨10, rfl, by decide, by decide, by omega, fun x x0 x1 => ?_⟩
  obtain ⟨r, hr⟩ := Int.eq_ofNat_of_zero_le (show 0 ≤ 1 + x by omega)
  refine ⟨r, w, by rw [hw, hr], by omega, by omega, by omega, by omega, fun h hh => ?_⟩
  refine ⟨flat_encH h, ⟨by decide, by decide, by decide⟩, w, _, by rw [hw], by omega, by omega, fun ls hl hb => ?_⟩
  refine ⟨ls, rfl, by omega, by omega, hb, by omega, fun b a hs => ⟨by show 2 ≤ sizeLine; decide, ?_⟩⟩
  rw [hl] at hs
  exact q h r w b a _ hh (by omega) (by omega) (by omega) (by omega) hs (by omega)
/-! ### a line -/
def sp_l_line : DSp := fun ds n Q => ∃ (w : Str) (ns : List Int) (d : D), ds = [.str w, d] ∧ isSeq d ns ∧ w.length ≤ 100 ∧ ns.length ≤ 100 ∧ small ns ∧ Q (.str (lineT w ns)) n
theorem len_l_line : ∀ ds n Q, sp_l_line ds n Q → ds.length = 2 := by
  rintro ds n Q ⟨w, ns, d, rfl, _⟩; rfl
def rd_l_line : DTS := (tSeqD (tSetD 2 (tVarD 0))
  (tSeqD (tForD (tWSeq (tVarD 1)) (gNameD 3) (tSetD 2 (tOpD drAdd (tOpD drAdd (tVarD 2) (tCD (.str (Str.ofString " ")))) (tCallN drStrI (tConsD (tVarD 3) tNilD)))))
  (tRetD (tOpD drAdd (tVarD 2) (tCD (.str (Str.ofString "\n")))))))
theorem small_take {ns : List Int} (h : small ns) (j : Nat) : small (ns.take j) := fun n hn => h n (List.mem_of_mem_take hn)
theorem words_snoc (w : Str) (ns : List Int) (k : Int) : wordsT w (ns ++ [k]) = wordsT w ns ++ Str.ofString " " ++ numT k := by
  unfold wordsT
  rw [List.foldl_append]; rfl
theorem read_l_line : ∀ ds n Qd, sp_l_line ds n Qd → rd_l_line { nx := fun _ n' => Qd .non n', rt := Qd } (startD ["word", "numbers", "found", "number"] ds) n := by
  rintro ds n Qd ⟨w, ns, d, rfl, hd, hw, hl, hs, q⟩
  have key : ∃ I : Nat → DEnv → Nat → Prop, I 0 [some (.frz (.str w)), some (.frz d), some (.frz (.str w)), none] n ∧
      (∀ (j : Nat) (e : D) Δ n, (ns.map D.int)[j]? = some e → I j Δ n → (gNameD 3) e Δ n fun Δ1 n1 => (tSetD 2 (tOpD drAdd (tOpD drAdd (tVarD 2) (tCD (.str (Str.ofString " ")))) (tCallN drStrI (tConsD (tVarD 3) tNilD)))) { nx := I (j + 1), rt := Qd, bk := (tRetD (tOpD drAdd (tVarD 2) (tCD (.str (Str.ofString "\n"))))) { nx := fun _ n' => Qd .non n', rt := Qd }, ct := I (j + 1) } Δ1 n1) ∧
      ∀ Δ n, I (ns.map D.int).length Δ n → (tRetD (tOpD drAdd (tVarD 2) (tCD (.str (Str.ofString "\n"))))) { nx := fun _ n' => Qd .non n', rt := Qd } Δ n := by
    refine ⟨fun j Δ n' => ∃ v3, Δ = [some (.frz (.str w)), some (.frz d), some (.frz (.str (wordsT w (ns.take j)))), v3] ∧ n = n', ⟨none, rfl, rfl⟩, ?_, ?_⟩
    · rintro j e Δ n' hj ⟨v3, rfl, rfl⟩
      rw [List.getElem?_map] at hj
      obtain ⟨k, hk, rfl⟩ : ∃ k, ns[j]? = some k ∧ e = .int k := by
        cases e2 : ns[j]? with
        | none => rw [e2] at hj; cases hj
        | some x => rw [e2] at hj; cases hj; exact ⟨x, rfl, rfl⟩
      have kb := hs k (List.mem_of_getElem? hk)
      have e1 := words_len (ns.take j) w (small_take hs j)
      have e2 : (Str.ofString (toString k)).length ≤ 2 := num_len kb
      have e3 : (ns.take j).length ≤ 100 := by rw [List.length_take]; omega
      refine ⟨small100 (by rw [sp_len]; omega), log_small kb, small100 (by rw [Str.length_append, sp_len]; omega), some (.frz (.int k)), ?_, rfl⟩
      rw [List.take_add_one, hk]
      show [_, _, _, _] = [_, _, some (SV.frz (.str (wordsT w (ns.take j ++ [k])))), _]
      rw [words_snoc]
    · rintro Δ n' ⟨v3, rfl, rfl⟩
      rw [List.length_map, List.take_length]
      have e1 := words_len ns w hs
      exact ⟨small100 (by rw [nl_len]; omega), q⟩
  rcases hd with rfl | rfl
  · exact .inl ⟨small100 (by rw [List.length_map]; omega), key⟩
  · exact .inr ⟨small100 (by rw [List.length_map]; omega), key⟩
/-! ### a house and a standing written -/
def sp_l_written : DSp := fun ds n Q => ∃ (h : Hs) (b : List Int) (a : Int), ds = [encH h, encS b a] ∧ okH h ∧ b.length ≤ 100 ∧ small b ∧ 0 ≤ a ∧ a < 100 ∧ Q (.tup [.str (houseT h), .str (standT b a)]) n
theorem len_l_written : ∀ ds n Q, sp_l_written ds n Q → ds.length = 2 := by
  rintro ds n Q ⟨h, b, a, rfl, _⟩; rfl
def rd_l_written : DTS := (tSeqD (tSetD 2 (tCD (.str (Str.ofString ""))))
  (tSeqD (tForD (tWSeq (tVarD 0)) (gNameD 3) (tSetD 2 (tOpD drAdd (tVarD 2) (tCallD sp_l_line (tConsD (tCD (.str (Str.ofString "room"))) (tConsD (tVarD 3) tNilD))))))
  (tRetD (tTupD (tConsD (tVarD 2) (tConsD (tOpD drAdd (tCallD sp_l_line (tConsD (tCD (.str (Str.ofString "beads"))) (tConsD (tOpD drIx (tVarD 1) (tCD (.int 0))) tNilD))) (tCallD sp_l_line (tConsD (tCD (.str (Str.ofString "at"))) (tConsD (tSlD (tVarD 1) (tPartD (tCD (.int 1))) tNoPartD) tNilD)))) tNilD))))))
theorem house_snoc (h : Hs) (r : List Int) : houseT (h ++ [r]) = houseT h ++ lineT (Str.ofString "room") r := by
  unfold houseT
  rw [List.foldl_append]; rfl
theorem read_l_written : ∀ ds n Qd, sp_l_written ds n Qd → rd_l_written { nx := fun _ n' => Qd .non n', rt := Qd } (startD ["home", "stand", "text", "row"] ds) n := by
  rintro ds n Qd ⟨h, b, a, rfl, ok, hl, hs, a0, a1, q⟩
  have h100 := ok.len
  refine .inr ⟨small100 (by rw [List.length_map]; omega), ?_⟩
  refine ⟨fun j Δ n' => ∃ v3, Δ = [some (.frz (encH h)), some (.frz (encS b a)), some (.frz (.str (houseT (h.take j)))), v3] ∧ n = n', ⟨none, by rw [List.take_zero]; exact congrArg (fun z => [some (SV.frz (encH h)), some (SV.frz (encS b a)), some (SV.frz (.str z)), none]) ofs_empty, rfl⟩, ?_, ?_⟩
  · rintro j e Δ n' hj ⟨v3, rfl, rfl⟩
    rw [List.getElem?_map] at hj
    obtain ⟨r, hr, rfl⟩ : ∃ r, h[j]? = some r ∧ e = encI r := by
      cases e2 : h[j]? with
      | none => rw [e2] at hj; cases hj
      | some x => rw [e2] at hj; cases hj; exact ⟨x, rfl, rfl⟩
    obtain ⟨r1, r2⟩ := ok.rows r (List.mem_of_getElem? hr)
    have e1 := house_len (h.take j) Str.empty fun r' hr' => ok.rows r' (List.mem_of_mem_take hr')
    have e2 := line_len r (Str.ofString "room") r2
    have e3 : (h.take j).length ≤ 100 := by rw [List.length_take]; omega
    have e4 : Str.empty.length = 0 := rfl
    refine ⟨_, r, _, rfl, .inr rfl, by rw [room_len]; decide, r1, r2, small100 ?_, some (.frz (encI r)), ?_, rfl⟩
    · show (houseT (h.take j)).length + _ ≤ _
      unfold houseT
      rw [room_len] at e2
      omega
    · rw [List.take_add_one, hr]
      show [_, _, _, _] = [_, _, some (SV.frz (.str (houseT (h.take j ++ [r])))), _]
      rw [house_snoc]
  · rintro Δ n' ⟨v3, rfl, rfl⟩
    rw [List.length_map, List.take_length]
    refine ⟨rfl, encI b, rfl, flat_encI b, _, b, _, rfl, .inr rfl, by rw [beads_len]; decide, hl, hs, ?_, _, [a], _, rfl, .inr rfl, by rw [at_len]; decide, by simp, small_one a0 a1, small100 (Nat.le_trans (stand_len hl hs a0 a1) (by decide)), by show 2 ≤ sizeLine; decide, q⟩
    show flatAll [encI b, .int a] = true
    simp only [flatAll, flat_encI]; rfl
/-! ### a row -/
def sp_l_row : DSp := fun ds n Q => ds = [.pen] ∧ n + 50 ≤ lim ∧ ∀ (ns : List Int) (n' : Nat), small ns → ns.length ≤ 40 → n' ≤ n + 50 → Q (.lst (ns.map D.int)) n'
theorem len_l_row : ∀ ds n Q, sp_l_row ds n Q → ds.length = 1 := by
  rintro ds n Q ⟨rfl, _⟩; rfl
def rd_l_row : DTS := (tSeqD (tSetD 1 (tOpD drIx (tLstD (tConsD (tCD (.int 0)) (tConsD (tCD (.int 1)) (tConsD (tCD (.int 2)) (tConsD (tCD (.int 40)) (tConsD (tCallD sp_l_pick (tConsD (tVarD 0) (tConsD (tCD (.int 41)) tNilD))) tNilD)))))) (tCallD sp_l_pick (tConsD (tVarD 0) (tConsD (tCD (.int 5)) tNilD)))))
  (tRetD (tLcD .bor (tWRng1 (tVarD 1)) 2 tYesD (tCallD sp_l_pick (tConsD (tVarD 0) (tConsD (tCD (.int 40)) tNilD))))))
theorem read_l_row : ∀ ds n Qd, sp_l_row ds n Qd → rd_l_row { nx := fun _ n' => Qd .non n', rt := Qd } (startD ["pen", "many", "k"] ds) n := by
  rintro ds n Qd ⟨rfl, hn, q⟩
  refine ⟨41, rfl, by decide, by decide, by omega, fun z z0 z1 => ⟨by show 5 ≤ sizeLine; decide, 5, rfl, by decide, by decide, by omega, fun y y0 y1 => ?_⟩⟩
  have top : ∃ t : Int, atI [D.int 0, D.int 1, D.int 2, D.int 40, D.int z] y = some (.int t) ∧ 0 ≤ t ∧ t ≤ 40 := by
    have h5 : y = 0 ∨ y = 1 ∨ y = 2 ∨ y = 3 ∨ y = 4 := by omega
    rcases h5 with rfl | rfl | rfl | rfl | rfl
    · exact ⟨0, rfl, by decide, by decide⟩
    · exact ⟨1, rfl, by decide, by decide⟩
    · exact ⟨2, rfl, by decide, by decide⟩
    · exact ⟨40, rfl, by decide, by decide⟩
    · exact ⟨z, rfl, by omega, by omega⟩
  obtain ⟨t, et, t0, t1⟩ := top
  refine ⟨_, et, rfl, trivial, by omega, by omega, ?_⟩
  rw [range0_eq]
  refine ⟨flat_ints _, ?_⟩
  have ht : (rangeI t.toNat).length ≤ 40 := by rw [rangeI_length]; omega
  refine lcW_some rfl (rangeI t.toNat).length (small100 (by omega)) (fun acc n' => ∃ ns : List Int, acc = ns.map D.int ∧ small ns ∧ n' = n + 2 + ns.length) _ [] _ (by rw [List.length_map]; simp) ⟨[], rfl, by intro n hn; simp at hn, rfl⟩ ?_ ?_
  · rintro d hd acc n' Q' hz ⟨ns, rfl, hs, rfl⟩ h
    rw [List.length_map] at hz
    refine ⟨40, rfl, by decide, by decide, by omega, fun z z0 z1 => h _ _ ⟨ns ++ [z], by rw [List.map_append]; rfl, ?_, by simp; omega⟩⟩
    intro k hk
    rcases List.mem_append.mp hk with hk | hk
    · exact hs k hk
    · rw [List.mem_singleton] at hk; subst hk; omega
  · rintro acc' n' hl ⟨ns, rfl, hs, rfl⟩
    rw [List.length_map] at hl
    exact q ns _ hs (by omega) (by omega)
end Lw

set_option Elab.async false
set_option linter.all false
set_option maxRecDepth 100000
set_option maxHeartbeats 1000000
namespace Lw
open PySem PySem.Spec PyProof.Rows L2 Dl
/-! ### the law -/
theorem small_range {h : Hs} {rooms wires : Nat} (hh : IsHs h rooms wires) (hw : wires ≤ 40) : okH h ∨ True := .inr trivial
theorem hs_mem {h : Hs} {rooms wires : Nat} (hh : IsHs h rooms wires) {x : Int} (hx : x ∈ h.flatten) : 0 ≤ x ∧ x < 2 * wires := by
  have := hh.perm.mem_iff.mp hx
  obtain ⟨k, hk, rfl⟩ := List.mem_map.mp this
  rw [List.mem_range] at hk
  omega
theorem hs_ok {h : Hs} {rooms wires : Nat} (hh : IsHs h rooms wires) (hr : rooms ≤ 100) (hw : wires ≤ 40) : okH h where
  len := by rw [hh.len]; exact hr
  rows := fun r hr => by
    have e := hh.perm.length_eq
    rw [List.length_map, List.length_range] at e
    have e2 := (List.sublist_flatten_of_mem hr).length_le
    refine ⟨by omega, fun x hx => ?_⟩
    have := hs_mem hh (List.mem_flatten.mpr ⟨r, hr, hx⟩)
    omega
theorem st_ok {wires : Nat} {b : List Int} {a : Int} (hs : IsSt wires b a) (hw : wires ≤ 40) : b.length = 2 * wires ∧ small b := by
  obtain ⟨ps, rfl, hl, hp⟩ := hs.pairs
  refine ⟨by rw [pairsF_len, hl], fun x hx => ?_⟩
  obtain ⟨p, hpm, e⟩ := pairsF_mem hx
  obtain ⟨p1, p2, p3, p4⟩ := hp p hpm
  omega
theorem tm_house {h : Hs} (ok : okH h) : tm 2 (encH h) = true := by
  show tm 2 (.tup (h.map encI)) = true
  simp only [tm]
  exact tms_map fun r hr => tm_encI (ok.rows r hr).2
theorem wt_house {h : Hs} {rooms wires : Nat} (hh : IsHs h rooms wires) : ∀ (g : Hs), wtDs (g.map encI) ≤ 201 * g.flatten.length + g.length
  | [] => by simp [wtDs]
  | r :: g => by
    have ih := wt_house hh g
    have := wt_encI r
    simp only [List.map_cons, wtDs, List.flatten_cons, List.length_append, List.length_cons]
    omega
theorem rp_pair {h : Hs} {rooms wires : Nat} {b : List Int} {a : Int} (hh : IsHs h rooms wires) (hr : rooms ≤ 100) (hw : wires ≤ 40) (hs : IsSt wires b a) : rpOk (.tup [encH h, encS b a]) := by
  have ok := hs_ok hh hr hw
  obtain ⟨bl, bs⟩ := st_ok hs hw
  have a0 := hs.a0
  have a1 := hs.a1
  refine rpOk_of (k := 3) ?_ (by decide) ?_
  · simp only [tm, tms, tm_house ok, encS, Bool.true_and, Bool.and_true]
    rw [tm_mono bs (by decide), Bool.true_and]
    exact decide_eq_true (by omega)
  · have e := hh.perm.length_eq
    rw [List.length_map, List.length_range] at e
    have e1 := wt_house hh h
    have e2 := wt_encI b
    have e3 : h.length = rooms := hh.len
    simp only [wtD, wtDs, encS, encH]
    omega
/-- only signs that Python has -/
def okS (x : Str) : Prop := (x.cps.toList.all fun c => decide (c < 1114112)) = true
theorem okS_app {x y : Str} (hx : okS x) (hy : okS y) : okS (x ++ y) := by
  unfold okS at *
  rw [Str.cps_append, Array.toList_append, List.all_append, hx, hy]; rfl
theorem okS_num_all : ∀ n : Fin 100, ((numT (n.val : Int)).cps.toList.all fun c => decide (c < 1114112)) = true := by decide +kernel
theorem okS_num {i : Int} (h : 0 ≤ i ∧ i < 100) : okS (numT i) := by
  have := okS_num_all ⟨i.toNat, by omega⟩
  have e : ((i.toNat : Nat) : Int) = i := Int.toNat_of_nonneg h.1
  simp only [e] at this
  exact this
theorem okS_words : ∀ (ns : List Int) (w : Str), small ns → okS w → okS (wordsT w ns)
  | [], w, _, hw => hw
  | k :: ns, w, h, hw => okS_words ns _ (fun n hn => h n (List.mem_cons_of_mem _ hn)) (okS_app (okS_app hw (by unfold okS; decide +kernel)) (okS_num (h k (List.mem_cons_self ..))))
theorem okS_line {ns : List Int} {w : Str} (h : small ns) (hw : okS w) : okS (lineT w ns) := okS_app (okS_words ns w h hw) (by unfold okS; decide +kernel)
theorem okS_house : ∀ (h : Hs) (acc : Str), (∀ r ∈ h, small r) → okS acc → okS (h.foldl (fun acc r => acc ++ lineT (Str.ofString "room") r) acc)
  | [], acc, _, ha => ha
  | r :: h, acc, ok, ha => okS_house h _ (fun r' hr => ok r' (List.mem_cons_of_mem _ hr)) (okS_app ha (okS_line (ok r (List.mem_cons_self ..)) (by unfold okS; decide +kernel)))
theorem okS_stand {b : List Int} {a : Int} (hs : small b) (a0 : 0 ≤ a) (a1 : a < 100) : okS (standT b a) :=
  okS_app (okS_line hs (by unfold okS; decide +kernel)) (okS_line (small_one a0 a1) (by unfold okS; decide +kernel))
theorem words_pre : ∀ (ns : List Int) (p w : Str), wordsT (p ++ w) ns = p ++ wordsT w ns
  | [], p, w => rfl
  | k :: ns, p, w => by
    show wordsT (p ++ w ++ Str.ofString " " ++ numT k) ns = p ++ wordsT (w ++ Str.ofString " " ++ numT k) ns
    rw [← words_pre ns p, Str.append_assoc, Str.append_assoc, Str.append_assoc]
theorem cut_mid (J : Str) : cutS (Str.ofString " " ++ J ++ Str.ofString "\n") (some 1) (some (-1)) = J := by
  have hl : (Str.ofString " " ++ J ++ Str.ofString "\n").length = J.length + 2 := by
    rw [Str.length_append, Str.length_append, sp_len, nl_len]; omega
  unfold cutS
  rw [hl]
  have e1 : HT.sIx (J.length + 2) 0 (some 1) = 1 := by
    rw [show HT.sIx (J.length + 2) 0 (some 1) = min 1 (J.length + 2) from HT.sIx_nat _ _ 1]; omega
  have e2 : HT.sIx (J.length + 2) (J.length + 2) (some (-1)) = J.length + 1 := by
    show (if (-1 : Int) < 0 then ((-1 : Int) + ((J.length + 2 : Nat) : Int)).toNat else min (-1 : Int).toNat (J.length + 2)) = _
    rw [if_pos (by decide)]; omega
  rw [e1, e2]
  have e3 : (Str.ofString " " ++ J ++ Str.ofString "\n").cps.toList = 32 :: (J.cps.toList ++ [10]) := by
    rw [Str.cps_append, Str.cps_append, Array.toList_append, Array.toList_append]; rfl
  rw [e3]
  have e4 : J.cps.toList.length = J.length := by simp [Str.length]
  have e5 : List.take (J.length + 1 - 1) (List.drop 1 (32 :: (J.cps.toList ++ [10]))) = J.cps.toList := by
    rw [List.drop_one, List.tail_cons, Nat.add_sub_cancel, ← e4, List.take_left]
  rw [e5]
theorem due_eq (k : Int) (ns : List Int) : cutS (lineT (Str.ofString "") (k :: ns)) (some 1) (some (-1)) = endsT (k :: ns) := by
  unfold endsT
  rw [if_neg (by simp), join_words]
  have e : lineT (Str.ofString "") (k :: ns) = Str.ofString " " ++ wordsT (numT k) ns ++ Str.ofString "\n" := by
    show wordsT (Str.ofString "" ++ Str.ofString " " ++ numT k) ns ++ _ = _
    rw [ofs_empty, Str.empty_append, words_pre]
  rw [e, cut_mid]
theorem seq_eq_nil {d : D} {ns : List Int} (h : isSeq d ns) (hs : small ns) : shp d ∧ (PyData.eqv (toPy d) (toPy (.lst [])) || PyData.eqv (toPy d) (toPy (.tup []))) = decide (ns = []) := by
  have t : tms 1 (ns.map D.int) = true := tms_map fun x hx => tm_int (by have := hs x hx; omega)
  rcases h with rfl | rfl
  · refine ⟨shp_of (k := 2) (by simp only [tm]; exact t) (by decide), ?_⟩
    cases ns <;> simp [toPy, toPys, PyData.eqv, PyData.eqvAll]
  · refine ⟨shp_of (k := 2) (by simp only [tm]; exact t) (by decide), ?_⟩
    cases ns <;> simp [toPy, toPys, PyData.eqv, PyData.eqvAll]
def rd_ends : DTS := (tForD (tWT (tTupD (tConsD (tCallN drTup (tConsD (tVarD 5) tNilD)) (tConsD (tCallN drList (tConsD (tVarD 5) tNilD)) tNilD)))) (gNameD 12) (tIfSD (tOrD (tTestD (tOpD drNe (tCallD sp_show_ends (tConsD (tVarD 12) tNilD)) (tVarD 11))) (tTestD (tOpD drNe (tCallKD sp_show_ends [0] tNilD (tConsD (tVarD 12) tNilD)) (tVarD 11)))) (tRetD (tCD (.bl false))) tNextD))
def rd_row : DTS := (tSeqD (tSetD 11 (tSlD (tCallD sp_l_line (tConsD (tCD (.str (Str.ofString ""))) (tConsD (tVarD 5) tNilD))) (tPartD (tCD (.int 1))) (tPartD (tUnD drNeg (tCD (.int 1))))))
  (tSeqD (tIfSD (tOrD (tTestD (tOpD drEq (tVarD 5) (tLstD tNilD))) (tTestD (tOpD drEq (tVarD 5) (tTupD tNilD)))) (tSetD 11 (tCD (.str (Str.ofString "-")))) tNextD)
  rd_ends))
theorem read_ends (C : DEnds) {x0 x1 x2 x3 x4 x6 x7 x8 x9 x10 : Option SV} {e : D} {ns : List Int} {o : Option D} {n : Nat} (hd : isSeq e ns) (hs : small ns) (hl : ns.length ≤ 100)
    (k : ∀ o' : Option D, C.nx [x0, x1, x2, x3, x4, some (.frz e), x6, x7, x8, x9, x10, some (.frz (.str (endsT ns))), o'.map SV.frz] n) : rd_ends C [x0, x1, x2, x3, x4, some (.frz e), x6, x7, x8, x9, x10, some (.frz (.str (endsT ns))), o.map SV.frz] n := by
  have hz : ns.length ≤ sizeLine := small100 (by omega)
  have key : ∃ I : Nat → DEnv → Nat → Prop, I 0 [x0, x1, x2, x3, x4, some (.frz e), x6, x7, x8, x9, x10, some (.frz (.str (endsT ns))), o.map SV.frz] n ∧
      (∀ (j : Nat) (e : D) Δ n, [D.tup (ns.map D.int), D.lst (ns.map D.int)][j]? = some e → I j Δ n → (gNameD 12) e Δ n fun Δ1 n1 => (tIfSD (tOrD (tTestD (tOpD drNe (tCallD sp_show_ends (tConsD (tVarD 12) tNilD)) (tVarD 11))) (tTestD (tOpD drNe (tCallKD sp_show_ends [0] tNilD (tConsD (tVarD 12) tNilD)) (tVarD 11)))) (tRetD (tCD (.bl false))) tNextD) { nx := I (j + 1), rt := C.rt, bk := C.nx, ct := I (j + 1) } Δ1 n1) ∧
      ∀ Δ n, I [D.tup (ns.map D.int), D.lst (ns.map D.int)].length Δ n → C.nx Δ n := by
    refine ⟨fun j Δ n' => ∃ o' : Option D, Δ = [x0, x1, x2, x3, x4, some (.frz e), x6, x7, x8, x9, x10, some (.frz (.str (endsT ns))), o'.map SV.frz] ∧ n = n', ⟨o, rfl, rfl⟩, ?_, ?_⟩
    · rintro j d Δ n' hj ⟨o', rfl, rfl⟩
      have hd : isSeq d ns := by
        rcases List.mem_cons.mp (List.mem_of_getElem? hj) with rfl | hm
        · exact .inr rfl
        · rw [List.mem_singleton] at hm; exact .inl hm
      have en : ∀ n, (tCallD sp_show_ends (tConsD (tVarD 12) tNilD)) .bor [x0, x1, x2, x3, x4, some (.frz e), x6, x7, x8, x9, x10, some (.frz (.str (endsT ns))), some (.frz d)] n fun z n1 => z = .str (endsT ns) ∧ n1 = n := fun n => ⟨ns, d, rfl, hd, hl, hs, rfl, rfl⟩
      refine ⟨ns, d, rfl, hd, hl, hs, iteNS rfl ⟨rfl, ns, d, rfl, hd, hl, hs, iteNS rfl ⟨some d, rfl, rfl⟩⟩⟩
    · rintro Δ n' ⟨o', rfl, rfl⟩
      exact k o'
  rcases hd with rfl | rfl
  · exact ⟨flat_ints ns, flat_ints ns, by show 2 ≤ sizeLine; decide, by show 2 ≤ sizeLine; decide, key⟩
  · exact ⟨flat_ints ns, flat_ints ns, by show 2 ≤ sizeLine; decide, by show 2 ≤ sizeLine; decide, key⟩
theorem shp_nil : shp (.lst []) ∧ shp (.tup []) := by constructor <;> (unfold shp; constructor <;> decide)
theorem read_row (C : DEnds) {x0 x1 x2 x3 x4 x6 x7 x8 x9 x10 x11 : Option SV} {e : D} {ns : List Int} {o : Option D} {n : Nat} (hd : isSeq e ns) (hs : small ns) (hl : ns.length ≤ 100)
    (k : ∀ (x : Option SV) (o' : Option D), C.nx [x0, x1, x2, x3, x4, some (.frz e), x6, x7, x8, x9, x10, x, o'.map SV.frz] n) : rd_row C [x0, x1, x2, x3, x4, some (.frz e), x6, x7, x8, x9, x10, x11, o.map SV.frz] n := by
  refine ⟨Str.ofString "", ns, e, rfl, hd, by rw [empty_len]; decide, hl, hs, ?_⟩
  have e1 := line_len ns (Str.ofString "") hs
  rw [empty_len] at e1
  refine ⟨small100 (by omega), ?_⟩
  obtain ⟨q1, q2⟩ := seq_eq_nil hd hs
  have fin : ∀ o' : Option D, rd_ends C [x0, x1, x2, x3, x4, some (.frz e), x6, x7, x8, x9, x10, some (.frz (.str (endsT ns))), o'.map SV.frz] n := fun o' => read_ends C hd hs hl fun o2 => k _ o2
  cases hA : PyData.eqv (toPy e) (toPy (.lst [])) with
  | true =>
    rw [hA, Bool.true_or, eq_comm, decide_eq_true_iff] at q2
    subst q2
    have f2 := fin o
    rcases hd with rfl | rfl
    · refine ⟨by show 0 ≤ sizeLine; decide, q1, shp_nil.1, ?_⟩
      show if PyData.eqv _ _ = true then _ else _
      rw [hA]
      exact f2
    · refine ⟨by show 0 ≤ sizeLine; decide, q1, shp_nil.1, ?_⟩
      show if PyData.eqv _ _ = true then _ else _
      rw [hA]
      exact f2
  | false =>
    rw [hA, Bool.false_or] at q2
    have f2 : (tIfSD (fun Δ n Q => Q (decide (ns = [])) n) (tSetD 11 (tCD (.str (Str.ofString "-")))) tNextD) { nx := rd_ends C, rt := C.rt, bk := C.bk, ct := C.ct } [x0, x1, x2, x3, x4, some (.frz e), x6, x7, x8, x9, x10, some (.frz (.str (cutS (lineT (Str.ofString "") ns) (some 1) (some (-1))))), o.map SV.frz] n := by
      cases ns with
      | nil => exact fin o
      | cons x ns =>
        have := fin o
        rw [← due_eq] at this
        exact this
    rcases hd with rfl | rfl
    · refine ⟨by show 0 ≤ sizeLine; decide, q1, shp_nil.1, ?_⟩
      show if PyData.eqv _ _ = true then _ else _
      rw [hA]
      refine ⟨by show 0 ≤ sizeLine; decide, q1, shp_nil.2, ?_⟩
      show if PyData.eqv _ _ = true then _ else _
      rw [q2]
      exact f2
    · refine ⟨by show 0 ≤ sizeLine; decide, q1, shp_nil.1, ?_⟩
      show if PyData.eqv _ _ = true then _ else _
      rw [hA]
      refine ⟨by show 0 ≤ sizeLine; decide, q1, shp_nil.2, ?_⟩
      show if PyData.eqv _ _ = true then _ else _
      rw [q2]
      exact f2
def rd_law : DTS := (tSeqD (tForD (tWRng1 (tCD (.int 3))) (gNameD 2) (tSeqD (tAsgD (tCallD sp_l_great (tConsD (tVarD 1) tNilD)) (gTupD 2 (gConsD (gNameD 6) (gConsD (gNameD 7) gNilD))))
  (tSeqD (tSetD 3 (tCallN drRepr (tConsD (tTupD (tConsD (tVarD 6) (tConsD (tVarD 7) tNilD))) tNilD)))
  (tSeqD (tAsgD (tCallD sp_l_written (tConsD (tVarD 6) (tConsD (tVarD 7) tNilD))) (gTupD 2 (gConsD (gNameD 8) (gConsD (gNameD 9) gNilD))))
  (tSeqD (tForD (tWRng1 (tCD (.int 2))) (gNameD 4) (tSeqD (tSetD 10 (tLstD (tConsD (tCallD sp_show_house (tConsD (tVarD 6) tNilD)) (tConsD (tCallD sp_show_standing (tConsD (tVarD 7) tNilD)) tNilD))))
  (tIfSD (tOrD (tNotD (tTestD (tCallN drAll (tConsD (tLcD .bor (tWSeq (tVarD 10)) 12 tYesD (tCallN drIsi (tConsD (tVarD 12) (tConsD (tCD (.opq (.ty "str"))) tNilD)))) tNilD)))) (tTestD (tOpD drNe (tVarD 10) (tLstD (tConsD (tVarD 8) (tConsD (tVarD 9) tNilD)))))) (tRetD (tCD (.bl false))) tNextD)))
  (tSeqD (tIfSD (tOrD (tTestD (tOpD drNe (tCallKD sp_show_house [0] tNilD (tConsD (tVarD 6) tNilD)) (tVarD 8))) (tTestD (tOpD drNe (tCallKD sp_show_standing [0] tNilD (tConsD (tVarD 7) tNilD)) (tVarD 9)))) (tRetD (tCD (.bl false))) tNextD)
  (tSeqD (tForD (tWT (tTupD (tConsD (tCallD sp_l_row (tConsD (tVarD 1) tNilD)) (tConsD (tLstD tNilD) (tConsD (tOpD drIx (tVarD 6) (tCallD sp_l_pick (tConsD (tVarD 1) (tConsD (tCallN drLen (tConsD (tVarD 6) tNilD)) tNilD)))) tNilD))))) (gNameD 5) rd_row)
  (tIfSD (tTestD (tOpD drNe (tCallN drRepr (tConsD (tTupD (tConsD (tVarD 6) (tConsD (tVarD 7) tNilD))) tNilD)) (tVarD 3))) (tRetD (tCD (.bl false))) tNextD))))))))
  (tRetD (tCD (.bl true))))
theorem read_law : ∀ v : V, rd_law { nx := fun _ _ => False, rt := fun d _ => d = .bl true } ((startD ["script", "pen", "turn", "kept", "k", "row", "home", "stand", "text", "other", "some", "due", "one"] [.opq v]).set 1 (some (.frz .pen))) 0 := by
  intro v
  refine ⟨by decide, by decide, ?_⟩
  refine ⟨fun j Δ n => ∃ (v2 v3 v4 v5 v6 v7 v8 v9 v10 v11 : Option SV) (o : Option D), Δ = [some (.frz (.opq v)), some (.frz .pen), v2, v3, v4, v5, v6, v7, v8, v9, v10, v11, o.map SV.frz] ∧ n ≤ 1000 * j, ⟨none, none, none, none, none, none, none, none, none, none, none, rfl, Nat.le_refl _⟩, ?_, ?_⟩
  · rintro j d Δ n hj ⟨v2, v3, v4, v5, v6, v7, v8, v9, v10, v11, o, rfl, hn⟩
    have hj3 : j < 3 := (List.getElem?_eq_some_iff.mp hj).1
    refine ⟨rfl, by show n + 300 ≤ 4000000; omega, fun h rooms wires b a n1 hh r1 r2 w1 w2 hs hn1 => ⟨rfl, ?_⟩⟩
    have ok := hs_ok hh (by omega) (by omega)
    obtain ⟨bl, bs⟩ := st_ok hs (by omega)
    have a0 := hs.a0
    have a1 := hs.a1
    have rp := rp_pair hh (by omega) (by omega) hs
    refine ⟨by show 2 ≤ sizeLine; decide, rp, ?_⟩
    refine ⟨h, b, a, rfl, ok, by omega, bs, a0, by omega, rfl, ?_⟩
    refine ⟨by decide, by decide, ?_⟩
    refine ⟨fun i Δ n => ∃ (w4 w10 : Option SV), Δ = [some (.frz (.opq v)), some (.frz .pen), some (.frz d), some (.frz (.str (shownD (.tup [encH h, encS b a])))), w4, v5, some (.frz (encH h)), some (.frz (encS b a)), some (.frz (.str (houseT h))), some (.frz (.str (standT b a))), w10, v11, o.map SV.frz] ∧ n ≤ 1000 * j + 300, ⟨v4, v10, rfl, by omega⟩, ?_, ?_⟩
    · rintro i e Δ n2 hi ⟨w4, w10, rfl, hn2⟩
      refine ⟨h, rfl, ok, b, a, rfl, by omega, bs, a0, by omega, by show 2 ≤ sizeLine; decide, ?_⟩
      refine ⟨by cases o <;> trivial, .inl ⟨by show 2 ≤ sizeLine; decide, rfl, "str", true, rfl, by decide +kernel, by decide, "str", true, rfl, by decide +kernel, by decide, [true, true], rfl, ?_⟩⟩
      refine iteF ?_
      have sh : shp (.lst [.str (houseT h), .str (standT b a)]) := shp_of (k := 1) (by
        simp only [tm, tms, Bool.and_true]
        have q1 : okS (houseT h) := okS_house h _ (fun r hr => (ok.rows r hr).2) (by unfold okS; decide +kernel)
        have q2 := okS_stand bs a0 (by omega)
        unfold okS at q1 q2
        rw [q1, q2]; rfl) (by decide)
      have er : PyData.eqv (toPy (.lst [.str (houseT h), .str (standT b a)])) (toPy (.lst [.str (houseT h), .str (standT b a)])) = true := SeqAt.eqv_refl _ (SeqAt.canLay_of_shaped sh.2)
      refine ⟨by show 2 ≤ sizeLine; decide, sh, sh, ?_⟩
      show if (!PyData.eqv _ _) = true then _ else _
      rw [er]
      exact iteF ⟨some (.frz e), _, rfl, hn2⟩
    · rintro Δ n2 ⟨w4, w10, rfl, hn2⟩
      refine ⟨rfl, h, rfl, ok, iteNS rfl ⟨rfl, b, a, rfl, by omega, bs, a0, by omega, iteNS rfl ?_⟩⟩
      refine ⟨rfl, by show n2 + 50 ≤ 4000000; omega, fun ns1 n3 hs1 hl1 hn3 => ?_⟩
      refine ⟨by show 0 ≤ sizeLine; decide, h.length, by rw [List.length_map], by rw [hh.len]; omega, by rw [hh.len]; omega, by show n3 < 4000000; omega, fun z z0 z1 => ?_⟩
      obtain ⟨x, ex, xm, _⟩ := atI_int (xs := h.map encI) z0 (by rw [List.length_map]; exact z1)
      obtain ⟨r, rm, rfl⟩ := List.mem_map.mp xm
      have rok := ok.rows r rm
      refine ⟨_, ex, flat_encI r, by show 3 ≤ sizeLine; decide, by show 3 ≤ sizeLine; decide, ?_⟩
      refine ⟨fun i Δ n => ∃ (w4 w5 w10 w11 : Option SV) (o : Option D), Δ = [some (.frz (.opq v)), some (.frz .pen), some (.frz d), some (.frz (.str (shownD (.tup [encH h, encS b a])))), w4, w5, some (.frz (encH h)), some (.frz (encS b a)), some (.frz (.str (houseT h))), some (.frz (.str (standT b a))), w10, w11, o.map SV.frz] ∧ n ≤ 1000 * j + 351, ⟨w4, v5, w10, v11, o, rfl, by omega⟩, ?_, ?_⟩
      · rintro i e Δ n4 hi ⟨w4, w5, w10, w11, o, rfl, hn4⟩
        have he : ∃ ns : List Int, isSeq e ns ∧ small ns ∧ ns.length ≤ 100 := by
          have hm := List.mem_of_getElem? hi
          rcases List.mem_cons.mp hm with rfl | hm
          · exact ⟨ns1, .inl rfl, hs1, by omega⟩
          rcases List.mem_cons.mp hm with rfl | hm
          · exact ⟨[], .inl rfl, by intro n hn; simp at hn, by simp⟩
          rw [List.mem_singleton] at hm
          subst hm
          exact ⟨r, .inr rfl, rok.2, rok.1⟩
        obtain ⟨ns, hes, hsm, hl⟩ := he
        exact read_row _ hes hsm hl fun x o' => ⟨_, _, _, _, _, rfl, hn4⟩
      · rintro Δ n4 ⟨w4, w5, w10, w11, o, rfl, hn4⟩
        refine ⟨by show 2 ≤ sizeLine; decide, rp, iteNS rfl ⟨_, _, _, _, _, _, _, _, _, _, _, rfl, by omega⟩⟩
  · rintro Δ n ⟨v2, v3, v4, v5, v6, v7, v8, v9, v10, v11, o, rfl, hn⟩
    rfl
end Lw

set_option Elab.async false
set_option linter.all false
set_option maxRecDepth 100000
set_option maxHeartbeats 4000000
namespace Lw
open PySem PySem.Spec PyProof.Rows L2 Dl
def topS (i : Nat) : Stmt := PySem.Challenge.pw_carryround_k72_houses_and_standings_writ.main.body.getD i (.Pass ⟨0, 0, 0, 0⟩)
abbrev sPen : Stmt := topS 6
abbrev sPick : Stmt := topS 7
theorem scPen : FnScope ["script"] ["script"] (defScope sPen) := ⟨rfl, rfl, rfl, by decide +kernel, rfl, by decide +kernel, by decide +kernel⟩
theorem scPick : FnScope ["pen", "upto", "digit", "turn", "cell", "great", "stirred"] ["pen", "upto"] (defScope sPick) := ⟨rfl, rfl, rfl, by decide +kernel, rfl, by decide +kernel, by decide +kernel⟩
section
variable {P : Program} {w : World} {K : PySem.W.Frag} {mg : Str → Option Value} {base : Heap}
theorem ok_pen {f : Addr} {fd : FuncData} {k : Nat} (F : L2.Fun K "_law_pen" "_law_pen" sPen f fd) (ml : mg "list" = none) : FnOk P w K mg base CX0 (k + 1) f fd ["script"] (spPen K) := by
  refine F.ok scPen (fun vs H Q E h => ?_) (fun cdv A outer s H vs Q E hr h => ?_)
  · obtain ⟨a, ns, rfl, _⟩ := h
    rfl
  · obtain ⟨a, ns, rfl, hS, hlen, q⟩ := h
    refine ⟨_, pss_one (ps_ret (pe_lst (pa_cons (pe_callTy call_list_of (by rfl) ml (by decide +kernel) (pa_cons (pe_slice sl_list (pv 0) po_none (po_some pe_int)) pa_nil)) (pa_cons pe_int (pa_cons pe_int pa_nil))))), ?_⟩
    refine ⟨_, rfl, _, rfl, a, _, rfl, hS, fun c hc => ⟨c, _, rfl, .inl (SqL.of upd_same), fun l hl => ⟨by show 3 ≤ sizeLine; decide, fun p hp => ?_⟩⟩⟩
    have s1 : Same H (upd H c (.lst (cutV (ns.map V.int) none (some 63)))) := same_new hc
    have s2 := same_new (o := .lst (cutV (ns.map V.int) none (some 63))) hl
    have s3 := same_new (o := .lst [.ref l, .int 0, .int 0]) hp
    have np : l ≠ p := fun e => by rw [← e, upd_same] at hp; cases hp
    refine q _ _ ((s1.trans s2).trans s3) ((s1.trans s2).free hp) ⟨l, 0, 0, ns.take 63, upd_same, ?_, np, by rw [List.length_take]; exact Nat.min_le_left _ _, Int.le_refl _, Int.le_refl _, Int.le_refl _⟩
    rw [upd_ne np, upd_same]
    have e : cutV (ns.map V.int) none (some 63) = (ns.take 63).map V.int := by
      unfold cutV
      rw [HT.sIx_none, List.drop_zero, Nat.sub_zero, List.map_take]
      rw [show HT.sIx (ns.map V.int).length (ns.map V.int).length (some 63) = min 63 (ns.map V.int).length from HT.sIx_nat _ _ 63]
      rw [List.take_eq_take_iff]
      rw [List.length_map]
      omega
    rw [e]

theorem pen_upd {Pn c : Addr} {t r t' r' : Int} {H : Hp} (h : H Pn = some (.lst [.ref c, .int t, .int r])) : SameP Pn H (upd H Pn (.lst [.ref c, .int t', .int r'])) :=
  ⟨fun a o e ne => by rw [upd_ne ne]; exact e, fun c' t1 r1 e => by rw [h] at e; cases e; exact ⟨t', r', upd_same⟩⟩
theorem dp_ints {K : PySem.W.Frag} {H : Hp} : ∀ ns : List Int, DpAll K H (ns.map V.int) (ns.map PyData.int)
  | [] => .nil
  | n :: ns => .cons (.int n) (dp_ints ns)
theorem lay_ints : ∀ ns : List Int, PyData.canLayAll0 (ns.map PyData.int) = true
  | [] => rfl
  | n :: ns => by rw [List.map_cons]; simp only [PyData.canLayAll0, PyData.canLay0, Bool.true_and]; exact lay_ints ns
theorem depth_ints : ∀ ns : List Int, PyData.depthAll (ns.map PyData.int) = 0
  | [] => by simp only [List.map_nil, PyData.depthAll]
  | n :: ns => by rw [List.map_cons]; simp only [PyData.depthAll, PyData.depth]; rw [depth_ints ns]; rfl
theorem shaped_ints (ns : List Int) : SeqAt.shaped (.list (ns.map PyData.int)) = true := by
  unfold SeqAt.shaped
  simp only [PyData.canLay0, PyData.depth, lay_ints, depth_ints]
  decide
theorem ok_pick {f : Addr} {fd : FuncData} {k : Nat} (F : L2.Fun K "_law_pick" "_law_pick" sPick f fd) (ml : mg "len" = none) (ma : mg "abs" = none) (mi : mg "int" = none) : FnG P w K mg base CX0 (k + 1) f fd ["pen", "upto"] (liftF spPick) := by
  refine fn_body F scPick (fun vs H Q E h => ?_) (fun cdv A outer s H vs Q E hr _ h => ?_)
  · obtain ⟨Pn, n, ds, Qd, p, r, ⟨u, rfl, _⟩, _⟩ := h
    rw [r.length]; rfl
  · obtain ⟨Pn, n, ds, Qd, pen, rr, ⟨u, rfl, hu0, hu1, hn, hz⟩, kk⟩ := h
    replace hn : n < 4000000 := hn
    obtain ⟨c, t, r, cells, hP, hc, ncP, hlen, t0, tn, r0⟩ := id pen
    obtain rfl : vs = [.ref Pn, .int u] := by
      cases rr with
      | cons a b =>
        cases a
        cases b with
        | cons a b =>
          cases a
          cases b
          rfl
    -- the end of a way: what is told, the pen behind it
    have fin : ∀ (z t' r' : Int) (H' : Hp), H' Pn = some (.lst [.ref c, .int t', .int r']) → (∀ a o, H a = some o → a ≠ Pn → H' a = some o) → 0 ≤ t' → t' ≤ t + 1 → 0 ≤ r' → 0 ≤ z → z < u → Q (.int z) H' := fun z t' r' H' e same h1 h2 h3 h4 h5 => by
      refine kk (.int z) _ (.int z) (n + 1) ⟨same, fun c' t1 r1 e1 => ?_⟩ ⟨c, t', r', cells, e, same _ _ hc ncP, ncP, hlen, h1, by omega, h3⟩ (.int z) (hz z h4 h5)
      rw [hP] at e1
      cases e1
      exact ⟨t', r', e⟩
    refine ⟨_, pss_cons (ps_if (pt_cmpR op_gt (pe_ix ix_list (pv 0) pe_int (fun _ _ => rfl)) pe_int (nomark _))
        (pss_cons (ps_set (i := 2) scPick.nd rfl (.inl rfl) (pe_op op_mod (pe_ix ix_list (pv 0) pe_int (fun _ _ => rfl)) (pv 1)))
          (pss_cons (ps_asg (pe_op op_fdiv (pe_ix ix_list (pv 0) pe_int (fun _ _ => rfl)) (pv 1)) (pg_sub (pv 0) pe_int set_list)) (pss_one (ps_ret (pv 2))))) pss_nil)
      (pss_cons (ps_set (i := 3) scPick.nd rfl (.inl rfl) (pe_ix ix_list (pv 0) pe_int (fun _ _ => rfl)))
      (pss_cons (ps_asg (pe_op op_add (pv 3) pe_int) (pg_sub (pv 0) pe_int set_list))
      (pss_cons (ps_set (i := 4) scPick.nd rfl (.inl rfl) (pe_op op_add (pe_op op_mul pe_int (pv 3)) pe_int))
      (pss_cons (ps_if (pt_cmpR (op_neD hr.units) (pe_ix ix_list (pv 0) pe_int (fun _ _ => rfl)) (pe_lst pa_nil) (nomark _))
        (pss_one (ps_set (i := 4) scPick.nd rfl (.inl rfl) (pe_ix ix_list (pe_ix ix_list (pv 0) pe_int (fun _ _ => rfl)) (pe_op op_mod (pv 3) (pe_callB call_len (by rfl) ml PySem.boot_len (pa_cons (pe_ix ix_list (pv 0) pe_int (fun _ _ => rfl)) pa_nil))) (fun _ _ => rfl)))) pss_nil)
      (pss_cons (ps_if (PW.pt (pw_and (pt_cmpR op_lt (pv 3) (pe_callB call_len (by rfl) ml PySem.boot_len (pa_cons (pe_ix ix_list (pv 0) pe_int (fun _ _ => rfl)) pa_nil)) (nomark _))
          (pw_and1 (pt_cmpR op_ge (pe_callB call_abs (by rfl) ma (by decide +kernel) (pa_cons (pv 4) pa_nil)) (pe_op op_pow pe_int pe_int) (nomark _)))))
        (pss_cons (ps_set (i := 5) scPick.nd rfl (.inl rfl) (pe_op op_add (pe_op op_mul pe_int (pe_callB call_abs (by rfl) ma (by decide +kernel) (pa_cons (pv 4) pa_nil))) (pe_callTy call_int1 (by rfl) mi (by decide +kernel) (pa_cons (pe_cmpR op_lt (pv 4) pe_int (nomark _)) pa_nil))))
          (pss_cons (ps_asg (pe_op op_fdiv (pv 5) (pv 1)) (pg_sub (pv 0) pe_int set_list)) (pss_one (ps_ret (pe_op op_mod (pv 5) (pv 1)))))) pss_nil)
      (pss_cons (ps_set (i := 6) scPick.nd rfl (.inl rfl) (pe_op op_mod (pe_op op_pow (pe_op op_add (pe_op op_add (pe_op op_mod (pv 4) pe_int) (pe_op op_mul pe_int (pv 3))) pe_int) pe_int) pe_int))
      (pss_cons (ps_set (i := 6) scPick.nd rfl (.inl rfl) (pe_op op_mod (pe_op op_pow (pe_op op_add (pe_op op_mul (pv 6) (pe_op op_add (pv 3) pe_int)) (pe_op op_mul (pe_op op_mul pe_int (pv 3)) (pv 3))) pe_int) pe_int))
      (pss_one (ps_ret (pe_op op_mod (pe_op op_fdiv (pv 6) pe_int) (pv 1))))))))))), ?_⟩
    refine ⟨.ref Pn, rfl, Pn, _, 2, .int r, rfl, rfl, SqL.of hP, rfl, r, 0, rfl, rfl, _, rfl, ite2 (fun hr0 => ?_) (fun hr0 => ?_)⟩
    · -- a digit of a great cell
      have hr1 : 0 < r := of_decide_eq_true hr0
      refine ⟨.ref Pn, rfl, Pn, _, 2, .int r, rfl, rfl, SqL.of hP, rfl, .int u, rfl, r, u, rfl, rfl, hu0, ?_⟩
      refine ⟨.ref Pn, rfl, Pn, _, 2, .int r, rfl, rfl, SqL.of hP, rfl, .int u, rfl, r, u, rfl, rfl, ⟨hu0, hu1⟩, ?_⟩
      refine ⟨.ref Pn, rfl, Pn, _, 2, 2, rfl, rfl, hP, rfl, .int (r % u), rfl, ?_⟩
      exact fin _ t (r / u) _ upd_same (fun a o e ne => by rw [upd_ne ne]; exact e) t0 (by omega) (Int.ediv_nonneg r0 (by omega)) (Int.emod_nonneg _ (by omega)) (Int.emod_lt_of_pos _ hu0)
    · -- a new cell
      refine ⟨.ref Pn, rfl, Pn, _, 1, .int t, rfl, rfl, SqL.of hP, rfl, ?_⟩
      refine ⟨.int t, rfl, t, 1, rfl, rfl, .ref Pn, rfl, Pn, _, 1, 1, rfl, rfl, hP, rfl, ?_⟩
      generalize hH1 : upd H Pn (HO.lst (List.set [V.ref c, V.int t, V.int r] 1 ((fun i j => V.int (i + j)) t 1))) = H1
      have hP1 : H1 Pn = some (.lst [.ref c, .int (t + 1), .int r]) := by rw [← hH1]; exact upd_same
      have hc1 : H1 c = some (.lst (cells.map V.int)) := by rw [← hH1, upd_ne ncP]; exact hc
      have same1 : ∀ a o, H a = some o → a ≠ Pn → H1 a = some o := fun a o e ne => by rw [← hH1, upd_ne ne]; exact e
      refine ⟨.int t, rfl, 1733, t, rfl, rfl, .inl ⟨by decide, by decide⟩, _, 211, rfl, rfl, ?_⟩
      refine ⟨.ref Pn, rfl, Pn, _, 0, .ref c, rfl, rfl, SqL.of hP1, rfl, Nat.zero_le _, fun b hb => ?_⟩
      have nbP : b ≠ Pn := fun z => by rw [z, hP1] at hb; cases hb
      generalize hH2 : upd H1 b (.lst []) = H2
      have hP2 : H2 Pn = some (.lst [.ref c, .int (t + 1), .int r]) := by rw [← hH2, upd_ne (Ne.symm nbP)]; exact hP1
      have hc2 : H2 c = some (.lst (cells.map V.int)) := by rw [← hH2, upd_ne (ne_of_none hc1 hb)]; exact hc1
      have hb2 : H2 b = some (.lst []) := by rw [← hH2]; exact upd_same
      have same2 : ∀ a o, H a = some o → a ≠ Pn → H2 a = some o := fun a o e ne => by
        have e1 := same1 a o e ne
        rw [← hH2, upd_ne (ne_of_none e1 hb)]; exact e1
      have dpc : Dp K H2 (.ref c) (.list (cells.map PyData.int)) := .lst (SqL.of hc2) (dp_ints cells)
      have dpb : Dp K H2 (.ref b) (.list []) := .lst (SqL.of hb2) .nil
      have tl : t < 4000000 := by omega
      have len1 : ((cells.map V.int).length : Int) = cells.length := by rw [List.length_map]
      -- what is stirred
      have stir : ∀ (cell y1 y2 y3 : Int), 0 ≤ y1 → y1 < 2147483549 → 0 ≤ y3 → y3 < 2147483647 → ((y1 + 52009 * t + 173).natAbs < 2 ^ 64) ∧ -(2 ^ 64) < y3 ∧ y3 < 2 ^ 64 ∧ -(2 ^ 64) < 91009 * t ∧ 91009 * t < 2 ^ 64 ∧ (y3 * (t + 40129) + 91009 * t * t).natAbs < 2 ^ 64 := fun cell y1 y2 y3 a1 a2 a3 a4 => by
        have m1 : y3 * (t + 40129) ≤ 2147483647 * (t + 40129) := Int.mul_le_mul_of_nonneg_right (by omega) (by omega)
        have m2 : 0 ≤ y3 * (t + 40129) := Int.mul_nonneg a3 (by omega)
        have m3 : 91009 * t * t ≤ 91009 * 4000000 * 4000000 := by
          have e1 : 91009 * t ≤ 91009 * 4000000 := by omega
          exact Int.le_trans (Int.mul_le_mul_of_nonneg_right e1 t0) (Int.mul_le_mul_of_nonneg_left (by omega) (by omega))
        have m4 : 0 ≤ 91009 * t * t := Int.mul_nonneg (by omega) t0
        refine ⟨by omega, by omega, by omega, by omega, by omega, by omega⟩
      by_cases hcl : cells = []
      · subst hcl
        refine ⟨_, _, dpc, dpb, shaped_ints [], by decide +kernel, false, rfl, ?_⟩
        refine iteF ?_
        have d1 : V.bl (decide (t < ((([] : List Int).map V.int).length : Int))) = V.bl false := by rw [decide_eq_false]; simp; omega
        refine ⟨.int t, rfl, .ref Pn, rfl, Pn, _, 0, .ref c, rfl, rfl, SqL.of hP2, rfl, .ref c, _, rfl, .inl ⟨_, SqL.of hc2, rfl⟩, t, _, rfl, rfl, false, d1, ?_⟩
        refine iteF (iteF ?_)
        obtain ⟨b1, b2, b3, b4, b5, b6⟩ := stir (1733 * t + 211) ((1733 * t + 211) % 2147483549) 0 (((1733 * t + 211) % 2147483549 + 52009 * t + 173) ^ 5 % 2147483647) (Int.emod_nonneg _ (by decide)) (Int.emod_lt_of_pos _ (by decide)) (Int.emod_nonneg _ (by decide)) (Int.emod_lt_of_pos _ (by decide))
        refine ⟨.int (1733 * t + 211), rfl, (1733 * t + 211), _, rfl, rfl, (by show (0 : Int) < 2147483549; decide), .int t, rfl, 52009, t, rfl, rfl, .inl ⟨by decide, by decide⟩, _, _, rfl, rfl, _, _, rfl, rfl, _, _, rfl, rfl, ⟨by decide, by decide, b1⟩, _, _, rfl, rfl, (by show (0 : Int) < 2147483647; decide), ?_⟩
        refine ⟨_, rfl, .int t, rfl, t, _, rfl, rfl, _, _, rfl, rfl, .inl ⟨b2, b3⟩, .int t, rfl, 91009, t, rfl, rfl, .inl ⟨by decide, by decide⟩, .int t, rfl, _, t, rfl, rfl, .inl ⟨b4, b5⟩, _, _, rfl, rfl, _, _, rfl, rfl, ⟨by decide, by decide, b6⟩, _, _, rfl, rfl, (by show (0 : Int) < 2147483563; decide), ?_⟩
        refine ⟨_, rfl, _, _, rfl, rfl, ⟨by decide, by decide⟩, .int u, rfl, _, u, rfl, rfl, hu0, ?_⟩
        exact fin _ (t + 1) r _ hP2 same2 (by omega) (by omega) r0 (Int.emod_nonneg _ (by omega)) (Int.emod_lt_of_pos _ hu0)
      · have hpos : 0 < cells.length := by cases cells with | nil => exact absurd rfl hcl | cons => simp
        have ev : V.bl (!PyData.eqv (.list (cells.map PyData.int)) (.list [])) = V.bl true := by
          cases cells with
          | nil => exact absurd rfl hcl
          | cons => rfl
        refine ⟨_, _, dpc, dpb, shaped_ints cells, by decide +kernel, true, ev, ?_⟩
        refine iteT ?_
        have hm0 : 0 ≤ t % (cells.length : Int) := Int.emod_nonneg _ (by omega)
        have hm1 : t % (cells.length : Int) < cells.length := Int.emod_lt_of_pos _ (by omega)
        obtain ⟨j, hj⟩ := Int.eq_ofNat_of_zero_le hm0
        have hjl : j < cells.length := by omega
        have at1 : atI (cells.map V.int) (t % ((cells.map V.int).length : Int)) = some (.int cells[j]) := by
          rw [len1]
          refine at_of hj ?_
          rw [List.getElem?_map, List.getElem?_eq_getElem hjl]; rfl
        refine ⟨.ref Pn, rfl, Pn, _, 0, .ref c, rfl, rfl, SqL.of hP2, rfl, .int t, rfl, .ref Pn, rfl, Pn, _, 0, .ref c, rfl, rfl, SqL.of hP2, rfl, .ref c, _, rfl, .inl ⟨_, SqL.of hc2, rfl⟩, t, _, rfl, rfl, (by rw [len1]; omega), c, _, _, .int cells[j], rfl, rfl, SqL.of hc2, at1, ?_⟩
        generalize cells[j] = cell
        refine ⟨.int t, rfl, .ref Pn, rfl, Pn, _, 0, .ref c, rfl, rfl, SqL.of hP2, rfl, .ref c, _, rfl, .inl ⟨_, SqL.of hc2, rfl⟩, t, _, rfl, rfl, _, rfl, ite2 (fun ht => ?_) (fun ht => ?_)⟩
        · refine ⟨.int cell, rfl, cell, rfl, 10, 18, rfl, rfl, ⟨by decide, by decide, by decide⟩, _, _, rfl, rfl, _, rfl, ite2 (fun hg => ?_) (fun hg => ?_)⟩
          · have ab : (0 : Int) ≤ if cell < 0 then -cell else cell := by split <;> omega
            refine ⟨.int cell, rfl, cell, rfl, 2, _, rfl, rfl, .inl ⟨by decide, by decide⟩, .int cell, rfl, cell, 0, rfl, rfl, .inr ⟨_, rfl, _, _, rfl, rfl, ?_⟩⟩
            have gb : (0 : Int) ≤ 2 * (if cell < 0 then -cell else cell) + (if decide (cell < 0) = true then 1 else 0) := by
              have : (0 : Int) ≤ (if decide (cell < 0) = true then 1 else 0) := by split <;> omega
              omega
            refine ⟨_, rfl, .int u, rfl, _, u, rfl, rfl, ⟨hu0, hu1⟩, .ref Pn, rfl, Pn, _, 2, 2, rfl, rfl, hP2, rfl, _, rfl, .int u, rfl, _, u, rfl, rfl, hu0, ?_⟩
            exact fin _ (t + 1) (_ / u) _ upd_same (fun a o e ne => by rw [upd_ne ne]; exact same2 a o e ne) (by omega) (by omega) (Int.ediv_nonneg gb (by omega)) (Int.emod_nonneg _ (by omega)) (Int.emod_lt_of_pos _ hu0)
          · obtain ⟨b1, b2, b3, b4, b5, b6⟩ := stir cell (cell % 2147483549) 0 ((cell % 2147483549 + 52009 * t + 173) ^ 5 % 2147483647) (Int.emod_nonneg _ (by decide)) (Int.emod_lt_of_pos _ (by decide)) (Int.emod_nonneg _ (by decide)) (Int.emod_lt_of_pos _ (by decide))
            refine ⟨.int cell, rfl, cell, _, rfl, rfl, (by show (0 : Int) < 2147483549; decide), .int t, rfl, 52009, t, rfl, rfl, .inl ⟨by decide, by decide⟩, _, _, rfl, rfl, _, _, rfl, rfl, _, _, rfl, rfl, ⟨by decide, by decide, b1⟩, _, _, rfl, rfl, (by show (0 : Int) < 2147483647; decide), ?_⟩
            refine ⟨_, rfl, .int t, rfl, t, _, rfl, rfl, _, _, rfl, rfl, .inl ⟨b2, b3⟩, .int t, rfl, 91009, t, rfl, rfl, .inl ⟨by decide, by decide⟩, .int t, rfl, _, t, rfl, rfl, .inl ⟨b4, b5⟩, _, _, rfl, rfl, _, _, rfl, rfl, ⟨by decide, by decide, b6⟩, _, _, rfl, rfl, (by show (0 : Int) < 2147483563; decide), ?_⟩
            refine ⟨_, rfl, _, _, rfl, rfl, ⟨by decide, by decide⟩, .int u, rfl, _, u, rfl, rfl, hu0, ?_⟩
            exact fin _ (t + 1) r _ hP2 same2 (by omega) (by omega) r0 (Int.emod_nonneg _ (by omega)) (Int.emod_lt_of_pos _ hu0)
        · refine iteF ?_
          obtain ⟨b1, b2, b3, b4, b5, b6⟩ := stir cell (cell % 2147483549) 0 ((cell % 2147483549 + 52009 * t + 173) ^ 5 % 2147483647) (Int.emod_nonneg _ (by decide)) (Int.emod_lt_of_pos _ (by decide)) (Int.emod_nonneg _ (by decide)) (Int.emod_lt_of_pos _ (by decide))
          refine ⟨.int cell, rfl, cell, _, rfl, rfl, (by show (0 : Int) < 2147483549; decide), .int t, rfl, 52009, t, rfl, rfl, .inl ⟨by decide, by decide⟩, _, _, rfl, rfl, _, _, rfl, rfl, _, _, rfl, rfl, ⟨by decide, by decide, b1⟩, _, _, rfl, rfl, (by show (0 : Int) < 2147483647; decide), ?_⟩
          refine ⟨_, rfl, .int t, rfl, t, _, rfl, rfl, _, _, rfl, rfl, .inl ⟨b2, b3⟩, .int t, rfl, 91009, t, rfl, rfl, .inl ⟨by decide, by decide⟩, .int t, rfl, _, t, rfl, rfl, .inl ⟨b4, b5⟩, _, _, rfl, rfl, _, _, rfl, rfl, ⟨by decide, by decide, b6⟩, _, _, rfl, rfl, (by show (0 : Int) < 2147483563; decide), ?_⟩
          refine ⟨_, rfl, _, _, rfl, rfl, ⟨by decide, by decide⟩, .int u, rfl, _, u, rfl, rfl, hu0, ?_⟩
          exact fin _ (t + 1) r _ hP2 same2 (by omega) (by omega) r0 (Int.emod_nonneg _ (by omega)) (Int.emod_lt_of_pos _ hu0)
end
end Lw

set_option Elab.async false
set_option linter.all false
set_option maxRecDepth 100000
set_option maxHeartbeats 4000000
namespace Lw
open PySem PySem.Spec PyProof.Rows L2 Dl
abbrev sPlan : Stmt := topS 8
theorem scPlan : FnScope ["pen", "rooms", "wires", "found", "k", "end", "row"] ["pen", "rooms", "wires"] (defScope sPlan) := ⟨rfl, rfl, rfl, by decide +kernel, rfl, by decide +kernel, by decide +kernel⟩
section
variable {P : Program} {w : World} {K : PySem.W.Frag} {mg : Str → Option Value} {base : Heap}
abbrev rTupOf (K : PySem.W.Frag) : List V → Hp → VK → Prop := fun xs H Q => ∃ p ys, xs = [.ref p] ∧ ((SqL K H p ys ∧ ∀ l, H l = none → Q (.ref l) (upd H l (.tup ys))) ∨ (SqT K H p ys ∧ Q (.ref p) H))
theorem ok_plan {f : Addr} {fd : FuncData} {k : Nat} {kw : List (List Str × List Nat)} (F : L2.Fun K "_law_plan" "_law_plan" sPlan f fd) (mr : mg "range" = none) (ml : mg "len" = none) (mt : mg "tuple" = none) (C : Cal P w K mg base "_law_pick" k ["pen", "upto"] kw (liftF spPick)) :
    FnG P w K mg base CX0 (k + 1) f fd ["pen", "rooms", "wires"] (liftF spPlan) := by
  refine fn_body F scPlan (fun vs H Q E h => ?_) (fun cdv A outer s H vs Q E hr hgd h => ?_)
  · obtain ⟨Pn, n, ds, Qd, p, r, ⟨rooms, wires, rfl, _⟩, _⟩ := h
    rw [r.length]; rfl
  · obtain ⟨Pn, n, ds, Qd, pen, rr, ⟨rooms, wires, rfl, hr1, hr2, hw2, hn, hz⟩, kk⟩ := h
    obtain rfl : vs = [.ref Pn, .int rooms, .int wires] := by
      match rr with
      | .cons .pen (.cons (.int _) (.cons (.int _) .nil)) => rfl
    have hcl : A.guards = some [] := hgd
    refine ⟨_, PSs.nox (pss_cons (ps_setLc (i := 3) (own := [("k", 4)]) (g := gName 4) (tt := tYes) rfl scPlan.nd rfl rfl (sw_true rfl rfl rfl (by decide +kernel)) (pi_range1 (by rfl) mr (pa_cons (pv 1) pa_nil))
        (blkOk_by (own := [("k", 4)]) (N := ["pen", "rooms", "wires", "found", "k", "end", "row"]) (sc := defScope sPlan) (by decide +kernel)) (fun _ _ _ _ _ => pg_name (i := 4) scPlan.nd rfl (Or.inl rfl)) (fun _ _ _ _ _ => pts_nil) (fun _ _ _ _ _ => pe_lst pa_nil))
      (pss_cons (ps_for PassesOwn.never rfl (pi_range1 (by rfl) mr (pa_cons (pe_op op_mul pe_int (pv 2)) pa_nil)) (pg_name (i := 5) scPlan.nd rfl (Or.inl rfl))
        (pss_cons (ps_set (i := 6) scPlan.nd rfl (Or.inl rfl) (pe_ix ix_list (pv 3) (pe_cal C hr hgd (pa_cons (pv 0) (pa_cons (pv 1) pa_nil))) (fun _ _ => rfl)))
          (pss_one (ps_expr (pe_bm PySem.F.plainAttrs_list PySem.F.slot_list_insert PySem.F.type_list_insert mt_insert (pv 6)
            (pa_cons (pe_cal C hr hgd (pa_cons (pv 0) (pa_cons (pe_op op_add (pe_callB call_len (by rfl) ml PySem.boot_len (pa_cons (pv 6) pa_nil)) pe_int) pa_nil))) (pa_cons (pv 5) pa_nil)))))))
      (pss_one (ps_ret (pe_callTy call_tuple_of (by rfl) mt (by decide +kernel) (pa_cons
        (pe_lc (te := tCB (rTupOf K) (tCons (tVar 6) tNil)) (own := [("row", 6)]) (g := gName 6) (tt := tYes) rfl scPlan.nd (pi_list (pv 3)) (blkOk_by (own := [("row", 6)]) (N := ["pen", "rooms", "wires", "found", "k", "end", "row"]) (sc := defScope sPlan) (by decide +kernel))
          (fun _ _ _ _ _ => pg_name (i := 6) scPlan.nd rfl (Or.inl rfl)) (fun _ _ _ _ _ => pts_nil) (fun _ _ _ _ _ => pe_callTy (T := "tuple") call_tuple_of (by rfl) mt (by decide +kernel) (pa_cons (pv 6) pa_nil))) pa_nil)))))), ?_⟩
    -- found = [[] for k in range(rooms)]
    refine ⟨.int rooms, rfl, rooms, rfl, by omega, by omega, fun p hp => ?_⟩
    have npP : p ≠ Pn := fun z => pen.some (z ▸ hp)
    refine lc_range (lo := 0) (n := ((rooms : Int)).toNat) (fun i H' => ∃ as : List Addr, H' p = some (.lst (as.map V.ref)) ∧ as.length = i ∧ RowsAt H' as (List.replicate i []) ∧ as.Nodup ∧ p ∉ as ∧ (∀ a ∈ as, H a = none) ∧ Same H H')
      ⟨[], upd_same, rfl, .nil, .nil, by simp, by simp, same_new hp⟩ ?_ ?_
    · rintro i H' hi ⟨as, h1, h2, h3, h4, h5, h6, h7⟩
      refine ⟨rfl, Nat.zero_le _, fun a ha => ?_⟩
      have nap : p ≠ a := ne_of_none h1 ha
      have naa : a ∉ as := fun z => by
        obtain ⟨j, hj⟩ := List.mem_iff_getElem?.mp z
        obtain ⟨r, _, hr⟩ := h3.get hj
        have hr' : H' a = some _ := hr
        rw [ha] at hr'; cases hr'
      refine ⟨_, by rw [upd_ne nap]; exact h1, by rw [List.length_map, h2]; exact Nat.lt_of_lt_of_le hi (by have : rooms ≤ 100 := hr2; show (rooms : Int).toNat ≤ 16777216; omega), as ++ [a], ?_, by simp [h2], ?_, ?_, ?_, ?_, ?_⟩
      · rw [upd_same, List.map_append]; rfl
      · have e : RowsAt (upd (upd H' a (.lst [])) p (.lst (as.map V.ref ++ [.ref a]))) as (List.replicate i []) := h3.imp fun b hb o ho => by
          rw [upd_ne (show b ≠ p from fun z => h5 (by rw [← z]; exact hb)), upd_ne (show b ≠ a from fun z => naa (by rw [← z]; exact hb))]; exact ho
        rw [List.replicate_succ']
        exact e.push (by show upd (upd H' a (.lst [])) p _ a = _; rw [upd_ne (Ne.symm nap), upd_same]; rfl)
      · rw [List.nodup_append]
        exact ⟨h4, by simp, fun x hx y hy => by simp at hy; subst hy; exact fun z => naa (z ▸ hx)⟩
      · simp only [List.mem_append, List.mem_singleton, not_or]; exact ⟨h5, nap⟩
      · intro b hb
        rcases List.mem_append.mp hb with hb | hb
        · exact h6 b hb
        · simp at hb; subst hb; exact h7.free ha
      · exact fun b o e => by rw [upd_ne (ne_of_none e hp)]; exact (h7.trans (same_new ha)) b o e
    · rintro H1 ⟨as, h1, h2, h3, h4, h5, h6, h7⟩
      have e1 : ((rooms : Int)).toNat = rooms := Int.toNat_natCast rooms
      rw [e1] at h2 h3
      -- for end in range(2 * wires)
      refine ⟨.int wires, rfl, 2, wires, rfl, rfl, .inl ⟨by decide, by decide⟩, 2 * wires, rfl, by omega, by omega, ?_⟩
      refine for_range (lo := 0) (n := (2 * (wires : Int)).toNat) (fun i σ H' => ∃ (v4 v5 v6 : Option V) (as : List Addr) (rs : List (List Int)), σ = [some (.ref Pn), some (.int rooms), some (.int wires), some (.ref p), v4, v5, v6] ∧
        H' p = some (.lst (as.map V.ref)) ∧ as.length = rooms ∧ RowsAt H' as rs ∧ as.Nodup ∧ p ∉ as ∧ (∀ a ∈ as, H a = none) ∧ SameP Pn H H' ∧ PenOk Pn (n + 2 * i) H' ∧ rs.length = rooms ∧ rs.flatten.Perm ((List.range i).map fun (k : Nat) => (k : Int)))
        ⟨none, none, none, as, List.replicate rooms [], rfl, h1, h2, h3, h4, h5, h6, .of h7, pen.same h7, List.length_replicate, by rw [List.flatten_replicate_nil]; exact List.Perm.refl _⟩ ?_ ?_
      · rintro i σ H' hi ⟨v4, v5, v6, as, rs, rfl, g1, g2, g3, g4, g5, g6, g7, g8, g9, g10⟩
        have hiw : i < 2 * wires := by omega
        refine ⟨.ref p, rfl, .ref Pn, rfl, .int rooms, rfl, pick_use (E := E0) g8 (by omega) (by omega) (by omega) fun z H2 z0 z1 s2 p2 => ?_⟩
        obtain ⟨j, hj⟩ := Int.eq_ofNat_of_zero_le z0
        have hjl : j < as.length := by omega
        have ea : as[j]? = some as[j] := List.getElem?_eq_getElem hjl
        generalize as[j] = a at ea
        obtain ⟨r, er, har⟩ := g3.get ea
        have har : H' a = some (.lst (r.map V.int)) := har
        have ham : a ∈ as := List.mem_of_getElem? ea
        have naP : a ≠ Pn := fun q => pen.some (by rw [← q]; exact g6 a ham)
        have hp2 : H2 p = some (.lst (as.map V.ref)) := s2 _ _ g1 npP
        have ha2 : H2 a = some (.lst (r.map V.int)) := s2 _ _ har naP
        refine ⟨p, _, z, .ref a, rfl, rfl, SqL.of hp2, at_of hj (by rw [List.getElem?_map, ea]; rfl), ?_⟩
        -- row.insert(.., end)
        have hrl : r.length ≤ 200 := by
          have q1 := (List.sublist_flatten_of_mem (List.mem_of_getElem? er)).length_le
          have q2 := g10.length_eq
          rw [List.length_map, List.length_range] at q2
          omega
        refine ⟨.ref a, rfl, .inl ⟨rfl, _, SqL.of ha2⟩, .ref Pn, rfl, .ref a, rfl, .ref a, _, rfl, .inl ⟨_, SqL.of ha2, rfl⟩, _, 1, rfl, rfl, pick_use (E := E0) p2 (by omega) (by rw [List.length_map]; omega) (by omega) fun z2 H3 y0 y1 s3 p3 => ?_⟩
        have hp3 : H3 p = some (.lst (as.map V.ref)) := s3 _ _ hp2 npP
        have ha3 : H3 a = some (.lst (r.map V.int)) := s3 _ _ ha2 naP
        refine ⟨_, rfl, a, _, z2, _, rfl, rfl, ha3, by rw [List.length_map]; exact Nat.lt_of_le_of_lt hrl (by decide), y0, by rw [List.length_map] at y1; omega, ?_⟩
        have em : (r.map V.int).take z2.toNat ++ [V.int (0 + (i : Int))] ++ (r.map V.int).drop z2.toNat = (r.take z2.toNat ++ [(i : Int)] ++ r.drop z2.toNat).map V.int := by
          rw [List.map_append, List.map_append, List.map_take, List.map_drop, Int.zero_add]; rfl
        rw [em]
        have nap : a ≠ p := fun q => g5 (by rw [← q]; exact ham)
        have s4 : SameP Pn H (upd H3 a (.lst ((r.take z2.toNat ++ [(i : Int)] ++ r.drop z2.toNat).map V.int))) := by
          have s := (g7.trans s2).trans s3
          exact ⟨fun b o e ne => by rw [upd_ne (ne_of_none e (g6 a ham))]; exact s b o e ne, fun c t r e => by rw [upd_ne (Ne.symm naP)]; exact s.cel c t r e⟩
        have g3' : RowsAt H3 as rs := g3.imp fun b hb o ho => by
          have nb : b ≠ Pn := fun q => pen.some (by rw [← q]; exact g6 b hb)
          exact s3 _ _ (s2 _ _ ho nb) nb
        refine ⟨_, _, _, as, rs.set j (r.take z2.toNat ++ [(i : Int)] ++ r.drop z2.toNat), rfl, by rw [upd_ne (Ne.symm nap)]; exact hp3, g2, g3'.upd g4 ea, g4, g5, g6, s4, ?_, by rw [List.length_set]; exact g9, ?_⟩
        · obtain ⟨c, t, r', cells, k1, k2, k3, k4, k5, k6, k7⟩ := p3
          obtain ⟨c', t1, r1, cells1, m1, m2, m3, _⟩ := pen
          obtain ⟨t2, r2, m4⟩ := ((g7.trans s2).trans s3).cel c' t1 r1 m1
          rw [k1] at m4
          cases m4
          refine ⟨c, t, r', cells, by rw [upd_ne (Ne.symm naP)]; exact k1, by rw [upd_ne (ne_of_none m2 (g6 a ham))]; exact k2, k3, k4, k5, by omega, k7⟩
        · refine (flat_set_perm rs j r z2.toNat i er).trans ?_
          rw [List.range_succ, List.map_append]
          exact (List.Perm.cons _ g10).trans (List.perm_append_singleton _ _).symm
      · rintro σ H' ⟨v4, v5, v6, as, rs, rfl, g1, g2, g3, g4, g5, g6, g7, g8, g9, g10⟩
        have e2 : (2 * (wires : Int)).toNat = 2 * wires := by omega
        rw [e2] at g8 g10
        -- return tuple([tuple(row) for row in found])
        refine ⟨.ref p, rfl, p, rfl, ⟨_, SqL.of g1⟩, fun b hb => ?_⟩
        have npb : p ≠ b := ne_of_none g1 hb
        have nbP : b ≠ Pn := fun q => g8.some (q ▸ hb)
        have nab : ∀ a ∈ as, a ≠ b := fun a ha => by
          obtain ⟨j, hj⟩ := List.mem_iff_getElem?.mp ha
          obtain ⟨r, _, hr⟩ := g3.get hj
          exact ne_of_none (show H' a = some _ from hr) hb
        refine lc_list (K := K) (a := p) (xs := as.map V.ref) (fun i H2 => ∃ ts : List V, H2 b = some (.lst ts) ∧ ts.length = i ∧ RpAll Pn (fun _ => False) H2 ts ((rs.take i).map encI) ∧ H2 p = some (.lst (as.map V.ref)) ∧ RowsAt H2 as rs ∧ SameP Pn H H2 ∧ PenOk Pn (n + 4 * wires) H2 ∧ Same H' H2 ∧ ∀ v ∈ ts, True)
          ⟨[], upd_same, rfl, .nil, by rw [upd_ne npb]; exact g1, g3.imp fun a ha o ho => by rw [upd_ne (nab a ha)]; exact ho, g7.trans (.new hb), (g8.same (same_new hb)).mono (by omega), same_new hb, fun _ _ => trivial⟩
          (fun i H2 _ ⟨_, _, _, _, h, _⟩ => SqL.of h) ?_ ?_
        · rintro i x H2 hx ⟨ts, f1, f2, f3, f4, f5, f6, f7, f8, _⟩
          rw [List.getElem?_map] at hx
          obtain ⟨a, ea, rfl⟩ : ∃ a, as[i]? = some a ∧ x = .ref a := by
            cases e : as[i]? with
            | none => rw [e] at hx; cases hx
            | some a => rw [e] at hx; cases hx; exact ⟨a, rfl, rfl⟩
          obtain ⟨r, er, har⟩ := f5.get ea
          have har : H2 a = some (.lst (r.map V.int)) := har
          refine ⟨rfl, .ref a, rfl, a, _, rfl, .inl ⟨SqL.of har, fun l hl => ?_⟩⟩
          have nlb : b ≠ l := ne_of_none f1 hl
          have nlP : l ≠ Pn := fun q => f7.some (q ▸ hl)
          have st : Stay Pn (fun _ => False) (fun _ => False) H2 (upd (upd H2 l (.tup (r.map V.int))) b (.lst (ts ++ [.ref l]))) := ⟨fun a vs e _ => by
            rw [upd_ne (ne_of e f1 (by intro q; cases q)), upd_ne (ne_of_none e hl)]; exact e, fun a o e _ z => z.elim⟩
          have hl2 : (upd (upd H2 l (.tup (r.map V.int))) b (.lst (ts ++ [.ref l]))) l = some (.tup (r.map V.int)) := by rw [upd_ne (Ne.symm nlb), upd_same]
          have b0 : H b = none := g7.none hb nbP
          have same3 : SameP Pn H (upd (upd H2 l (.tup (r.map V.int))) b (.lst (ts ++ [.ref l]))) := by
            have s := f6.trans (SameP.new (o := .tup (r.map V.int)) hl)
            exact ⟨fun a o e ne => by rw [upd_ne (ne_of_none e b0)]; exact s a o e ne, fun c t r e => by rw [upd_ne (Ne.symm nbP)]; exact s.cel c t r e⟩
          refine ⟨ts, by rw [upd_ne nlb]; exact f1, Nat.lt_of_le_of_lt (show ts.length ≤ 100 by have := (List.getElem?_eq_some_iff.mp ea).1; omega) (by decide), ts ++ [.ref l], upd_same, by simp [f2], ?_, ?_, ?_, same3, ?_, ?_, fun _ _ => trivial⟩
          · rw [List.take_add_one, er]
            show RpAll _ _ _ _ ((rs.take i ++ [r]).map encI)
            rw [List.map_append]
            exact (RpAll.stay st _ _ f3).append (.cons (.tup hl2 nlP (RpAll.of_ints r)) .nil)
          · rw [upd_ne npb, upd_ne (ne_of_none f4 hl)]; exact f4
          · refine f5.imp fun c hc o ho => ?_
            rw [upd_ne (nab c hc), upd_ne (ne_of_none ho hl)]; exact ho
          · obtain ⟨c, t, r', cells, k1, k2, k3, k4⟩ := f7
            obtain ⟨c', t1, r1, cells1, m1, m2, m3, _⟩ := g8
            have e1 := f8 _ _ m1
            rw [k1] at e1
            cases e1
            exact ⟨c, t, r', cells, by rw [upd_ne (Ne.symm nbP), upd_ne (Ne.symm nlP)]; exact k1, by rw [upd_ne (ne_of_none m2 hb), upd_ne (ne_of_none k2 hl)]; exact k2, k3, k4⟩
          · exact fun c o e => by rw [upd_ne (ne_of_none e hb), upd_ne (ne_of_none (f8 c o e) hl)]; exact f8 c o e
        · rintro H2 ⟨ts, f1, f2, f3, f4, f5, f6, f7, f8, _⟩
          refine ⟨b, ts, rfl, .inl ⟨SqL.of f1, fun l hl => ?_⟩⟩
          have nlP : l ≠ Pn := fun q => f7.some (q ▸ hl)
          rw [List.length_map, g2, ← g9, List.take_length] at f3
          refine kk _ _ (encH rs) (n + 4 * wires) (f6.trans (.new hl)) (f7.same (same_new hl)) (.tup upd_same nlP (rp_upd hl (fun _ _ _ z => z.elim) f3)) (hz rs ⟨g9, g10⟩)
end
end Lw

set_option Elab.async false
set_option linter.all false
set_option maxRecDepth 100000
set_option maxHeartbeats 4000000
namespace Lw
open PySem PySem.Spec PyProof.Rows L2 Dl
structure Txt (mg : Str → Option Value) : Prop where
  b_abs : mg "abs" = none
  b_all : mg "all" = none
  b_int : mg "int" = none
  b_isinstance : mg "isinstance" = none
  b_len : mg "len" = none
  b_list : mg "list" = none
  b_range : mg "range" = none
  b_repr : mg "repr" = none
  b_str : mg "str" = none
  b_tuple : mg "tuple" = none
abbrev s_line_of : Stmt := topS 1
def kw_line_of : List (List Str × List Nat) := []
abbrev s_show_house : Stmt := topS 2
def kw_show_house : List (List Str × List Nat) := [(["house"], [0])]
abbrev s_show_standing : Stmt := topS 3
def kw_show_standing : List (List Str × List Nat) := [(["standing"], [0])]
abbrev s_show_ends : Stmt := topS 4
def kw_show_ends : List (List Str × List Nat) := [(["ends"], [0])]
abbrev s_l_pen : Stmt := topS 6
def kw_l_pen : List (List Str × List Nat) := []
abbrev s_l_pick : Stmt := topS 7
def kw_l_pick : List (List Str × List Nat) := []
abbrev s_l_plan : Stmt := topS 8
def kw_l_plan : List (List Str × List Nat) := []
abbrev s_l_loads : Stmt := topS 9
def kw_l_loads : List (List Str × List Nat) := []
abbrev s_l_laid : Stmt := topS 10
def kw_l_laid : List (List Str × List Nat) := []
abbrev s_l_great : Stmt := topS 11
def kw_l_great : List (List Str × List Nat) := []
abbrev s_l_line : Stmt := topS 12
def kw_l_line : List (List Str × List Nat) := []
abbrev s_l_written : Stmt := topS 13
def kw_l_written : List (List Str × List Nat) := []
abbrev s_l_row : Stmt := topS 14
def kw_l_row : List (List Str × List Nat) := []
abbrev s_law : Stmt := topS 15
def kw_law : List (List Str × List Nat) := []
section
variable {P : Program} {w : World} {K : PySem.W.Frag} {mg : Str → Option Value} {base : Heap}
theorem sc_line_of : FnScope ["word", "numbers", "number"] ["word", "numbers"] (defScope s_line_of) := ⟨rfl, rfl, rfl, by decide +kernel, rfl, by decide +kernel, by decide +kernel⟩
theorem ok_line_of {f : Addr} {fd : FuncData} (F : L2.Fun K "line_of" "line_of" s_line_of f fd) (T : Txt mg) : FnG P w K mg base CX0 1 f fd ["word", "numbers"] (liftF sp_line_of) :=
  Fun_dok (t := rd_line_of) F sc_line_of len_line_of (fun cv A fs s H E hr hgd => (dss_one (ds_ret (d_op op_addU sn_add (d_join (pe_join d_str (d_op op_addU sn_add (d_lst (da_cons (dv 0) da_nil)) (d_lc .bor rfl sc_line_of.nd (di_seq (dv 1)) (blkOk_by (own := [("number", 2)]) (N := ["word", "numbers", "number"]) (sc := defScope s_line_of) (by decide +kernel)) (fun _ _ _ _ _ => pg_name (i := 2) sc_line_of.nd rfl (Or.inl rfl)) (fun _ _ _ _ _ => dts_nil) (fun _ _ _ _ _ => (d_callTy call_str_int sn_strI (by rfl) T.b_str (by decide +kernel) (da_cons (dv 2) da_nil))))))) d_str)))) read_line_of
theorem sc_show_house : FnScope ["house", "room"] ["house"] (defScope s_show_house) := ⟨rfl, rfl, rfl, by decide +kernel, rfl, by decide +kernel, by decide +kernel⟩
theorem ok_show_house {f : Addr} {fd : FuncData} (F : L2.Fun K "show_house" "show_house" s_show_house f fd) (T : Txt mg) (C_line_of : Cal P w K mg base "line_of" 1 ["word", "numbers"] kw_line_of (liftF sp_line_of)) : FnG P w K mg base CX0 2 f fd ["house"] (liftF sp_show_house) :=
  Fun_dok (t := rd_show_house) F sc_show_house len_show_house (fun cv A fs s H E hr hgd => (dss_one (ds_ret (d_join (pe_join d_str (d_lc .bor rfl sc_show_house.nd (di_seq (dv 0)) (blkOk_by (own := [("room", 1)]) (N := ["house", "room"]) (sc := defScope s_show_house) (by decide +kernel)) (fun _ _ _ _ _ => pg_name (i := 1) sc_show_house.nd rfl (Or.inl rfl)) (fun _ _ _ _ _ => dts_nil) (fun _ _ _ _ _ => (d_cal C_line_of (hr.mono (by decide)) hgd (da_cons d_str (da_cons (dv 1) da_nil)))))))))) read_show_house
theorem sc_show_standing : FnScope ["standing", "beads", "at"] ["standing"] (defScope s_show_standing) := ⟨rfl, rfl, rfl, by decide +kernel, rfl, by decide +kernel, by decide +kernel⟩
theorem ok_show_standing {f : Addr} {fd : FuncData} (F : L2.Fun K "show_standing" "show_standing" s_show_standing f fd) (T : Txt mg) (C_line_of : Cal P w K mg base "line_of" 1 ["word", "numbers"] kw_line_of (liftF sp_line_of)) : FnG P w K mg base CX0 2 f fd ["standing"] (liftF sp_show_standing) :=
  Fun_dok (t := rd_show_standing) F sc_show_standing len_show_standing (fun cv A fs s H E hr hgd => (dss_cons (ds_asg (dv 0) (dg_tup rfl (dgs_cons (dg_name 1 sc_show_standing.nd) (dgs_cons (dg_name 2 sc_show_standing.nd) dgs_nil))))
  (dss_one (ds_ret (d_op op_addU sn_add (d_cal C_line_of (hr.mono (by decide)) hgd (da_cons d_str (da_cons (dv 1) da_nil))) (d_cal C_line_of (hr.mono (by decide)) hgd (da_cons d_str (da_cons (d_lst (da_cons (dv 2) da_nil)) da_nil)))))))) read_show_standing
theorem sc_show_ends : FnScope ["ends", "end"] ["ends"] (defScope s_show_ends) := ⟨rfl, rfl, rfl, by decide +kernel, rfl, by decide +kernel, by decide +kernel⟩
theorem ok_show_ends {f : Addr} {fd : FuncData} (F : L2.Fun K "show_ends" "show_ends" s_show_ends f fd) (T : Txt mg) : FnG P w K mg base CX0 1 f fd ["ends"] (liftF sp_show_ends) :=
  Fun_dok (t := rd_show_ends) F sc_show_ends len_show_ends (fun cv A fs s H E hr hgd => (dss_one (ds_ret (d_orS (d_join (pe_join d_str (d_lc .bor rfl sc_show_ends.nd (di_seq (dv 0)) (blkOk_by (own := [("end", 1)]) (N := ["ends", "end"]) (sc := defScope s_show_ends) (by decide +kernel)) (fun _ _ _ _ _ => pg_name (i := 1) sc_show_ends.nd rfl (Or.inl rfl)) (fun _ _ _ _ _ => dts_nil) (fun _ _ _ _ _ => (d_callTy call_str_int sn_strI (by rfl) T.b_str (by decide +kernel) (da_cons (dv 1) da_nil)))))) (d_one d_str))))) read_show_ends
theorem sc_l_loads : FnScope ["pen", "wires", "upto", "found", "ways", "rest", "k", "many"] ["pen", "wires", "upto"] (defScope s_l_loads) := ⟨rfl, rfl, rfl, by decide +kernel, rfl, by decide +kernel, by decide +kernel⟩
theorem ok_l_loads {f : Addr} {fd : FuncData} (F : L2.Fun K "_law_loads" "_law_loads" s_l_loads f fd) (T : Txt mg) (C_l_pick : Cal P w K mg base "_law_pick" 1 ["pen", "upto"] kw_l_pick (liftF spPick)) : FnG P w K mg base CX0 2 f fd ["pen", "wires", "upto"] (liftF sp_l_loads) :=
  Fun_dok (t := rd_l_loads) F sc_l_loads len_l_loads (fun cv A fs s H E hr hgd => (dss_cons (ds_own 3 sc_l_loads.nd (d_lst da_nil))
  (dss_cons (ds_set 4 sc_l_loads.nd d_int)
  (dss_cons (ds_set 5 sc_l_loads.nd d_int)
  (dss_cons (ds_for PassesOwn.never rfl (di_rng1 (by rfl) T.b_range (dv 1)) (dg_name 6 sc_l_loads.nd) (dss_one (ds_set 5 sc_l_loads.nd (d_op op_mulU sn_mul (dv 5) d_int))))
  (dss_cons (ds_for PassesOwn.never rfl (di_rng1 (by rfl) T.b_range (dv 1)) (dg_name 6 sc_l_loads.nd) (dss_cons (ds_set 5 sc_l_loads.nd (d_op op_fdiv sn_div (dv 5) d_int))
  (dss_cons (ds_set 7 sc_l_loads.nd (d_op op_addU sn_add d_int (d_cal C_l_pick (hr.mono (by decide)) hgd (da_cons (dv 0) (da_cons (d_ix (d_lst (da_cons d_int (da_cons d_int (da_cons d_int (da_cons d_int da_nil))))) (d_cal C_l_pick (hr.mono (by decide)) hgd (da_cons (dv 0) (da_cons d_int da_nil))) (fun _ _ => rfl)) da_nil)))))
  (dss_cons (ds_while PassesOwn.never (PW.pt (dw_and (dt_cmp op_gt sn_gt (dv 7) d_int (nomark _)) (dw_and1 (dt_cmp op_gt sn_gt (d_op op_mulU sn_mul (d_op op_mulU sn_mul (dv 4) (d_op op_addU sn_add (dv 7) d_int)) (dv 5)) (dv 2) (nomark _))))) (dss_one (ds_set 7 sc_l_loads.nd (d_op op_sub sn_sub (dv 7) d_int))))
  (dss_cons (ds_app (pe_bm PySem.F.plainAttrs_list PySem.F.slot_list_append PySem.F.type_list_append mt_append (pv 3) (pa_cons (dv 7) pa_nil)))
  (dss_one (ds_set 4 sc_l_loads.nd (d_op op_mulU sn_mul (dv 4) (d_op op_addU sn_add (dv 7) d_int)))))))))
  (dss_one (ds_ret (d_callTy call_tuple_of sn_tup (by rfl) T.b_tuple (by decide +kernel) (da_cons (dv 3) da_nil)))))))))) read_l_loads
theorem sc_l_laid : FnScope ["pen", "loads", "row", "many", "laden", "here", "end"] ["pen", "loads"] (defScope s_l_laid) := ⟨rfl, rfl, rfl, by decide +kernel, rfl, by decide +kernel, by decide +kernel⟩
theorem ok_l_laid {f : Addr} {fd : FuncData} (F : L2.Fun K "_law_laid" "_law_laid" s_l_laid f fd) (T : Txt mg) (C_l_pick : Cal P w K mg base "_law_pick" 1 ["pen", "upto"] kw_l_pick (liftF spPick)) : FnG P w K mg base CX0 2 f fd ["pen", "loads"] (liftF sp_l_laid) :=
  Fun_dok (t := rd_l_laid) F sc_l_laid len_l_laid (fun cv A fs s H E hr hgd => (dss_cons (ds_own 2 sc_l_laid.nd (d_lst da_nil))
  (dss_cons (ds_for PassesOwn.never rfl (di_seq (dv 1)) (dg_name 3 sc_l_laid.nd) (dss_cons (ds_set 5 sc_l_laid.nd (d_ix (d_lst (da_cons d_int (da_cons (dv 3) (da_cons (d_cal C_l_pick (hr.mono (by decide)) hgd (da_cons (dv 0) (da_cons (d_op op_addU sn_add (dv 3) d_int) da_nil))) da_nil)))) (d_cal C_l_pick (hr.mono (by decide)) hgd (da_cons (dv 0) (da_cons d_int da_nil))) (fun _ _ => rfl)))
  (dss_one (ds_ext (pe_bm PySem.F.plainAttrs_list PySem.F.slot_list_extend PySem.F.type_list_extend mt_extend (pv 2) (pa_cons (d_lst (da_cons (dv 5) (da_cons (d_op op_sub sn_sub (dv 3) (dv 5)) da_nil))) pa_nil))))))
  (dss_cons (ds_lcF .bor (ps_lcW rfl sc_l_laid.nd (j := 4) rfl rfl (sw_true rfl rfl rfl (by decide +kernel)) (di_rng1 (by rfl) T.b_range (d_callB call_len sn_len (by rfl) T.b_len PySem.boot_len (da_cons (dv 2) da_nil))) (blkOk_by (own := [("end", 6)]) (N := ["pen", "loads", "row", "many", "laden", "here", "end"]) (sc := defScope s_l_laid) (by decide +kernel)) (fun _ _ _ _ _ => pg_name (i := 6) sc_l_laid.nd rfl (Or.inl rfl)) (fun _ _ _ _ _ => dts_one (dt_cmp op_gt sn_gt (d_ix (dv 2) (dv 6) (fun _ _ => rfl)) d_int (nomark _))) (fun _ _ _ _ _ => (dv 6))))
  (dss_one (ds_ret (d_tup (da_cons (d_callTy call_tuple_of sn_tup (by rfl) T.b_tuple (by decide +kernel) (da_cons (dv 2) da_nil)) (da_cons (d_ix (dv 4) (d_cal C_l_pick (hr.mono (by decide)) hgd (da_cons (dv 0) (da_cons (d_callB call_len sn_len (by rfl) T.b_len PySem.boot_len (da_cons (dv 4) da_nil)) da_nil))) (fun _ _ => rfl)) da_nil))))))))) read_l_laid
theorem sc_l_great : FnScope ["pen", "wires", "home"] ["pen"] (defScope s_l_great) := ⟨rfl, rfl, rfl, by decide +kernel, rfl, by decide +kernel, by decide +kernel⟩
theorem ok_l_great {f : Addr} {fd : FuncData} (F : L2.Fun K "_law_great" "_law_great" s_l_great f fd) (T : Txt mg) (C_l_laid : Cal P w K mg base "_law_laid" 2 ["pen", "loads"] kw_l_laid (liftF sp_l_laid)) (C_l_loads : Cal P w K mg base "_law_loads" 2 ["pen", "wires", "upto"] kw_l_loads (liftF sp_l_loads)) (C_l_plan : Cal P w K mg base "_law_plan" 2 ["pen", "rooms", "wires"] kw_l_plan (liftF spPlan)) (C_l_pick : Cal P w K mg base "_law_pick" 1 ["pen", "upto"] kw_l_pick (liftF spPick)) : FnG P w K mg base CX0 3 f fd ["pen"] (liftF sp_l_great) :=
  Fun_dok (t := rd_l_great) F sc_l_great len_l_great (fun cv A fs s H E hr hgd => (dss_cons (ds_set 1 sc_l_great.nd (d_op op_addU sn_add d_int (d_cal C_l_pick (hr.mono (by decide)) hgd (da_cons (dv 0) (da_cons (d_ix (d_lst (da_cons d_int (da_cons d_int da_nil))) (d_cal C_l_pick (hr.mono (by decide)) hgd (da_cons (dv 0) (da_cons d_int da_nil))) (fun _ _ => rfl)) da_nil)))))
  (dss_cons (ds_set 2 sc_l_great.nd (d_cal C_l_plan (hr.mono (by decide)) hgd (da_cons (dv 0) (da_cons (d_op op_addU sn_add d_int (d_cal C_l_pick (hr.mono (by decide)) hgd (da_cons (dv 0) (da_cons d_int da_nil)))) (da_cons (dv 1) da_nil)))))
  (dss_one (ds_ret (d_tup (da_cons (dv 2) (da_cons (d_cal C_l_laid (hr.mono (by decide)) hgd (da_cons (dv 0) (da_cons (d_cal C_l_loads (hr.mono (by decide)) hgd (da_cons (dv 0) (da_cons (dv 1) (da_cons (d_op op_pow sn_pow d_int d_int) da_nil)))) da_nil))) da_nil)))))))) read_l_great
theorem sc_l_line : FnScope ["word", "numbers", "found", "number"] ["word", "numbers"] (defScope s_l_line) := ⟨rfl, rfl, rfl, by decide +kernel, rfl, by decide +kernel, by decide +kernel⟩
theorem ok_l_line {f : Addr} {fd : FuncData} (F : L2.Fun K "_law_line" "_law_line" s_l_line f fd) (T : Txt mg) : FnG P w K mg base CX0 1 f fd ["word", "numbers"] (liftF sp_l_line) :=
  Fun_dok (t := rd_l_line) F sc_l_line len_l_line (fun cv A fs s H E hr hgd => (dss_cons (ds_set 2 sc_l_line.nd (dv 0))
  (dss_cons (ds_for PassesOwn.never rfl (di_seq (dv 1)) (dg_name 3 sc_l_line.nd) (dss_one (ds_set 2 sc_l_line.nd (d_op op_addU sn_add (d_op op_addU sn_add (dv 2) d_str) (d_callTy call_str_int sn_strI (by rfl) T.b_str (by decide +kernel) (da_cons (dv 3) da_nil))))))
  (dss_one (ds_ret (d_op op_addU sn_add (dv 2) d_str)))))) read_l_line
theorem sc_l_written : FnScope ["home", "stand", "text", "row"] ["home", "stand"] (defScope s_l_written) := ⟨rfl, rfl, rfl, by decide +kernel, rfl, by decide +kernel, by decide +kernel⟩
theorem ok_l_written {f : Addr} {fd : FuncData} (F : L2.Fun K "_law_written" "_law_written" s_l_written f fd) (T : Txt mg) (C_l_line : Cal P w K mg base "_law_line" 1 ["word", "numbers"] kw_l_line (liftF sp_l_line)) : FnG P w K mg base CX0 2 f fd ["home", "stand"] (liftF sp_l_written) :=
  Fun_dok (t := rd_l_written) F sc_l_written len_l_written (fun cv A fs s H E hr hgd => (dss_cons (ds_set 2 sc_l_written.nd d_str)
  (dss_cons (ds_for PassesOwn.never rfl (di_seq (dv 0)) (dg_name 3 sc_l_written.nd) (dss_one (ds_set 2 sc_l_written.nd (d_op op_addU sn_add (dv 2) (d_cal C_l_line (hr.mono (by decide)) hgd (da_cons d_str (da_cons (dv 3) da_nil)))))))
  (dss_one (ds_ret (d_tup (da_cons (dv 2) (da_cons (d_op op_addU sn_add (d_cal C_l_line (hr.mono (by decide)) hgd (da_cons d_str (da_cons (d_ix (dv 1) d_int (fun _ _ => rfl)) da_nil))) (d_cal C_l_line (hr.mono (by decide)) hgd (da_cons d_str (da_cons (d_sl (dv 1) (do_some d_int) do_none) da_nil)))) da_nil)))))))) read_l_written
theorem sc_l_row : FnScope ["pen", "many", "k"] ["pen"] (defScope s_l_row) := ⟨rfl, rfl, rfl, by decide +kernel, rfl, by decide +kernel, by decide +kernel⟩
theorem ok_l_row {f : Addr} {fd : FuncData} (F : L2.Fun K "_law_row" "_law_row" s_l_row f fd) (T : Txt mg) (C_l_pick : Cal P w K mg base "_law_pick" 1 ["pen", "upto"] kw_l_pick (liftF spPick)) : FnG P w K mg base CX0 2 f fd ["pen"] (liftF sp_l_row) :=
  Fun_dok (t := rd_l_row) F sc_l_row len_l_row (fun cv A fs s H E hr hgd => (dss_cons (ds_set 1 sc_l_row.nd (d_ix (d_lst (da_cons d_int (da_cons d_int (da_cons d_int (da_cons d_int (da_cons (d_cal C_l_pick (hr.mono (by decide)) hgd (da_cons (dv 0) (da_cons d_int da_nil))) da_nil)))))) (d_cal C_l_pick (hr.mono (by decide)) hgd (da_cons (dv 0) (da_cons d_int da_nil))) (fun _ _ => rfl)))
  (dss_one (ds_ret (d_lc .bor rfl sc_l_row.nd (di_rng1 (by rfl) T.b_range (dv 1)) (blkOk_by (own := [("k", 2)]) (N := ["pen", "many", "k"]) (sc := defScope s_l_row) (by decide +kernel)) (fun _ _ _ _ _ => pg_name (i := 2) sc_l_row.nd rfl (Or.inl rfl)) (fun _ _ _ _ _ => dts_nil) (fun _ _ _ _ _ => (d_cal C_l_pick (hr.mono (by decide)) hgd (da_cons (dv 0) (da_cons d_int da_nil))))))))) read_l_row
theorem sc_law : FnScope ["script", "pen", "turn", "kept", "k", "row", "home", "stand", "text", "other", "some", "due", "one"] ["script"] (defScope s_law) := ⟨rfl, rfl, rfl, by decide +kernel, rfl, by decide +kernel, by decide +kernel⟩
theorem ok_law {f : Addr} {fd : FuncData} (F : L2.Fun K "law" "law" s_law f fd) (T : Txt mg) (C_l_pen : Cal P w K mg base "_law_pen" 1 ["script"] kw_l_pen (spPen K)) (C_l_pick : Cal P w K mg base "_law_pick" 1 ["pen", "upto"] kw_l_pick (liftF spPick)) (C_l_row : Cal P w K mg base "_law_row" 2 ["pen"] kw_l_row (liftF sp_l_row)) (C_show_ends : Cal P w K mg base "show_ends" 1 ["ends"] kw_show_ends (liftF sp_show_ends)) (C_l_line : Cal P w K mg base "_law_line" 1 ["word", "numbers"] kw_l_line (liftF sp_l_line)) (C_show_house : Cal P w K mg base "show_house" 2 ["house"] kw_show_house (liftF sp_show_house)) (C_show_standing : Cal P w K mg base "show_standing" 2 ["standing"] kw_show_standing (liftF sp_show_standing)) (C_l_written : Cal P w K mg base "_law_written" 2 ["home", "stand"] kw_l_written (liftF sp_l_written)) (C_l_great : Cal P w K mg base "_law_great" 3 ["pen"] kw_l_great (liftF sp_l_great)) : FnG P w K mg base CX0 4 f fd ["script"] (spLaw K) :=
  law_ok (t := rd_law) F sc_law (fun cv A fs s H E hr hgd => (pss_cons (ps_set (i := 1) sc_law.nd rfl (by first | exact .inl rfl | exact .inr rfl) (pe_cal C_l_pen (hr.mono (by decide)) hgd (pa_cons (pv 0) pa_nil)))
  (dss_cons (ds_for PassesOwn.never rfl (di_rng1 (by rfl) T.b_range d_int) (dg_name 2 sc_law.nd) (dss_cons (ds_asg (d_cal C_l_great (hr.mono (by decide)) hgd (da_cons (dv 1) da_nil)) (dg_tup rfl (dgs_cons (dg_name 6 sc_law.nd) (dgs_cons (dg_name 7 sc_law.nd) dgs_nil))))
  (dss_cons (ds_set 3 sc_law.nd (d_callB (call_repr hr.units hgd) sn_repr (by rfl) T.b_repr (by decide +kernel) (da_cons (d_tup (da_cons (dv 6) (da_cons (dv 7) da_nil))) da_nil)))
  (dss_cons (ds_asg (d_cal C_l_written (hr.mono (by decide)) hgd (da_cons (dv 6) (da_cons (dv 7) da_nil))) (dg_tup rfl (dgs_cons (dg_name 8 sc_law.nd) (dgs_cons (dg_name 9 sc_law.nd) dgs_nil))))
  (dss_cons (ds_for PassesOwn.never rfl (di_rng1 (by rfl) T.b_range d_int) (dg_name 4 sc_law.nd) (dss_cons (ds_set 10 sc_law.nd (d_lst (da_cons (d_cal C_show_house (hr.mono (by decide)) hgd (da_cons (dv 6) da_nil)) (da_cons (d_cal C_show_standing (hr.mono (by decide)) hgd (da_cons (dv 7) da_nil)) da_nil))))
  (dss_one (ds_if (PW.pt (dw_or (dt_not (dt_val (d_callB (cr_all rfl) sn_all (by rfl) T.b_all (by decide +kernel) (da_cons (d_lc .bor rfl sc_law.nd (di_seq (dv 10)) (blkOk_by (own := [("one", 12)]) (N := ["script", "pen", "turn", "kept", "k", "row", "home", "stand", "text", "other", "some", "due", "one"]) (sc := defScope s_law) (by decide +kernel)) (fun _ _ _ _ _ => pg_name (i := 12) sc_law.nd rfl (Or.inl rfl)) (fun _ _ _ _ _ => dts_nil) (fun _ _ _ _ _ => (d_callB call_isi sn_isi (by rfl) T.b_isinstance (by decide +kernel) (da_cons (dv 12) (da_cons (d_bltn (by rfl) T.b_str (by decide +kernel)) da_nil))))) da_nil)))) (dw_or1 (dt_cmp (op_neU hr.units) sn_ne (dv 10) (d_lst (da_cons (dv 8) (da_cons (dv 9) da_nil))) (nomark _))))) (dss_one (ds_ret d_bl)) dss_nil))))
  (dss_cons (ds_if (PW.pt (dw_or (dt_cmp (op_neU hr.units) sn_ne (d_calK0 [0] ["house"] (by simp [kw_show_house]) C_show_house (hr.mono (by decide)) hgd (dk_cons (dv 6) dk_nil)) (dv 8) (nomark _)) (dw_or1 (dt_cmp (op_neU hr.units) sn_ne (d_calK0 [0] ["standing"] (by simp [kw_show_standing]) C_show_standing (hr.mono (by decide)) hgd (dk_cons (dv 7) dk_nil)) (dv 9) (nomark _))))) (dss_one (ds_ret d_bl)) dss_nil)
  (dss_cons (ds_for PassesOwn.never rfl (di_tup (d_tup (da_cons (d_cal C_l_row (hr.mono (by decide)) hgd (da_cons (dv 1) da_nil)) (da_cons (d_lst da_nil) (da_cons (d_ix (dv 6) (d_cal C_l_pick (hr.mono (by decide)) hgd (da_cons (dv 1) (da_cons (d_callB call_len sn_len (by rfl) T.b_len PySem.boot_len (da_cons (dv 6) da_nil)) da_nil))) (fun _ _ => rfl)) da_nil))))) (dg_name 5 sc_law.nd) (dss_cons (ds_set 11 sc_law.nd (d_sl (d_cal C_l_line (hr.mono (by decide)) hgd (da_cons d_str (da_cons (dv 5) da_nil))) (do_some d_int) (do_some (d_un un_neg sn_neg d_int))))
  (dss_cons (ds_if (PW.pt (dw_or (dt_cmp (op_eqU hr.units) sn_eq (dv 5) (d_lst da_nil) (nomark _)) (dw_or1 (dt_cmp (op_eqU hr.units) sn_eq (dv 5) (d_tup da_nil) (nomark _))))) (dss_one (ds_set 11 sc_law.nd d_str)) dss_nil)
  (dss_one (ds_for PassesOwn.never rfl (di_tup (d_tup (da_cons (d_callTy call_tuple_of sn_tup (by rfl) T.b_tuple (by decide +kernel) (da_cons (dv 5) da_nil)) (da_cons (d_callTy call_list_of sn_list (by rfl) T.b_list (by decide +kernel) (da_cons (dv 5) da_nil)) da_nil)))) (dg_name 12 sc_law.nd) (dss_one (ds_if (PW.pt (dw_or (dt_cmp (op_neU hr.units) sn_ne (d_cal C_show_ends (hr.mono (by decide)) hgd (da_cons (dv 12) da_nil)) (dv 11) (nomark _)) (dw_or1 (dt_cmp (op_neU hr.units) sn_ne (d_calK0 [0] ["ends"] (by simp [kw_show_ends]) C_show_ends (hr.mono (by decide)) hgd (dk_cons (dv 12) dk_nil)) (dv 11) (nomark _))))) (dss_one (ds_ret d_bl)) dss_nil)))))))
  (dss_one (ds_if (dt_cmp (op_neU hr.units) sn_ne (d_callB (call_repr hr.units hgd) sn_repr (by rfl) T.b_repr (by decide +kernel) (da_cons (d_tup (da_cons (dv 6) (da_cons (dv 7) da_nil))) da_nil)) (dv 3) (nomark _)) (dss_one (ds_ret d_bl)) dss_nil)))))))))
  (dss_one (ds_ret d_bl))))) read_law
end
end Lw

set_option Elab.async false
set_option linter.all false
set_option maxRecDepth 100000
set_option maxHeartbeats 4000000
namespace Lw
open PySem PySem.Spec PyProof.Rows L2 Dl
theorem all_mk {l : PySem.W.OpenLaw} {w : World} {K : PySem.W.Frag} {h : Heap} {mg : Str → Option Value} {fa : Addr} (X : K.In h) (G : h.Ns mainGlobals mg) (hfa : mg "law" = some (.ref fa))
    {f0 f1 f2 f3 f4 f5 f6 f7 f8 f9 f10 f11 f12 f13 : Addr} {od0 an0 od1 an1 od2 an2 od3 an3 od4 an4 od5 an5 od6 an6 od7 an7 od8 an8 od9 an9 od10 an10 od11 an11 od12 an12 od13 an13 : Option Addr} {sl0 sl1 sl2 sl3 sl4 sl5 sl6 sl7 sl8 sl9 sl10 sl11 sl12 sl13 : Array (Option Value)}
    {oc0 kV0 dc0 pm0 cd0 ct0 oc1 kV1 dc1 pm1 cd1 ct1 oc2 kV2 dc2 pm2 cd2 ct2 oc3 kV3 dc3 pm3 cd3 ct3 oc4 kV4 dc4 pm4 cd4 ct4 oc5 kV5 dc5 pm5 cd5 ct5 oc6 kV6 dc6 pm6 cd6 ct6 oc7 kV7 dc7 pm7 cd7 ct7 oc8 kV8 dc8 pm8 cd8 ct8 oc9 kV9 dc9 pm9 cd9 ct9 oc10 kV10 dc10 pm10 cd10 ct10 oc11 kV11 dc11 pm11 cd11 ct11 oc12 kV12 dc12 pm12 cd12 ct12 oc13 kV13 dc13 pm13 cd13 ct13 : Value}
    (a0 : PySem.W.nsIn K mainGlobals "line_of" = some (some (.ref f0))) (l0 : K.lookup f0 = some ⟨oc0, od0, .func (PySem.W.fnOf "line_of" "line_of" (defArgs s_line_of) (defBody s_line_of) (defScope s_line_of) .none kV0 dc0 pm0 an0 cd0 ct0), sl0⟩) (c0 : PySem.W.codeIn K cd0 "line_of" = true) (k0 : PySem.W.keepIn K (.ref f0) = true)
    (a1 : PySem.W.nsIn K mainGlobals "show_house" = some (some (.ref f1))) (l1 : K.lookup f1 = some ⟨oc1, od1, .func (PySem.W.fnOf "show_house" "show_house" (defArgs s_show_house) (defBody s_show_house) (defScope s_show_house) .none kV1 dc1 pm1 an1 cd1 ct1), sl1⟩) (c1 : PySem.W.codeIn K cd1 "show_house" = true) (k1 : PySem.W.keepIn K (.ref f1) = true)
    (a2 : PySem.W.nsIn K mainGlobals "show_standing" = some (some (.ref f2))) (l2 : K.lookup f2 = some ⟨oc2, od2, .func (PySem.W.fnOf "show_standing" "show_standing" (defArgs s_show_standing) (defBody s_show_standing) (defScope s_show_standing) .none kV2 dc2 pm2 an2 cd2 ct2), sl2⟩) (c2 : PySem.W.codeIn K cd2 "show_standing" = true) (k2 : PySem.W.keepIn K (.ref f2) = true)
    (a3 : PySem.W.nsIn K mainGlobals "show_ends" = some (some (.ref f3))) (l3 : K.lookup f3 = some ⟨oc3, od3, .func (PySem.W.fnOf "show_ends" "show_ends" (defArgs s_show_ends) (defBody s_show_ends) (defScope s_show_ends) .none kV3 dc3 pm3 an3 cd3 ct3), sl3⟩) (c3 : PySem.W.codeIn K cd3 "show_ends" = true) (k3 : PySem.W.keepIn K (.ref f3) = true)
    (a4 : PySem.W.nsIn K mainGlobals "_law_pen" = some (some (.ref f4))) (l4 : K.lookup f4 = some ⟨oc4, od4, .func (PySem.W.fnOf "_law_pen" "_law_pen" (defArgs s_l_pen) (defBody s_l_pen) (defScope s_l_pen) .none kV4 dc4 pm4 an4 cd4 ct4), sl4⟩) (c4 : PySem.W.codeIn K cd4 "_law_pen" = true) (k4 : PySem.W.keepIn K (.ref f4) = true)
    (a5 : PySem.W.nsIn K mainGlobals "_law_pick" = some (some (.ref f5))) (l5 : K.lookup f5 = some ⟨oc5, od5, .func (PySem.W.fnOf "_law_pick" "_law_pick" (defArgs s_l_pick) (defBody s_l_pick) (defScope s_l_pick) .none kV5 dc5 pm5 an5 cd5 ct5), sl5⟩) (c5 : PySem.W.codeIn K cd5 "_law_pick" = true) (k5 : PySem.W.keepIn K (.ref f5) = true)
    (a6 : PySem.W.nsIn K mainGlobals "_law_plan" = some (some (.ref f6))) (l6 : K.lookup f6 = some ⟨oc6, od6, .func (PySem.W.fnOf "_law_plan" "_law_plan" (defArgs s_l_plan) (defBody s_l_plan) (defScope s_l_plan) .none kV6 dc6 pm6 an6 cd6 ct6), sl6⟩) (c6 : PySem.W.codeIn K cd6 "_law_plan" = true) (k6 : PySem.W.keepIn K (.ref f6) = true)
    (a7 : PySem.W.nsIn K mainGlobals "_law_loads" = some (some (.ref f7))) (l7 : K.lookup f7 = some ⟨oc7, od7, .func (PySem.W.fnOf "_law_loads" "_law_loads" (defArgs s_l_loads) (defBody s_l_loads) (defScope s_l_loads) .none kV7 dc7 pm7 an7 cd7 ct7), sl7⟩) (c7 : PySem.W.codeIn K cd7 "_law_loads" = true) (k7 : PySem.W.keepIn K (.ref f7) = true)
    (a8 : PySem.W.nsIn K mainGlobals "_law_laid" = some (some (.ref f8))) (l8 : K.lookup f8 = some ⟨oc8, od8, .func (PySem.W.fnOf "_law_laid" "_law_laid" (defArgs s_l_laid) (defBody s_l_laid) (defScope s_l_laid) .none kV8 dc8 pm8 an8 cd8 ct8), sl8⟩) (c8 : PySem.W.codeIn K cd8 "_law_laid" = true) (k8 : PySem.W.keepIn K (.ref f8) = true)
    (a9 : PySem.W.nsIn K mainGlobals "_law_great" = some (some (.ref f9))) (l9 : K.lookup f9 = some ⟨oc9, od9, .func (PySem.W.fnOf "_law_great" "_law_great" (defArgs s_l_great) (defBody s_l_great) (defScope s_l_great) .none kV9 dc9 pm9 an9 cd9 ct9), sl9⟩) (c9 : PySem.W.codeIn K cd9 "_law_great" = true) (k9 : PySem.W.keepIn K (.ref f9) = true)
    (a10 : PySem.W.nsIn K mainGlobals "_law_line" = some (some (.ref f10))) (l10 : K.lookup f10 = some ⟨oc10, od10, .func (PySem.W.fnOf "_law_line" "_law_line" (defArgs s_l_line) (defBody s_l_line) (defScope s_l_line) .none kV10 dc10 pm10 an10 cd10 ct10), sl10⟩) (c10 : PySem.W.codeIn K cd10 "_law_line" = true) (k10 : PySem.W.keepIn K (.ref f10) = true)
    (a11 : PySem.W.nsIn K mainGlobals "_law_written" = some (some (.ref f11))) (l11 : K.lookup f11 = some ⟨oc11, od11, .func (PySem.W.fnOf "_law_written" "_law_written" (defArgs s_l_written) (defBody s_l_written) (defScope s_l_written) .none kV11 dc11 pm11 an11 cd11 ct11), sl11⟩) (c11 : PySem.W.codeIn K cd11 "_law_written" = true) (k11 : PySem.W.keepIn K (.ref f11) = true)
    (a12 : PySem.W.nsIn K mainGlobals "_law_row" = some (some (.ref f12))) (l12 : K.lookup f12 = some ⟨oc12, od12, .func (PySem.W.fnOf "_law_row" "_law_row" (defArgs s_l_row) (defBody s_l_row) (defScope s_l_row) .none kV12 dc12 pm12 an12 cd12 ct12), sl12⟩) (c12 : PySem.W.codeIn K cd12 "_law_row" = true) (k12 : PySem.W.keepIn K (.ref f12) = true)
    (a13 : PySem.W.nsIn K mainGlobals "law" = some (some (.ref f13))) (l13 : K.lookup f13 = some ⟨oc13, od13, .func (PySem.W.fnOf "law" "law" (defArgs s_law) (defBody s_law) (defScope s_law) .none kV13 dc13 pm13 an13 cd13 ct13), sl13⟩) (c13 : PySem.W.codeIn K cd13 "law" = true) (k13 : PySem.W.keepIn K (.ref f13) = true)
    (z_abs : PySem.W.nsIn K mainGlobals "abs" = some none)
    (z_all : PySem.W.nsIn K mainGlobals "all" = some none)
    (z_int : PySem.W.nsIn K mainGlobals "int" = some none)
    (z_isinstance : PySem.W.nsIn K mainGlobals "isinstance" = some none)
    (z_len : PySem.W.nsIn K mainGlobals "len" = some none)
    (z_list : PySem.W.nsIn K mainGlobals "list" = some none)
    (z_range : PySem.W.nsIn K mainGlobals "range" = some none)
    (z_repr : PySem.W.nsIn K mainGlobals "repr" = some none)
    (z_str : PySem.W.nsIn K mainGlobals "str" = some none)
    (z_tuple : PySem.W.nsIn K mainGlobals "tuple" = some none)
    : ∃ fd : FuncData, (∀ (s : Shared) (v : Value), BindsTo s fd ⟨[v], []⟩ [("script", v)]) ∧ ∀ base : Heap, K.In base → base.Ns mainGlobals mg → FnG l.prog w K mg base CX0 4 fa fd ["script"] (spLaw K) := by
  have e := hfa.symm.trans (PySem.W.mg_of X G a13)
  cases e
  have T : Txt mg := ⟨PySem.W.mg_none_of X G z_abs, PySem.W.mg_none_of X G z_all, PySem.W.mg_none_of X G z_int, PySem.W.mg_none_of X G z_isinstance, PySem.W.mg_none_of X G z_len, PySem.W.mg_none_of X G z_list, PySem.W.mg_none_of X G z_range, PySem.W.mg_none_of X G z_repr, PySem.W.mg_none_of X G z_str, PySem.W.mg_none_of X G z_tuple⟩
  have F0 := fun_mk (st := s_line_of) l0 c0 k0
  have F1 := fun_mk (st := s_show_house) l1 c1 k1
  have F2 := fun_mk (st := s_show_standing) l2 c2 k2
  have F3 := fun_mk (st := s_show_ends) l3 c3 k3
  have F4 := fun_mk (st := s_l_pen) l4 c4 k4
  have F5 := fun_mk (st := s_l_pick) l5 c5 k5
  have F6 := fun_mk (st := s_l_plan) l6 c6 k6
  have F7 := fun_mk (st := s_l_loads) l7 c7 k7
  have F8 := fun_mk (st := s_l_laid) l8 c8 k8
  have F9 := fun_mk (st := s_l_great) l9 c9 k9
  have F10 := fun_mk (st := s_l_line) l10 c10 k10
  have F11 := fun_mk (st := s_l_written) l11 c11 k11
  have F12 := fun_mk (st := s_l_row) l12 c12 k12
  have F13 := fun_mk (st := s_law) l13 c13 k13
  refine ⟨PySem.W.fnOf "law" "law" (defArgs s_law) (defBody s_law) (defScope s_law) .none kV13 dc13 pm13 an13 cd13 ct13, fun s v => .of_eq rfl, fun base _ _ => ?_⟩
  have B4 := F4.binds (ps := ["script"]) fun _ _ _ _ _ _ us hl => match us, hl with | [_], _ => rfl
  have C_l_pen : Cal l.prog w K mg base "_law_pen" 1 ["script"] kw_l_pen (spPen K) := ⟨f4, _, PySem.W.mg_of X G a4, F4.kp, B4, fun q hq => by simp only [kw_l_pen, List.not_mem_nil] at hq, (FnG.of (ok_pen F4 T.b_list) )⟩
  have B5 := F5.binds (ps := ["pen", "upto"]) fun _ _ _ _ _ _ us hl => match us, hl with | [_, _], _ => rfl
  have C_l_pick : Cal l.prog w K mg base "_law_pick" 1 ["pen", "upto"] kw_l_pick (liftF spPick) := ⟨f5, _, PySem.W.mg_of X G a5, F5.kp, B5, fun q hq => by simp only [kw_l_pick, List.not_mem_nil] at hq, (ok_pick F5 T.b_len T.b_abs T.b_int )⟩
  have B12 := F12.binds (ps := ["pen"]) fun _ _ _ _ _ _ us hl => match us, hl with | [_], _ => rfl
  have C_l_row : Cal l.prog w K mg base "_law_row" 2 ["pen"] kw_l_row (liftF sp_l_row) := ⟨f12, _, PySem.W.mg_of X G a12, F12.kp, B12, fun q hq => by simp only [kw_l_row, List.not_mem_nil] at hq, ok_l_row F12 T C_l_pick⟩
  have B3 := F3.binds (ps := ["ends"]) fun _ _ _ _ _ _ us hl => match us, hl with | [_], _ => rfl
  have C_show_ends : Cal l.prog w K mg base "show_ends" 1 ["ends"] kw_show_ends (liftF sp_show_ends) := ⟨f3, _, PySem.W.mg_of X G a3, F3.kp, B3, (by intro q hq; simp only [kw_show_ends, List.mem_cons, List.not_mem_nil, or_false] at hq; subst hq;  exact kwb_of 0 F3 rfl (by decide) rfl (fun _ _ _ _ _ _ us ws h1 h2 => match us, ws, h1, h2 with | [], [_], _, _ => rfl)), ok_show_ends F3 T ⟩
  have B10 := F10.binds (ps := ["word", "numbers"]) fun _ _ _ _ _ _ us hl => match us, hl with | [_, _], _ => rfl
  have C_l_line : Cal l.prog w K mg base "_law_line" 1 ["word", "numbers"] kw_l_line (liftF sp_l_line) := ⟨f10, _, PySem.W.mg_of X G a10, F10.kp, B10, fun q hq => by simp only [kw_l_line, List.not_mem_nil] at hq, ok_l_line F10 T ⟩
  have B0 := F0.binds (ps := ["word", "numbers"]) fun _ _ _ _ _ _ us hl => match us, hl with | [_, _], _ => rfl
  have C_line_of : Cal l.prog w K mg base "line_of" 1 ["word", "numbers"] kw_line_of (liftF sp_line_of) := ⟨f0, _, PySem.W.mg_of X G a0, F0.kp, B0, fun q hq => by simp only [kw_line_of, List.not_mem_nil] at hq, ok_line_of F0 T ⟩
  have B1 := F1.binds (ps := ["house"]) fun _ _ _ _ _ _ us hl => match us, hl with | [_], _ => rfl
  have C_show_house : Cal l.prog w K mg base "show_house" 2 ["house"] kw_show_house (liftF sp_show_house) := ⟨f1, _, PySem.W.mg_of X G a1, F1.kp, B1, (by intro q hq; simp only [kw_show_house, List.mem_cons, List.not_mem_nil, or_false] at hq; subst hq;  exact kwb_of 0 F1 rfl (by decide) rfl (fun _ _ _ _ _ _ us ws h1 h2 => match us, ws, h1, h2 with | [], [_], _, _ => rfl)), ok_show_house F1 T C_line_of⟩
  have B2 := F2.binds (ps := ["standing"]) fun _ _ _ _ _ _ us hl => match us, hl with | [_], _ => rfl
  have C_show_standing : Cal l.prog w K mg base "show_standing" 2 ["standing"] kw_show_standing (liftF sp_show_standing) := ⟨f2, _, PySem.W.mg_of X G a2, F2.kp, B2, (by intro q hq; simp only [kw_show_standing, List.mem_cons, List.not_mem_nil, or_false] at hq; subst hq;  exact kwb_of 0 F2 rfl (by decide) rfl (fun _ _ _ _ _ _ us ws h1 h2 => match us, ws, h1, h2 with | [], [_], _, _ => rfl)), ok_show_standing F2 T C_line_of⟩
  have B11 := F11.binds (ps := ["home", "stand"]) fun _ _ _ _ _ _ us hl => match us, hl with | [_, _], _ => rfl
  have C_l_written : Cal l.prog w K mg base "_law_written" 2 ["home", "stand"] kw_l_written (liftF sp_l_written) := ⟨f11, _, PySem.W.mg_of X G a11, F11.kp, B11, fun q hq => by simp only [kw_l_written, List.not_mem_nil] at hq, ok_l_written F11 T C_l_line⟩
  have B8 := F8.binds (ps := ["pen", "loads"]) fun _ _ _ _ _ _ us hl => match us, hl with | [_, _], _ => rfl
  have C_l_laid : Cal l.prog w K mg base "_law_laid" 2 ["pen", "loads"] kw_l_laid (liftF sp_l_laid) := ⟨f8, _, PySem.W.mg_of X G a8, F8.kp, B8, fun q hq => by simp only [kw_l_laid, List.not_mem_nil] at hq, ok_l_laid F8 T C_l_pick⟩
  have B7 := F7.binds (ps := ["pen", "wires", "upto"]) fun _ _ _ _ _ _ us hl => match us, hl with | [_, _, _], _ => rfl
  have C_l_loads : Cal l.prog w K mg base "_law_loads" 2 ["pen", "wires", "upto"] kw_l_loads (liftF sp_l_loads) := ⟨f7, _, PySem.W.mg_of X G a7, F7.kp, B7, fun q hq => by simp only [kw_l_loads, List.not_mem_nil] at hq, ok_l_loads F7 T C_l_pick⟩
  have B6 := F6.binds (ps := ["pen", "rooms", "wires"]) fun _ _ _ _ _ _ us hl => match us, hl with | [_, _, _], _ => rfl
  have C_l_plan : Cal l.prog w K mg base "_law_plan" 2 ["pen", "rooms", "wires"] kw_l_plan (liftF spPlan) := ⟨f6, _, PySem.W.mg_of X G a6, F6.kp, B6, fun q hq => by simp only [kw_l_plan, List.not_mem_nil] at hq, (ok_plan F6 T.b_range T.b_len T.b_tuple C_l_pick)⟩
  have B9 := F9.binds (ps := ["pen"]) fun _ _ _ _ _ _ us hl => match us, hl with | [_], _ => rfl
  have C_l_great : Cal l.prog w K mg base "_law_great" 3 ["pen"] kw_l_great (liftF sp_l_great) := ⟨f9, _, PySem.W.mg_of X G a9, F9.kp, B9, fun q hq => by simp only [kw_l_great, List.not_mem_nil] at hq, ok_l_great F9 T C_l_laid C_l_loads C_l_plan C_l_pick⟩
  exact ok_law F13 T C_l_pen C_l_pick C_l_row C_show_ends C_l_line C_show_house C_show_standing C_l_written C_l_great
end Lw

open PySem PySem.W PyProof.Rows
set_option maxRecDepth 100000 in
set_option maxHeartbeats 0 in
theorem PySem.Challenge.cw_carryround_k72_houses_and_standings_writ_holds : PySem.Challenge.rw_carryround_k72_houses_and_standings_writ.Holds := by
  w_on; o_law; k_head; (case hw => w_witness2)
  k_fill
  refine Dl.walkG (l := PySem.Challenge.rw_carryround_k72_houses_and_standings_writ) (k := 4) rfl rfl ⟨rfl, by decide, by decide⟩ (fun w h Y => PySem.W.kIn_of Y) ?F
  case F =>
    intro w mg fa h KX G hmg
    refine' Lw.all_mk KX G hmg ?a0 ?l0 ?c0 ?k0 ?a1 ?l1 ?c1 ?k1 ?a2 ?l2 ?c2 ?k2 ?a3 ?l3 ?c3 ?k3 ?a4 ?l4 ?c4 ?k4 ?a5 ?l5 ?c5 ?k5 ?a6 ?l6 ?c6 ?k6 ?a7 ?l7 ?c7 ?k7 ?a8 ?l8 ?c8 ?k8 ?a9 ?l9 ?c9 ?k9 ?a10 ?l10 ?c10 ?k10 ?a11 ?l11 ?c11 ?k11 ?a12 ?l12 ?c12 ?k12 ?a13 ?l13 ?c13 ?k13 ?z_abs ?z_all ?z_int ?z_isinstance ?z_len ?z_list ?z_range ?z_repr ?z_str ?z_tuple
    (case a0 => k_is)
    (case l0 => k_is)
    (case c0 => k_is)
    (case k0 => k_is)
    (case a1 => k_is)
    (case l1 => k_is)
    (case c1 => k_is)
    (case k1 => k_is)
    (case a2 => k_is)
    (case l2 => k_is)
    (case c2 => k_is)
    (case k2 => k_is)
    (case a3 => k_is)
    (case l3 => k_is)
    (case c3 => k_is)
    (case k3 => k_is)
    (case a4 => k_is)
    (case l4 => k_is)
    (case c4 => k_is)
    (case k4 => k_is)
    (case a5 => k_is)
    (case l5 => k_is)
    (case c5 => k_is)
    (case k5 => k_is)
    (case a6 => k_is)
    (case l6 => k_is)
    (case c6 => k_is)
    (case k6 => k_is)
    (case a7 => k_is)
    (case l7 => k_is)
    (case c7 => k_is)
    (case k7 => k_is)
    (case a8 => k_is)
    (case l8 => k_is)
    (case c8 => k_is)
    (case k8 => k_is)
    (case a9 => k_is)
    (case l9 => k_is)
    (case c9 => k_is)
    (case k9 => k_is)
    (case a10 => k_is)
    (case l10 => k_is)
    (case c10 => k_is)
    (case k10 => k_is)
    (case a11 => k_is)
    (case l11 => k_is)
    (case c11 => k_is)
    (case k11 => k_is)
    (case a12 => k_is)
    (case l12 => k_is)
    (case c12 => k_is)
    (case k12 => k_is)
    (case a13 => k_is)
    (case l13 => k_is)
    (case c13 => k_is)
    (case k13 => k_is)
    (case z_abs => k_is)
    (case z_all => k_is)
    (case z_int => k_is)
    (case z_isinstance => k_is)
    (case z_len => k_is)
    (case z_list => k_is)
    (case z_range => k_is)
    (case z_repr => k_is)
    (case z_str => k_is)
    (case z_tuple => k_is)

