import PyProof.Rows.All
import Wide.All
import OpenK.AllK
import Wide.FinOn
import HandS.ForMost
import HandS.Defaults
import HandS.TupAny
import HandS.IsInst
import HandS.Flow
import HandS.Deep
import HandS.Style
import HandS.SortInts
import KE.KUnpackStar
import HandS.Conv
import HandS.Zip
import HandS.Text
import PyProof.SeqWrite
import KE.GoesEnum
import HandS.More
import PySem.Challenge.RW_carryround_k73_houses_read_back
set_option Elab.async false
set_option linter.all false
set_option maxRecDepth 100000
set_option maxHeartbeats 1000000
/-! A layer of plain data over the hand layer: what a slot holds is data, lists that a def alone holds may change. -/
namespace Dl
open PySem PySem.Spec PyProof.Rows L2

inductive D where
  | non | bl (b : Bool) | int (i : Int) | str (x : Str) | byt (b : Array UInt8) | pen
  | tup (ds : List D) | lst (ds : List D) | obj (o : HO) | opq (v : V)

/-- all but the pen as it was; the pen has its cells where it had them -/
structure SameP (P : Addr) (H H' : Hp) : Prop where
  keep : ∀ a o, H a = some o → a ≠ P → H' a = some o
  cel : ∀ c t r, H P = some (.lst [.ref c, .int t, .int r]) → ∃ t' r', H' P = some (.lst [.ref c, .int t', .int r'])
instance {P : Addr} {H H' : Hp} : CoeFun (SameP P H H') (fun _ => ∀ a o, H a = some o → a ≠ P → H' a = some o) := ⟨SameP.keep⟩
theorem SameP.refl (P : Addr) (H : Hp) : SameP P H H := ⟨fun _ _ h _ => h, fun _ t r h => ⟨t, r, h⟩⟩
theorem SameP.trans {P : Addr} {H H1 H2 : Hp} (a : SameP P H H1) (b : SameP P H1 H2) : SameP P H H2 := ⟨fun c o h n => b c o (a c o h n) n, fun c t r h => by
  obtain ⟨t', r', h'⟩ := a.cel c t r h
  exact b.cel c t' r' h'⟩
theorem SameP.of {P : Addr} {H H' : Hp} (a : Same H H') : SameP P H H' := ⟨fun c o h _ => a c o h, fun c t r h => ⟨t, r, a _ _ h⟩⟩
theorem SameP.new {P p : Addr} {H : Hp} {o : HO} (h : H p = none) : SameP P H (upd H p o) := SameP.of fun a u e => by
  rw [upd_ne (ne_of_none e h)]; exact e
theorem SameP.none {P a : Addr} {H H' : Hp} (s : SameP P H H') (h : H' a = none) (n : a ≠ P) : H a = none := by
  cases q : H a with
  | none => rfl
  | some o => rw [s a o q n] at h; cases h
theorem same_new {p : Addr} {H : Hp} {o : HO} (h : H p = none) : Same H (upd H p o) := fun a u e => by
  rw [upd_ne (ne_of_none e h)]; exact e

/-- the pen: a list of the cells, how many were begun, what is left of a great one -/
def PenOk (P : Addr) (n : Nat) (H : Hp) : Prop :=
  ∃ (c : Addr) (t r : Int) (cells : List Int), H P = some (.lst [.ref c, .int t, .int r]) ∧ H c = some (.lst (cells.map V.int)) ∧ c ≠ P ∧ cells.length ≤ 63 ∧ 0 ≤ t ∧ t ≤ n ∧ 0 ≤ r
theorem PenOk.some {P : Addr} {n : Nat} {H : Hp} (h : PenOk P n H) : H P ≠ none := by
  obtain ⟨c, t, r, cells, h, _⟩ := h
  rw [h]; simp
theorem PenOk.same {P : Addr} {n : Nat} {H H' : Hp} (h : PenOk P n H) (s : Same H H') : PenOk P n H' := by
  obtain ⟨c, t, r, cells, h1, h2, h3⟩ := h
  exact ⟨c, t, r, cells, s _ _ h1, s _ _ h2, h3⟩
theorem PenOk.mono {P : Addr} {n m : Nat} {H : Hp} (h : PenOk P n H) (l : n ≤ m) : PenOk P m H := by
  obtain ⟨c, t, r, cells, h1, h2, h3, h4, h5, h6, h7⟩ := h
  exact ⟨c, t, r, cells, h1, h2, h3, h4, h5, by omega, h7⟩

mutual
inductive Rp (P : Addr) (A : Addr → Prop) (H : Hp) : V → D → Prop
  | non : Rp P A H .non .non
  | bl (b : Bool) : Rp P A H (.bl b) (.bl b)
  | int (i : Int) : Rp P A H (.int i) (.int i)
  | str (x : Str) : Rp P A H (.str x) (.str x)
  | byt (x : Array UInt8) : Rp P A H (.byt x) (.byt x)
  | opq (v : V) : Rp P A H v (.opq v)
  | pen : Rp P A H (.ref P) .pen
  | tup {a : Addr} {vs : List V} {ds : List D} : H a = some (.tup vs) → a ≠ P → RpAll P A H vs ds → Rp P A H (.ref a) (.tup ds)
  | lst {a : Addr} {vs : List V} {ds : List D} : H a = some (.lst vs) → a ≠ P → A a → RpAll P A H vs ds → Rp P A H (.ref a) (.lst ds)
  | obj {a : Addr} {o : HO} : H a = some o → a ≠ P → A a → Rp P A H (.ref a) (.obj o)
inductive RpAll (P : Addr) (A : Addr → Prop) (H : Hp) : List V → List D → Prop
  | nil : RpAll P A H [] []
  | cons {v : V} {vs : List V} {d : D} {ds : List D} : Rp P A H v d → RpAll P A H vs ds → RpAll P A H (v :: vs) (d :: ds)
end

/-- the heap may change where no rep stands -/
def Stay (P : Addr) (A A' : Addr → Prop) (H H' : Hp) : Prop :=
  (∀ a vs, H a = some (.tup vs) → a ≠ P → H' a = some (.tup vs)) ∧ ∀ a o, H a = some o → a ≠ P → A a → H' a = some o ∧ A' a
mutual
theorem Rp.stay {P : Addr} {A A' : Addr → Prop} {H H' : Hp} (s : Stay P A A' H H') : ∀ (d : D) (v : V), Rp P A H v d → Rp P A' H' v d
  | .non, _, h => by cases h; exact .non
  | .bl _, _, h => by cases h; exact .bl _
  | .int _, _, h => by cases h; exact .int _
  | .str _, _, h => by cases h; exact .str _
  | .byt _, _, h => by cases h; exact .byt _
  | .opq _, _, h => by cases h; exact .opq _
  | .pen, _, h => by cases h; exact .pen
  | .tup ds, _, h => by
    cases h with
    | tup h1 h2 h3 => exact .tup (s.1 _ _ h1 h2) h2 (RpAll.stay s ds _ h3)
  | .lst ds, _, h => by
    cases h with
    | lst h1 h2 h4 h3 => exact .lst (s.2 _ _ h1 h2 h4).1 h2 (s.2 _ _ h1 h2 h4).2 (RpAll.stay s ds _ h3)
  | .obj o, _, h => by
    cases h with
    | obj h1 h2 h4 => exact .obj (s.2 _ _ h1 h2 h4).1 h2 (s.2 _ _ h1 h2 h4).2
theorem RpAll.stay {P : Addr} {A A' : Addr → Prop} {H H' : Hp} (s : Stay P A A' H H') : ∀ (ds : List D) (vs : List V), RpAll P A H vs ds → RpAll P A' H' vs ds
  | [], _, h => by cases h; exact .nil
  | d :: ds, _, h => by
    cases h with
    | cons h1 h2 => exact .cons (Rp.stay s d _ h1) (RpAll.stay s ds _ h2)
end
theorem Rp.same {P : Addr} {A : Addr → Prop} {H H' : Hp} {v : V} {d : D} (h : Rp P A H v d) (s : SameP P H H') : Rp P A H' v d :=
  Rp.stay ⟨fun a vs e n => s a _ e n, fun a vs e n q => ⟨s a _ e n, q⟩⟩ d v h
theorem RpAll.same {P : Addr} {A : Addr → Prop} {H H' : Hp} {v : List V} {d : List D} (h : RpAll P A H v d) (s : SameP P H H') : RpAll P A H' v d :=
  RpAll.stay ⟨fun a vs e n => s a _ e n, fun a vs e n q => ⟨s a _ e n, q⟩⟩ d v h
theorem Rp.imp {P : Addr} {A A' : Addr → Prop} {H : Hp} {v : V} {d : D} (h : Rp P A H v d) (s : ∀ a o, H a = some o → A a → A' a) : Rp P A' H v d :=
  Rp.stay ⟨fun a vs e n => e, fun a vs e n q => ⟨e, s a _ e q⟩⟩ d v h
theorem RpAll.imp {P : Addr} {A A' : Addr → Prop} {H : Hp} {v : List V} {d : List D} (h : RpAll P A H v d) (s : ∀ a o, H a = some o → A a → A' a) : RpAll P A' H v d :=
  RpAll.stay ⟨fun a vs e n => e, fun a vs e n q => ⟨e, s a _ e q⟩⟩ d v h

/- no list within -/
mutual
def flat : D → Bool
  | .lst _ => false
  | .obj _ => false
  | .tup ds => flatAll ds
  | _ => true
def flatAll : List D → Bool
  | [] => true
  | d :: ds => flat d && flatAll ds
end
mutual
theorem Rp.flat {P : Addr} {A A' : Addr → Prop} {H : Hp} : ∀ (d : D) (v : V), Dl.flat d = true → Rp P A H v d → Rp P A' H v d
  | .non, _, _, h => by cases h; exact .non
  | .bl _, _, _, h => by cases h; exact .bl _
  | .int _, _, _, h => by cases h; exact .int _
  | .str _, _, _, h => by cases h; exact .str _
  | .byt _, _, _, h => by cases h; exact .byt _
  | .opq _, _, _, h => by cases h; exact .opq _
  | .pen, _, _, h => by cases h; exact .pen
  | .tup ds, _, f, h => by
    cases h with
    | tup h1 h2 h3 => exact .tup h1 h2 (RpAll.flat ds _ (by simpa only [Dl.flat] using f) h3)
  | .lst ds, _, f, h => by simp only [Dl.flat] at f; cases f
  | .obj o, _, f, h => by simp only [Dl.flat] at f; cases f
theorem RpAll.flat {P : Addr} {A A' : Addr → Prop} {H : Hp} : ∀ (ds : List D) (vs : List V), flatAll ds = true → RpAll P A H vs ds → RpAll P A' H vs ds
  | [], _, _, h => by cases h; exact .nil
  | d :: ds, _, f, h => by
    simp only [flatAll, Bool.and_eq_true] at f
    cases h with
    | cons h1 h2 => exact .cons (Rp.flat d _ f.1 h1) (RpAll.flat ds _ f.2 h2)
end
theorem flatAll_iff : ∀ {ds : List D}, flatAll ds = true ↔ ∀ d ∈ ds, flat d = true
  | [] => by simp [flatAll]
  | d :: ds => by simp [flatAll, flatAll_iff (ds := ds)]
theorem flatAll_map {α : Type} {f : α → D} (h : ∀ x, flat (f x) = true) (xs : List α) : flatAll (xs.map f) = true := by
  rw [flatAll_iff]
  intro d hd
  obtain ⟨x, _, rfl⟩ := List.mem_map.mp hd
  exact h x

section
variable {P : Addr} {A : Addr → Prop} {H : Hp}
theorem RpAll.length : ∀ {vs : List V} {ds : List D}, RpAll P A H vs ds → vs.length = ds.length
  | _, _, .nil => rfl
  | _, _, .cons _ h => by simp [RpAll.length h]
theorem RpAll.get : ∀ {vs : List V} {ds : List D} {i : Nat} {d : D}, RpAll P A H vs ds → ds[i]? = some d → ∃ v, vs[i]? = some v ∧ Rp P A H v d
  | _, _, _, _, .nil, e => by simp at e
  | _, _, 0, _, .cons r _, e => by simp at e; subst e; exact ⟨_, rfl, r⟩
  | _, _, i + 1, d, .cons _ t, e => by
    obtain ⟨u, h1, h2⟩ := RpAll.get (i := i) (d := d) t (by simpa using e)
    exact ⟨u, by simpa using h1, h2⟩
theorem RpAll.get' : ∀ {vs : List V} {ds : List D} {i : Nat} {v : V}, RpAll P A H vs ds → vs[i]? = some v → ∃ d, ds[i]? = some d ∧ Rp P A H v d
  | _, _, _, _, .nil, e => by simp at e
  | _, _, 0, _, .cons r _, e => by simp at e; subst e; exact ⟨_, rfl, r⟩
  | _, _, i + 1, d, .cons _ t, e => by
    obtain ⟨u, h1, h2⟩ := RpAll.get' (i := i) (v := d) t (by simpa using e)
    exact ⟨u, by simpa using h1, h2⟩
theorem RpAll.append : ∀ {vs us : List V} {ds es : List D}, RpAll P A H vs ds → RpAll P A H us es → RpAll P A H (vs ++ us) (ds ++ es)
  | _, _, _, _, .nil, s => s
  | _, _, _, _, .cons r t, s => .cons r (RpAll.append t s)
theorem RpAll.take : ∀ {vs : List V} {ds : List D} (n : Nat), RpAll P A H vs ds → RpAll P A H (vs.take n) (ds.take n)
  | _, _, 0, _ => .nil
  | _, _, _ + 1, .nil => .nil
  | _, _, n + 1, .cons r t => .cons r (RpAll.take n t)
theorem RpAll.drop : ∀ {vs : List V} {ds : List D} (n : Nat), RpAll P A H vs ds → RpAll P A H (vs.drop n) (ds.drop n)
  | _, _, 0, r => r
  | _, _, _ + 1, .nil => .nil
  | _, _, n + 1, .cons _ t => RpAll.drop n t
theorem RpAll.set {v : V} {d : D} (r : Rp P A H v d) : ∀ {vs : List V} {ds : List D} (i : Nat), RpAll P A H vs ds → RpAll P A H (vs.set i v) (ds.set i d)
  | _, _, _, .nil => .nil
  | _, _, 0, .cons _ t => .cons r t
  | _, _, i + 1, .cons q t => .cons q (RpAll.set r i t)
theorem RpAll.reverse : ∀ {vs : List V} {ds : List D}, RpAll P A H vs ds → RpAll P A H vs.reverse ds.reverse
  | _, _, .nil => .nil
  | _, _, .cons r t => by
    rw [List.reverse_cons, List.reverse_cons]
    exact (RpAll.reverse t).append (.cons r .nil)
theorem RpAll.ints : ∀ {vs : List V} {ns : List Int}, RpAll P A H vs (ns.map D.int) → vs = ns.map V.int
  | _, [], h => by cases h; rfl
  | _, n :: ns, h => by
    rw [List.map_cons] at h
    cases h with
    | cons h1 h2 => cases h1; rw [RpAll.ints h2]; rfl
theorem RpAll.bls : ∀ {vs : List V} {ns : List Bool}, RpAll P A H vs (ns.map D.bl) → vs = ns.map V.bl
  | _, [], h => by cases h; rfl
  | _, n :: ns, h => by
    rw [List.map_cons] at h
    cases h with
    | cons h1 h2 => cases h1; rw [RpAll.bls h2]; rfl
theorem RpAll.strs : ∀ {vs : List V} {ns : List Str}, RpAll P A H vs (ns.map D.str) → vs = ns.map V.str
  | _, [], h => by cases h; rfl
  | _, n :: ns, h => by
    rw [List.map_cons] at h
    cases h with
    | cons h1 h2 => cases h1; rw [RpAll.strs h2]; rfl
theorem RpAll.of_ints : ∀ (ns : List Int), RpAll P A H (ns.map V.int) (ns.map D.int)
  | [] => .nil
  | n :: ns => .cons (.int n) (RpAll.of_ints ns)
theorem RpAll.of_strs : ∀ (ns : List Str), RpAll P A H (ns.map V.str) (ns.map D.str)
  | [] => .nil
  | n :: ns => .cons (.str n) (RpAll.of_strs ns)
theorem RpAll.of_bls : ∀ (ns : List Bool), RpAll P A H (ns.map V.bl) (ns.map D.bl)
  | [] => .nil
  | n :: ns => .cons (.bl n) (RpAll.of_bls ns)
end

/-! ### what slots hold -/
inductive SV where
  /-- data that stays -/
  | frz (d : D)
  /-- a list that this slot alone holds -/
  | own (ds : List D)
abbrev DEnv := List (Option SV)
/-- not one of the lists that slots hold alone, nor one that is under way -/
def NO (av : List Addr) (σ : L2.St) (Δ : DEnv) (a : Addr) : Prop := a ∉ av ∧ ∀ (i : Nat) (ds : List D), Δ[i]? = some (some (SV.own ds)) → σ[i]? ≠ some (some (V.ref a))
/-- the state: H0 the heap at the entry, fr what stays besides the slots, av lists under way, n how many cells were begun at most -/
structure StR (P : Addr) (H0 : Hp) (fr : List (V × D)) (av : List Addr) (n : Nat) (σ : L2.St) (Δ : DEnv) (H : Hp) : Prop where
  p0 : H0 P ≠ none
  pc : ∃ c t r, H0 P = some (.lst [.ref c, .int t, .int r]) ∧ H0 c ≠ none ∧ c ≠ P
  same : SameP P H0 H
  pen : PenOk P n H
  len : σ.length = Δ.length
  frz : ∀ (i : Nat) (d : D), Δ[i]? = some (some (SV.frz d)) → ∃ v, σ[i]? = some (some v) ∧ Rp P (NO av σ Δ) H v d
  own : ∀ (i : Nat) (ds : List D), Δ[i]? = some (some (SV.own ds)) → ∃ p vs, σ[i]? = some (some (V.ref p)) ∧ p ∉ av ∧ H0 p = none ∧ H p = some (.lst vs) ∧ RpAll P (NO av σ Δ) H vs ds
  dis : ∀ (i j : Nat) (p : Addr) (di dj : List D), Δ[i]? = some (some (SV.own di)) → Δ[j]? = some (some (SV.own dj)) → σ[i]? = some (some (V.ref p)) → σ[j]? = some (some (V.ref p)) → i = j
  gh : ∀ g ∈ fr, Rp P (NO av σ Δ) H g.1 g.2
  avn : ∀ a ∈ av, H a ≠ none
section
variable {P : Addr} {H0 : Hp} {fr : List (V × D)} {av : List Addr} {n n' : Nat} {σ : L2.St} {Δ : DEnv} {H H' : Hp}
theorem StR.mono (S : StR P H0 fr av n σ Δ H) (s : SameP P H H') (p : PenOk P n' H') : StR P H0 fr av n' σ Δ H' where
  p0 := S.p0
  pc := S.pc
  same := S.same.trans s
  pen := p
  len := S.len
  frz := fun i d e => let ⟨v, h1, h2⟩ := S.frz i d e; ⟨v, h1, h2.same s⟩
  own := fun i ds e => by
    obtain ⟨q, vs, h1, h2, h3, h4, h5⟩ := S.own i ds e
    have np : q ≠ P := fun z => S.p0 (z ▸ h3)
    exact ⟨q, vs, h1, h2, h3, s _ _ h4 np, h5.same s⟩
  dis := S.dis
  gh := fun g hg => (S.gh g hg).same s
  avn := fun a ha z => by
    by_cases hp : a = P
    · subst hp; exact p.some z
    · exact S.avn a ha (s.none z hp)
/-- a new address is none of those -/
theorem StR.no_new (S : StR P H0 fr av n σ Δ H) {p : Addr} (h : H p = none) : NO av σ Δ p :=
  ⟨fun z => S.avn p z h, fun i ds e z => by
    obtain ⟨q, vs, h1, h2, h3, h4, h5⟩ := S.own i ds e
    rw [h1] at z
    cases z
    rw [h] at h4; cases h4⟩
theorem StR.old (S : StR P H0 fr av n σ Δ H) {p : Addr} (h : H p = none) : H0 p = none :=
  S.same.none h fun z => S.pen.some (z ▸ h)
theorem StR.neP (S : StR P H0 fr av n σ Δ H) {p : Addr} (h : H p = none) : p ≠ P := fun z => S.pen.some (z ▸ h)
end

/-! ### how a value is wanted: for the moment; to stay; new since the entry; new since B -/
inductive Md where
  | bor | frz | ret | new
/-- where its lists may stand -/
def Al (m : Md) (B H0 : Hp) (av : List Addr) (σ : L2.St) (Δ : DEnv) (a : Addr) : Prop :=
  match m with
  | .bor => a ∉ av
  | .frz => NO av σ Δ a
  | .ret => a ∉ av ∧ H0 a = none
  | .new => a ∉ av ∧ B a = none
theorem Al.new {P : Addr} {H0 B : Hp} {fr : List (V × D)} {av : List Addr} {n : Nat} {σ : L2.St} {Δ : DEnv} {H : Hp} (S : StR P H0 fr av n σ Δ H) (b : SameP P B H) (m : Md) {p : Addr} (h : H p = none) : Al m B H0 av σ Δ p := by
  have h1 := S.no_new h
  cases m with
  | bor => exact h1.1
  | frz => exact h1
  | ret => exact ⟨h1.1, S.old h⟩
  | new => exact ⟨h1.1, b.none h (S.neP h)⟩

abbrev DTE := Md → DEnv → Nat → (D → Nat → Prop) → Prop
abbrev DTT := DEnv → Nat → (Bool → Nat → Prop) → Prop
abbrev DTA := Md → DEnv → Nat → (List D → Nat → Prop) → Prop
def lift (t : DTE) : TE := fun σ H Q => ∃ P H0 B fr av n Δ m Qd, StR P H0 fr av n σ Δ H ∧ SameP P B H ∧ t m Δ n Qd ∧
  ∀ v H' d n', SameP P H H' → PenOk P n' H' → Rp P (Al m B H0 av σ Δ) H' v d → Qd d n' → Q v H'
def liftT (t : DTT) : TT := fun σ H Q => ∃ P H0 fr av n Δ Qd, StR P H0 fr av n σ Δ H ∧ t Δ n Qd ∧
  ∀ b H' n', SameP P H H' → PenOk P n' H' → Qd b n' → Q b H'
def liftA (t : DTA) : TA := fun σ H Q => ∃ P H0 B fr av n Δ m Qd, StR P H0 fr av n σ Δ H ∧ SameP P B H ∧ t m Δ n Qd ∧
  ∀ vs H' ds n', SameP P H H' → PenOk P n' H' → RpAll P (Al m B H0 av σ Δ) H' vs ds → Qd ds n' → Q vs H'
abbrev DE (X : Cx) (e : Expr) (t : DTE) : Prop := PE X e (lift t)
abbrev DT (X : Cx) (e : Expr) (t : DTT) : Prop := PT X e (liftT t)
abbrev DW (X : Cx) (e : Expr) (t : DTT) : Prop := PW X e (liftT t)
abbrev DA (X : Cx) (es : List Expr) (t : DTA) : Prop := PA X es (liftA t)
theorem wkE {X : Cx} {e : Expr} {t t' : TE} (h : PE X e t) (w : ∀ σ H Q, t' σ H Q → t σ H Q) : PE X e t' := ⟨fun pins s σ H Q I q => h.run pins s σ H Q I (w σ H Q q)⟩
theorem wkT {X : Cx} {e : Expr} {t t' : TT} (h : PT X e t) (w : ∀ σ H Q, t' σ H Q → t σ H Q) : PT X e t' := ⟨fun pins s σ H Q I q => h.run pins s σ H Q I (w σ H Q q)⟩
theorem wkW {X : Cx} {e : Expr} {t t' : TT} (h : PW X e t) (w : ∀ σ H Q, t' σ H Q → t σ H Q) : PW X e t' := ⟨fun wh pins s σ H Q I q => h.run wh pins s σ H Q I (w σ H Q q)⟩
theorem wkA {X : Cx} {e : List Expr} {t t' : TA} (h : PA X e t) (w : ∀ σ H Q, t' σ H Q → t σ H Q) : PA X e t' := ⟨fun po pins s σ H Q I q => h.run po pins s σ H Q I (w σ H Q q)⟩
theorem wkS {X : Cx} {e : Stmt} {t t' : TS} (h : PS X e t) (w : ∀ D σ H, t' D σ H → t D σ H) : PS X e t' := ⟨fun pins s σ H D I q => h.run pins s σ H D I (w D σ H q)⟩
theorem wkSs {X : Cx} {e : List Stmt} {t t' : TS} (h : PSs X e t) (w : ∀ D σ H, t' D σ H → t D σ H) : PSs X e t' := ⟨fun pins s σ H D I q => h.run pins s σ H D I (w D σ H q)⟩
theorem wkI {X : Cx} {tg e : Expr} {t t' : TI} (h : PI X tg e t) (w : ∀ σ H R, t' σ H R → t σ H R) : PI X tg e t' := ⟨fun pins s σ H R I q => h.run pins s σ H R I (w σ H R q)⟩

/-- an expression within: what it is lifted from, at a state -/
theorem lift_at {t : DTE} {P : Addr} {H0 B : Hp} {fr : List (V × D)} {av : List Addr} {n : Nat} {σ : L2.St} {Δ : DEnv} {H : Hp} {Q : VK} (m : Md) {Qd : D → Nat → Prop} (S : StR P H0 fr av n σ Δ H) (b : SameP P B H) (h : t m Δ n Qd)
    (k : ∀ v H' d n', SameP P H H' → StR P H0 fr av n' σ Δ H' → Rp P (Al m B H0 av σ Δ) H' v d → Qd d n' → Q v H') : lift t σ H Q :=
  ⟨P, H0, B, fr, av, n, Δ, m, Qd, S, b, h, fun v H' d n' s p r q => k v H' d n' s (S.mono s p) r q⟩
theorem liftT_at {t : DTT} {P : Addr} {H0 : Hp} {fr : List (V × D)} {av : List Addr} {n : Nat} {σ : L2.St} {Δ : DEnv} {H : Hp} {Q : Bool → Hp → Prop} {Qd : Bool → Nat → Prop} (S : StR P H0 fr av n σ Δ H) (h : t Δ n Qd)
    (k : ∀ v H' n', SameP P H H' → StR P H0 fr av n' σ Δ H' → Qd v n' → Q v H') : liftT t σ H Q :=
  ⟨P, H0, fr, av, n, Δ, Qd, S, h, fun v H' n' s p q => k v H' n' s (S.mono s p) q⟩
theorem liftA_at {t : DTA} {P : Addr} {H0 B : Hp} {fr : List (V × D)} {av : List Addr} {n : Nat} {σ : L2.St} {Δ : DEnv} {H : Hp} {Q : List V → Hp → Prop} (m : Md) {Qd : List D → Nat → Prop} (S : StR P H0 fr av n σ Δ H) (b : SameP P B H) (h : t m Δ n Qd)
    (k : ∀ v H' d n', SameP P H H' → StR P H0 fr av n' σ Δ H' → RpAll P (Al m B H0 av σ Δ) H' v d → Qd d n' → Q v H') : liftA t σ H Q :=
  ⟨P, H0, B, fr, av, n, Δ, m, Qd, S, b, h, fun v H' d n' s p r q => k v H' d n' s (S.mono s p) r q⟩
end Dl

set_option Elab.async false
set_option linter.all false
set_option maxRecDepth 100000
set_option maxHeartbeats 1000000
namespace Dl
open PySem PySem.Spec PyProof.Rows L2

/-! ### names, constants -/
def tVarD (i : Nat) : DTE := fun m Δ n Q => match Δ[i]? with
  | some (some (.frz d)) => (match m with | .bor => Q d n | .frz => Q d n | .ret => flat d = true ∧ Q d n | .new => flat d = true ∧ Q d n)
  | some (some (.own ds)) => (match m with | .bor => Q (.lst ds) n | .ret => flatAll ds = true ∧ Q (.lst ds) n | .frz => False | .new => False)
  | _ => False
def tCD (d : D) : DTE := fun _ _ n Q => Q d n
section
variable {X : Cx}
theorem lift_var {i : Nat} {σ : L2.St} {H : Hp} {Q : VK} (h : lift (tVarD i) σ H Q) : tVar i σ H Q := by
  obtain ⟨P, H0, B, fr, av, n, Δ, m, Qd, S, b, h, k⟩ := h
  unfold tVarD at h
  split at h
  · rename_i d e
    obtain ⟨v, e1, r⟩ := S.frz _ _ e
    refine ⟨v, e1, ?_⟩
    cases m with
    | bor => exact k v H d n (SameP.refl P H) S.pen (r.imp fun a o _ z => z.1) h
    | frz => exact k v H d n (SameP.refl P H) S.pen r h
    | ret => exact k v H d n (SameP.refl P H) S.pen (Rp.flat _ _ h.1 r) h.2
    | new => exact k v H d n (SameP.refl P H) S.pen (Rp.flat _ _ h.1 r) h.2
  · rename_i ds e
    obtain ⟨p, vs, e1, e2, e3, e4, r⟩ := S.own _ _ e
    have np : p ≠ P := fun z => S.p0 (z ▸ e3)
    refine ⟨.ref p, e1, ?_⟩
    cases m with
    | bor => exact k _ H _ n (SameP.refl P H) S.pen (.lst e4 np e2 (r.imp fun a o _ z => z.1)) h
    | ret => exact k _ H _ n (SameP.refl P H) S.pen (.lst e4 np ⟨e2, e3⟩ (RpAll.flat _ _ h.1 r)) h.2
    | frz => exact h.elim
    | new => exact h.elim
  · exact h.elim
theorem dv (i : Nat) {x : Str} {pos : Pos} (hN : X.N[i]? = some x := by rfl) (hv : Vis X.env.scope x := by first | exact Or.inl rfl | exact Or.inr (Or.inl rfl) | exact Or.inr (Or.inr rfl)) (hd : (x == ("__debug__" : Str)) = false := by decide)
    (hcd : (x == ("__classdict__" : Str)) = false := by decide) : DE X (.Name x pos) (tVarD i) := wkE (pe_var hN hv hd hcd) fun σ H Q h => lift_var h
theorem lift_c {d : D} {v : V} (hf : flat d = true) (hr : ∀ P A H, Rp P A H v d) {σ : L2.St} {H : Hp} {Q : VK} (h : lift (tCD d) σ H Q) : tC v σ H Q := by
  obtain ⟨P, H0, B, fr, av, n, Δ, m, Qd, S, b, h, k⟩ := h
  exact k v H d n (SameP.refl P H) S.pen (hr _ _ _) h
theorem d_int {i j pos} : DE X (.Constant (.int i) j pos) (tCD (.int i)) := wkE pe_int fun _ _ _ h => lift_c rfl (fun _ _ _ => .int i) h
theorem d_bl {b j pos} : DE X (.Constant (.bool b) j pos) (tCD (.bl b)) := wkE pe_bl fun _ _ _ h => lift_c rfl (fun _ _ _ => .bl b) h
theorem d_non {j pos} : DE X (.Constant .none j pos) (tCD .non) := wkE pe_non fun _ _ _ h => lift_c rfl (fun _ _ _ => .non) h
theorem d_str {x j pos} : DE X (.Constant (.str x) j pos) (tCD (.str x)) := wkE pe_str fun _ _ _ h => lift_c rfl (fun _ _ _ => .str x) h
theorem d_globI {x : Str} {i : Int} {u : Value} {pos : Pos} (hg : Gl X x) (hm : X.mg x = some u) (r : RelV (.int i) u) (hd : (x == ("__debug__" : Str)) = false := by decide) : DE X (.Name x pos) (tCD (.int i)) :=
  wkE (pe_glob hg hm r hd) fun _ _ _ h => lift_c rfl (fun _ _ _ => .int i) h
theorem d_globS {x : Str} {i : Str} {u : Value} {pos : Pos} (hg : Gl X x) (hm : X.mg x = some u) (r : RelV (.str i) u) (hd : (x == ("__debug__" : Str)) = false := by decide) : DE X (.Name x pos) (tCD (.str i)) :=
  wkE (pe_glob hg hm r hd) fun _ _ _ h => lift_c rfl (fun _ _ _ => .str i) h
end

/-! ### operators by values -/
abbrev DR2 := D → D → (D → Prop) → Prop
abbrev DR1 := D → (D → Prop) → Prop
abbrev DRn := List D → (D → Prop) → Prop
def Snd2 (r : R2) (dr : DR2) : Prop := ∀ (P : Addr) (A B : Addr → Prop) (H : Hp) (x y : V) (d e : D) (Q : VK) (Qd : D → Prop), H P ≠ none → (∀ a, H a = none → A a) → Rp P B H x d → Rp P B H y e → dr d e Qd →
  (∀ v H' z, Same H H' → Rp P A H' v z → Qd z → Q v H') → r x y H Q
def Snd1 (r : V → Hp → VK → Prop) (dr : DR1) : Prop := ∀ (P : Addr) (A B : Addr → Prop) (H : Hp) (x : V) (d : D) (Q : VK) (Qd : D → Prop), H P ≠ none → (∀ a, H a = none → A a) → Rp P B H x d → dr d Qd →
  (∀ v H' z, Same H H' → Rp P A H' v z → Qd z → Q v H') → r x H Q
def SndN (r : List V → Hp → VK → Prop) (dr : DRn) : Prop := ∀ (P : Addr) (A B : Addr → Prop) (H : Hp) (xs : List V) (ds : List D) (Q : VK) (Qd : D → Prop), H P ≠ none → (∀ a, H a = none → A a) → RpAll P B H xs ds → dr ds Qd →
  (∀ v H' z, Same H H' → Rp P A H' v z → Qd z → Q v H') → r xs H Q
def tOpD (dr : DR2) (ta tb : DTE) : DTE := fun _ Δ n Q => ta .bor Δ n fun x n1 => tb .bor Δ n1 fun y n2 => dr x y fun z => Q z n2
def tUnD (dr : DR1) (ta : DTE) : DTE := fun _ Δ n Q => ta .bor Δ n fun x n1 => dr x fun z => Q z n1
def tCallN (dr : DRn) (ta : DTA) : DTE := fun _ Δ n Q => ta .bor Δ n fun xs n1 => dr xs fun z => Q z n1
def tTestD (t : DTE) : DTT := fun Δ n Q => t .bor Δ n fun z n1 => match z with | .bl b => Q b n1 | _ => False
section
variable {X : Cx} {a b c e : Expr} {ta tb tc te : DTE} {pos : Pos}
theorem lift_op {r : R2} {dr : DR2} (sn : Snd2 r dr) {σ : L2.St} {H : Hp} {Q : VK} (h : lift (tOpD dr ta tb) σ H Q) : tOp r (lift ta) (lift tb) σ H Q := by
  obtain ⟨P, H0, B, fr, av, n, Δ, m, Qd, S, b, h, k⟩ := h
  refine lift_at .bor S b h fun x H1 d n1 s1 S1 r1 q1 => ?_
  refine lift_at .bor S1 (b.trans s1) q1 fun y H2 e n2 s2 S2 r2 q2 => ?_
  refine sn P (Al m B H0 av σ Δ) _ H2 x y d e Q _ S2.pen.some (fun a ha => Al.new S2 ((b.trans s1).trans s2) m ha) (r1.same s2) r2 q2 fun v H3 z s3 rz qz => ?_
  exact k v H3 z n2 ((s1.trans s2).trans (.of s3)) (S2.pen.same s3) rz qz
theorem lift_un {r : V → Hp → VK → Prop} {dr : DR1} (sn : Snd1 r dr) {σ : L2.St} {H : Hp} {Q : VK} (h : lift (tUnD dr ta) σ H Q) : tUn r (lift ta) σ H Q := by
  obtain ⟨P, H0, B, fr, av, n, Δ, m, Qd, S, b, h, k⟩ := h
  refine lift_at .bor S b h fun x H1 d n1 s1 S1 r1 q1 => ?_
  refine sn P (Al m B H0 av σ Δ) _ H1 x d Q _ S1.pen.some (fun a ha => Al.new S1 (b.trans s1) m ha) r1 q1 fun v H3 z s3 rz qz => ?_
  exact k v H3 z n1 (s1.trans (.of s3)) (S1.pen.same s3) rz qz
theorem lift_call {r : List V → Hp → VK → Prop} {dr : DRn} {ta : DTA} (sn : SndN r dr) {σ : L2.St} {H : Hp} {Q : VK} (h : lift (tCallN dr ta) σ H Q) : tCB r (liftA ta) σ H Q := by
  obtain ⟨P, H0, B, fr, av, n, Δ, m, Qd, S, b, h, k⟩ := h
  refine liftA_at .bor S b h fun x H1 d n1 s1 S1 r1 q1 => ?_
  refine sn P (Al m B H0 av σ Δ) _ H1 x d Q _ S1.pen.some (fun a ha => Al.new S1 (b.trans s1) m ha) r1 q1 fun v H3 z s3 rz qz => ?_
  exact k v H3 z n1 (s1.trans (.of s3)) (S1.pen.same s3) rz qz
theorem d_op {op : Operator} {r : R2} {dr : DR2} (ho : OpR X (binaryOp op) r) (sn : Snd2 r dr) (ha : DE X a ta) (hb : DE X b tb) : DE X (.BinOp a op b pos) (tOpD dr ta tb) :=
  wkE (pe_op ho ha hb) fun _ _ _ h => lift_op sn h
theorem d_un {op : UnaryOp} {r : V → Hp → VK → Prop} {dr : DR1} (ho : UnR X (unaryOp op) r) (sn : Snd1 r dr) (ha : DE X a ta) : DE X (.UnaryOp op a pos) (tUnD dr ta) :=
  wkE (pe_un ho ha) fun _ _ _ h => lift_un sn h
theorem d_cmp {op : CmpOp} {r : R2} {dr : DR2} (ho : OpR X (compareOp op) r) (sn : Snd2 r dr) (ha : DE X a ta) (hb : DE X b tb) (hm : behindInMarks op b = false) : DE X (.Compare a [op] [b] pos) (tOpD dr ta tb) :=
  wkE (pe_cmpR ho ha hb hm) fun _ _ _ h => lift_op sn h
theorem lift_test {t : DTE} {σ : L2.St} {H : Hp} {Q : Bool → Hp → Prop} {te : TE} (hw : ∀ Q, lift t σ H Q → te σ H Q) (h : liftT (tTestD t) σ H Q) : tTest te σ H Q := by
  obtain ⟨P, H0, fr, av, n, Δ, Qd, S, h, k⟩ := h
  refine hw _ (lift_at (B := H) .bor S (SameP.refl P H) h fun x H1 d n1 s1 S1 r1 q1 => ?_)
  cases d with
  | bl b => cases r1; exact ⟨b, rfl, k b H1 n1 s1 S1.pen q1⟩
  | _ => exact q1.elim
theorem dt_cmp {op : CmpOp} {r : R2} {dr : DR2} (ho : OpR X (compareOp op) r) (sn : Snd2 r dr) (ha : DE X a ta) (hb : DE X b tb) (hm : behindInMarks op b = false) : DT X (.Compare a [op] [b] pos) (tTestD (tOpD dr ta tb)) :=
  wkT (pt_cmpR ho ha hb hm) fun _ _ _ h => lift_test (fun _ => lift_op sn) h
/-- two comparisons of ints -/
def tChainD (dr dr' : DR2) (ta tb tc : DTE) : DTE := fun _ Δ n Q => ta .bor Δ n fun x n1 => tb .bor Δ n1 fun y n2 => dr x y fun z => match z with
  | .bl true => tc .bor Δ n2 fun w n3 => dr' y w fun u => Q u n3
  | .bl false => Q (.bl false) n2
  | _ => False
theorem lift_chain {r r' : R2} {dr dr' : DR2} (sn : Snd2 r dr) (sn' : Snd2 r' dr') {σ : L2.St} {H : Hp} {Q : VK} (h : lift (tChainD dr dr' ta tb tc) σ H Q) : tChain r r' (lift ta) (lift tb) (lift tc) σ H Q := by
  obtain ⟨P, H0, B, fr, av, n, Δ, m, Qd, S, b, h, k⟩ := h
  refine lift_at .bor S b h fun x H1 d n1 s1 S1 r1 q1 => ?_
  refine lift_at .bor S1 (b.trans s1) q1 fun y H2 e n2 s2 S2 r2 q2 => ?_
  refine sn P (Al m B H0 av σ Δ) _ H2 x y d e _ _ S2.pen.some (fun a ha => Al.new S2 ((b.trans s1).trans s2) m ha) (r1.same s2) r2 q2 fun v H3 z s3 rz qz => ?_
  have S3 := S2.mono (.of s3) (S2.pen.same s3)
  cases z with
  | bl c =>
    cases rz
    refine ⟨c, rfl, ?_⟩
    cases c with
    | false => exact k _ H3 _ n2 ((s1.trans s2).trans (.of s3)) (S2.pen.same s3) (.bl _) qz
    | true =>
      refine lift_at .bor S3 ((b.trans s1).trans (s2.trans (.of s3))) qz fun w H4 f n4 s4 S4 r4 q4 => ?_
      refine sn' P (Al m B H0 av σ Δ) _ H4 y w e f Q _ S4.pen.some (fun a ha => Al.new S4 (((b.trans s1).trans (s2.trans (.of s3))).trans s4) m ha) (r2.same ((SameP.of s3).trans s4)) r4 q4 fun v H5 z s5 rz qz => ?_
      exact k v H5 z n4 (((s1.trans s2).trans (.of s3)).trans (s4.trans (.of s5))) (S4.pen.same s5) rz qz
  | _ => exact qz.elim
theorem d_chain {op op' : CmpOp} {r r' : R2} {dr dr' : DR2} (ho : OpR X (compareOp op) r) (sn : Snd2 r dr) (ho' : OpR X (compareOp op') r') (sn' : Snd2 r' dr') (ha : DE X a ta) (hb : DE X b tb) (hc : DE X c tc)
    (hm : lastMarks [op, op'] [b, c] = false := by with_unfolding_all rfl) : DE X (.Compare a [op, op'] [b, c] pos) (tChainD dr dr' ta tb tc) :=
  wkE (pe_chain ho ho' ha hb hc hm) fun _ _ _ h => lift_chain sn sn' h
theorem dt_chain {op op' : CmpOp} {r r' : R2} {dr dr' : DR2} (ho : OpR X (compareOp op) r) (sn : Snd2 r dr) (ho' : OpR X (compareOp op') r') (sn' : Snd2 r' dr') (ha : DE X a ta) (hb : DE X b tb) (hc : DE X c tc)
    (hm : lastMarks [op, op'] [b, c] = false := by with_unfolding_all rfl) : DT X (.Compare a [op, op'] [b, c] pos) (tTestD (tChainD dr dr' ta tb tc)) :=
  wkT (pt_chain ho ho' ha hb hc hm) fun _ _ _ h => lift_test (fun _ => lift_chain sn sn') h
/-- an expression that gives a truth, as a test -/
theorem dt_val {e : Expr} (h : DE X e te) (he : ∀ whole, isTrue e X.env whole = (do let v ← whole; standAt e.pos; holding [v] (truthy v)) := by intro _; rfl) : DT X e (tTestD te) :=
  wkT (pt_val h he) fun _ _ _ h => lift_test (fun _ h => h) h
/-! and, or, not -/
def tAndD (t u : DTT) : DTT := fun Δ n Q => t Δ n fun b n1 => if b = true then u Δ n1 Q else Q false n1
def tOrD (t u : DTT) : DTT := fun Δ n Q => t Δ n fun b n1 => if b = true then Q true n1 else u Δ n1 Q
def tNotD (t : DTT) : DTT := fun Δ n Q => t Δ n fun b n1 => Q (!b) n1
variable {tA tB' : DTT} {rest : List Expr}
theorem dw_and1 (ha : DT X a tA) : DW X (.BoolOp .And [a] pos) tA := pw_and1 ha
theorem dw_or1 (ha : DT X a tA) : DW X (.BoolOp .Or [a] pos) tA := pw_or1 ha
theorem dw_and (ha : DT X a tA) (hb : DW X (.BoolOp .And (b :: rest) pos) tB') : DW X (.BoolOp .And (a :: b :: rest) pos) (tAndD tA tB') :=
  wkW (pw_and ha hb) fun σ H Q ⟨P, H0, fr, av, n, Δ, Qd, S, h, k⟩ => liftT_at S h fun v H1 n1 s1 S1 q1 => by
    cases v with
    | true => exact liftT_at S1 q1 fun v H2 n2 s2 S2 q2 => k v H2 n2 (s1.trans s2) S2.pen q2
    | false => exact k false H1 n1 s1 S1.pen q1
theorem dw_or (ha : DT X a tA) (hb : DW X (.BoolOp .Or (b :: rest) pos) tB') : DW X (.BoolOp .Or (a :: b :: rest) pos) (tOrD tA tB') :=
  wkW (pw_or ha hb) fun σ H Q ⟨P, H0, fr, av, n, Δ, Qd, S, h, k⟩ => liftT_at S h fun v H1 n1 s1 S1 q1 => by
    cases v with
    | false => exact liftT_at S1 q1 fun v H2 n2 s2 S2 q2 => k v H2 n2 (s1.trans s2) S2.pen q2
    | true => exact k true H1 n1 s1 S1.pen q1
theorem dt_not (ha : DT X a tA) : DT X (.UnaryOp .Not a pos) (tNotD tA) :=
  wkT (pt_not ha) fun σ H Q ⟨P, H0, fr, av, n, Δ, Qd, S, h, k⟩ => liftT_at S h fun v H1 n1 s1 S1 q1 => k (!v) H1 n1 s1 S1.pen q1
/-- .. as values -/
def tAndVD (ta tb : DTE) : DTE := fun m Δ n Q => ta .bor Δ n fun x n1 => match x with | .bl true => tb m Δ n1 Q | .bl false => Q (.bl false) n1 | _ => False
def tOrVD (ta tb : DTE) : DTE := fun m Δ n Q => ta .bor Δ n fun x n1 => match x with | .bl true => Q (.bl true) n1 | .bl false => tb m Δ n1 Q | _ => False
def tNotVD (ta : DTE) : DTE := fun m Δ n Q => ta .bor Δ n fun x n1 => match x with | .bl b => Q (.bl (!b)) n1 | _ => False
theorem d_one {op} (h : DE X a ta) : DE X (.BoolOp op [a] pos) ta := pe_one h
theorem d_and (ha : DE X a ta) (hb : DE X (.BoolOp .And (b :: rest) pos) tb) : DE X (.BoolOp .And (a :: b :: rest) pos) (tAndVD ta tb) :=
  wkE (pe_and ha hb) fun σ H Q ⟨P, H0, B, fr, av, n, Δ, m, Qd, S, bb, h, k⟩ => lift_at .bor S bb h fun v H1 d n1 s1 S1 r1 q1 => by
    cases d with
    | bl c =>
      cases r1
      cases c with
      | true => exact ⟨true, rfl, lift_at m S1 (bb.trans s1) q1 fun v H2 d n2 s2 S2 r2 q2 => k v H2 d n2 (s1.trans s2) S2.pen r2 q2⟩
      | false => exact ⟨false, rfl, k _ H1 _ n1 s1 S1.pen (.bl _) q1⟩
    | _ => exact q1.elim
theorem d_or (ha : DE X a ta) (hb : DE X (.BoolOp .Or (b :: rest) pos) tb) : DE X (.BoolOp .Or (a :: b :: rest) pos) (tOrVD ta tb) :=
  wkE (pe_or ha hb) fun σ H Q ⟨P, H0, B, fr, av, n, Δ, m, Qd, S, bb, h, k⟩ => lift_at .bor S bb h fun v H1 d n1 s1 S1 r1 q1 => by
    cases d with
    | bl c =>
      cases r1
      cases c with
      | false => exact ⟨false, rfl, lift_at m S1 (bb.trans s1) q1 fun v H2 d n2 s2 S2 r2 q2 => k v H2 d n2 (s1.trans s2) S2.pen r2 q2⟩
      | true => exact ⟨true, rfl, k _ H1 _ n1 s1 S1.pen (.bl _) q1⟩
    | _ => exact q1.elim
theorem d_not (ha : DE X a ta) : DE X (.UnaryOp .Not a pos) (tNotVD ta) :=
  wkE (pe_not ha) fun σ H Q ⟨P, H0, B, fr, av, n, Δ, m, Qd, S, bb, h, k⟩ => lift_at .bor S bb h fun v H1 d n1 s1 S1 r1 q1 => by
    cases d with
    | bl c => cases r1; exact ⟨c, rfl, k _ H1 _ n1 s1 S1.pen (.bl _) q1⟩
    | _ => exact q1.elim
def tIfD (t : DTT) (ta tb : DTE) : DTE := fun m Δ n Q => t Δ n fun b n1 => if b = true then ta m Δ n1 Q else tb m Δ n1 Q
theorem d_if (hc : DT X c tA) (ha : DE X a ta) (hb : DE X b tb) : DE X (.IfExp c a b pos) (tIfD tA ta tb) :=
  wkE (pe_ifExp hc ha hb) fun σ H Q ⟨P, H0, B, fr, av, n, Δ, m, Qd, S, bb, h, k⟩ => liftT_at S h fun v H1 n1 s1 S1 q1 => by
    cases v with
    | true => exact lift_at m S1 (bb.trans s1) q1 fun v H2 d n2 s2 S2 r2 q2 => k v H2 d n2 (s1.trans s2) S2.pen r2 q2
    | false => exact lift_at m S1 (bb.trans s1) q1 fun v H2 d n2 s2 S2 r2 q2 => k v H2 d n2 (s1.trans s2) S2.pen r2 q2
/-! arguments, displays -/
def tNilD : DTA := fun _ _ n Q => Q [] n
def tConsD (ta : DTE) (tr : DTA) : DTA := fun m Δ n Q => ta m Δ n fun x n1 => tr m Δ n1 fun xs n2 => Q (x :: xs) n2
theorem da_nil : DA X [] tNilD := wkA pa_nil fun σ H Q ⟨P, H0, B, fr, av, n, Δ, m, Qd, S, bb, h, k⟩ => k [] H [] n (SameP.refl P H) S.pen .nil h
theorem da_cons {es : List Expr} {tr : DTA} (ha : DE X a ta) (hr : DA X es tr) (hst : starEach (a :: es) X.env = (false, eval a X.env) :: starEach es X.env := by rfl) : DA X (a :: es) (tConsD ta tr) :=
  wkA (pa_cons ha hr hst) fun σ H Q ⟨P, H0, B, fr, av, n, Δ, m, Qd, S, bb, h, k⟩ => lift_at m S bb h fun v H1 d n1 s1 S1 r1 q1 =>
    liftA_at m S1 (bb.trans s1) q1 fun vs H2 ds n2 s2 S2 r2 q2 => k _ H2 _ n2 (s1.trans s2) S2.pen (.cons (r1.same s2) r2) q2
def tTupD (t : DTA) : DTE := fun m Δ n Q => t m Δ n fun ds n1 => ds.length ≤ sizeLine ∧ Q (.tup ds) n1
def tLstD (t : DTA) : DTE := fun m Δ n Q => t m Δ n fun ds n1 => ds.length ≤ sizeLine ∧ Q (.lst ds) n1
theorem rp_upd {P p : Addr} {A A' : Addr → Prop} {H : Hp} {o : HO} (hp : H p = none) (ha : ∀ a o, H a = some o → A a → A' a) {vs : List V} {ds : List D} (r : RpAll P A H vs ds) : RpAll P A' (upd H p o) vs ds :=
  RpAll.stay ⟨fun a vs e n => by rw [upd_ne (ne_of_none e hp)]; exact e, fun a vs e n z => ⟨by rw [upd_ne (ne_of_none e hp)]; exact e, ha a _ e z⟩⟩ _ _ r
theorem lift_tup {es : List Expr} {t : DTA} {σ : L2.St} {H : Hp} {Q : VK} (h : lift (tTupD t) σ H Q) : tTup (liftA t) σ H Q := by
  obtain ⟨P, H0, B, fr, av, n, Δ, m, Qd, S, bb, h, k⟩ := h
  refine liftA_at m S bb h fun vs H1 ds n1 s1 S1 r1 q1 => ⟨by rw [r1.length]; exact q1.1, fun p hp => ?_⟩
  exact k _ _ _ n1 (s1.trans (SameP.new hp)) (S1.pen.same (same_new hp)) (.tup upd_same (S1.neP hp) (rp_upd hp (fun _ _ _ z => z) r1)) q1.2
theorem lift_lst {es : List Expr} {t : DTA} {σ : L2.St} {H : Hp} {Q : VK} (h : lift (tLstD t) σ H Q) : tLst (liftA t) σ H Q := by
  obtain ⟨P, H0, B, fr, av, n, Δ, m, Qd, S, bb, h, k⟩ := h
  refine liftA_at m S bb h fun vs H1 ds n1 s1 S1 r1 q1 => ⟨by rw [r1.length]; exact q1.1, fun p hp => ?_⟩
  exact k _ _ _ n1 (s1.trans (SameP.new hp)) (S1.pen.same (same_new hp)) (.lst upd_same (S1.neP hp) (Al.new S1 (bb.trans s1) m hp) (rp_upd hp (fun _ _ _ z => z) r1)) q1.2
theorem d_tup {es : List Expr} {t : DTA} {x1} (h : DA X es t) : DE X (.Tuple es x1 pos) (tTupD t) := wkE (pe_tup h) fun _ _ _ h => lift_tup (es := es) h
theorem d_lst {es : List Expr} {t : DTA} (h : DA X es t) : DE X (.List es pos) (tLstD t) := wkE (pe_lst h) fun _ _ _ h => lift_lst (es := es) h
/-! built-ins by their names -/
theorem d_callB {id : String} {x : Str} {p : Pos} {es : List Expr} {r : List V → Hp → VK → Prop} {dr : DRn} {t : DTA} (hc : CallR X (.builtin id) r) (sn : SndN r dr) (hg : Gl X x) (hm : X.mg x = none) (hv : bootBuiltins x = some (.builtin id)) (ha : DA X (e :: es) t)
    (hn : x ≠ "__name__" := by decide) (hdb : (x == ("__debug__" : Str)) = false := by decide)
    (he : starEach (e :: es) X.env = (false, eval e X.env) :: starEach es X.env := by rfl) (hpl : (backTo pos (starEach es X.env)).any (·.1) = false := by rfl) :
    DE X (.Call (.Name x p) (e :: es) [] pos) (tCallN dr t) := wkE (pe_callB hc hg hm hv ha hn hdb he hpl) fun _ _ _ h => lift_call sn h
theorem d_callTy {T : String} {x : Str} {p : Pos} {es : List Expr} {r : List V → Hp → VK → Prop} {dr : DRn} {t : DTA} (hc : CallR X (.type T) r) (sn : SndN r dr) (hg : Gl X x) (hm : X.mg x = none) (hv : bootBuiltins x = some (.type T)) (ha : DA X (e :: es) t)
    (hn : x ≠ "__name__" := by decide) (hdb : (x == ("__debug__" : Str)) = false := by decide)
    (he : starEach (e :: es) X.env = (false, eval e X.env) :: starEach es X.env := by rfl) (hpl : (backTo pos (starEach es X.env)).any (·.1) = false := by rfl) :
    DE X (.Call (.Name x p) (e :: es) [] pos) (tCallN dr t) := wkE (pe_callTy hc hg hm hv ha hn hdb he hpl) fun _ _ _ h => lift_call sn h
end
end Dl

set_option Elab.async false
set_option linter.all false
set_option maxRecDepth 100000
set_option maxHeartbeats 1000000
namespace Dl
open PySem PySem.Spec PyProof.Rows L2

/-! ### ints -/
def drI (C : Int → Int → Prop) (g : Int → Int → Int) : DR2 := fun x y Q => match x, y with | .int i, .int j => C i j ∧ Q (.int (g i j)) | _, _ => False
def drI0 (g : Int → Int → Int) : DR2 := fun x y Q => match x, y with | .int i, .int j => Q (.int (g i j)) | _, _ => False
def drB0 (g : Int → Int → Bool) : DR2 := fun x y Q => match x, y with | .int i, .int j => Q (.bl (g i j)) | _, _ => False
theorem sn_I {C : Int → Int → Prop} {g : Int → Int → Int} : Snd2 (rI C fun i j => .int (g i j)) (drI C g) := fun P A B H x y d e Q Qd p0 nA rx ry h k => by
  cases d <;> cases e <;> first | exact h.elim | skip
  cases rx
  cases ry
  exact ⟨_, _, rfl, rfl, h.1, k _ H _ (Same.refl H) (.int _) h.2⟩
theorem sn_I0 {g : Int → Int → Int} : Snd2 (rI0 fun i j => .int (g i j)) (drI0 g) := fun P A B H x y d e Q Qd p0 nA rx ry h k => by
  cases d <;> cases e <;> first | exact h.elim | skip
  cases rx
  cases ry
  exact ⟨_, _, rfl, rfl, k _ H _ (Same.refl H) (.int _) h⟩
theorem sn_B0 {g : Int → Int → Bool} : Snd2 (rI0 fun i j => .bl (g i j)) (drB0 g) := fun P A B H x y d e Q Qd p0 nA rx ry h k => by
  cases d <;> cases e <;> first | exact h.elim | skip
  cases rx
  cases ry
  exact ⟨_, _, rfl, rfl, k _ H _ (Same.refl H) (.bl _) h⟩
def drNeg : DR1 := fun x Q => match x with | .int i => Q (.int (-i)) | _ => False
theorem sn_neg : Snd1 (rU fun i => .int (-i)) drNeg := fun P A B H x d Q Qd p0 nA rx h k => by
  cases d <;> first | exact h.elim | skip
  cases rx
  exact ⟨_, rfl, k _ H _ (Same.refl H) (.int _) h⟩
/-! ### texts, lists, tuples: + * -/
def drAddS : DR2 := fun x y Q => match x, y with | .str i, .str j => i.length + j.length ≤ sizeLine ∧ Q (.str (i ++ j)) | _, _ => False
theorem sn_addS : Snd2 (fun x y H Q => ∃ i j, x = .str i ∧ y = .str j ∧ i.length + j.length ≤ sizeLine ∧ Q (.str (i ++ j)) H) drAddS := fun P A B H x y d e Q Qd p0 nA rx ry h k => by
  cases d <;> cases e <;> first | exact h.elim | skip
  cases rx
  cases ry
  exact ⟨_, _, rfl, rfl, h.1, k _ H _ (Same.refl H) (.str _) h.2⟩
theorem ne_P {P p : Addr} {H : Hp} (p0 : H P ≠ none) (hp : H p = none) : p ≠ P := fun z => p0 (z ▸ hp)
def drCatL : DR2 := fun x y Q => match x, y with | .lst i, .lst j => i.length + j.length ≤ sizeLine ∧ flatAll i = true ∧ flatAll j = true ∧ Q (.lst (i ++ j)) | _, _ => False
theorem sn_catL : Snd2 rCat drCatL := fun P A B H x y d e Q Qd p0 nA rx ry h k => by
  cases d <;> cases e <;> first | exact h.elim | skip
  cases rx with
  | lst h1 h2 h3 r1 =>
    cases ry with
    | lst h4 h5 h6 r2 =>
      refine ⟨_, _, _, _, rfl, rfl, h1, h4, by rw [r1.length, r2.length]; exact h.1, fun p hp => ?_⟩
      exact k _ _ _ (same_new hp) (.lst upd_same (ne_P p0 hp) (nA p hp) (rp_upd hp (fun _ _ _ z => z) ((RpAll.flat _ _ h.2.1 r1).append (RpAll.flat _ _ h.2.2.1 r2)))) h.2.2.2
def drCatT : DR2 := fun x y Q => match x, y with | .tup i, .tup j => i.length + j.length ≤ sizeLine ∧ flatAll i = true ∧ flatAll j = true ∧ Q (.tup (i ++ j)) | _, _ => False
theorem sn_catT {K : PySem.W.Frag} : Snd2 (rCatA K) drCatT := fun P A B H x y d e Q Qd p0 nA rx ry h k => by
  cases d <;> cases e <;> first | exact h.elim | skip
  cases rx with
  | tup h1 h2 r1 =>
    cases ry with
    | tup h4 h5 r2 =>
      have f1 : RpAll P A H _ _ := RpAll.flat _ _ h.2.1 r1
      have f2 : RpAll P A H _ _ := RpAll.flat _ _ h.2.2.1 r2
      refine ⟨_, _, _, _, rfl, rfl, SqT.of h1, SqT.of h4, by rw [r1.length, r2.length]; exact h.1, fun e => ?_, fun _ e => ?_, fun _ _ p hp => ?_⟩
      · subst e
        cases r1
        exact k _ _ _ (Same.refl H) (.tup h4 h5 f2) h.2.2.2
      · subst e
        cases r2
        have q := h.2.2.2
        rw [List.append_nil] at q
        exact k _ _ _ (Same.refl H) (.tup h1 h2 f1) q
      · exact k _ _ _ (same_new hp) (.tup upd_same (ne_P p0 hp) (rp_upd hp (fun _ _ _ z => z) (f1.append f2))) h.2.2.2
def drRep : DR2 := fun x y Q => match x, y with | .lst i, .int j => -(2 ^ 63) ≤ j ∧ j < 2 ^ 63 ∧ i.length * j.toNat ≤ sizeLine ∧ flatAll i = true ∧ Q (.lst (List.replicate j.toNat i).flatten) | _, _ => False
theorem RpAll.rep {P : Addr} {A : Addr → Prop} {H : Hp} {vs : List V} {ds : List D} (r : RpAll P A H vs ds) : ∀ n : Nat, RpAll P A H (List.replicate n vs).flatten (List.replicate n ds).flatten
  | 0 => .nil
  | n + 1 => by
    rw [List.replicate_succ, List.replicate_succ, List.flatten_cons, List.flatten_cons]
    exact r.append (RpAll.rep r n)
theorem sn_rep : Snd2 rRep drRep := fun P A B H x y d e Q Qd p0 nA rx ry h k => by
  cases d <;> cases e <;> first | exact h.elim | skip
  cases rx with
  | lst h1 h2 h3 r1 =>
    cases ry
    refine ⟨_, _, _, rfl, rfl, h1, h.1, h.2.1, by rw [r1.length]; exact h.2.2.1, fun p hp => ?_⟩
    exact k _ _ _ (same_new hp) (.lst upd_same (ne_P p0 hp) (nA p hp) (rp_upd hp (fun _ _ _ z => z) ((RpAll.flat _ _ h.2.2.2.1 r1).rep _))) h.2.2.2.2
/-! ### == != -/
mutual
def toPy : D → PyData
  | .non => .none
  | .bl b => .bool b
  | .int i => .int i
  | .str x => .str x
  | .tup ds => .tuple (toPys ds)
  | .lst ds => .list (toPys ds)
  | _ => .none
def toPys : List D → List PyData
  | [] => []
  | d :: ds => toPy d :: toPys ds
end
mutual
def pyb : D → Bool
  | .byt _ => false
  | .pen => false
  | .obj _ => false
  | .opq _ => false
  | .tup ds => pybs ds
  | .lst ds => pybs ds
  | _ => true
def pybs : List D → Bool
  | [] => true
  | d :: ds => pyb d && pybs ds
end
mutual
theorem Rp.dp {K : PySem.W.Frag} {P : Addr} {A : Addr → Prop} {H : Hp} : ∀ (d : D) (v : V), pyb d = true → Rp P A H v d → Dp K H v (toPy d)
  | .non, _, _, h => by cases h; simp only [toPy]; exact .non
  | .bl _, _, _, h => by cases h; simp only [toPy]; exact .bl _
  | .int _, _, _, h => by cases h; simp only [toPy]; exact .int _
  | .str _, _, _, h => by cases h; simp only [toPy]; exact .str _
  | .byt _, _, f, h => by simp [pyb] at f
  | .opq _, _, f, h => by simp [pyb] at f
  | .pen, _, f, h => by simp [pyb] at f
  | .obj o, _, f, h => by simp [pyb] at f
  | .tup ds, _, f, h => by
    simp only [pyb] at f
    cases h with
    | tup h1 h2 h3 => simp only [toPy]; exact .tup (SqT.of h1) (RpAll.dp ds _ f h3)
  | .lst ds, _, f, h => by
    simp only [pyb] at f
    cases h with
    | lst h1 h2 h4 h3 => simp only [toPy]; exact .lst (SqL.of h1) (RpAll.dp ds _ f h3)
theorem RpAll.dp {K : PySem.W.Frag} {P : Addr} {A : Addr → Prop} {H : Hp} : ∀ (ds : List D) (vs : List V), pybs ds = true → RpAll P A H vs ds → DpAll K H vs (toPys ds)
  | [], _, _, h => by cases h; simp only [toPys]; exact .nil
  | d :: ds, _, f, h => by
    simp only [pybs, Bool.and_eq_true] at f
    cases h with
    | cons h1 h2 => simp only [toPys]; exact .cons (Rp.dp d _ f.1 h1) (RpAll.dp ds _ f.2 h2)
end
def eqS : D → D → Option Bool
  | .int i, .int j => some (decide (i = j))
  | .str i, .str j => some (decide (i = j))
  | .bl i, .bl j => some (decide (i = j))
  | .non, .non => some true
  | .non, .int _ => some false
  | .int _, .non => some false
  | .byt i, .byt j => some (decide (i = j))
  | _, _ => none
/-- what == compares as data -/
def shp (d : D) : Prop := pyb d = true ∧ SeqAt.shaped (toPy d) = true
def drEq : DR2 := fun x y Q => match eqS x y with
  | some b => Q (.bl b)
  | none => shp x ∧ shp y ∧ Q (.bl (PyData.eqv (toPy x) (toPy y)))
def drNe : DR2 := fun x y Q => match eqS x y with
  | some b => Q (.bl (!b))
  | none => shp x ∧ shp y ∧ Q (.bl (!PyData.eqv (toPy x) (toPy y)))
theorem eqS_V {P : Addr} {B : Addr → Prop} {H : Hp} {x y : V} {d e : D} {b : Bool} (rx : Rp P B H x d) (ry : Rp P B H y e) (h : eqS d e = some b) : scal x y = true ∧ decide (x = y) = b := by
  unfold eqS at h
  split at h <;> first | (cases h; done) | skip
  all_goals (cases rx; cases ry; simp only [Option.some.injEq] at h; subst h; refine ⟨rfl, ?_⟩; simp)
theorem sn_eq {K : PySem.W.Frag} : Snd2 (fun x y H Q => rEq x y H Q ∨ rEqD K x y H Q) drEq := fun P A B H x y d e Q Qd p0 nA rx ry h k => by
  unfold drEq at h
  split at h
  · rename_i b hb
    obtain ⟨h1, h2⟩ := eqS_V rx ry hb
    exact .inl ⟨h1, by rw [h2]; exact k _ H _ (Same.refl H) (.bl _) h⟩
  · exact .inr ⟨_, _, Rp.dp d x h.1.1 rx, Rp.dp e y h.2.1.1 ry, h.1.2, h.2.1.2, k _ H _ (Same.refl H) (.bl _) h.2.2⟩
theorem sn_ne {K : PySem.W.Frag} : Snd2 (fun x y H Q => rNe x y H Q ∨ rNeD K x y H Q) drNe := fun P A B H x y d e Q Qd p0 nA rx ry h k => by
  unfold drNe at h
  split at h
  · rename_i b hb
    obtain ⟨h1, h2⟩ := eqS_V rx ry hb
    exact .inl ⟨h1, by rw [h2]; exact k _ H _ (Same.refl H) (.bl _) h⟩
  · exact .inr ⟨_, _, Rp.dp d x h.1.1 rx, Rp.dp e y h.2.1.1 ry, h.1.2, h.2.1.2, k _ H _ (Same.refl H) (.bl _) h.2.2⟩
theorem op_eqU {X : Cx} (hu : X.A.units + 64 < cLine) : OpR X (compareOp .Eq) (fun x y H Q => rEq x y H Q ∨ rEqD X.K x y H Q) := op_eq.or (op_eqD hu)
theorem op_neU {X : Cx} (hu : X.A.units + 64 < cLine) : OpR X (compareOp .NotEq) (fun x y H Q => rNe x y H Q ∨ rNeD X.K x y H Q) := op_ne.or (op_neD hu)
/-! ### is None -/
def isNonD : D → Option Bool
  | .non => some true
  | .opq _ => none
  | _ => some false
def drIsN : DR2 := fun x y Q => match y, isNonD x with | .non, some b => Q (.bl b) | _, _ => False
def drNotN : DR2 := fun x y Q => match y, isNonD x with | .non, some b => Q (.bl (!b)) | _, _ => False
theorem isNon_V {P : Addr} {B : Addr → Prop} {H : Hp} {x : V} {d : D} {b : Bool} (rx : Rp P B H x d) (h : isNonD d = some b) : decide (x = .non) = b := by
  cases rx <;> simp [isNonD] at h <;> subst h <;> simp
theorem sn_isN : Snd2 (fun x y H Q => y = .non ∧ Q (.bl (decide (x = .non))) H) drIsN := fun P A B H x y d e Q Qd p0 nA rx ry h k => by
  unfold drIsN at h
  split at h
  · rename_i b hb
    cases ry
    exact ⟨rfl, by rw [isNon_V rx hb]; exact k _ H _ (Same.refl H) (.bl _) h⟩
  · exact h.elim
theorem sn_notN : Snd2 (fun x y H Q => y = .non ∧ Q (.bl (!decide (x = .non))) H) drNotN := fun P A B H x y d e Q Qd p0 nA rx ry h k => by
  unfold drNotN at h
  split at h
  · rename_i b hb
    cases ry
    exact ⟨rfl, by rw [isNon_V rx hb]; exact k _ H _ (Same.refl H) (.bl _) h⟩
  · exact h.elim
/-! ### in, not in -/
def scD : D → Bool
  | .non => true
  | .bl _ => true
  | .int _ => true
  | .str _ => true
  | _ => false
def eqD : D → D → Bool
  | .non, .non => true
  | .bl a, .bl b => a == b
  | .bl a, .int b => (if a then 1 else 0) == b
  | .int a, .bl b => a == (if b then 1 else 0)
  | .int a, .int b => a == b
  | .str a, .str b => a == b
  | _, _ => false
def inD (x : D) (ds : List D) : Bool := ds.any fun y => eqD y x
def seqOf : D → Option (List D)
  | .lst ds => some ds
  | .tup ds => some ds
  | _ => none
theorem sc_V {P : Addr} {B : Addr → Prop} {H : Hp} {x : V} {d : D} (r : Rp P B H x d) (h : scD d = true) : flatV x = true := by
  cases r <;> first | rfl | simp [scD] at h
theorem eqD_V {P : Addr} {B : Addr → Prop} {H : Hp} {x y : V} {d e : D} (rx : Rp P B H x d) (ry : Rp P B H y e) (h1 : scD d = true) (h2 : scD e = true) : eqV x y = eqD d e := by
  cases rx <;> first | (simp [scD] at h1; done) | skip
  all_goals (cases ry <;> first | rfl | (simp [scD] at h2; done))
theorem inD_V {P : Addr} {B : Addr → Prop} {H : Hp} {x : V} {d : D} (rx : Rp P B H x d) (h1 : scD d = true) : ∀ {vs : List V} {ds : List D}, RpAll P B H vs ds → ds.all scD = true → vs.all flatV = true ∧ inV x vs = inD d ds
  | _, _, .nil, _ => ⟨rfl, rfl⟩
  | v :: vs, e :: es, .cons r t, h => by
    rw [List.all_cons, Bool.and_eq_true] at h
    obtain ⟨a, b⟩ := inD_V rx h1 t h.2
    refine ⟨by rw [List.all_cons, sc_V r h.1, a]; rfl, ?_⟩
    show (eqV v x || inV x vs) = (eqD e d || inD d es)
    rw [eqD_V r rx h.1 h1, b]
def drIn (neg : Bool) : DR2 := fun x y Q => ∃ ds, seqOf y = some ds ∧ scD x = true ∧ ds.all scD = true ∧ Q (.bl (if neg then !inD x ds else inD x ds))
theorem sn_in {K : PySem.W.Frag} {neg : Bool} : Snd2 (rIn K neg) (drIn neg) := fun P A B H x y d e Q Qd p0 nA rx ry h k => by
  obtain ⟨ds, e1, h1, h2, h⟩ := h
  cases e <;> first | (cases e1; done) | skip
  · cases e1
    cases ry with
    | tup a1 a2 r =>
      obtain ⟨f, i⟩ := inD_V rx h1 r h2
      exact ⟨_, _, rfl, .inr (SqT.of a1), sc_V rx h1, f, by rw [i]; exact k _ H _ (Same.refl H) (.bl _) h⟩
  · cases e1
    cases ry with
    | lst a1 a2 a3 r =>
      obtain ⟨f, i⟩ := inD_V rx h1 r h2
      exact ⟨_, _, rfl, .inl (SqL.of a1), sc_V rx h1, f, by rw [i]; exact k _ H _ (Same.refl H) (.bl _) h⟩
theorem inD_ints (i : Int) : ∀ ns : List Int, inD (.int i) (ns.map D.int) = decide (i ∈ ns)
  | [] => rfl
  | n :: ns => by
    show ((n == i) || inD (.int i) (ns.map D.int)) = decide (i ∈ n :: ns)
    rw [inD_ints i ns, Bool.eq_iff_iff]
    simp only [List.mem_cons, Bool.or_eq_true, beq_iff_eq, decide_eq_true_eq]
    exact ⟨fun h => h.elim (fun h => .inl h.symm) .inr, fun h => h.elim (fun h => .inl h.symm) .inr⟩
theorem sc_ints : ∀ ns : List Int, (ns.map D.int).all scD = true
  | [] => rfl
  | n :: ns => by rw [List.map_cons, List.all_cons, sc_ints ns]; rfl
theorem flat_ints (ns : List Int) : flatAll (ns.map D.int) = true := flatAll_map (fun _ => rfl) ns
/-! ### x[i], x[a:b] -/
theorem RpAll.atI {P : Addr} {A : Addr → Prop} {H : Hp} {vs : List V} {ds : List D} {i : Int} {d : D} (r : RpAll P A H vs ds) (h : L2.atI ds i = some d) : ∃ v, L2.atI vs i = some v ∧ Rp P A H v d := by
  unfold L2.atI at h ⊢
  rw [r.length]
  cases e : ixN ds.length i with
  | none => rw [e] at h; cases h
  | some j =>
    rw [e] at h
    exact r.get h
def drIx : DR2 := fun x y Q => match x, y with
  | .lst xs, .int i => ∃ d, atI xs i = some d ∧ flat d = true ∧ Q d
  | .tup xs, .int i => ∃ d, atI xs i = some d ∧ flat d = true ∧ Q d
  | .str z, .int i => ∃ c, z.length ≤ sizeLine ∧ atI z.cps.toList i = some c ∧ Q (.str ⟨#[c]⟩)
  | _, _ => False
theorem sn_ix {K : PySem.W.Frag} : Snd2 (rIx K) drIx := fun P A B H x y d e Q Qd p0 nA rx ry h k => by
  cases d <;> cases e <;> first | exact h.elim | skip
  · cases rx
    cases ry
    obtain ⟨c, h1, h2, q⟩ := h
    exact .inr (.inr ⟨_, _, c, rfl, rfl, h1, h2, k _ H _ (Same.refl H) (.str _) q⟩)
  · obtain ⟨d, h1, h2, q⟩ := h
    cases ry
    cases rx with
    | tup a1 a2 r =>
      obtain ⟨v, e1, e2⟩ := r.atI h1
      exact .inr (.inl ⟨_, _, _, v, rfl, rfl, SqT.of a1, e1, k _ H _ (Same.refl H) (Rp.flat _ _ h2 e2) q⟩)
  · obtain ⟨d, h1, h2, q⟩ := h
    cases ry
    cases rx with
    | lst a1 a2 a3 r =>
      obtain ⟨v, e1, e2⟩ := r.atI h1
      exact .inl ⟨_, _, _, v, rfl, rfl, SqL.of a1, e1, k _ H _ (Same.refl H) (Rp.flat _ _ h2 e2) q⟩
section
variable {X : Cx} {a b c e : Expr} {ta tb tc te : DTE} {pos : Pos}
theorem d_ix (ha : DE X a ta) (hb : DE X b tb) (hs : PlainIx b) : DE X (.Subscript a b pos) (tOpD drIx ta tb) :=
  wkE (pe_ix ix_seq ha hb hs) fun _ _ _ h => lift_op sn_ix h
abbrev DTO := DEnv → Nat → (Option Int → Nat → Prop) → Prop
def liftO (t : DTO) : TO := fun σ H Q => ∃ P H0 fr av n Δ Qd, StR P H0 fr av n σ Δ H ∧ t Δ n Qd ∧ ∀ b H' n', SameP P H H' → PenOk P n' H' → Qd b n' → Q b H'
abbrev DO (X : Cx) (e : Option Expr) (t : DTO) : Prop := PO X e (liftO t)
def tNoPartD : DTO := fun _ n Q => Q none n
def tPartD (t : DTE) : DTO := fun Δ n Q => t .bor Δ n fun x n1 => match x with | .int i => Q (some i) n1 | _ => False
theorem wkO {e : Option Expr} {t t' : TO} (h : PO X e t) (w : ∀ σ H Q, t' σ H Q → t σ H Q) : PO X e t' := ⟨fun pins s σ H Q I q => h.run pins s σ H Q I (w σ H Q q)⟩
theorem do_none : DO X none tNoPartD := wkO po_none fun σ H Q ⟨P, H0, fr, av, n, Δ, Qd, S, h, k⟩ => k none H n (SameP.refl P H) S.pen h
theorem do_some (h : DE X e te) : DO X (some e) (tPartD te) := wkO (po_some h) fun σ H Q ⟨P, H0, fr, av, n, Δ, Qd, S, h, k⟩ => lift_at (B := H) .bor S (SameP.refl P H) h fun v H1 d n1 s1 S1 r1 q1 => by
  cases d <;> first | exact q1.elim | skip
  cases r1
  exact ⟨_, rfl, k _ H1 n1 s1 S1.pen q1⟩
theorem liftO_at {t : DTO} {P : Addr} {H0 : Hp} {fr : List (V × D)} {av : List Addr} {n : Nat} {σ : L2.St} {Δ : DEnv} {H : Hp} {Q : Option Int → Hp → Prop} {Qd : Option Int → Nat → Prop} (S : StR P H0 fr av n σ Δ H) (h : t Δ n Qd)
    (k : ∀ v H' n', SameP P H H' → StR P H0 fr av n' σ Δ H' → Qd v n' → Q v H') : liftO t σ H Q :=
  ⟨P, H0, fr, av, n, Δ, Qd, S, h, fun v H' n' s p q => k v H' n' s (S.mono s p) q⟩
def cutL {α : Type} (xs : List α) (lo hi : Option Int) : List α := (xs.drop (HT.sIx xs.length 0 lo)).take (HT.sIx xs.length xs.length hi - HT.sIx xs.length 0 lo)
theorem RpAll.cut {P : Addr} {A : Addr → Prop} {H : Hp} {vs : List V} {ds : List D} (r : RpAll P A H vs ds) (lo hi : Option Int) : RpAll P A H (cutV vs lo hi) (cutL ds lo hi) := by
  unfold cutV cutL
  rw [r.length]
  exact (r.drop _).take _
def tSlD (te : DTE) (tl th : DTO) : DTE := fun _ Δ n Q => te .bor Δ n fun x n1 => tl Δ n1 fun l n2 => th Δ n2 fun u n3 => match x with
  | .lst xs => flatAll xs = true ∧ Q (.lst (cutL xs l u)) n3
  | .tup xs => flatAll xs = true ∧ Q (.tup (cutL xs l u)) n3
  | .str z => z.length ≤ sizeLine ∧ Q (.str (cutS z l u)) n3
  | _ => False
theorem flat_cut {ds : List D} (h : flatAll ds = true) (lo hi : Option Int) : flatAll (cutL ds lo hi) = true := by
  rw [flatAll_iff] at h ⊢
  intro d hd
  exact h d (List.mem_of_mem_drop (List.mem_of_mem_take hd))
theorem d_sl {lo hi : Option Expr} {tl th : DTO} {p2 : Pos} (he : DE X e te) (hl : DO X lo tl) (hu : DO X hi th) : DE X (.Subscript e (.Slice lo hi none p2) pos) (tSlD te tl th) :=
  wkE (pe_slice (sl_list.or (sl_tupA.or sl_str)) he hl hu) fun σ H Q ⟨P, H0, B, fr, av, n, Δ, m, Qd, S, bb, h, k⟩ => lift_at .bor S bb h fun v H1 d n1 s1 S1 r1 q1 =>
    liftO_at S1 q1 fun l H2 n2 s2 S2 q2 => liftO_at S2 q2 fun u H3 n3 s3 S3 q3 => by
      have s13 := (s1.trans s2).trans s3
      cases d <;> first | exact q3.elim | skip
      · cases r1
        exact .inr (.inr ⟨_, rfl, q3.1, k _ H3 _ n3 s13 S3.pen (.str _) q3.2⟩)
      · cases r1 with
        | tup a1 a2 r =>
          have e1 := s2.trans s3 _ _ a1 a2
          have r3 := r.same (s2.trans s3)
          refine .inr (.inl ⟨_, _, rfl, SqT.of e1, fun z => ?_, fun _ p hp => ?_⟩)
          · have q := q3.2
            unfold cutL at q
            rw [← r.length, z.1, z.2, List.drop_zero, Nat.sub_zero, r.length, List.take_length] at q
            exact k _ H3 _ n3 s13 S3.pen (.tup e1 a2 (RpAll.flat _ _ q3.1 r3)) q
          · exact k _ _ _ n3 (s13.trans (SameP.new hp)) (S3.pen.same (same_new hp)) (.tup upd_same (S3.neP hp) (rp_upd hp (fun _ _ _ z => z) (RpAll.flat _ _ (flat_cut q3.1 _ _) (r3.cut l u)))) q3.2
      · cases r1 with
        | lst a1 a2 a3 r =>
          have e1 := s2.trans s3 _ _ a1 a2
          have r3 := r.same (s2.trans s3)
          refine .inl ⟨_, _, rfl, SqL.of e1, fun p hp => ?_⟩
          exact k _ _ _ n3 (s13.trans (SameP.new hp)) (S3.pen.same (same_new hp)) (.lst upd_same (S3.neP hp) (Al.new S3 (bb.trans s13) m hp) (rp_upd hp (fun _ _ _ z => z) (RpAll.flat _ _ (flat_cut q3.1 _ _) (r3.cut l u)))) q3.2
end
end Dl

set_option Elab.async false
set_option linter.all false
set_option maxRecDepth 100000
set_option maxHeartbeats 1000000
namespace Dl
open PySem PySem.Spec PyProof.Rows L2

/-! ### statements -/
structure DEnds where
  nx : DEnv → Nat → Prop
  rt : D → Nat → Prop
  bk : DEnv → Nat → Prop := fun _ _ => False
  ct : DEnv → Nat → Prop := fun _ _ => False
abbrev DTS := DEnds → DEnv → Nat → Prop
structure EndsOk (P : Addr) (H0 : Hp) (fr : List (V × D)) (av : List Addr) (Dd : DEnds) (E : Ends) : Prop where
  nx : ∀ σ' H' Δ' n', StR P H0 fr av n' σ' Δ' H' → Dd.nx Δ' n' → E.nx σ' H'
  rt : ∀ v H' d n', SameP P H0 H' → PenOk P n' H' → Rp P (fun a => H0 a = none) H' v d → Dd.rt d n' → E.rt v H'
  bk : ∀ σ' H' Δ' n', StR P H0 fr av n' σ' Δ' H' → Dd.bk Δ' n' → E.bk σ' H'
  ct : ∀ σ' H' Δ' n', StR P H0 fr av n' σ' Δ' H' → Dd.ct Δ' n' → E.ct σ' H'
def liftS (t : DTS) : TS := fun E σ H => ∃ P H0 fr av n Δ Dd, StR P H0 fr av n σ Δ H ∧ t Dd Δ n ∧ EndsOk P H0 fr av Dd E
abbrev DS (X : Cx) (st : Stmt) (t : DTS) : Prop := PS X st (liftS t)
abbrev DSs (X : Cx) (st : List Stmt) (t : DTS) : Prop := PSs X st (liftS t)
def tNextD : DTS := fun Dd Δ n => Dd.nx Δ n
def tSeqD (t u : DTS) : DTS := fun Dd Δ n => t { Dd with nx := u Dd } Δ n
def tBreakD : DTS := fun Dd Δ n => Dd.bk Δ n
def tContD : DTS := fun Dd Δ n => Dd.ct Δ n
def tDropD (te : DTE) : DTS := fun Dd Δ n => te .bor Δ n fun _ n1 => Dd.nx Δ n1
def tRetD (te : DTE) : DTS := fun Dd Δ n => te .ret Δ n Dd.rt
def tRetND : DTS := fun Dd _ n => Dd.rt .non n
def tIfSD (c : DTT) (t u : DTS) : DTS := fun Dd Δ n => c Δ n fun b n1 => if b = true then t Dd Δ n1 else u Dd Δ n1
section
variable {X : Cx} {st : Stmt} {rest : List Stmt} {t u : DTS} {e : Expr} {te : DTE} {pos : Pos}
theorem dss_nil : DSs X [] tNextD := wkSs pss_nil fun E σ H ⟨P, H0, fr, av, n, Δ, Dd, S, h, k⟩ => k.nx _ _ _ _ S h
theorem dss_cons (h1 : DS X st t) (h2 : DSs X rest u) : DSs X (st :: rest) (tSeqD t u) :=
  wkSs (pss_cons h1 h2) fun E σ H ⟨P, H0, fr, av, n, Δ, Dd, S, h, k⟩ =>
    ⟨P, H0, fr, av, n, Δ, _, S, h, ⟨fun σ' H' Δ' n' S' q => ⟨P, H0, fr, av, n', Δ', Dd, S', q, k⟩, k.rt, k.bk, k.ct⟩⟩
theorem dss_one (h1 : DS X st t) : DSs X [st] t := pss_one h1
theorem ds_pass : DS X (.Pass pos) tNextD := wkS ps_pass fun E σ H ⟨P, H0, fr, av, n, Δ, Dd, S, h, k⟩ => k.nx _ _ _ _ S h
theorem ds_break : DS X (.Break pos) tBreakD := wkS ps_break fun E σ H ⟨P, H0, fr, av, n, Δ, Dd, S, h, k⟩ => k.bk _ _ _ _ S h
theorem ds_continue : DS X (.Continue pos) tContD := wkS ps_continue fun E σ H ⟨P, H0, fr, av, n, Δ, Dd, S, h, k⟩ => k.ct _ _ _ _ S h
theorem ds_expr (he : DE X e te) (hs : swapsWith e none pos.line X.env = pure false := by rfl) : DS X (.Expr e pos) (tDropD te) :=
  wkS (ps_expr he hs) fun E σ H ⟨P, H0, fr, av, n, Δ, Dd, S, h, k⟩ => lift_at (B := H) .bor S (SameP.refl P H) h fun v H1 d n1 s1 S1 r1 q1 => k.nx _ _ _ _ S1 q1
theorem ds_ret (he : DE X e te) : DS X (.Return (some e) pos) (tRetD te) :=
  wkS (ps_ret he) fun E σ H ⟨P, H0, fr, av, n, Δ, Dd, S, h, k⟩ => lift_at (B := H) .ret S (SameP.refl P H) h fun v H1 d n1 s1 S1 r1 q1 =>
    k.rt v H1 d n1 S1.same S1.pen (r1.imp fun a o _ z => z.2) q1
theorem ds_retN : DS X (.Return none pos) tRetND := wkS ps_retN fun E σ H ⟨P, H0, fr, av, n, Δ, Dd, S, h, k⟩ => k.rt _ H _ n S.same S.pen .non h
theorem ds_if {c : Expr} {a b : List Stmt} {tc : DTT} (hc : DT X c tc) (ha : DSs X a t) (hb : DSs X b u) : DS X (.If c a b pos) (tIfSD tc t u) :=
  wkS (ps_if hc ha hb) fun E σ H ⟨P, H0, fr, av, n, Δ, Dd, S, h, k⟩ => liftT_at S h fun v H1 n1 s1 S1 q1 => by
    cases v with
    | true => exact ⟨P, H0, fr, av, n1, Δ, Dd, S1, q1, k⟩
    | false => exact ⟨P, H0, fr, av, n1, Δ, Dd, S1, q1, k⟩
end

/-! ### slots set -/
section
variable {P : Addr} {H0 : Hp} {fr : List (V × D)} {av : List Addr} {n n' : Nat} {σ : L2.St} {Δ : DEnv} {H H' : Hp}
theorem StR.lt (S : StR P H0 fr av n σ Δ H) (i : Nat) : i < σ.length ↔ i < Δ.length := by rw [S.len]
theorem no_setF {v : V} {d : D} {i : Nat} (hl : σ.length = Δ.length) (a : Addr) (h : NO av σ Δ a) : NO av (σ.set i (some v)) (Δ.set i (some (.frz d))) a := by
  refine ⟨h.1, fun j ds e => ?_⟩
  by_cases hj : i = j
  · subst hj
    rw [List.getElem?_set] at e
    simp only [if_true] at e
    split at e <;> cases e
  · rw [List.getElem?_set_ne hj] at e ⊢
    exact h.2 j ds e
theorem StR.setF (S : StR P H0 fr av n σ Δ H) {v : V} {d : D} (i : Nat) (r : Rp P (NO av σ Δ) H v d) : StR P H0 fr av n (σ.set i (some v)) (Δ.set i (some (.frz d))) H where
  p0 := S.p0
  pc := S.pc
  same := S.same
  pen := S.pen
  len := by rw [List.length_set, List.length_set, S.len]
  frz := fun j e h => by
    by_cases hj : i = j
    · subst hj
      have hi : i < Δ.length := by
        rw [List.getElem?_set] at h
        simp only [if_true] at h
        split at h
        · assumption
        · cases h
      rw [List.getElem?_set_self hi] at h
      cases h
      exact ⟨v, List.getElem?_set_self (by rw [S.len]; exact hi), r.imp fun a _ _ z => no_setF S.len a z⟩
    · rw [List.getElem?_set_ne hj] at h ⊢
      obtain ⟨u, h1, h2⟩ := S.frz j e h
      exact ⟨u, h1, h2.imp fun a _ _ z => no_setF S.len a z⟩
  own := fun j ds h => by
    by_cases hj : i = j
    · subst hj
      rw [List.getElem?_set] at h
      simp only [if_true] at h
      split at h <;> cases h
    · rw [List.getElem?_set_ne hj] at h ⊢
      obtain ⟨p, vs, h1, h2, h3, h4, h5⟩ := S.own j ds h
      exact ⟨p, vs, h1, h2, h3, h4, h5.imp fun a _ _ z => no_setF S.len a z⟩
  dis := fun j l p dj dl h1 h2 h3 h4 => by
    by_cases hj : i = j
    · subst hj
      rw [List.getElem?_set] at h1
      simp only [if_true] at h1
      split at h1 <;> cases h1
    · by_cases hl : i = l
      · subst hl
        rw [List.getElem?_set] at h2
        simp only [if_true] at h2
        split at h2 <;> cases h2
      · rw [List.getElem?_set_ne hj] at h1 h3
        rw [List.getElem?_set_ne hl] at h2 h4
        exact S.dis j l p dj dl h1 h2 h3 h4
  gh := fun g hg => (S.gh g hg).imp fun a _ _ z => no_setF S.len a z
  avn := S.avn
/-- a new list that this slot alone is to hold -/
theorem StR.setO (S : StR P H0 fr av n σ Δ H) (s : SameP P H H') (pe : PenOk P n' H') {p : Addr} {vs : List V} {ds : List D} (i : Nat) (hp : H p = none) (hp' : H' p = some (.lst vs)) (hf : flatAll ds = true) {A : Addr → Prop} (r : RpAll P A H' vs ds) :
    StR P H0 fr av n' (σ.set i (some (.ref p))) (Δ.set i (some (.own ds))) H' := by
  have no : ∀ a, NO av σ Δ a → a ≠ p → NO av (σ.set i (some (.ref p))) (Δ.set i (some (.own ds))) a := fun a h ne => by
    refine ⟨h.1, fun j es e => ?_⟩
    by_cases hj : i = j
    · subst hj
      intro z
      by_cases hi : i < σ.length
      · rw [List.getElem?_set_self hi] at z
        exact ne (by cases z; rfl)
      · rw [List.getElem?_eq_none (by rw [List.length_set]; omega)] at z
        cases z
    · rw [List.getElem?_set_ne hj] at e ⊢
      exact h.2 j es e
  have up : ∀ {v : V} {d : D}, Rp P (NO av σ Δ) H v d → Rp P (NO av (σ.set i (some (.ref p))) (Δ.set i (some (.own ds)))) H' v d := fun {v d} q =>
    ((q.imp (A' := fun a => NO av σ Δ a ∧ a ≠ p) fun a o e z => ⟨z, ne_of_none e hp⟩).same s).imp fun a _ _ z => no a z.1 z.2
  have ups : ∀ {v : List V} {d : List D}, RpAll P (NO av σ Δ) H v d → RpAll P (NO av (σ.set i (some (.ref p))) (Δ.set i (some (.own ds)))) H' v d := fun {v d} q =>
    ((q.imp (A' := fun a => NO av σ Δ a ∧ a ≠ p) fun a o e z => ⟨z, ne_of_none e hp⟩).same s).imp fun a _ _ z => no a z.1 z.2
  have S' := S.mono s pe
  refine ⟨S.p0, S.pc, S'.same, pe, by rw [List.length_set, List.length_set, S.len], fun j e h => ?_, fun j es h => ?_, fun j l q dj dl h1 h2 h3 h4 => ?_, fun g hg => up (S.gh g hg), S'.avn⟩
  · by_cases hj : i = j
    · subst hj
      rw [List.getElem?_set] at h
      simp only [if_true] at h
      split at h <;> cases h
    · rw [List.getElem?_set_ne hj] at h ⊢
      obtain ⟨u, h1, h2⟩ := S.frz j e h
      exact ⟨u, h1, up h2⟩
  · by_cases hj : i = j
    · subst hj
      have hi : i < Δ.length := by
        rw [List.getElem?_set] at h
        simp only [if_true] at h
        split at h
        · assumption
        · cases h
      rw [List.getElem?_set_self hi] at h
      cases h
      refine ⟨p, vs, List.getElem?_set_self (by rw [S.len]; exact hi), fun z => S.avn p z hp, S.old hp, hp', RpAll.flat _ _ hf r⟩
    · rw [List.getElem?_set_ne hj] at h ⊢
      obtain ⟨q, us, h1, h2, h3, h4, h5⟩ := S.own j es h
      exact ⟨q, us, h1, h2, h3, s _ _ h4 (fun z => S.p0 (z ▸ h3)), ups h5⟩
  · have key : ∀ (k : Nat) (dk : List D), i ≠ k → Δ[k]? = some (some (SV.own dk)) → σ[k]? = some (some (V.ref q)) → q ≠ p := fun k dk hk e1 e2 z => by
      obtain ⟨q', us, g1, g2, g3, g4, g5⟩ := S.own k dk e1
      rw [e2] at g1
      cases g1
      rw [z, hp] at g4
      cases g4
    have at_i : ∀ {x : Option V}, (σ.set i (some (V.ref p)))[i]? = some x → x = some (V.ref p) := fun {x} z => by
      by_cases hi : i < σ.length
      · rw [List.getElem?_set_self hi] at z; cases z; rfl
      · rw [List.getElem?_eq_none (by rw [List.length_set]; omega)] at z; cases z
    by_cases hj : i = j
    · by_cases hl : i = l
      · exact hj.symm.trans hl
      · rw [List.getElem?_set_ne hl] at h2 h4
        rw [← hj] at h3
        have e := at_i h3
        cases e
        exact absurd rfl (key l dl hl h2 h4)
    · by_cases hl : i = l
      · rw [List.getElem?_set_ne hj] at h1 h3
        rw [← hl] at h4
        have e := at_i h4
        cases e
        exact absurd rfl (key j dj hj h1 h3)
      · rw [List.getElem?_set_ne hj] at h1 h3
        rw [List.getElem?_set_ne hl] at h2 h4
        exact S.dis j l q dj dl h1 h2 h3 h4
/-- the list that a slot alone holds is changed -/
theorem StR.wr (S : StR P H0 fr av n σ Δ H) {p : Addr} {vs : List V} {ds es : List D} {i : Nat} (hi : Δ[i]? = some (some (SV.own ds))) (hp : σ[i]? = some (some (V.ref p))) (r : RpAll P (NO av σ Δ) H vs es) :
    StR P H0 fr av n σ (Δ.set i (some (.own es))) (upd H p (.lst vs)) := by
  obtain ⟨q, us, h1, h2, h3, h4, h5⟩ := S.own i ds hi
  rw [hp] at h1
  cases h1
  have il : i < Δ.length := (List.getElem?_eq_some_iff.mp hi).1
  have no : ∀ a, NO av σ Δ a → NO av σ (Δ.set i (some (.own es))) a := fun a h => by
    refine ⟨h.1, fun j fs e => ?_⟩
    by_cases hj : i = j
    · subst hj
      exact h.2 i ds hi
    · rw [List.getElem?_set_ne hj] at e
      exact h.2 j fs e
  have st : Stay P (NO av σ Δ) (NO av σ (Δ.set i (some (.own es)))) H (upd H p (.lst vs)) := by
    refine ⟨fun a xs e _ => by rw [upd_ne (ne_of e h4 (by intro z; cases z))]; exact e, fun a o e _ z => ?_⟩
    have ne : a ≠ p := fun y => by subst y; exact z.2 i ds hi hp
    exact ⟨by rw [upd_ne ne]; exact e, no a z⟩
  have np : p ≠ P := fun z => S.p0 (z ▸ h3)
  refine ⟨S.p0, S.pc, ⟨fun a o e ne => ?_, fun c t r e => ?_⟩, ?_, by rw [List.length_set, S.len], fun j e h => ?_, fun j fs h => ?_, fun j l q dj dl g1 g2 g3 g4 => ?_, fun g hg => Rp.stay st _ _ (S.gh g hg), fun a ha => ?_⟩
  · rw [upd_ne (ne_of_none e h3)]
    exact S.same a o e ne
  · rw [upd_ne (Ne.symm np)]
    exact S.same.cel c t r e
  · obtain ⟨c, t, r', cells, k1, k2, k3, k4⟩ := S.pen
    refine ⟨c, t, r', cells, by rw [upd_ne (Ne.symm np)]; exact k1, ?_, k3, k4⟩
    have : c ≠ p := fun z => by
      obtain ⟨c', t1, r1, e1, e2, e3⟩ := S.pc
      obtain ⟨t2, r2, e4⟩ := S.same.cel c' t1 r1 e1
      rw [k1] at e4
      cases e4
      exact e2 (z ▸ h3)
    rw [upd_ne this]; exact k2
  · by_cases hj : i = j
    · subst hj
      rw [List.getElem?_set_self il] at h
      cases h
    · rw [List.getElem?_set_ne hj] at h
      obtain ⟨u, k1, k2⟩ := S.frz j e h
      exact ⟨u, k1, Rp.stay st _ _ k2⟩
  · by_cases hj : i = j
    · subst hj
      rw [List.getElem?_set_self il] at h
      cases h
      exact ⟨p, vs, hp, h2, h3, upd_same, RpAll.stay st _ _ r⟩
    · rw [List.getElem?_set_ne hj] at h
      obtain ⟨q, us', k1, k2, k3, k4, k5⟩ := S.own j fs h
      have nq : q ≠ p := fun z => by
        subst z
        exact hj (S.dis i j q ds fs hi h hp k1)
      exact ⟨q, us', k1, k2, k3, by rw [upd_ne nq]; exact k4, RpAll.stay st _ _ k5⟩
  · have g1' : ∃ d, Δ[j]? = some (some (SV.own d)) := by
      by_cases hj : i = j
      · exact ⟨ds, hj ▸ hi⟩
      · rw [List.getElem?_set_ne hj] at g1; exact ⟨_, g1⟩
    have g2' : ∃ d, Δ[l]? = some (some (SV.own d)) := by
      by_cases hj : i = l
      · exact ⟨ds, hj ▸ hi⟩
      · rw [List.getElem?_set_ne hj] at g2; exact ⟨_, g2⟩
    obtain ⟨d1, g1'⟩ := g1'
    obtain ⟨d2, g2'⟩ := g2'
    exact S.dis j l q d1 d2 g1' g2' g3 g4
  · by_cases z : a = p
    · subst z; exact absurd ha h2
    · rw [upd_ne z]; exact S.avn a ha
end
end Dl

set_option Elab.async false
set_option linter.all false
set_option maxRecDepth 100000
set_option maxHeartbeats 1000000
namespace Dl
open PySem PySem.Spec PyProof.Rows L2

/-! ### x = e -/
def tSetD (i : Nat) (te : DTE) : DTS := fun Dd Δ n => te .frz Δ n fun d n1 => Dd.nx (Δ.set i (some (.frz d))) n1
def tOwnD (i : Nat) (te : DTE) : DTS := fun Dd Δ n => te .new Δ n fun d n1 => match d with | .lst ds => flatAll ds = true ∧ Dd.nx (Δ.set i (some (.own ds))) n1 | _ => False
theorem asg_F {i : Nat} {t : DTE} {te : TE} (w : ∀ σ H Q, lift t σ H Q → te σ H Q) (E : Ends) (σ : L2.St) (H : Hp) (h : liftS (tSetD i t) E σ H) : tAsg te (gName i) E σ H := by
  obtain ⟨P, H0, fr, av, n, Δ, Dd, S, h, k⟩ := h
  exact w _ _ _ (lift_at (B := H) .frz S (SameP.refl P H) h fun v H1 d n1 s1 S1 r1 q1 => k.nx _ _ _ _ (S1.setF i r1) q1)
theorem asg_O {i : Nat} {t : DTE} {te : TE} (w : ∀ σ H Q, lift t σ H Q → te σ H Q) (E : Ends) (σ : L2.St) (H : Hp) (h : liftS (tOwnD i t) E σ H) : tAsg te (gName i) E σ H := by
  obtain ⟨P, H0, fr, av, n, Δ, Dd, S, h, k⟩ := h
  refine w _ _ _ (lift_at (B := H) .new S (SameP.refl P H) h fun v H1 d n1 s1 S1 r1 q1 => ?_)
  cases d <;> first | exact q1.elim | skip
  cases r1 with
  | lst a1 a2 a3 r => exact k.nx _ _ _ _ (S.setO s1 S1.pen i a3.2 a1 q1.1 r) q1.2
section
variable {X : Cx} {i : Nat} {x : Str} {e : Expr} {te : DTE} {pos pos' : Pos}
theorem ds_set (i : Nat) (hN : X.N.Nodup) (he : DE X e te) (hi : X.N[i]? = some x := by rfl) (hx : Loc X.env.scope x := by first | exact Or.inl rfl | exact Or.inr rfl) (hs : swapsWith e (some (.Name x pos')) pos.line X.env = pure false := by rfl) (hf : X.fn x = true ∨ X.env.scope.names.lookup x = some .local := by first | exact .inl rfl | exact .inr rfl) :
    DS X (.Assign [.Name x pos'] e pos) (tSetD i te) := wkS (ps_set hN hi hx he hs hf) (asg_F fun _ _ _ h => h)
theorem ds_own (i : Nat) (hN : X.N.Nodup) (he : DE X e te) (hi : X.N[i]? = some x := by rfl) (hx : Loc X.env.scope x := by first | exact Or.inl rfl | exact Or.inr rfl) (hs : swapsWith e (some (.Name x pos')) pos.line X.env = pure false := by rfl) (hf : X.fn x = true ∨ X.env.scope.names.lookup x = some .local := by first | exact .inl rfl | exact .inr rfl) :
    DS X (.Assign [.Name x pos'] e pos) (tOwnD i te) := wkS (ps_set hN hi hx he hs hf) (asg_O fun _ _ _ h => h)
/-- x op= e -/
def tAugD (i : Nat) (dr : DR2) (te : DTE) : DTS := fun Dd Δ n => match Δ[i]? with
  | some (some (.frz d)) => te .bor Δ n fun y n1 => dr d y fun z => Dd.nx (Δ.set i (some (.frz z))) n1
  | _ => False
theorem ds_aug (i : Nat) {op : Operator} {r : R2} {dr : DR2} (hN : X.N.Nodup) (ho : OpR X (inplaceOp op) r) (sn : Snd2 r dr) (he : DE X e te) (hi : X.N[i]? = some x := by rfl) (hx : Loc X.env.scope x := by first | exact Or.inl rfl | exact Or.inr rfl)
    (hf : X.fn x = true ∨ X.env.scope.names.lookup x = some .local := by first | exact .inl rfl | exact .inr rfl) : DS X (.AugAssign (.Name x pos') op e pos) (tAugD i dr te) :=
  wkS (ps_aug (ti := r) hN hi hx he ho hf) fun E σ H ⟨P, H0, fr, av, n, Δ, Dd, S, h, k⟩ => by
    unfold tAugD at h
    split at h
    · rename_i d e1
      obtain ⟨v, e2, r1⟩ := S.frz _ _ e1
      refine ⟨v, e2, lift_at (B := H) .bor S (SameP.refl P H) h fun u H1 d1 n1 s1 S1 r2 q1 => ?_⟩
      have r2' : Rp P (fun _ => True) H1 u d1 := r2.imp fun _ _ _ _ => trivial
      have r1' : Rp P (fun _ => True) H1 v d := (r1.same s1).imp fun _ _ _ _ => trivial
      exact sn P (NO av σ Δ) _ H1 v u d d1 _ _ S1.pen.some (fun a ha => S1.no_new ha) r1' r2' q1 fun v' H2 z s2 rz qz =>
        k.nx _ _ _ _ ((S1.mono (.of s2) (S1.pen.same s2)).setF i rz) qz
    · exact h.elim
end

/-! ### targets -/
abbrev DTG := D → DEnv → Nat → (DEnv → Nat → Prop) → Prop
abbrev DTGs := List D → DEnv → Nat → (DEnv → Nat → Prop) → Prop
def liftG (g : DTG) : TG := fun v σ H Q => ∃ P H0 fr av n Δ d Qd, StR P H0 fr av n σ Δ H ∧ Rp P (NO av σ Δ) H v d ∧ g d Δ n Qd ∧ ∀ σ' H' Δ' n', StR P H0 fr av n' σ' Δ' H' → Qd Δ' n' → Q σ' H'
def liftGs (g : DTGs) : TGs := fun vs σ H Q => ∃ P H0 fr av n Δ ds Qd, StR P H0 fr av n σ Δ H ∧ RpAll P (NO av σ Δ) H vs ds ∧ g ds Δ n Qd ∧ ∀ σ' H' Δ' n', StR P H0 fr av n' σ' Δ' H' → Qd Δ' n' → Q σ' H'
theorem wkG {X : Cx} {tg : Expr} {t t' : TG} (h : PG X tg t) (w : ∀ v σ H Q, t' v σ H Q → t v σ H Q) : PG X tg t' := ⟨fun pins s σ H v u Q I r q => h.run pins s σ H v u Q I r (w v σ H Q q)⟩
theorem wkGs {X : Cx} {tg : List Expr} {t t' : TGs} (h : PGs X tg t) (w : ∀ v σ H Q, t' v σ H Q → t v σ H Q) : PGs X tg t' := ⟨fun pins s σ H v u Q I r q => h.run pins s σ H v u Q I r (w v σ H Q q)⟩
def gNameD (i : Nat) : DTG := fun d Δ n Q => Q (Δ.set i (some (.frz d))) n
def gNilD : DTGs := fun ds Δ n Q => match ds with | [] => Q Δ n | _ => False
def gConsD (g : DTG) (gs : DTGs) : DTGs := fun ds Δ n Q => match ds with | d :: r => g d Δ n fun Δ1 n1 => gs r Δ1 n1 Q | _ => False
def gTupD (k : Nat) (gs : DTGs) : DTG := fun d Δ n Q => match d with | .tup ds => ds.length = k ∧ gs ds Δ n Q | _ => False
theorem StR.unfr {P : Addr} {H0 : Hp} {fr gs : List (V × D)} {av : List Addr} {n : Nat} {σ : L2.St} {Δ : DEnv} {H : Hp} (S : StR P H0 (gs ++ fr) av n σ Δ H) : StR P H0 fr av n σ Δ H :=
  ⟨S.p0, S.pc, S.same, S.pen, S.len, S.frz, S.own, S.dis, fun g hg => S.gh g (List.mem_append_right _ hg), S.avn⟩
theorem StR.infr {P : Addr} {H0 : Hp} {fr gs : List (V × D)} {av : List Addr} {n : Nat} {σ : L2.St} {Δ : DEnv} {H : Hp} (S : StR P H0 fr av n σ Δ H) (h : ∀ g ∈ gs, Rp P (NO av σ Δ) H g.1 g.2) : StR P H0 (gs ++ fr) av n σ Δ H :=
  ⟨S.p0, S.pc, S.same, S.pen, S.len, S.frz, S.own, S.dis, fun g hg => (List.mem_append.mp hg).elim (h g) (S.gh g), S.avn⟩
theorem rp_zip {P : Addr} {A : Addr → Prop} {H : Hp} : ∀ {vs : List V} {ds : List D}, RpAll P A H vs ds → ∀ g ∈ vs.zip ds, Rp P A H g.1 g.2
  | _, _, .nil, g, h => by simp at h
  | v :: vs, d :: ds, .cons r t, g, h => by
    rcases List.mem_cons.mp (show g ∈ (v, d) :: vs.zip ds from h) with e | h
    · subst e; exact r
    · exact rp_zip t g h
theorem rp_unzip {P : Addr} {A A' : Addr → Prop} {H H' : Hp} : ∀ {vs : List V} {ds : List D}, RpAll P A H vs ds → (∀ g ∈ vs.zip ds, Rp P A' H' g.1 g.2) → RpAll P A' H' vs ds
  | _, _, .nil, h => .nil
  | v :: vs, d :: ds, .cons r t, h => .cons (h (v, d) (List.mem_cons_self ..)) (rp_unzip t fun g hg => h g (List.mem_cons_of_mem _ hg))
section
variable {X : Cx} {pos : Pos}
theorem dg_name (i : Nat) {x : Str} (hN : X.N.Nodup) (hi : X.N[i]? = some x := by rfl) (hx : Loc X.env.scope x := by first | exact Or.inl rfl | exact Or.inr rfl) (hf : X.fn x = true ∨ X.env.scope.names.lookup x = some .local := by first | exact .inl rfl | exact .inr rfl) : PG X (.Name x pos) (liftG (gNameD i)) :=
  wkG (pg_name hN hi hx hf) fun v σ H Q ⟨P, H0, fr, av, n, Δ, d, Qd, S, r, h, k⟩ => k _ _ _ _ (S.setF i r) h
theorem dgs_nil : PGs X [] (liftGs gNilD) := wkGs pgs_nil fun v σ H Q ⟨P, H0, fr, av, n, Δ, ds, Qd, S, r, h, k⟩ => by
  cases ds with
  | nil => cases r; exact ⟨rfl, k _ _ _ _ S h⟩
  | cons => exact h.elim
theorem dgs_cons {e : Expr} {es : List Expr} {g : DTG} {gs : DTGs} (h1 : PG X e (liftG g)) (h2 : PGs X es (liftGs gs))
    (hs : (assignEach (e :: es) X.env).map (·.2) = assign e X.env :: (assignEach es X.env).map (·.2) := by rfl) : PGs X (e :: es) (liftGs (gConsD g gs)) :=
  wkGs (pgs_cons h1 h2 hs) fun vs σ H Q ⟨P, H0, fr, av, n, Δ, ds, Qd, S, r, h, k⟩ => by
    cases ds with
    | nil => exact h.elim
    | cons d ds =>
      cases r with
      | @cons v0 vs0 _ _ r1 r2 =>
        refine ⟨v0, vs0, rfl, P, H0, vs0.zip ds ++ fr, av, n, Δ, d, _, S.infr (rp_zip r2), r1, h, fun σ' H' Δ' n' S' q => ?_⟩
        exact ⟨P, H0, fr, av, n', Δ', ds, Qd, S'.unfr, rp_unzip r2 fun g hg => S'.gh g (List.mem_append_left _ hg), q, k⟩
theorem dg_tup {es : List Expr} {k : Nat} {gs : DTGs} {n : Nat} (hc : X.calm = true) (h : PGs X es (liftGs gs))
    (hn : (assignEach es X.env).length = n := by rfl) (hst : (assignEach es X.env).findIdx? (·.1) = none := by rfl) : PG X (.Tuple es k pos) (liftG (gTupD n gs)) :=
  wkG (pg_tup hc h hn hst) fun v σ H Q ⟨P, H0, fr, av, n, Δ, d, Qd, S, r, h, k⟩ => by
    cases d <;> first | exact h.elim | skip
    cases r with
    | tup a1 a2 r => exact ⟨_, _, rfl, SqT.of a1, by rw [r.length]; exact h.1, P, H0, fr, av, n, Δ, _, Qd, S, r, h.2, k⟩
def tAsgD (te : DTE) (g : DTG) : DTS := fun Dd Δ n => te .frz Δ n fun d n1 => g d Δ n1 Dd.nx
theorem ds_asg {tg e : Expr} {te : DTE} {g : DTG} (he : DE X e te) (hg : PG X tg (liftG g)) (hs : swapsWithSole [tg] e pos.line X.env = pure false := by rfl) (hw : swappedStores [tg] e X.env = pure none := by rfl)
    (h1 : (assignEach [tg] X.env).map (·.2) = [assign tg X.env] := by rfl) : DS X (.Assign [tg] e pos) (tAsgD te g) :=
  wkS (ps_asg he hg hs hw h1) fun E σ H ⟨P, H0, fr, av, n, Δ, Dd, S, h, k⟩ => lift_at (B := H) .frz S (SameP.refl P H) h fun v H1 d n1 s1 S1 r1 q1 =>
    ⟨P, H0, fr, av, n1, Δ, d, _, S1, r1, q1, fun σ' H' Δ' n' S' q => k.nx _ _ _ _ S' q⟩
/-- a, b = x, y -/
def tParD (i j : Nat) (ta : DTA) : DTS := fun Dd Δ n => ta .frz Δ n fun ds n1 => match ds with | [d, e] => Dd.nx ((Δ.set i (some (.frz d))).set j (some (.frz e))) n1 | _ => False
theorem ds_par (i j : Nat) {x y : Str} {a b : Expr} {ta : DTA} {px py pt : Pos} {kt k2 pt2} (hc : X.calm = true) (hN : X.N.Nodup) (ha : DA X [a, b] ta) (hi : X.N[i]? = some x := by rfl) (hj : X.N[j]? = some y := by rfl) (hij : i ≠ j := by decide)
    (hx : X.env.scope.names.lookup x = some .local := by rfl) (hy : X.env.scope.names.lookup y = some .local := by rfl)
    (hw : swappedStores [.Tuple [.Name x px, .Name y py] kt pt] (.Tuple [a, b] k2 pt2) X.env = pure (some [x, y]) := by rfl)
    (hs : swapsWithSole [.Tuple [.Name x px, .Name y py] kt pt] (.Tuple [a, b] k2 pt2) pos.line X.env = pure false := by rfl) :
    DS X (.Assign [.Tuple [.Name x px, .Name y py] kt pt] (.Tuple [a, b] k2 pt2) pos) (tParD i j ta) :=
  wkS (ps_par hc hN hi hj hij hx hy ha hw hs) fun E σ H ⟨P, H0, fr, av, n, Δ, Dd, S, h, k⟩ => liftA_at (B := H) .frz S (SameP.refl P H) h fun vs H1 ds n1 s1 S1 r1 q1 => by
    match ds, r1, q1 with
    | [d, e], .cons r1 (.cons r2 .nil), q1 =>
      have S2 := (S1.infr (gs := [(_, e)]) (fun g hg => by cases List.mem_singleton.mp hg; exact r2)).setF i r1
      exact ⟨_, _, rfl, k.nx _ _ _ _ (S2.setF j (S2.gh _ (List.mem_append_left _ (List.mem_singleton.mpr rfl)))).unfr q1⟩
end

/-! ### lists that a slot alone holds: append, extend, insert, pop, x[i] = e -/
theorem StR.at_own {P : Addr} {H0 : Hp} {fr : List (V × D)} {av : List Addr} {n : Nat} {σ : L2.St} {Δ : DEnv} {H : Hp} {i : Nat} {ds : List D} (S : StR P H0 fr av n σ Δ H) (h : Δ[i]? = some (some (SV.own ds))) :
    ∃ p vs, σ[i]? = some (some (V.ref p)) ∧ p ≠ P ∧ H p = some (.lst vs) ∧ RpAll P (NO av σ Δ) H vs ds := by
  obtain ⟨p, vs, h1, h2, h3, h4, h5⟩ := S.own i ds h
  exact ⟨p, vs, h1, fun z => S.p0 (z ▸ h3), h4, h5⟩
section
variable {X : Cx} {pos apos px : Pos} {x : Str} {e e2 : Expr} {te te2 : DTE}
def tAppD (i : Nat) (te : DTE) : DTS := fun Dd Δ n => match Δ[i]? with
  | some (some (.own ds)) => te .frz Δ n fun d n1 => ds.length < sizeLine ∧ Dd.nx (Δ.set i (some (.own (ds ++ [d])))) n1
  | _ => False
theorem ds_app {i : Nat} (he : PE X e (tBM X.K "list" rAppend (tVar i) (tCons (lift te) tNil))) (hsw : swapsWith e none pos.line X.env = pure false := by rfl) : DS X (.Expr e pos) (tAppD i te) :=
  wkS (ps_expr he hsw) fun E σ H ⟨P, H0, fr, av, n, Δ, Dd, S, h, k⟩ => by
    unfold tAppD at h
    split at h
    · rename_i ds e1
      obtain ⟨p, vs, e2, np, e3, r⟩ := S.at_own e1
      refine ⟨_, e2, .inl ⟨rfl, _, SqL.of e3⟩, lift_at (B := H) .frz S (SameP.refl P H) h fun v H1 d n1 s1 S1 r1 q1 => ?_⟩
      refine ⟨p, vs, v, rfl, rfl, s1 _ _ e3 np, by rw [r.length]; exact q1.1, ?_⟩
      exact k.nx _ _ _ _ (S1.wr e1 e2 ((r.same s1).append (.cons r1 .nil))) q1.2
    · exact h.elim
def tExtD (i : Nat) (te : DTE) : DTS := fun Dd Δ n => match Δ[i]? with
  | some (some (.own ds)) => te .bor Δ n fun d n1 => match d with | .lst es => ds.length + es.length ≤ sizeLine ∧ flatAll es = true ∧ Dd.nx (Δ.set i (some (.own (ds ++ es)))) n1 | _ => False
  | _ => False
theorem ds_ext {i : Nat} (he : PE X e (tBM X.K "list" rExtend (tVar i) (tCons (lift te) tNil))) (hsw : swapsWith e none pos.line X.env = pure false := by rfl) : DS X (.Expr e pos) (tExtD i te) :=
  wkS (ps_expr he hsw) fun E σ H ⟨P, H0, fr, av, n, Δ, Dd, S, h, k⟩ => by
    unfold tExtD at h
    split at h
    · rename_i ds e1
      obtain ⟨p, vs, e2, np, e3, r⟩ := S.at_own e1
      refine ⟨_, e2, .inl ⟨rfl, _, SqL.of e3⟩, lift_at (B := H) .bor S (SameP.refl P H) h fun v H1 d n1 s1 S1 r1 q1 => ?_⟩
      cases d <;> first | exact q1.elim | skip
      cases r1 with
      | lst a1 a2 a3 r2 =>
        refine ⟨p, _, vs, _, rfl, rfl, s1 _ _ e3 np, a1, by rw [r.length, r2.length]; exact q1.1, ?_⟩
        exact k.nx _ _ _ _ (S1.wr e1 e2 ((r.same s1).append (RpAll.flat _ _ q1.2.1 r2))) q1.2.2
    · exact h.elim
def rInsert : V → List V → Hp → VK → Prop := fun x vs H Q => ∃ (l : Addr) (xs : List V) (i : Int) (y : V), x = .ref l ∧ vs = [.int i, y] ∧ H l = some (.lst xs) ∧ xs.length < sizeLine ∧ 0 ≤ i ∧ i < 2 ^ 63 ∧
    Q .non (upd H l (.lst (xs.take i.toNat ++ [y] ++ xs.drop i.toNat)))
def tInsD (i : Nat) (ti te : DTE) : DTS := fun Dd Δ n => match Δ[i]? with
  | some (some (.own ds)) => ti .frz Δ n fun k n0 => te .frz Δ n0 fun d n1 => match k with | .int z => ds.length < sizeLine ∧ 0 ≤ z ∧ z < 2 ^ 63 ∧ Dd.nx (Δ.set i (some (.own (ds.take z.toNat ++ [d] ++ ds.drop z.toNat)))) n1 | _ => False
  | _ => False
theorem ds_ins {i : Nat} (he : PE X e (tBM X.K "list" rInsert (tVar i) (tCons (lift te) (tCons (lift te2) tNil)))) (hsw : swapsWith e none pos.line X.env = pure false := by rfl) : DS X (.Expr e pos) (tInsD i te te2) :=
  wkS (ps_expr he hsw) fun E σ H ⟨P, H0, fr, av, n, Δ, Dd, S, h, k⟩ => by
    unfold tInsD at h
    split at h
    · rename_i ds e1
      obtain ⟨p, vs, e2, np, e3, r⟩ := S.at_own e1
      refine ⟨_, e2, .inl ⟨rfl, _, SqL.of e3⟩, lift_at (B := H) .frz S (SameP.refl P H) h fun v H1 d n1 s1 S1 r1 q1 => ?_⟩
      refine lift_at (B := H1) .frz S1 (SameP.refl P H1) q1 fun v2 H2 d2 n2 s2 S2 r2 q2 => ?_
      cases d <;> first | exact q2.elim | skip
      cases r1
      have s12 := s1.trans s2
      refine ⟨p, vs, _, v2, rfl, rfl, s12 _ _ e3 np, by rw [r.length]; exact q2.1, q2.2.1, q2.2.2.1, ?_⟩
      exact k.nx _ _ _ _ (S2.wr e1 e2 ((((r.same s12).take _).append (.cons r2 .nil)).append ((r.same s12).drop _))) q2.2.2.2
    · exact h.elim
/-- x[k] = e -/
def tStD (i : Nat) (tk te : DTE) : DTS := fun Dd Δ n => te .frz Δ n fun d n1 => match Δ[i]? with
  | some (some (.own ds)) => tk .bor Δ n1 fun k n2 => match k with | .int z => ∃ j, ixN ds.length z = some j ∧ Dd.nx (Δ.set i (some (.own (ds.set j d)))) n2 | _ => False
  | _ => False
theorem ds_st {tg : Expr} {i : Nat} (hp : PS X (.Assign [tg] e pos) (tAsg (lift te) (gSub (tVar i) (lift te2) rSetL))) : DS X (.Assign [tg] e pos) (tStD i te2 te) :=
  wkS hp fun E σ H ⟨P, H0, fr, av, n, Δ, Dd, S, h, k⟩ => lift_at (B := H) .frz S (SameP.refl P H) h fun v H1 d n1 s1 S1 r1 q1 => by
    split at q1
    · rename_i ds e1
      obtain ⟨p, vs, e2, np, e3, r⟩ := S1.at_own e1
      refine ⟨_, e2, lift_at (B := H1) .bor S1 (SameP.refl P H1) q1 fun v2 H2 d2 n2 s2 S2 r2 q2 => ?_⟩
      cases d2 <;> first | exact q2.elim | skip
      cases r2
      obtain ⟨j, g1, g2⟩ := q2
      refine ⟨p, vs, _, j, rfl, rfl, s2 _ _ e3 np, by rw [r.length]; exact g1, ?_⟩
      exact k.nx _ _ _ _ (S2.wr e1 e2 (RpAll.set (r1.same s2) j (r.same s2))) g2
    · exact q1.elim
/-- from now on the list stays as it is -/
def tFrzD (i : Nat) (t : DTS) : DTS := fun Dd Δ n => match Δ[i]? with
  | some (some (.own ds)) => t Dd (Δ.set i (some (.frz (.lst ds)))) n
  | _ => False
theorem StR.fz {P : Addr} {H0 : Hp} {fr : List (V × D)} {av : List Addr} {n : Nat} {σ : L2.St} {Δ : DEnv} {H : Hp} {i : Nat} {ds : List D} (S : StR P H0 fr av n σ Δ H) (h : Δ[i]? = some (some (SV.own ds))) : StR P H0 fr av n σ (Δ.set i (some (.frz (.lst ds)))) H := by
  have no : ∀ a, NO av σ Δ a → NO av σ (Δ.set i (some (.frz (.lst ds)))) a := fun a z => ⟨z.1, fun j es e => by
    by_cases hj : i = j
    · subst hj
      rw [List.getElem?_set] at e
      simp only [if_true] at e
      split at e <;> cases e
    · rw [List.getElem?_set_ne hj] at e
      exact z.2 j es e⟩
  have il : i < Δ.length := (List.getElem?_eq_some_iff.mp h).1
  have own : ∀ {j : Nat} {es : List D}, (Δ.set i (some (SV.frz (.lst ds))))[j]? = some (some (SV.own es)) → i ≠ j ∧ Δ[j]? = some (some (SV.own es)) := fun {j es} e => by
    by_cases hj : i = j
    · subst hj
      rw [List.getElem?_set] at e
      simp only [if_true] at e
      split at e <;> cases e
    · rw [List.getElem?_set_ne hj] at e
      exact ⟨hj, e⟩
  refine ⟨S.p0, S.pc, S.same, S.pen, by rw [List.length_set, S.len], fun j d e => ?_, fun j es e => ?_, fun j l q dj dl e1 e2 e3 e4 => S.dis j l q dj dl (own e1).2 (own e2).2 e3 e4, fun g hg => (S.gh g hg).imp fun a _ _ z => no a z, S.avn⟩
  · by_cases hj : i = j
    · subst hj
      rw [List.getElem?_set_self il] at e
      cases e
      obtain ⟨p, vs, k1, k2, k3, k4, k5⟩ := S.own _ _ h
      refine ⟨_, k1, .lst k4 (fun z => S.p0 (z ▸ k3)) ⟨k2, fun j es e z => ?_⟩ (k5.imp fun a _ _ z => no a z)⟩
      obtain ⟨hj, e'⟩ := own e
      exact hj (S.dis _ _ _ _ _ h e' k1 z)
    · rw [List.getElem?_set_ne hj] at e
      obtain ⟨v, k1, k2⟩ := S.frz j d e
      exact ⟨v, k1, k2.imp fun a _ _ z => no a z⟩
  · obtain ⟨hj, e'⟩ := own e
    obtain ⟨p, vs, k1, k2, k3, k4, k5⟩ := S.own j es e'
    exact ⟨p, vs, k1, k2, k3, k4, k5.imp fun a _ _ z => no a z⟩
theorem dss_frz {sts : List Stmt} {t : DTS} (i : Nat) (h : DSs X sts t) : DSs X sts (tFrzD i t) := wkSs h fun E σ H ⟨P, H0, fr, av, n, Δ, Dd, S, h, k⟩ => by
  unfold tFrzD at h
  split at h
  · rename_i ds e
    exact ⟨P, H0, fr, av, n, _, Dd, S.fz e, h, k⟩
  · exact h.elim
end
end Dl

set_option Elab.async false
set_option linter.all false
set_option maxRecDepth 100000
set_option maxHeartbeats 1000000
namespace Dl
open PySem PySem.Spec PyProof.Rows L2

/-! ### what is walked -/
def Goes (P : Addr) (J : It) (gs : List (V × D)) (items : List D) : Prop := ∀ (H : Hp) (A : Addr → Prop), H P ≠ none → (∀ a, H a = none → A a) → (∀ g ∈ gs, Rp P A H g.1 g.2) →
  ∀ i : Nat, (items.length ≤ i → J.stop i H) ∧ ∀ it, items[i]? = some it → J.go i H ∧ ∀ x H', J.yld i H x H' → Same H H' ∧ Rp P A H' x it
abbrev DTI := Md → DEnv → Nat → (List D → Nat → Prop) → Prop
def liftI (t : DTI) : TI := fun σ H R => ∃ P H0 fr av n Δ m Qd, StR P H0 fr av n σ Δ H ∧ t m Δ n Qd ∧
  ∀ J H' gs items n', SameP P H H' → PenOk P n' H' → (∀ g ∈ gs, Rp P (Al m H H0 av σ Δ) H' g.1 g.2) → Goes P J gs items → items.length ≤ 2 ^ 62 → Qd items n' → R J H'
abbrev DI (X : Cx) (tg e : Expr) (t : DTI) : Prop := PI X tg e (liftI t)
theorem sz62 {n : Nat} (h : n ≤ sizeLine) : n ≤ 2 ^ 62 := Nat.le_trans h (by decide)
def tWLst (te : DTE) : DTI := fun m Δ n Q => te m Δ n fun d n1 => match d with | .lst ds => Q ds n1 | _ => False
def tWTup (te : DTE) : DTI := fun m Δ n Q => te m Δ n fun d n1 => match d with | .tup ds => Q ds n1 | _ => False
/-- lo, lo + 1, .. : n of them -/
def rangeD (lo : Int) : Nat → List D
  | 0 => []
  | n + 1 => .int lo :: rangeD (lo + 1) n
theorem rangeD_length : ∀ (n : Nat) (lo : Int), (rangeD lo n).length = n
  | 0, _ => rfl
  | n + 1, lo => by rw [rangeD, List.length_cons, rangeD_length n]
theorem rangeD_get : ∀ (n : Nat) (lo : Int) (i : Nat), i < n → (rangeD lo n)[i]? = some (.int (lo + i))
  | 0, _, _, h => absurd h (Nat.not_lt_zero _)
  | n + 1, lo, 0, _ => by rw [rangeD]; simp
  | n + 1, lo, i + 1, h => by
    rw [rangeD, List.getElem?_cons_succ, rangeD_get n (lo + 1) i (by omega)]
    congr 2
    omega
def tWRng1 (te : DTE) : DTI := fun _ Δ n Q => te .bor Δ n fun d n1 => match d with | .int j => -(2 ^ 62) ≤ j ∧ j < 2 ^ 62 ∧ Q (rangeD 0 j.toNat) n1 | _ => False
def tWRng2 (ta tb : DTE) : DTI := fun _ Δ n Q => ta .bor Δ n fun d n1 => tb .bor Δ n1 fun e n2 => match d, e with | .int i, .int j => (-(2 ^ 62) ≤ i ∧ i < 2 ^ 62 ∧ -(2 ^ 62) ≤ j ∧ j < 2 ^ 62 ∧ j - i ≤ 2 ^ 62) ∧ Q (rangeD i (j - i).toNat) n2 | _, _ => False
theorem goes_lst {K : PySem.W.Frag} {P : Addr} {a : Addr} {ds : List D} : Goes P (Itl K a) [(.ref a, .lst ds)] ds := fun H A p0 nA hg i => by
  have r := hg _ (List.mem_singleton.mpr rfl)
  cases r with
  | lst h1 h2 h3 r =>
    refine ⟨fun hi => ⟨_, SqL.of h1, by rw [r.length]; exact hi⟩, fun it e => ?_⟩
    obtain ⟨v, e1, e2⟩ := r.get e
    refine ⟨⟨_, v, SqL.of h1, e1⟩, fun x H' y => ?_⟩
    obtain ⟨rfl, y⟩ := y
    have := y _ (SqL.of h1)
    rw [e1] at this
    cases this
    exact ⟨Same.refl _, e2⟩
theorem goes_tup {K : PySem.W.Frag} {P : Addr} {a : Addr} {ds : List D} : Goes P (Itt K a) [(.ref a, .tup ds)] ds := fun H A p0 nA hg i => by
  have r := hg _ (List.mem_singleton.mpr rfl)
  cases r with
  | tup h1 h2 r =>
    refine ⟨fun hi => ⟨_, SqT.of h1, by rw [r.length]; exact hi⟩, fun it e => ?_⟩
    obtain ⟨v, e1, e2⟩ := r.get e
    refine ⟨⟨_, v, SqT.of h1, e1⟩, fun x H' y => ?_⟩
    obtain ⟨rfl, y⟩ := y
    have := y _ (SqT.of h1)
    rw [e1] at this
    cases this
    exact ⟨Same.refl _, e2⟩
theorem goes_rng {P : Addr} {lo : Int} {n : Nat} : Goes P (Itr lo n) [] (rangeD lo n) := fun H A p0 nA hg i => by
  refine ⟨fun hi => by rw [rangeD_length] at hi; exact hi, fun it e => ?_⟩
  have hi : i < n := by
    have := (List.getElem?_eq_some_iff.mp e).1
    rw [rangeD_length] at this
    exact this
  rw [rangeD_get n lo i hi] at e
  cases e
  exact ⟨hi, fun x H' y => by obtain ⟨rfl, rfl⟩ := y; exact ⟨Same.refl _, .int _⟩⟩
section
variable {X : Cx} {tg e a b : Expr} {te ta tb : DTE} {p pos : Pos}
theorem di_lst (he : DE X e te) : DI X tg e (fun m Δ n Q => tWLst te m Δ n fun ds n1 => ds.length ≤ sizeLine ∧ Q ds n1) :=
  wkI (pi_list he) fun σ H R ⟨P, H0, fr, av, n, Δ, m, Qd, S, h, k⟩ => lift_at (B := H) m S (SameP.refl P H) h fun v H1 d n1 s1 S1 r1 q1 => by
    cases d <;> first | exact q1.elim | skip
    have r2 := r1
    cases r1 with
    | lst a1 a2 a3 r => exact ⟨_, rfl, ⟨_, SqL.of a1⟩, k _ _ [(_, .lst _)] _ n1 s1 S1.pen (fun g hg => by cases List.mem_singleton.mp hg; exact r2) goes_lst (sz62 q1.1) q1.2⟩
theorem di_tup (he : DE X e te) : DI X tg e (fun m Δ n Q => tWTup te m Δ n fun ds n1 => ds.length ≤ sizeLine ∧ Q ds n1) :=
  wkI (pi_tup he) fun σ H R ⟨P, H0, fr, av, n, Δ, m, Qd, S, h, k⟩ => lift_at (B := H) m S (SameP.refl P H) h fun v H1 d n1 s1 S1 r1 q1 => by
    cases d <;> first | exact q1.elim | skip
    have r2 := r1
    cases r1 with
    | tup a1 a2 r => exact ⟨_, rfl, ⟨_, SqT.of a1⟩, k _ _ [(_, .tup _)] _ n1 s1 S1.pen (fun g hg => by cases List.mem_singleton.mp hg; exact r2) goes_tup (sz62 q1.1) q1.2⟩
/-- a list or a tuple: which of them is said by its data -/
def tWSeq (te : DTE) : DTI := fun m Δ n Q => (te m Δ n fun d n1 => match d with | .lst ds => ds.length ≤ sizeLine ∧ Q ds n1 | _ => False) ∨ (te m Δ n fun d n1 => match d with | .tup ds => ds.length ≤ sizeLine ∧ Q ds n1 | _ => False)
theorem di_seq (he : DE X e te) : DI X tg e (tWSeq te) := ⟨fun pins s σ H R I ⟨P, H0, fr, av, n, Δ, m, Qd, S, h, k⟩ => by
  rcases h with h | h
  · exact (di_lst he).run pins s σ H R I ⟨P, H0, fr, av, n, Δ, m, Qd, S, h, k⟩
  · exact (di_tup he).run pins s σ H R I ⟨P, H0, fr, av, n, Δ, m, Qd, S, h, k⟩⟩
theorem di_rng1 (hg : Gl X "range") (hm : X.mg "range" = none) (he : DE X a te) (hs : starEach [a] X.env = [(false, eval a X.env)] := by rfl) : DI X tg (.Call (.Name "range" p) [a] [] pos) (tWRng1 te) :=
  wkI (pi_range1 hg hm (pa_cons he pa_nil hs) hs) fun σ H R ⟨P, H0, fr, av, n, Δ, m, Qd, S, h, k⟩ => lift_at (B := H) .bor S (SameP.refl P H) h fun v H1 d n1 s1 S1 r1 q1 => by
    cases d <;> first | exact q1.elim | skip
    cases r1
    refine ⟨_, rfl, q1.1, q1.2.1, k _ _ [] _ n1 s1 S1.pen (fun g hg => by cases hg) goes_rng (by rw [rangeD_length]; have := q1.2.1; omega) q1.2.2⟩
theorem di_rng2 (hg : Gl X "range") (hm : X.mg "range" = none) (ha : DE X a ta) (hb : DE X b tb) (hs : starEach [a, b] X.env = [(false, eval a X.env), (false, eval b X.env)] := by rfl) (hs2 : starEach [b] X.env = [(false, eval b X.env)] := by rfl) : DI X tg (.Call (.Name "range" p) [a, b] [] pos) (tWRng2 ta tb) :=
  wkI (pi_range2 hg hm (pa_cons ha (pa_cons hb pa_nil hs2) (by rw [hs, hs2])) hs hs2) fun σ H R ⟨P, H0, fr, av, n, Δ, m, Qd, S, h, k⟩ => lift_at (B := H) .bor S (SameP.refl P H) h fun v H1 d n1 s1 S1 r1 q1 =>
    lift_at (B := H1) .bor S1 (SameP.refl P H1) q1 fun v2 H2 d2 n2 s2 S2 r2 q2 => by
      cases d <;> cases d2 <;> first | exact q2.elim | skip
      cases r1
      cases r2
      obtain ⟨⟨g1, g2, g3, g4, g5⟩, q2⟩ := q2
      exact ⟨_, _, rfl, ⟨g1, g2, g3, g4⟩, k _ _ [] _ n2 (s1.trans s2) S2.pen (fun g hg => by cases hg) goes_rng (by rw [rangeD_length]; omega) q2⟩
end

/-! ### for, while -/
/-- I: what holds ahead of the j-th turn -/
def tForD (ti : DTI) (g : DTG) (tb : DTS) : DTS := fun Dd Δ n => ti .frz Δ n fun items n1 => ∃ I : Nat → DEnv → Nat → Prop, I 0 Δ n1 ∧
  (∀ (j : Nat) (d : D) Δ n, items[j]? = some d → I j Δ n → g d Δ n fun Δ1 n1 => tb { Dd with nx := I (j + 1), ct := I (j + 1), bk := Dd.nx } Δ1 n1) ∧ ∀ Δ n, I items.length Δ n → Dd.nx Δ n
def tWhileD (tc : DTT) (tb : DTS) : DTS := fun Dd Δ n => ∃ I : Nat → DEnv → Nat → Prop, (∃ m, I m Δ n) ∧ ∀ m Δ n, I m Δ n → tc Δ n fun b n1 =>
  if b = true then tb { Dd with nx := fun Δ' n' => ∃ m', m' < m ∧ I m' Δ' n', ct := fun Δ' n' => ∃ m', m' < m ∧ I m' Δ' n', bk := Dd.nx } Δ n1 else Dd.nx Δ n1
section
variable {X : Cx} {tg iter : Expr} {body : List Stmt} {ti : DTI} {g : DTG} {tb : DTS} {pos : Pos}
theorem ds_for (hp : PassesOwn (model X.prog X.w) X.A X.env X.xe) (hc : X.calm = true) (hi : DI X tg iter ti) (hg : PG X tg (liftG g)) (hb : DSs X body tb)
    (hs : ∀ x, foldedSetIterable iter X.env x = pure x := by intro _; rfl) : DS X (.For tg iter body [] pos) (tForD ti g tb) :=
  wkS (ps_for hp hc hi hg hb hs) fun E σ H ⟨P, H0, fr, av, n, Δ, Dd, S, h, k⟩ => by
    refine ⟨P, H0, fr, av, n, Δ, .frz, _, S, h, fun J H' gs items n' s pe rgs goes _ q => ?_⟩
    obtain ⟨I, i0, istep, iend⟩ := q
    refine ⟨fun i m σ2 H2 => m = items.length - i ∧ i ≤ items.length ∧ ∃ Δ2 n2, StR P H0 (gs ++ fr) av n2 σ2 Δ2 H2 ∧ I i Δ2 n2,
      ⟨items.length, by simp, Nat.zero_le _, Δ, n', (S.mono s pe).infr rgs, i0⟩, ?_⟩
    rintro i m σ2 H2 ⟨rfl, hi, Δ2, n2, S2, q2⟩
    have go := goes H2 (NO av σ2 Δ2) S2.pen.some (fun a ha => S2.no_new ha) (fun g hg => S2.gh g (List.mem_append_left _ hg)) i
    by_cases hlt : i < items.length
    · have e1 : items[i]? = some items[i] := List.getElem?_eq_getElem hlt
      obtain ⟨g1, g2⟩ := go.2 _ e1
      refine .inr ⟨g1, fun σ' H' => ∃ Δ' n', StR P H0 (gs ++ fr) av n' σ' Δ' H' ∧ I (i + 1) Δ' n', fun σ' H' ⟨Δ', n', S', q'⟩ => ⟨items.length - (i + 1), by omega, rfl, hlt, Δ', n', S', q'⟩, fun x H3 y => ?_⟩
      obtain ⟨s3, r3⟩ := g2 x H3 y
      refine ⟨P, H0, gs ++ fr, av, n2, Δ2, _, _, S2.mono (.of s3) (S2.pen.same s3), r3, istep i _ Δ2 n2 e1 q2, fun σ' H' Δ' n' S' q' => ?_⟩
      exact ⟨P, H0, gs ++ fr, av, n', Δ', _, S', q', ⟨fun σ'' H'' Δ'' n'' S'' q'' => ⟨Δ'', n'', S'', q''⟩, k.rt, fun σ'' H'' Δ'' n'' S'' q'' => k.nx _ _ _ _ S''.unfr q'', fun σ'' H'' Δ'' n'' S'' q'' => ⟨Δ'', n'', S'', q''⟩⟩⟩
    · have e : i = items.length := by omega
      subst e
      exact .inl ⟨go.1 (Nat.le_refl _), k.nx _ _ _ _ S2.unfr (iend _ _ q2)⟩
theorem ds_while {c : Expr} {tc : DTT} (hp : PassesOwn (model X.prog X.w) X.A X.env X.xe) (hc : DT X c tc) (hb : DSs X body tb) : DS X (.While c body [] pos) (tWhileD tc tb) :=
  wkS (ps_while hp hc hb) fun E σ H ⟨P, H0, fr, av, n, Δ, Dd, S, h, k⟩ => by
    obtain ⟨I, ⟨m0, h0⟩, hI⟩ := h
    refine ⟨fun m σ2 H2 => ∃ Δ2 n2, StR P H0 fr av n2 σ2 Δ2 H2 ∧ I m Δ2 n2, ⟨m0, Δ, n, S, h0⟩, fun m σ2 H2 ⟨Δ2, n2, S2, h2⟩ => ?_⟩
    refine liftT_at S2 (hI m Δ2 n2 h2) fun b H3 n3 s3 S3 q3 => ?_
    cases b with
    | true =>
      refine ⟨fun σ' H' => ∃ Δ' n', StR P H0 fr av n' σ' Δ' H' ∧ ∃ m', m' < m ∧ I m' Δ' n', fun σ' H' ⟨Δ', n', S', m', l, i⟩ => ⟨m', l, Δ', n', S', i⟩, ?_⟩
      exact ⟨P, H0, fr, av, n3, Δ2, _, S3, q3, ⟨fun σ' H' Δ' n' S' q' => ⟨Δ', n', S', q'⟩, k.rt, fun σ' H' Δ' n' S' q' => k.nx _ _ _ _ S' q', fun σ' H' Δ' n' S' q' => ⟨Δ', n', S', q'⟩⟩⟩
    | false => exact k.nx _ _ _ _ S3 q3
end
end Dl

set_option Elab.async false
set_option linter.all false
set_option maxRecDepth 100000
set_option maxHeartbeats 1000000
namespace Dl
open PySem PySem.Spec PyProof.Rows L2

/-! ### defs called where no repr is under way -/
structure FnG (P : Program) (w : World) (K : PySem.W.Frag) (mg : Str → Option Value) (base : Heap) (CX : CXT) (k : Nat) (f : Addr) (fd : FuncData) (ps : List Str) (sp : Sp) : Prop where
  len : ∀ vs H Q E, sp vs H Q E → vs.length = ps.length
  go : ∀ (A : Around) (fs : List Env) (s : Shared) (H : Hp) (ar : Args) (us : List Value) (vs : List V) (Q : VK) (E : XK), Room k A → A.guards = some [] → Env0 P w K mg base A fs s H → BindsTo s fd ar (ps.zip us) → Vals vs us →
    sp vs H Q E → codeAny (model P w) A (.call (.ref f) ar) (CR CX fs P w H s Q E) s
section
variable {P : Program} {w : World} {K : PySem.W.Frag} {mg : Str → Option Value} {base : Heap} {CX : CXT} {k : Nat} {f : Addr} {fd : FuncData} {ps : List Str} {sp : Sp}
theorem FnG.of (F : FnOk P w K mg base CX k f fd ps sp) : FnG P w K mg base CX k f fd ps sp :=
  ⟨F.len, fun A fs s H ar us vs Q E hr _ => F.run A fs s H ar us vs Q E hr⟩
theorem FnG.mono {j : Nat} (F : FnG P w K mg base CX j f fd ps sp) (h : j ≤ k) : FnG P w K mg base CX k f fd ps sp :=
  ⟨F.len, fun A fs s H ar us vs Q E hr => F.go A fs s H ar us vs Q E (hr.mono h)⟩
theorem FnG.imp {sp' : Sp} (F : FnG P w K mg base CX k f fd ps sp) (h : ∀ vs H Q E, sp' vs H Q E → sp vs H Q E) : FnG P w K mg base CX k f fd ps sp' :=
  ⟨fun vs H Q E q => F.len vs H Q E (h _ _ _ _ q), fun A fs s H ar us vs Q E hr hg e0 hb r q => F.go A fs s H ar us vs Q E hr hg e0 hb r (h _ _ _ _ q)⟩
/-- a def of the text, by its body: the body runs where no repr is under way -/
theorem fn_body {x qual : Str} {st : Stmt} {N : List Str} (F : L2.Fun K x qual st f fd) (S : FnScope N ps (defScope st)) (len : ∀ vs H Q E, sp vs H Q E → vs.length = ps.length)
    (hbody : ∀ (cv : Value) (A : Around) (fs : List Env) (s : Shared) (H : Hp) (vs : List V) (Q : VK) (E : XK), Room k (A.deeper (envOfC qual (defScope st) s.heap.objs.size f cv)) → A.guards = some [] → sp vs H Q E →
      ∃ t, PSs (cxOf CX P w K mg base N qual (defScope st) f cv A fs s H E) (defBody st) t ∧ t { nx := fun _ H' => Q .non H', rt := Q } (L2.start N vs) H) :
    FnG P w K mg base CX (k + 1) f fd ps sp := by
  obtain ⟨oc, od, kV, dc, pm, an, cv, ct, sl, rfl, look, code⟩ := F.ex
  constructor
  · exact len
  intro A fs s H ar us vs Q E room gd e0 bind rel hsp
  have nargs := len vs H Q E hsp
  have up : ∀ b o, base.get? b = some o → s.heap.get? b = some o := fun b o e => (e0.bs b o e).1
  have kin : K.In s.heap := e0.mod.kin.keeps up
  have nolim : s.heap.NoLimit := e0.mod.nolimit.keeps up
  refine codeAny_call_function room.depth (kin _ _ look) rfl S.co S.gen rfl (PySem.W.codeRec_of kin code) (bind _ _ _ _ ?_)
  refine wpAny_newFunctionEnv_cells S.kind ?_ ?_
  · rintro ⟨nm, u⟩ hy
    cases S.par nm (List.of_mem_zip hy).1 with
    | inl q => exact .inl q
    | inr q => exact .inr ⟨q, PySem.W.cellsFrom_some _ _ _ (.inl q)⟩
  · intro env he s1 st1
    subst he
    refine ⟨nolim.keeps st1.toInCall.keep, codeAny_func ?_⟩
    obtain ⟨t, der, rd⟩ := hbody cv A fs s H vs Q E (room.deeper _) gd hsp
    have inv := inv_start (CX := CX) (P := P) (w := w) (K := K) (mg := mg) (base := base) (E := E) S room.hd e0 nargs rel st1
    refine wpAny_mono (der.run [] s1 _ H _ inv rd) ?_ (fun _ _ z => z)
    intro fl s' z
    cases fl with
    | ret u =>
      obtain ⟨v, σ', H', J, rv, q⟩ := z
      exact ⟨v, H', J.os, J.bare, J.base, J.hok, rv, q⟩
    | next =>
      obtain ⟨σ', H', J, q⟩ := z
      exact ⟨.non, H', J.os, J.bare, J.base, J.hok, rfl, q⟩
    | brk => exact z.elim fun _ z => z.elim fun _ z => z.2.elim
    | cont => exact z.elim fun _ z => z.elim fun _ z => z.2.elim
end
section
variable {X : Cx} {CX : CXT} {k : Nat} {f : Addr} {fd : FuncData} {ps : List Str} {sp : Sp} {E : XK}
/-- the callee runs, however its arguments are bound -/
theorem run_g {pins : List (Addr × Obj)} {σ : L2.St} {H : Hp} {s : Shared} {Q : VK} {us : List Value} {kw : List (Str × Value)} {all : List Value} {vs : List V} (F : FnG X.prog X.w X.K X.mg X.base CX k f fd ps sp) (hr : Room k X.A) (hgd : X.A.guards = some []) (hx : Passes CX X E)
    (I : Inv X pins σ H s) (hb : BindsTo s fd ⟨us, kw⟩ (ps.zip all)) (r : Vals vs all) (h : sp vs H Q E) : wpAny (model X.prog X.w) X.A (call (.ref f) us kw) (EP X pins σ Q) X.xe s := by
  refine wpAny_call (codeAny_mono (F.go X.A X.stack s H ⟨us, kw⟩ all vs Q E hr hgd I.env0 hb r h) ?_)
  intro res s' z
  match res, z with
  | .error e, z => exact hx pins σ H s e s' I z
  | .ok (.ret u), z => exact I.after z
  | .ok .next, z => exact False.elim z
  | .ok .brk, z => exact False.elim z
  | .ok .cont, z => exact False.elim z
/-- f(e, ..) -/
theorem pe_callG {x : Str} {p pos : Pos} {e : Expr} {es : List Expr} {t : TA} (F : FnG X.prog X.w X.K X.mg X.base CX k f fd ps sp) (hr : Room k X.A) (hgd : X.A.guards = some []) (hg : Gl X x) (hm : X.mg x = some (.ref f)) (hk : PySem.W.keepIn X.K (.ref f) = true) (hb : Binds X.K fd ps [])
    (hx : Passes CX X E) (ha : PA X (e :: es) t) (hdb : (x == ("__debug__" : Str)) = false := by decide) (he : starEach (e :: es) X.env = (false, eval e X.env) :: starEach es X.env := by rfl) (hpl : (backTo pos (starEach es X.env)).any (·.1) = false := by rfl) :
    PE X (.Call (.Name x p) (e :: es) [] pos) (fun σ H Q => t σ H fun vs H1 => sp vs H1 Q E) := by
  constructor
  intro pins s σ H Q I h
  refine wpAny_Call_Name_kw (ld_glob I hg hm ?_ hdb)
  refine PySem.W.callWith_K (h₀ := X.base) I.ok.mod.kin hk (thn (ha.run pos pins s σ H _ I h) ?_) he hpl
  rintro us s1 ⟨vs, H1, I1, r, q⟩
  refine ⟨I1.kIn, ?_⟩
  have nargs : us.length = ps.length := by rw [← r.length]; exact F.len _ _ _ _ q
  have hb' := hb s1 us I1.kIn (by rw [List.append_nil]; exact nargs)
  rw [List.append_nil] at hb'
  exact run_g F hr hgd hx I1 hb' r q
theorem pe_callG0 {x : Str} {p pos : Pos} (F : FnG X.prog X.w X.K X.mg X.base CX k f fd ps sp) (hr : Room k X.A) (hgd : X.A.guards = some []) (hg : Gl X x) (hm : X.mg x = some (.ref f)) (hk : PySem.W.keepIn X.K (.ref f) = true) (hb : Binds X.K fd ps [])
    (hx : Passes CX X E) (hdb : (x == ("__debug__" : Str)) = false := by decide) : PE X (.Call (.Name x p) [] [] pos) (fun σ H Q => sp [] H Q E) := by
  constructor
  intro pins s σ H Q I h
  refine wpAny_Call_Name_kw (ld_glob I hg hm ?_ hdb)
  have nargs : ([] : List V).length = ps.length := F.len _ _ _ _ h
  exact PySem.W.callWith_K0 I.kIn hk (run_g F hr hgd hx I (hb s [] I.kIn nargs) .nil h)
end
end Dl

set_option Elab.async false
set_option linter.all false
set_option maxRecDepth 100000
set_option maxHeartbeats 1000000
namespace Dl
open PySem PySem.Spec PyProof.Rows L2

/-! ### what a def promises, by data -/
abbrev DSp := List D → Nat → (D → Nat → Prop) → Prop
def liftF (sp : DSp) : Sp := fun vs H Q _ => ∃ P n ds Qd, PenOk P n H ∧ RpAll P (fun _ => True) H vs ds ∧ sp ds n Qd ∧
  ∀ v H' d n', SameP P H H' → PenOk P n' H' → Rp P (fun a => H a = none) H' v d → Qd d n' → Q v H'
def startD (N : List Str) (ds : List D) : DEnv := ds.map (fun d => some (.frz d)) ++ List.replicate (N.length - ds.length) none
theorem start_get {N : List Str} {vs : List V} {ds : List D} {P : Addr} {A : Addr → Prop} {H : Hp} (r : RpAll P A H vs ds) (i : Nat) :
    (∀ d, (startD N ds)[i]? = some (some (SV.frz d)) → ∃ v, (L2.start N vs)[i]? = some (some v) ∧ Rp P A H v d) ∧ ∀ es, (startD N ds)[i]? ≠ some (some (SV.own es)) := by
  unfold startD L2.start
  by_cases hi : i < ds.length
  · have e1 : (ds.map (fun d => some (SV.frz d)) ++ List.replicate (N.length - ds.length) none)[i]? = some (some (.frz ds[i])) := by
      rw [List.getElem?_append_left (by simpa using hi), List.getElem?_map, List.getElem?_eq_getElem hi]; rfl
    rw [e1]
    obtain ⟨v, g1, g2⟩ := r.get (List.getElem?_eq_getElem hi)
    refine ⟨fun d e => ?_, fun es e => by cases e⟩
    cases e
    refine ⟨v, ?_, g2⟩
    rw [List.getElem?_append_left (by rw [List.length_map, r.length]; exact hi), List.getElem?_map, g1]; rfl
  · have e1 : ∀ s, (ds.map (fun d => some (SV.frz d)) ++ List.replicate (N.length - ds.length) none)[i]? ≠ some (some s) := fun s e => by
      rw [List.getElem?_append_right (by simpa using hi), List.getElem?_replicate] at e
      split at e <;> cases e
    exact ⟨fun d e => absurd e (e1 _), fun es => e1 _⟩
theorem StR.start {P : Addr} {n : Nat} {N : List Str} {vs : List V} {ds : List D} {H : Hp} (p : PenOk P n H) (r : RpAll P (fun _ => True) H vs ds) : StR P H [] [] n (L2.start N vs) (startD N ds) H where
  p0 := p.some
  pc := by
    obtain ⟨c, t, r, cells, h1, h2, h3, _⟩ := p
    exact ⟨c, t, r, h1, by rw [h2]; simp, h3⟩
  same := SameP.refl P H
  pen := p
  len := by
    unfold L2.start startD
    rw [List.length_append, List.length_append, List.length_map, List.length_map, List.length_replicate, List.length_replicate, r.length]
  frz := fun i d e => by
    obtain ⟨v, g1, g2⟩ := (start_get r i).1 d e
    exact ⟨v, g1, g2.imp fun a o _ _ => ⟨by simp, fun j es e' => absurd e' ((start_get r j).2 es)⟩⟩
  own := fun i ds e => absurd e ((start_get r i).2 ds)
  dis := fun i j p di dj e => absurd e ((start_get r i).2 di)
  gh := fun g hg => by cases hg
  avn := fun a ha => by cases ha

section
variable {P : Program} {w : World} {K : PySem.W.Frag} {mg : Str → Option Value} {base : Heap}
/-- THE RULE for a def: its body's derivation, and its reading over data -/
theorem Fun_dok {x qual : Str} {st : Stmt} {f : Addr} {fd : FuncData} {N ps : List Str} {k : Nat} {sp : DSp} {t : DTS} (F : L2.Fun K x qual st f fd) (S : FnScope N ps (defScope st)) (len : ∀ ds n Q, sp ds n Q → ds.length = ps.length)
    (hbody : ∀ (cv : Value) (A : Around) (fs : List Env) (s : Shared) (H : Hp) (E : XK), Room k (A.deeper (envOfC qual (defScope st) s.heap.objs.size f cv)) → (A.deeper (envOfC qual (defScope st) s.heap.objs.size f cv)).guards = some [] →
      DSs (cxOf CX0 P w K mg base N qual (defScope st) f cv A fs s H E).nox (defBody st) t)
    (hread : ∀ ds n Qd, sp ds n Qd → t { nx := fun _ n' => Qd .non n', rt := Qd } (startD N ds) n) : FnG P w K mg base CX0 (k + 1) f fd ps (liftF sp) := by
  refine fn_body F S (fun vs H Q E h => ?_) (fun cdv A outer s H vs Q E hr hgd h => ?_)
  · obtain ⟨P, n, ds, Qd, p, r, h, _⟩ := h
    rw [r.length]; exact len _ _ _ h
  · obtain ⟨P, n, ds, Qd, p, r, h, kk⟩ := h
    refine ⟨_, PSs.nox (hbody cdv A outer s H E hr hgd), P, H, [], [], n, startD N ds, _, StR.start p r, hread _ _ _ h, ⟨fun σ' H' Δ' n' S' q => ?_, fun v H' d n' s p r q => kk v H' d n' s p r q, fun _ _ _ _ _ q => q, fun _ _ _ _ _ q => q⟩⟩
    exact kk .non H' .non n' S'.same S'.pen .non q
end
def tCallD (sp : DSp) (ta : DTA) : DTE := fun _ Δ n Q => ta .bor Δ n fun ds n1 => sp ds n1 Q
section
variable {X : Cx} {k : Nat} {f : Addr} {fd : FuncData} {ps ks : List Str} {sp : DSp} {x : Str} {p pos : Pos} {e : Expr} {es : List Expr} {kws : List Keyword} {ta tk : DTA}
theorem call_end {vs : List V} {P : Addr} {H0 B : Hp} {fr : List (V × D)} {av : List Addr} {σ : L2.St} {Δ : DEnv} {m : Md} {H H1 : Hp} {n1 : Nat} {ds : List D} {Qd : D → Nat → Prop} {Q : VK} {E : XK} {A : Addr → Prop} (bb : SameP P B H) (s1 : SameP P H H1) (S1 : StR P H0 fr av n1 σ Δ H1) (r1 : RpAll P A H1 vs ds) (q1 : sp ds n1 Qd)
    (k : ∀ v H' d n', SameP P H H' → PenOk P n' H' → Rp P (Al m B H0 av σ Δ) H' v d → Qd d n' → Q v H') : liftF sp vs H1 Q E :=
  ⟨P, n1, ds, Qd, S1.pen, r1.imp fun _ _ _ _ => trivial, q1, fun v H' d n' s p r q => k v H' d n' (s1.trans s) p (r.imp fun a o _ z => Al.new S1 (bb.trans s1) m z) q⟩
theorem d_call (F : FnG X.prog X.w X.K X.mg X.base CX0 k f fd ps (liftF sp)) (hr : Room k X.A) (hgd : X.A.guards = some []) (hg : Gl X x) (hm : X.mg x = some (.ref f)) (hk : PySem.W.keepIn X.K (.ref f) = true) (hb : Binds X.K fd ps [])
    (ha : DA X (e :: es) ta) (hdb : (x == ("__debug__" : Str)) = false := by decide) (he : starEach (e :: es) X.env = (false, eval e X.env) :: starEach es X.env := by rfl) (hpl : (backTo pos (starEach es X.env)).any (·.1) = false := by rfl) :
    DE X (.Call (.Name x p) (e :: es) [] pos) (tCallD sp ta) :=
  wkE (pe_callG F hr hgd hg hm hk hb (pass0 (X := X)) ha hdb he hpl) fun σ H Q ⟨P, H0, B, fr, av, n, Δ, m, Qd, S, bb, h, kk⟩ => liftA_at .bor S bb h fun vs H1 ds n1 s1 S1 r1 q1 => call_end bb s1 S1 r1 q1 kk
theorem d_call0 (F : FnG X.prog X.w X.K X.mg X.base CX0 k f fd ps (liftF sp)) (hr : Room k X.A) (hgd : X.A.guards = some []) (hg : Gl X x) (hm : X.mg x = some (.ref f)) (hk : PySem.W.keepIn X.K (.ref f) = true) (hb : Binds X.K fd ps [])
    (hdb : (x == ("__debug__" : Str)) = false := by decide) : DE X (.Call (.Name x p) [] [] pos) (tCallD sp tNilD) :=
  wkE (pe_callG0 F hr hgd hg hm hk hb (pass0 (X := X)) hdb) fun σ H Q ⟨P, H0, B, fr, av, n, Δ, m, Qd, S, bb, h, kk⟩ => call_end (A := fun _ => True) bb (SameP.refl P H) S .nil h kk
/-- keywords alone, and behind places -/
def DKw (X : Cx) (kws : List Keyword) (t : DTA) : Prop := PK X kws (liftA t)
theorem wkK {kws : List Keyword} {t t' : TA} (h : PK X kws t) (w : ∀ σ H Q, t' σ H Q → t σ H Q) : PK X kws t' := ⟨fun po pins s σ H Q I q => h.run po pins s σ H Q I (w σ H Q q)⟩
theorem dk_nil : DKw X [] tNilD := wkK pk_nil fun σ H Q ⟨P, H0, B, fr, av, n, Δ, m, Qd, S, bb, h, k⟩ => k [] H [] n (SameP.refl P H) S.pen .nil h
theorem dk_cons {nm : Option Str} {kpos : Pos} {te : DTE} {t : DTA} (ha : DE X e te) (hr : DKw X kws t) : DKw X (⟨nm, e, kpos⟩ :: kws) (tConsD te t) :=
  wkK (pk_cons ha hr) fun σ H Q ⟨P, H0, B, fr, av, n, Δ, m, Qd, S, bb, h, k⟩ => lift_at m S bb h fun v H1 d n1 s1 S1 r1 q1 =>
    liftA_at m S1 (bb.trans s1) q1 fun vs H2 ds n2 s2 S2 r2 q2 => k _ H2 _ n2 (s1.trans s2) S2.pen (.cons (r1.same s2) r2) q2
/-- how keywords come to the parameters: pr puts the keywords' values behind the positional ones in order -/
structure KwB (K : PySem.W.Frag) (fd : FuncData) (ps ks : List Str) (pr : List Nat) : Prop where
  to : ∀ (s : Shared) (us ws : List Value), K.In s.heap → us.length + ws.length = ps.length → ws.length = ks.length → BindsTo s fd ⟨us, ks.zip ws⟩ (ps.zip (us ++ pr.filterMap fun i => ws[i]?))
  len : pr.length = ks.length
  lt : ∀ i ∈ pr, i < ks.length
theorem kw_vals {ws : List Value} {zs : List V} (r : Vals zs ws) : ∀ pr : List Nat, Vals (pr.filterMap fun i => zs[i]?) (pr.filterMap fun i => ws[i]?)
  | [] => .nil
  | i :: pr => by
    have t := kw_vals r pr
    cases e : zs[i]? with
    | none =>
      have e2 := r.none_of e
      rw [List.filterMap_cons_none e, List.filterMap_cons_none e2]
      exact t
    | some v =>
      obtain ⟨u, e2, rv⟩ := r.get e
      rw [List.filterMap_cons_some e, List.filterMap_cons_some e2]
      exact .cons rv t
theorem kw_reps {P : Addr} {A : Addr → Prop} {H : Hp} {zs : List V} {ds : List D} (r : RpAll P A H zs ds) : ∀ pr : List Nat, RpAll P A H (pr.filterMap fun i => zs[i]?) (pr.filterMap fun i => ds[i]?)
  | [] => .nil
  | i :: pr => by
    have t := kw_reps r pr
    cases e : ds[i]? with
    | none =>
      have e2 : zs[i]? = none := by
        rw [List.getElem?_eq_none_iff] at e ⊢
        rw [r.length]; exact e
      rw [List.filterMap_cons_none e, List.filterMap_cons_none e2]
      exact t
    | some v =>
      obtain ⟨u, e2, rv⟩ := r.get e
      rw [List.filterMap_cons_some e, List.filterMap_cons_some e2]
      exact .cons rv t
def tCallKD (sp : DSp) (pr : List Nat) (ta tk : DTA) : DTE := fun _ Δ n Q => ta .bor Δ n fun ds n1 => tk .bor Δ n1 fun es n2 => es.length = pr.length ∧ sp (ds ++ pr.filterMap fun i => es[i]?) n2 Q
theorem run_kw {pr : List Nat} {pins : List (Addr × Obj)} {σ : L2.St} {H : Hp} {s : Shared} {Q : VK} {us ws : List Value} {vs zs : List V} (F : FnG X.prog X.w X.K X.mg X.base CX0 k f fd ps (liftF sp)) (hr : Room k X.A) (hgd : X.A.guards = some []) (hb : KwB X.K fd ps ks pr)
    (I : Inv X pins σ H s) (r : Vals vs us) (rz : Vals zs ws) (hl : zs.length = pr.length) (h : liftF sp (vs ++ pr.filterMap fun i => zs[i]?) H Q E0) : wpAny (model X.prog X.w) X.A (call (.ref f) us (ks.zip ws)) (EP X pins σ Q) X.xe s := by
  have r2 : Vals (vs ++ pr.filterMap fun i => zs[i]?) (us ++ pr.filterMap fun i => ws[i]?) := r.append (kw_vals rz pr)
  have hl2 := F.len _ _ _ _ h
  have hw : ws.length = ks.length := by rw [← rz.length, hl, hb.len]
  have full : ∀ l : List Nat, (∀ i ∈ l, i < ws.length) → (l.filterMap fun i => ws[i]?).length = l.length := by
    intro l
    induction l with
    | nil => intro _; rfl
    | cons i l ih =>
      intro hlt
      have e : ws[i]? = some (ws[i]'(hlt i (List.mem_cons_self ..))) := List.getElem?_eq_getElem _
      rw [List.filterMap_cons_some e, List.length_cons, ih fun j hj => hlt j (List.mem_cons_of_mem _ hj), List.length_cons]
  have hl3 : us.length + ws.length = ps.length := by
    rw [← hl2, r2.length, List.length_append, full pr fun i hi => by rw [hw]; exact hb.lt i hi, hb.len, hw]
  exact run_g F hr hgd (pass0 (X := X)) I (hb.to s us ws I.kIn hl3 hw) r2 h
theorem d_callK {pr : List Nat} (F : FnG X.prog X.w X.K X.mg X.base CX0 k f fd ps (liftF sp)) (hr : Room k X.A) (hgd : X.A.guards = some []) (hg : Gl X x) (hm : X.mg x = some (.ref f)) (hk : PySem.W.keepIn X.K (.ref f) = true) (hb : KwB X.K fd ps ks pr)
    (ha : DA X (e :: es) ta) (hkw : DKw X kws tk) (hall : (backToKw pos (keywordEach kws X.env)).all (·.1.isSome) = true := by rfl) (hks : (backToKw pos (keywordEach kws X.env)).filterMap (·.1) = ks := by rfl)
    (hdb : (x == ("__debug__" : Str)) = false := by decide) (he : starEach (e :: es) X.env = (false, eval e X.env) :: starEach es X.env := by rfl)
    (hpl : ((backTo pos (starEach (e :: es) X.env)).any (·.1) || (backToKw pos (keywordEach kws X.env)).any (·.1.isNone)) = false := by rfl) :
    DE X (.Call (.Name x p) (e :: es) kws pos) (tCallKD sp pr ta tk) := by
  refine ⟨fun pins s σ H Q I ⟨P, H0, B, fr, av, n, Δ, m, Qd, S, bb, h, kk⟩ => ?_⟩
  refine wpAny_Call_Name_kw (ld_glob I hg hm ?_ hdb)
  refine PySem.W.callWith_KW (h₀ := X.base) I.ok.mod.kin hk hall (thn (PA.run ha pos pins s σ H _ I (liftA_at (Q := fun vs H1 => liftA tk σ H1 fun zs H2 => zs.length = pr.length ∧ liftF sp (vs ++ pr.filterMap fun i => zs[i]?) H2 Q E0) .bor S bb h fun vs H1 ds n1 s1 S1 r1 q1 => ?_)) fun us s1 ⟨vs, H1, I1, r, q⟩ => ?_) hpl he
  · refine liftA_at .bor S1 (bb.trans s1) q1 fun zs H2 es n2 s2 S2 r2 q2 => ⟨by rw [r2.length]; exact q2.1, ?_⟩
    exact call_end bb (s1.trans s2) S2 ((r1.same s2).append (kw_reps r2 pr)) q2.2 kk
  · refine thn (PK.run hkw pos pins s1 σ H1 _ I1 q) fun ws s2 ⟨zs, H2, I2, rz, q2⟩ => ⟨I2.kIn, ?_⟩
    rw [hks]
    exact run_kw F hr hgd hb I2 r rz q2.1 q2.2
theorem d_callK0 {pr : List Nat} (F : FnG X.prog X.w X.K X.mg X.base CX0 k f fd ps (liftF sp)) (hr : Room k X.A) (hgd : X.A.guards = some []) (hg : Gl X x) (hm : X.mg x = some (.ref f)) (hk : PySem.W.keepIn X.K (.ref f) = true) (hb : KwB X.K fd ps ks pr)
    (hkw : DKw X kws tk) (hall : (backToKw pos (keywordEach kws X.env)).all (·.1.isSome) = true := by rfl) (hks : (backToKw pos (keywordEach kws X.env)).filterMap (·.1) = ks := by rfl)
    (hdb : (x == ("__debug__" : Str)) = false := by decide)
    (hpl : (backToKw pos (keywordEach kws X.env)).any (·.1.isNone) = false := by rfl) :
    DE X (.Call (.Name x p) [] kws pos) (tCallKD sp pr tNilD tk) := by
  refine ⟨fun pins s σ H Q I ⟨P, H0, B, fr, av, n, Δ, m, Qd, S, bb, h, kk⟩ => ?_⟩
  refine wpAny_Call_Name_kw (ld_glob I hg hm ?_ hdb)
  refine PySem.W.callWith_KW0 (h₀ := X.base) (first := []) I.ok.mod.kin hk hall (thn (PK.run hkw pos pins s σ H _ I (liftA_at (Q := fun zs H2 => zs.length = pr.length ∧ liftF sp ([] ++ pr.filterMap fun i => zs[i]?) H2 Q E0) .bor S bb h fun zs H2 es n2 s2 S2 r2 q2 => ⟨by rw [r2.length]; exact q2.1, ?_⟩)) fun ws s2 ⟨zs, H2, I2, rz, q2⟩ => ⟨I2.kIn, ?_⟩) hpl
  · exact call_end (ds := [] ++ pr.filterMap fun i => es[i]?) bb s2 S2 (kw_reps r2 pr) q2.2 kk
  · rw [hks]
    exact run_kw (us := []) (vs := []) F hr hgd hb I2 .nil rz q2.1 q2.2
end
end Dl

set_option Elab.async false
set_option linter.all false
set_option maxRecDepth 100000
set_option maxHeartbeats 1000000
namespace Dl
open PySem PySem.Spec PyProof.Rows L2

/-! ### comprehensions -/
def lcW (i : Nat) (tt : DTT) (te : DTE) (m : Md) (Δ : DEnv) (Q : D → Nat → Prop) : List D → List D → Nat → Prop
  | [], acc, n => Q (.lst acc) n
  | d :: ds, acc, n => tt (Δ.set i (some (.frz d))) n fun b n1 => if b = true then te m (Δ.set i (some (.frz d))) n1 fun y n2 => acc.length < sizeLine ∧ lcW i tt te m Δ Q ds (acc ++ [y]) n2 else lcW i tt te m Δ Q ds acc n1
def tYesD : DTT := fun _ n Q => Q true n
/-- ms: how the walked one is wanted (bor: its items are flat; frz: it stays) -/
def tLcD (ms : Md) (ti : DTI) (i : Nat) (tt : DTT) (te : DTE) : DTE := fun m Δ n Q => (match Δ[i]? with | some (some (.own _)) => False | _ => True) ∧ ti ms Δ n fun items n1 => (match ms with | .frz => True | _ => flatAll items = true) ∧ lcW i tt te m Δ Q items [] n1
section
variable {P : Addr} {H0 B : Hp} {fr : List (V × D)} {av : List Addr} {n n' : Nat} {σ : L2.St} {Δ : DEnv} {H H' : Hp}
theorem no_cons {a b : Addr} : NO (b :: av) σ Δ a ↔ NO av σ Δ a ∧ a ≠ b := by
  unfold NO
  simp only [List.mem_cons, not_or]
  exact ⟨fun ⟨⟨h1, h2⟩, h3⟩ => ⟨⟨h2, h3⟩, h1⟩, fun ⟨⟨h2, h3⟩, h1⟩ => ⟨⟨h1, h2⟩, h3⟩⟩
/-- a new list is under way -/
theorem StR.addav (S : StR P H0 fr av n σ Δ H) {b : Addr} {o : HO} (hb : H b = none) : StR P H0 fr (b :: av) n σ Δ (upd H b o) := by
  have S' := S.mono (SameP.new (o := o) hb) (S.pen.same (same_new hb))
  have st : Stay P (NO av σ Δ) (NO (b :: av) σ Δ) H (upd H b o) := ⟨fun a vs e _ => by rw [upd_ne (ne_of_none e hb)]; exact e, fun a u e _ z => ⟨by rw [upd_ne (ne_of_none e hb)]; exact e, no_cons.mpr ⟨z, ne_of_none e hb⟩⟩⟩
  refine ⟨S.p0, S.pc, S'.same, S'.pen, S.len, fun i d e => ?_, fun i ds e => ?_, S.dis, fun g hg => Rp.stay st _ _ (S.gh g hg), fun a ha => ?_⟩
  · obtain ⟨v, h1, h2⟩ := S.frz i d e
    exact ⟨v, h1, Rp.stay st _ _ h2⟩
  · obtain ⟨p, vs, h1, h2, h3, h4, h5⟩ := S.own i ds e
    refine ⟨p, vs, h1, ?_, h3, by rw [upd_ne (ne_of_none h4 hb)]; exact h4, RpAll.stay st _ _ h5⟩
    simp only [List.mem_cons, not_or]
    exact ⟨ne_of_none h4 hb, h2⟩
  · rcases List.mem_cons.mp ha with e | ha
    · subst e; rw [upd_same]; simp
    · by_cases z : a = b
      · subst z; rw [upd_same]; simp
      · rw [upd_ne z]; exact S.avn a ha
/-- .. it grows -/
theorem stay_av {A : Addr → Prop} {b : Addr} (hA : ∀ a, A a → a ≠ b) {vs : List V} {o : HO} (hb : H b = some (.lst vs)) : Stay P A A H (upd H b o) :=
  ⟨fun a ws e _ => by rw [upd_ne (ne_of e hb (by intro z; cases z))]; exact e, fun a u e _ z => ⟨by rw [upd_ne (hA a z)]; exact e, z⟩⟩
theorem StR.wrav {b : Addr} (S : StR P H0 fr (b :: av) n σ Δ H) {vs : List V} {o : HO} (hb : H b = some (.lst vs)) (h0 : H0 b = none) (hP : b ≠ P) : StR P H0 fr (b :: av) n σ Δ (upd H b o) := by
  have st : Stay P (NO (b :: av) σ Δ) (NO (b :: av) σ Δ) H (upd H b o) := stay_av (fun a z => (no_cons.mp z).2) hb
  refine ⟨S.p0, S.pc, ⟨fun a u e ne => by rw [upd_ne (ne_of_none e h0)]; exact S.same a u e ne, fun c t r e => by rw [upd_ne (Ne.symm hP)]; exact S.same.cel c t r e⟩, ?_, S.len, fun i d e => ?_, fun i ds e => ?_, S.dis, fun g hg => Rp.stay st _ _ (S.gh g hg), fun a ha => ?_⟩
  · obtain ⟨c, t, r', cells, k1, k2, k3, k4⟩ := S.pen
    refine ⟨c, t, r', cells, by rw [upd_ne (Ne.symm hP)]; exact k1, ?_, k3, k4⟩
    have : c ≠ b := fun z => by
      obtain ⟨c', t1, r1, e1, e2, e3⟩ := S.pc
      obtain ⟨t2, r2, e4⟩ := S.same.cel c' t1 r1 e1
      rw [k1] at e4
      cases e4
      exact e2 (z ▸ h0)
    rw [upd_ne this]; exact k2
  · obtain ⟨v, h1, h2⟩ := S.frz i d e
    exact ⟨v, h1, Rp.stay st _ _ h2⟩
  · obtain ⟨p, vs, h1, h2, h3, h4, h5⟩ := S.own i ds e
    exact ⟨p, vs, h1, h2, h3, by rw [upd_ne (show p ≠ b from fun z => h2 (by rw [z]; exact List.mem_cons_self ..))]; exact h4, RpAll.stay st _ _ h5⟩
  · by_cases z : a = b
    · subst z; rw [upd_same]; simp
    · rw [upd_ne z]; exact S.avn a ha
theorem al_cons {m : Md} {b a : Addr} (h : Al m B H0 (b :: av) σ Δ a) : Al m B H0 av σ Δ a ∧ a ≠ b := by
  cases m with
  | bor => simp only [Al, List.mem_cons, not_or] at h ⊢; exact ⟨h.2, h.1⟩
  | frz => exact no_cons.mp h
  | ret => simp only [Al, List.mem_cons, not_or] at h ⊢; exact ⟨⟨h.1.2, h.2⟩, h.1.1⟩
  | new => simp only [Al, List.mem_cons, not_or] at h ⊢; exact ⟨⟨h.1.2, h.2⟩, h.1.1⟩
theorem al_unset {m : Md} {a : Addr} {i : Nat} {x : V} {d : D} (hno : match Δ[i]? with | some (some (.own _)) => False | _ => True) (h : Al m B H0 av (σ.set i (some x)) (Δ.set i (some (.frz d))) a) : Al m B H0 av σ Δ a := by
  cases m with
  | frz =>
    refine ⟨h.1, fun j ds e => ?_⟩
    have hj : i ≠ j := fun z => by subst z; rw [e] at hno; exact hno
    have := h.2 j ds (by rw [List.getElem?_set_ne hj]; exact e)
    rw [List.getElem?_set_ne hj] at this
    exact this
  | bor => exact h
  | ret => exact h
  | new => exact h
end
def Asr (ms : Md) (av : List Addr) (σ : L2.St) (Δ : DEnv) (a : Addr) : Prop := match ms with | .frz => NO av σ Δ a | _ => True
theorem lift_lc {ms : Md} {ti : DTI} {i : Nat} {tt : DTT} {te : DTE} {σ : L2.St} {H : Hp} {Q : VK} (h : lift (tLcD ms ti i tt te) σ H Q) : tLc (liftI ti) (gName i) (liftT tt) (lift te) [i] σ H Q := by
  obtain ⟨P, H0, B, fr, av, n, Δ, m, Qd, S, bb, ⟨hno, h⟩, k⟩ := h
  refine ⟨P, H0, fr, av, n, Δ, ms, _, S, h, fun J H1 gs items n1 s1 p1 rgs goes _ q Db hD => ?_⟩
  obtain ⟨hms, q⟩ := q
  have S1 := S.mono s1 p1
  have bP : Db ≠ P := S1.neP hD
  have b0 : H0 Db = none := S1.old hD
  -- the walked one's reps
  have S2 : StR P H0 fr (Db :: av) n1 σ Δ (upd H1 Db (.lst [])) := S1.addav hD
  have rg2 : ∀ g ∈ gs, Rp P (fun a => Asr ms av σ Δ a ∧ a ≠ Db) (upd H1 Db (.lst [])) g.1 g.2 := fun g hg => by
    refine Rp.stay ⟨fun a vs e _ => by rw [upd_ne (ne_of_none e hD)]; exact e, fun a u e _ z => ⟨by rw [upd_ne (ne_of_none e hD)]; exact e, ?_, ne_of_none e hD⟩⟩ _ _ (rgs g hg)
    cases ms with
    | frz => exact z
    | bor => trivial
    | ret => trivial
    | new => trivial
  refine ⟨fun j mm H2 => mm = items.length - j ∧ j ≤ items.length ∧ ∃ vacc acc n2, H2 Db = some (.lst vacc) ∧ RpAll P (Al m B H0 (Db :: av) σ Δ) H2 vacc acc ∧ SameP P H1 H2 ∧ StR P H0 fr (Db :: av) n2 σ Δ H2 ∧
    (∀ g ∈ gs, Rp P (fun a => Asr ms av σ Δ a ∧ a ≠ Db) H2 g.1 g.2) ∧ lcW i tt te m Δ Qd (items.drop j) acc n2, ⟨items.length, by simp, Nat.zero_le _, [], [], n1, upd_same, .nil, SameP.new hD, S2, rg2, by rw [List.drop_zero]; exact q⟩, ?_⟩
  rintro j mm H2 ⟨rfl, hj, vacc, acc, n2, hacc, racc, s2, S2, rg2, q2⟩
  have go := goes H2 (fun a => Asr ms av σ Δ a ∧ a ≠ Db) S2.pen.some (fun a ha => by
    have z := no_cons.mp (S2.no_new ha)
    refine ⟨?_, z.2⟩
    cases ms with
    | frz => exact z.1
    | bor => trivial
    | ret => trivial
    | new => trivial) rg2 j
  by_cases hlt : j < items.length
  · have e1 : items[j]? = some items[j] := List.getElem?_eq_getElem hlt
    rw [List.drop_eq_getElem_cons hlt] at q2
    obtain ⟨g1, g2⟩ := go.2 _ e1
    refine .inr ⟨g1, fun H' => ∃ vacc acc n2, H' Db = some (.lst vacc) ∧ RpAll P (Al m B H0 (Db :: av) σ Δ) H' vacc acc ∧ SameP P H1 H' ∧ StR P H0 fr (Db :: av) n2 σ Δ H' ∧
      (∀ g ∈ gs, Rp P (fun a => Asr ms av σ Δ a ∧ a ≠ Db) H' g.1 g.2) ∧ lcW i tt te m Δ Qd (items.drop (j + 1)) acc n2, fun H' ⟨va, ac, nn, z⟩ => ⟨items.length - (j + 1), by omega, rfl, hlt, va, ac, nn, z⟩, fun x H3 y => ?_⟩
    obtain ⟨s3, r3⟩ := g2 x H3 y
    show wipe ((wipe σ [i]).set i (some x)) [i] = wipe σ [i] ∧ liftT tt ((wipe σ [i]).set i (some x)) H3 _
    have es : (wipe σ [i]).set i (some x) = σ.set i (some x) := by show (σ.set i none).set i (some x) = _; rw [List.set_set]
    rw [es]
    refine ⟨by show (σ.set i (some x)).set i none = σ.set i none; rw [List.set_set], ?_⟩
    have S3 := S2.mono (.of s3) (S2.pen.same s3)
    have r3' : Rp P (NO (Db :: av) σ Δ) H3 x items[j] := by
      cases ms with
      | frz => exact r3.imp fun a _ _ z => no_cons.mpr ⟨z.1, z.2⟩
      | bor => exact Rp.flat _ _ (flatAll_iff.mp hms _ (List.getElem_mem hlt)) r3
      | ret => exact Rp.flat _ _ (flatAll_iff.mp hms _ (List.getElem_mem hlt)) r3
      | new => exact Rp.flat _ _ (flatAll_iff.mp hms _ (List.getElem_mem hlt)) r3
    have S3' := S3.setF i r3'
    have b3 : SameP P B H3 := (bb.trans s1).trans (s2.trans (.of s3))
    refine liftT_at S3' q2 fun b H4 n4 s4 S4 q4 => ?_
    -- back to the slots as they were
    have back : ∀ {H5 : Hp} {n5 : Nat}, SameP P H3 H5 → PenOk P n5 H5 → StR P H0 fr (Db :: av) n5 σ Δ H5 := fun s p => S3.mono s p
    have rgk : ∀ {H5 : Hp}, SameP P H3 H5 → ∀ g ∈ gs, Rp P (fun a => Asr ms av σ Δ a ∧ a ≠ Db) H5 g.1 g.2 := fun s g hg => ((rg2 g hg).same (.of s3)).same s
    cases b with
    | false => exact ⟨vacc, acc, n4, s4 _ _ (s3 _ _ hacc) bP, (racc.same (.of s3)).same s4, (s2.trans (.of s3)).trans s4, back s4 S4.pen, rgk s4, q4⟩
    | true =>
      refine lift_at m S4 (b3.trans s4) q4 fun v H5 d n5 s5 S5 r5 q5 => ?_
      have s45 := s4.trans s5
      have h5 : H5 Db = some (.lst vacc) := s45 _ _ (s3 _ _ hacc) bP
      have racc5 : RpAll P (Al m B H0 (Db :: av) σ Δ) H5 vacc acc := (racc.same (.of s3)).same s45
      refine ⟨vacc, h5, by rw [racc.length]; exact q5.1, vacc ++ [v], acc ++ [d], n5, upd_same, ?_, ?_, (back s45 S5.pen).wrav h5 b0 bP, fun g hg => ?_, q5.2⟩
      · refine RpAll.stay (stay_av (fun a z => (al_cons z).2) h5) _ _ (racc5.append (.cons ?_ .nil))
        exact r5.imp fun a _ _ z => al_unset hno z
      · have s25 := (s2.trans (.of s3)).trans s45
        exact ⟨fun a o e ne => by rw [upd_ne (ne_of_none e hD)]; exact s25 a o e ne, fun c t r e => by rw [upd_ne (Ne.symm bP)]; exact s25.cel c t r e⟩
      · exact Rp.stay (stay_av (fun a z => z.2) h5) _ _ (rgk s45 g hg)
  · have e : j = items.length := by omega
    subst e
    rw [List.drop_length] at q2
    exact .inl ⟨go.1 (Nat.le_refl _), k _ _ _ n2 (s1.trans s2) S2.pen (.lst hacc bP (Al.new S1 (bb.trans s1) m hD) (racc.imp fun a _ _ z => (al_cons z).1)) q2⟩
end Dl

set_option Elab.async false
set_option linter.all false
set_option maxRecDepth 100000
set_option maxHeartbeats 1000000
namespace Dl
open PySem PySem.Spec PyProof.Rows L2

/-! ### comprehensions as expressions and statements -/
section
variable {X : Cx}
theorem dts_nil : PTs X [] (liftT tYesD) := ⟨fun pins s σ H Q I ⟨P, H0, fr, av, n, Δ, Qd, S, h, k⟩ => pts_nil.run pins s σ H Q I (k true H n (SameP.refl P H) S.pen h)⟩
theorem dts_one {c : Expr} {t : DTT} (h : DT X c t) : PTs X [c] (liftT t) := pts_one h
theorem d_lc {elt tg iter : Expr} {ifs : List Expr} {scope : Scope} {i : Nat} {x : Str} {pos : Pos} {ti : DTI} {tt : DTT} {te : DTE} (ms : Md) (hc : X.calm = true) (hN : X.N.Nodup) (hi : DI X tg iter ti) (ok : BlkOk X.N X.env.scope scope [(x, i)])
    (hg : ∀ (s : Shared) (H : Hp) (C : Addr) (cl : List (Str × Addr)) (fp : List Addr), PG (X.blk s H scope (compEnvC scope cl C X.env) fp) tg (gName i)) (ht : ∀ (s : Shared) (H : Hp) (C : Addr) (cl : List (Str × Addr)) (fp : List Addr), PTs (X.blk s H scope (compEnvC scope cl C X.env) fp) ifs (liftT tt))
    (he : ∀ (s : Shared) (H : Hp) (C : Addr) (cl : List (Str × Addr)) (fp : List Addr), DE (X.blk s H scope (compEnvC scope cl C X.env) fp) elt te) (hs : ∀ x, foldedSetIterable iter X.env x = pure x := by intro _; rfl) :
    DE X (.ListComp elt [⟨tg, iter, ifs, 0⟩] scope pos) (tLcD ms ti i tt te) :=
  wkE (pe_lc (own := [(x, i)]) hc hN hi ok hg ht he hs) fun σ H Q h => lift_lc h
/-- y = [..] on one line -/
theorem ps_lcW {elt tg iter : Expr} {ifs : List Expr} {scope : Scope} {i j : Nat} {x y : Str} {pos py spos : Pos} {ti : DTI} {tt : DTT} {te : DTE} (hc : X.calm = true) (hN : X.N.Nodup) (hy : X.N[j]? = some y) (hyl : X.env.scope.names.lookup y = some .local)
    (hsw : swapsWith (.ListComp elt [⟨tg, iter, ifs, 0⟩] scope pos) (some (.Name y py)) spos.line X.env = pure true) (hi : DI X tg iter ti) (ok : BlkOk X.N X.env.scope scope [(x, i)])
    (hg : ∀ (s : Shared) (H : Hp) (C : Addr) (cl : List (Str × Addr)) (fp : List Addr), PG (X.blk s H scope (compEnvC scope cl C X.env) fp) tg (gName i)) (ht : ∀ (s : Shared) (H : Hp) (C : Addr) (cl : List (Str × Addr)) (fp : List Addr), PTs (X.blk s H scope (compEnvC scope cl C X.env) fp) ifs (liftT tt))
    (he : ∀ (s : Shared) (H : Hp) (C : Addr) (cl : List (Str × Addr)) (fp : List Addr), DE (X.blk s H scope (compEnvC scope cl C X.env) fp) elt te) (hs : ∀ x, foldedSetIterable iter X.env x = pure x := by intro _; rfl) :
    PS X (.Assign [.Name y py] (.ListComp elt [⟨tg, iter, ifs, 0⟩] scope pos) spos) (tAsg (tLc (liftI ti) (gName i) (liftT tt) (lift te) [i]) (gName j)) :=
  ps_setLc (own := [(x, i)]) hc hN hy hyl hsw hi ok hg ht he hs
theorem ds_lcF {st : Stmt} {i j : Nat} {ti : DTI} {tt : DTT} {te : DTE} (ms : Md) (h : PS X st (tAsg (tLc (liftI ti) (gName i) (liftT tt) (lift te) [i]) (gName j))) : DS X st (tSetD j (tLcD ms ti i tt te)) :=
  wkS h (asg_F fun _ _ _ h => lift_lc h)
theorem ds_lcO {st : Stmt} {i j : Nat} {ti : DTI} {tt : DTT} {te : DTE} (ms : Md) (h : PS X st (tAsg (tLc (liftI ti) (gName i) (liftT tt) (lift te) [i]) (gName j))) : DS X st (tOwnD j (tLcD ms ti i tt te)) :=
  wkS h (asg_O fun _ _ _ h => lift_lc h)
end
/-- a comprehension without a test whose element is a function of its item -/
theorem lcW_map {i : Nat} {tt : DTT} {te : DTE} {m : Md} {Δ : DEnv} {Q : D → Nat → Prop} (f : D → D) (htt : tt = tYesD) : ∀ (ds acc : List D) (n : Nat), acc.length + ds.length ≤ sizeLine →
    (∀ d ∈ ds, ∀ n' Q', Q' (f d) n' → te m (Δ.set i (some (.frz d))) n' Q') → Q (.lst (acc ++ ds.map f)) n → lcW i tt te m Δ Q ds acc n
  | [], acc, n, _, _, q => by rw [List.map_nil, List.append_nil] at q; exact q
  | d :: ds, acc, n, hz, h, q => by
    subst htt
    rw [List.length_cons] at hz
    refine h d (List.mem_cons_self ..) n _ ⟨by omega, lcW_map f rfl ds (acc ++ [f d]) n ?_ (fun d' hd' => h d' (List.mem_cons_of_mem _ hd')) ?_⟩
    · rw [List.length_append, List.length_singleton]; omega
    · rw [List.append_assoc]; exact q
/-- .. with a test -/
theorem lcW_filter {i : Nat} {tt : DTT} {te : DTE} {m : Md} {Δ : DEnv} {Q : D → Nat → Prop} (p : D → Bool) (f : D → D) : ∀ (ds acc : List D) (n : Nat), acc.length + ds.length ≤ sizeLine →
    (∀ d ∈ ds, ∀ n' Q', Q' (p d) n' → tt (Δ.set i (some (.frz d))) n' Q') → (∀ d ∈ ds, p d = true → ∀ n' Q', Q' (f d) n' → te m (Δ.set i (some (.frz d))) n' Q') → Q (.lst (acc ++ (ds.filter p).map f)) n → lcW i tt te m Δ Q ds acc n
  | [], acc, n, _, _, _, q => by rw [List.filter_nil, List.map_nil, List.append_nil] at q; exact q
  | d :: ds, acc, n, hz, h1, h2, q => by
    rw [List.length_cons] at hz
    refine h1 d (List.mem_cons_self ..) n _ ?_
    cases hp : p d with
    | true =>
      rw [if_pos rfl]
      refine h2 d (List.mem_cons_self ..) hp n _ ⟨by omega, lcW_filter p f ds (acc ++ [f d]) n ?_ (fun d' hd' => h1 d' (List.mem_cons_of_mem _ hd')) (fun d' hd' => h2 d' (List.mem_cons_of_mem _ hd')) ?_⟩
      · rw [List.length_append, List.length_singleton]; omega
      · rw [List.filter_cons_of_pos hp, List.map_cons] at q
        rw [List.append_assoc]; exact q
    | false =>
      rw [if_neg Bool.false_ne_true]
      refine lcW_filter p f ds acc n (by omega) (fun d' hd' => h1 d' (List.mem_cons_of_mem _ hd')) (fun d' hd' => h2 d' (List.mem_cons_of_mem _ hd')) ?_
      rw [List.filter_cons_of_neg (by rw [hp]; exact Bool.false_ne_true)] at q
      exact q
/-- .. whose elements are drawn: R tells of them -/
theorem lcW_any {i : Nat} {tt : DTT} {te : DTE} {m : Md} {Δ : DEnv} {Q : D → Nat → Prop} (htt : tt = tYesD) (R : List D → Nat → Prop) : ∀ (ds acc : List D) (n : Nat), acc.length + ds.length ≤ sizeLine → R acc n →
    (∀ d ∈ ds, ∀ acc n' Q', acc.length < sizeLine → R acc n' → (∀ y n'', R (acc ++ [y]) n'' → Q' y n'') → te m (Δ.set i (some (.frz d))) n' Q') → (∀ acc' n', acc'.length = acc.length + ds.length → R acc' n' → Q (.lst acc') n') → lcW i tt te m Δ Q ds acc n
  | [], acc, n, _, r, _, q => q acc n (by simp) r
  | d :: ds, acc, n, hz, r, h, q => by
    subst htt
    rw [List.length_cons] at hz
    refine h d (List.mem_cons_self ..) acc n _ (by omega) r fun y n'' r' => ⟨by omega, lcW_any rfl R ds (acc ++ [y]) n'' ?_ r' (fun d' hd' => h d' (List.mem_cons_of_mem _ hd')) fun acc' n' hl => ?_⟩
    · rw [List.length_append, List.length_singleton]; omega
    · refine q acc' n' ?_
      rw [hl, List.length_append, List.length_singleton, List.length_cons]; omega

/-! ### built-ins -/
def drLen : DRn := fun ds Q => match ds with | [.str z] => z.length ≤ sizeLine ∧ Q (.int z.length) | [.lst l] => Q (.int l.length) | [.tup l] => Q (.int l.length) | [.byt z] => z.size ≤ sizeLine ∧ Q (.int z.size) | _ => False
theorem sn_len {K : PySem.W.Frag} : SndN (fun xs H Q => ∃ x n, xs = [x] ∧ LenV K x H n ∧ Q (.int n) H) drLen := fun P A B H xs ds Q Qd p0 nA r h k => by
  match ds, r, h with
  | [.str z], .cons r .nil, h => cases r; exact ⟨_, _, rfl, ⟨h.1, rfl⟩, k _ H _ (Same.refl H) (.int _) h.2⟩
  | [.byt z], .cons r .nil, h => cases r; exact ⟨_, _, rfl, ⟨h.1, rfl⟩, k _ H _ (Same.refl H) (.int _) h.2⟩
  | [.lst l], .cons r .nil, h =>
    cases r with
    | lst a1 a2 a3 r => exact ⟨_, _, rfl, .inl ⟨_, SqL.of a1, rfl⟩, k _ H _ (Same.refl H) (by rw [r.length]; exact .int _) h⟩
  | [.tup l], .cons r .nil, h =>
    cases r with
    | tup a1 a2 r => exact ⟨_, _, rfl, .inr ⟨_, SqT.of a1, rfl⟩, k _ H _ (Same.refl H) (by rw [r.length]; exact .int _) h⟩
def drStrI : DRn := fun ds Q => match ds with | [.int i] => i.natAbs.log2 < 1920 ∧ Q (.str (toString i)) | _ => False
theorem sn_strI : SndN (fun xs H Q => ∃ i, xs = [.int i] ∧ i.natAbs.log2 < 1920 ∧ Q (.str (toString i)) H) drStrI := fun P A B H xs ds Q Qd p0 nA r h k => by
  match ds, r, h with
  | [.int z], .cons r .nil, h => cases r; exact ⟨_, rfl, h.1, k _ H _ (Same.refl H) (.str _) h.2⟩
def drInt : DRn := fun ds Q => match ds with | [.int i] => Q (.int i) | [.bl b] => Q (.int (if b then 1 else 0)) | _ => False
theorem sn_int : SndN (fun xs H Q => (∃ i, xs = [.int i] ∧ Q (.int i) H) ∨ ∃ k, xs = [.bl k] ∧ Q (.int (if k then 1 else 0)) H) drInt := fun P A B H xs ds Q Qd p0 nA r h k => by
  match ds, r, h with
  | [.int z], .cons r .nil, h => cases r; exact .inl ⟨_, rfl, k _ H _ (Same.refl H) (.int _) h⟩
  | [.bl z], .cons r .nil, h => cases r; exact .inr ⟨_, rfl, k _ H _ (Same.refl H) (.int _) h⟩
def drAbs : DRn := fun ds Q => match ds with | [.int i] => Q (.int (if i < 0 then -i else i)) | _ => False
theorem sn_abs : SndN (fun xs H Q => ∃ i, xs = [.int i] ∧ Q (.int (if i < 0 then -i else i)) H) drAbs := fun P A B H xs ds Q Qd p0 nA r h k => by
  match ds, r, h with
  | [.int z], .cons r .nil, h => cases r; exact ⟨_, rfl, k _ H _ (Same.refl H) (.int _) h⟩
def drSum : DRn := fun ds Q => ∃ ns : List Int, ds = [.lst (ns.map D.int)] ∧ Q (.int ns.sum)
theorem sn_sum {K : PySem.W.Frag} : SndN (rSum K) drSum := fun P A B H xs ds Q Qd p0 nA r h k => by
  obtain ⟨ns, rfl, h⟩ := h
  match r with
  | .cons (.lst a1 a2 a3 r) .nil => exact ⟨_, ns, rfl, by rw [← r.ints]; exact SqL.of a1, k _ H _ (Same.refl H) (.int _) h⟩
def drAll : DRn := fun ds Q => ∃ bs : List Bool, ds = [.lst (bs.map D.bl)] ∧ Q (.bl (bs.all id))
def drAny : DRn := fun ds Q => ∃ bs : List Bool, ds = [.lst (bs.map D.bl)] ∧ Q (.bl (bs.any id))
theorem sn_all {K : PySem.W.Frag} : SndN (rAll K) drAll := fun P A B H xs ds Q Qd p0 nA r h k => by
  obtain ⟨ns, rfl, h⟩ := h
  match r with
  | .cons (.lst a1 a2 a3 r) .nil => exact ⟨_, ns, rfl, by rw [← r.bls]; exact SqL.of a1, k _ H _ (Same.refl H) (.bl _) h⟩
theorem sn_any {K : PySem.W.Frag} : SndN (rAny K) drAny := fun P A B H xs ds Q Qd p0 nA r h k => by
  obtain ⟨ns, rfl, h⟩ := h
  match r with
  | .cons (.lst a1 a2 a3 r) .nil => exact ⟨_, ns, rfl, by rw [← r.bls]; exact SqL.of a1, k _ H _ (Same.refl H) (.bl _) h⟩
def drTup : DRn := fun ds Q => match ds with | [.lst l] => flatAll l = true ∧ Q (.tup l) | [.tup l] => flatAll l = true ∧ Q (.tup l) | _ => False
theorem sn_tup {K : PySem.W.Frag} : SndN (fun xs H Q => ∃ p ys, xs = [.ref p] ∧ ((SqL K H p ys ∧ ∀ l, H l = none → Q (.ref l) (upd H l (.tup ys))) ∨ (SqT K H p ys ∧ Q (.ref p) H))) drTup := fun P A B H xs ds Q Qd p0 nA r h k => by
  match ds, r, h with
  | [.lst l], .cons (.lst a1 a2 a3 r) .nil, h =>
    exact ⟨_, _, rfl, .inl ⟨SqL.of a1, fun p hp => k _ _ _ (same_new hp) (.tup upd_same (ne_P p0 hp) (rp_upd hp (fun _ _ _ z => z) (RpAll.flat _ _ h.1 r))) h.2⟩⟩
  | [.tup l], .cons (.tup a1 a2 r) .nil, h => exact ⟨_, _, rfl, .inr ⟨SqT.of a1, k _ H _ (Same.refl H) (.tup a1 a2 (RpAll.flat _ _ h.1 r)) h.2⟩⟩
def drList : DRn := fun ds Q => match ds with | [.lst l] => flatAll l = true ∧ Q (.lst l) | [.tup l] => flatAll l = true ∧ Q (.lst l) | _ => False
theorem sn_list {K : PySem.W.Frag} : SndN (fun xs H Q => ∃ p ys, xs = [.ref p] ∧ (SqL K H p ys ∨ SqT K H p ys) ∧ ∀ l, H l = none → Q (.ref l) (upd H l (.lst ys))) drList := fun P A B H xs ds Q Qd p0 nA r h k => by
  match ds, r, h with
  | [.lst l], .cons (.lst a1 a2 a3 r) .nil, h =>
    exact ⟨_, _, rfl, .inl (SqL.of a1), fun p hp => k _ _ _ (same_new hp) (.lst upd_same (ne_P p0 hp) (nA p hp) (rp_upd hp (fun _ _ _ z => z) (RpAll.flat _ _ h.1 r))) h.2⟩
  | [.tup l], .cons (.tup a1 a2 r) .nil, h =>
    exact ⟨_, _, rfl, .inr (SqT.of a1), fun p hp => k _ _ _ (same_new hp) (.lst upd_same (ne_P p0 hp) (nA p hp) (rp_upd hp (fun _ _ _ z => z) (RpAll.flat _ _ h.1 r))) h.2⟩
def drSorted : DRn := fun ds Q => ∃ ns : List Int, ds = [.lst (ns.map D.int)] ∧ ∀ ns' : List Int, ns'.Perm ns → ns'.Pairwise (· ≤ ·) → Q (.lst (ns'.map D.int))
theorem sn_sorted {K : PySem.W.Frag} : SndN (rSortedI K) drSorted := fun P A B H xs ds Q Qd p0 nA r h k => by
  obtain ⟨ns, rfl, h⟩ := h
  match r with
  | .cons (.lst a1 a2 a3 r) .nil =>
    exact ⟨_, ns, rfl, by rw [← r.ints]; exact SqL.of a1, fun ns' p h1 h2 hp => k _ _ _ (same_new hp) (.lst upd_same (ne_P p0 hp) (nA p hp) (RpAll.of_ints ns')) (h ns' h1 h2)⟩
/-- s.join(xs) -/
def tJoinD (to te : DTE) : DTE := fun _ Δ n Q => to .bor Δ n fun x n1 => match x with | .str a => te .bor Δ n1 fun y n2 => ∃ ys : List Str, y = .lst (ys.map D.str) ∧ (ys.map (·.length)).sum + ys.length * a.length ≤ 16777216 ∧ Q (.str (Txt.join a ys)) n2 | _ => False
section
variable {X : Cx} {e : Expr} {to te : DTE}
theorem d_join (h : PE X e (tM1 (fun x xs H Q => ∃ a p, ∃ ys : List Str, x = .str a ∧ xs = [.ref p] ∧ (SqL X.K H p (ys.map V.str) ∨ SqT X.K H p (ys.map V.str)) ∧ (ys.map (·.length)).sum + ys.length * a.length ≤ 16777216 ∧ Q (.str (Txt.join a ys)) H) (lift to) (lift te))) :
    DE X e (tJoinD to te) := wkE h fun σ H Q ⟨P, H0, B, fr, av, n, Δ, m, Qd, S, bb, h, k⟩ => lift_at .bor S bb h fun v H1 d n1 s1 S1 r1 q1 => by
  cases d <;> first | exact q1.elim | skip
  cases r1
  refine ⟨⟨_, rfl⟩, lift_at .bor S1 (bb.trans s1) q1 fun v2 H2 d2 n2 s2 S2 r2 q2 => ?_⟩
  obtain ⟨ys, rfl, hz, q⟩ := q2
  cases r2 with
  | lst a1 a2 a3 r => exact ⟨_, _, ys, rfl, rfl, .inl (by rw [← r.strs]; exact SqL.of a1), hz, k _ H2 _ n2 (s1.trans s2) S2.pen (.str _) q⟩
/-- x or y, by truth: texts -/
def tOrSD (ta tb : DTE) : DTE := fun m Δ n Q => ta .bor Δ n fun x n1 => match x with | .str z => z.length ≤ sizeLine ∧ if z.length = 0 then tb m Δ n1 Q else Q (.str z) n1 | _ => False
theorem d_orS {a b : Expr} {rest : List Expr} {pos : Pos} {ta tb : DTE} (ha : DE X a ta) (hb : DE X (.BoolOp .Or (b :: rest) pos) tb) : DE X (.BoolOp .Or (a :: b :: rest) pos) (tOrSD ta tb) :=
  wkE (pe_orT ha hb) fun σ H Q ⟨P, H0, B, fr, av, n, Δ, m, Qd, S, bb, h, k⟩ => lift_at .bor S bb h fun v H1 d n1 s1 S1 r1 q1 => by
    cases d <;> first | exact q1.elim | skip
    rename_i z
    cases r1
    obtain ⟨hz, q1⟩ := q1
    refine ⟨_, ⟨hz, rfl⟩, ?_⟩
    by_cases h0 : z.length = 0
    · rw [if_pos h0] at q1
      rw [h0]
      exact lift_at m S1 (bb.trans s1) q1 fun v H2 d n2 s2 S2 r2 q2 => k v H2 d n2 (s1.trans s2) S2.pen r2 q2
    · rw [if_neg h0] at q1
      rw [if_pos (by simp; omega)]
      exact k _ H1 _ n1 s1 S1.pen (.str _) q1
end
end Dl

set_option Elab.async false
set_option linter.all false
set_option maxRecDepth 100000
set_option maxHeartbeats 1000000
namespace Dl
open PySem PySem.Spec PyProof.Rows L2

/-! ### repr, isinstance -/
/- how long a text of it is at most -/
mutual
def szD : D → Nat
  | .non => 4
  | .bl _ => 5
  | .int i => ((toString i : String) : Str).length
  | .str x => (reprText x).length
  | .tup ds => 4 + szDs ds
  | .lst ds => 4 + szDs ds
  | _ => 0
def szDs : List D → Nat
  | [] => 0
  | d :: ds => 2 + szD d + szDs ds
end
/-- ints that are shown, no dict, not deep -/
def rpOk (d : D) : Prop := pyb d = true ∧ (toPy d).showable = true ∧ (toPy d).hasDict = false ∧ (toPy d).depth ≤ 60 ∧ (toPy d).shown.length ≤ sizeLine
def rRepr (K : PySem.W.Frag) : List V → Hp → VK → Prop := fun xs H Q => ∃ x d, xs = [x] ∧ Dp K H x d ∧ d.showable = true ∧ d.hasDict = false ∧ d.depth ≤ 60 ∧ d.shown.length ≤ sizeLine ∧ Q (.str d.shown) H
theorem call_repr {X : Cx} (hu : X.A.units + 64 < cLine) (hg : X.A.guards = some []) : CallR X (.builtin "repr") (rRepr X.K) := by
  intro pins s σ H xs us Q I r h
  obtain ⟨x, d, rfl, dp, h1, h2, h3, h4, q⟩ := h
  cases r with
  | cons r rr =>
    cases rr
    rename_i u
    obtain ⟨as, rd⟩ := Dp.reads I d x u dp r
    have fin : ∀ (h' : Heap) (t : Tok) (tk : Nat), (∀ b o, s.heap.get? b = some o → h'.get? b = some o) → EP X pins σ Q (.str d.shown t) { s with heap := h', toks := tk } := fun h' t tk k => ⟨.str d.shown, H, I.kept k, ⟨t, rfl⟩, q⟩
    cases dp with
    | non => cases r; simp only [PyData.shown] at fin; exact P.repr_of_none (fin s.heap _ _ fun _ _ e => e)
    | bl b => cases r; simp only [PyData.shown] at fin; exact P.repr_of_bool (fin s.heap _ _ fun _ _ e => e)
    | int i =>
      obtain ⟨t, rfl⟩ := r
      simp only [PyData.shown] at fin
      exact P.repr_of_int (by simpa [PyData.showable] using h1) (fin s.heap _ _ fun _ _ e => e)
    | str z =>
      obtain ⟨t, rfl⟩ := r
      simp only [PyData.shown] at fin h4
      exact P.repr_of_str (fin s.heap _ _ fun _ _ e => e) h4
    | lst a b =>
      cases r
      exact repr_of_reads' rd h1 (fun e => by rw [h2] at e; cases e) hg (by omega) (fun _ _ e => e) (fun h' t tk k => fin h' t tk k) h4
    | tup a b =>
      cases r
      exact repr_of_reads' rd h1 (fun e => by rw [h2] at e; cases e) hg (by omega) (fun _ _ e => e) (fun h' t tk k => fin h' t tk k) h4
@[irreducible] def shownD (d : D) : Str := (toPy d).shown
def drRepr : DRn := fun ds Q => match ds with | [d] => rpOk d ∧ Q (.str (shownD d)) | _ => False
theorem sn_repr {K : PySem.W.Frag} : SndN (rRepr K) drRepr := fun P A B H xs ds Q Qd p0 nA r h k => by
  match ds, r, h with
  | [d], .cons r .nil, ⟨⟨h1, h2, h3, h4, h5⟩, h⟩ => exact ⟨_, _, rfl, Rp.dp d _ h1 r, h2, h3, h4, h5, k _ H _ (Same.refl H) (.str _) (by unfold shownD at h; exact h)⟩
def tyD : D → Option String
  | .non => some "NoneType"
  | .bl _ => some "bool"
  | .int _ => some "int"
  | .str _ => some "str"
  | .byt _ => some "bytes"
  | .tup _ => some "tuple"
  | .lst _ => some "list"
  | _ => none
def drIsi : DRn := fun ds Q => match ds with | [d, .opq (.ty T)] => ∃ t b, tyD d = some t ∧ kitB t T = some b ∧ Q (.bl b) | _ => False
theorem tyD_V {K : PySem.W.Frag} {P : Addr} {B : Addr → Prop} {H : Hp} {x : V} {d : D} {t : String} (r : Rp P B H x d) (h : tyD d = some t) : TyX K H x (.type t) := by
  cases r <;> simp only [tyD, Option.some.injEq, reduceCtorEq] at h <;> subst h
  · exact .base .non
  · exact .base (.bl _)
  · exact .base (.int _)
  · exact .base (.str _)
  · exact .byt _
  · rename_i a vs ds h1 h2 h3; exact .base (.tup h1)
  · rename_i a vs ds h1 h2 h3 h4; exact .base (.lst h1)
theorem sn_isi {K : PySem.W.Frag} : SndN (rIsi K) drIsi := fun P A B H xs ds Q Qd p0 nA r h k => by
  match ds, r, h with
  | [d, .opq (.ty T)], .cons r (.cons r2 .nil), ⟨t, b, h1, h2, h⟩ =>
    cases r2
    exact ⟨_, _, _, _, b, rfl, .ty T, tyD_V r h1, kit_ty h2, k _ H _ (Same.refl H) (.bl _) h⟩
theorem d_bltn {X : Cx} {x : Str} {T : String} {pos : Pos} (hg : Gl X x) (hm : X.mg x = none) (hv : bootBuiltins x = some (.type T)) (hn : x ≠ "__name__" := by decide) (hd : (x == ("__debug__" : Str)) = false := by decide) : DE X (.Name x pos) (tCD (.opq (.ty T))) :=
  wkE (pe_bltn (v := .ty T) hg hm hv rfl hn hd) fun _ _ _ h => lift_c rfl (fun _ _ _ => .opq _) h

/-! ### a law's end -/
def spLaw (K : PySem.W.Frag) : Sp := fun vs H Q _ => ∃ (a : Addr) (ns : List Int), vs = [.ref a] ∧ SqL K H a (ns.map V.int) ∧ ns.length ≤ 63 ∧ ∀ H', Q (.bl true) H'
/-- the law's call behind the top, where the script is tracked as the object that it is, or is one of the module's own -/
theorem law_callG {P : Program} {w : World} {K : PySem.W.Frag} {mg mb : Str → Option Value} {k : Nat} {fa a : Addr} {fd : FuncData} {x : Str} {s₁ : Shared} {vs : List Value} {ns : List Int}
    (kin : K.In s₁.heap) (gl : s₁.heap.Ns mainGlobals mg) (bl : s₁.heap.Ns builtinsNs mb) (hbb : ∀ y : Str, y ≠ "__name__" → mb y = bootBuiltins y) (nol : s₁.heap.NoLimit) (gens : s₁.gens = #[])
    (scr : s₁.heap.get? a = some { cls := .type "list", data := .seq vs.toArray }) (isI : IntsAre vs ns) (few : ns.length ≤ 63) (hr : Room k callerA)
    (F : ∀ base : Heap, K.In base → base.Ns mainGlobals mg → FnG P w K mg base CX0 k fa fd [x] (spLaw K)) (bind : ∀ (s : Shared) (u : Value), BindsTo s fd ⟨[u], []⟩ [(x, u)]) :
    codeAny (model P w) callerA (.call (.ref fa) ⟨[.ref a], []⟩) (fun r s' => r = .ok (.ret (.bool true)) ∧ OldK s₁.heap s'.heap ∧ s'.os = s₁.os ∧ AllBare s'.gens) s₁ := by
  have rv := vals_ints isI
  -- H tracks at most the script, as what is known to the object
  suffices core : ∀ H : Hp, (∀ b u, H b = some u → b = a ∧ ∃ o xs, u = .frz o (.lst xs)) → SqL K H a (ns.map V.int) → HOk P w H s₁.heap → (H a ≠ none → K.lookup a = none) →
      codeAny (model P w) callerA (.call (.ref fa) ⟨[.ref a], []⟩) (fun r s' => r = .ok (.ret (.bool true)) ∧ OldK s₁.heap s'.heap ∧ s'.os = s₁.os ∧ AllBare s'.gens) s₁ by
    cases own : K.lookup a with
    | some o =>
      have e := kin a o own
      rw [scr] at e
      cases e
      refine core (fun _ => none) (fun b u z => by cases z) ?_ (fun b u z => by cases (show (none : Option HO) = some u from z)) (fun z => absurd rfl z)
      exact .inr ⟨_, vs.toArray, _, own, rfl, rfl, rfl, by rw [List.size_toArray, isI.length]; exact Nat.le_trans few (by decide), by simpa using rv⟩
    | none =>
      refine core (fun b => if b = a then some (.frz { cls := .type "list", data := .seq vs.toArray } (.lst (ns.map V.int))) else none) ?_ ?_ ?_ (fun _ => own)
      · intro b u z
        by_cases q : b = a
        · have z2 := (if_pos q).symm.trans z
          cases z2
          exact ⟨q, _, _, rfl⟩
        · have z2 := (if_neg q).symm.trans z
          cases z2
      · exact .inl (.inr ⟨{ cls := .type "list", data := .seq vs.toArray }, if_pos rfl⟩)
      · intro b u z
        by_cases q : b = a
        · have z2 := (if_pos q).symm.trans z
          cases z2
          subst q
          exact ⟨scr, by rw [List.length_map]; exact Nat.le_trans few (by decide), vs, _, rv, scr⟩
        · have z2 := (if_neg q).symm.trans z
          cases z2
  intro H only seq ok apart
  have untracked : ∀ {b : Addr} {o : Obj}, s₁.heap.get? b = some o → (b = a → False) → (hidT s₁.heap H).get? b = some o := fun {b o} e ne => hidT_get e (by
    cases q : H b with
    | none => rfl
    | some u => exact (ne (only b u q).1).elim)
  have nsA : ∀ {b : Addr} {m : Str → Option Value}, s₁.heap.Ns b m → (hidT s₁.heap H).Ns b m := fun {b m} z => by
    obtain ⟨o, es, ep, e, d, rest⟩ := z
    refine ⟨o, es, ep, untracked e (fun q => ?_), d, rest⟩
    subst q
    rw [scr] at e
    cases e
    cases (show Data.seq vs.toArray _ = Data.dict es ep from d)
  have kinA : K.In (hidT s₁.heap H) := fun b o e => hidT_get (kin b o e) (by
    cases q : H b with
    | none => rfl
    | some u =>
      have eb := (only b u q).1
      subst eb
      rw [apart (by rw [q]; simp)] at e
      cases e)
  have modA : Mod K mg (hidT s₁.heap H) := ⟨kinA, nsA gl, ⟨mb, nsA bl, hbb⟩, nol.elim fun mc z => ⟨mc, nsA z.1, z.2⟩⟩
  have e0 : Env0 P w K mg (hidT s₁.heap H) callerA [] s₁ H :=
    { frames := rfl, mod := modA, bs := fun b o e => of_hidT e, bsz := Nat.le_of_eq (hidT_size _ _), funs := trivial, frf := fun b hb => absurd (show b ∈ ([] : List Addr) from hb) (by simp), hok := ok, bare := .of_eq gens }
  refine codeAny_mono ((F _ kinA (nsA gl)).go callerA [] s₁ H ⟨[.ref a], []⟩ [.ref a] [.ref a] (fun v _ => v = .bl true) (fun _ _ _ => False) hr rfl e0 (bind s₁ (.ref a)) (.cons rfl .nil) ⟨a, ns, rfl, seq, few, fun _ => rfl⟩) ?_
  intro r s' z
  match r, z with
  | .error e, z => exact (show False from z).elim
  | .ok .next, z => exact False.elim z
  | .ok .brk, z => exact False.elim z
  | .ok .cont, z => exact False.elim z
  | .ok (.ret u), z =>
    obtain ⟨v, H', os, bare, un, ok', rel, q⟩ := z
    cases (show v = .bl true from q)
    cases (show u = Value.bool true from rel)
    refine ⟨rfl, OldK.of_keep fun b o e => ?_, os, bare⟩
    cases q : H b with
    | none => exact un.keep b o e q (fun z => absurd (show b ∈ ([] : List Addr) from z) (by simp)) (by simp)
    | some u =>
      obtain ⟨_, ob, xs, rfl⟩ := only b u q
      have e1 := (ok b _ q).1
      have e2 := (ok' b _ (un.frzs b ob _ q)).1
      rw [e] at e1
      cases e1
      exact e2
theorem walkG {l : PySem.W.OpenLaw} {k : Nat} {q : Program} {loose : List Str} {XP : (Str → Option Value) → Heap → Prop} {YP : World → Heap → Prop} {d : DefRec} {K : Params → PySem.W.Frag}
    (hn : l.most = some 63) (hdf : d.params.defaults = []) (hr : Room k callerA) (hY : ∀ (w : World) (h : Heap), YP w h → (K w.params).In h)
    (F : ∀ (w : World) (mg : Str → Option Value) (fa : Addr) (h : Heap), (K w.params).In h → h.Ns mainGlobals mg → mg d.name = some (.ref fa) →
      ∃ fd : FuncData, (∀ (s : Shared) (u : Value), BindsTo s fd ⟨[u], []⟩ [("script", u)]) ∧
        ∀ base : Heap, (K w.params).In base → base.Ns mainGlobals mg → FnG l.prog w (K w.params) mg base CX0 k fa fd ["script"] (spLaw (K w.params))) :
    PySem.W.WalkO q loose XP YP l.row.toRowW d [] (fun f vs => PySem.call f vs) := by
  refine Att.attach_call hn hdf ?_
  intro w s₀ s₁ mg mb fa o pm cd doc a vs ns G Y ho hd hcd hmg hobj hints hlen hg
  obtain ⟨fd, hb, hF⟩ := F w mg fa _ (hY w _ Y) G.T.g hmg
  exact law_callG (hY w _ Y) G.T.g G.T.b G.T.builtins G.T.nolimit hg hobj hints hlen hr hF hb
end Dl

set_option Elab.async false
set_option linter.all false
set_option maxRecDepth 100000
set_option maxHeartbeats 1000000
namespace Dl
open PySem PySem.Spec PyProof.Rows L2

/-! ### + and * whatever the kinds; a def as its callers know it -/
def drAdd : DR2 := fun x y Q => match x, y with
  | .int i, .int j => Q (.int (i + j))
  | .str i, .str j => i.length + j.length ≤ sizeLine ∧ Q (.str (i ++ j))
  | .lst i, .lst j => i.length + j.length ≤ sizeLine ∧ flatAll i = true ∧ flatAll j = true ∧ Q (.lst (i ++ j))
  | .tup i, .tup j => i.length + j.length ≤ sizeLine ∧ flatAll i = true ∧ flatAll j = true ∧ Q (.tup (i ++ j))
  | _, _ => False
abbrev rAddU (K : PySem.W.Frag) : R2 := fun x y H Q => (rI0 (fun i j => .int (i + j))) x y H Q ∨ (fun x y H Q => (fun x y H Q => ∃ i j, x = .str i ∧ y = .str j ∧ i.length + j.length ≤ sizeLine ∧ Q (.str (i ++ j)) H) x y H Q ∨ (fun x y H Q => rCat x y H Q ∨ rCatA K x y H Q) x y H Q) x y H Q
theorem op_addU {X : Cx} : OpR X (binaryOp .Add) (rAddU X.K) := op_add.or (op_add_str.or (op_cat.or op_catA))
theorem sn_add {K : PySem.W.Frag} : Snd2 (rAddU K) drAdd := fun P A B H x y d e Q Qd p0 nA rx ry h k => by
  cases d <;> cases e <;> first | exact h.elim | skip
  · exact .inl (sn_I0 (g := fun i j => i + j) P A B H x y _ _ Q Qd p0 nA rx ry h k)
  · exact .inr (.inl (sn_addS P A B H x y _ _ Q Qd p0 nA rx ry h k))
  · exact .inr (.inr (.inr (sn_catT P A B H x y _ _ Q Qd p0 nA rx ry h k)))
  · exact .inr (.inr (.inl (sn_catL P A B H x y _ _ Q Qd p0 nA rx ry h k)))
def drMul : DR2 := fun x y Q => match x, y with
  | .int i, .int j => CMul i j ∧ Q (.int (i * j))
  | .lst i, .int j => -(2 ^ 63) ≤ j ∧ j < 2 ^ 63 ∧ i.length * j.toNat ≤ sizeLine ∧ flatAll i = true ∧ Q (.lst (List.replicate j.toNat i).flatten)
  | _, _ => False
theorem op_mulU {X : Cx} : OpR X (binaryOp .Mult) (fun x y H Q => (rI CMul (fun i j => .int (i * j))) x y H Q ∨ rRep x y H Q) := op_mul.or op_rep
theorem sn_mul : Snd2 (fun x y H Q => (rI CMul (fun i j => .int (i * j))) x y H Q ∨ rRep x y H Q) drMul := fun P A B H x y d e Q Qd p0 nA rx ry h k => by
  cases d <;> cases e <;> first | exact h.elim | skip
  · exact .inl (sn_I (g := fun i j => i * j) P A B H x y _ _ Q Qd p0 nA rx ry h k)
  · exact .inr (sn_rep P A B H x y _ _ Q Qd p0 nA rx ry h k)
abbrev drSub := drI0 (fun i j => i - j)
abbrev drMod := drI (fun _ j => 0 < j) (fun i j => i % j)
abbrev drDiv := drI CDiv (fun i j => i / j)
abbrev drPow := drI CPow (fun i j => i ^ j.toNat)
abbrev drLt := drB0 (fun i j => decide (i < j))
abbrev drLe := drB0 (fun i j => decide (i ≤ j))
abbrev drGt := drB0 (fun i j => decide (j < i))
abbrev drGe := drB0 (fun i j => decide (j ≤ i))
theorem sn_sub : Snd2 (rI0 fun i j => .int (i - j)) drSub := sn_I0
theorem sn_mod : Snd2 (rI (fun _ j => 0 < j) fun i j => .int (i % j)) drMod := sn_I
theorem sn_div : Snd2 (rI CDiv fun i j => .int (i / j)) drDiv := sn_I
theorem sn_pow : Snd2 (rI CPow fun i j => .int (i ^ j.toNat)) drPow := sn_I
theorem sn_lt : Snd2 (rI0 fun i j => .bl (decide (i < j))) drLt := sn_B0
theorem sn_le : Snd2 (rI0 fun i j => .bl (decide (i ≤ j))) drLe := sn_B0
theorem sn_gt : Snd2 (rI0 fun i j => .bl (decide (j < i))) drGt := sn_B0
theorem sn_ge : Snd2 (rI0 fun i j => .bl (decide (j ≤ i))) drGe := sn_B0

/-- a def of the module as its callers know it -/
structure Cal (P : Program) (w : World) (K : PySem.W.Frag) (mg : Str → Option Value) (base : Heap) (x : Str) (k : Nat) (ps : List Str) (kws : List (List Str × List Nat)) (sp : Sp) : Prop where
  ex : ∃ (f : Addr) (fd : FuncData), mg x = some (.ref f) ∧ PySem.W.keepIn K (.ref f) = true ∧ Binds K fd ps [] ∧ (∀ q ∈ kws, KwB K fd ps q.1 q.2) ∧ FnG P w K mg base CX0 k f fd ps sp
section
variable {X : Cx} {k : Nat} {ps ks : List Str} {kw : List (List Str × List Nat)} {sp : DSp} {x : Str} {p pos : Pos} {e : Expr} {es : List Expr} {kws : List Keyword} {ta tk : DTA} {pr : List Nat}
theorem d_cal (c : Cal X.prog X.w X.K X.mg X.base x k ps kw (liftF sp)) (hr : Room k X.A) (hgd : X.A.guards = some []) (ha : DA X (e :: es) ta) (hg : Gl X x := by rfl)
    (hdb : (x == ("__debug__" : Str)) = false := by decide) (he : starEach (e :: es) X.env = (false, eval e X.env) :: starEach es X.env := by rfl) (hpl : (backTo pos (starEach es X.env)).any (·.1) = false := by rfl) :
    DE X (.Call (.Name x p) (e :: es) [] pos) (tCallD sp ta) := by
  obtain ⟨f, fd, h1, h2, h3, h4, F⟩ := c.ex
  exact d_call F hr hgd hg h1 h2 h3 ha hdb he hpl
theorem d_cal0 (c : Cal X.prog X.w X.K X.mg X.base x k ps kw (liftF sp)) (hr : Room k X.A) (hgd : X.A.guards = some []) (hg : Gl X x := by rfl) (hdb : (x == ("__debug__" : Str)) = false := by decide) :
    DE X (.Call (.Name x p) [] [] pos) (tCallD sp tNilD) := by
  obtain ⟨f, fd, h1, h2, h3, h4, F⟩ := c.ex
  exact d_call0 F hr hgd hg h1 h2 h3 hdb
theorem d_calK (pr : List Nat) (ks : List Str) (hq : (ks, pr) ∈ kw) (c : Cal X.prog X.w X.K X.mg X.base x k ps kw (liftF sp)) (hr : Room k X.A) (hgd : X.A.guards = some []) (ha : DA X (e :: es) ta) (hkw : DKw X kws tk) (hg : Gl X x := by rfl)
    (hall : (backToKw pos (keywordEach kws X.env)).all (·.1.isSome) = true := by rfl) (hks : (backToKw pos (keywordEach kws X.env)).filterMap (·.1) = ks := by rfl)
    (hdb : (x == ("__debug__" : Str)) = false := by decide) (he : starEach (e :: es) X.env = (false, eval e X.env) :: starEach es X.env := by rfl)
    (hpl : ((backTo pos (starEach (e :: es) X.env)).any (·.1) || (backToKw pos (keywordEach kws X.env)).any (·.1.isNone)) = false := by rfl) :
    DE X (.Call (.Name x p) (e :: es) kws pos) (tCallKD sp pr ta tk) := by
  obtain ⟨f, fd, h1, h2, h3, h4, F⟩ := c.ex
  exact d_callK F hr hgd hg h1 h2 (h4 _ hq) ha hkw hall hks hdb he hpl
theorem d_calK0 (pr : List Nat) (ks : List Str) (hq : (ks, pr) ∈ kw) (c : Cal X.prog X.w X.K X.mg X.base x k ps kw (liftF sp)) (hr : Room k X.A) (hgd : X.A.guards = some []) (hkw : DKw X kws tk) (hg : Gl X x := by rfl)
    (hall : (backToKw pos (keywordEach kws X.env)).all (·.1.isSome) = true := by rfl) (hks : (backToKw pos (keywordEach kws X.env)).filterMap (·.1) = ks := by rfl)
    (hdb : (x == ("__debug__" : Str)) = false := by decide)
    (hpl : (backToKw pos (keywordEach kws X.env)).any (·.1.isNone) = false := by rfl) :
    DE X (.Call (.Name x p) [] kws pos) (tCallKD sp pr tNilD tk) := by
  obtain ⟨f, fd, h1, h2, h3, h4, F⟩ := c.ex
  exact d_callK0 F hr hgd hg h1 h2 (h4 _ hq) hkw hall hks hdb hpl
end
end Dl

set_option Elab.async false
set_option linter.all false
set_option maxRecDepth 100000
set_option maxHeartbeats 1000000
namespace Dl
open PySem PySem.Spec PyProof.Rows L2
def tNeverD : DTS := fun _ _ _ => False
section
variable {X : Cx} {st : Stmt}
theorem ds_never : DS X st tNeverD := wkS ps_never fun E σ H ⟨P, H0, fr, av, n, Δ, Dd, S, h, k⟩ => h
end
abbrev tWL (te : DTE) : DTI := fun m Δ n Q => tWLst te m Δ n fun ds n1 => ds.length ≤ sizeLine ∧ Q ds n1
abbrev tWT (te : DTE) : DTI := fun m Δ n Q => tWTup te m Δ n fun ds n1 => ds.length ≤ sizeLine ∧ Q ds n1
section
variable {P : Program} {w : World} {K : PySem.W.Frag} {mg : Str → Option Value} {base : Heap}
/-- keywords' values come behind the positional ones -/
theorem kwb_of {x qual : Str} {st : Stmt} {f : Addr} {fd : FuncData} {ps ks : List Str} {pr : List Nat} (np : Nat) (F : L2.Fun K x qual st f fd) (hl : pr.length = ks.length) (hlt : ∀ i ∈ pr, i < ks.length) (hn : np + ks.length = ps.length)
    (h : ∀ (kV doc pm : Value) (an : Option Addr) (cdv ct : Value) (us ws : List Value), us.length = np → ws.length = ks.length →
      bindArgs (PySem.W.fnOf x qual (defArgs st) (defBody st) (defScope st) .none kV doc pm an cdv ct) ⟨us, ks.zip ws⟩ = pure (ps.zip (us ++ pr.filterMap fun i => ws[i]?))) : KwB K fd ps ks pr := by
  obtain ⟨oc, od, kV, doc, pm, an, cdv, ct, osl, rfl, lk, hcd⟩ := F.ex
  exact ⟨fun s us ws _ h1 h2 => .of_eq (h kV doc pm an cdv ct us ws (by omega) h2), hl, hlt⟩
theorem pe_cal {X : Cx} {k : Nat} {ps : List Str} {kw : List (List Str × List Nat)} {sp : Sp} {x : Str} {p pos : Pos} {e : Expr} {es : List Expr} {t : TA} (c : Cal X.prog X.w X.K X.mg X.base x k ps kw sp) (hr : Room k X.A) (hgd : X.A.guards = some []) (ha : PA X (e :: es) t) (hg : Gl X x := by rfl)
    (hdb : (x == ("__debug__" : Str)) = false := by decide) (he : starEach (e :: es) X.env = (false, eval e X.env) :: starEach es X.env := by rfl) (hpl : (backTo pos (starEach es X.env)).any (·.1) = false := by rfl) :
    PE X (.Call (.Name x p) (e :: es) [] pos) (fun σ H Q => t σ H fun vs H1 => sp vs H1 Q E0) := by
  obtain ⟨f, fd, h1, h2, h3, h4, F⟩ := c.ex
  exact pe_callG F hr hgd hg h1 h2 h3 pass0 ha hdb he hpl
def spPen (K : PySem.W.Frag) : Sp := fun vs H Q _ => ∃ (a : Addr) (ns : List Int), vs = [.ref a] ∧ SqL K H a (ns.map V.int) ∧ ns.length ≤ 63 ∧ ∀ H' p, Same H H' → H p = none → PenOk p 0 H' → Q (.ref p) H'
/-- a law: the pen is made, the rest is over data -/
theorem law_ok {st : Stmt} {f : Addr} {fd : FuncData} {N : List Str} {k : Nat} {t : DTS} (F : L2.Fun K "law" "law" st f fd) (S : FnScope N ["script"] (defScope st))
    (hbody : ∀ (cv : Value) (A : Around) (fs : List Env) (s : Shared) (H : Hp) (E : XK), Room k (A.deeper (envOfC "law" (defScope st) s.heap.objs.size f cv)) → (A.deeper (envOfC "law" (defScope st) s.heap.objs.size f cv)).guards = some [] →
      PSs (cxOf CX0 P w K mg base N "law" (defScope st) f cv A fs s H E).nox (defBody st) (tSeq (tAsg (fun σ H Q => (tCons (tVar 0) tNil) σ H fun vs H1 => spPen K vs H1 Q E0) (gName 1)) (liftS t)))
    (hread : ∀ v : V, t { nx := fun _ _ => False, rt := fun d _ => d = .bl true } ((startD N [.opq v]).set 1 (some (.frz .pen))) 0) : FnG P w K mg base CX0 (k + 1) f fd ["script"] (spLaw K) := by
  refine fn_body F S (fun vs H Q E h => ?_) (fun cdv A outer s H vs Q E hr hgd h => ?_)
  · obtain ⟨a, ns, rfl, _⟩ := h
    rfl
  · obtain ⟨a, ns, rfl, hS, hl, q⟩ := h
    refine ⟨_, PSs.nox (hbody cdv A outer s H E hr hgd), ?_⟩
    have e0 : (L2.start N [V.ref a])[0]? = some (some (V.ref a)) := rfl
    refine ⟨_, e0, a, ns, rfl, hS, hl, fun H1 p s1 hp pen => ?_⟩
    have S1 : StR p H1 [] [] 0 (L2.start N [V.ref a]) (startD N [.opq (.ref a)]) H1 := StR.start pen (.cons (.opq _) .nil)
    refine ⟨p, H1, [], [], 0, _, _, S1.setF 1 .pen, hread _, ⟨fun _ _ _ _ _ z => z.elim, fun v H' d n' s p r z => ?_, fun _ _ _ _ _ z => z, fun _ _ _ _ _ z => z⟩⟩
    subst z
    cases r
    exact q H'
end
end Dl

set_option Elab.async false
set_option linter.all false
set_option maxRecDepth 100000
set_option maxHeartbeats 1000000
/-! What is drawn: the specs of the laws' own drawing defs; houses, standings as data. -/
namespace Dl
open PySem PySem.Spec PyProof.Rows L2

abbrev lim : Nat := 4000000
def spPick : DSp := fun ds n Q => ∃ u : Int, ds = [.pen, .int u] ∧ 0 < u ∧ u < 1073741824 ∧ n < lim ∧ ∀ z : Int, 0 ≤ z → z < u → Q (.int z) (n + 1)
theorem pick_use {Pn : Addr} {n : Nat} {u : Int} {H : Hp} {Q : VK} {E : XK} (pen : PenOk Pn n H) (h0 : 0 < u) (h1 : u < 1073741824) (hn : n < lim) (h : ∀ z H', 0 ≤ z → z < u → SameP Pn H H' → PenOk Pn (n + 1) H' → Q (.int z) H') :
    liftF spPick [.ref Pn, .int u] H Q E :=
  ⟨Pn, n, [.pen, .int u], fun d n' => n' = n + 1 ∧ ∃ z : Int, d = .int z ∧ 0 ≤ z ∧ z < u, pen, .cons .pen (.cons (.int u) .nil), ⟨u, rfl, h0, h1, hn, fun z z0 z1 => ⟨rfl, z, rfl, z0, z1⟩⟩, fun v H' d n' s p r q => by
    obtain ⟨rfl, z, rfl, z0, z1⟩ := q
    cases r
    exact h z H' z0 z1 s p⟩

/-! ### houses and standings as data -/
abbrev Hs := List (List Int)
def encI (r : List Int) : D := .tup (r.map D.int)
def encH (h : Hs) : D := .tup (h.map encI)
def encS (b : List Int) (at' : Int) : D := .tup [encI b, .int at']
theorem flat_encI (r : List Int) : flat (encI r) = true := by
  show flat (.tup (r.map D.int)) = true
  simp only [flat]
  exact flat_ints r
theorem flat_encH (h : Hs) : flat (encH h) = true := by
  show flat (.tup (h.map encI)) = true
  simp only [flat]
  exact flatAll_map flat_encI h
theorem flat_encS (b : List Int) (a : Int) : flat (encS b a) = true := by
  show flat (.tup [encI b, .int a]) = true
  simp only [flat, flatAll, flat_encI]; rfl
/-- rooms with the ends of so many wires, each end once -/
structure IsHs (h : Hs) (rooms wires : Nat) : Prop where
  len : h.length = rooms
  perm : h.flatten.Perm ((List.range (2 * wires)).map fun (k : Nat) => (k : Int))
def spPlan : DSp := fun ds n Q => ∃ rooms wires : Nat, ds = [.pen, .int rooms, .int wires] ∧ 1 ≤ rooms ∧ rooms ≤ 100 ∧ wires ≤ 100 ∧ n + 4 * wires ≤ lim ∧ ∀ h, IsHs h rooms wires → Q (encH h) (n + 4 * wires)

/-! ### plan, by hand: a list of lists that grow -/
abbrev RowAt (H : Hp) : Addr → List Int → Prop := fun a r => H a = some (.lst (r.map V.int))
abbrev RowsAt (H : Hp) : List Addr → List (List Int) → Prop := Paired (RowAt H)
theorem RowsAt.get {H : Hp} : ∀ {as : List Addr} {rs : List (List Int)} {j : Nat} {a : Addr}, RowsAt H as rs → as[j]? = some a → ∃ r, rs[j]? = some r ∧ RowAt H a r
  | _, _, _, _, .nil, e => by simp at e
  | _, _, 0, _, .cons r _, e => by simp at e; subst e; exact ⟨_, rfl, r⟩
  | _, _, j + 1, a, .cons _ t, e => by
    obtain ⟨u, h1, h2⟩ := RowsAt.get (j := j) (a := a) t (by simpa using e)
    exact ⟨u, by simpa using h1, h2⟩
theorem RowsAt.imp {H H' : Hp} : ∀ {as : List Addr} {rs : List (List Int)}, RowsAt H as rs → (∀ a ∈ as, ∀ o, H a = some o → H' a = some o) → RowsAt H' as rs
  | _, _, .nil, _ => .nil
  | _, _, .cons r t, f => .cons (f _ (List.mem_cons_self ..) _ r) (RowsAt.imp t fun a ha => f a (List.mem_cons_of_mem _ ha))
theorem RowsAt.upd {H : Hp} {a : Addr} {r : List Int} : ∀ {as : List Addr} {rs : List (List Int)} {j : Nat}, RowsAt H as rs → as.Nodup → as[j]? = some a → RowsAt (upd H a (.lst (r.map V.int))) as (rs.set j r)
  | _, _, _, .nil, _, e => by simp at e
  | b :: as, _, 0, .cons _ t, nd, e => by
    simp at e; subst e
    rw [List.nodup_cons] at nd
    exact .cons upd_same (RowsAt.imp t fun c hc o ho => by rw [upd_ne (show c ≠ b from fun z => nd.1 (by rw [← z]; exact hc))]; exact ho)
  | b :: as, _, j + 1, .cons q t, nd, e => by
    rw [List.nodup_cons] at nd
    have e' : as[j]? = some a := by simpa using e
    refine .cons ?_ (RowsAt.upd t nd.2 e')
    show Dl.RowAt (L2.upd H a _) b _
    unfold RowAt
    rw [upd_ne (show b ≠ a from fun z => nd.1 (by rw [z]; exact List.mem_of_getElem? e'))]; exact q
theorem RowsAt.push {H : Hp} {a : Addr} {r : List Int} : ∀ {as : List Addr} {rs : List (List Int)}, RowsAt H as rs → RowAt H a r → RowsAt H (as ++ [a]) (rs ++ [r])
  | _, _, .nil, q => .cons q .nil
  | _, _, .cons p t, q => .cons p (RowsAt.push t q)
theorem flat_set_perm : ∀ (rs : List (List Int)) (j : Nat) (r : List Int) (i : Nat) (x : Int), rs[j]? = some r → (rs.set j (r.take i ++ [x] ++ r.drop i)).flatten.Perm (x :: rs.flatten)
  | [], j, r, i, x, h => by simp at h
  | s :: rs, 0, r, i, x, h => by
    simp at h; subst h
    rw [List.set_cons_zero, List.flatten_cons, List.flatten_cons]
    have p1 : (s.take i ++ [x] ++ s.drop i).Perm (x :: s) := by
      rw [List.append_assoc, List.singleton_append]
      refine List.perm_middle.trans ?_
      rw [List.take_append_drop]
    exact List.Perm.append_right _ p1
  | s :: rs, j + 1, r, i, x, h => by
    rw [List.set_cons_succ, List.flatten_cons, List.flatten_cons]
    exact (List.Perm.append_left s (flat_set_perm rs j r i x (by simpa using h))).trans List.perm_middle
end Dl

set_option Elab.async false
set_option linter.all false
set_option maxRecDepth 100000
set_option maxHeartbeats 1000000
namespace Dl
open PySem PySem.Spec PyProof.Rows L2
theorem lcW_mapE {α : Type} {i : Nat} {tt : DTT} {te : DTE} {m : Md} {Δ : DEnv} {Q : D → Nat → Prop} (e f : α → D) (htt : tt = tYesD) : ∀ (xs : List α) (acc : List D) (n : Nat), acc.length + xs.length ≤ sizeLine →
    (∀ x ∈ xs, ∀ n' Q', Q' (f x) n' → te m (Δ.set i (some (.frz (e x)))) n' Q') → Q (.lst (acc ++ xs.map f)) n → lcW i tt te m Δ Q (xs.map e) acc n
  | [], acc, n, _, _, q => by rw [List.map_nil, List.append_nil] at q; exact q
  | x :: xs, acc, n, hz, h, q => by
    subst htt
    rw [List.length_cons] at hz
    refine h x (List.mem_cons_self ..) n _ ⟨by omega, lcW_mapE e f rfl xs (acc ++ [f x]) n ?_ (fun d' hd' => h d' (List.mem_cons_of_mem _ hd')) ?_⟩
    · rw [List.length_append, List.length_singleton]; omega
    · rw [List.append_assoc]; exact q
theorem lcW_filterE {α : Type} {i : Nat} {tt : DTT} {te : DTE} {m : Md} {Δ : DEnv} {Q : D → Nat → Prop} (e : α → D) (p : α → Bool) (f : α → D) : ∀ (xs : List α) (acc : List D) (n : Nat), acc.length + xs.length ≤ sizeLine →
    (∀ x ∈ xs, ∀ n' Q', Q' (p x) n' → tt (Δ.set i (some (.frz (e x)))) n' Q') → (∀ x ∈ xs, p x = true → ∀ n' Q', Q' (f x) n' → te m (Δ.set i (some (.frz (e x)))) n' Q') → Q (.lst (acc ++ (xs.filter p).map f)) n → lcW i tt te m Δ Q (xs.map e) acc n
  | [], acc, n, _, _, _, q => by rw [List.filter_nil, List.map_nil, List.append_nil] at q; exact q
  | x :: xs, acc, n, hz, h1, h2, q => by
    rw [List.length_cons] at hz
    refine h1 x (List.mem_cons_self ..) n _ ?_
    cases hp : p x with
    | true =>
      rw [if_pos rfl]
      refine h2 x (List.mem_cons_self ..) hp n _ ⟨by omega, lcW_filterE e p f xs (acc ++ [f x]) n ?_ (fun d' hd' => h1 d' (List.mem_cons_of_mem _ hd')) (fun d' hd' => h2 d' (List.mem_cons_of_mem _ hd')) ?_⟩
      · rw [List.length_append, List.length_singleton]; omega
      · rw [List.filter_cons_of_pos hp, List.map_cons] at q
        rw [List.append_assoc]; exact q
    | false =>
      rw [if_neg Bool.false_ne_true]
      refine lcW_filterE e p f xs acc n (by omega) (fun d' hd' => h1 d' (List.mem_cons_of_mem _ hd')) (fun d' hd' => h2 d' (List.mem_cons_of_mem _ hd')) ?_
      rw [List.filter_cons_of_neg (by rw [hp]; exact Bool.false_ne_true)] at q
      exact q
/-- .. drawn, with a bound for how many they are -/
theorem lcW_some {i : Nat} {tt : DTT} {te : DTE} {m : Md} {Δ : DEnv} {Q : D → Nat → Prop} (htt : tt = tYesD) (L : Nat) (hL : L ≤ sizeLine) (R : List D → Nat → Prop) : ∀ (ds acc : List D) (n : Nat), acc.length + ds.length = L → R acc n →
    (∀ d ∈ ds, ∀ acc n' Q', acc.length < L → R acc n' → (∀ y n'', R (acc ++ [y]) n'' → Q' y n'') → te m (Δ.set i (some (.frz d))) n' Q') → (∀ acc' n', acc'.length = L → R acc' n' → Q (.lst acc') n') → lcW i tt te m Δ Q ds acc n
  | [], acc, n, hz, r, _, q => q acc n (by simpa using hz) r
  | d :: ds, acc, n, hz, r, h, q => by
    subst htt
    rw [List.length_cons] at hz
    refine h d (List.mem_cons_self ..) acc n _ (by omega) r fun y n'' r' => ⟨by omega, lcW_some rfl L hL R ds (acc ++ [y]) n'' ?_ r' (fun d' hd' => h d' (List.mem_cons_of_mem _ hd')) q⟩
    rw [List.length_append, List.length_singleton]; omega
/-- a range as a map -/
def rangeI (n : Nat) : List Int := (List.range n).map fun (k : Nat) => (k : Int)
theorem rangeD_eq : ∀ (n : Nat) (lo : Int), rangeD lo n = ((List.range n).map fun (k : Nat) => lo + (k : Int)).map D.int
  | 0, _ => rfl
  | n + 1, lo => by
    rw [rangeD, rangeD_eq n (lo + 1), List.range_succ_eq_map, List.map_cons, List.map_cons, List.map_map, List.map_map, List.map_map]
    congr 1
    · simp
    · refine List.map_congr_left fun k _ => ?_
      simp only [Function.comp, Nat.succ_eq_add_one]
      congr 1
      omega
theorem range0_eq (n : Nat) : rangeD 0 n = (rangeI n).map D.int := by
  rw [rangeD_eq]
  unfold rangeI
  congr 1
  refine List.map_congr_left fun k _ => ?_
  omega
theorem rangeI_length (n : Nat) : (rangeI n).length = n := by unfold rangeI; rw [List.length_map, List.length_range]
theorem mem_rangeI {n : Nat} {i : Int} : i ∈ rangeI n ↔ 0 ≤ i ∧ i < n := by
  unfold rangeI
  rw [List.mem_map]
  constructor
  · rintro ⟨k, hk, rfl⟩
    rw [List.mem_range] at hk
    omega
  · rintro ⟨h0, h1⟩
    exact ⟨i.toNat, by rw [List.mem_range]; omega, by omega⟩
theorem atI_get {α : Type} {xs : List α} {j : Nat} {x : α} (h : xs[j]? = some x) : atI xs (j : Int) = some x := atI_nat h
/-- an item at an int place -/
theorem atI_int {α : Type} {xs : List α} {i : Int} (h0 : 0 ≤ i) (h1 : i < xs.length) : ∃ x, atI xs i = some x ∧ x ∈ xs ∧ xs[i.toNat]? = some x := by
  have hl : i.toNat < xs.length := by omega
  refine ⟨xs[i.toNat], ?_, List.getElem_mem hl, List.getElem?_eq_getElem hl⟩
  have e : ((i.toNat : Nat) : Int) = i := by omega
  have := atI_nat (xs := xs) (j := i.toNat) (v := xs[i.toNat]) (List.getElem?_eq_getElem hl)
  rw [e] at this
  exact this
end Dl

set_option Elab.async false
set_option linter.all false
set_option maxRecDepth 100000
set_option maxHeartbeats 1000000
namespace Dl
open PySem PySem.Spec PyProof.Rows L2
/-! ### what repr and == take: data that is tame -/
/- ints of at most 59 figures, texts, none deeper than k -/
mutual
def tm : Nat → D → Bool
  | _, .non => true
  | _, .bl _ => true
  | _, .int i => decide (i.natAbs < 10 ^ 59)
  | _, .str x => x.cps.toList.all fun c => decide (c < 1114112)
  | k + 1, .tup ds => tms k ds
  | k + 1, .lst ds => tms k ds
  | _, _ => false
def tms : Nat → List D → Bool
  | _, [] => true
  | k, d :: ds => tm k d && tms k ds
end
mutual
def wtD : D → Nat
  | .int _ => 200
  | .str x => x.cps.size
  | .tup ds => wtDs ds
  | .lst ds => wtDs ds
  | _ => 0
def wtDs : List D → Nat
  | [] => 0
  | d :: ds => wtD d + 1 + wtDs ds
end
structure Tame (k : Nat) (d : D) : Prop where
  py : pyb d = true
  sh : (toPy d).showable = true
  nd : (toPy d).hasDict = false
  dp : (toPy d).depth ≤ k
  cl : (toPy d).canLay0 = true
  ls : (toPy d).leavesShort 60 = true
  wt : (toPy d).weight ≤ wtD d
theorem log_of_lt {m : Nat} (h : m < 10 ^ 59) : m.log2 < 199 := by
  by_cases h0 : m = 0
  · subst h0; decide
  · rw [Nat.log2_lt h0]
    exact Nat.lt_trans h (by decide)
mutual
theorem tame_of : ∀ (k : Nat) (d : D), tm k d = true → Tame k d
  | _, .non, _ => by
    constructor <;> simp [pyb, toPy, PyData.showable, PyData.hasDict, PyData.depth, PyData.canLay0, PyData.leavesShort, PyData.weight]
  | _, .bl b, _ => by
    constructor <;> simp [pyb, toPy, PyData.showable, PyData.hasDict, PyData.depth, PyData.canLay0, PyData.leavesShort, PyData.weight]
  | k, .int i, h => by
    have hi : i.natAbs < 10 ^ 59 := by cases k <;> simpa [tm] using h
    have hl := log_of_lt hi
    constructor
    · rfl
    · simp only [toPy, PyData.showable, decide_eq_true_eq]; omega
    · simp only [toPy, PyData.hasDict]
    · simp only [toPy, PyData.depth]; omega
    · simp only [toPy, PyData.canLay0]
    · simp only [toPy, PyData.leavesShort, decide_eq_true_eq, PyData.shown_int]
      have e := int_text_length_le10 (k := 59) (by decide) hi
      rw [PySem.ofString_length]
      exact e
    · simp only [toPy, PyData.weight, wtD]
      split <;> omega
  | k, .str x, h => by
    have hx : (x.cps.toList.all fun c => decide (c < 1114112)) = true := by cases k <;> simpa [tm] using h
    rw [List.all_eq_true] at hx
    constructor
    · rfl
    · simp only [toPy, PyData.showable]
    · simp only [toPy, PyData.hasDict]
    · simp only [toPy, PyData.depth]; omega
    · simp only [toPy, PyData.canLay0]
      show PyData.strOk x = true
      unfold PyData.strOk
      rw [← Array.all_toList, List.all_eq_true]
      intro c hc
      have := of_decide_eq_true (hx c hc)
      exact decide_eq_true (by omega)
    · simp only [toPy, PyData.leavesShort]
      rw [List.all_eq_true]
      intro c hc
      have := of_decide_eq_true (hx c hc)
      exact decide_eq_true (by omega)
    · simp only [toPy, PyData.weight, wtD]; exact Nat.le_refl _
  | 0, .tup ds, h => by simp [tm] at h
  | 0, .lst ds, h => by simp [tm] at h
  | k + 1, .tup ds, h => by
    simp only [tm] at h
    obtain ⟨h1, h2, h3, h4, h5, h6, h7⟩ := tames_of k ds h
    constructor
    · simpa only [pyb] using h1
    · simpa only [toPy, PyData.showable] using h2
    · simpa only [toPy, PyData.hasDict] using h3
    · simp only [toPy, PyData.depth]; omega
    · simpa only [toPy, PyData.canLay0] using h5
    · simpa only [toPy, PyData.leavesShort] using h6
    · simpa only [toPy, PyData.weight, wtD] using h7
  | k + 1, .lst ds, h => by
    simp only [tm] at h
    obtain ⟨h1, h2, h3, h4, h5, h6, h7⟩ := tames_of k ds h
    constructor
    · simpa only [pyb] using h1
    · simpa only [toPy, PyData.showable] using h2
    · simpa only [toPy, PyData.hasDict] using h3
    · simp only [toPy, PyData.depth]; omega
    · simpa only [toPy, PyData.canLay0] using h5
    · simpa only [toPy, PyData.leavesShort] using h6
    · simpa only [toPy, PyData.weight, wtD] using h7
  | k, .byt _, h => by cases k <;> simp [tm] at h
  | k, .pen, h => by cases k <;> simp [tm] at h
  | k, .obj _, h => by cases k <;> simp [tm] at h
  | k, .opq _, h => by cases k <;> simp [tm] at h
theorem tames_of : ∀ (k : Nat) (ds : List D), tms k ds = true → pybs ds = true ∧ PyData.showableAll (toPys ds) = true ∧ PyData.hasDictAll (toPys ds) = false ∧ PyData.depthAll (toPys ds) ≤ k ∧ PyData.canLayAll0 (toPys ds) = true ∧ PyData.leavesShortAll 60 (toPys ds) = true ∧ PyData.weightAll (toPys ds) ≤ wtDs ds
  | _, [], _ => by simp [pybs, toPys, PyData.showableAll, PyData.hasDictAll, PyData.depthAll, PyData.canLayAll0, PyData.leavesShortAll, PyData.weightAll, wtDs]
  | k, d :: ds, h => by
    simp only [tms, Bool.and_eq_true] at h
    have t := tame_of k d h.1
    obtain ⟨h1, h2, h3, h4, h5, h6, h7⟩ := tames_of k ds h.2
    refine ⟨?_, ?_, ?_, ?_, ?_, ?_, ?_⟩
    · simp only [pybs, t.py, h1]; rfl
    · simp only [toPys, PyData.showableAll, t.sh, h2]; rfl
    · simp only [toPys, PyData.hasDictAll, t.nd, h3]; rfl
    · simp only [toPys, PyData.depthAll]; have := t.dp; omega
    · simp only [toPys, PyData.canLayAll0, t.cl, h5]; rfl
    · simp only [toPys, PyData.leavesShortAll, t.ls, h6]; rfl
    · simp only [toPys, PyData.weightAll, wtDs]; have := t.wt; omega
end
theorem shp_of {k : Nat} {d : D} (h : tm k d = true) (hk : k ≤ 60) : shp d := by
  have t := tame_of k d h
  refine ⟨t.py, ?_⟩
  unfold SeqAt.shaped
  rw [t.cl, Bool.true_and]
  exact decide_eq_true (by have := t.dp; omega)
theorem rpOk_of {k : Nat} {d : D} (h : tm k d = true) (hk : k ≤ 60) (hw : wtD d ≤ 200000) : rpOk d := by
  have t := tame_of k d h
  have e := PyData.shown_le 60 (by decide) _ t.ls
  refine ⟨t.py, t.sh, t.nd, by have := t.dp; omega, ?_⟩
  have := t.wt
  have hs : sizeLine = 16777216 := by decide
  omega
theorem tms_iff {k : Nat} : ∀ {ds : List D}, tms k ds = true ↔ ∀ d ∈ ds, tm k d = true
  | [] => by simp [tms]
  | d :: ds => by simp [tms, tms_iff (ds := ds)]
theorem tms_map {α : Type} {k : Nat} {f : α → D} {xs : List α} (h : ∀ x ∈ xs, tm k (f x) = true) : tms k (xs.map f) = true := by
  rw [tms_iff]
  intro d hd
  obtain ⟨x, hx, rfl⟩ := List.mem_map.mp hd
  exact h x hx
theorem wt_map {α : Type} {f : α → D} {c : Nat} : ∀ {xs : List α}, (∀ x ∈ xs, wtD (f x) ≤ c) → wtDs (xs.map f) ≤ (c + 1) * xs.length
  | [], _ => by simp [wtDs]
  | x :: xs, h => by
    have ih := wt_map (xs := xs) fun y hy => h y (List.mem_cons_of_mem _ hy)
    have h1 := h x (List.mem_cons_self ..)
    simp only [List.map_cons, wtDs, List.length_cons]
    rw [Nat.mul_add]
    omega
def small (ns : List Int) : Prop := ∀ n ∈ ns, 0 ≤ n ∧ n < 100
theorem tm_int {k : Nat} {i : Int} (h : i.natAbs < 10 ^ 59) : tm k (.int i) = true := by cases k <;> simp [tm, h]
theorem tm_encI {r : List Int} (h : small r) : tm 1 (encI r) = true := by
  show tm 1 (.tup (r.map D.int)) = true
  simp only [tm]
  exact tms_map fun x hx => tm_int (by have := h x hx; omega)
theorem tm_mono : ∀ {k : Nat} {r : List Int}, small r → 1 ≤ k → tm k (encI r) = true
  | 0, _, _, h => absurd h (by decide)
  | k + 1, r, hs, _ => by
    show tm (k + 1) (.tup (r.map D.int)) = true
    simp only [tm]
    exact tms_map fun x hx => tm_int (by have := hs x hx; omega)
theorem wt_encI (r : List Int) : wtD (encI r) ≤ 201 * r.length := by
  show wtD (.tup (r.map D.int)) ≤ _
  simp only [wtD]
  exact wt_map (c := 200) fun x _ => by simp [wtD]
end Dl

set_option Elab.async false
set_option linter.all false
set_option maxRecDepth 100000
set_option maxHeartbeats 1000000
/-! More words: split, signs of a text, enumerate, starred targets, pop, list(range ..), len(set(..)). -/
namespace Dl
open PySem PySem.Spec PyProof.Rows L2
section
variable {X : Cx} {e a b : Expr} {to te ta : DTE} {p pos : Pos}
/-- a.split(b) -/
def tSplitD (to te : DTE) : DTE := fun _ Δ n Q => to .bor Δ n fun x n1 => match x with
  | .str a => te .bor Δ n1 fun y n2 => (match y with | .str b => (b.length == 0) = false ∧ a.length + 2 ≤ sizeLine ∧ Q (.lst ((Txt.split a b).map D.str)) n2 | _ => False)
  | _ => False
theorem d_split (h : PE X e (tM1 (fun x xs H Q => ∃ a b, x = .str a ∧ xs = [.str b] ∧ (b.length == 0) = false ∧ a.length + 2 ≤ sizeLine ∧ rNewStrs (Txt.split a b) H Q) (lift to) (lift te))) : DE X e (tSplitD to te) :=
  wkE h fun σ H Q ⟨P, H0, B, fr, av, n, Δ, m, Qd, S, bb, h, k⟩ => lift_at .bor S bb h fun v H1 d n1 s1 S1 r1 q1 => by
    cases d <;> first | exact q1.elim | skip
    cases r1
    refine ⟨⟨_, rfl⟩, lift_at .bor S1 (bb.trans s1) q1 fun v2 H2 d2 n2 s2 S2 r2 q2 => ?_⟩
    cases d2 <;> first | exact q2.elim | skip
    cases r2
    refine ⟨_, _, rfl, rfl, q2.1, q2.2.1, fun q hq => ?_⟩
    exact k _ _ _ n2 ((s1.trans s2).trans (SameP.new hq)) (S2.pen.same (same_new hq)) (.lst upd_same (S2.neP hq) (Al.new S2 (bb.trans (s1.trans s2)) m hq) (RpAll.of_strs _)) q2.2.2
/-- list(range(a)), tuple(range(a)) -/
def intsD (n : Nat) : List D := (List.range n).map fun (k : Nat) => D.int (k : Int)
def tLRngD (tup : Bool) (ta : DTE) : DTE := fun _ Δ n Q => ta .bor Δ n fun x n1 => match x with | .int i => i ≤ 16777216 ∧ 0 ≤ i ∧ Q (if tup then .tup (intsD i.toNat) else .lst (intsD i.toNat)) n1 | _ => False
theorem rgV_ints (i : Int) : rgV 0 i = (((List.range i.toNat).map fun (k : Nat) => (k : Int))).map V.int := by
  unfold rgV
  rw [List.map_map, Int.sub_zero]
  refine List.map_congr_left fun k _ => ?_
  simp
theorem intsD_eq (n : Nat) : intsD n = ((List.range n).map fun (k : Nat) => (k : Int)).map D.int := by unfold intsD; rw [List.map_map]; rfl
theorem d_listRg {p2 pos2 : Pos} (hc : X.calm = true) (hg : Gl X "list") (hm : X.mg "list" = none) (hg2 : Gl X "range") (hm2 : X.mg "range" = none) (ha : DE X a ta) (na : starEach [a] X.env = (false, eval a X.env) :: starEach [] X.env := by rfl)
    (nb : starEach [.Call (.Name "range" p2) [a] [] pos2] X.env = (false, eval (.Call (.Name "range" p2) [a] [] pos2) X.env) :: starEach [] X.env := by rfl) :
    DE X (.Call (.Name "list" p) [.Call (.Name "range" p2) [a] [] pos2] [] pos) (tLRngD false ta) :=
  wkE (pe_listRg hc hg hm (prg_1 hg2 hm2 ha na) nb) fun σ H Q ⟨P, H0, B, fr, av, n, Δ, m, Qd, S, bb, h, k⟩ => lift_at .bor S bb h fun v H1 d n1 s1 S1 r1 q1 => by
    cases d <;> first | exact q1.elim | skip
    cases r1
    refine ⟨_, rfl, RgOk.of_le (by omega) q1.1 (by omega) q1.2.1, fun q hq => ?_⟩
    rw [rgV_ints]
    exact k _ _ _ n1 (s1.trans (SameP.new hq)) (S1.pen.same (same_new hq)) (.lst upd_same (S1.neP hq) (Al.new S1 (bb.trans s1) m hq) (by rw [intsD_eq]; exact RpAll.of_ints _)) q1.2.2
/-- len(set(xs)) of ints, each once -/
def tLenSetD (ta : DTE) : DTE := fun _ Δ n Q => ta .bor Δ n fun x n1 => ∃ ns : List Int, x = .lst (ns.map D.int) ∧ ns.Nodup ∧ ns.length ≤ 4000 ∧ Q (.int ns.length) n1
theorem d_lenSet {p2 q : Pos} (hg : Gl X "len") (hm : X.mg "len" = none) (hg2 : Gl X "set") (hm2 : X.mg "set" = none) (ha : DE X a ta) (hc : X.calm = true := by rfl) (na : starEach [a] X.env = (false, eval a X.env) :: starEach [] X.env := by rfl) :
    DE X (.Call (.Name "len" p) [.Call (.Name "set" p2) [a] [] q] [] pos) (tLenSetD ta) :=
  wkE (RZ.pe_lenSetI hg hm hg2 hm2 ha hc na) fun σ H Q ⟨P, H0, B, fr, av, n, Δ, m, Qd, S, bb, h, k⟩ => lift_at .bor S bb h fun v H1 d n1 s1 S1 r1 q1 => by
    obtain ⟨ns, rfl, h1, h2, q⟩ := q1
    cases r1 with
    | lst a1 a2 a3 r => exact ⟨_, ns, rfl, by rw [← r.ints]; exact SqL.of a1, h1, h2, k _ H1 _ n1 s1 S1.pen (.int _) q⟩
/-- for c in a text -/
def signsD (x : Str) : List D := x.cps.toList.map fun c => .str ⟨#[c]⟩
def tWStr (te : DTE) : DTI := fun _ Δ n Q => te .bor Δ n fun d n1 => match d with | .str x => x.length ≤ sizeLine ∧ Q (signsD x) n1 | _ => False
theorem goes_str {P : Addr} {x : Str} : Goes P (Its x) [] (signsD x) := fun H A p0 nA hg i => by
  refine ⟨fun hi => by
    unfold signsD at hi
    rw [List.length_map] at hi
    exact hi, fun it e => ?_⟩
  unfold signsD at e
  rw [List.getElem?_map] at e
  obtain ⟨c, hc, rfl⟩ : ∃ c, x.cps.toList[i]? = some c ∧ it = .str ⟨#[c]⟩ := by
    cases q : x.cps.toList[i]? with
    | none => rw [q] at e; cases e
    | some c => rw [q] at e; cases e; exact ⟨c, rfl, rfl⟩
  have hl : i < x.cps.size := (List.getElem?_eq_some_iff.mp hc).1
  refine ⟨hl, fun v H' y => ?_⟩
  obtain ⟨rfl, c', hc', rfl⟩ := y
  rw [← Array.getElem?_toList, hc] at hc'
  cases hc'
  exact ⟨Same.refl _, .str _⟩
theorem di_str {tg : Expr} (he : DE X e te) : DI X tg e (tWStr te) :=
  wkI (pi_str he) fun σ H R ⟨P, H0, fr, av, n, Δ, m, Qd, S, h, k⟩ => lift_at (B := H) .bor S (SameP.refl P H) h fun v H1 d n1 s1 S1 r1 q1 => by
    cases d <;> first | exact q1.elim | skip
    cases r1
    exact ⟨_, rfl, k _ _ [] _ n1 s1 S1.pen (fun g hg => by cases hg) goes_str (by unfold signsD; rw [List.length_map]; exact sz62 q1.1) q1.2⟩
/-- for i, x in enumerate(xs) -/
def enumD : Nat → List D → List D
  | _, [] => []
  | i, d :: ds => .tup [.int (i : Nat), d] :: enumD (i + 1) ds
theorem enumD_length : ∀ (ds : List D) (i : Nat), (enumD i ds).length = ds.length
  | [], _ => rfl
  | d :: ds, i => by rw [enumD, List.length_cons, List.length_cons, enumD_length ds]
theorem enumD_get : ∀ (ds : List D) (i j : Nat), (enumD i ds)[j]? = ds[j]?.map fun d => .tup [.int ((i + j : Nat) : Int), d]
  | [], _, _ => by simp [enumD]
  | d :: ds, i, 0 => by simp [enumD]
  | d :: ds, i, j + 1 => by
    rw [enumD, List.getElem?_cons_succ, List.getElem?_cons_succ, enumD_get ds (i + 1) j, show i + 1 + j = i + (j + 1) by omega]
def tWEnum (te : DTE) : DTI := fun m Δ n Q => te m Δ n fun d n1 => match d with | .lst ds => ds.length ≤ sizeLine ∧ Q (enumD 0 ds) n1 | _ => False
theorem goes_enum {K : PySem.W.Frag} {P : Addr} {a : Addr} {ds : List D} : Goes P (Ite K a) [(.ref a, .lst ds)] (enumD 0 ds) := fun H A p0 nA hg i => by
  have r := hg _ (List.mem_singleton.mpr rfl)
  cases r with
  | lst h1 h2 h3 r =>
    refine ⟨fun hi => ⟨_, SqL.of h1, by rw [r.length]; rw [enumD_length] at hi; exact hi⟩, fun it e => ?_⟩
    rw [enumD_get] at e
    obtain ⟨d, hd, rfl⟩ : ∃ d, ds[i]? = some d ∧ it = .tup [.int ((0 + i : Nat) : Int), d] := by
      cases q : ds[i]? with
      | none => rw [q] at e; cases e
      | some c => rw [q] at e; cases e; exact ⟨c, rfl, rfl⟩
    obtain ⟨v, e1, e2⟩ := r.get hd
    refine ⟨⟨_, v, SqL.of h1, e1⟩, fun x H' y => ?_⟩
    obtain ⟨T, u, rfl, hT, rfl, y⟩ := y
    have := y _ (SqL.of h1)
    rw [e1] at this
    cases this
    refine ⟨same_new hT, .tup upd_same (ne_P p0 hT) (.cons (by rw [Nat.zero_add]; exact .int _) (.cons (e2.same (SameP.new hT)) .nil))⟩
theorem di_enum {elts : List Expr} {kk : Nat} {tpos : Pos} (hg : Gl X "enumerate") (hm : X.mg "enumerate" = none) (he : DE X e te) (hs : starEach [e] X.env = [(false, eval e X.env)] := by rfl) : DI X (.Tuple elts kk tpos) (.Call (.Name "enumerate" p) [e] [] pos) (tWEnum te) :=
  wkI (pi_enum hg hm (pa_cons he pa_nil hs) hs) fun σ H R ⟨P, H0, fr, av, n, Δ, m, Qd, S, h, k⟩ => lift_at (B := H) m S (SameP.refl P H) h fun v H1 d n1 s1 S1 r1 q1 => by
    cases d <;> first | exact q1.elim | skip
    have r2 := r1
    cases r1 with
    | lst a1 a2 a3 r => exact ⟨_, _, rfl, SqL.of a1, k _ _ [(_, .lst _)] _ n1 s1 S1.pen (fun g hg => by cases List.mem_singleton.mp hg; exact r2) goes_enum (by rw [enumD_length]; exact sz62 q1.1) q1.2⟩
end
end Dl

set_option Elab.async false
set_option linter.all false
set_option maxRecDepth 100000
set_option maxHeartbeats 1000000
/-! Starred targets; pop. -/
namespace Dl
open PySem PySem.Spec PyProof.Rows L2
section
variable {prog : Program} {w : World} {A : Around} {E : Value → Shared → Prop} {s : Shared} {env : Env}
/-- what a starred target takes of a list, ahead of the new list -/
theorem unpack_starL {l : Addr} {items : Array Value} {nT i : Nat} {Q : List Value → Shared → Prop} (hl : s.heap.IsList l items) (hh : A.handled = none) (hi : i < nT) (hn : nT ≤ items.size + 1) (hz : items.size ≤ 16384)
    (hgo : ∀ (h' : Heap) (tk : Nat), (∀ b o, s.heap.get? b = some o → h'.get? b = some o) →
      Q (items.toList.take i ++ [.ref h'.objs.size] ++ (items.toList.drop i).drop (items.size + 1 - nT)) { s with heap := h'.push { cls := .type "list", data := .seq ((items.toList.drop i).take (items.size + 1 - nT)).toArray }, toks := tk }) : wpAny (model prog w) A (unpackItems (.ref l) nT (some i)) Q E s := by
  have hlt : l ≠ s.heap.objs.size := by obtain ⟨o, ho, _⟩ := hl; exact Nat.ne_of_lt (Heap.lt_size ho)
  unfold unpackItems notIterableAtAll
  refine wpAny_bind (wpAny_bind (wpAny_specialOf hl.typeIs slot_list_iter.lookup (wpAny_pure ?_)))
  simp only [Bool.false_eq_true, if_false]
  refine wpAny_bind (wpAny_holding (wpAny_pyIter_list hl ?_))
  refine wpAny_bind (wpAny_holding (PySem.W.kun_draw hlt i 0 _ _ ⟨_, Heap.get?_push_size _ rfl, rfl, rfl⟩ (hl.push _) (by omega) fun h₁ hit₁ hs₁ => ?_))
  have hl₁ : h₁.IsList l items := (hl.push _).extBut hs₁.extBut hlt
  rw [Nat.zero_add] at hit₁
  obtain ⟨oi, hoi, _⟩ := id hit₁
  obtain ⟨ol, hol, _⟩ := id hl₁
  have hfl : (items.toList.take i).length = i := by rw [List.length_take, Array.length_toList]; omega
  have hrl : (items.toList.drop i).length = items.size - i := by rw [List.length_drop, Array.length_toList]
  rw [List.drop_zero, if_neg (by rw [hfl]; omega)]
  refine wpAny_bind (wpAny_holding (PySem.W.kun_collect (T := "list_iterator") (.inr (.inr (.inl rfl))) (Walks.list (A := A.in1) hh s.heap.objs.size l hlt items) (fun j u st => st.1.typeIs) (by omega) ⟨hit₁, hl₁⟩ (Heap.lt_size hoi) (Heap.lt_size hol) (fun h₂ tk hk => ?_) (by rw [sizeLine_eq]; omega)))
  have e1 : (items.toList.drop i).length - (nT - 1 - i) = items.size + 1 - nT := by rw [hrl]; omega
  show wpAny _ _ (if (items.toList.drop i).length < nT - 1 - i then _ else _) _ _ _
  rw [if_neg (by rw [hrl]; omega)]
  show wpAny _ _ (newList ((items.toList.drop i).take ((items.toList.drop i).length - (nT - 1 - i))) >>= fun d => pure (items.toList.take i ++ [d] ++ (items.toList.drop i).drop ((items.toList.drop i).length - (nT - 1 - i)))) _ _ _
  rw [e1]
  refine wpAny_bind (wpAny_newList (wpAny_pure (hgo h₂ tk fun b o e => ?_)) (by rw [List.length_take, hrl, sizeLine_eq]; omega))
  exact hk b o (Nat.ne_of_lt (Heap.lt_size e)) (hs₁.extBut b o (Nat.ne_of_lt (Heap.lt_size e)) (Heap.get?_push_of_some _ e))
end
/-- a, *b, c = a list: i targets ahead of the starred one, nT in all -/
def gStar (K : PySem.W.Frag) (nT i : Nat) (t : TGs) : TG := fun v σ H Q => ∃ a xs, v = .ref a ∧ SqL K H a xs ∧ nT ≤ xs.length + 1 ∧ xs.length ≤ 16384 ∧
  ∀ p, H p = none → t (xs.take i ++ [.ref p] ++ (xs.drop i).drop (xs.length + 1 - nT)) σ (upd H p (.lst ((xs.drop i).take (xs.length + 1 - nT)))) Q
section
variable {X : Cx} {pos p : Pos}
theorem pg_star {es : List Expr} {k nT i : Nat} {t : TGs} (hc : X.calm = true) (hes : PGs X es t) (hi : i < nT) (hn : (assignEach es X.env).length = nT := by rfl) (hst : (assignEach es X.env).findIdx? (·.1) = some i := by rfl) : PG X (.Tuple es k pos) (gStar X.K nT i t) :=
  ⟨fun pins s σ H v u Q inv rv ⟨a, xs, ev, hq, hl, hz, hw⟩ => by
    subst ev
    cases rv
    obtain ⟨its, vv, pl, hz2⟩ := inv.list hq
    have el := vv.length
    rw [assign_Tuple]
    refine wpAny_bind (wpAny_standAt ?_)
    unfold unpack
    rw [hn, hst]
    refine wpAny_bind (wpAny_holding (unpack_starL pl.isList (inv.ok.hd hc) hi (by rw [show its.toArray.size = xs.length by rw [List.size_toArray, el]]; exact hl) (by rw [show its.toArray.size = xs.length by rw [List.size_toArray, el]]; exact hz) fun h' tk hk => ?_))
    have e1 : its.toArray.toList = its := rfl
    have e2 : its.toArray.size = xs.length := by rw [List.size_toArray, el]
    rw [e1, e2]
    have inv1 : Inv X pins σ H { s with heap := h', toks := tk } := inv.kept hk
    exact hes.run pins _ σ _ _ _ Q (inv1.lnew (t' := tk) ((vv.drop i).take (xs.length + 1 - nT)) (by rw [List.length_take]; omega)) (((vv.take i).append (.cons (show L2.RelV (.ref h'.objs.size) (.ref h'.objs.size) from rfl) .nil)).append ((vv.drop i).drop _)) (hw _ inv1.fresh)⟩
theorem pgs_star {e : Expr} {es : List Expr} {t : TG} {u : TGs} (h1 : PG X e t) (h2 : PGs X es u) (hs : (assignEach (.Starred e p :: es) X.env).map (·.2) = assign e X.env :: (assignEach es X.env).map (·.2) := by rfl) : PGs X (.Starred e p :: es) (gCons t u) :=
  ⟨fun pins s σ H vs us Q inv rv ⟨v, vr, ev, hw⟩ => by
    subst ev
    cases rv with
    | cons r rr =>
      rw [hs]
      exact assignInOrder_cons (thn (h1.run pins s σ H _ _ _ inv r hw) fun _ s1 ⟨σ1, H1, inv1, q1⟩ => h2.run pins s1 σ1 H1 _ _ Q inv1 rr q1)⟩
/-- first, *rest = xs : both stay as they are -/
def tStar1D (i j : Nat) (te : DTE) : DTS := fun Dd Δ n => te .frz Δ n fun d n1 => match d with
  | .lst (x :: ds) => ds.length < 16384 ∧ Dd.nx ((Δ.set i (some (.frz x))).set j (some (.frz (.lst ds)))) n1
  | _ => False
/-- *rest, last = xs : rest is a new list that the slot alone holds -/
def tStar2D (i j : Nat) (te : DTE) : DTS := fun Dd Δ n => te .frz Δ n fun d n1 => match d with
  | .lst ds => ds.length ≤ 16384 ∧ flatAll ds = true ∧ ∃ es x, ds = es ++ [x] ∧ Dd.nx ((Δ.set i (some (.own es))).set j (some (.frz x))) n1
  | _ => False
theorem ds_star1 (i j : Nat) {x y : Str} {e : Expr} {te : DTE} {p1 p2 p3 pt : Pos} {kt : Nat} (hc : X.calm = true) (hN : X.N.Nodup) (he : DE X e te) (hi : X.N[i]? = some x := by rfl) (hj : X.N[j]? = some y := by rfl)
    (hx : Loc X.env.scope x := by first | exact Or.inl rfl | exact Or.inr rfl) (hy : Loc X.env.scope y := by first | exact Or.inl rfl | exact Or.inr rfl) (fx : X.fn x = true ∨ X.env.scope.names.lookup x = some .local := by first | exact .inl rfl | exact .inr rfl) (fy : X.fn y = true ∨ X.env.scope.names.lookup y = some .local := by first | exact .inl rfl | exact .inr rfl)
    (hs : swapsWithSole [.Tuple [.Name x p1, .Starred (.Name y p2) p3] kt pt] e pos.line X.env = pure false := by rfl) (hw : swappedStores [.Tuple [.Name x p1, .Starred (.Name y p2) p3] kt pt] e X.env = pure none := by rfl) :
    DS X (.Assign [.Tuple [.Name x p1, .Starred (.Name y p2) p3] kt pt] e pos) (tStar1D i j te) :=
  wkS (ps_asg he (pg_star (nT := 2) (i := 1) hc (pgs_cons (pg_name hN hi hx fx) (pgs_star (pg_name hN hj hy fy) pgs_nil)) (by decide)) hs hw) fun E σ H ⟨P, H0, fr, av, n, Δ, Dd, S, h, k⟩ => lift_at (B := H) .frz S (SameP.refl P H) h fun v H1 d n1 s1 S1 r1 q1 => by
    match d, r1, q1 with
    | .lst (x :: ds), .lst (vs := v0 :: vs) a1 a2 a3 (.cons r0 r), q1 =>
      have el := r.length
      refine ⟨_, _, rfl, SqL.of a1, by simp, by rw [List.length_cons]; omega, fun q hq => ?_⟩
      have e1 : ((v0 :: vs).drop 1).take ((v0 :: vs).length + 1 - 2) = vs := by simp
      have e2 : (v0 :: vs).take 1 ++ [V.ref q] ++ ((v0 :: vs).drop 1).drop ((v0 :: vs).length + 1 - 2) = [v0, .ref q] := by simp
      rw [e1, e2]
      have sm := SameP.new (P := P) (o := HO.lst vs) hq
      have rq : Rp P (NO av σ Δ) (upd H1 q (.lst vs)) (.ref q) (.lst ds) := .lst upd_same (S1.neP hq) (S1.no_new hq) (r.same sm)
      have S2 := ((S1.mono sm (S1.pen.same (same_new hq))).infr (gs := [(V.ref q, .lst ds)]) (fun g hg => by cases List.mem_singleton.mp hg; exact rq)).setF i (r0.same sm)
      exact ⟨_, _, rfl, _, _, rfl, rfl, k.nx _ _ _ _ (S2.setF j (S2.gh _ (List.mem_append_left _ (List.mem_singleton.mpr rfl)))).unfr q1.2⟩
theorem ds_star2 (i j : Nat) {x y : Str} {e : Expr} {te : DTE} {p1 p2 p3 pt : Pos} {kt : Nat} (hc : X.calm = true) (hN : X.N.Nodup) (he : DE X e te) (hi : X.N[i]? = some x := by rfl) (hj : X.N[j]? = some y := by rfl)
    (hx : Loc X.env.scope x := by first | exact Or.inl rfl | exact Or.inr rfl) (hy : Loc X.env.scope y := by first | exact Or.inl rfl | exact Or.inr rfl) (fx : X.fn x = true ∨ X.env.scope.names.lookup x = some .local := by first | exact .inl rfl | exact .inr rfl) (fy : X.fn y = true ∨ X.env.scope.names.lookup y = some .local := by first | exact .inl rfl | exact .inr rfl)
    (hs : swapsWithSole [.Tuple [.Starred (.Name x p1) p3, .Name y p2] kt pt] e pos.line X.env = pure false := by rfl) (hw : swappedStores [.Tuple [.Starred (.Name x p1) p3, .Name y p2] kt pt] e X.env = pure none := by rfl) :
    DS X (.Assign [.Tuple [.Starred (.Name x p1) p3, .Name y p2] kt pt] e pos) (tStar2D i j te) :=
  wkS (ps_asg he (pg_star (nT := 2) (i := 0) hc (pgs_star (pg_name hN hi hx fx) (pgs_cons (pg_name hN hj hy fy) pgs_nil)) (by decide)) hs hw) fun E σ H ⟨P, H0, fr, av, n, Δ, Dd, S, h, k⟩ => lift_at (B := H) .frz S (SameP.refl P H) h fun v H1 d n1 s1 S1 r1 q1 => by
    cases d <;> first | exact q1.elim | skip
    obtain ⟨hz, hf, es, x, rfl, q1⟩ := q1
    cases r1 with
    | @lst a vs _ a1 a2 a3 r =>
      have el := r.length
      rw [List.length_append, List.length_singleton] at el hz
      refine ⟨_, _, rfl, SqL.of a1, by omega, by omega, fun q hq => ?_⟩
      obtain ⟨v0, g1, r0⟩ := r.get (i := es.length) (d := x) (by simp)
      have e1 : (vs.drop 0).take (vs.length + 1 - 2) = vs.take es.length := by rw [List.drop_zero, el]; rfl
      have e2 : vs.take 0 ++ [V.ref q] ++ (vs.drop 0).drop (vs.length + 1 - 2) = [.ref q, v0] := by
        have e3 : vs.drop es.length = [v0] := by
          have hlt : es.length < vs.length := by omega
          rw [List.drop_eq_getElem_cons hlt, List.drop_of_length_le (by omega)]
          rw [List.getElem?_eq_getElem hlt] at g1
          cases g1; rfl
        rw [List.drop_zero, el, show es.length + 1 + 1 - 2 = es.length by omega, e3]; rfl
      rw [e1, e2]
      have sm := SameP.new (P := P) (o := HO.lst (vs.take es.length)) hq
      have re : RpAll P (NO av σ Δ) (upd H1 q (.lst (vs.take es.length))) (vs.take es.length) es := by
        have := (r.take es.length).same sm
        rw [List.take_left] at this
        exact this
      have fe : flatAll es = true := by
        rw [flatAll_iff] at hf ⊢
        exact fun d hd => hf d (List.mem_append_left _ hd)
      have fx : flat x = true := flatAll_iff.mp hf x (by simp)
      have S2 := S1.setO sm (S1.pen.same (same_new hq)) i hq upd_same fe re
      exact ⟨_, _, rfl, _, _, rfl, rfl, k.nx _ _ _ _ (S2.setF j (Rp.flat x _ fx (r0.same sm))) q1⟩
/-- x = l.pop() of a list that a slot alone holds -/
def tPopD (i l : Nat) : DTS := fun Dd Δ n => match Δ[l]? with
  | some (some (.own ds)) => flatAll ds = true ∧ ∃ es x, ds = es ++ [x] ∧ Dd.nx ((Δ.set l (some (.own es))).set i (some (.frz x))) n
  | _ => False
theorem ds_pop {tg e : Expr} {i l : Nat} (hp : PS X (.Assign [tg] e pos) (tAsg (tBM0 X.K "list" rPop (tVar l)) (gName i))) : DS X (.Assign [tg] e pos) (tPopD i l) :=
  wkS hp fun E σ H ⟨P, H0, fr, av, n, Δ, Dd, S, h, k⟩ => by
    unfold tPopD at h
    split at h
    · rename_i ds e1
      obtain ⟨hf, es, x, rfl, q⟩ := h
      obtain ⟨p, vs, e2, np, e3, r⟩ := S.at_own e1
      obtain ⟨v0, g1, r0⟩ := r.get (i := es.length) (d := x) (by simp)
      have el := r.length
      rw [List.length_append, List.length_singleton] at el
      refine ⟨_, e2, .inl ⟨rfl, _, SqL.of e3⟩, p, vs, v0, rfl, rfl, e3, by rw [el]; exact g1, ?_⟩
      have e4 : vs.dropLast = vs.take es.length := by rw [List.dropLast_eq_take, el]; rfl
      have re : RpAll P (NO av σ Δ) H vs.dropLast es := by
        rw [e4]
        have := r.take es.length
        rw [List.take_left] at this
        exact this
      have fx : flat x = true := flatAll_iff.mp hf x (by simp)
      have S2 := S.wr e1 e2 re
      have sm : Rp P (NO av σ (Δ.set l (some (.own es)))) (upd H p (.lst vs.dropLast)) v0 x :=
        Rp.stay (A := fun _ => False) ⟨fun a us e n => by rw [upd_ne (fun z => by subst z; rw [e3] at e; cases e)]; exact e, fun a o e n z => z.elim⟩ x v0 (Rp.flat x v0 fx r0)
      exact k.nx _ _ _ _ (S2.setF i sm) q
    · exact h.elim
end
end Dl

set_option Elab.async false
set_option linter.all false
set_option maxRecDepth 100000
set_option maxHeartbeats 1000000
/-! int of a text, signs in a text, xs[::-1], text * int, extend with a tuple. -/
namespace Dl
open PySem PySem.Spec PyProof.Rows L2
def drIntS : DRn := fun ds Q => match ds with | [.str a] => ∃ z, PySem.intText? a = some z ∧ a.length ≤ 640 ∧ Q (.int z) | _ => False
theorem sn_intS : SndN (fun xs H Q => ∃ a n, xs = [.str a] ∧ PySem.intText? a = some n ∧ a.length ≤ 640 ∧ Q (.int n) H) drIntS := fun P A B H xs ds Q Qd p0 nA r h k => by
  match ds, r, h with
  | [.str a], .cons (.str _) .nil, ⟨z, h1, h2, h⟩ => exact ⟨a, z, rfl, h1, h2, k _ H _ (Same.refl H) (.int _) h⟩
def drInSign (neg : Bool) : DR2 := fun x y Q => match x, y with | .str x, .str z => ∃ c, x = ⟨#[c]⟩ ∧ Q (.bl (if neg then !decide (c ∈ z.cps.toList) else decide (c ∈ z.cps.toList))) | _, _ => False
theorem sn_inSign : Snd2 (fun x y H Q => ∃ (c : Nat) (z : Str), x = .str ⟨#[c]⟩ ∧ y = .str z ∧ Q (.bl (decide (c ∈ z.cps.toList))) H) (drInSign false) := fun P A B H x y d e Q Qd p0 nA rx ry h k => by
  cases d <;> cases e <;> first | exact h.elim | skip
  cases rx
  cases ry
  obtain ⟨c, rfl, h⟩ := h
  exact ⟨c, _, rfl, rfl, k _ H _ (Same.refl H) (.bl _) h⟩
theorem sn_notInSign : Snd2 (fun x y H Q => ∃ (c : Nat) (z : Str), x = .str ⟨#[c]⟩ ∧ y = .str z ∧ Q (.bl (!decide (c ∈ z.cps.toList))) H) (drInSign true) := fun P A B H x y d e Q Qd p0 nA rx ry h k => by
  cases d <;> cases e <;> first | exact h.elim | skip
  cases rx
  cases ry
  obtain ⟨c, rfl, h⟩ := h
  exact ⟨c, _, rfl, rfl, k _ H _ (Same.refl H) (.bl _) h⟩
/-! ### a tuple backwards -/
theorem adjust_back (m : Nat) : Builtin.Slice.sliceAdjust none none (-1) (m : Int) = ((m : Int) - 1, -1) := by
  simp [Builtin.Slice.sliceAdjust]
theorem places_back (m : Nat) : Builtin.Slice.slicePlaces ((m : Int) - 1) (-1) (-1) = m := by
  simp only [Builtin.Slice.slicePlaces]
  rw [if_neg (by decide), show -(-1 : Int) = 1 from rfl, Int.ediv_one]
  split <;> omega
theorem fm_cong {α β : Type} {f g : α → Option β} : ∀ {l : List α}, (∀ x ∈ l, f x = g x) → l.filterMap f = l.filterMap g
  | [], _ => rfl
  | x :: l, h => by
    rw [List.filterMap_cons, List.filterMap_cons, h x (List.mem_cons_self ..), fm_cong fun y hy => h y (List.mem_cons_of_mem _ hy)]
theorem pick_back (xs : Array Value) : ((List.range xs.size).filterMap fun (j : Nat) => xs[((xs.size : Int) - 1 + (j : Int) * (-1)).toNat]?).toArray = xs.toList.reverse.toArray := by
  have e := HT.pick_gen xs.toList.reverse.toArray 0 xs.size
  rw [List.drop_zero, List.take_of_length_le (by simp)] at e
  rw [show xs.toList.reverse.toArray = (xs.toList.reverse.toArray.toList).toArray from rfl, ← e]
  congr 1
  refine fm_cong fun j hj => ?_
  rw [List.mem_range] at hj
  have e1 : ((xs.size : Int) - 1 + (j : Int) * (-1)).toNat = xs.size - 1 - j := by omega
  have e2 : (((0 : Nat) : Int) + (j : Int) * 1).toNat = j := by omega
  rw [e1, e2, ← Array.getElem?_toList]
  refine Eq.symm ?_
  show xs.toList.reverse.toArray[j]? = _
  rw [List.getElem?_toArray, List.getElem?_reverse (by simpa using hj)]
  simp
section
variable {prog : Program} {w : World} {A : Around} {E : Value → Shared → Prop} {s : Shared}
theorem applied_back {sl : Addr} {vl vu vs : Value} {m : Nat} {Q : Int × Int × Nat → Shared → Prop} (hs : s.heap.IsSliceOf sl vl vu vs) (pl : IsPart vl none) (pu : IsPart vu none) (ps : IsPart vs (some (-1)))
    (h : Q ((m : Int) - 1, -1, m) s) : wpAny (model prog w) A (Builtin.Slice.sliceApplied (.ref sl) (pure (m : Int))) Q E s := by
  obtain ⟨ob, g1, g2, g3⟩ := id hs
  unfold Builtin.Slice.sliceApplied
  unfold Builtin.Slice.sliceFields
  refine wpAny_bind (wpAny_bind (wpAny_field g1 g3 (x := vl) rfl (wpAny_bind (wpAny_field g1 g3 (x := vu) rfl (wpAny_bind (wpAny_field g1 g3 (x := vs) rfl (wpAny_pure ?_)))))))
  refine wpAny_bind (HT.slicePart_ ps ?_)
  show wpAny _ _ (if ((-1 : Int) == 0) = true then _ else _) _ _ s
  rw [if_neg (by decide)]
  refine wpAny_bind (HT.slicePart_ pl (wpAny_bind (HT.slicePart_ pu (wpAny_bind (wpAny_pure ?_)))))
  show wpAny _ _ (match Builtin.Slice.sliceAdjust none none (-1) (m : Int) with | (lo, hi) => pure (lo, (-1 : Int), Builtin.Slice.slicePlaces lo hi (-1))) _ _ s
  rw [adjust_back]
  show wpAny _ _ (pure ((m : Int) - 1, (-1 : Int), Builtin.Slice.slicePlaces ((m : Int) - 1) (-1) (-1))) _ _ s
  rw [places_back]
  exact wpAny_pure h
theorem getItem_back {t sl : Addr} {items : Array Value} {vl vu vs : Value} {Q : Value → Shared → Prop} (ht : IsTup s.heap t items) (hs : s.heap.IsSliceOf sl vl vu vs) (pl : IsPart vl none) (pu : IsPart vu none) (ps : IsPart vs (some (-1)))
    (h : Q (.ref s.heap.objs.size) { s with heap := s.heap.push { cls := .type "tuple", data := .seq items.toList.reverse.toArray } }) (hsz : items.size ≤ sizeLine) : wpAny (model prog w) A (getItem (.ref t) (.ref sl)) Q E s := by
  have hz : sizeOk (.seq items.toList.reverse.toArray) := by
    show items.toList.reverse.toArray.size ≤ sizeLine
    rw [List.size_toArray, List.length_reverse, Array.length_toList]
    exact hsz
  obtain ⟨ob, g1, g2, g3⟩ := id hs
  have isSl : s.TypeIs (.ref sl) "slice" := ⟨ob, g1, g2⟩
  unfold getItem
  (try with_reducible refine wpAny_holding ?_); (first | refine wpAny_bind (wpAny_pure ?_) | skip)
  refine wpAny_bind (wpAny_sequenceKey ht.typeIs (by decide) (wpAny_bind (wpAny_callSpecial?_slot (name := Str.ofString "__getitem__") ht.typeIs PyProof.Rows.slot_tuple_getitem
    (wpAny_call_entry PyProof.Rows.slot_tuple_getitem ht.typeIs entry_tuple_getitem ?_ (args_tuple_getitem _ _)))))
  show wpAny _ _ (Builtin.Tuple.tupleItemsOf (.ref t) >>= _) _ _ s
  refine wpAny_bind (tupleItemsOf_ ht (wpAny_bind (wpAny_typeOf isSl ?_)))
  rw [if_pos (by decide)]
  refine wpAny_bind (applied_back hs pl pu ps ?_)
  show wpAny _ _ (if (((items.size : Int) - 1) == 0 && (-1 : Int) == 1 && items.size == items.size) = true then _ else _) _ _ s
  rw [if_neg (by rw [show ((-1 : Int) == 1) = false by decide, Bool.and_false, Bool.false_and]; exact Bool.false_ne_true), pick_back]
  first | exact wpAny_bind (m := Builtin.Tuple.tupleExact _) (wpAny_newObj_type (wpAny_pure ⟨_, rfl, wpAny_pure h⟩) hz) | exact wpAny_bind (m := Builtin.Tuple.tupleExact _) (wpAny_newObj_type (wpAny_bind (wpAny_pure (wpAny_pure ⟨_, rfl, wpAny_pure h⟩))) hz) | exact wpAny_bind (wpAny_bind (m := Builtin.Tuple.tupleExact _) (wpAny_newObj_type (wpAny_pure (wpAny_pure ⟨_, rfl, wpAny_pure h⟩)) hz)) | exact wpAny_bind (wpAny_bind (m := Builtin.Tuple.tupleExact _) (wpAny_newObj_type (wpAny_pure ⟨_, rfl, wpAny_pure h⟩) hz))
end
def tRevT (K : PySem.W.Frag) (te : TE) : TE := fun σ H Q => te σ H fun x H1 => ∃ a xs, x = .ref a ∧ SqT K H1 a xs ∧ ∀ p, H1 p = none → Q (.ref p) (upd H1 p (.tup xs.reverse))
section
variable {X : Cx} {e : Expr}
theorem pe_revT {te : TE} {kk : Nat} {p1 p2 p3 pos : Pos} (he : PE X e te) : PE X (.Subscript e (.Slice none none (some (.UnaryOp .USub (.Constant (.int 1) kk p1) p2)) p3) pos) (tRevT X.K te) :=
  ⟨fun pins s σ H Q inv hw => by
    refine Subscript_ (thn (he.run pins s σ H _ inv hw) fun v s1 ⟨x, H1, inv1, r1, a, xs, ex, hx, q⟩ => ?_)
    subst ex
    cases r1
    have step : PO X (some (.UnaryOp .USub (.Constant (.int 1) kk p1) p2)) (tPart (tUn (rU fun i => .int (-i)) (tC (.int 1)))) := po_some (pe_un un_neg pe_int)
    refine wpAny_Slice (thn (po_none.run pins s1 σ H1 (fun o H2 => o = none ∧ H2 = H1) inv1 ⟨rfl, rfl⟩) fun vl s2 ⟨l, H2, inv2, pl, el, e2⟩ => ?_)
    subst el e2
    refine thn (po_none.run pins s2 σ H2 (fun o H3 => o = none ∧ H3 = H2) inv2 ⟨rfl, rfl⟩) fun vu s3 ⟨u, H3, inv3, pu, eu, e3⟩ => ?_
    subst eu e3
    refine thn (step.run pins s3 σ H3 (fun o H4 => o = some (-1) ∧ H4 = H3) inv3 ⟨1, rfl, -1, rfl, rfl, rfl⟩) fun vs s4 ⟨o, H4, inv4, ps, eo, e4⟩ => ?_
    subst eo e4
    have inv5 : Inv X pins σ H4 { s4 with heap := s4.heap.push { cls := .type "slice", data := .fields #[vl, vu, vs] } } := inv4.kept (t' := s4.toks) fun b ob z => Heap.get?_push_of_some _ z
    obtain ⟨its, r, pt, hz⟩ := inv5.tuple hx
    have hlen := r.length
    refine tail_any (ops := [.ref a, .ref s4.heap.objs.size]) pt.typeIs (PyProof.Rows.slot_tuple_getitem.lookup) ?_ (by with_unfolding_all rfl)
    refine getItem_back pt (Heap.IsSliceOf.new _ vl vu vs) pl pu ps ?_ (by rw [List.size_toArray]; omega)
    exact ⟨.ref _, _, inv5.laid (t' := s4.toks) (o := .tup xs.reverse) (fun b ob z => Heap.get?_push_of_some _ z) (Nat.le_refl _) ⟨by rw [List.length_reverse]; exact hz, _, r.reverse, IsTup.new _ _⟩, rfl, q _ (inv5.hok.fresh (Nat.le_refl _))⟩⟩
def tRevD (te : DTE) : DTE := fun _ Δ n Q => te .bor Δ n fun x n1 => match x with | .tup xs => flatAll xs = true ∧ Q (.tup xs.reverse) n1 | _ => False
theorem flat_rev {xs : List D} (h : flatAll xs = true) : flatAll xs.reverse = true := by
  rw [flatAll_iff] at h ⊢
  exact fun d hd => h d (List.mem_reverse.mp hd)
theorem d_rev {te : DTE} {kk : Nat} {p1 p2 p3 pos : Pos} (he : DE X e te) : DE X (.Subscript e (.Slice none none (some (.UnaryOp .USub (.Constant (.int 1) kk p1) p2)) p3) pos) (tRevD te) :=
  wkE (pe_revT he) fun σ H Q ⟨P, H0, B, fr, av, n, Δ, m, Qd, S, bb, h, k⟩ => lift_at .bor S bb h fun v H1 d n1 s1 S1 r1 q1 => by
    cases d <;> first | exact q1.elim | skip
    cases r1 with
    | @tup a vs _ a1 a2 r =>
      refine ⟨_, _, rfl, SqT.of a1, fun q hq => ?_⟩
      have sm := SameP.new (P := P) (o := HO.tup vs.reverse) hq
      exact k _ _ _ n1 (s1.trans sm) (S1.pen.same (same_new hq)) (.tup upd_same (S1.neP hq) (RpAll.flat _ _ (flat_rev q1.1) (r.same sm).reverse)) q1.2
/-! ### text * int: a text of that length -/
theorem rep_size (a : Array Nat) : ∀ (n : Nat) (acc : Array Nat), ((List.replicate n a).foldl (· ++ ·) acc).size = acc.size + n * a.size
  | 0, acc => by simp
  | n + 1, acc => by
    rw [List.replicate_succ, List.foldl_cons, rep_size a n, Array.size_append, Nat.succ_mul]
    omega
def rRepS : R2 := fun x y H Q => ∃ a k, x = .str a ∧ y = .int k ∧ 0 < k ∧ k ≤ 1000 ∧ a.length ≤ 1000 ∧ ∀ z : Str, z.length = a.length * k.toNat → Q (.str z) H
theorem op_repS : OpR X (binaryOp .Mult) rRepS := fun pins s σ H x y v u Q inv rx ry ⟨a, k, ex, ey, k0, k1, az, q⟩ => by
  subst ex ey
  obtain ⟨t, rfl⟩ := rx
  obtain ⟨t', rfl⟩ := ry
  have a0 : 0 ≤ a.length := Nat.zero_le _
  have mz : a.length * k.toNat ≤ 1000000 := Nat.mul_le_mul az (show k.toNat ≤ 1000 by omega)
  have big : ¬ (a.length : Int) > (2 ^ 63 - 1) / k := by
    have : (1000 : Int) ≤ (2 ^ 63 - 1) / k := by
      rw [Int.le_ediv_iff_mul_le k0]
      omega
    omega
  refine PySem.P.mul_str (by rw [decide_eq_false (by omega), decide_eq_false (by omega)]; rfl) (fun _ _ => big) (fun _ _ => ?_) ?_
  · show decide (_ > sizeLine) = false
    rw [decide_eq_false_iff_not, sizeLine_eq]
    omega
  · rw [if_neg (by omega)]
    split
    · rename_i hc
      refine ⟨.str a, H, inv, ⟨t, rfl⟩, q a ?_⟩
      rw [Bool.or_eq_true] at hc
      rcases hc with hc | hc
      · rw [eq_of_beq hc]; simp
      · rw [eq_of_beq hc]; simp
    · have e : (⟨(List.replicate k.toNat a.cps).foldl (· ++ ·) #[]⟩ : Str).length = a.length * k.toNat := by
        show ((List.replicate k.toNat a.cps).foldl (· ++ ·) #[]).size = a.cps.size * k.toNat
        rw [rep_size]
        simp [Nat.mul_comm]
      refine ⟨?_, .str _, H, inv.kept fun _ _ z => z, ⟨_, rfl⟩, q _ e⟩
      show Str.length _ ≤ sizeLine
      rw [e, sizeLine_eq]
      omega
def drMulS : DR2 := fun x y Q => match x, y with
  | .str a, .int k => 0 < k ∧ k ≤ 1000 ∧ a.length ≤ 1000 ∧ ∀ z : Str, z.length = a.length * k.toNat → Q (.str z)
  | _, _ => False
theorem sn_mulS : Snd2 rRepS drMulS := fun P A B H x y d e Q Qd p0 nA rx ry h k => by
  cases d <;> cases e <;> first | exact h.elim | skip
  cases rx
  cases ry
  obtain ⟨h1, h2, h3, h⟩ := h
  exact ⟨_, _, rfl, rfl, h1, h2, h3, fun z hz => k _ H _ (Same.refl H) (.str _) (h z hz)⟩
end
end Dl

set_option Elab.async false
set_option linter.all false
set_option maxRecDepth 100000
set_option maxHeartbeats 1000000
namespace Dl
open PySem PySem.Spec PyProof.Rows L2
theorem list_ext_tup (l b : Addr) (is js : Array Value) (n m : Nat) (dd : Option Addr) (sl : Array (Option Value)) (h0 : ¬(!is.isEmpty && Builtin.List.listTooLong (is.size + js.size)) = true) (h1 : is.size ≤ sizeLine) (h2 : is.size + js.size ≤ sizeLine + 1) :
    Meets (Builtin.«list.extend» ⟨[.ref l, .ref b], []⟩) (fun _ R s => s.heap.get? l = some { cls := .type "list", dict := none, data := .seq is n, slots := #[] } ∧ s.heap.get? b = some { cls := .type "tuple", dict := dd, data := .seq js m, slots := sl } ∧ R (.ok (.ret Value.none)) { s with heap := s.heap.update l (Obj.mapSeq fun x => x ++ js), toks := s.toks }) :=
  .of_wp fun prog w A R s h => by
    obtain ⟨hp, g, d, tk, os⟩ := s
    obtain ⟨hl, hb, h⟩ := h
    have f1 := AutoSeq1.idx_int
    have f2 := AutoSeq1.sub_tuple_tuple
    have f3 := AutoSeq1.sub_list_list
    have f4 := AutoSeq1.sub_tuple_list
    have z2 : (is ++ js).size ≤ sizeLine + 1 := by rw [Array.size_append]; exact h2
    wp_walk using (wpAny_updateSeq hl rfl (hz := h1) (_hz' := z2)), AutoSeq1.wpAny_loadPart' hl, AutoSeq1.wpAny_loadPart' hb
    exact ⟨_, rfl, h⟩
def rExtT (K : PySem.W.Frag) : V → List V → Hp → VK → Prop := fun x vs H Q => ∃ l b xs zs, x = .ref l ∧ vs = [.ref b] ∧ H l = some (.lst xs) ∧ SqT K H b zs ∧ xs.length + zs.length ≤ sizeLine ∧ Q .non (upd H l (.lst (xs ++ zs)))
section
variable {X : Cx} {pos : Pos} {e : Expr} {te : DTE}
theorem mt_extT : MtM X "list.extend" (rExtT X.K) := fun pins s σ H x vs v us Q inv rx rv ⟨l, b, xs, zs, ex, ev, hH, hB, hz, q⟩ => by
  subst ex ev
  cases rx
  obtain ⟨u, rfl, ru⟩ := rv.one
  cases ru
  obtain ⟨z, its, n, r, hl, e1⟩ := inv.lstM hH
  obtain ⟨js, r2, ⟨⟨cls, dd, data, sl⟩, ho, hc, m, hd⟩, hs⟩ := inv.tuple hB
  simp only at hc hd
  subst hc hd
  have l2 := r2.length
  have hsz : its.toArray.size + js.toArray.size ≤ sizeLine := by rw [List.size_toArray, List.size_toArray]; omega
  refine call_meets F.slot_list_extend ⟨_, e1, rfl⟩ F.entry_list_extend (F.args_list_extend_2 _ _)
    (list_ext_tup l b its.toArray js.toArray n m dd sl (by rw [notLongL hsz, Bool.and_false]; exact Bool.false_ne_true) (by rw [List.size_toArray]; omega) (by omega)) ⟨e1, ho, ?_⟩
  exact ⟨.non, _, inv.lset (its' := its ++ js) hH e1 (by simp) (r.append r2) (by rw [List.length_append]; omega), rfl, q⟩
/-- l.extend(e), e a tuple -/
def tExtTD (i : Nat) (te : DTE) : DTS := fun Dd Δ n => match Δ[i]? with
  | some (some (.own ds)) => te .bor Δ n fun d n1 => match d with | .tup es => ds.length + es.length ≤ sizeLine ∧ flatAll es = true ∧ Dd.nx (Δ.set i (some (.own (ds ++ es)))) n1 | _ => False
  | _ => False
theorem ds_extT {i : Nat} (he : PE X e (tBM X.K "list" (rExtT X.K) (tVar i) (tCons (lift te) tNil))) (hsw : swapsWith e none pos.line X.env = pure false := by rfl) : DS X (.Expr e pos) (tExtTD i te) :=
  wkS (ps_expr he hsw) fun E σ H ⟨P, H0, fr, av, n, Δ, Dd, S, h, k⟩ => by
    unfold tExtTD at h
    split at h
    · rename_i ds e1
      obtain ⟨p, vs, e2, np, e3, r⟩ := S.at_own e1
      refine ⟨_, e2, .inl ⟨rfl, _, SqL.of e3⟩, lift_at (B := H) .bor S (SameP.refl P H) h fun v H1 d n1 s1 S1 r1 q1 => ?_⟩
      cases d <;> first | exact q1.elim | skip
      cases r1 with
      | tup a1 a2 r2 =>
        refine ⟨p, _, vs, _, rfl, rfl, s1 _ _ e3 np, SqT.of a1, by rw [r.length, r2.length]; exact q1.1, ?_⟩
        exact k.nx _ _ _ _ (S1.wr e1 e2 ((r.same s1).append (RpAll.flat _ _ q1.2.1 r2))) q1.2.2
    · exact h.elim
end
end Dl

set_option Elab.async false
set_option linter.all false
set_option maxRecDepth 100000
set_option maxHeartbeats 1000000
/-! enumerate over a tuple. -/
namespace Dl
open PySem PySem.Spec PyProof.Rows L2
theorem enum_new {v : Value} {o : Obj} {Hv : Heap → Prop} (B : Begins v o Hv) :
    Meets (Builtin.«enumerate.__new__» ⟨[.type "enumerate", v], []⟩) (fun _ R s => Hv s.heap ∧ R (.ok (.ret (.ref (s.heap.push o).objs.size))) { s with heap := (s.heap.push o).push { cls := .type "enumerate", data := .fields #[.none, .bool false, .ref s.heap.objs.size, rawInt 0, .none, .none] } }) :=
  .of_wp fun prog w A R s h => by
    obtain ⟨hp, g, d, tk, os⟩ := s
    obtain ⟨h1, h⟩ := h
    have sb := sub_enumerate
    have go : ∀ {A' : Around} {E : Value → Shared → Prop} {Q : Value → Shared → Prop}, Q (.ref hp.objs.size) ⟨hp.push o, g, d, tk, os⟩ → wpAny (model prog w) A' (pyIter v) Q E ⟨hp, g, d, tk, os⟩ := fun q => B.iter prog w _ _ ⟨hp, g, d, tk, os⟩ _ h1 q
    wp_walk using go
    refine wpAny_stack_any fun st => wpAny_pure ?_
    split
    · rename_i c _ _ _ _ _
      cases (c == Value.type "enumerate") <;> (wp_walk using go; exact ⟨_, rfl, h⟩)
    · wp_walk using go; exact ⟨_, rfl, h⟩
section
variable {prog : Program} {w : World} {A : Around} {E : Value → Shared → Prop} {s : Shared}
theorem call_enum {v : Value} {o : Obj} {Hv : Heap → Prop} {Q : Value → Shared → Prop} (B : Begins v o Hv) (h1 : Hv s.heap)
    (h : ∀ h' : Heap, IsEnum h' (s.heap.objs.size + 1) s.heap.objs.size 0 .none → h'.get? s.heap.objs.size = some o → (∀ b u, s.heap.get? b = some u → h'.get? b = some u) → Q (.ref (s.heap.objs.size + 1)) { s with heap := h' }) :
    wpAny (model prog w) A (call (.type "enumerate") [v]) Q E s := by
  refine callType_new F.called_enumerate (by decide) (F.typeCall_enumerate_1 _) (F.newCall_enumerate_1 _) (fun obj => F.args_object_init_2 obj _) F.entry_enumerate_new (enum_new B) ⟨h1, ?_⟩
  have z : (s.heap.push o).objs.size = s.heap.objs.size + 1 := Heap.size_push ..
  show _ ∧ _
  rw [z]
  have he : IsEnum ((s.heap.push o).push { cls := .type "enumerate", data := .fields #[.none, .bool false, .ref s.heap.objs.size, rawInt 0, .none, .none] }) (s.heap.objs.size + 1) s.heap.objs.size 0 .none := by
    have q := Heap.get?_push_size (s.heap.push o) (o := { cls := .type "enumerate", data := .fields #[.none, .bool false, .ref s.heap.objs.size, rawInt 0, .none, .none] }) rfl
    rw [z] at q
    exact q
  exact ⟨⟨_, he, rfl⟩, h _ he (Heap.get?_push_of_some _ (Heap.get?_push_size _ B.free)) fun b u x => Heap.get?_push_of_some _ (Heap.get?_push_of_some _ x)⟩
end
/-- the tuple at a, each item in a new pair -/
def Itu (K : PySem.W.Frag) (a : Addr) : It :=
  ⟨fun i H => ∃ (xs : List V) (x : V), SqT K H a xs ∧ xs[i]? = some x, fun i H v H' => ∃ T x, v = .ref T ∧ H T = none ∧ H' = upd H T (.tup [.int (i : Nat), x]) ∧ ∀ xs, SqT K H a xs → xs[i]? = some x, fun i H => ∃ xs : List V, SqT K H a xs ∧ xs.length ≤ i⟩
theorem turn_enumT {P : Program} {w : World} {K : PySem.W.Frag} {elts : List Expr} {kk : Nat} {tpos : Pos} (a e it : Addr) :
    Turn P w K (.Tuple elts kk tpos) (Itu K a) [e, it] e (fun i h => (∃ old, IsEnum h e it ((i : Nat) : Int) old) ∧ h.IsTupleIter it a i ∧ e ≠ it ∧ a ≠ it ∧ a ≠ e) where
  mem := by simp
  obj := fun i h ⟨⟨old, he⟩, ⟨o, ho, hc, hd⟩, _⟩ b hb => by
    rcases (show b = e ∨ b = it by simpa using hb) with z | z
    · rw [z]; exact ⟨_, he, fun v q => nomatch q⟩
    · rw [z]; exact ⟨o, ho, fun v q => by rw [hd] at q; cases q⟩
  keep := fun i h h' ⟨⟨old, he⟩, hi, hne⟩ k => ⟨⟨old, k e (by simp) _ he⟩, hi.at fun o q => k it (by simp) o q, hne⟩
  item := by
    rintro X rfl rfl rfl hc i pins s σ H E inv hf ⟨⟨old, he⟩, hit, hne, hai, hae⟩ ⟨xs, x, hq, hx⟩
    obtain ⟨its, rv, p, hz⟩ := inv.tuple hq
    obtain ⟨u, hu, ru⟩ := rv.get hx
    have hel : e < s.heap.objs.size := Heap.lt_size he
    have hil : it < s.heap.objs.size := by obtain ⟨_, q, _⟩ := hit; exact Heap.lt_size q
    have hlt : i < its.toArray.size := by rw [List.size_toArray]; exact (List.getElem?_eq_some_iff.mp hu).1
    refine wpAny_pyNext_enum_itemD (Draws.tuple (A := X.A.in1) (inv.ok.hd hc) it a hai its.toArray) he ⟨hit, p⟩ hlt hne (by simp [hne, Ne.symm hae]) fun y h' tk py ho st' hT hsz hk => ?_
    obtain rfl : u = y := by
      have py : its[i]? = some y := by simpa using py
      rw [hu] at py
      cases py; rfl
    refine ⟨_, rfl, wpAny_letOwnedTupleGo_enum (s := { s with heap := h', toks := tk + 1 }) ho fun h'' he' sb => ?_⟩
    have hT2 : h''.get? s.heap.objs.size = some { cls := .type "tuple", data := .seq #[.int i tk, u] } := (sb.2 _ (Nat.ne_of_gt hel)).trans hT
    have new : ObjOk X.prog X.w (upd H s.heap.objs.size (.tup [.int (i : Nat), x])) h'' s.heap.objs.size (.tup [.int (i : Nat), x]) :=
      ⟨by show 2 ≤ sizeLine; decide, [.int i tk, u], .cons ⟨_, rfl⟩ (.cons ru .nil), ⟨_, hT2, rfl, _, rfl⟩⟩
    have inv1 : Inv X pins σ (upd H s.heap.objs.size (.tup [.int (i : Nat), x])) { s with heap := h'', toks := tk + 1 } :=
      inv.turnedNew (ch := [e, it]) (fun b ob hb q => (sb.2 b (fun z => hb (by simp [z]))).trans (hk b ob (fun z => hb (by simp [z])) (fun z => hb (by simp [z])) q)) hf (Nat.le_refl _) new
    refine ⟨.ref s.heap.objs.size, _, inv1, rfl, ⟨_, x, rfl, inv.hok.fresh (Nat.le_refl _), rfl, fun ys hy => by rw [inv.tuple_inj hy hq]; exact hx⟩, ⟨⟨u, ?_⟩, st'.1.at fun o q => (sb.2 it (Ne.symm hne)).trans q, hne, hai, hae⟩, fun b hb => ?_⟩
    · rw [show ((i + 1 : Nat) : Int) = (i : Int) + 1 by omega]; exact he'
    · have hb' : b < s.heap.objs.size := by
        rcases (show b = e ∨ b = it by simpa using hb) with z | z
        · rw [z]; exact hel
        · rw [z]; exact hil
      rw [upd_ne (Nat.ne_of_lt hb')]
      exact (hf b hb).1
  done := by
    rintro X rfl rfl rfl hc i pins s σ H E inv hf ⟨⟨old, he⟩, hit, hne, hai, hae⟩ ⟨xs, hq, hx⟩
    obtain ⟨its, rv, p, hz⟩ := inv.tuple hq
    obtain ⟨f0, f1, f2, f3, f4, f5⟩ := hf it (by simp)
    have hl := rv.length
    have D : Draws X.prog X.w X.A.in1 it [it, a] i (fun _ _ => False) (fun j h => j = i ∧ h.IsTupleIter it a i ∧ h.IsTuple a its.toArray) :=
      { live := fun j h st => let ⟨o, ho, _⟩ := st.2.1; ⟨o, ho⟩
        frame := fun j h h' st k => ⟨st.1, st.2.1.at fun o q => k it (by simp) o q, st.2.2.at fun o q => k a (by simp) o q⟩
        item := fun j s Q E hj st _ => absurd st.1 (Nat.ne_of_lt hj)
        done := fun s Q E st hE => wpAny_nextOf_tuple_end (inv.ok.hd hc) st.2.1 st.2.2 (by rw [← Array.getElem?_toList]; exact List.getElem?_eq_none (by show its.length ≤ i; omega)) hE }
    exact wpAny_pyNext_enum_endD D he ⟨rfl, hit, p⟩ fun h' eb => ⟨rfl, inv.turned (t' := s.toks) (fun b o hb q => eb b o hb q) f0 f1 f3 f4 f5⟩
  self := fun A i s Q E ⟨⟨_, he⟩, _⟩ h => wpAny_pyIter_enum he h
def iEnumT (K : PySem.W.Frag) (ta : TA) : TI := fun σ H R => ta σ H fun vs H1 => ∃ a xs, vs = [.ref a] ∧ SqT K H1 a xs ∧ R (Itu K a) H1
section
variable {X : Cx} {e : Expr} {p pos tpos : Pos} {elts : List Expr} {kk : Nat}
theorem pi_enumT {ta : TA} (hg : Gl X "enumerate") (hm : X.mg "enumerate" = none) (ha : PA X [e] ta) (hs : starEach [e] X.env = [(false, eval e X.env)] := by rfl) : PI X (.Tuple elts kk tpos) (.Call (.Name "enumerate" p) [e] [] pos) (iEnumT X.K ta) :=
  ⟨fun pins s σ H R inv h => Call_ (ld_blt inv hg hm boot_enumerate (PyProof.Rows.callWith_type1 (thn (ha.run pos pins s σ H _ inv h) fun us s1 ⟨vs, H1, inv1, r1, a, xs, ex, hq, q⟩ => by
    subst ex
    cases r1 with
    | cons r rr =>
      cases rr
      cases r
      obtain ⟨its, rv, pt, hz⟩ := inv1.tuple hq
      have ha1 : a < s1.heap.objs.size := by obtain ⟨_, z, _⟩ := pt; exact Heap.lt_size z
      refine call_enum (begins_tuple a its.toArray) pt fun h' he hit hk => wpAny_pyIter_enum he ?_
      have inv2 : Inv X pins σ H1 { s1 with heap := h' } := inv1.kept (t' := s1.toks) hk
      refine ⟨s1.heap.objs.size + 1, [s1.heap.objs.size + 1, s1.heap.objs.size], _, _, H1, rfl, inv2, turn_enumT a (s1.heap.objs.size + 1) s1.heap.objs.size, ⟨⟨.none, he⟩, ⟨_, hit, rfl, rfl⟩, Nat.succ_ne_self _, Nat.ne_of_lt ha1, Nat.ne_of_lt (Nat.lt_succ_of_lt ha1)⟩, fun b hb => ?_, q⟩
      have hle : s1.heap.objs.size ≤ b := by
        rcases (show b = s1.heap.objs.size + 1 ∨ b = s1.heap.objs.size by simpa using hb) with z | z
        · rw [z]; exact Nat.le_add_right _ _
        · rw [z]; exact Nat.le_refl _
      exact inv1.fpOk hle (inv1.hok.fresh hle)) hs rfl))⟩
def tWEnumT (te : DTE) : DTI := fun m Δ n Q => te m Δ n fun d n1 => match d with | .tup ds => ds.length ≤ sizeLine ∧ Q (enumD 0 ds) n1 | _ => False
theorem goes_enumT {K : PySem.W.Frag} {P : Addr} {a : Addr} {ds : List D} : Goes P (Itu K a) [(.ref a, .tup ds)] (enumD 0 ds) := fun H A p0 nA hg i => by
  have r := hg _ (List.mem_singleton.mpr rfl)
  cases r with
  | tup h1 h2 r =>
    refine ⟨fun hi => ⟨_, SqT.of h1, by rw [r.length]; rw [enumD_length] at hi; exact hi⟩, fun it e => ?_⟩
    rw [enumD_get] at e
    obtain ⟨d, hd, rfl⟩ : ∃ d, ds[i]? = some d ∧ it = .tup [.int ((0 + i : Nat) : Int), d] := by
      cases q : ds[i]? with
      | none => rw [q] at e; cases e
      | some c => rw [q] at e; cases e; exact ⟨c, rfl, rfl⟩
    obtain ⟨v, e1, e2⟩ := r.get hd
    refine ⟨⟨_, v, SqT.of h1, e1⟩, fun x H' y => ?_⟩
    obtain ⟨T, u, rfl, hT, rfl, y⟩ := y
    have := y _ (SqT.of h1)
    rw [e1] at this
    cases this
    exact ⟨same_new hT, .tup upd_same (ne_P p0 hT) (.cons (by rw [Nat.zero_add]; exact .int _) (.cons (e2.same (SameP.new hT)) .nil))⟩
theorem di_enumT {te : DTE} (hg : Gl X "enumerate") (hm : X.mg "enumerate" = none) (he : DE X e te) (hs : starEach [e] X.env = [(false, eval e X.env)] := by rfl) : DI X (.Tuple elts kk tpos) (.Call (.Name "enumerate" p) [e] [] pos) (tWEnumT te) :=
  wkI (pi_enumT hg hm (pa_cons he pa_nil hs) hs) fun σ H R ⟨P, H0, fr, av, n, Δ, m, Qd, S, h, k⟩ => lift_at (B := H) m S (SameP.refl P H) h fun v H1 d n1 s1 S1 r1 q1 => by
    cases d <;> first | exact q1.elim | skip
    have r2 := r1
    cases r1 with
    | tup a1 a2 r => exact ⟨_, _, rfl, SqT.of a1, k _ _ [(_, .tup _)] _ n1 s1 S1.pen (fun g hg => by cases List.mem_singleton.mp hg; exact r2) goes_enumT (by rw [enumD_length]; exact sz62 q1.1) q1.2⟩
end
end Dl

set_option Elab.async false
set_option linter.all false
set_option maxRecDepth 100000
set_option maxHeartbeats 1000000
namespace Lw
open PySem PySem.Spec PyProof.Rows L2 Dl
abbrev numT (i : Int) : Str := ((toString i : String) : Str)
def wordsT (w : Str) (ns : List Int) : Str := ns.foldl (fun acc k => acc ++ Str.ofString " " ++ numT k) w
def lineT (w : Str) (ns : List Int) : Str := wordsT w ns ++ Str.ofString "\n"
theorem words_join : ∀ (ns : List Int) (w : Str), wordsT w ns = Str.join (Str.ofString " ") (w :: ns.map numT)
  | [], w => rfl
  | k :: ns, w => by
    show wordsT (w ++ Str.ofString " " ++ numT k) ns = _
    rw [words_join ns, StrLaws.join_shift]
    rfl
theorem num_len_all : ∀ n : Fin 100, (numT (n.val : Int)).length ≤ 2 := by decide +kernel
theorem num_len {i : Int} (h : 0 ≤ i ∧ i < 100) : (numT i).length ≤ 2 := by
  have := num_len_all ⟨i.toNat, by omega⟩
  have e : ((i.toNat : Nat) : Int) = i := Int.toNat_of_nonneg h.1
  simp only [e] at this
  exact this
theorem sp_len : (Str.ofString " ").length = 1 := by decide +kernel
theorem nl_len : (Str.ofString "\n").length = 1 := by decide +kernel
theorem words_len : ∀ (ns : List Int) (w : Str), small ns → (wordsT w ns).length ≤ w.length + 3 * ns.length
  | [], w, _ => by show w.length ≤ _; simp
  | k :: ns, w, h => by
    have ih := words_len ns (w ++ Str.ofString " " ++ numT k) fun n hn => h n (List.mem_cons_of_mem _ hn)
    have := num_len (h k (List.mem_cons_self ..))
    show (wordsT (w ++ Str.ofString " " ++ numT k) ns).length ≤ _
    rw [Str.length_append, Str.length_append, sp_len] at ih
    rw [List.length_cons]
    omega
theorem line_len (ns : List Int) (w : Str) (h : small ns) : (lineT w ns).length ≤ w.length + 3 * ns.length + 1 := by
  unfold lineT
  rw [Str.length_append, nl_len]
  have := words_len ns w h
  omega
theorem log_small {i : Int} (h : 0 ≤ i ∧ i < 100) : i.natAbs.log2 < 1920 := by
  have : i.natAbs.log2 ≤ i.natAbs := Nat.log2_le_self _
  omega
theorem num_sum : ∀ ns : List Int, small ns → ((ns.map numT).map (·.length)).sum ≤ 2 * ns.length
  | [], _ => by simp
  | k :: ns, h => by
    have ih := num_sum ns fun n hn => h n (List.mem_cons_of_mem _ hn)
    have := num_len (h k (List.mem_cons_self ..))
    simp only [List.map_cons, List.sum_cons, List.length_cons]
    omega
/-! ### line_of -/
def isSeq (d : D) (ns : List Int) : Prop := d = .lst (ns.map D.int) ∨ d = .tup (ns.map D.int)
def sp_line_of : DSp := fun ds n Q => ∃ (w : Str) (ns : List Int) (d : D), ds = [.str w, d] ∧ isSeq d ns ∧ w.length ≤ 100 ∧ ns.length ≤ 100 ∧ small ns ∧ Q (.str (lineT w ns)) n
theorem len_line_of : ∀ ds n Q, sp_line_of ds n Q → ds.length = 2 := by
  rintro ds n Q ⟨w, ns, d, rfl, _⟩; rfl
def rd_line_of : DTS := (tRetD (tOpD drAdd (tJoinD (tCD (.str (Str.ofString " "))) (tOpD drAdd (tLstD (tConsD (tVarD 0) tNilD)) (tLcD .bor (tWSeq (tVarD 1)) 2 tYesD (tCallN drStrI (tConsD (tVarD 2) tNilD))))) (tCD (.str (Str.ofString "\n")))))
def strD : D → D
  | .int i => .str (numT i)
  | _ => .non
theorem map_strD (ns : List Int) : (ns.map D.int).map strD = (ns.map numT).map D.str := by
  rw [List.map_map, List.map_map]; rfl
theorem small100 {n : Nat} (h : n ≤ 100000) : n ≤ sizeLine := Nat.le_trans h (by decide)
theorem flat_strs (ns : List Str) : flatAll (ns.map D.str) = true := flatAll_map (fun _ => rfl) ns
/-- [str(k) for k in ks] -/
theorem lc_strs {i : Nat} {m : Md} {Δ : DEnv} {ns : List Int} {n : Nat} {Q : D → Nat → Prop} (hs : small ns) (hl : ns.length ≤ 100) (hj : ∀ d, (Δ.set i (some (.frz d)))[i]? = some (some (.frz d)))
    (h : Q (.lst ((ns.map numT).map D.str)) n) : lcW i tYesD (tCallN drStrI (tConsD (tVarD i) tNilD)) m Δ Q (ns.map D.int) [] n := by
  refine lcW_map strD rfl _ [] n (by simp; exact small100 (by omega)) (fun d hd n' Q' q => ?_) (by rw [List.nil_append, map_strD]; exact h)
  obtain ⟨k, hk, rfl⟩ := List.mem_map.mp hd
  show tVarD i .bor _ n' _
  unfold tVarD
  rw [hj]
  exact ⟨log_small (hs k hk), q⟩
theorem read_line_of : ∀ ds n Qd, sp_line_of ds n Qd → rd_line_of { nx := fun _ n' => Qd .non n', rt := Qd } (startD ["word", "numbers", "number"] ds) n := by
  rintro ds n Qd ⟨w, ns, d, rfl, hd, hw, hl, hs, q⟩
  have key : drAdd (.lst [.str w]) (.lst ((ns.map numT).map D.str)) fun z => ∃ ys : List Str, z = .lst (ys.map D.str) ∧ (ys.map (·.length)).sum + ys.length * (Str.ofString " ").length ≤ 16777216 ∧ drAdd (.str (Txt.join (Str.ofString " ") ys)) (.str (Str.ofString "\n")) fun z => Qd z n := by
    refine ⟨small100 (by simp; omega), rfl, flat_strs _, w :: ns.map numT, rfl, ?_, ?_, ?_⟩
    · have := num_sum ns hs
      rw [sp_len]
      simp only [List.map_cons, List.sum_cons, List.length_cons, List.length_map] at this ⊢
      omega
    · rw [TL.join_eq, ← words_join]
      have := words_len ns w hs
      exact small100 (by rw [nl_len]; omega)
    · rw [TL.join_eq, ← words_join]
      exact q
  refine ⟨by show 1 ≤ sizeLine; decide, trivial, ?_⟩
  rcases hd with rfl | rfl
  · exact .inl ⟨small100 (by simp; omega), flat_ints ns, lc_strs hs hl (fun _ => rfl) key⟩
  · exact .inr ⟨small100 (by simp; omega), flat_ints ns, lc_strs hs hl (fun _ => rfl) key⟩
end Lw

set_option Elab.async false
set_option linter.all false
set_option maxRecDepth 100000
set_option maxHeartbeats 1000000
namespace Lw
open PySem PySem.Spec PyProof.Rows L2 Dl
structure okH (h : Hs) : Prop where
  len : h.length ≤ 100
  rows : ∀ r ∈ h, r.length ≤ 100 ∧ small r
def houseT (h : Hs) : Str := h.foldl (fun acc r => acc ++ lineT (Str.ofString "room") r) Str.empty
theorem room_len : (Str.ofString "room").length = 4 := by decide +kernel
theorem empty_len : (Str.ofString "").length = 0 := by decide +kernel
theorem ofs_empty : Str.ofString "" = Str.empty := by decide +kernel
theorem join_empty : ∀ (xs : List Str) (x : Str), Str.join (Str.ofString "") (x :: xs) = xs.foldl (fun acc p => acc ++ p) x
  | [], _ => rfl
  | y :: xs, x => by
    have h := join_empty xs (x ++ y)
    rw [List.foldl_cons, ← h]
    have e : x ++ y = x ++ Str.ofString "" ++ y := by rw [ofs_empty, Str.append_empty]
    rw [e, StrLaws.join_shift]
    rfl
theorem house_join (h : Hs) : Str.join (Str.ofString "") (h.map (lineT (Str.ofString "room"))) = houseT h := by
  cases h with
  | nil => rfl
  | cons r h =>
    rw [List.map_cons, join_empty, List.foldl_map]
    unfold houseT
    rw [List.foldl_cons, Str.empty_append]
theorem house_len : ∀ (h : Hs) (acc : Str), (∀ r ∈ h, r.length ≤ 100 ∧ small r) → (h.foldl (fun acc r => acc ++ lineT (Str.ofString "room") r) acc).length ≤ acc.length + 305 * h.length
  | [], acc, _ => by simp
  | r :: h, acc, ok => by
    have ih := house_len h (acc ++ lineT (Str.ofString "room") r) fun r' hr => ok r' (List.mem_cons_of_mem _ hr)
    obtain ⟨h1, h2⟩ := ok r (List.mem_cons_self ..)
    have := line_len r (Str.ofString "room") h2
    rw [Str.length_append] at ih
    rw [room_len] at this
    rw [List.foldl_cons, List.length_cons]
    omega
theorem lines_sum : ∀ h : Hs, (∀ r ∈ h, r.length ≤ 100 ∧ small r) → ((h.map (lineT (Str.ofString "room"))).map (·.length)).sum ≤ 305 * h.length
  | [], _ => by simp
  | r :: h, ok => by
    have ih := lines_sum h fun r' hr => ok r' (List.mem_cons_of_mem _ hr)
    obtain ⟨h1, h2⟩ := ok r (List.mem_cons_self ..)
    have := line_len r (Str.ofString "room") h2
    rw [room_len] at this
    simp only [List.map_cons, List.sum_cons, List.length_cons]
    omega
/-! ### show_house -/
def sp_show_house : DSp := fun ds n Q => ∃ h : Hs, ds = [encH h] ∧ okH h ∧ Q (.str (houseT h)) n
theorem len_show_house : ∀ ds n Q, sp_show_house ds n Q → ds.length = 1 := by
  rintro ds n Q ⟨h, rfl, _⟩; rfl
def rd_show_house : DTS := (tRetD (tJoinD (tCD (.str (Str.ofString ""))) (tLcD .bor (tWSeq (tVarD 0)) 1 tYesD (tCallD sp_line_of (tConsD (tCD (.str (Str.ofString "room"))) (tConsD (tVarD 1) tNilD))))))
theorem flat_encIs (h : Hs) : flatAll (h.map encI) = true := flatAll_map flat_encI h
theorem read_show_house : ∀ ds n Qd, sp_show_house ds n Qd → rd_show_house { nx := fun _ n' => Qd .non n', rt := Qd } (startD ["house", "room"] ds) n := by
  rintro ds n Qd ⟨h, rfl, ok, q⟩
  have hl := ok.len
  refine ⟨trivial, .inr ⟨small100 (by rw [List.length_map]; omega), flat_encIs h, lcW_mapE encI (fun r => .str (lineT (Str.ofString "room") r)) rfl h [] n (by simp; exact small100 (by omega)) (fun r hr n' Q' q' => ?_) ?_⟩⟩
  · obtain ⟨h1, h2⟩ := ok.rows r hr
    exact ⟨_, r, _, rfl, .inr rfl, by rw [room_len]; decide, h1, h2, q'⟩
  · refine ⟨h.map (lineT (Str.ofString "room")), by rw [List.nil_append, List.map_map]; rfl, ?_, ?_⟩
    · have := lines_sum h ok.rows
      rw [empty_len]
      omega
    · rw [TL.join_eq, house_join]; exact q
/-! ### show_standing -/
def standT (b : List Int) (a : Int) : Str := lineT (Str.ofString "beads") b ++ lineT (Str.ofString "at") [a]
def sp_show_standing : DSp := fun ds n Q => ∃ (b : List Int) (a : Int), ds = [encS b a] ∧ b.length ≤ 100 ∧ small b ∧ 0 ≤ a ∧ a < 100 ∧ Q (.str (standT b a)) n
theorem len_show_standing : ∀ ds n Q, sp_show_standing ds n Q → ds.length = 1 := by
  rintro ds n Q ⟨b, a, rfl, _⟩; rfl
theorem beads_len : (Str.ofString "beads").length = 5 := by decide +kernel
theorem at_len : (Str.ofString "at").length = 2 := by decide +kernel
theorem small_one {a : Int} (h0 : 0 ≤ a) (h1 : a < 100) : small [a] := fun n hn => by
  rw [List.mem_singleton] at hn; subst hn; exact ⟨h0, h1⟩
def rd_show_standing : DTS := (tSeqD (tAsgD (tVarD 0) (gTupD 2 (gConsD (gNameD 1) (gConsD (gNameD 2) gNilD))))
  (tRetD (tOpD drAdd (tCallD sp_line_of (tConsD (tCD (.str (Str.ofString "beads"))) (tConsD (tVarD 1) tNilD))) (tCallD sp_line_of (tConsD (tCD (.str (Str.ofString "at"))) (tConsD (tLstD (tConsD (tVarD 2) tNilD)) tNilD))))))
theorem stand_len {b : List Int} {a : Int} (hl : b.length ≤ 100) (hs : small b) (h0 : 0 ≤ a) (h1 : a < 100) : (lineT (Str.ofString "beads") b).length + (lineT (Str.ofString "at") [a]).length ≤ 400 := by
  have e1 := line_len b (Str.ofString "beads") hs
  have e2 := line_len [a] (Str.ofString "at") (small_one h0 h1)
  rw [beads_len] at e1
  rw [at_len] at e2
  simp only [List.length_singleton] at e2
  omega
theorem read_show_standing : ∀ ds n Qd, sp_show_standing ds n Qd → rd_show_standing { nx := fun _ n' => Qd .non n', rt := Qd } (startD ["standing", "beads", "at"] ds) n := by
  rintro ds n Qd ⟨b, a, rfl, hl, hs, h0, h1, q⟩
  refine ⟨rfl, _, b, _, rfl, .inr rfl, by rw [beads_len]; decide, hl, hs, by show 1 ≤ sizeLine; decide, _, [a], _, rfl, .inl rfl, by rw [at_len]; decide, by simp, small_one h0 h1, ?_, q⟩
  exact small100 (Nat.le_trans (stand_len hl hs h0 h1) (by decide))
/-! ### show_ends -/
def endsT (ns : List Int) : Str := if ns = [] then Str.ofString "-" else Str.join (Str.ofString " ") (ns.map numT)
def sp_show_ends : DSp := fun ds n Q => ∃ (ns : List Int) (d : D), ds = [d] ∧ isSeq d ns ∧ ns.length ≤ 100 ∧ small ns ∧ Q (.str (endsT ns)) n
theorem len_show_ends : ∀ ds n Q, sp_show_ends ds n Q → ds.length = 1 := by
  rintro ds n Q ⟨ns, d, rfl, _⟩; rfl
def rd_show_ends : DTS := (tRetD (tOrSD (tJoinD (tCD (.str (Str.ofString " "))) (tLcD .bor (tWSeq (tVarD 0)) 1 tYesD (tCallN drStrI (tConsD (tVarD 1) tNilD)))) (tCD (.str (Str.ofString "-")))))
theorem num_pos_all : ∀ n : Fin 100, 1 ≤ (numT (n.val : Int)).length := by decide +kernel
theorem num_pos {i : Int} (h : 0 ≤ i ∧ i < 100) : 1 ≤ (numT i).length := by
  have := num_pos_all ⟨i.toNat, by omega⟩
  have e : ((i.toNat : Nat) : Int) = i := Int.toNat_of_nonneg h.1
  simp only [e] at this
  exact this
theorem words_ge : ∀ (ns : List Int) (w : Str), w.length ≤ (wordsT w ns).length
  | [], w => Nat.le_refl _
  | k :: ns, w => by
    have ih := words_ge ns (w ++ Str.ofString " " ++ numT k)
    show w.length ≤ (wordsT (w ++ Str.ofString " " ++ numT k) ns).length
    rw [Str.length_append, Str.length_append] at ih
    omega
theorem join_words (k : Int) (ns : List Int) : Str.join (Str.ofString " ") ((k :: ns).map numT) = wordsT (numT k) ns := (words_join ns (numT k)).symm
theorem read_show_ends : ∀ ds n Qd, sp_show_ends ds n Qd → rd_show_ends { nx := fun _ n' => Qd .non n', rt := Qd } (startD ["ends", "end"] ds) n := by
  rintro ds n Qd ⟨ns, d, rfl, hd, hl, hs, q⟩
  have key : ∃ ys : List Str, D.lst ((ns.map numT).map D.str) = .lst (ys.map D.str) ∧ (ys.map (·.length)).sum + ys.length * (Str.ofString " ").length ≤ 16777216 ∧
      ((Txt.join (Str.ofString " ") ys).length ≤ sizeLine ∧ if (Txt.join (Str.ofString " ") ys).length = 0 then Qd (.str (Str.ofString "-")) n else Qd (.str (Txt.join (Str.ofString " ") ys)) n) := by
    refine ⟨ns.map numT, rfl, ?_, ?_⟩
    · have := num_sum ns hs
      rw [sp_len]
      simp only [List.length_map] at this ⊢
      omega
    · rw [TL.join_eq]
      unfold endsT at q
      cases ns with
      | nil =>
        rw [if_pos rfl] at q
        refine ⟨by decide, ?_⟩
        rw [if_pos (by decide)]
        exact q
      | cons k ns =>
        rw [if_neg (by simp)] at q
        rw [join_words] at q ⊢
        have e1 := num_pos (hs k (List.mem_cons_self ..))
        have e2 := words_ge ns (numT k)
        have e3 := words_len ns (numT k) fun n hn => hs n (List.mem_cons_of_mem _ hn)
        have e4 := num_len (hs k (List.mem_cons_self ..))
        rw [List.length_cons] at hl
        refine ⟨small100 (by omega), ?_⟩
        rw [if_neg (by omega)]
        exact q
  rcases hd with rfl | rfl
  · exact ⟨trivial, .inl ⟨small100 (by simp; omega), flat_ints ns, lc_strs hs hl (fun _ => rfl) key⟩⟩
  · exact ⟨trivial, .inr ⟨small100 (by simp; omega), flat_ints ns, lc_strs hs hl (fun _ => rfl) key⟩⟩
end Lw

set_option Elab.async false
set_option linter.all false
set_option maxRecDepth 100000
set_option maxHeartbeats 1000000
namespace Lw
open PySem PySem.Spec PyProof.Rows L2 Dl
abbrev sp_l_pick := spPick
abbrev sp_l_plan := spPlan
/-! ### drawn beads -/
def sp_l_loads : DSp := fun ds n Q => ∃ (wires : Nat) (upto : Int), ds = [.pen, .int wires, .int upto] ∧ wires ≤ 40 ∧ n + 2 * wires ≤ lim ∧ ∀ ls : List Int, ls.length = wires → (∀ l ∈ ls, 1 ≤ l ∧ l ≤ 9) → Q (encI ls) (n + 2 * wires)
theorem len_l_loads : ∀ ds n Q, sp_l_loads ds n Q → ds.length = 3 := by
  rintro ds n Q ⟨w, u, rfl, _⟩; rfl
def rd_l_loads : DTS := (tSeqD (tOwnD 3 (tLstD tNilD))
  (tSeqD (tSetD 4 (tCD (.int 1)))
  (tSeqD (tSetD 5 (tCD (.int 1)))
  (tSeqD (tForD (tWRng1 (tVarD 1)) (gNameD 6) (tSetD 5 (tOpD drMul (tVarD 5) (tCD (.int 2)))))
  (tSeqD (tForD (tWRng1 (tVarD 1)) (gNameD 6) (tSeqD (tSetD 5 (tOpD drDiv (tVarD 5) (tCD (.int 2))))
  (tSeqD (tSetD 7 (tOpD drAdd (tCD (.int 1)) (tCallD sp_l_pick (tConsD (tVarD 0) (tConsD (tOpD drIx (tLstD (tConsD (tCD (.int 1)) (tConsD (tCD (.int 2)) (tConsD (tCD (.int 3)) (tConsD (tCD (.int 9)) tNilD))))) (tCallD sp_l_pick (tConsD (tVarD 0) (tConsD (tCD (.int 4)) tNilD)))) tNilD)))))
  (tSeqD (tWhileD (tAndD (tTestD (tOpD drGt (tVarD 7) (tCD (.int 1)))) (tTestD (tOpD drGt (tOpD drMul (tOpD drMul (tVarD 4) (tOpD drAdd (tVarD 7) (tCD (.int 1)))) (tVarD 5)) (tVarD 2)))) (tSetD 7 (tOpD drSub (tVarD 7) (tCD (.int 1)))))
  (tSeqD (tAppD 3 (tVarD 7))
  (tSetD 4 (tOpD drMul (tVarD 4) (tOpD drAdd (tVarD 7) (tCD (.int 1))))))))))
  (tRetD (tCallN drTup (tConsD (tVarD 3) tNilD))))))))
theorem read_l_loads : ∀ ds n Qd, sp_l_loads ds n Qd → rd_l_loads { nx := fun _ n' => Qd .non n', rt := Qd } (startD ["pen", "wires", "upto", "found", "ways", "rest", "k", "many"] ds) n := by
  rintro ds n Qd ⟨wires, upto, rfl, hw, hn, q⟩
  have ew : ((wires : Int)).toNat = wires := Int.toNat_natCast wires
  refine ⟨by show 0 ≤ sizeLine; decide, rfl, by omega, by omega, ?_⟩
  -- rest = 2 ** wires
  refine ⟨fun j Δ n' => ∃ v6, Δ = [some (.frz .pen), some (.frz (.int wires)), some (.frz (.int upto)), some (.own []), some (.frz (.int 1)), some (.frz (.int (2 ^ j))), v6, none] ∧ n = n', ⟨none, rfl, rfl⟩, ?_, ?_⟩
  · rintro j d Δ n' hj ⟨v6, rfl, rfl⟩
    exact ⟨.inr ⟨by decide, by decide⟩, _, by rw [Int.pow_succ]; rfl, rfl⟩
  rintro Δ n' ⟨v6, rfl, rfl⟩
  rw [rangeD_length, ew]
  have hp : (2 : Int) ^ wires ≤ 2 ^ 40 := by
    have := Nat.pow_le_pow_right (n := 2) (by decide) hw
    have e : ((2 ^ wires : Nat) : Int) ≤ ((2 ^ 40 : Nat) : Int) := by exact_mod_cast this
    simpa using e
  have hp0 : (0 : Int) ≤ 2 ^ wires := Int.pow_nonneg (by decide)
  generalize (2 : Int) ^ wires = R at hp hp0 ⊢
  refine ⟨by omega, by omega, ?_⟩
  refine ⟨fun j Δ n' => ∃ (v6 v7 : Option SV) (rest ways : Int) (ls : List Int), Δ = [some (.frz .pen), some (.frz (.int wires)), some (.frz (.int upto)), some (.own (ls.map D.int)), some (.frz (.int ways)), some (.frz (.int rest)), v6, v7] ∧ 0 ≤ rest ∧ rest ≤ 2 ^ 40 ∧
    ls.length = j ∧ (∀ l ∈ ls, 1 ≤ l ∧ l ≤ 9) ∧ n' = n + 2 * j, ⟨v6, none, R, 1, [], rfl, hp0, hp, rfl, by simp, rfl⟩, ?_, ?_⟩
  · rintro j d Δ n' hj ⟨v6, v7, rest, ways, ls, rfl, r0, r1, hl, hb, rfl⟩
    have hjw : j < wires := by
      have := (List.getElem?_eq_some_iff.mp hj).1
      rw [rangeD_length, ew] at this
      exact this
    refine ⟨⟨by decide, by decide⟩, by show 4 ≤ sizeLine; decide, 4, rfl, by decide, by decide, by omega, fun z z0 z1 => ?_⟩
    have h4 : z = 0 ∨ z = 1 ∨ z = 2 ∨ z = 3 := by omega
    have top : ∃ t : Int, atI [D.int 1, D.int 2, D.int 3, D.int 9] z = some (.int t) ∧ 1 ≤ t ∧ t ≤ 9 := by
      rcases h4 with rfl | rfl | rfl | rfl
      · exact ⟨1, rfl, by decide, by decide⟩
      · exact ⟨2, rfl, by decide, by decide⟩
      · exact ⟨3, rfl, by decide, by decide⟩
      · exact ⟨9, rfl, by decide, by decide⟩
    obtain ⟨t, et, t1, t9⟩ := top
    refine ⟨_, et, rfl, t, rfl, by omega, by omega, by omega, fun y y0 y1 => ?_⟩
    have hr0 : 0 ≤ rest / 2 := by omega
    have hr1 : rest / 2 ≤ 2 ^ 40 := by omega
    -- while
    refine ⟨fun m Δ n'' => ∃ many : Int, m = many.toNat ∧ 1 ≤ many ∧ many ≤ 9 ∧ Δ = [some (.frz .pen), some (.frz (.int wires)), some (.frz (.int upto)), some (.own (ls.map D.int)), some (.frz (.int ways)), some (.frz (.int (rest / 2))), some (.frz d), some (.frz (.int many))] ∧ n'' = n + 2 * j + 2,
      ⟨_, 1 + y, rfl, by omega, by omega, rfl, rfl⟩, ?_⟩
    rintro m Δ n'' ⟨many, rfl, m1, m9, rfl, rfl⟩
    have fin : ∀ many : Int, 1 ≤ many → many ≤ 9 → (tSeqD (tAppD 3 (tVarD 7)) (tSetD 4 (tOpD drMul (tVarD 4) (tOpD drAdd (tVarD 7) (tCD (.int 1))))))
        { nx := fun Δ n' => ∃ (v6 v7 : Option SV) (rest ways : Int) (ls : List Int), Δ = [some (.frz .pen), some (.frz (.int wires)), some (.frz (.int upto)), some (.own (ls.map D.int)), some (.frz (.int ways)), some (.frz (.int rest)), v6, v7] ∧ 0 ≤ rest ∧ rest ≤ 2 ^ 40 ∧
            ls.length = j + 1 ∧ (∀ l ∈ ls, 1 ≤ l ∧ l ≤ 9) ∧ n' = n + 2 * (j + 1), rt := Qd, bk := fun _ _ => False, ct := fun _ _ => False }
        [some (.frz .pen), some (.frz (.int wires)), some (.frz (.int upto)), some (.own (ls.map D.int)), some (.frz (.int ways)), some (.frz (.int (rest / 2))), some (.frz d), some (.frz (.int many))] (n + 2 * j + 2) := fun many m1 m9 => by
      refine ⟨Nat.lt_of_le_of_lt (show (ls.map D.int).length ≤ 100 by rw [List.length_map]; omega) (by decide), .inr ⟨by omega, by omega⟩, some (.frz d), some (.frz (.int many)), rest / 2, ways * (many + 1), ls ++ [many], ?_, hr0, hr1, by simp [hl], ?_, by omega⟩
      · rw [List.map_append]; rfl
      · intro l hm
        rcases List.mem_append.mp hm with hm | hm
        · exact hb l hm
        · rw [List.mem_singleton] at hm; subst hm; exact ⟨m1, m9⟩
    refine ite2 (fun h1 => ?_) (fun h1 => iteF (fin many m1 m9))
    have h1 : 1 < many := of_decide_eq_true h1
    refine ⟨.inr ⟨by omega, by omega⟩, .inr ⟨by omega, by omega⟩, ite2 (fun _ => ?_) (fun _ => fin many m1 m9)⟩
    exact ⟨(many - 1).toNat, by omega, many - 1, rfl, by omega, by omega, rfl, rfl⟩
  · rintro Δ n' ⟨v6, v7, rest, ways, ls, rfl, r0, r1, hl, hb, rfl⟩
    rw [rangeD_length, ew] at hl ⊢
    exact ⟨flat_ints ls, q ls hl hb⟩
end Lw

set_option Elab.async false
set_option linter.all false
set_option maxRecDepth 100000
set_option maxHeartbeats 1000000
namespace Lw
open PySem PySem.Spec PyProof.Rows L2 Dl
/-! ### a drawn standing -/
def pairsF (ps : List (Int × Int)) : List Int := ps.flatMap fun p => [p.1, p.2]
structure IsSt (wires : Nat) (b : List Int) (a : Int) : Prop where
  pairs : ∃ ps : List (Int × Int), b = pairsF ps ∧ ps.length = wires ∧ ∀ p ∈ ps, 0 ≤ p.1 ∧ 0 ≤ p.2 ∧ 1 ≤ p.1 + p.2 ∧ p.1 + p.2 ≤ 9
  a0 : 0 ≤ a
  a1 : a < 2 * wires
  at' : ∃ x, b[a.toNat]? = some x ∧ 0 < x
theorem pairsF_len : ∀ ps : List (Int × Int), (pairsF ps).length = 2 * ps.length
  | [] => rfl
  | p :: ps => by
    have := pairsF_len ps
    unfold pairsF at this ⊢
    rw [List.flatMap_cons, List.length_append, this, List.length_cons]
    simp only [List.length_cons, List.length_nil]
    omega
theorem pairsF_app (ps qs : List (Int × Int)) : pairsF (ps ++ qs) = pairsF ps ++ pairsF qs := List.flatMap_append
theorem pairsF_mem {ps : List (Int × Int)} {x : Int} (h : x ∈ pairsF ps) : ∃ p ∈ ps, x = p.1 ∨ x = p.2 := by
  unfold pairsF at h
  obtain ⟨p, hp, hx⟩ := List.mem_flatMap.mp h
  exact ⟨p, hp, by simpa using hx⟩
def sp_l_laid : DSp := fun ds n Q => ∃ ls : List Int, ds = [.pen, encI ls] ∧ 1 ≤ ls.length ∧ ls.length ≤ 40 ∧ (∀ l ∈ ls, 1 ≤ l ∧ l ≤ 9) ∧ n + 2 * ls.length + 1 ≤ lim ∧ ∀ b a, IsSt ls.length b a → Q (encS b a) (n + 2 * ls.length + 1)
theorem len_l_laid : ∀ ds n Q, sp_l_laid ds n Q → ds.length = 2 := by
  rintro ds n Q ⟨w, rfl, _⟩; rfl
def rd_l_laid : DTS := (tSeqD (tOwnD 2 (tLstD tNilD))
  (tSeqD (tForD (tWSeq (tVarD 1)) (gNameD 3) (tSeqD (tSetD 5 (tOpD drIx (tLstD (tConsD (tCD (.int 0)) (tConsD (tVarD 3) (tConsD (tCallD sp_l_pick (tConsD (tVarD 0) (tConsD (tOpD drAdd (tVarD 3) (tCD (.int 1))) tNilD))) tNilD)))) (tCallD sp_l_pick (tConsD (tVarD 0) (tConsD (tCD (.int 3)) tNilD)))))
  (tExtD 2 (tLstD (tConsD (tVarD 5) (tConsD (tOpD drSub (tVarD 3) (tVarD 5)) tNilD))))))
  (tSeqD (tSetD 4 (tLcD .bor (tWRng1 (tCallN drLen (tConsD (tVarD 2) tNilD))) 6 (tTestD (tOpD drGt (tOpD drIx (tVarD 2) (tVarD 6)) (tCD (.int 0)))) (tVarD 6)))
  (tRetD (tTupD (tConsD (tCallN drTup (tConsD (tVarD 2) tNilD)) (tConsD (tOpD drIx (tVarD 4) (tCallD sp_l_pick (tConsD (tVarD 0) (tConsD (tCallN drLen (tConsD (tVarD 4) tNilD)) tNilD)))) tNilD)))))))
theorem read_l_laid : ∀ ds n Qd, sp_l_laid ds n Qd → rd_l_laid { nx := fun _ n' => Qd .non n', rt := Qd } (startD ["pen", "loads", "row", "many", "laden", "here", "end"] ds) n := by
  rintro ds n Qd ⟨ls, rfl, l1, l40, hb, hn, q⟩
  refine ⟨by show 0 ≤ sizeLine; decide, rfl, .inr ⟨small100 (by rw [List.length_map]; omega), ?_⟩⟩
  refine ⟨fun j Δ n' => ∃ (v3 v5 : Option SV) (ps : List (Int × Int)), Δ = [some (.frz .pen), some (.frz (encI ls)), some (.own ((pairsF ps).map D.int)), v3, none, v5, none] ∧ ps.length = j ∧ (∀ p ∈ ps, 0 ≤ p.1 ∧ 0 ≤ p.2 ∧ 1 ≤ p.1 + p.2 ∧ p.1 + p.2 ≤ 9) ∧ n' = n + 2 * j,
    ⟨none, none, [], rfl, rfl, by simp, rfl⟩, ?_, ?_⟩
  · rintro j d Δ n' hj ⟨v3, v5, ps, rfl, hl, hp, rfl⟩
    rw [List.getElem?_map] at hj
    obtain ⟨many, hm, rfl⟩ : ∃ many, ls[j]? = some many ∧ d = .int many := by
      cases e : ls[j]? with
      | none => rw [e] at hj; cases hj
      | some x => rw [e] at hj; cases hj; exact ⟨x, rfl, rfl⟩
    have hjl : j < ls.length := (List.getElem?_eq_some_iff.mp hm).1
    obtain ⟨m1, m9⟩ := hb many (List.mem_of_getElem? hm)
    refine ⟨many + 1, rfl, by omega, by omega, by omega, fun z z0 z1 => ⟨by show 3 ≤ sizeLine; decide, 3, rfl, by decide, by decide, by omega, fun y y0 y1 => ?_⟩⟩
    have top : ∃ t : Int, atI [D.int 0, D.int many, D.int z] y = some (.int t) ∧ 0 ≤ t ∧ t ≤ many := by
      have h3 : y = 0 ∨ y = 1 ∨ y = 2 := by omega
      rcases h3 with rfl | rfl | rfl
      · exact ⟨0, rfl, by omega, by omega⟩
      · exact ⟨many, rfl, by omega, by omega⟩
      · exact ⟨z, rfl, by omega, by omega⟩
    obtain ⟨t, et, t0, t1⟩ := top
    refine ⟨_, et, rfl, by show 2 ≤ sizeLine; decide, small100 ?_, rfl, some (.frz (.int many)), some (.frz (.int t)), ps ++ [(t, many - t)], ?_, by simp [hl], ?_, by omega⟩
    · rw [List.length_map, pairsF_len]; simp only [List.length_cons, List.length_nil]; omega
    · rw [pairsF_app, List.map_append]; rfl
    · intro p hpm
      rcases List.mem_append.mp hpm with hpm | hpm
      · exact hp p hpm
      · rw [List.mem_singleton] at hpm; subst hpm
        exact ⟨t0, by show 0 ≤ many - t; omega, by show 1 ≤ t + (many - t); omega, by show t + (many - t) ≤ 9; omega⟩
  · rintro Δ n' ⟨v3, v5, ps, rfl, hl, hp, rfl⟩
    rw [List.length_map] at hl ⊢
    have hbl : ((pairsF ps).map D.int).length = 2 * ls.length := by rw [List.length_map, pairsF_len, hl]
    refine ⟨trivial, by omega, by omega, ?_⟩
    rw [range0_eq]
    refine ⟨flat_ints _, ?_⟩
    have e0 : ((((pairsF ps).map D.int).length : Int)).toNat = 2 * ls.length := by omega
    rw [e0]
    refine lcW_filterE D.int (fun i => decide (0 < (pairsF ps).getD i.toNat 0)) D.int _ [] _ (by rw [rangeI_length]; simp; exact small100 (by omega)) (fun i hi n'' Q' q' => ?_) (fun i hi _ n'' Q' q' => q') ?_
    · obtain ⟨i0, i1⟩ := mem_rangeI.mp hi
      obtain ⟨x, ex, _, eg⟩ := atI_int (xs := (pairsF ps).map D.int) i0 (by omega)
      rw [List.getElem?_map] at eg
      obtain ⟨v, ev, rfl⟩ : ∃ v, (pairsF ps)[i.toNat]? = some v ∧ x = .int v := by
        cases e : (pairsF ps)[i.toNat]? with
        | none => rw [e] at eg; cases eg
        | some v => rw [e] at eg; cases eg; exact ⟨v, rfl, rfl⟩
      have eD : (pairsF ps).getD i.toNat 0 = v := by rw [List.getD_eq_getElem?_getD, ev]; rfl
      rw [eD] at q'
      exact ⟨_, ex, rfl, q'⟩
    · generalize hla : (rangeI (2 * ls.length)).filter (fun i => decide (0 < (pairsF ps).getD i.toNat 0)) = laden
      have mem : ∀ i ∈ laden, 0 ≤ i ∧ i < 2 * ls.length ∧ ∃ x, (pairsF ps)[i.toNat]? = some x ∧ 0 < x := fun i hi => by
        rw [← hla, List.mem_filter] at hi
        obtain ⟨h1, h2⟩ := hi
        obtain ⟨i0, i1⟩ := mem_rangeI.mp h1
        have h2 : 0 < (pairsF ps).getD i.toNat 0 := of_decide_eq_true h2
        rw [List.getD_eq_getElem?_getD] at h2
        refine ⟨i0, by omega, ?_⟩
        cases e : (pairsF ps)[i.toNat]? with
        | none => rw [e] at h2; simp at h2
        | some x => rw [e] at h2; exact ⟨x, rfl, h2⟩
      have ne : 0 < laden.length := by
        cases hps : ps with
        | nil => rw [hps] at hl; simp at hl; omega
        | cons p ps' =>
          obtain ⟨p1, p2, p3, p4⟩ := hp p (by rw [hps]; exact List.mem_cons_self ..)
          have hx : ∃ i : Int, i ∈ laden := by
            by_cases h : 0 < p.1
            · refine ⟨0, ?_⟩
              rw [← hla, List.mem_filter]
              exact ⟨mem_rangeI.mpr ⟨by omega, by omega⟩, decide_eq_true (by rw [hps]; exact h)⟩
            · refine ⟨1, ?_⟩
              rw [← hla, List.mem_filter]
              exact ⟨mem_rangeI.mpr ⟨by omega, by omega⟩, decide_eq_true (by rw [hps]; show 0 < p.2; omega)⟩
          obtain ⟨i, hi⟩ := hx
          exact List.length_pos_of_mem hi
      have ll : laden.length ≤ 2 * ls.length := by
        rw [← hla]
        exact Nat.le_trans (List.length_filter_le _ _) (by rw [rangeI_length]; exact Nat.le_refl _)
      refine ⟨flat_ints _, laden.length, by rw [List.nil_append, List.length_map], by omega, by omega, by omega, fun z z0 z1 => ?_⟩
      obtain ⟨x, ex, xm, _⟩ := atI_int (xs := laden.map D.int) z0 (by rw [List.length_map]; exact z1)
      obtain ⟨a, am, rfl⟩ := List.mem_map.mp xm
      obtain ⟨a0, a1, x, hx, x0⟩ := mem a am
      exact ⟨_, ex, rfl, by show 2 ≤ sizeLine; decide, q (pairsF ps) a ⟨⟨ps, rfl, hl, hp⟩, a0, by omega, x, hx, x0⟩⟩
end Lw

set_option Elab.async false
set_option linter.all false
set_option maxRecDepth 100000
set_option maxHeartbeats 1000000
namespace Lw
open PySem PySem.Spec PyProof.Rows L2 Dl
/-! ### a house and a standing of it -/
def sp_l_great : DSp := fun ds n Q => ds = [.pen] ∧ n + 300 ≤ lim ∧ ∀ (h : Hs) (rooms wires : Nat) (b : List Int) (a : Int) (n' : Nat), IsHs h rooms wires → 1 ≤ rooms → rooms ≤ 10 → 1 ≤ wires → wires ≤ 20 → IsSt wires b a → n' ≤ n + 300 → Q (.tup [encH h, encS b a]) n'
theorem len_l_great : ∀ ds n Q, sp_l_great ds n Q → ds.length = 1 := by
  rintro ds n Q ⟨rfl, _⟩; rfl
def rd_l_great : DTS := (tSeqD (tSetD 1 (tOpD drAdd (tCD (.int 1)) (tCallD sp_l_pick (tConsD (tVarD 0) (tConsD (tOpD drIx (tLstD (tConsD (tCD (.int 20)) (tConsD (tCD (.int 4)) tNilD))) (tCallD sp_l_pick (tConsD (tVarD 0) (tConsD (tCD (.int 2)) tNilD)))) tNilD)))))
  (tSeqD (tSetD 2 (tCallD sp_l_plan (tConsD (tVarD 0) (tConsD (tOpD drAdd (tCD (.int 1)) (tCallD sp_l_pick (tConsD (tVarD 0) (tConsD (tCD (.int 10)) tNilD)))) (tConsD (tVarD 1) tNilD)))))
  (tRetD (tTupD (tConsD (tVarD 2) (tConsD (tCallD sp_l_laid (tConsD (tVarD 0) (tConsD (tCallD sp_l_loads (tConsD (tVarD 0) (tConsD (tVarD 1) (tConsD (tOpD drPow (tCD (.int 10)) (tCD (.int 21))) tNilD)))) tNilD))) tNilD))))))
theorem read_l_great : ∀ ds n Qd, sp_l_great ds n Qd → rd_l_great { nx := fun _ n' => Qd .non n', rt := Qd } (startD ["pen", "wires", "home"] ds) n := by
  rintro ds n Qd ⟨rfl, hn, q⟩
  refine ⟨by show 2 ≤ sizeLine; decide, 2, rfl, by decide, by decide, by omega, fun z z0 z1 => ?_⟩
  have top : ∃ t : Int, atI [D.int 20, D.int 4] z = some (.int t) ∧ 1 ≤ t ∧ t ≤ 20 := by
    have h2 : z = 0 ∨ z = 1 := by omega
    rcases h2 with rfl | rfl
    · exact ⟨20, rfl, by decide, by decide⟩
    · exact ⟨4, rfl, by decide, by decide⟩
  obtain ⟨t, et, t1, t2⟩ := top
  refine ⟨_, et, rfl, t, rfl, by omega, by omega, by omega, fun y y0 y1 => ?_⟩
  obtain ⟨w, hw⟩ := Int.eq_ofNat_of_zero_le (show 0 ≤ 1 + y by omega)
  refine ⟨10, rfl, by decide, by decide, by omega, fun x x0 x1 => ?_⟩
  obtain ⟨r, hr⟩ := Int.eq_ofNat_of_zero_le (show 0 ≤ 1 + x by omega)
  refine ⟨r, w, by rw [hw, hr], by omega, by omega, by omega, by omega, fun h hh => ?_⟩
  refine ⟨flat_encH h, ⟨by decide, by decide, by decide⟩, w, _, by rw [hw], by omega, by omega, fun ls hl hb => ?_⟩
  refine ⟨ls, rfl, by omega, by omega, hb, by omega, fun b a hs => ⟨by show 2 ≤ sizeLine; decide, ?_⟩⟩
  rw [hl] at hs
  exact q h r w b a _ hh (by omega) (by omega) (by omega) (by omega) hs (by omega)
/-! ### a line -/
def sp_l_line : DSp := fun ds n Q => ∃ (w : Str) (ns : List Int) (d : D), ds = [.str w, d] ∧ isSeq d ns ∧ w.length ≤ 100 ∧ ns.length ≤ 100 ∧ small ns ∧ Q (.str (lineT w ns)) n
theorem len_l_line : ∀ ds n Q, sp_l_line ds n Q → ds.length = 2 := by
  rintro ds n Q ⟨w, ns, d, rfl, _⟩; rfl
def rd_l_line : DTS := (tSeqD (tSetD 2 (tVarD 0))
  (tSeqD (tForD (tWSeq (tVarD 1)) (gNameD 3) (tSetD 2 (tOpD drAdd (tOpD drAdd (tVarD 2) (tCD (.str (Str.ofString " ")))) (tCallN drStrI (tConsD (tVarD 3) tNilD)))))
  (tRetD (tOpD drAdd (tVarD 2) (tCD (.str (Str.ofString "\n")))))))
theorem small_take {ns : List Int} (h : small ns) (j : Nat) : small (ns.take j) := fun n hn => h n (List.mem_of_mem_take hn)
theorem words_snoc (w : Str) (ns : List Int) (k : Int) : wordsT w (ns ++ [k]) = wordsT w ns ++ Str.ofString " " ++ numT k := by
  unfold wordsT
  rw [List.foldl_append]; rfl
theorem read_l_line : ∀ ds n Qd, sp_l_line ds n Qd → rd_l_line { nx := fun _ n' => Qd .non n', rt := Qd } (startD ["word", "numbers", "found", "number"] ds) n := by
  rintro ds n Qd ⟨w, ns, d, rfl, hd, hw, hl, hs, q⟩
  have key : ∃ I : Nat → DEnv → Nat → Prop, I 0 [some (.frz (.str w)), some (.frz d), some (.frz (.str w)), none] n ∧
      (∀ (j : Nat) (e : D) Δ n, (ns.map D.int)[j]? = some e → I j Δ n → (gNameD 3) e Δ n fun Δ1 n1 => (tSetD 2 (tOpD drAdd (tOpD drAdd (tVarD 2) (tCD (.str (Str.ofString " ")))) (tCallN drStrI (tConsD (tVarD 3) tNilD)))) { nx := I (j + 1), rt := Qd, bk := (tRetD (tOpD drAdd (tVarD 2) (tCD (.str (Str.ofString "\n"))))) { nx := fun _ n' => Qd .non n', rt := Qd }, ct := I (j + 1) } Δ1 n1) ∧
      ∀ Δ n, I (ns.map D.int).length Δ n → (tRetD (tOpD drAdd (tVarD 2) (tCD (.str (Str.ofString "\n"))))) { nx := fun _ n' => Qd .non n', rt := Qd } Δ n := by
    refine ⟨fun j Δ n' => ∃ v3, Δ = [some (.frz (.str w)), some (.frz d), some (.frz (.str (wordsT w (ns.take j)))), v3] ∧ n = n', ⟨none, rfl, rfl⟩, ?_, ?_⟩
    · rintro j e Δ n' hj ⟨v3, rfl, rfl⟩
      rw [List.getElem?_map] at hj
      obtain ⟨k, hk, rfl⟩ : ∃ k, ns[j]? = some k ∧ e = .int k := by
        cases e2 : ns[j]? with
        | none => rw [e2] at hj; cases hj
        | some x => rw [e2] at hj; cases hj; exact ⟨x, rfl, rfl⟩
      have kb := hs k (List.mem_of_getElem? hk)
      have e1 := words_len (ns.take j) w (small_take hs j)
      have e2 : (Str.ofString (toString k)).length ≤ 2 := num_len kb
      have e3 : (ns.take j).length ≤ 100 := by rw [List.length_take]; omega
      refine ⟨small100 (by rw [sp_len]; omega), log_small kb, small100 (by rw [Str.length_append, sp_len]; omega), some (.frz (.int k)), ?_, rfl⟩
      rw [List.take_add_one, hk]
      show [_, _, _, _] = [_, _, some (SV.frz (.str (wordsT w (ns.take j ++ [k])))), _]
      rw [words_snoc]
    · rintro Δ n' ⟨v3, rfl, rfl⟩
      rw [List.length_map, List.take_length]
      have e1 := words_len ns w hs
      exact ⟨small100 (by rw [nl_len]; omega), q⟩
  rcases hd with rfl | rfl
  · exact .inl ⟨small100 (by rw [List.length_map]; omega), key⟩
  · exact .inr ⟨small100 (by rw [List.length_map]; omega), key⟩
/-! ### a house and a standing written -/
def sp_l_written : DSp := fun ds n Q => ∃ (h : Hs) (b : List Int) (a : Int), ds = [encH h, encS b a] ∧ okH h ∧ b.length ≤ 100 ∧ small b ∧ 0 ≤ a ∧ a < 100 ∧ Q (.tup [.str (houseT h), .str (standT b a)]) n
theorem len_l_written : ∀ ds n Q, sp_l_written ds n Q → ds.length = 2 := by
  rintro ds n Q ⟨h, b, a, rfl, _⟩; rfl
def rd_l_written : DTS := (tSeqD (tSetD 2 (tCD (.str (Str.ofString ""))))
  (tSeqD (tForD (tWSeq (tVarD 0)) (gNameD 3) (tSetD 2 (tOpD drAdd (tVarD 2) (tCallD sp_l_line (tConsD (tCD (.str (Str.ofString "room"))) (tConsD (tVarD 3) tNilD))))))
  (tRetD (tTupD (tConsD (tVarD 2) (tConsD (tOpD drAdd (tCallD sp_l_line (tConsD (tCD (.str (Str.ofString "beads"))) (tConsD (tOpD drIx (tVarD 1) (tCD (.int 0))) tNilD))) (tCallD sp_l_line (tConsD (tCD (.str (Str.ofString "at"))) (tConsD (tSlD (tVarD 1) (tPartD (tCD (.int 1))) tNoPartD) tNilD)))) tNilD))))))
theorem house_snoc (h : Hs) (r : List Int) : houseT (h ++ [r]) = houseT h ++ lineT (Str.ofString "room") r := by
  unfold houseT
  rw [List.foldl_append]; rfl
theorem read_l_written : ∀ ds n Qd, sp_l_written ds n Qd → rd_l_written { nx := fun _ n' => Qd .non n', rt := Qd } (startD ["home", "stand", "text", "row"] ds) n := by
  rintro ds n Qd ⟨h, b, a, rfl, ok, hl, hs, a0, a1, q⟩
  have h100 := ok.len
  refine .inr ⟨small100 (by rw [List.length_map]; omega), ?_⟩
  refine ⟨fun j Δ n' => ∃ v3, Δ = [some (.frz (encH h)), some (.frz (encS b a)), some (.frz (.str (houseT (h.take j)))), v3] ∧ n = n', ⟨none, by rw [List.take_zero]; exact congrArg (fun z => [some (SV.frz (encH h)), some (SV.frz (encS b a)), some (SV.frz (.str z)), none]) ofs_empty, rfl⟩, ?_, ?_⟩
  · rintro j e Δ n' hj ⟨v3, rfl, rfl⟩
    rw [List.getElem?_map] at hj
    obtain ⟨r, hr, rfl⟩ : ∃ r, h[j]? = some r ∧ e = encI r := by
      cases e2 : h[j]? with
      | none => rw [e2] at hj; cases hj
      | some x => rw [e2] at hj; cases hj; exact ⟨x, rfl, rfl⟩
    obtain ⟨r1, r2⟩ := ok.rows r (List.mem_of_getElem? hr)
    have e1 := house_len (h.take j) Str.empty fun r' hr' => ok.rows r' (List.mem_of_mem_take hr')
    have e2 := line_len r (Str.ofString "room") r2
    have e3 : (h.take j).length ≤ 100 := by rw [List.length_take]; omega
    have e4 : Str.empty.length = 0 := rfl
    refine ⟨_, r, _, rfl, .inr rfl, by rw [room_len]; decide, r1, r2, small100 ?_, some (.frz (encI r)), ?_, rfl⟩
    · show (houseT (h.take j)).length + _ ≤ _
      unfold houseT
      rw [room_len] at e2
      omega
    · rw [List.take_add_one, hr]
      show [_, _, _, _] = [_, _, some (SV.frz (.str (houseT (h.take j ++ [r])))), _]
      rw [house_snoc]
  · rintro Δ n' ⟨v3, rfl, rfl⟩
    rw [List.length_map, List.take_length]
    refine ⟨rfl, encI b, rfl, flat_encI b, _, b, _, rfl, .inr rfl, by rw [beads_len]; decide, hl, hs, ?_, _, [a], _, rfl, .inr rfl, by rw [at_len]; decide, by simp, small_one a0 a1, small100 (Nat.le_trans (stand_len hl hs a0 a1) (by decide)), by show 2 ≤ sizeLine; decide, q⟩
    show flatAll [encI b, .int a] = true
    simp only [flatAll, flat_encI]; rfl
/-! ### a row -/
def sp_l_row : DSp := fun ds n Q => ds = [.pen] ∧ n + 50 ≤ lim ∧ ∀ (ns : List Int) (n' : Nat), small ns → ns.length ≤ 40 → n' ≤ n + 50 → Q (.lst (ns.map D.int)) n'
theorem len_l_row : ∀ ds n Q, sp_l_row ds n Q → ds.length = 1 := by
  rintro ds n Q ⟨rfl, _⟩; rfl
def rd_l_row : DTS := (tSeqD (tSetD 1 (tOpD drIx (tLstD (tConsD (tCD (.int 0)) (tConsD (tCD (.int 1)) (tConsD (tCD (.int 2)) (tConsD (tCD (.int 40)) (tConsD (tCallD sp_l_pick (tConsD (tVarD 0) (tConsD (tCD (.int 41)) tNilD))) tNilD)))))) (tCallD sp_l_pick (tConsD (tVarD 0) (tConsD (tCD (.int 5)) tNilD)))))
  (tRetD (tLcD .bor (tWRng1 (tVarD 1)) 2 tYesD (tCallD sp_l_pick (tConsD (tVarD 0) (tConsD (tCD (.int 40)) tNilD))))))
theorem read_l_row : ∀ ds n Qd, sp_l_row ds n Qd → rd_l_row { nx := fun _ n' => Qd .non n', rt := Qd } (startD ["pen", "many", "k"] ds) n := by
  rintro ds n Qd ⟨rfl, hn, q⟩
  refine ⟨41, rfl, by decide, by decide, by omega, fun z z0 z1 => ⟨by show 5 ≤ sizeLine; decide, 5, rfl, by decide, by decide, by omega, fun y y0 y1 => ?_⟩⟩
  have top : ∃ t : Int, atI [D.int 0, D.int 1, D.int 2, D.int 40, D.int z] y = some (.int t) ∧ 0 ≤ t ∧ t ≤ 40 := by
    have h5 : y = 0 ∨ y = 1 ∨ y = 2 ∨ y = 3 ∨ y = 4 := by omega
    rcases h5 with rfl | rfl | rfl | rfl | rfl
    · exact ⟨0, rfl, by decide, by decide⟩
    · exact ⟨1, rfl, by decide, by decide⟩
    · exact ⟨2, rfl, by decide, by decide⟩
    · exact ⟨40, rfl, by decide, by decide⟩
    · exact ⟨z, rfl, by omega, by omega⟩
  obtain ⟨t, et, t0, t1⟩ := top
  refine ⟨_, et, rfl, trivial, by omega, by omega, ?_⟩
  rw [range0_eq]
  refine ⟨flat_ints _, ?_⟩
  have ht : (rangeI t.toNat).length ≤ 40 := by rw [rangeI_length]; omega
  refine lcW_some rfl (rangeI t.toNat).length (small100 (by omega)) (fun acc n' => ∃ ns : List Int, acc = ns.map D.int ∧ small ns ∧ n' = n + 2 + ns.length) _ [] _ (by rw [List.length_map]; simp) ⟨[], rfl, by intro n hn; simp at hn, rfl⟩ ?_ ?_
  · rintro d hd acc n' Q' hz ⟨ns, rfl, hs, rfl⟩ h
    rw [List.length_map] at hz
    refine ⟨40, rfl, by decide, by decide, by omega, fun z z0 z1 => h _ _ ⟨ns ++ [z], by rw [List.map_append]; rfl, ?_, by simp; omega⟩⟩
    intro k hk
    rcases List.mem_append.mp hk with hk | hk
    · exact hs k hk
    · rw [List.mem_singleton] at hk; subst hk; omega
  · rintro acc' n' hl ⟨ns, rfl, hs, rfl⟩
    rw [List.length_map] at hl
    exact q ns _ hs (by omega) (by omega)
end Lw

set_option Elab.async false
set_option linter.all false
set_option maxRecDepth 100000
set_option maxHeartbeats 1000000
namespace Lw
open PySem PySem.Spec PyProof.Rows L2 Dl
/-! ### texts cut up again -/
theorem num_all : ∀ n : Fin 40, 32 ∉ TL.tl (numT (n.val : Int)) ∧ 10 ∉ TL.tl (numT (n.val : Int)) ∧ ((numT (n.val : Int)).cps.toList.all fun c => decide (c ∈ (Str.ofString "0123456789").cps.toList)) = true ∧ PySem.intText? (numT (n.val : Int)) = some (n.val : Int) := by decide +kernel
def ends40 (ns : List Int) : Prop := ∀ k ∈ ns, 0 ≤ k ∧ k < 40
theorem ends40.small {ns : List Int} (h : ends40 ns) : small ns := fun k hk => ⟨(h k hk).1, by have := (h k hk).2; omega⟩
theorem num40 {k : Int} (h : 0 ≤ k ∧ k < 40) : 32 ∉ TL.tl (numT k) ∧ 10 ∉ TL.tl (numT k) ∧ ((numT k).cps.toList.all fun c => decide (c ∈ (Str.ofString "0123456789").cps.toList)) = true ∧ PySem.intText? (numT k) = some k := by
  have := num_all ⟨k.toNat, by omega⟩
  have e : ((k.toNat : Nat) : Int) = k := Int.toNat_of_nonneg h.1
  simp only [e] at this
  exact this
theorem room_tl : 32 ∉ TL.tl (Str.ofString "room") ∧ 10 ∉ TL.tl (Str.ofString "room") := by decide +kernel
theorem sp_tl : TL.tl (Str.ofString " ") = [32] := by decide +kernel
theorem nl_tl : TL.tl (Str.ofString "\n") = [10] := by decide +kernel
theorem split_words {ns : List Int} (h : ends40 ns) : Txt.split (wordsT (Str.ofString "room") ns) (Str.ofString " ") = Str.ofString "room" :: ns.map numT := by
  have e : wordsT (Str.ofString "room") ns = Txt.join (Str.ofString " ") (Str.ofString "room" :: ns.map numT) := by rw [TL.join_eq, words_join]
  rw [e]
  refine TL.split_join sp_tl (by decide +kernel) (by simp) fun p hp => ?_
  rcases List.mem_cons.mp hp with rfl | hp
  · exact room_tl.1
  · obtain ⟨k, hk, rfl⟩ := List.mem_map.mp hp
    exact (num40 (h k hk)).1
theorem words_nl : ∀ (ns : List Int) (w : Str), ends40 ns → 10 ∉ TL.tl w → 10 ∉ TL.tl (wordsT w ns)
  | [], w, _, hw => hw
  | k :: ns, w, h, hw => by
    refine words_nl ns (w ++ Str.ofString " " ++ numT k) (fun n hn => h n (List.mem_cons_of_mem _ hn)) ?_
    rw [TL.tl_append, TL.tl_append, sp_tl]
    have := (num40 (h k (List.mem_cons_self ..))).2.1
    simp [hw, this]
theorem house_acc : ∀ (h : Hs) (acc : Str), h.foldl (fun acc r => acc ++ lineT (Str.ofString "room") r) acc = acc ++ houseT h
  | [], acc => by show acc = acc ++ Str.empty; rw [Str.append_empty]
  | r :: h, acc => by
    show h.foldl _ (acc ++ lineT (Str.ofString "room") r) = acc ++ h.foldl _ (Str.empty ++ lineT (Str.ofString "room") r)
    rw [house_acc h, house_acc h, Str.empty_append, Str.append_assoc]
theorem house_cons (r : List Int) (h : Hs) : houseT (r :: h) = lineT (Str.ofString "room") r ++ houseT h := by
  show h.foldl _ (Str.empty ++ lineT (Str.ofString "room") r) = _
  rw [house_acc, Str.empty_append]
def linesT (h : Hs) : List Str := h.map (wordsT (Str.ofString "room"))
theorem join_cons (y p q : Str) (r : List Str) : Str.join y (p :: q :: r) = p ++ y ++ Str.join y (q :: r) := rfl
theorem house_lines : ∀ h : Hs, houseT h = Str.join (Str.ofString "\n") (linesT h ++ [Str.ofString ""])
  | [] => by show Str.empty = Str.ofString ""; rw [ofs_empty]
  | r :: h => by
    have ih := house_lines h
    rw [house_cons, ih]
    cases h with
    | nil => exact (join_cons _ _ _ []).symm
    | cons q h => exact (join_cons _ _ _ _).symm
theorem lines_nl {h : Hs} (ok : ∀ r ∈ h, ends40 r) : ∀ p ∈ linesT h ++ [Str.ofString ""], 10 ∉ TL.tl p := fun p hp => by
  rcases List.mem_append.mp hp with hp | hp
  · obtain ⟨r, hr, rfl⟩ := List.mem_map.mp hp
    exact words_nl r _ (ok r hr) room_tl.2
  · rw [List.mem_singleton] at hp
    subst hp
    rw [ofs_empty]
    decide
theorem split_lines {h : Hs} (ok : ∀ r ∈ h, ends40 r) : Txt.split (houseT h) (Str.ofString "\n") = linesT h ++ [Str.ofString ""] := by
  rw [house_lines, ← TL.join_eq]
  exact TL.split_join nl_tl (by decide +kernel) (by simp) (lines_nl ok)
end Lw

set_option Elab.async false
set_option linter.all false
set_option maxRecDepth 100000
set_option maxHeartbeats 1000000
namespace Lw
open PySem PySem.Spec PyProof.Rows L2 Dl
theorem chain_yes {b : Bool} {F G : Prop} (hb : b = true) (h : F) : (match D.bl b with | .bl true => F | .bl false => G | _ => False) := by subst hb; exact h
theorem chain_no {b : Bool} {F G : Prop} (hb : b = false) (h : G) : (match D.bl b with | .bl true => F | .bl false => G | _ => False) := by subst hb; exact h
theorem ifF {c : Bool} {a b : Prop} (hc : c = false) (hb : b) : if c = true then a else b := by subst hc; exact hb
theorem ifT {c : Bool} {a b : Prop} (hc : c = true) (ha : a) : if c = true then a else b := by subst hc; exact ha
theorem signs_len (x : Str) : (signsD x).length = x.length := by unfold signsD; rw [List.length_map]; rfl
theorem flat_signs (x : Str) : flatAll (signsD x) = true := flatAll_map (fun _ => rfl) _
/-! ### reading -/
def sp_number_in : DSp := fun ds n Q => ∃ k : Int, ds = [.str (numT k)] ∧ 0 ≤ k ∧ k < 40 ∧ Q (.int k) n
theorem len_number_in : ∀ ds n Q, sp_number_in ds n Q → ds.length = 1 := by
  rintro ds n Q ⟨k, rfl, _⟩; rfl
def rd_number_in : DTS := (tSeqD (tIfSD (tOrD (tNotD (tTestD (tChainD drLe drLe (tCD (.int 1)) (tCallN drLen (tConsD (tVarD 0) tNilD)) (tCD (.int 2))))) (tNotD (tTestD (tCallN drAll (tConsD (tLcD .bor (tWStr (tVarD 0)) 1 tYesD (tOpD (drInSign false) (tVarD 1) (tCD (.str (Str.ofString "0123456789"))))) tNilD))))) (tRetD (tCD .non)) tNextD)
  (tRetD (tIfD (tTestD (tOpD drEq (tCallN drStrI (tConsD (tCallN drIntS (tConsD (tVarD 0) tNilD)) tNilD)) (tVarD 0))) (tCallN drIntS (tConsD (tVarD 0) tNilD)) (tCD .non))))
theorem read_number_in : ∀ ds n Qd, sp_number_in ds n Qd → rd_number_in { nx := fun _ n' => Qd .non n', rt := Qd } (startD ["word", "sign"] ds) n := by
  rintro ds n Qd ⟨k, rfl, k0, k1, q⟩
  obtain ⟨h1, h2, h3, h4⟩ := num40 ⟨k0, k1⟩
  have l1 := num_len (show 0 ≤ k ∧ k < 100 by omega)
  have l2 := num_pos (show 0 ≤ k ∧ k < 100 by omega)
  have lg := log_small (show 0 ≤ k ∧ k < 100 by omega)
  refine ⟨small100 (by omega), chain_yes (decide_eq_true (show (1 : Int) ≤ (numT k).length by omega)) ?_⟩
  refine ifF (by show (!decide (((numT k).length : Int) ≤ 2)) = false; rw [decide_eq_true (show ((numT k).length : Int) ≤ 2 by omega)]; rfl) ?_
  refine ⟨trivial, small100 (by omega), flat_signs _, ?_⟩
  refine lcW_mapE (α := Nat) (fun c => .str ⟨#[c]⟩) (fun c => .bl (decide (c ∈ (Str.ofString "0123456789").cps.toList))) rfl _ [] n (by simp; exact small100 (by show (numT k).length ≤ _; omega)) (fun c hc n' Q' q' => ⟨c, rfl, q'⟩) ?_
  refine ⟨(numT k).cps.toList.map fun c => decide (c ∈ (Str.ofString "0123456789").cps.toList), by rw [List.nil_append, List.map_map]; rfl, ?_⟩
  refine ifF (by rw [List.all_map]; show (!((numT k).cps.toList.all fun c => decide (c ∈ (Str.ofString "0123456789").cps.toList))) = false; rw [h3]; rfl) ?_
  refine ⟨k, h4, by omega, lg, ?_⟩
  refine ifT (decide_eq_true rfl) ⟨k, h4, by omega, q⟩
def sp_numbers_in : DSp := fun ds n Q => ∃ r : List Int, ds = [.str (wordsT (Str.ofString "room") r), .str (Str.ofString "room")] ∧ ends40 r ∧ r.length ≤ 100 ∧ Q (.lst (r.map D.int)) n
theorem len_numbers_in : ∀ ds n Q, sp_numbers_in ds n Q → ds.length = 2 := by
  rintro ds n Q ⟨r, rfl, _⟩; rfl
def rd_numbers_in : DTS := (tSeqD (tStar1D 3 4 (tSplitD (tVarD 0) (tCD (.str (Str.ofString " ")))))
  (tSeqD (tOwnD 2 (tLcD .bor (tWSeq (tVarD 4)) 5 tYesD (tCallD sp_number_in (tConsD (tVarD 5) tNilD))))
  (tRetD (tIfD (tOrD (tTestD (tOpD drNe (tVarD 3) (tVarD 1))) (tTestD (tOpD (drIn false) (tCD .non) (tVarD 2)))) (tCD .non) (tVarD 2)))))
theorem read_numbers_in : ∀ ds n Qd, sp_numbers_in ds n Qd → rd_numbers_in { nx := fun _ n' => Qd .non n', rt := Qd } (startD ["line", "word", "found", "first", "words", "one"] ds) n := by
  rintro ds n Qd ⟨r, rfl, hr, hl, q⟩
  have e1 := words_len r (Str.ofString "room") hr.small
  rw [room_len] at e1
  refine ⟨by decide +kernel, small100 (by omega), ?_⟩
  rw [split_words hr]
  refine ⟨by show (r.map numT |>.map D.str).length < 16384; simp; omega, trivial, .inl ⟨by show (r.map numT |>.map D.str).length ≤ sizeLine; simp; exact small100 (by omega), flat_strs _, ?_⟩⟩
  show lcW 5 tYesD _ _ _ _ ((r.map numT).map D.str) [] n
  rw [show (r.map numT).map D.str = r.map fun k => D.str (numT k) by rw [List.map_map]; rfl]
  refine lcW_mapE (fun k => .str (numT k)) D.int rfl r [] n (by simp; exact small100 (by omega)) (fun k hk n' Q' q' => ⟨k, rfl, (hr k hk).1, (hr k hk).2, q'⟩) ?_
  refine ⟨flat_ints r, ?_⟩
  refine ⟨r.map D.int, rfl, rfl, by rw [List.all_map, List.all_eq_true]; exact fun _ _ => rfl, ?_⟩
  refine ifF (by show inD .non (r.map D.int) = false; unfold inD; rw [List.any_map, List.any_eq_false]; exact fun x _ => by simp [eqD]) ⟨flat_ints r, q⟩
def sp_lines_of : DSp := fun ds n Q => ∃ h : Hs, ds = [.str (houseT h)] ∧ okH h ∧ (∀ r ∈ h, ends40 r) ∧ Q (.tup [.lst ((linesT h).map D.str), .str (Str.ofString "")]) n
theorem len_lines_of : ∀ ds n Q, sp_lines_of ds n Q → ds.length = 1 := by
  rintro ds n Q ⟨h, rfl, _⟩; rfl
def rd_lines_of : DTS := (tSeqD (tIfSD (tNotD (tTestD (tCallN drIsi (tConsD (tVarD 0) (tConsD (tCD (.opq (.ty "str"))) tNilD))))) tNeverD tNextD)
  (tSeqD (tStar2D 2 1 (tSplitD (tVarD 0) (tCD (.str (Str.ofString "\n")))))
  (tRetD (tTupD (tConsD (tVarD 2) (tConsD (tVarD 1) tNilD))))))
theorem read_lines_of : ∀ ds n Qd, sp_lines_of ds n Qd → rd_lines_of { nx := fun _ n' => Qd .non n', rt := Qd } (startD ["text", "rest", "lines"] ds) n := by
  rintro ds n Qd ⟨h, rfl, ok, hr, q⟩
  have e1 := house_len h Str.empty ok.rows
  have e2 : Str.empty.length = 0 := rfl
  have e3 := ok.len
  refine ⟨"str", true, rfl, by decide +kernel, ?_⟩
  refine ifF rfl ?_
  refine ⟨by decide +kernel, small100 (by show (houseT h).length + 2 ≤ _; unfold houseT; omega), ?_⟩
  rw [split_lines hr]
  refine ⟨by simp [linesT]; omega, flat_strs _, (linesT h).map D.str, .str (Str.ofString ""), by simp, flat_strs _, rfl, by show 2 ≤ sizeLine; decide, q⟩
end Lw

set_option Elab.async false
set_option linter.all false
set_option maxRecDepth 100000
set_option maxHeartbeats 1000000
namespace Lw
open PySem PySem.Spec PyProof.Rows L2 Dl
/-! ### houses looked at -/
def sp_is_whole : DSp := fun ds n Q => ∃ i : Int, ds = [.int i] ∧ Q (.bl true) n
theorem len_is_whole : ∀ ds n Q, sp_is_whole ds n Q → ds.length = 1 := by
  rintro ds n Q ⟨i, rfl, _⟩; rfl
def rd_is_whole : DTS := (tRetD (tAndVD (tCallN drIsi (tConsD (tVarD 0) (tConsD (tCD (.opq (.ty "int"))) tNilD))) (tNotVD (tCallN drIsi (tConsD (tVarD 0) (tConsD (tCD (.opq (.ty "bool"))) tNilD))))))
theorem read_is_whole : ∀ ds n Qd, sp_is_whole ds n Qd → rd_is_whole { nx := fun _ n' => Qd .non n', rt := Qd } (startD ["thing"] ds) n := by
  rintro ds n Qd ⟨i, rfl, q⟩
  exact ⟨"int", true, rfl, by decide +kernel, "int", false, rfl, by decide +kernel, q⟩
def sp_is_within : DSp := fun ds n Q => ∃ i a b : Int, ds = [.int i, .int a, .int b] ∧ Q (.bl (decide (a ≤ i) && decide (i ≤ b))) n
theorem len_is_within : ∀ ds n Q, sp_is_within ds n Q → ds.length = 3 := by
  rintro ds n Q ⟨i, a, b, rfl, _⟩; rfl
def rd_is_within : DTS := (tRetD (tAndVD (tCallD sp_is_whole (tConsD (tVarD 0) tNilD)) (tChainD drLe drLe (tVarD 1) (tVarD 0) (tVarD 2))))
theorem read_is_within : ∀ ds n Qd, sp_is_within ds n Qd → rd_is_within { nx := fun _ n' => Qd .non n', rt := Qd } (startD ["thing", "least", "most"] ds) n := by
  rintro ds n Qd ⟨i, a, b, rfl, q⟩
  refine ⟨i, rfl, ?_⟩
  by_cases h : a ≤ i
  · rw [decide_eq_true h, Bool.true_and] at q
    exact chain_yes (decide_eq_true h) q
  · rw [decide_eq_false h, Bool.false_and] at q
    exact chain_no (decide_eq_false h) q
def EndsOf (xs : List Int) (w : Nat) : Prop := xs.Perm ((List.range (2 * w)).map fun (k : Nat) => (k : Int))
theorem EndsOf.len {xs : List Int} {w : Nat} (h : EndsOf xs w) : xs.length = 2 * w := by
  have := h.length_eq
  rw [List.length_map, List.length_range] at this
  exact this
theorem EndsOf.mem {xs : List Int} {w : Nat} (h : EndsOf xs w) {x : Int} (hx : x ∈ xs) : 0 ≤ x ∧ x < 2 * w := by
  obtain ⟨k, hk, rfl⟩ := List.mem_map.mp (h.mem_iff.mp hx)
  rw [List.mem_range] at hk
  omega
theorem EndsOf.nodup {xs : List Int} {w : Nat} (h : EndsOf xs w) : xs.Nodup := by
  refine h.nodup_iff.mpr ?_
  refine List.Pairwise.map _ (fun a b hab => ?_) List.nodup_range
  intro e
  exact hab (by omega)
def sp_are_ends : DSp := fun ds n Q => ∃ (xs : List Int) (w : Nat), ds = [.lst (xs.map D.int)] ∧ EndsOf xs w ∧ 1 ≤ w ∧ w ≤ 20 ∧ Q (.bl true) n
theorem len_are_ends : ∀ ds n Q, sp_are_ends ds n Q → ds.length = 1 := by
  rintro ds n Q ⟨xs, w, rfl, _⟩; rfl
def rd_are_ends : DTS := (tSeqD (tIfSD (tOrD (tNotD (tTestD (tChainD drLe drLe (tCD (.int 2)) (tCallN drLen (tConsD (tVarD 0) tNilD)) (tOpD drMul (tCD (.int 2)) (tCD (.int 20)))))) (tTestD (tOpD drEq (tOpD drMod (tCallN drLen (tConsD (tVarD 0) tNilD)) (tCD (.int 2))) (tCD (.int 1))))) (tRetD (tCD (.bl false))) tNextD)
  (tSeqD (tIfSD (tNotD (tTestD (tCallN drAll (tConsD (tLcD .bor (tWSeq (tVarD 0)) 1 tYesD (tCallD sp_is_within (tConsD (tVarD 1) (tConsD (tCD (.int 0)) (tConsD (tOpD drSub (tCallN drLen (tConsD (tVarD 0) tNilD)) (tCD (.int 1))) tNilD))))) tNilD)))) (tRetD (tCD (.bl false))) tNextD)
  (tRetD (tOpD drEq (tLenSetD (tVarD 0)) (tCallN drLen (tConsD (tVarD 0) tNilD))))))
theorem read_are_ends : ∀ ds n Qd, sp_are_ends ds n Qd → rd_are_ends { nx := fun _ n' => Qd .non n', rt := Qd } (startD ["found", "end"] ds) n := by
  rintro ds n Qd ⟨xs, w, rfl, he, w1, w2, q⟩
  have hl := he.len
  have hl2 : ((xs.map D.int).length : Int) = 2 * w := by rw [List.length_map, hl]; omega
  refine chain_yes (decide_eq_true (show (2 : Int) ≤ ((xs.map D.int).length : Int) by omega)) ?_
  refine ⟨.inl (by decide), ?_⟩
  refine ifF (by show (!decide (((xs.map D.int).length : Int) ≤ 2 * 20)) = false; rw [decide_eq_true (show ((xs.map D.int).length : Int) ≤ 2 * 20 by omega)]; rfl) ?_
  refine ⟨by show (0 : Int) < 2; decide, ?_⟩
  refine ifF (decide_eq_false (show ¬ ((xs.map D.int).length : Int) % 2 = 1 by omega)) ?_
  refine ⟨trivial, .inl ⟨small100 (by omega), flat_ints xs, ?_⟩⟩
  refine lcW_mapE D.int (fun i => .bl (decide (0 ≤ i) && decide (i ≤ ((xs.map D.int).length : Int) - 1))) rfl xs [] n (by simp; exact small100 (by omega)) (fun i hi n' Q' q' => ⟨i, 0, _, rfl, q'⟩) ?_
  refine ⟨xs.map fun i => decide (0 ≤ i) && decide (i ≤ ((xs.map D.int).length : Int) - 1), by rw [List.nil_append, List.map_map]; rfl, ?_⟩
  refine ifF (by
    show (!((xs.map fun i => decide (0 ≤ i) && decide (i ≤ ((xs.map D.int).length : Int) - 1)).all id)) = false
    rw [List.all_map, List.all_eq_true.mpr fun i hi => ?_]
    · rfl
    · have := he.mem hi
      show (decide (0 ≤ i) && decide (i ≤ ((xs.map D.int).length : Int) - 1)) = true
      rw [decide_eq_true this.1, decide_eq_true (show i ≤ ((xs.map D.int).length : Int) - 1 by omega)]; rfl) ?_
  refine ⟨xs, rfl, he.nodup, by omega, ?_⟩
  show Qd (.bl (decide ((xs.length : Int) = ((xs.map D.int).length : Int)))) n
  rw [decide_eq_true (by rw [List.length_map])]
  exact q
def sp_all_in : DSp := fun ds n Q => ∃ g : Hs, ds = [encH g] ∧ g.length ≤ 100 ∧ g.flatten.length ≤ 1000 ∧ Q (.lst (g.flatten.map D.int)) n
theorem len_all_in : ∀ ds n Q, sp_all_in ds n Q → ds.length = 1 := by
  rintro ds n Q ⟨xs, rfl, _⟩; rfl
def rd_all_in : DTS := (tSeqD (tOwnD 1 (tLstD tNilD))
  (tSeqD (tForD (tWSeq (tVarD 0)) (gNameD 2) (tExtTD 1 (tVarD 2)))
  (tRetD (tVarD 1))))
theorem read_all_in : ∀ ds n Qd, sp_all_in ds n Qd → rd_all_in { nx := fun _ n' => Qd .non n', rt := Qd } (startD ["rooms", "found", "room"] ds) n := by
  rintro ds n Qd ⟨g, rfl, gl, fl, q⟩
  refine ⟨by show 0 ≤ sizeLine; decide, rfl, .inr ⟨small100 (by rw [List.length_map]; omega), ?_⟩⟩
  refine ⟨fun j Δ n' => ∃ v2, Δ = [some (.frz (encH g)), some (.own ((g.take j).flatten.map D.int)), v2] ∧ n = n', ⟨none, rfl, rfl⟩, ?_, ?_⟩
  · rintro j e Δ n' hj ⟨v2, rfl, rfl⟩
    rw [List.getElem?_map] at hj
    obtain ⟨r, hr, rfl⟩ : ∃ r, g[j]? = some r ∧ e = encI r := by
      cases e2 : g[j]? with
      | none => rw [e2] at hj; cases hj
      | some x => rw [e2] at hj; cases hj; exact ⟨x, rfl, rfl⟩
    have e1 : (g.take (j + 1)).flatten = (g.take j).flatten ++ r := by
      rw [List.take_add_one, hr, List.flatten_append]; simp
    have e2 : (g.take (j + 1)).flatten.length ≤ g.flatten.length := by
      have e3 : g.flatten = (g.take (j + 1)).flatten ++ (g.drop (j + 1)).flatten := by rw [← List.flatten_append, List.take_append_drop]
      rw [e3, List.length_append]
      omega
    rw [e1, List.length_append] at e2
    refine ⟨small100 (by rw [List.length_map, List.length_map]; omega), flat_ints r, some (.frz (encI r)), ?_, rfl⟩
    rw [e1, List.map_append]; rfl
  · rintro Δ n' ⟨v2, rfl, rfl⟩
    rw [List.length_map, List.take_length]
    exact ⟨flat_ints _, q⟩
structure Good (g : Hs) : Prop where
  r1 : 1 ≤ g.length
  r2 : g.length ≤ 10
  ends : ∃ w, EndsOf g.flatten w ∧ 1 ≤ w ∧ w ≤ 20
theorem Good.row {g : Hs} (h : Good g) {r : List Int} (hr : r ∈ g) : r.length ≤ 40 ∧ ends40 r := by
  obtain ⟨w, he, w1, w2⟩ := h.ends
  have e2 := (List.sublist_flatten_of_mem hr).length_le
  have hl := he.len
  refine ⟨by omega, fun x hx => ?_⟩
  have := he.mem (List.mem_flatten.mpr ⟨r, hr, hx⟩)
  omega
theorem Good.ok {g : Hs} (h : Good g) : okH g := ⟨by have := h.r2; omega, fun r hr => ⟨by have := (h.row hr).1; omega, (h.row hr).2.small⟩⟩
def sp_is_house : DSp := fun ds n Q => ∃ g : Hs, ds = [encH g] ∧ Good g ∧ Q (.bl true) n
theorem len_is_house : ∀ ds n Q, sp_is_house ds n Q → ds.length = 1 := by
  rintro ds n Q ⟨xs, rfl, _⟩; rfl
def rd_is_house : DTS := (tSeqD (tIfSD (tOrD (tNotD (tTestD (tCallN drIsi (tConsD (tVarD 0) (tConsD (tCD (.opq (.ty "tuple"))) tNilD))))) (tNotD (tTestD (tChainD drLe drLe (tCD (.int 1)) (tCallN drLen (tConsD (tVarD 0) tNilD)) (tCD (.int 10)))))) (tRetD (tCD (.bl false))) tNextD)
  (tRetD (tAndVD (tCallN drAll (tConsD (tLcD .bor (tWSeq (tVarD 0)) 1 tYesD (tCallN drIsi (tConsD (tVarD 1) (tConsD (tCD (.opq (.ty "tuple"))) tNilD)))) tNilD)) (tCallD sp_are_ends (tConsD (tCallD sp_all_in (tConsD (tVarD 0) tNilD)) tNilD)))))
theorem val_yes {b : Bool} {F G : Prop} (hb : b = true) (h : F) : (match D.bl b with | .bl true => F | .bl false => G | _ => False) := by subst hb; exact h
theorem all_const {α : Type} (xs : List α) : (xs.map fun _ => true).all id = true := by
  rw [List.all_map, List.all_eq_true]; exact fun _ _ => rfl
theorem read_is_house : ∀ ds n Qd, sp_is_house ds n Qd → rd_is_house { nx := fun _ n' => Qd .non n', rt := Qd } (startD ["thing", "room"] ds) n := by
  rintro ds n Qd ⟨g, rfl, h, q⟩
  have h1 := h.r1
  have h2 := h.r2
  obtain ⟨w, he, w1, w2⟩ := h.ends
  have hl := he.len
  have hl2 : ((g.map encI).length : Int) = g.length := by rw [List.length_map]
  refine ⟨"tuple", true, rfl, by decide +kernel, ?_⟩
  refine ifF rfl ?_
  refine chain_yes (decide_eq_true (show (1 : Int) ≤ ((g.map encI).length : Int) by omega)) ?_
  refine ifF (by show (!decide (((g.map encI).length : Int) ≤ 10)) = false; rw [decide_eq_true (show ((g.map encI).length : Int) ≤ 10 by omega)]; rfl) ?_
  refine ⟨trivial, .inr ⟨small100 (by omega), flat_encIs g, ?_⟩⟩
  refine lcW_mapE encI (fun _ => .bl true) rfl g [] n (by simp; exact small100 (by omega)) (fun r hr n' Q' q' => ⟨"tuple", true, rfl, by decide +kernel, q'⟩) ?_
  refine ⟨g.map fun _ => true, by rw [List.nil_append, List.map_map]; rfl, ?_⟩
  refine val_yes (all_const g) ⟨g, rfl, by omega, by omega, g.flatten, w, rfl, he, w1, w2, q⟩
end Lw

set_option Elab.async false
set_option linter.all false
set_option maxRecDepth 100000
set_option maxHeartbeats 1000000
namespace Lw
open PySem PySem.Spec PyProof.Rows L2 Dl
/-! ### a house read -/
theorem in_ints (k : Int) (xs : List Int) : inD (.int k) (xs.map D.int) = decide (k ∈ xs) := by
  unfold inD
  rw [List.any_map, Bool.eq_iff_iff, List.any_eq_true, decide_eq_true_iff]
  constructor
  · rintro ⟨x, hx, e⟩
    have : (x == k) = true := e
    rw [← eq_of_beq this]; exact hx
  · exact fun h => ⟨k, h, by show (k == k) = true; simp⟩
theorem sc_ints (xs : List Int) : (xs.map D.int).all scD = true := by rw [List.all_map, List.all_eq_true]; exact fun _ _ => rfl
theorem enum_item {ds : List D} {j : Nat} {d : D} (h : (enumD 0 ds)[j]? = some d) : ∃ e, ds[j]? = some e ∧ d = .tup [.int (j : Nat), e] := by
  rw [enumD_get] at h
  cases q : ds[j]? with
  | none => rw [q] at h; cases h
  | some c => rw [q] at h; cases h; exact ⟨c, rfl, by rw [Nat.zero_add]⟩
theorem flat_take {g : Hs} {j : Nat} {r : List Int} (hr : g[j]? = some r) : (g.take (j + 1)).flatten = (g.take j).flatten ++ r ∧ g.flatten = (g.take j).flatten ++ r ++ (g.drop (j + 1)).flatten := by
  have e1 : (g.take (j + 1)).flatten = (g.take j).flatten ++ r := by
    rw [List.take_add_one, hr, List.flatten_append]; simp
  exact ⟨e1, by rw [← e1, ← List.flatten_append, List.take_append_drop]⟩
theorem not_met {g : Hs} {j i : Nat} {r : List Int} {k : Int} (nd : g.flatten.Nodup) (hr : g[j]? = some r) (hk : r[i]? = some k) : k ∉ (g.take j).flatten ++ r.take i := by
  obtain ⟨hi, rfl⟩ := List.getElem?_eq_some_iff.mp hk
  have e : r = r.take i ++ r[i] :: r.drop (i + 1) := by rw [← List.drop_eq_getElem_cons, List.take_append_drop]
  have nd2 : ((g.take j).flatten ++ r).Nodup := by
    rw [(flat_take hr).2] at nd
    exact (List.nodup_append.mp nd).1
  rw [e, ← List.append_assoc] at nd2
  exact fun h => (List.nodup_append.mp nd2).2.2 _ h _ (List.mem_cons_self ..) rfl
def sp_read_house : DSp := fun ds n Q => ∃ g : Hs, ds = [.str (houseT g)] ∧ Good g ∧ Q (encH g) n
theorem len_read_house : ∀ ds n Q, sp_read_house ds n Q → ds.length = 1 := by
  rintro ds n Q ⟨xs, rfl, _⟩; rfl
def rd_read_house : DTS := (tSeqD (tAsgD (tCallD sp_lines_of (tConsD (tVarD 0) tNilD)) (gTupD 2 (gConsD (gNameD 3) (gConsD (gNameD 4) gNilD))))
  (tSeqD (tOwnD 1 (tLstD tNilD))
  (tSeqD (tOwnD 2 (tLstD tNilD))
  (tSeqD (tForD (tWEnum (tVarD 3)) (gTupD 2 (gConsD (gNameD 5) (gConsD (gNameD 6) gNilD))) (tSeqD (tSetD 7 (tCallD sp_numbers_in (tConsD (tVarD 6) (tConsD (tCD (.str (Str.ofString "room"))) tNilD))))
  (tSeqD (tIfSD (tOrD (tTestD (tOpD drIsN (tVarD 7) (tCD .non))) (tTestD (tOpD drGe (tVarD 5) (tCD (.int 10))))) tNeverD tNextD)
  (tSeqD (tForD (tWSeq (tVarD 7)) (gNameD 8) (tSeqD (tIfSD (tOrD (tTestD (tOpD drGe (tVarD 8) (tOpD drMul (tCD (.int 2)) (tCD (.int 20))))) (tTestD (tOpD (drIn false) (tVarD 8) (tVarD 1)))) tNeverD tNextD)
  (tAppD 1 (tVarD 8))))
  (tAppD 2 (tCallN drTup (tConsD (tVarD 7) tNilD)))))))
  (tSeqD (tIfSD (tOrD (tTestD (tOpD drNe (tVarD 4) (tCD (.str (Str.ofString ""))))) (tNotD (tTestD (tCallD sp_is_house (tConsD (tCallN drTup (tConsD (tVarD 2) tNilD)) tNilD))))) tNeverD tNextD)
  (tRetD (tCallN drTup (tConsD (tVarD 2) tNilD))))))))
theorem read_read_house : ∀ ds n Qd, sp_read_house ds n Qd → rd_read_house { nx := fun _ n' => Qd .non n', rt := Qd } (startD ["text", "met", "rooms", "lines", "rest", "at", "line", "ends", "end"] ds) n := by
  rintro ds n Qd ⟨g, rfl, h, q⟩
  have h1 := h.r1
  have h2 := h.r2
  obtain ⟨w, he, w1, w2⟩ := h.ends
  have hl := he.len
  refine ⟨g, rfl, h.ok, fun r hr => (h.row hr).2, rfl, by show 0 ≤ sizeLine; decide, rfl, by show 0 ≤ sizeLine; decide, rfl, ?_⟩
  refine ⟨by rw [List.length_map]; unfold linesT; rw [List.length_map]; exact small100 (by omega), ?_⟩
  refine ⟨fun j Δ n' => ∃ v5 v6 v7 v8, Δ = [some (.frz (.str (houseT g))), some (.own ((g.take j).flatten.map D.int)), some (.own ((g.take j).map encI)), some (.frz (.lst ((linesT g).map D.str))), some (.frz (.str (Str.ofString ""))), v5, v6, v7, v8] ∧ n = n', ⟨none, none, none, none, rfl, rfl⟩, ?_, ?_⟩
  · rintro j e Δ n' hj ⟨v5, v6, v7, v8, rfl, rfl⟩
    obtain ⟨e0, hj0, rfl⟩ := enum_item hj
    unfold linesT at hj0
    rw [List.getElem?_map, List.getElem?_map] at hj0
    obtain ⟨r, hr, rfl⟩ : ∃ r, g[j]? = some r ∧ e0 = .str (wordsT (Str.ofString "room") r) := by
      cases e2 : g[j]? with
      | none => rw [e2] at hj0; cases hj0
      | some x => rw [e2] at hj0; cases hj0; exact ⟨x, rfl, rfl⟩
    have rm := List.mem_of_getElem? hr
    obtain ⟨r1, r2⟩ := h.row rm
    have jl : j < g.length := (List.getElem?_eq_some_iff.mp hr).1
    refine ⟨rfl, r, rfl, r2, by omega, ?_⟩
    refine ifF (decide_eq_false (show ¬ (10 : Int) ≤ (j : Int) by omega)) ?_
    refine .inl ⟨by rw [List.length_map]; exact small100 (by omega), ?_⟩
    have fl : ((g.take j).flatten ++ r).length ≤ 40 := by
      rw [← (flat_take hr).1]
      have e3 : g.flatten = (g.take (j + 1)).flatten ++ (g.drop (j + 1)).flatten := by rw [← List.flatten_append, List.take_append_drop]
      have e4 := congrArg List.length e3
      rw [List.length_append] at e4
      omega
    rw [List.length_append] at fl
    refine ⟨fun i Δ n' => ∃ v8, Δ = [some (.frz (.str (houseT g))), some (.own (((g.take j).flatten ++ r.take i).map D.int)), some (.own ((g.take j).map encI)), some (.frz (.lst ((linesT g).map D.str))), some (.frz (.str (Str.ofString ""))), some (.frz (.int j)), some (.frz (.str (wordsT (Str.ofString "room") r))), some (.frz (.lst (r.map D.int))), v8] ∧ n = n', ⟨v8, by rw [List.take_zero, List.append_nil]; rfl, rfl⟩, ?_, ?_⟩
    · rintro i e Δ n' hi ⟨v8, rfl, rfl⟩
      rw [List.getElem?_map] at hi
      obtain ⟨k, hk, rfl⟩ : ∃ k, r[i]? = some k ∧ e = .int k := by
        cases e2 : r[i]? with
        | none => rw [e2] at hi; cases hi
        | some x => rw [e2] at hi; cases hi; exact ⟨x, rfl, rfl⟩
      have kb := r2 k (List.mem_of_getElem? hk)
      have il : i < r.length := (List.getElem?_eq_some_iff.mp hk).1
      refine ⟨.inl (by decide), ?_⟩
      refine ifF (decide_eq_false (show ¬ (2 * 20 : Int) ≤ k by omega)) ?_
      refine ⟨_, rfl, rfl, sc_ints _, ?_⟩
      refine ifF (by show inD (.int k) _ = false; rw [in_ints]; exact decide_eq_false (not_met he.nodup hr hk)) ?_
      refine ⟨by rw [List.length_map, List.length_append, List.length_take]; exact Nat.lt_of_lt_of_le (show _ < 1000 by omega) (by decide), some (.frz (.int k)), ?_, rfl⟩
      rw [List.take_add_one, hk]
      simp
    · rintro Δ n' ⟨v8, rfl, rfl⟩
      rw [List.length_map, List.take_length]
      refine ⟨flat_ints r, by rw [List.length_map, List.length_take]; exact Nat.lt_of_lt_of_le (show _ < 1000 by omega) (by decide), some (.frz (.int j)), some (.frz (.str (wordsT (Str.ofString "room") r))), some (.frz (.lst (r.map D.int))), v8, ?_, rfl⟩
      rw [(flat_take hr).1, List.take_add_one, hr]
      simp; rfl
  · rintro Δ n' ⟨v5, v6, v7, v8, rfl, rfl⟩
    have el : (enumD 0 ((linesT g).map D.str)).length = g.length := by rw [enumD_length, List.length_map]; unfold linesT; rw [List.length_map]
    rw [el, List.take_length]
    refine ⟨flat_encIs g, g, rfl, h, ?_⟩
    refine ifF rfl ⟨flat_encIs g, q⟩
end Lw

set_option Elab.async false
set_option linter.all false
set_option maxRecDepth 100000
set_option maxHeartbeats 1000000
namespace Lw
open PySem PySem.Spec PyProof.Rows L2 Dl
/-! ### a house of a paper -/
theorem cut_tail (x : Str) (xs : List Str) : cutL ((x :: xs).map D.str) (some 1) none = xs.map D.str := by
  unfold cutL
  have e1 : HT.sIx ((x :: xs).map D.str).length 0 (some 1) = 1 := by
    rw [show HT.sIx ((x :: xs).map D.str).length 0 (some 1) = min 1 ((x :: xs).map D.str).length from HT.sIx_nat _ _ 1, List.length_map, List.length_cons]
    omega
  rw [e1, HT.sIx_none, List.length_map, List.length_cons, List.map_cons, List.drop_one, List.tail_cons]
  rw [show xs.length + 1 - 1 = (xs.map D.str).length by rw [List.length_map]; omega, List.take_length]
theorem eqv_ints : ∀ a b : List Int, PyData.eqvAll (toPys (a.map D.int)) (toPys (b.map D.int)) = decide (a = b)
  | [], [] => by simp [toPys, PyData.eqvAll]
  | [], y :: b => by simp [toPys, PyData.eqvAll]
  | x :: a, [] => by simp [toPys, PyData.eqvAll]
  | x :: a, y :: b => by
    have ih := eqv_ints a b
    simp only [List.map_cons, toPys, toPy, PyData.eqvAll, PyData.eqv, ih]
    rw [Bool.eq_iff_iff]
    simp
theorem eqv_lst (a b : List Int) : PyData.eqv (toPy (.lst (a.map D.int))) (toPy (.lst (b.map D.int))) = decide (a = b) := by
  have := eqv_ints a b
  simp only [toPy, PyData.eqv, this]
theorem shp_lst {xs : List Int} (h : ∀ x ∈ xs, 0 ≤ x ∧ x < 1000) : shp (.lst (xs.map D.int)) :=
  shp_of (k := 2) (by simp only [tm]; exact tms_map fun x hx => tm_int (by have := h x hx; omega)) (by decide)
theorem shp_lst_any {n : Nat} : ∀ (_ : Unit), n ≤ 100000 → shp (.lst ((rangeI n).map D.int)) := fun _ hn => shp_of (k := 2) (by simp only [tm]; exact tms_map fun x hx => tm_int (by have := mem_rangeI.mp hx; omega)) (by decide)
theorem in_strs (a : Str) (xs : List Str) : inD (.str a) (xs.map D.str) = decide (a ∈ xs) := by
  unfold inD
  rw [List.any_map, Bool.eq_iff_iff, List.any_eq_true, decide_eq_true_iff]
  constructor
  · rintro ⟨x, hx, e⟩
    have : (x == a) = true := e
    rw [← eq_of_beq this]; exact hx
  · exact fun h => ⟨a, h, by show (a == a) = true; simp⟩
structure Few (g : Hs) : Prop where
  len : g.length ≤ 100
  rows : ∀ r ∈ g, r.length ≤ 100 ∧ ends40 r
theorem Few.flat {g : Hs} (h : Few g) : ∀ x ∈ g.flatten, 0 ≤ x ∧ x < 40 := fun x hx => by
  obtain ⟨r, hr, hx⟩ := List.mem_flatten.mp hx
  exact (h.rows r hr).2 x hx
def sp_l_house_of : DSp := fun ds n Q => ∃ g : Hs, ds = [.str (houseT g)] ∧ Few g ∧ (∀ i : Int, Q (.int i) n) ∧ (Good g → Q (.lst [encH g]) n)
theorem len_l_house_of : ∀ ds n Q, sp_l_house_of ds n Q → ds.length = 1 := by
  rintro ds n Q ⟨xs, rfl, _⟩; rfl
theorem good_of {g : Hs} {ns : List Int} (fw : Few g) (h1 : g.flatten ≠ []) (hj : g.length ≤ 10) (hp : ns.Perm g.flatten) (he : ns = rangeI g.flatten.length) (hm : ¬ ((g.flatten.length : Nat) : Int) % 2 = 1) : Good g := by
  have hl : 0 < g.flatten.length := List.length_pos_iff.mpr h1
  have gl : 1 ≤ g.length := by
    cases g with
    | nil => exact absurd rfl h1
    | cons => simp
  subst he
  have mx : ((g.flatten.length - 1 : Nat) : Int) ∈ g.flatten := hp.mem_iff.mp (mem_rangeI.mpr (by omega))
  have := (fw.flat _ mx).2
  refine ⟨gl, hj, g.flatten.length / 2, ?_, by omega, by omega⟩
  unfold EndsOf
  have e : 2 * (g.flatten.length / 2) = g.flatten.length := by omega
  rw [e]
  exact hp.symm
def rd_l_house_of : DTS := (tSeqD (tOwnD 1 (tSplitD (tVarD 0) (tCD (.str (Str.ofString "\n")))))
  (tSeqD (tPopD 2 1)
  (tFrzD 1 (tSeqD (tOwnD 3 (tLstD tNilD))
  (tSeqD (tOwnD 4 (tLstD tNilD))
  (tSeqD (tForD (tWEnum (tVarD 1)) (gTupD 2 (gConsD (gNameD 5) (gConsD (gNameD 6) gNilD))) (tSeqD (tSetD 7 (tSplitD (tVarD 6) (tCD (.str (Str.ofString " ")))))
  (tSeqD (tIfSD (tOrD (tTestD (tOpD drNe (tOpD drIx (tVarD 7) (tCD (.int 0))) (tCD (.str (Str.ofString "room"))))) (tTestD (tOpD drGt (tVarD 5) (tCD (.int 9))))) (tRetD (tVarD 5)) tNextD)
  (tSeqD (tForD (tWSeq (tSlD (tVarD 7) (tPartD (tCD (.int 1))) tNoPartD)) (gNameD 8) (tSeqD (tIfSD (tOrD (tTestD (tOpD (drIn true) (tVarD 8) (tLcD .bor (tWRng1 (tCD (.int 40))) 9 tYesD (tCallN drStrI (tConsD (tVarD 9) tNilD))))) (tTestD (tOpD (drIn false) (tCallN drIntS (tConsD (tVarD 8) tNilD)) (tVarD 3)))) (tRetD (tVarD 5)) tNextD)
  (tAppD 3 (tCallN drIntS (tConsD (tVarD 8) tNilD)))))
  (tAppD 4 (tCallN drTup (tConsD (tLcD .bor (tWSeq (tSlD (tVarD 7) (tPartD (tCD (.int 1))) tNoPartD)) 8 tYesD (tCallN drIntS (tConsD (tVarD 8) tNilD))) tNilD)))))))
  (tSeqD (tIfSD (tOrD (tTestD (tOpD drNe (tVarD 2) (tCD (.str (Str.ofString ""))))) (tOrD (tTestD (tOpD drEq (tVarD 3) (tLstD tNilD))) (tOrD (tTestD (tOpD drNe (tCallN drSorted (tConsD (tVarD 3) tNilD)) (tLRngD false (tCallN drLen (tConsD (tVarD 3) tNilD))))) (tTestD (tOpD drEq (tOpD drMod (tCallN drLen (tConsD (tVarD 3) tNilD)) (tCD (.int 2))) (tCD (.int 1))))))) (tRetD (tCallN drLen (tConsD (tVarD 1) tNilD))) tNextD)
  (tRetD (tLstD (tConsD (tCallN drTup (tConsD (tVarD 4) tNilD)) tNilD))))))))))
theorem shp_nil : shp (.lst []) ∧ shp (.tup []) := by constructor <;> (unfold shp; constructor <;> decide)
theorem ifX {c : Bool} {a b : Prop} (h1 : c = true → a) (h2 : c = false → b) : if c = true then a else b := by cases c with | true => exact h1 rfl | false => exact h2 rfl
theorem few_len {g : Hs} (fw : Few g) : (houseT g).length + 2 ≤ sizeLine := by
  have e1 := house_len g Str.empty fun r hr => ⟨(fw.rows r hr).1, (fw.rows r hr).2.small⟩
  have e2 : Str.empty.length = 0 := rfl
  have := fw.len
  refine small100 ?_
  show (houseT g).length + 2 ≤ _
  unfold houseT
  omega
theorem take_len {g : Hs} (fw : Few g) (j : Nat) : (g.take j).flatten.length ≤ 100 * g.length := by
  have : ∀ (h : Hs), (∀ r ∈ h, r.length ≤ 100) → h.flatten.length ≤ 100 * h.length := by
    intro h
    induction h with
    | nil => simp
    | cons r h ih =>
      intro hr
      have := ih fun q hq => hr q (List.mem_cons_of_mem _ hq)
      have := hr r (List.mem_cons_self ..)
      rw [List.flatten_cons, List.length_append, List.length_cons]
      omega
  have := this (g.take j) fun r hr => (fw.rows r (List.mem_of_mem_take hr)).1
  rw [List.length_take] at this
  have : 100 * min j g.length ≤ 100 * g.length := Nat.mul_le_mul_left _ (Nat.min_le_right _ _)
  omega
theorem read_l_house_of : ∀ ds n Qd, sp_l_house_of ds n Qd → rd_l_house_of { nx := fun _ n' => Qd .non n', rt := Qd } (startD ["paper", "rows", "rest", "met", "found", "at", "row", "words", "word", "end"] ds) n := by
  rintro ds n Qd ⟨g, rfl, fw, q1, q2⟩
  have gl := fw.len
  refine ⟨by decide +kernel, few_len fw, ?_⟩
  rw [split_lines fun r hr => (fw.rows r hr).2]
  refine ⟨flat_strs _, flat_strs _, (linesT g).map D.str, .str (Str.ofString ""), by simp, ?_⟩
  refine ⟨by show 0 ≤ sizeLine; decide, rfl, by show 0 ≤ sizeLine; decide, rfl, ?_⟩
  refine ⟨by rw [List.length_map]; unfold linesT; rw [List.length_map]; exact small100 (by omega), ?_⟩
  refine ⟨fun j Δ n' => ∃ (v5 v6 v7 : Option SV) (o8 o9 : Option D), Δ = [some (.frz (.str (houseT g))), some (.frz (.lst ((linesT g).map D.str))), some (.frz (.str (Str.ofString ""))), some (.own ((g.take j).flatten.map D.int)), some (.own ((g.take j).map encI)), v5, v6, v7, o8.map SV.frz, o9.map SV.frz] ∧ n = n' ∧ (j = 0 ∨ j ≤ 10), ⟨none, none, none, none, none, rfl, rfl, .inl rfl⟩, ?_, ?_⟩
  · rintro j e Δ n' hj ⟨v5, v6, v7, o8, o9, rfl, rfl, _⟩
    obtain ⟨e0, hj0, rfl⟩ := enum_item hj
    unfold linesT at hj0
    rw [List.getElem?_map, List.getElem?_map] at hj0
    obtain ⟨r, hr, rfl⟩ : ∃ r, g[j]? = some r ∧ e0 = .str (wordsT (Str.ofString "room") r) := by
      cases e2 : g[j]? with
      | none => rw [e2] at hj0; cases hj0
      | some x => rw [e2] at hj0; cases hj0; exact ⟨x, rfl, rfl⟩
    obtain ⟨r1, r2⟩ := fw.rows r (List.mem_of_getElem? hr)
    have tl := take_len fw j
    have wl := words_len r (Str.ofString "room") r2.small
    rw [room_len] at wl
    refine ⟨rfl, by decide +kernel, small100 (by omega), ?_⟩
    rw [split_words r2]
    refine ⟨.str (Str.ofString "room"), atI_nat (j := 0) rfl, rfl, ?_⟩
    refine ite2 (fun h9 => ⟨rfl, q1 _⟩) (fun h9 => ?_)
    refine .inl ⟨flat_strs _, ?_⟩
    rw [cut_tail]
    refine ⟨by rw [List.length_map, List.length_map]; exact small100 (by omega), ?_⟩
    refine ⟨fun i Δ n' => ∃ (o8 o9 : Option D), Δ = [some (.frz (.str (houseT g))), some (.frz (.lst ((linesT g).map D.str))), some (.frz (.str (Str.ofString ""))), some (.own (((g.take j).flatten ++ r.take i).map D.int)), some (.own ((g.take j).map encI)), some (.frz (.int j)), some (.frz (.str (wordsT (Str.ofString "room") r))), some (.frz (.lst ((Str.ofString "room" :: r.map numT).map D.str))), o8.map SV.frz, o9.map SV.frz] ∧ n = n', ⟨o8, o9, by rw [List.take_zero, List.append_nil]; rfl, rfl⟩, ?_, ?_⟩
    · rintro i e Δ n' hi ⟨o8, o9, rfl, rfl⟩
      rw [List.getElem?_map, List.getElem?_map] at hi
      obtain ⟨k, hk, rfl⟩ : ∃ k, r[i]? = some k ∧ e = .str (numT k) := by
        cases e2 : r[i]? with
        | none => rw [e2] at hi; cases hi
        | some x => rw [e2] at hi; cases hi; exact ⟨x, rfl, rfl⟩
      have kb := r2 k (List.mem_of_getElem? hk)
      have kl := num_len (show 0 ≤ k ∧ k < 100 by omega)
      obtain ⟨n1, n2, n3, n4⟩ := num40 kb
      have il : i < r.length := (List.getElem?_eq_some_iff.mp hk).1
      refine ⟨by cases o9 <;> trivial, by show -(2 ^ 62) ≤ (40 : Int); decide, by show (40 : Int) < 2 ^ 62; decide, ?_⟩
      rw [show rangeD 0 (40 : Int).toNat = (rangeI 40).map D.int from range0_eq 40]
      refine ⟨flat_ints _, ?_⟩
      refine lcW_mapE D.int (fun x => .str (numT x)) rfl (rangeI 40) [] n (by rw [rangeI_length]; decide) (fun x hx n' Q' q' => ⟨log_small (by have := mem_rangeI.mp hx; omega), q'⟩) ?_
      refine ⟨_, rfl, rfl, by rw [List.nil_append, List.all_map, List.all_eq_true]; exact fun _ _ => rfl, ?_⟩
      refine ifF (by
        show (!inD (.str (numT k)) ((rangeI 40).map fun x => D.str (numT x))) = false
        rw [show ((rangeI 40).map fun x => D.str (numT x)) = ((rangeI 40).map numT).map D.str by rw [List.map_map]; rfl, in_strs, decide_eq_true (List.mem_map.mpr ⟨k, mem_rangeI.mpr (by omega), rfl⟩)]; rfl) ?_
      refine ⟨k, n4, by omega, _, rfl, rfl, sc_ints _, ?_⟩
      refine ifX (fun hmet => ⟨rfl, q1 _⟩) (fun hmet => ?_)
      refine ⟨k, n4, by omega, by rw [List.length_map, List.length_append, List.length_take]; exact Nat.lt_of_lt_of_le (show _ < 20000 by omega) (by decide), some (.str (numT k)), o9, ?_, rfl⟩
      rw [List.take_add_one, hk]
      simp
    · rintro Δ n' ⟨o8, o9, rfl, rfl⟩
      rw [List.length_map, List.length_map, List.take_length]
      refine ⟨by cases o8 <;> trivial, .inl ⟨flat_strs _, ?_⟩⟩
      rw [cut_tail]
      refine ⟨by rw [List.length_map, List.length_map]; exact small100 (by omega), flat_strs _, ?_⟩
      show lcW 8 tYesD _ _ _ _ ((r.map numT).map D.str) [] n
      rw [show (r.map numT).map D.str = r.map fun k => D.str (numT k) by rw [List.map_map]; rfl]
      refine lcW_mapE (fun k => .str (numT k)) D.int rfl r [] n (by simp; exact small100 (by omega)) (fun k hk n' Q' q' => ⟨k, (num40 (r2 k hk)).2.2.2, by have := num_len (show 0 ≤ k ∧ k < 100 by have := r2 k hk; omega); omega, q'⟩) ?_
      refine ⟨flat_ints r, by rw [List.length_map, List.length_take]; exact Nat.lt_of_lt_of_le (show _ < 20000 by omega) (by decide), some (.frz (.int j)), some (.frz (.str (wordsT (Str.ofString "room") r))), some (.frz (.lst ((Str.ofString "room" :: r.map numT).map D.str))), o8, o9, ?_, rfl, ?_⟩
      · rw [(flat_take hr).1, List.take_add_one, hr]
        simp; rfl
      · have h9' : ¬ (9 : Int) < (j : Int) := by simpa using h9
        right; omega
  · rintro Δ n' ⟨v5, v6, v7, o8, o9, rfl, rfl, hj⟩
    have el : (enumD 0 ((linesT g).map D.str)).length = g.length := by rw [enumD_length, List.length_map]; unfold linesT; rw [List.length_map]
    rw [el] at hj
    rw [el, List.take_length]
    have mm := take_len fw g.length
    rw [List.take_length] at mm
    have f40 := fw.flat
    refine ⟨by show 0 ≤ sizeLine; decide, shp_lst fun x hx => by have := f40 x hx; omega, shp_nil.1, ?_⟩
    refine ifX (fun _ => q1 _) (fun hne => ?_)
    have ne : g.flatten ≠ [] := fun e => by
      have := eqv_lst g.flatten []
      rw [e] at this hne
      have e2 : PyData.eqv (toPy (.lst (([] : List Int).map D.int))) (toPy (.lst [])) = true := by rw [show ([] : List D) = ([] : List Int).map D.int from rfl, eqv_lst]; rfl
      rw [e2] at hne
      cases hne
    refine ⟨g.flatten, rfl, fun ns hp hs => ?_⟩
    have pl := hp.length_eq
    refine ⟨by rw [List.length_map]; omega, by omega, ?_⟩
    have er : intsD (((g.flatten.map D.int).length : Int)).toNat = (rangeI g.flatten.length).map D.int := by rw [intsD_eq, List.length_map]; rfl
    refine ⟨shp_lst fun x hx => by have := f40 x (hp.mem_iff.mp hx); omega, by
      show shp (.lst (intsD (((g.flatten.map D.int).length : Int)).toNat))
      rw [er]
      exact shp_lst_any () (by omega), ?_⟩
    refine ifX (fun _ => q1 _) (fun hq => ?_)
    have eqr : ns = rangeI g.flatten.length := by
      have e2 : (!PyData.eqv (toPy (.lst (ns.map D.int))) (toPy (.lst (intsD (((g.flatten.map D.int).length : Int)).toNat)))) = false := hq
      rw [er, eqv_lst] at e2
      simpa using e2
    refine ⟨by show (0 : Int) < 2; decide, ?_⟩
    refine ifX (fun _ => q1 _) (fun hodd => ?_)
    have hodd2 : ¬ ((g.flatten.length : Nat) : Int) % 2 = 1 := by
      have e3 : decide (((g.flatten.map D.int).length : Int) % 2 = 1) = false := hodd
      rw [List.length_map] at e3
      exact of_decide_eq_false e3
    have j10 : g.length ≤ 10 := by
      rcases hj with h | h
      · rw [h]; omega
      · exact h
    exact ⟨flat_encIs g, by show 1 ≤ sizeLine; decide, q2 (good_of fw ne j10 hp eqr hodd2)⟩
end Lw

set_option Elab.async false
set_option linter.all false
set_option maxRecDepth 100000
set_option maxHeartbeats 1000000
namespace Lw
open PySem PySem.Spec PyProof.Rows L2 Dl
/-! ### a house disguised -/
def sp_l_order : DSp := fun ds n Q => ∃ m : Nat, ds = [.pen, .int m] ∧ m ≤ 100 ∧ n + m ≤ lim ∧ ∀ p : List Int, p.Perm (rangeI m) → Q (.lst (p.map D.int)) (n + m)
theorem len_l_order : ∀ ds n Q, sp_l_order ds n Q → ds.length = 2 := by
  rintro ds n Q ⟨m, rfl, _⟩; rfl
def sp_l_renamed : DSp := fun ds n Q => ∃ (nm b : List Int) (a : Int) (w : Nat), ds = [.lst (nm.map D.int), encS b a] ∧ EndsOf nm w ∧ w ≤ 40 ∧ b.length = 2 * w ∧ 0 ≤ a ∧ a < 2 * w ∧ ∀ d, flat d = true → Q d n
theorem len_l_renamed : ∀ ds n Q, sp_l_renamed ds n Q → ds.length = 2 := by
  rintro ds n Q ⟨nm, b, a, w, rfl, _⟩; rfl
theorem at_int {xs : List Int} {i : Int} (h0 : 0 ≤ i) (h1 : i < xs.length) : ∃ x, atI (xs.map D.int) i = some (.int x) ∧ x ∈ xs ∧ xs[i.toNat]? = some x := by
  have hl : i.toNat < xs.length := by omega
  have e : ((i.toNat : Nat) : Int) = i := by omega
  have := atI_nat (xs := xs.map D.int) (j := i.toNat) (v := .int xs[i.toNat]) (by rw [List.getElem?_map, List.getElem?_eq_getElem hl]; rfl)
  rw [e] at this
  exact ⟨_, this, List.getElem_mem hl, List.getElem?_eq_getElem hl⟩
def rd_l_renamed : DTS := (tSeqD (tOwnD 2 (tLcD .bor (tWSeq (tVarD 0)) 3 tYesD (tCD (.int 0))))
  (tSeqD (tForD (tWEnumT (tOpD drIx (tVarD 1) (tCD (.int 0)))) (gTupD 2 (gConsD (gNameD 3) (gConsD (gNameD 4) gNilD))) (tStD 2 (tOpD drIx (tVarD 0) (tVarD 3)) (tVarD 4)))
  (tRetD (tTupD (tConsD (tCallN drTup (tConsD (tVarD 2) tNilD)) (tConsD (tOpD drIx (tVarD 0) (tOpD drIx (tVarD 1) (tCD (.int 1)))) tNilD))))))
theorem read_l_renamed : ∀ ds n Qd, sp_l_renamed ds n Qd → rd_l_renamed { nx := fun _ n' => Qd .non n', rt := Qd } (startD ["named", "standing", "row", "end", "many"] ds) n := by
  rintro ds n Qd ⟨nm, b, a, w, rfl, he, w40, hb, a0, a1, q⟩
  have hl := he.len
  refine ⟨trivial, .inl ⟨small100 (by rw [List.length_map]; omega), flat_ints nm, ?_⟩⟩
  refine lcW_mapE D.int (fun _ => .int 0) rfl nm [] n (by simp; exact small100 (by omega)) (fun k hk n' Q' q' => q') ?_
  have e0 : ([] : List D) ++ nm.map (fun _ => D.int 0) = (nm.map fun _ => (0 : Int)).map D.int := by rw [List.nil_append, List.map_map]; rfl
  rw [e0]
  refine ⟨flat_ints _, ?_⟩
  refine ⟨encI b, rfl, flat_encI b, by rw [List.length_map]; exact small100 (by omega), ?_⟩
  refine ⟨fun j Δ n' => ∃ (row : List Int) (v3 v4 : Option SV), Δ = [some (.frz (.lst (nm.map D.int))), some (.frz (encS b a)), some (.own (row.map D.int)), v3, v4] ∧ row.length = 2 * w ∧ n = n', ⟨_, none, none, rfl, by rw [List.length_map, hl], rfl⟩, ?_, ?_⟩
  · rintro j e Δ n' hj ⟨row, v3, v4, rfl, hr, rfl⟩
    obtain ⟨e0, hj0, rfl⟩ := enum_item hj
    rw [List.getElem?_map] at hj0
    obtain ⟨k, hk, rfl⟩ : ∃ k, b[j]? = some k ∧ e0 = .int k := by
      cases e2 : b[j]? with
      | none => rw [e2] at hj0; cases hj0
      | some x => rw [e2] at hj0; cases hj0; exact ⟨x, rfl, rfl⟩
    have jl : j < b.length := (List.getElem?_eq_some_iff.mp hk).1
    obtain ⟨x, ex, xm, _⟩ := at_int (xs := nm) (i := (j : Int)) (by omega) (by omega)
    have xb := he.mem xm
    refine ⟨rfl, .int x, ex, rfl, x.toNat, ?_, (row.set x.toNat k), some (.frz (.int j)), some (.frz (.int k)), ?_, ?_, rfl⟩
    · unfold ixN
      rw [if_pos (by omega), if_pos (by rw [List.length_map]; omega)]
    · rw [List.map_set]; rfl
    · rw [List.length_set, hr]
  · rintro Δ n' ⟨row, v3, v4, rfl, hr, rfl⟩
    obtain ⟨x, ex, xm, _⟩ := at_int (xs := nm) a0 (by omega)
    exact ⟨flat_ints row, .int a, rfl, rfl, .int x, ex, rfl, by show 2 ≤ sizeLine; decide, q _ (by
      show flatAll [encI row, .int x] = true
      simp only [flatAll, flat_encI]; rfl)⟩
end Lw

set_option Elab.async false
set_option linter.all false
set_option maxRecDepth 100000
set_option maxHeartbeats 1000000
namespace Lw
open PySem PySem.Spec PyProof.Rows L2 Dl
/-! ### the ends named anew are the ends -/
def nameF (os fs : List Int) (e : Int) : Int := 2 * os.getD (e / 2).toNat 0 + (e + fs.getD (e / 2).toNat 0) % 2
theorem rangeI_succ (n : Nat) : rangeI (n + 1) = rangeI n ++ [(n : Int)] := by
  unfold rangeI
  rw [List.range_succ, List.map_append]; rfl
theorem rangeI_two : ∀ w : Nat, rangeI (2 * w) = (rangeI w).flatMap fun k => [2 * k, 2 * k + 1]
  | 0 => rfl
  | w + 1 => by
    rw [show 2 * (w + 1) = 2 * w + 1 + 1 by omega, rangeI_succ, rangeI_succ, rangeI_succ w, List.flatMap_append, ← rangeI_two w]
    simp
theorem fm_perm {α β : Type} {f g : α → List β} : ∀ {l : List α}, (∀ x ∈ l, (f x).Perm (g x)) → (l.flatMap f).Perm (l.flatMap g)
  | [], _ => .nil
  | x :: l, h => by
    rw [List.flatMap_cons, List.flatMap_cons]
    exact (h x (List.mem_cons_self ..)).append (fm_perm fun y hy => h y (List.mem_cons_of_mem _ hy))
theorem map_getD (os : List Int) : (rangeI os.length).map (fun k => os.getD k.toNat 0) = os := by
  apply List.ext_getElem
  · rw [List.length_map, rangeI_length]
  · intro i h1 h2
    rw [List.getElem_map]
    have : (rangeI os.length)[i]'(by rw [rangeI_length]; exact h2) = (i : Int) := by unfold rangeI; rw [List.getElem_map, List.getElem_range]
    rw [this, List.getD_eq_getElem?_getD, Int.toNat_natCast, List.getElem?_eq_getElem h2]; rfl
theorem named_ends {w : Nat} {os fs : List Int} (ho : os.Perm (rangeI w)) (hf : ∀ f ∈ fs, 0 ≤ f ∧ f < 2) (hl : fs.length = w) : EndsOf ((rangeI (2 * w)).map (nameF os fs)) w := by
  have ol : os.length = w := by rw [ho.length_eq, rangeI_length]
  show List.Perm _ (rangeI (2 * w))
  rw [rangeI_two w, List.map_flatMap]
  have p1 : ((rangeI w).flatMap fun k => [2 * k, 2 * k + 1].map (nameF os fs)).Perm ((rangeI w).flatMap fun k => [2 * os.getD k.toNat 0, 2 * os.getD k.toNat 0 + 1]) := by
    refine fm_perm fun k hk => ?_
    obtain ⟨k0, k1⟩ := mem_rangeI.mp hk
    have e1 : (2 * k / 2).toNat = k.toNat := by omega
    have e2 : ((2 * k + 1) / 2).toNat = k.toNat := by omega
    have fb : 0 ≤ fs.getD k.toNat 0 ∧ fs.getD k.toNat 0 < 2 := by
      rw [List.getD_eq_getElem?_getD, List.getElem?_eq_getElem (show k.toNat < fs.length by omega)]
      exact hf _ (List.getElem_mem _)
    show List.Perm [nameF os fs (2 * k), nameF os fs (2 * k + 1)] _
    unfold nameF
    rw [e1, e2]
    generalize os.getD k.toNat 0 = o
    generalize hfv : fs.getD k.toNat 0 = f at fb
    have : f = 0 ∨ f = 1 := by omega
    rcases this with rfl | rfl
    · rw [show (2 * k + 0) % 2 = 0 by omega, show (2 * k + 1 + 0) % 2 = 1 by omega, Int.add_zero]
    · rw [show (2 * k + 1) % 2 = 1 by omega, show (2 * k + 1 + 1) % 2 = 0 by omega, Int.add_zero]
      exact List.Perm.swap _ _ _
  refine p1.trans ?_
  have e3 : ((rangeI w).flatMap fun k => [2 * os.getD k.toNat 0, 2 * os.getD k.toNat 0 + 1]) = os.flatMap fun o => [2 * o, 2 * o + 1] := by
    have := map_getD os
    rw [ol] at this
    conv => rhs; rw [← this, List.flatMap_map]
  rw [e3]
  exact List.Perm.flatMap_right _ ho
end Lw

set_option Elab.async false
set_option linter.all false
set_option maxRecDepth 100000
set_option maxHeartbeats 1000000
namespace Lw
open PySem PySem.Spec PyProof.Rows L2 Dl
theorem sum_ones {α : Type} : ∀ xs : List α, (xs.map fun _ => 1).sum = xs.length
  | [] => rfl
  | x :: xs => by rw [List.map_cons, List.sum_cons, sum_ones xs, List.length_cons]; omega
theorem cut_from {α : Type} {xs : List α} {k : Nat} (hk : k ≤ xs.length) : cutL xs (some (k : Int)) none = xs.drop k := by
  unfold cutL
  rw [show HT.sIx xs.length 0 (some (k : Int)) = min k xs.length from HT.sIx_nat _ _ k, HT.sIx_none, Nat.min_eq_left hk]
  exact List.take_of_length_le (by rw [List.length_drop]; omega)
theorem cut_to {α : Type} {xs : List α} {k : Nat} (hk : k ≤ xs.length) : cutL xs none (some (k : Int)) = xs.take k := by
  unfold cutL
  rw [show HT.sIx xs.length xs.length (some (k : Int)) = min k xs.length from HT.sIx_nat _ _ k, HT.sIx_none, Nat.min_eq_left hk]; rfl
theorem hs_mem {h : Hs} {rooms wires : Nat} (hh : IsHs h rooms wires) {x : Int} (hx : x ∈ h.flatten) : 0 ≤ x ∧ x < 2 * wires := EndsOf.mem hh.perm hx
theorem hs_ok {h : Hs} {rooms wires : Nat} (hh : IsHs h rooms wires) (hr : rooms ≤ 100) (hw : wires ≤ 40) : okH h where
  len := by rw [hh.len]; exact hr
  rows := fun r hr => by
    have e := EndsOf.len hh.perm
    have e2 := (List.sublist_flatten_of_mem hr).length_le
    refine ⟨by omega, fun x hx => ?_⟩
    have := hs_mem hh (List.mem_flatten.mpr ⟨r, hr, hx⟩)
    omega
def sp_l_disguised : DSp := fun ds n Q => ∃ (h : Hs) (b : List Int) (a : Int) (z : Str) (rooms wires : Nat), ds = [.pen, .tup [encH h, encS b a, .str z]] ∧ IsHs h rooms wires ∧ rooms ≤ 10 ∧ wires ≤ 20 ∧ IsSt wires b a ∧ z.length = rooms ∧ n + 60 ≤ lim ∧
  ∀ (g : Hs) (d1 d2 e : D) (n' : Nat), IsHs g rooms wires → flat d1 = true → flat d2 = true → n' ≤ n + 60 → Q (.tup [.tup [encH g, d1, d2], e]) n'
theorem len_l_disguised : ∀ ds n Q, sp_l_disguised ds n Q → ds.length = 2 := by
  rintro ds n Q ⟨h, b, a, z, r, w, rfl, _⟩; rfl
def rd_l_disguised : DTS := (tSeqD (tAsgD (tVarD 1) (gTupD 3 (gConsD (gNameD 8) (gConsD (gNameD 9) (gConsD (gNameD 10) gNilD)))))
  (tSeqD (tSetD 2 (tCallD sp_l_order (tConsD (tVarD 0) (tConsD (tOpD drDiv (tCallN drLen (tConsD (tOpD drIx (tVarD 9) (tCD (.int 0))) tNilD)) (tCD (.int 2))) tNilD))))
  (tSeqD (tSetD 3 (tLcD .bor (tWSeq (tVarD 2)) 13 tYesD (tCallD sp_l_pick (tConsD (tVarD 0) (tConsD (tCD (.int 2)) tNilD)))))
  (tSeqD (tOwnD 4 (tLcD .bor (tWRng1 (tOpD drMul (tCD (.int 2)) (tCallN drLen (tConsD (tVarD 2) tNilD)))) 14 tYesD (tOpD drAdd (tOpD drMul (tCD (.int 2)) (tOpD drIx (tVarD 2) (tOpD drDiv (tVarD 14) (tCD (.int 2))))) (tOpD drMod (tOpD drAdd (tVarD 14) (tOpD drIx (tVarD 3) (tOpD drDiv (tVarD 14) (tCD (.int 2))))) (tCD (.int 2))))))
  (tSeqD (tSetD 5 (tCallD sp_l_order (tConsD (tVarD 0) (tConsD (tCallN drLen (tConsD (tVarD 8) tNilD)) tNilD))))
  (tSeqD (tOwnD 6 (tLstD tNilD))
  (tSeqD (tForD (tWSeq (tVarD 5)) (gNameD 7) (tSeqD (tSetD 11 (tLcD .bor (tWSeq (tOpD drIx (tVarD 8) (tVarD 7))) 14 tYesD (tOpD drIx (tVarD 4) (tVarD 14))))
  (tSeqD (tSetD 12 (tCallD sp_l_pick (tConsD (tVarD 0) (tConsD (tOpD drAdd (tCallN drLen (tConsD (tVarD 11) tNilD)) (tCD (.int 1))) tNilD))))
  (tAppD 6 (tCallN drTup (tConsD (tOpD drAdd (tSlD (tVarD 11) (tPartD (tVarD 12)) tNoPartD) (tSlD (tVarD 11) tNoPartD (tPartD (tVarD 12)))) tNilD))))))
  (tRetD (tTupD (tConsD (tTupD (tConsD (tCallN drTup (tConsD (tVarD 6) tNilD)) (tConsD (tCallD sp_l_renamed (tConsD (tVarD 4) (tConsD (tVarD 9) tNilD))) (tConsD (tJoinD (tCD (.str (Str.ofString ""))) (tLcD .bor (tWSeq (tVarD 5)) 7 tYesD (tOpD drIx (tVarD 10) (tVarD 7)))) tNilD)))) (tConsD (tVarD 4) tNilD)))))))))))
theorem st_len {wires : Nat} {b : List Int} {a : Int} (hs : IsSt wires b a) : b.length = 2 * wires := by
  obtain ⟨ps, rfl, hl, hp⟩ := hs.pairs
  rw [pairsF_len, hl]
/-- rooms in another order, each row named anew and turned -/
structure Disg (h : Hs) (nm : List Int) (order : List Int) (fs : Hs) : Prop where
  len : fs.length = order.length
  perm : fs.flatten.Perm ((order.map fun r => (h.getD r.toNat []).map fun e => nm.getD e.toNat 0).flatten)
theorem disg_end {h : Hs} {rooms wires : Nat} {nm order : List Int} {fs : Hs} (hh : IsHs h rooms wires) (hn : EndsOf nm wires) (ho : order.Perm (rangeI rooms)) (d : Disg h nm order fs) : IsHs fs rooms wires where
  len := by rw [d.len, ho.length_eq, rangeI_length]
  perm := by
    refine d.perm.trans ?_
    have p1 : ((order.map fun r => (h.getD r.toNat []).map fun e => nm.getD e.toNat 0).flatten).Perm (((rangeI rooms).map fun r => (h.getD r.toNat []).map fun e => nm.getD e.toNat 0).flatten) := (ho.map _).flatten
    refine p1.trans ?_
    have e1 : (rangeI rooms).map (fun r => (h.getD r.toNat []).map fun e => nm.getD e.toNat 0) = h.map fun r => r.map fun e => nm.getD e.toNat 0 := by
      apply List.ext_getElem
      · rw [List.length_map, rangeI_length, List.length_map, hh.len]
      · intro i h1 h2
        rw [List.length_map] at h2
        rw [List.getElem_map, List.getElem_map]
        have : (rangeI rooms)[i]'(by rw [rangeI_length, ← hh.len]; exact h2) = (i : Int) := by unfold rangeI; rw [List.getElem_map, List.getElem_range]
        rw [this, List.getD_eq_getElem?_getD, Int.toNat_natCast, List.getElem?_eq_getElem h2]; rfl
    rw [e1]
    have e2 : (h.map fun r => r.map fun e => nm.getD e.toNat 0).flatten = h.flatten.map fun e => nm.getD e.toNat 0 := by rw [List.map_flatten]
    rw [e2]
    refine (hh.perm.map _).trans ?_
    have e3 : ((List.range (2 * wires)).map fun (k : Nat) => (k : Int)).map (fun e => nm.getD e.toNat 0) = nm := by
      have := map_getD nm
      rw [hn.len] at this
      exact this
    rw [e3]
    exact hn
theorem read_l_disguised : ∀ ds n Qd, sp_l_disguised ds n Qd → rd_l_disguised { nx := fun _ n' => Qd .non n', rt := Qd } (startD ["pen", "painted", "order", "flips", "named", "rooms", "found", "room", "house", "standing", "paints", "row", "cut", "wire", "end"] ds) n := by
  rintro ds n Qd ⟨h, b, a, z, rooms, wires, rfl, hh, r10, w20, hs, zl, hn, q⟩
  replace hn : n + 60 ≤ 4000000 := hn
  have bl := st_len hs
  have hl := hh.len
  refine ⟨rfl, encI b, rfl, flat_encI b, ⟨by decide, by decide⟩, wires, ?_, by omega, by show n + wires ≤ 4000000; omega, fun os ho => ?_⟩
  · show [D.pen, D.int (((b.map D.int).length : Int) / 2)] = _
    rw [List.length_map, bl]
    congr 3
    omega
  have ol : os.length = wires := by rw [ho.length_eq, rangeI_length]
  -- flips
  refine ⟨trivial, .inl ⟨by rw [List.length_map]; exact small100 (by omega), flat_ints os, ?_⟩⟩
  refine lcW_some rfl wires (small100 (by omega)) (fun acc n' => ∃ fs : List Int, acc = fs.map D.int ∧ (∀ f ∈ fs, 0 ≤ f ∧ f < 2) ∧ n' = n + wires + fs.length) _ [] _ (by rw [List.length_map, ol]; simp) ⟨[], rfl, by simp, rfl⟩ ?_ ?_
  · rintro d hd acc n' Q' hz ⟨fs, rfl, hf, rfl⟩ hk
    rw [List.length_map] at hz
    refine ⟨2, rfl, by decide, by decide, by show n + wires + fs.length < 4000000; omega, fun z z0 z1 => hk _ _ ⟨fs ++ [z], by rw [List.map_append]; rfl, ?_, by simp; omega⟩⟩
    intro k hkm
    rcases List.mem_append.mp hkm with hkm | hkm
    · exact hf k hkm
    · rw [List.mem_singleton] at hkm; subst hkm; omega
  rintro acc n1 hacc ⟨fs, rfl, hf, rfl⟩
  rw [List.length_map] at hacc
  rw [hacc]
  -- named
  have e2 : (2 : Int) * ((os.map D.int).length : Int) = ((2 * wires : Nat) : Int) := by rw [List.length_map, ol]; omega
  refine ⟨trivial, .inl (by decide), by show -(2 ^ 62) ≤ (2 : Int) * ((os.map D.int).length : Int); omega, by show (2 : Int) * ((os.map D.int).length : Int) < 2 ^ 62; omega, ?_⟩
  rw [show rangeD 0 ((2 : Int) * ((os.map D.int).length : Int)).toNat = (rangeI (2 * wires)).map D.int by rw [e2]; exact range0_eq _]
  refine ⟨flat_ints _, ?_⟩
  refine lcW_mapE D.int (fun e => .int (nameF os fs e)) rfl (rangeI (2 * wires)) [] _ (by rw [rangeI_length]; simp; exact small100 (by omega)) (fun e he n' Q' q' => ?_) ?_
  · obtain ⟨e0, e1⟩ := mem_rangeI.mp he
    obtain ⟨x, ex, xm, xg⟩ := at_int (xs := os) (i := e / 2) (by omega) (by omega)
    obtain ⟨y, ey, ym, yg⟩ := at_int (xs := fs) (i := e / 2) (by omega) (by omega)
    have ev : nameF os fs e = 2 * x + (e + y) % 2 := by
      unfold nameF
      rw [List.getD_eq_getElem?_getD, xg, List.getD_eq_getElem?_getD, yg]; rfl
    rw [ev] at q'
    exact ⟨⟨by decide, by decide⟩, .int x, ex, rfl, .inl (by decide), ⟨by decide, by decide⟩, .int y, ey, rfl, by show (0 : Int) < 2; decide, q'⟩
  have e3 : ([] : List D) ++ (rangeI (2 * wires)).map (fun e => D.int (nameF os fs e)) = ((rangeI (2 * wires)).map (nameF os fs)).map D.int := by rw [List.nil_append, List.map_map]; rfl
  rw [e3]
  have hnm := named_ends ho hf hacc
  generalize (rangeI (2 * wires)).map (nameF os fs) = nm at hnm
  have nl := hnm.len
  refine ⟨flat_ints nm, rooms, ?_, by omega, by show n + wires + wires + rooms ≤ 4000000; omega, fun rs hr => ?_⟩
  · show [D.pen, D.int (((h.map encI).length : Int))] = _
    rw [List.length_map, hl]
  have rl : rs.length = rooms := by rw [hr.length_eq, rangeI_length]
  refine ⟨by show 0 ≤ sizeLine; decide, rfl, .inl ⟨by rw [List.length_map]; exact small100 (by omega), ?_⟩⟩
  refine ⟨fun j Δ n' => ∃ (gs : Hs) (v7 v11 v12 v13 : Option SV) (o7 o14 : Option D), Δ = [some (.frz .pen), some (.frz (.tup [encH h, encS b a, .str z])), some (.frz (.lst (os.map D.int))), some (.frz (.lst (fs.map D.int))), some (.own (nm.map D.int)), some (.frz (.lst (rs.map D.int))), some (.own (gs.map encI)), o7.map SV.frz, some (.frz (encH h)), some (.frz (encS b a)), some (.frz (.str z)), v11, v12, v13, o14.map SV.frz] ∧ Disg h nm (rs.take j) gs ∧ n' = n + wires + wires + rooms + j, ⟨[], none, none, none, none, none, none, rfl, ⟨rfl, .nil⟩, rfl⟩, ?_, ?_⟩
  · rintro j e Δ n' hj ⟨gs, v7, v11, v12, v13, o7, o14, rfl, hd, rfl⟩
    rw [List.getElem?_map] at hj
    obtain ⟨r, hr2, rfl⟩ : ∃ r, rs[j]? = some r ∧ e = .int r := by
      cases e2 : rs[j]? with
      | none => rw [e2] at hj; cases hj
      | some x => rw [e2] at hj; cases hj; exact ⟨x, rfl, rfl⟩
    have jl : j < rs.length := (List.getElem?_eq_some_iff.mp hr2).1
    obtain ⟨r0, r1⟩ := mem_rangeI.mp (hr.mem_iff.mp (List.mem_of_getElem? hr2))
    have rlt : r.toNat < h.length := by omega
    obtain ⟨row, hrow⟩ : ∃ row, h[r.toNat]? = some row := ⟨_, List.getElem?_eq_getElem rlt⟩
    have er : atI (h.map encI) r = some (encI row) := by
      have := atI_nat (xs := h.map encI) (j := r.toNat) (v := encI row) (by rw [List.getElem?_map, hrow]; rfl)
      rw [show ((r.toNat : Nat) : Int) = r by omega] at this
      exact this
    have rok := (hs_ok hh (by omega) (by omega)).rows row (List.mem_of_getElem? hrow)
    have rmem : ∀ x ∈ row, 0 ≤ x ∧ x < 2 * wires := fun x hx => hs_mem hh (List.mem_flatten.mpr ⟨row, List.mem_of_getElem? hrow, hx⟩)
    refine ⟨by cases o14 <;> trivial, .inr ⟨_, er, flat_encI row, by rw [List.length_map]; exact small100 (by omega), flat_ints row, ?_⟩⟩
    refine lcW_mapE D.int (fun e => .int (nm.getD e.toNat 0)) rfl row [] _ (by simp; exact small100 (by omega)) (fun e he n' Q' q' => ?_) ?_
    · have eb := rmem e he
      obtain ⟨x, ex, xm, xg⟩ := at_int (xs := nm) (i := e) eb.1 (by omega)
      rw [List.getD_eq_getElem?_getD, xg] at q'
      exact ⟨.int x, ex, rfl, q'⟩
    have e4 : ([] : List D) ++ row.map (fun e => D.int (nm.getD e.toNat 0)) = (row.map fun e => nm.getD e.toNat 0).map D.int := by rw [List.nil_append, List.map_map]; rfl
    rw [e4]
    have rowl : (row.map fun e => nm.getD e.toNat 0).length = row.length := List.length_map _
    generalize hrn : (row.map fun e => nm.getD e.toNat 0) = rn at rowl
    refine ⟨((rn.length + 1 : Nat) : Int), ?_, by omega, by omega, by show n + wires + wires + rooms + j < 4000000; omega, fun c c0 c1 => ?_⟩
    · show [D.pen, D.int (((rn.map D.int).length : Int) + 1)] = _
      rw [List.length_map]; rfl
    obtain ⟨cn, rfl⟩ := Int.eq_ofNat_of_zero_le c0
    have cl : cn ≤ rn.length := by omega
    refine ⟨flat_ints rn, flat_ints rn, ?_⟩
    rw [cut_from (by rw [List.length_map]; exact cl), cut_to (by rw [List.length_map]; exact cl), ← List.map_drop, ← List.map_take]
    have gl : gs.length = j := by rw [hd.len, List.length_take]; omega
    refine ⟨by rw [List.length_map, List.length_map, List.length_drop, List.length_take]; exact small100 (by omega), flat_ints _, flat_ints _, ?_⟩
    rw [← List.map_append]
    refine ⟨flat_ints _, by rw [List.length_map, gl]; exact Nat.lt_of_lt_of_le (show _ < 1000 by omega) (by decide), gs ++ [rn.drop cn ++ rn.take cn], v7, some (.frz (.lst (rn.map D.int))), some (.frz (.int (cn : Nat))), v13, some (.int r), o14, ?_, ⟨?_, ?_⟩, rfl⟩
    · rw [List.map_append (f := encI)]; rfl
    · rw [List.length_append, hd.len, List.take_add_one, hr2]; simp
    · rw [List.take_add_one, hr2, List.flatten_append, List.map_append, List.flatten_append]
      refine hd.perm.append ?_
      have e5 : ((some r).toList.map fun r => (h.getD r.toNat []).map fun e => nm.getD e.toNat 0).flatten = rn := by
        rw [← hrn]
        show ((h.getD r.toNat []).map fun e => nm.getD e.toNat 0) ++ [] = _
        rw [List.append_nil, List.getD_eq_getElem?_getD, hrow]; rfl
      rw [e5]
      show ((rn.drop cn ++ rn.take cn) ++ []).Perm rn
      rw [List.append_nil]
      exact List.perm_append_comm.trans (by rw [List.take_append_drop])
  · rintro Δ n' ⟨gs, v7, v11, v12, v13, o7, o14, rfl, hd, rfl⟩
    rw [List.length_map] at hd ⊢
    rw [List.take_length] at hd
    have hg := disg_end hh hnm hr hd
    refine ⟨flat_encIs gs, nm, b, a, wires, rfl, hnm, by omega, bl, hs.a0, hs.a1, fun d1 f1 => ?_⟩
    refine ⟨by cases o7 <;> trivial, .inl ⟨by rw [List.length_map]; exact small100 (by omega), flat_ints rs, ?_⟩⟩
    refine lcW_mapE D.int (fun r => .str ⟨#[z.cps.toList.getD r.toNat 0]⟩) rfl rs [] _ (by simp; exact small100 (by omega)) (fun r hrm n' Q' q' => ?_) ?_
    · obtain ⟨r0, r1⟩ := mem_rangeI.mp (hr.mem_iff.mp hrm)
      have zc : z.cps.toList.length = rooms := by rw [← zl]; rfl
      have rlt : r.toNat < z.cps.toList.length := by omega
      have := atI_nat (xs := z.cps.toList) (j := r.toNat) (v := z.cps.toList[r.toNat]) (List.getElem?_eq_getElem rlt)
      rw [show ((r.toNat : Nat) : Int) = r by omega] at this
      rw [List.getD_eq_getElem?_getD, List.getElem?_eq_getElem rlt] at q'
      exact ⟨_, small100 (by omega), this, q'⟩
    refine ⟨rs.map fun r => ⟨#[z.cps.toList.getD r.toNat 0]⟩, by rw [List.nil_append, List.map_map]; rfl, ?_, ?_⟩
    · have : ((rs.map fun r => (⟨#[z.cps.toList.getD r.toNat 0]⟩ : Str)).map (·.length)).sum = rs.length := by
        rw [List.map_map]
        have : ((fun x : Str => x.length) ∘ fun r : Int => (⟨#[z.cps.toList.getD r.toNat 0]⟩ : Str)) = fun _ => 1 := rfl
        rw [this]
        exact sum_ones rs
      rw [this, empty_len]
      omega
    · exact ⟨by show 3 ≤ sizeLine; decide, flat_ints nm, by show 2 ≤ sizeLine; decide, q gs _ _ _ _ hg f1 rfl (by omega)⟩
end Lw

set_option Elab.async false
set_option linter.all false
set_option maxRecDepth 100000
set_option maxHeartbeats 4000000
namespace Lw
open PySem PySem.Spec PyProof.Rows L2 Dl
/-! ### the law -/
theorem tm_house {h : Hs} (ok : okH h) : tm 2 (encH h) = true := by
  show tm 2 (.tup (h.map encI)) = true
  simp only [tm]
  exact tms_map fun r hr => tm_encI (ok.rows r hr).2
theorem wt_rows : ∀ (g : Hs), wtDs (g.map encI) ≤ 201 * g.flatten.length + g.length
  | [] => by simp [wtDs]
  | r :: g => by
    have ih := wt_rows g
    have := wt_encI r
    simp only [List.map_cons, wtDs, List.flatten_cons, List.length_append, List.length_cons]
    omega
theorem rp_good {o : Hs} (g : Good o) : rpOk (.lst [encH o]) := by
  obtain ⟨w, he, w1, w2⟩ := g.ends
  have hl := he.len
  have r2 := g.r2
  refine rpOk_of (k := 3) ?_ (by decide) ?_
  · simp only [tm, tms, tm_house g.ok, Bool.and_true]
  · have e1 := wt_rows o
    simp only [wtD, wtDs, encH]
    omega
theorem shp_house {o : Hs} (ok : okH o) : shp (encH o) := shp_of (tm_house ok) (by decide)
theorem eq_house {o : Hs} (ok : okH o) : PyData.eqv (toPy (encH o)) (toPy (encH o)) = true := SeqAt.eqv_refl _ (SeqAt.canLay_of_shaped (shp_house ok).2)
theorem good_hs {h : Hs} {rooms wires : Nat} (hh : IsHs h rooms wires) (r1 : 1 ≤ rooms) (r2 : rooms ≤ 10) (w1 : 1 ≤ wires) (w2 : wires ≤ 20) : Good h := ⟨by rw [hh.len]; exact r1, by rw [hh.len]; exact r2, wires, hh.perm, w1, w2⟩
theorem few_good {h : Hs} (g : Good h) : Few h := ⟨by have := g.r2; omega, fun r hr => ⟨by have := (g.row hr).1; omega, (g.row hr).2⟩⟩
theorem few_app {h g : Hs} (fh : Few h) (fg : Few g) (l : h.length + g.length ≤ 100) : Few (h ++ g) := ⟨by rw [List.length_append]; exact l, fun r hr => (List.mem_append.mp hr).elim (fh.rows r) (fg.rows r)⟩
theorem few_nil : Few [[]] := ⟨by decide, fun r hr => by rw [List.mem_singleton] at hr; subst hr; exact ⟨by decide, fun k hk => by cases hk⟩⟩
theorem Few.ok {g : Hs} (h : Few g) : okH g := ⟨h.len, fun r hr => ⟨(h.rows r hr).1, (h.rows r hr).2.small⟩⟩
theorem st_ok {wires : Nat} {b : List Int} {a : Int} (hs : IsSt wires b a) (hw : wires ≤ 40) : b.length = 2 * wires ∧ small b := by
  obtain ⟨ps, rfl, hl, hp⟩ := hs.pairs
  refine ⟨by rw [pairsF_len, hl], fun x hx => ?_⟩
  obtain ⟨p, hpm, e⟩ := pairsF_mem hx
  obtain ⟨p1, p2, p3, p4⟩ := hp p hpm
  omega
def rd_one : DTS := (tSeqD (tSetD 8 (tOpD drIx (tCallD sp_l_written (tConsD (tVarD 5) (tConsD (tVarD 7) tNilD))) (tCD (.int 0))))
  (tSeqD (tSetD 9 (tCallD sp_l_house_of (tConsD (tVarD 8) tNilD)))
  (tIfSD (tTestD (tCallN drIsi (tConsD (tVarD 9) (tConsD (tCD (.opq (.ty "list"))) tNilD)))) (tSeqD (tSetD 10 (tCallD sp_read_house (tConsD (tVarD 8) tNilD)))
  (tIfSD (tOrD (tTestD (tOpD drNe (tCallN drRepr (tConsD (tLstD (tConsD (tVarD 10) tNilD)) tNilD)) (tCallN drRepr (tConsD (tVarD 9) tNilD)))) (tOrD (tTestD (tOpD drNe (tVarD 10) (tVarD 5))) (tTestD (tOpD drNe (tCallKD sp_read_house [0] tNilD (tConsD (tCallD sp_show_house (tConsD (tVarD 10) tNilD)) tNilD)) (tVarD 5))))) (tRetD (tCD (.bl false))) tNextD)) tNextD)))
theorem read_one (C : DEnds) {x0 x1 x2 x3 x4 x6 x8 x9 x10 : Option SV} {o : Hs} {b : List Int} {a : Int} {n : Nat} (fw : Few o) (bl : b.length ≤ 100) (bs : small b) (a0 : 0 ≤ a) (a1 : a < 100)
    (k : ∀ y8 y9 y10 : Option SV, C.nx [x0, x1, x2, x3, x4, some (.frz (encH o)), x6, some (.frz (encS b a)), y8, y9, y10] n) : rd_one C [x0, x1, x2, x3, x4, some (.frz (encH o)), x6, some (.frz (encS b a)), x8, x9, x10] n := by
  refine ⟨o, b, a, rfl, fw.ok, bl, bs, a0, a1, .str (houseT o), rfl, rfl, ?_⟩
  refine ⟨o, rfl, fw, fun i => ⟨"int", false, rfl, by decide +kernel, k _ _ _⟩, fun g => ⟨"list", true, rfl, by decide +kernel, ?_⟩⟩
  refine ⟨o, rfl, g, ?_⟩
  refine ⟨by show 1 ≤ sizeLine; decide, rp_good g, rp_good g, iteNS rfl ?_⟩
  refine ⟨shp_house fw.ok, shp_house fw.ok, ?_⟩
  refine ifF (by rw [eq_house fw.ok]; rfl) ?_
  refine ⟨o, rfl, fw.ok, rfl, o, rfl, g, shp_house fw.ok, shp_house fw.ok, ?_⟩
  refine ifF (by rw [eq_house fw.ok]; rfl) ?_
  exact k _ _ _
def rd_law : DTS := (tSeqD (tForD (tWRng1 (tCD (.int 3))) (gNameD 2) (tSeqD (tAsgD (tCallD sp_l_great (tConsD (tVarD 1) tNilD)) (gTupD 2 (gConsD (gNameD 6) (gConsD (gNameD 7) gNilD))))
  (tSeqD (tSetD 3 (tOpD drIx (tOpD drIx (tCallD sp_l_disguised (tConsD (tVarD 1) (tConsD (tTupD (tConsD (tVarD 6) (tConsD (tVarD 7) (tConsD (tOpD drMulS (tCD (.str (Str.ofString "a"))) (tCallN drLen (tConsD (tVarD 6) tNilD))) tNilD)))) tNilD))) (tCD (.int 0))) (tCD (.int 0))))
  (tSeqD (tSetD 4 (tTupD (tConsD (tOpD drAdd (tSlD (tVarD 6) (tPartD (tCallD sp_l_pick (tConsD (tVarD 1) (tConsD (tCallN drLen (tConsD (tVarD 6) tNilD)) tNilD)))) tNoPartD) (tVarD 6)) (tConsD (tVarD 6) (tConsD (tVarD 3) (tConsD (tRevD (tVarD 6)) (tConsD (tOpD drAdd (tVarD 6) (tTupD (tConsD (tTupD tNilD) tNilD))) (tConsD (tOpD drAdd (tTupD (tConsD (tTupD tNilD) tNilD)) (tVarD 3)) tNilD))))))))
  (tSeqD (tForD (tWSeq (tVarD 4)) (gNameD 5) rd_one)
  (tIfSD (tTestD (tOpD drNe (tCallD sp_read_house (tConsD (tOpD drIx (tCallD sp_l_written (tConsD (tVarD 3) (tConsD (tVarD 7) tNilD))) (tCD (.int 0))) tNilD)) (tVarD 3))) (tRetD (tCD (.bl false))) tNextD))))))
  (tRetD (tCD (.bl true))))
theorem read_law : ∀ v : V, rd_law { nx := fun _ _ => False, rt := fun d _ => d = .bl true } ((startD ["script", "pen", "turn", "like", "some", "one", "house", "standing", "paper", "due", "found"] [.opq v]).set 1 (some (.frz .pen))) 0 := by
  intro v
  refine ⟨by decide, by decide, ?_⟩
  refine ⟨fun j Δ n => ∃ (v2 v3 v4 v5 v6 v7 v8 v9 v10 : Option SV), Δ = [some (.frz (.opq v)), some (.frz .pen), v2, v3, v4, v5, v6, v7, v8, v9, v10] ∧ n ≤ 1000 * j, ⟨none, none, none, none, none, none, none, none, none, rfl, Nat.le_refl _⟩, ?_, ?_⟩
  · rintro j d Δ n hj ⟨v2, v3, v4, v5, v6, v7, v8, v9, v10, rfl, hn⟩
    have hj3 : j < 3 := (List.getElem?_eq_some_iff.mp hj).1
    refine ⟨rfl, by show n + 300 ≤ 4000000; omega, fun h rooms wires b a n1 hh r1 r2 w1 w2 hs hn1 => ⟨rfl, ?_⟩⟩
    have gh := good_hs hh r1 r2 w1 w2
    have hl := hh.len
    obtain ⟨bl, bs⟩ := st_ok hs (by omega)
    have a0 := hs.a0
    have a1 := hs.a1
    have hml : ((h.map encI).length : Int) = h.length := by rw [List.length_map]
    refine ⟨by show 0 < ((h.map encI).length : Int); omega, by show ((h.map encI).length : Int) ≤ 1000; omega, by decide +kernel, fun z hz => ?_⟩
    have zl : z.length = rooms := by
      have e : (Str.ofString "a").length = 1 := by decide +kernel
      rw [hz, e]
      omega
    refine ⟨by show 3 ≤ sizeLine; decide, h, b, a, z, rooms, wires, rfl, hh, r2, w2, hs, zl, by show n1 + 60 ≤ 4000000; omega, fun g d1 d2 ed n2 hg f1 f2 hn2 => ?_⟩
    have gg := good_hs hg r1 r2 w1 w2
    have gl := hg.len
    refine ⟨.tup [encH g, d1, d2], rfl, by show flatAll [encH g, d1, d2] = true; simp only [flatAll, flat_encH, f1, f2]; rfl, encH g, rfl, flat_encH g, ?_⟩
    refine ⟨_, rfl, by show 0 < ((h.map encI).length : Int); omega, by show ((h.map encI).length : Int) < 1073741824; omega, by show n2 < 4000000; omega, fun c c0 c1 => ?_⟩
    obtain ⟨cn, rfl⟩ := Int.eq_ofNat_of_zero_le c0
    have cl : cn ≤ h.length := by omega
    refine ⟨flat_encIs h, ?_⟩
    rw [cut_from (by rw [List.length_map]; exact cl), ← List.map_drop]
    refine ⟨by rw [List.length_map, List.length_map, List.length_drop]; exact small100 (by omega), flat_encIs _, flat_encIs _, ?_⟩
    refine ⟨flat_encIs h, by show 0 ≤ sizeLine; decide, by show 1 ≤ sizeLine; decide, by rw [List.length_map]; exact small100 (show _ + 1 ≤ _ by omega), flat_encIs h, rfl, ?_⟩
    refine ⟨by show 0 ≤ sizeLine; decide, by show 1 ≤ sizeLine; decide, by rw [List.length_map]; exact small100 (show 1 + _ ≤ _ by omega), rfl, flat_encIs g, by show 6 ≤ sizeLine; decide, ?_⟩
    refine .inr ⟨by show 6 ≤ sizeLine; decide, ?_⟩
    refine ⟨fun i Δ n' => ∃ (y5 y8 y9 y10 : Option SV), Δ = [some (.frz (.opq v)), some (.frz .pen), some (.frz d), some (.frz (encH g)), some (.frz (.tup [.tup ((h.drop cn).map encI ++ h.map encI), encH h, encH g, .tup (h.map encI).reverse, .tup (h.map encI ++ [.tup []]), .tup ([.tup []] ++ g.map encI)])), y5, some (.frz (encH h)), some (.frz (encS b a)), y8, y9, y10] ∧ n2 + 1 = n', ⟨v5, v8, v9, v10, rfl, rfl⟩, ?_, ?_⟩
    · rintro i e Δ n' hi ⟨y5, y8, y9, y10, rfl, rfl⟩
      have he : ∃ o, e = encH o ∧ Few o := by
        have fh := few_good gh
        have fg := few_good gg
        have hm := List.mem_of_getElem? hi
        rcases List.mem_cons.mp hm with rfl | hm
        · exact ⟨h.drop cn ++ h, by show _ = D.tup ((h.drop cn ++ h).map encI); rw [List.map_append], few_app ⟨by rw [List.length_drop]; omega, fun r hr => fh.rows r (List.mem_of_mem_drop hr)⟩ fh (by rw [List.length_drop]; omega)⟩
        rcases List.mem_cons.mp hm with rfl | hm
        · exact ⟨h, rfl, fh⟩
        rcases List.mem_cons.mp hm with rfl | hm
        · exact ⟨g, rfl, fg⟩
        rcases List.mem_cons.mp hm with rfl | hm
        · exact ⟨h.reverse, by show _ = D.tup (h.reverse.map encI); rw [List.map_reverse], ⟨by rw [List.length_reverse]; omega, fun r hr => fh.rows r (List.mem_reverse.mp hr)⟩⟩
        rcases List.mem_cons.mp hm with rfl | hm
        · exact ⟨h ++ [[]], by show _ = D.tup ((h ++ [[]]).map encI); rw [List.map_append]; rfl, few_app fh few_nil (by simp; omega)⟩
        rw [List.mem_singleton] at hm
        subst hm
        exact ⟨[[]] ++ g, by show _ = D.tup (([[]] ++ g).map encI); rw [List.map_append]; rfl, few_app few_nil fg (by simp; omega)⟩
      obtain ⟨o, rfl, fo⟩ := he
      exact read_one _ fo (by omega) bs a0 (by omega) fun _ _ _ => ⟨_, _, _, _, rfl, rfl⟩
    · rintro Δ n' ⟨y5, y8, y9, y10, rfl, rfl⟩
      refine ⟨g, b, a, rfl, gg.ok, by omega, bs, a0, by omega, .str (houseT g), rfl, rfl, g, rfl, gg, shp_house gg.ok, shp_house gg.ok, ?_⟩
      refine ifF (by rw [eq_house gg.ok]; rfl) ?_
      exact ⟨_, _, _, _, _, _, _, _, _, rfl, by omega⟩
  · rintro Δ n ⟨v2, v3, v4, v5, v6, v7, v8, v9, v10, rfl, hn⟩
    rfl
end Lw

set_option Elab.async false
set_option linter.all false
set_option maxRecDepth 100000
set_option maxHeartbeats 4000000
namespace Lw
open PySem PySem.Spec PyProof.Rows L2 Dl
def topS (i : Nat) : Stmt := PySem.Challenge.pw_carryround_k73_houses_read_back.main.body.getD i (.Pass ⟨0, 0, 0, 0⟩)
abbrev sPen : Stmt := topS 21
abbrev sPick : Stmt := topS 22
theorem scPen : FnScope ["script"] ["script"] (defScope sPen) := ⟨rfl, rfl, rfl, by decide +kernel, rfl, by decide +kernel, by decide +kernel⟩
theorem scPick : FnScope ["pen", "upto", "digit", "turn", "cell", "great", "stirred"] ["pen", "upto"] (defScope sPick) := ⟨rfl, rfl, rfl, by decide +kernel, rfl, by decide +kernel, by decide +kernel⟩
section
variable {P : Program} {w : World} {K : PySem.W.Frag} {mg : Str → Option Value} {base : Heap}
theorem ok_pen {f : Addr} {fd : FuncData} {k : Nat} (F : L2.Fun K "_law_pen" "_law_pen" sPen f fd) (ml : mg "list" = none) : FnOk P w K mg base CX0 (k + 1) f fd ["script"] (spPen K) := by
  refine F.ok scPen (fun vs H Q E h => ?_) (fun cdv A outer s H vs Q E hr h => ?_)
  · obtain ⟨a, ns, rfl, _⟩ := h
    rfl
  · obtain ⟨a, ns, rfl, hS, hlen, q⟩ := h
    refine ⟨_, pss_one (ps_ret (pe_lst (pa_cons (pe_callTy call_list_of (by rfl) ml (by decide +kernel) (pa_cons (pe_slice sl_list (pv 0) po_none (po_some pe_int)) pa_nil)) (pa_cons pe_int (pa_cons pe_int pa_nil))))), ?_⟩
    refine ⟨_, rfl, _, rfl, a, _, rfl, hS, fun c hc => ⟨c, _, rfl, .inl (SqL.of upd_same), fun l hl => ⟨by show 3 ≤ sizeLine; decide, fun p hp => ?_⟩⟩⟩
    have s1 : Same H (upd H c (.lst (cutV (ns.map V.int) none (some 63)))) := same_new hc
    have s2 := same_new (o := .lst (cutV (ns.map V.int) none (some 63))) hl
    have s3 := same_new (o := .lst [.ref l, .int 0, .int 0]) hp
    have np : l ≠ p := fun e => by rw [← e, upd_same] at hp; cases hp
    refine q _ _ ((s1.trans s2).trans s3) ((s1.trans s2).free hp) ⟨l, 0, 0, ns.take 63, upd_same, ?_, np, by rw [List.length_take]; exact Nat.min_le_left _ _, Int.le_refl _, Int.le_refl _, Int.le_refl _⟩
    rw [upd_ne np, upd_same]
    have e : cutV (ns.map V.int) none (some 63) = (ns.take 63).map V.int := by
      unfold cutV
      rw [HT.sIx_none, List.drop_zero, Nat.sub_zero, List.map_take]
      rw [show HT.sIx (ns.map V.int).length (ns.map V.int).length (some 63) = min 63 (ns.map V.int).length from HT.sIx_nat _ _ 63]
      rw [List.take_eq_take_iff]
      rw [List.length_map]
      omega
    rw [e]

theorem pen_upd {Pn c : Addr} {t r t' r' : Int} {H : Hp} (h : H Pn = some (.lst [.ref c, .int t, .int r])) : SameP Pn H (upd H Pn (.lst [.ref c, .int t', .int r'])) :=
  ⟨fun a o e ne => by rw [upd_ne ne]; exact e, fun c' t1 r1 e => by rw [h] at e; cases e; exact ⟨t', r', upd_same⟩⟩
theorem dp_ints {K : PySem.W.Frag} {H : Hp} : ∀ ns : List Int, DpAll K H (ns.map V.int) (ns.map PyData.int)
  | [] => .nil
  | n :: ns => .cons (.int n) (dp_ints ns)
theorem lay_ints : ∀ ns : List Int, PyData.canLayAll0 (ns.map PyData.int) = true
  | [] => rfl
  | n :: ns => by rw [List.map_cons]; simp only [PyData.canLayAll0, PyData.canLay0, Bool.true_and]; exact lay_ints ns
theorem depth_ints : ∀ ns : List Int, PyData.depthAll (ns.map PyData.int) = 0
  | [] => by simp only [List.map_nil, PyData.depthAll]
  | n :: ns => by rw [List.map_cons]; simp only [PyData.depthAll, PyData.depth]; rw [depth_ints ns]; rfl
theorem shaped_ints (ns : List Int) : SeqAt.shaped (.list (ns.map PyData.int)) = true := by
  unfold SeqAt.shaped
  simp only [PyData.canLay0, PyData.depth, lay_ints, depth_ints]
  decide
theorem ok_pick {f : Addr} {fd : FuncData} {k : Nat} (F : L2.Fun K "_law_pick" "_law_pick" sPick f fd) (ml : mg "len" = none) (ma : mg "abs" = none) (mi : mg "int" = none) : FnG P w K mg base CX0 (k + 1) f fd ["pen", "upto"] (liftF spPick) := by
  refine fn_body F scPick (fun vs H Q E h => ?_) (fun cdv A outer s H vs Q E hr _ h => ?_)
  · obtain ⟨Pn, n, ds, Qd, p, r, ⟨u, rfl, _⟩, _⟩ := h
    rw [r.length]; rfl
  · obtain ⟨Pn, n, ds, Qd, pen, rr, ⟨u, rfl, hu0, hu1, hn, hz⟩, kk⟩ := h
    replace hn : n < 4000000 := hn
    obtain ⟨c, t, r, cells, hP, hc, ncP, hlen, t0, tn, r0⟩ := id pen
    obtain rfl : vs = [.ref Pn, .int u] := by
      cases rr with
      | cons a b =>
        cases a
        cases b with
        | cons a b =>
          cases a
          cases b
          rfl
    -- the end of a way: what is told, the pen behind it
    have fin : ∀ (z t' r' : Int) (H' : Hp), H' Pn = some (.lst [.ref c, .int t', .int r']) → (∀ a o, H a = some o → a ≠ Pn → H' a = some o) → 0 ≤ t' → t' ≤ t + 1 → 0 ≤ r' → 0 ≤ z → z < u → Q (.int z) H' := fun z t' r' H' e same h1 h2 h3 h4 h5 => by
      refine kk (.int z) _ (.int z) (n + 1) ⟨same, fun c' t1 r1 e1 => ?_⟩ ⟨c, t', r', cells, e, same _ _ hc ncP, ncP, hlen, h1, by omega, h3⟩ (.int z) (hz z h4 h5)
      rw [hP] at e1
      cases e1
      exact ⟨t', r', e⟩
    refine ⟨_, pss_cons (ps_if (pt_cmpR op_gt (pe_ix ix_list (pv 0) pe_int (fun _ _ => rfl)) pe_int (nomark _))
        (pss_cons (ps_set (i := 2) scPick.nd rfl (.inl rfl) (pe_op op_mod (pe_ix ix_list (pv 0) pe_int (fun _ _ => rfl)) (pv 1)))
          (pss_cons (ps_asg (pe_op op_fdiv (pe_ix ix_list (pv 0) pe_int (fun _ _ => rfl)) (pv 1)) (pg_sub (pv 0) pe_int set_list)) (pss_one (ps_ret (pv 2))))) pss_nil)
      (pss_cons (ps_set (i := 3) scPick.nd rfl (.inl rfl) (pe_ix ix_list (pv 0) pe_int (fun _ _ => rfl)))
      (pss_cons (ps_asg (pe_op op_add (pv 3) pe_int) (pg_sub (pv 0) pe_int set_list))
      (pss_cons (ps_set (i := 4) scPick.nd rfl (.inl rfl) (pe_op op_add (pe_op op_mul pe_int (pv 3)) pe_int))
      (pss_cons (ps_if (pt_cmpR (op_neD hr.units) (pe_ix ix_list (pv 0) pe_int (fun _ _ => rfl)) (pe_lst pa_nil) (nomark _))
        (pss_one (ps_set (i := 4) scPick.nd rfl (.inl rfl) (pe_ix ix_list (pe_ix ix_list (pv 0) pe_int (fun _ _ => rfl)) (pe_op op_mod (pv 3) (pe_callB call_len (by rfl) ml PySem.boot_len (pa_cons (pe_ix ix_list (pv 0) pe_int (fun _ _ => rfl)) pa_nil))) (fun _ _ => rfl)))) pss_nil)
      (pss_cons (ps_if (PW.pt (pw_and (pt_cmpR op_lt (pv 3) (pe_callB call_len (by rfl) ml PySem.boot_len (pa_cons (pe_ix ix_list (pv 0) pe_int (fun _ _ => rfl)) pa_nil)) (nomark _))
          (pw_and1 (pt_cmpR op_ge (pe_callB call_abs (by rfl) ma (by decide +kernel) (pa_cons (pv 4) pa_nil)) (pe_op op_pow pe_int pe_int) (nomark _)))))
        (pss_cons (ps_set (i := 5) scPick.nd rfl (.inl rfl) (pe_op op_add (pe_op op_mul pe_int (pe_callB call_abs (by rfl) ma (by decide +kernel) (pa_cons (pv 4) pa_nil))) (pe_callTy call_int1 (by rfl) mi (by decide +kernel) (pa_cons (pe_cmpR op_lt (pv 4) pe_int (nomark _)) pa_nil))))
          (pss_cons (ps_asg (pe_op op_fdiv (pv 5) (pv 1)) (pg_sub (pv 0) pe_int set_list)) (pss_one (ps_ret (pe_op op_mod (pv 5) (pv 1)))))) pss_nil)
      (pss_cons (ps_set (i := 6) scPick.nd rfl (.inl rfl) (pe_op op_mod (pe_op op_pow (pe_op op_add (pe_op op_add (pe_op op_mod (pv 4) pe_int) (pe_op op_mul pe_int (pv 3))) pe_int) pe_int) pe_int))
      (pss_cons (ps_set (i := 6) scPick.nd rfl (.inl rfl) (pe_op op_mod (pe_op op_pow (pe_op op_add (pe_op op_mul (pv 6) (pe_op op_add (pv 3) pe_int)) (pe_op op_mul (pe_op op_mul pe_int (pv 3)) (pv 3))) pe_int) pe_int))
      (pss_one (ps_ret (pe_op op_mod (pe_op op_fdiv (pv 6) pe_int) (pv 1))))))))))), ?_⟩
    refine ⟨.ref Pn, rfl, Pn, _, 2, .int r, rfl, rfl, SqL.of hP, rfl, r, 0, rfl, rfl, _, rfl, ite2 (fun hr0 => ?_) (fun hr0 => ?_)⟩
    · -- a digit of a great cell
      have hr1 : 0 < r := of_decide_eq_true hr0
      refine ⟨.ref Pn, rfl, Pn, _, 2, .int r, rfl, rfl, SqL.of hP, rfl, .int u, rfl, r, u, rfl, rfl, hu0, ?_⟩
      refine ⟨.ref Pn, rfl, Pn, _, 2, .int r, rfl, rfl, SqL.of hP, rfl, .int u, rfl, r, u, rfl, rfl, ⟨hu0, hu1⟩, ?_⟩
      refine ⟨.ref Pn, rfl, Pn, _, 2, 2, rfl, rfl, hP, rfl, .int (r % u), rfl, ?_⟩
      exact fin _ t (r / u) _ upd_same (fun a o e ne => by rw [upd_ne ne]; exact e) t0 (by omega) (Int.ediv_nonneg r0 (by omega)) (Int.emod_nonneg _ (by omega)) (Int.emod_lt_of_pos _ hu0)
    · -- a new cell
      refine ⟨.ref Pn, rfl, Pn, _, 1, .int t, rfl, rfl, SqL.of hP, rfl, ?_⟩
      refine ⟨.int t, rfl, t, 1, rfl, rfl, .ref Pn, rfl, Pn, _, 1, 1, rfl, rfl, hP, rfl, ?_⟩
      generalize hH1 : upd H Pn (HO.lst (List.set [V.ref c, V.int t, V.int r] 1 ((fun i j => V.int (i + j)) t 1))) = H1
      have hP1 : H1 Pn = some (.lst [.ref c, .int (t + 1), .int r]) := by rw [← hH1]; exact upd_same
      have hc1 : H1 c = some (.lst (cells.map V.int)) := by rw [← hH1, upd_ne ncP]; exact hc
      have same1 : ∀ a o, H a = some o → a ≠ Pn → H1 a = some o := fun a o e ne => by rw [← hH1, upd_ne ne]; exact e
      refine ⟨.int t, rfl, 1733, t, rfl, rfl, .inl ⟨by decide, by decide⟩, _, 211, rfl, rfl, ?_⟩
      refine ⟨.ref Pn, rfl, Pn, _, 0, .ref c, rfl, rfl, SqL.of hP1, rfl, Nat.zero_le _, fun b hb => ?_⟩
      have nbP : b ≠ Pn := fun z => by rw [z, hP1] at hb; cases hb
      generalize hH2 : upd H1 b (.lst []) = H2
      have hP2 : H2 Pn = some (.lst [.ref c, .int (t + 1), .int r]) := by rw [← hH2, upd_ne (Ne.symm nbP)]; exact hP1
      have hc2 : H2 c = some (.lst (cells.map V.int)) := by rw [← hH2, upd_ne (ne_of_none hc1 hb)]; exact hc1
      have hb2 : H2 b = some (.lst []) := by rw [← hH2]; exact upd_same
      have same2 : ∀ a o, H a = some o → a ≠ Pn → H2 a = some o := fun a o e ne => by
        have e1 := same1 a o e ne
        rw [← hH2, upd_ne (ne_of_none e1 hb)]; exact e1
      have dpc : Dp K H2 (.ref c) (.list (cells.map PyData.int)) := .lst (SqL.of hc2) (dp_ints cells)
      have dpb : Dp K H2 (.ref b) (.list []) := .lst (SqL.of hb2) .nil
      have tl : t < 4000000 := by omega
      have len1 : ((cells.map V.int).length : Int) = cells.length := by rw [List.length_map]
      -- what is stirred
      have stir : ∀ (cell y1 y2 y3 : Int), 0 ≤ y1 → y1 < 2147483549 → 0 ≤ y3 → y3 < 2147483647 → ((y1 + 52009 * t + 173).natAbs < 2 ^ 64) ∧ -(2 ^ 64) < y3 ∧ y3 < 2 ^ 64 ∧ -(2 ^ 64) < 91009 * t ∧ 91009 * t < 2 ^ 64 ∧ (y3 * (t + 40129) + 91009 * t * t).natAbs < 2 ^ 64 := fun cell y1 y2 y3 a1 a2 a3 a4 => by
        have m1 : y3 * (t + 40129) ≤ 2147483647 * (t + 40129) := Int.mul_le_mul_of_nonneg_right (by omega) (by omega)
        have m2 : 0 ≤ y3 * (t + 40129) := Int.mul_nonneg a3 (by omega)
        have m3 : 91009 * t * t ≤ 91009 * 4000000 * 4000000 := by
          have e1 : 91009 * t ≤ 91009 * 4000000 := by omega
          exact Int.le_trans (Int.mul_le_mul_of_nonneg_right e1 t0) (Int.mul_le_mul_of_nonneg_left (by omega) (by omega))
        have m4 : 0 ≤ 91009 * t * t := Int.mul_nonneg (by omega) t0
        refine ⟨by omega, by omega, by omega, by omega, by omega, by omega⟩
      by_cases hcl : cells = []
      · subst hcl
        refine ⟨_, _, dpc, dpb, shaped_ints [], by decide +kernel, false, rfl, ?_⟩
        refine iteF ?_
        have d1 : V.bl (decide (t < ((([] : List Int).map V.int).length : Int))) = V.bl false := by rw [decide_eq_false]; simp; omega
        refine ⟨.int t, rfl, .ref Pn, rfl, Pn, _, 0, .ref c, rfl, rfl, SqL.of hP2, rfl, .ref c, _, rfl, .inl ⟨_, SqL.of hc2, rfl⟩, t, _, rfl, rfl, false, d1, ?_⟩
        refine iteF (iteF ?_)
        obtain ⟨b1, b2, b3, b4, b5, b6⟩ := stir (1733 * t + 211) ((1733 * t + 211) % 2147483549) 0 (((1733 * t + 211) % 2147483549 + 52009 * t + 173) ^ 5 % 2147483647) (Int.emod_nonneg _ (by decide)) (Int.emod_lt_of_pos _ (by decide)) (Int.emod_nonneg _ (by decide)) (Int.emod_lt_of_pos _ (by decide))
        refine ⟨.int (1733 * t + 211), rfl, (1733 * t + 211), _, rfl, rfl, (by show (0 : Int) < 2147483549; decide), .int t, rfl, 52009, t, rfl, rfl, .inl ⟨by decide, by decide⟩, _, _, rfl, rfl, _, _, rfl, rfl, _, _, rfl, rfl, ⟨by decide, by decide, b1⟩, _, _, rfl, rfl, (by show (0 : Int) < 2147483647; decide), ?_⟩
        refine ⟨_, rfl, .int t, rfl, t, _, rfl, rfl, _, _, rfl, rfl, .inl ⟨b2, b3⟩, .int t, rfl, 91009, t, rfl, rfl, .inl ⟨by decide, by decide⟩, .int t, rfl, _, t, rfl, rfl, .inl ⟨b4, b5⟩, _, _, rfl, rfl, _, _, rfl, rfl, ⟨by decide, by decide, b6⟩, _, _, rfl, rfl, (by show (0 : Int) < 2147483563; decide), ?_⟩
        refine ⟨_, rfl, _, _, rfl, rfl, ⟨by decide, by decide⟩, .int u, rfl, _, u, rfl, rfl, hu0, ?_⟩
        exact fin _ (t + 1) r _ hP2 same2 (by omega) (by omega) r0 (Int.emod_nonneg _ (by omega)) (Int.emod_lt_of_pos _ hu0)
      · have hpos : 0 < cells.length := by cases cells with | nil => exact absurd rfl hcl | cons => simp
        have ev : V.bl (!PyData.eqv (.list (cells.map PyData.int)) (.list [])) = V.bl true := by
          cases cells with
          | nil => exact absurd rfl hcl
          | cons => rfl
        refine ⟨_, _, dpc, dpb, shaped_ints cells, by decide +kernel, true, ev, ?_⟩
        refine iteT ?_
        have hm0 : 0 ≤ t % (cells.length : Int) := Int.emod_nonneg _ (by omega)
        have hm1 : t % (cells.length : Int) < cells.length := Int.emod_lt_of_pos _ (by omega)
        obtain ⟨j, hj⟩ := Int.eq_ofNat_of_zero_le hm0
        have hjl : j < cells.length := by omega
        have at1 : atI (cells.map V.int) (t % ((cells.map V.int).length : Int)) = some (.int cells[j]) := by
          rw [len1]
          refine at_of hj ?_
          rw [List.getElem?_map, List.getElem?_eq_getElem hjl]; rfl
        refine ⟨.ref Pn, rfl, Pn, _, 0, .ref c, rfl, rfl, SqL.of hP2, rfl, .int t, rfl, .ref Pn, rfl, Pn, _, 0, .ref c, rfl, rfl, SqL.of hP2, rfl, .ref c, _, rfl, .inl ⟨_, SqL.of hc2, rfl⟩, t, _, rfl, rfl, (by rw [len1]; omega), c, _, _, .int cells[j], rfl, rfl, SqL.of hc2, at1, ?_⟩
        generalize cells[j] = cell
        refine ⟨.int t, rfl, .ref Pn, rfl, Pn, _, 0, .ref c, rfl, rfl, SqL.of hP2, rfl, .ref c, _, rfl, .inl ⟨_, SqL.of hc2, rfl⟩, t, _, rfl, rfl, _, rfl, ite2 (fun ht => ?_) (fun ht => ?_)⟩
        · refine ⟨.int cell, rfl, cell, rfl, 10, 18, rfl, rfl, ⟨by decide, by decide, by decide⟩, _, _, rfl, rfl, _, rfl, ite2 (fun hg => ?_) (fun hg => ?_)⟩
          · have ab : (0 : Int) ≤ if cell < 0 then -cell else cell := by split <;> omega
            refine ⟨.int cell, rfl, cell, rfl, 2, _, rfl, rfl, .inl ⟨by decide, by decide⟩, .int cell, rfl, cell, 0, rfl, rfl, .inr ⟨_, rfl, _, _, rfl, rfl, ?_⟩⟩
            have gb : (0 : Int) ≤ 2 * (if cell < 0 then -cell else cell) + (if decide (cell < 0) = true then 1 else 0) := by
              have : (0 : Int) ≤ (if decide (cell < 0) = true then 1 else 0) := by split <;> omega
              omega
            refine ⟨_, rfl, .int u, rfl, _, u, rfl, rfl, ⟨hu0, hu1⟩, .ref Pn, rfl, Pn, _, 2, 2, rfl, rfl, hP2, rfl, _, rfl, .int u, rfl, _, u, rfl, rfl, hu0, ?_⟩
            exact fin _ (t + 1) (_ / u) _ upd_same (fun a o e ne => by rw [upd_ne ne]; exact same2 a o e ne) (by omega) (by omega) (Int.ediv_nonneg gb (by omega)) (Int.emod_nonneg _ (by omega)) (Int.emod_lt_of_pos _ hu0)
          · obtain ⟨b1, b2, b3, b4, b5, b6⟩ := stir cell (cell % 2147483549) 0 ((cell % 2147483549 + 52009 * t + 173) ^ 5 % 2147483647) (Int.emod_nonneg _ (by decide)) (Int.emod_lt_of_pos _ (by decide)) (Int.emod_nonneg _ (by decide)) (Int.emod_lt_of_pos _ (by decide))
            refine ⟨.int cell, rfl, cell, _, rfl, rfl, (by show (0 : Int) < 2147483549; decide), .int t, rfl, 52009, t, rfl, rfl, .inl ⟨by decide, by decide⟩, _, _, rfl, rfl, _, _, rfl, rfl, _, _, rfl, rfl, ⟨by decide, by decide, b1⟩, _, _, rfl, rfl, (by show (0 : Int) < 2147483647; decide), ?_⟩
            refine ⟨_, rfl, .int t, rfl, t, _, rfl, rfl, _, _, rfl, rfl, .inl ⟨b2, b3⟩, .int t, rfl, 91009, t, rfl, rfl, .inl ⟨by decide, by decide⟩, .int t, rfl, _, t, rfl, rfl, .inl ⟨b4, b5⟩, _, _, rfl, rfl, _, _, rfl, rfl, ⟨by decide, by decide, b6⟩, _, _, rfl, rfl, (by show (0 : Int) < 2147483563; decide), ?_⟩
            refine ⟨_, rfl, _, _, rfl, rfl, ⟨by decide, by decide⟩, .int u, rfl, _, u, rfl, rfl, hu0, ?_⟩
            exact fin _ (t + 1) r _ hP2 same2 (by omega) (by omega) r0 (Int.emod_nonneg _ (by omega)) (Int.emod_lt_of_pos _ hu0)
        · refine iteF ?_
          obtain ⟨b1, b2, b3, b4, b5, b6⟩ := stir cell (cell % 2147483549) 0 ((cell % 2147483549 + 52009 * t + 173) ^ 5 % 2147483647) (Int.emod_nonneg _ (by decide)) (Int.emod_lt_of_pos _ (by decide)) (Int.emod_nonneg _ (by decide)) (Int.emod_lt_of_pos _ (by decide))
          refine ⟨.int cell, rfl, cell, _, rfl, rfl, (by show (0 : Int) < 2147483549; decide), .int t, rfl, 52009, t, rfl, rfl, .inl ⟨by decide, by decide⟩, _, _, rfl, rfl, _, _, rfl, rfl, _, _, rfl, rfl, ⟨by decide, by decide, b1⟩, _, _, rfl, rfl, (by show (0 : Int) < 2147483647; decide), ?_⟩
          refine ⟨_, rfl, .int t, rfl, t, _, rfl, rfl, _, _, rfl, rfl, .inl ⟨b2, b3⟩, .int t, rfl, 91009, t, rfl, rfl, .inl ⟨by decide, by decide⟩, .int t, rfl, _, t, rfl, rfl, .inl ⟨b4, b5⟩, _, _, rfl, rfl, _, _, rfl, rfl, ⟨by decide, by decide, b6⟩, _, _, rfl, rfl, (by show (0 : Int) < 2147483563; decide), ?_⟩
          refine ⟨_, rfl, _, _, rfl, rfl, ⟨by decide, by decide⟩, .int u, rfl, _, u, rfl, rfl, hu0, ?_⟩
          exact fin _ (t + 1) r _ hP2 same2 (by omega) (by omega) r0 (Int.emod_nonneg _ (by omega)) (Int.emod_lt_of_pos _ hu0)
end
end Lw

set_option Elab.async false
set_option linter.all false
set_option maxRecDepth 100000
set_option maxHeartbeats 4000000
namespace Lw
open PySem PySem.Spec PyProof.Rows L2 Dl
abbrev sPlan : Stmt := topS 23
theorem scPlan : FnScope ["pen", "rooms", "wires", "found", "k", "end", "row"] ["pen", "rooms", "wires"] (defScope sPlan) := ⟨rfl, rfl, rfl, by decide +kernel, rfl, by decide +kernel, by decide +kernel⟩
section
variable {P : Program} {w : World} {K : PySem.W.Frag} {mg : Str → Option Value} {base : Heap}
abbrev rTupOf (K : PySem.W.Frag) : List V → Hp → VK → Prop := fun xs H Q => ∃ p ys, xs = [.ref p] ∧ ((SqL K H p ys ∧ ∀ l, H l = none → Q (.ref l) (upd H l (.tup ys))) ∨ (SqT K H p ys ∧ Q (.ref p) H))
theorem ok_plan {f : Addr} {fd : FuncData} {k : Nat} {kw : List (List Str × List Nat)} (F : L2.Fun K "_law_plan" "_law_plan" sPlan f fd) (mr : mg "range" = none) (ml : mg "len" = none) (mt : mg "tuple" = none) (C : Cal P w K mg base "_law_pick" k ["pen", "upto"] kw (liftF spPick)) :
    FnG P w K mg base CX0 (k + 1) f fd ["pen", "rooms", "wires"] (liftF spPlan) := by
  refine fn_body F scPlan (fun vs H Q E h => ?_) (fun cdv A outer s H vs Q E hr hgd h => ?_)
  · obtain ⟨Pn, n, ds, Qd, p, r, ⟨rooms, wires, rfl, _⟩, _⟩ := h
    rw [r.length]; rfl
  · obtain ⟨Pn, n, ds, Qd, pen, rr, ⟨rooms, wires, rfl, hr1, hr2, hw2, hn, hz⟩, kk⟩ := h
    obtain rfl : vs = [.ref Pn, .int rooms, .int wires] := by
      match rr with
      | .cons .pen (.cons (.int _) (.cons (.int _) .nil)) => rfl
    have hcl : A.guards = some [] := hgd
    refine ⟨_, PSs.nox (pss_cons (ps_setLc (i := 3) (own := [("k", 4)]) (g := gName 4) (tt := tYes) rfl scPlan.nd rfl rfl (sw_true rfl rfl rfl (by decide +kernel)) (pi_range1 (by rfl) mr (pa_cons (pv 1) pa_nil))
        (blkOk_by (own := [("k", 4)]) (N := ["pen", "rooms", "wires", "found", "k", "end", "row"]) (sc := defScope sPlan) (by decide +kernel)) (fun _ _ _ _ _ => pg_name (i := 4) scPlan.nd rfl (Or.inl rfl)) (fun _ _ _ _ _ => pts_nil) (fun _ _ _ _ _ => pe_lst pa_nil))
      (pss_cons (ps_for PassesOwn.never rfl (pi_range1 (by rfl) mr (pa_cons (pe_op op_mul pe_int (pv 2)) pa_nil)) (pg_name (i := 5) scPlan.nd rfl (Or.inl rfl))
        (pss_cons (ps_set (i := 6) scPlan.nd rfl (Or.inl rfl) (pe_ix ix_list (pv 3) (pe_cal C hr hgd (pa_cons (pv 0) (pa_cons (pv 1) pa_nil))) (fun _ _ => rfl)))
          (pss_one (ps_expr (pe_bm PySem.F.plainAttrs_list PySem.F.slot_list_insert PySem.F.type_list_insert mt_insert (pv 6)
            (pa_cons (pe_cal C hr hgd (pa_cons (pv 0) (pa_cons (pe_op op_add (pe_callB call_len (by rfl) ml PySem.boot_len (pa_cons (pv 6) pa_nil)) pe_int) pa_nil))) (pa_cons (pv 5) pa_nil)))))))
      (pss_one (ps_ret (pe_callTy call_tuple_of (by rfl) mt (by decide +kernel) (pa_cons
        (pe_lc (te := tCB (rTupOf K) (tCons (tVar 6) tNil)) (own := [("row", 6)]) (g := gName 6) (tt := tYes) rfl scPlan.nd (pi_list (pv 3)) (blkOk_by (own := [("row", 6)]) (N := ["pen", "rooms", "wires", "found", "k", "end", "row"]) (sc := defScope sPlan) (by decide +kernel))
          (fun _ _ _ _ _ => pg_name (i := 6) scPlan.nd rfl (Or.inl rfl)) (fun _ _ _ _ _ => pts_nil) (fun _ _ _ _ _ => pe_callTy (T := "tuple") call_tuple_of (by rfl) mt (by decide +kernel) (pa_cons (pv 6) pa_nil))) pa_nil)))))), ?_⟩
    -- found = [[] for k in range(rooms)]
    refine ⟨.int rooms, rfl, rooms, rfl, by omega, by omega, fun p hp => ?_⟩
    have npP : p ≠ Pn := fun z => pen.some (z ▸ hp)
    refine lc_range (lo := 0) (n := ((rooms : Int)).toNat) (fun i H' => ∃ as : List Addr, H' p = some (.lst (as.map V.ref)) ∧ as.length = i ∧ RowsAt H' as (List.replicate i []) ∧ as.Nodup ∧ p ∉ as ∧ (∀ a ∈ as, H a = none) ∧ Same H H')
      ⟨[], upd_same, rfl, .nil, .nil, by simp, by simp, same_new hp⟩ ?_ ?_
    · rintro i H' hi ⟨as, h1, h2, h3, h4, h5, h6, h7⟩
      refine ⟨rfl, Nat.zero_le _, fun a ha => ?_⟩
      have nap : p ≠ a := ne_of_none h1 ha
      have naa : a ∉ as := fun z => by
        obtain ⟨j, hj⟩ := List.mem_iff_getElem?.mp z
        obtain ⟨r, _, hr⟩ := h3.get hj
        have hr' : H' a = some _ := hr
        rw [ha] at hr'; cases hr'
      refine ⟨_, by rw [upd_ne nap]; exact h1, by rw [List.length_map, h2]; exact Nat.lt_of_lt_of_le hi (by have : rooms ≤ 100 := hr2; show (rooms : Int).toNat ≤ 16777216; omega), as ++ [a], ?_, by simp [h2], ?_, ?_, ?_, ?_, ?_⟩
      · rw [upd_same, List.map_append]; rfl
      · have e : RowsAt (upd (upd H' a (.lst [])) p (.lst (as.map V.ref ++ [.ref a]))) as (List.replicate i []) := h3.imp fun b hb o ho => by
          rw [upd_ne (show b ≠ p from fun z => h5 (by rw [← z]; exact hb)), upd_ne (show b ≠ a from fun z => naa (by rw [← z]; exact hb))]; exact ho
        rw [List.replicate_succ']
        exact e.push (by show upd (upd H' a (.lst [])) p _ a = _; rw [upd_ne (Ne.symm nap), upd_same]; rfl)
      · rw [List.nodup_append]
        exact ⟨h4, by simp, fun x hx y hy => by simp at hy; subst hy; exact fun z => naa (z ▸ hx)⟩
      · simp only [List.mem_append, List.mem_singleton, not_or]; exact ⟨h5, nap⟩
      · intro b hb
        rcases List.mem_append.mp hb with hb | hb
        · exact h6 b hb
        · simp at hb; subst hb; exact h7.free ha
      · exact fun b o e => by rw [upd_ne (ne_of_none e hp)]; exact (h7.trans (same_new ha)) b o e
    · rintro H1 ⟨as, h1, h2, h3, h4, h5, h6, h7⟩
      have e1 : ((rooms : Int)).toNat = rooms := Int.toNat_natCast rooms
      rw [e1] at h2 h3
      -- for end in range(2 * wires)
      refine ⟨.int wires, rfl, 2, wires, rfl, rfl, .inl ⟨by decide, by decide⟩, 2 * wires, rfl, by omega, by omega, ?_⟩
      refine for_range (lo := 0) (n := (2 * (wires : Int)).toNat) (fun i σ H' => ∃ (v4 v5 v6 : Option V) (as : List Addr) (rs : List (List Int)), σ = [some (.ref Pn), some (.int rooms), some (.int wires), some (.ref p), v4, v5, v6] ∧
        H' p = some (.lst (as.map V.ref)) ∧ as.length = rooms ∧ RowsAt H' as rs ∧ as.Nodup ∧ p ∉ as ∧ (∀ a ∈ as, H a = none) ∧ SameP Pn H H' ∧ PenOk Pn (n + 2 * i) H' ∧ rs.length = rooms ∧ rs.flatten.Perm ((List.range i).map fun (k : Nat) => (k : Int)))
        ⟨none, none, none, as, List.replicate rooms [], rfl, h1, h2, h3, h4, h5, h6, .of h7, pen.same h7, List.length_replicate, by rw [List.flatten_replicate_nil]; exact List.Perm.refl _⟩ ?_ ?_
      · rintro i σ H' hi ⟨v4, v5, v6, as, rs, rfl, g1, g2, g3, g4, g5, g6, g7, g8, g9, g10⟩
        have hiw : i < 2 * wires := by omega
        refine ⟨.ref p, rfl, .ref Pn, rfl, .int rooms, rfl, pick_use (E := E0) g8 (by omega) (by omega) (by omega) fun z H2 z0 z1 s2 p2 => ?_⟩
        obtain ⟨j, hj⟩ := Int.eq_ofNat_of_zero_le z0
        have hjl : j < as.length := by omega
        have ea : as[j]? = some as[j] := List.getElem?_eq_getElem hjl
        generalize as[j] = a at ea
        obtain ⟨r, er, har⟩ := g3.get ea
        have har : H' a = some (.lst (r.map V.int)) := har
        have ham : a ∈ as := List.mem_of_getElem? ea
        have naP : a ≠ Pn := fun q => pen.some (by rw [← q]; exact g6 a ham)
        have hp2 : H2 p = some (.lst (as.map V.ref)) := s2 _ _ g1 npP
        have ha2 : H2 a = some (.lst (r.map V.int)) := s2 _ _ har naP
        refine ⟨p, _, z, .ref a, rfl, rfl, SqL.of hp2, at_of hj (by rw [List.getElem?_map, ea]; rfl), ?_⟩
        -- row.insert(.., end)
        have hrl : r.length ≤ 200 := by
          have q1 := (List.sublist_flatten_of_mem (List.mem_of_getElem? er)).length_le
          have q2 := g10.length_eq
          rw [List.length_map, List.length_range] at q2
          omega
        refine ⟨.ref a, rfl, .inl ⟨rfl, _, SqL.of ha2⟩, .ref Pn, rfl, .ref a, rfl, .ref a, _, rfl, .inl ⟨_, SqL.of ha2, rfl⟩, _, 1, rfl, rfl, pick_use (E := E0) p2 (by omega) (by rw [List.length_map]; omega) (by omega) fun z2 H3 y0 y1 s3 p3 => ?_⟩
        have hp3 : H3 p = some (.lst (as.map V.ref)) := s3 _ _ hp2 npP
        have ha3 : H3 a = some (.lst (r.map V.int)) := s3 _ _ ha2 naP
        refine ⟨_, rfl, a, _, z2, _, rfl, rfl, ha3, by rw [List.length_map]; exact Nat.lt_of_le_of_lt hrl (by decide), y0, by rw [List.length_map] at y1; omega, ?_⟩
        have em : (r.map V.int).take z2.toNat ++ [V.int (0 + (i : Int))] ++ (r.map V.int).drop z2.toNat = (r.take z2.toNat ++ [(i : Int)] ++ r.drop z2.toNat).map V.int := by
          rw [List.map_append, List.map_append, List.map_take, List.map_drop, Int.zero_add]; rfl
        rw [em]
        have nap : a ≠ p := fun q => g5 (by rw [← q]; exact ham)
        have s4 : SameP Pn H (upd H3 a (.lst ((r.take z2.toNat ++ [(i : Int)] ++ r.drop z2.toNat).map V.int))) := by
          have s := (g7.trans s2).trans s3
          exact ⟨fun b o e ne => by rw [upd_ne (ne_of_none e (g6 a ham))]; exact s b o e ne, fun c t r e => by rw [upd_ne (Ne.symm naP)]; exact s.cel c t r e⟩
        have g3' : RowsAt H3 as rs := g3.imp fun b hb o ho => by
          have nb : b ≠ Pn := fun q => pen.some (by rw [← q]; exact g6 b hb)
          exact s3 _ _ (s2 _ _ ho nb) nb
        refine ⟨_, _, _, as, rs.set j (r.take z2.toNat ++ [(i : Int)] ++ r.drop z2.toNat), rfl, by rw [upd_ne (Ne.symm nap)]; exact hp3, g2, g3'.upd g4 ea, g4, g5, g6, s4, ?_, by rw [List.length_set]; exact g9, ?_⟩
        · obtain ⟨c, t, r', cells, k1, k2, k3, k4, k5, k6, k7⟩ := p3
          obtain ⟨c', t1, r1, cells1, m1, m2, m3, _⟩ := pen
          obtain ⟨t2, r2, m4⟩ := ((g7.trans s2).trans s3).cel c' t1 r1 m1
          rw [k1] at m4
          cases m4
          refine ⟨c, t, r', cells, by rw [upd_ne (Ne.symm naP)]; exact k1, by rw [upd_ne (ne_of_none m2 (g6 a ham))]; exact k2, k3, k4, k5, by omega, k7⟩
        · refine (flat_set_perm rs j r z2.toNat i er).trans ?_
          rw [List.range_succ, List.map_append]
          exact (List.Perm.cons _ g10).trans (List.perm_append_singleton _ _).symm
      · rintro σ H' ⟨v4, v5, v6, as, rs, rfl, g1, g2, g3, g4, g5, g6, g7, g8, g9, g10⟩
        have e2 : (2 * (wires : Int)).toNat = 2 * wires := by omega
        rw [e2] at g8 g10
        -- return tuple([tuple(row) for row in found])
        refine ⟨.ref p, rfl, p, rfl, ⟨_, SqL.of g1⟩, fun b hb => ?_⟩
        have npb : p ≠ b := ne_of_none g1 hb
        have nbP : b ≠ Pn := fun q => g8.some (q ▸ hb)
        have nab : ∀ a ∈ as, a ≠ b := fun a ha => by
          obtain ⟨j, hj⟩ := List.mem_iff_getElem?.mp ha
          obtain ⟨r, _, hr⟩ := g3.get hj
          exact ne_of_none (show H' a = some _ from hr) hb
        refine lc_list (K := K) (a := p) (xs := as.map V.ref) (fun i H2 => ∃ ts : List V, H2 b = some (.lst ts) ∧ ts.length = i ∧ RpAll Pn (fun _ => False) H2 ts ((rs.take i).map encI) ∧ H2 p = some (.lst (as.map V.ref)) ∧ RowsAt H2 as rs ∧ SameP Pn H H2 ∧ PenOk Pn (n + 4 * wires) H2 ∧ Same H' H2 ∧ ∀ v ∈ ts, True)
          ⟨[], upd_same, rfl, .nil, by rw [upd_ne npb]; exact g1, g3.imp fun a ha o ho => by rw [upd_ne (nab a ha)]; exact ho, g7.trans (.new hb), (g8.same (same_new hb)).mono (by omega), same_new hb, fun _ _ => trivial⟩
          (fun i H2 _ ⟨_, _, _, _, h, _⟩ => SqL.of h) ?_ ?_
        · rintro i x H2 hx ⟨ts, f1, f2, f3, f4, f5, f6, f7, f8, _⟩
          rw [List.getElem?_map] at hx
          obtain ⟨a, ea, rfl⟩ : ∃ a, as[i]? = some a ∧ x = .ref a := by
            cases e : as[i]? with
            | none => rw [e] at hx; cases hx
            | some a => rw [e] at hx; cases hx; exact ⟨a, rfl, rfl⟩
          obtain ⟨r, er, har⟩ := f5.get ea
          have har : H2 a = some (.lst (r.map V.int)) := har
          refine ⟨rfl, .ref a, rfl, a, _, rfl, .inl ⟨SqL.of har, fun l hl => ?_⟩⟩
          have nlb : b ≠ l := ne_of_none f1 hl
          have nlP : l ≠ Pn := fun q => f7.some (q ▸ hl)
          have st : Stay Pn (fun _ => False) (fun _ => False) H2 (upd (upd H2 l (.tup (r.map V.int))) b (.lst (ts ++ [.ref l]))) := ⟨fun a vs e _ => by
            rw [upd_ne (ne_of e f1 (by intro q; cases q)), upd_ne (ne_of_none e hl)]; exact e, fun a o e _ z => z.elim⟩
          have hl2 : (upd (upd H2 l (.tup (r.map V.int))) b (.lst (ts ++ [.ref l]))) l = some (.tup (r.map V.int)) := by rw [upd_ne (Ne.symm nlb), upd_same]
          have b0 : H b = none := g7.none hb nbP
          have same3 : SameP Pn H (upd (upd H2 l (.tup (r.map V.int))) b (.lst (ts ++ [.ref l]))) := by
            have s := f6.trans (SameP.new (o := .tup (r.map V.int)) hl)
            exact ⟨fun a o e ne => by rw [upd_ne (ne_of_none e b0)]; exact s a o e ne, fun c t r e => by rw [upd_ne (Ne.symm nbP)]; exact s.cel c t r e⟩
          refine ⟨ts, by rw [upd_ne nlb]; exact f1, Nat.lt_of_le_of_lt (show ts.length ≤ 100 by have := (List.getElem?_eq_some_iff.mp ea).1; omega) (by decide), ts ++ [.ref l], upd_same, by simp [f2], ?_, ?_, ?_, same3, ?_, ?_, fun _ _ => trivial⟩
          · rw [List.take_add_one, er]
            show RpAll _ _ _ _ ((rs.take i ++ [r]).map encI)
            rw [List.map_append]
            exact (RpAll.stay st _ _ f3).append (.cons (.tup hl2 nlP (RpAll.of_ints r)) .nil)
          · rw [upd_ne npb, upd_ne (ne_of_none f4 hl)]; exact f4
          · refine f5.imp fun c hc o ho => ?_
            rw [upd_ne (nab c hc), upd_ne (ne_of_none ho hl)]; exact ho
          · obtain ⟨c, t, r', cells, k1, k2, k3, k4⟩ := f7
            obtain ⟨c', t1, r1, cells1, m1, m2, m3, _⟩ := g8
            have e1 := f8 _ _ m1
            rw [k1] at e1
            cases e1
            exact ⟨c, t, r', cells, by rw [upd_ne (Ne.symm nbP), upd_ne (Ne.symm nlP)]; exact k1, by rw [upd_ne (ne_of_none m2 hb), upd_ne (ne_of_none k2 hl)]; exact k2, k3, k4⟩
          · exact fun c o e => by rw [upd_ne (ne_of_none e hb), upd_ne (ne_of_none (f8 c o e) hl)]; exact f8 c o e
        · rintro H2 ⟨ts, f1, f2, f3, f4, f5, f6, f7, f8, _⟩
          refine ⟨b, ts, rfl, .inl ⟨SqL.of f1, fun l hl => ?_⟩⟩
          have nlP : l ≠ Pn := fun q => f7.some (q ▸ hl)
          rw [List.length_map, g2, ← g9, List.take_length] at f3
          refine kk _ _ (encH rs) (n + 4 * wires) (f6.trans (.new hl)) (f7.same (same_new hl)) (.tup upd_same nlP (rp_upd hl (fun _ _ _ z => z.elim) f3)) (hz rs ⟨g9, g10⟩)
end
end Lw

set_option Elab.async false
set_option linter.all false
set_option maxRecDepth 100000
set_option maxHeartbeats 4000000
namespace Lw
open PySem PySem.Spec PyProof.Rows L2 Dl
abbrev sOrder : Stmt := topS 29
theorem scOrder : FnScope ["pen", "many", "left", "k"] ["pen", "many"] (defScope sOrder) := ⟨rfl, rfl, rfl, by decide +kernel, rfl, by decide +kernel, by decide +kernel⟩
section
variable {P : Program} {w : World} {K : PySem.W.Frag} {mg : Str → Option Value} {base : Heap}
theorem erase_perm (xs : List Int) (k : Nat) (x : Int) (h : xs[k]? = some x) : xs.Perm (x :: xs.eraseIdx k) := by
  obtain ⟨hk, rfl⟩ := List.getElem?_eq_some_iff.mp h
  rw [List.eraseIdx_eq_take_drop_succ]
  have e : xs = xs.take k ++ xs[k] :: xs.drop (k + 1) := by rw [← List.drop_eq_getElem_cons, List.take_append_drop]
  conv => lhs; rw [e]
  exact List.perm_middle
theorem rgV0 (m : Nat) : rgV 0 (m : Int) = (rangeI m).map V.int := by
  rw [rgV_ints, Int.toNat_natCast]; rfl
theorem ok_order {f : Addr} {fd : FuncData} {k : Nat} {kw : List (List Str × List Nat)} (F : L2.Fun K "_law_order" "_law_order" sOrder f fd) (mr : mg "range" = none) (ml : mg "len" = none) (mt : mg "list" = none) (C : Cal P w K mg base "_law_pick" k ["pen", "upto"] kw (liftF spPick)) :
    FnG P w K mg base CX0 (k + 1) f fd ["pen", "many"] (liftF sp_l_order) := by
  refine fn_body F scOrder (fun vs H Q E h => ?_) (fun cdv A outer s H vs Q E hr hgd h => ?_)
  · obtain ⟨Pn, n, ds, Qd, p, r, ⟨m, rfl, _⟩, _⟩ := h
    rw [r.length]; rfl
  · obtain ⟨Pn, n, ds, Qd, pen, rr, ⟨m, rfl, hm, hn, hz⟩, kk⟩ := h
    replace hn : n + m ≤ 4000000 := hn
    obtain rfl : vs = [.ref Pn, .int m] := by
      match rr with
      | .cons .pen (.cons (.int _) .nil) => rfl
    refine ⟨_, PSs.nox (pss_cons (ps_set (i := 2) scOrder.nd rfl (by first | exact .inl rfl | exact .inr rfl) (pe_listRg rfl (by rfl) mt (prg_1 (by rfl) mr (pv 1))))
      (pss_one (ps_ret (pe_lc (te := tBM K "list" rPopAt (tVar 2) (tCons (fun σ H Q => (tCons (tVar 0) (tCons (tCB (fun xs H Q => ∃ x n, xs = [x] ∧ LenV K x H n ∧ Q (.int n) H) (tCons (tVar 2) tNil)) tNil)) σ H fun vs H1 => liftF spPick vs H1 Q E0) tNil)) (own := [("k", 3)]) (g := gName 3) (tt := tYes) rfl scOrder.nd (pi_range1 (by rfl) mr (pa_cons (pv 1) pa_nil))
        (blkOk_by (own := [("k", 3)]) (N := ["pen", "many", "left", "k"]) (sc := defScope sOrder) (by decide +kernel)) (fun _ _ _ _ _ => pg_name (i := 3) scOrder.nd rfl (Or.inl rfl)) (fun _ _ _ _ _ => pts_nil)
        (fun _ _ _ _ _ => pe_bm PySem.F.plainAttrs_list PySem.F.slot_list_pop PySem.F.type_list_pop mt_popAt (pv 2) (pa_cons (pe_cal C hr hgd (pa_cons (pv 0) (pa_cons (pe_callB call_len (by rfl) ml PySem.boot_len (pa_cons (pv 2) pa_nil)) pa_nil))) pa_nil)))))), ?_⟩
    refine ⟨.int m, rfl, m, rfl, RgOk.of_le (by decide) (by omega) (by decide) (by omega), fun l hl => ?_⟩
    rw [rgV0]
    have nlP : l ≠ Pn := fun z => pen.some (z ▸ hl)
    refine ⟨.int m, rfl, m, rfl, by omega, by omega, fun p hp => ?_⟩
    have npl : p ≠ l := fun z => by rw [z, upd_same] at hp; cases hp
    have hp0 : H p = none := by rw [upd_ne npl] at hp; exact hp
    have npP : p ≠ Pn := fun z => pen.some (z ▸ hp0)
    refine lc_range (lo := 0) (n := ((m : Int)).toNat) (fun i H' => ∃ lf acc : List Int, H' l = some (.lst (lf.map V.int)) ∧ H' p = some (.lst (acc.map V.int)) ∧ acc.length = i ∧ (acc ++ lf).Perm (rangeI m) ∧ SameP Pn H H' ∧ PenOk Pn (n + i) H')
      ⟨rangeI m, [], by rw [upd_ne (Ne.symm npl), upd_same], upd_same, rfl, List.Perm.refl _, (SameP.new hl).trans (SameP.new hp), (pen.same (same_new hl)).same (same_new hp)⟩ ?_ ?_
    · rintro i H' hi ⟨lf, acc, h1, h2, h3, h4, h5, h6⟩
      have e1 : ((m : Int)).toNat = m := Int.toNat_natCast m
      rw [e1] at hi
      have ll : acc.length + lf.length = m := by
        have := h4.length_eq
        rw [List.length_append, rangeI_length] at this
        exact this
      refine ⟨rfl, .ref l, rfl, .inl ⟨rfl, _, SqL.of h1⟩, .ref Pn, rfl, .ref l, rfl, .ref l, _, rfl, .inl ⟨_, SqL.of h1, rfl⟩, pick_use (E := E0) h6 (by rw [List.length_map]; omega) (by rw [List.length_map]; omega) (by show n + i < 4000000; omega) fun z H2 z0 z1 s2 p2 => ?_⟩
      rw [List.length_map] at z1
      have hl2 : H2 l = some (.lst (lf.map V.int)) := s2 _ _ h1 nlP
      have hp2 : H2 p = some (.lst (acc.map V.int)) := s2 _ _ h2 npP
      have zl : z.toNat < lf.length := by omega
      have gx : lf[z.toNat]? = some lf[z.toNat] := List.getElem?_eq_getElem zl
      generalize lf[z.toNat] = x at gx
      have si : seqIndex? z (lf.map V.int).length = some z.toNat := by
        unfold seqIndex?
        rw [List.length_map]
        simp only [if_neg (show ¬ z < 0 by omega)]
        rw [if_pos (by simp; omega)]
      refine ⟨l, lf.map V.int, z, z.toNat, .int x, rfl, rfl, hl2, by omega, by omega, si, by rw [List.getElem?_map, gx]; rfl, ?_⟩
      have em : (lf.map V.int).eraseIdx z.toNat = (lf.eraseIdx z.toNat).map V.int := by
        rw [List.eraseIdx_eq_take_drop_succ, List.eraseIdx_eq_take_drop_succ, List.map_append, List.map_take, List.map_drop]
      rw [em]
      refine ⟨acc.map V.int, by rw [upd_ne npl]; exact hp2, by rw [List.length_map]; exact Nat.lt_of_lt_of_le (show _ < 1000 by omega) (by decide), lf.eraseIdx z.toNat, acc ++ [x], by rw [upd_ne (Ne.symm npl), upd_same], by rw [upd_same, List.map_append]; rfl, by simp; omega, ?_, ?_, ?_⟩
      · rw [List.append_assoc]
        exact (List.Perm.append_left acc (erase_perm lf _ x gx).symm).trans h4
      · have s := h5.trans s2
        exact ⟨fun b o e ne => by rw [upd_ne (ne_of_none e hp0), upd_ne (ne_of_none e hl)]; exact s b o e ne, fun c t r e => by rw [upd_ne (Ne.symm npP), upd_ne (Ne.symm nlP)]; exact s.cel c t r e⟩
      · obtain ⟨c, t, r', cells, k1, k2, k3, k4, k5, k6, k7⟩ := p2
        obtain ⟨c', t1, r1, cells1, m1, m2, m3, _⟩ := pen
        obtain ⟨t2, r2, m4⟩ := (h5.trans s2).cel c' t1 r1 m1
        rw [k1] at m4
        cases m4
        exact ⟨c, t, r', cells, by rw [upd_ne (Ne.symm npP), upd_ne (Ne.symm nlP)]; exact k1, by rw [upd_ne (ne_of_none m2 hp0), upd_ne (ne_of_none m2 hl)]; exact k2, k3, k4, k5, by omega, k7⟩
    · rintro H1 ⟨lf, acc, h1, h2, h3, h4, h5, h6⟩
      have e1 : ((m : Int)).toNat = m := Int.toNat_natCast m
      rw [e1] at h3 h6
      have ll : acc.length + lf.length = m := by
        have := h4.length_eq
        rw [List.length_append, rangeI_length] at this
        exact this
      obtain rfl : lf = [] := List.eq_nil_of_length_eq_zero (by omega)
      rw [List.append_nil] at h4
      exact kk _ H1 _ _ h5 h6 (.lst h2 npP hp0 (RpAll.of_ints acc)) (hz acc h4)
end
end Lw

set_option Elab.async false
set_option linter.all false
set_option maxRecDepth 100000
set_option maxHeartbeats 4000000
namespace Lw
open PySem PySem.Spec PyProof.Rows L2 Dl
structure Txt (mg : Str → Option Value) : Prop where
  b_abs : mg "abs" = none
  b_all : mg "all" = none
  b_bool : mg "bool" = none
  b_enumerate : mg "enumerate" = none
  b_int : mg "int" = none
  b_isinstance : mg "isinstance" = none
  b_len : mg "len" = none
  b_list : mg "list" = none
  b_range : mg "range" = none
  b_repr : mg "repr" = none
  b_set : mg "set" = none
  b_sorted : mg "sorted" = none
  b_str : mg "str" = none
  b_tuple : mg "tuple" = none
  g_MOST_ROOMS : ∃ t, mg "MOST_ROOMS" = some (.int 10 t)
  g_MOST_WIRES : ∃ t, mg "MOST_WIRES" = some (.int 20 t)
  g_FIGURES : ∃ t, mg "FIGURES" = some (.str (Str.ofString "0123456789") t)
abbrev s_is_whole : Stmt := topS 6
def kw_is_whole : List (List Str × List Nat) := []
abbrev s_is_within : Stmt := topS 7
def kw_is_within : List (List Str × List Nat) := []
abbrev s_are_ends : Stmt := topS 8
def kw_are_ends : List (List Str × List Nat) := []
abbrev s_all_in : Stmt := topS 9
def kw_all_in : List (List Str × List Nat) := []
abbrev s_is_house : Stmt := topS 10
def kw_is_house : List (List Str × List Nat) := []
abbrev s_number_in : Stmt := topS 13
def kw_number_in : List (List Str × List Nat) := []
abbrev s_numbers_in : Stmt := topS 14
def kw_numbers_in : List (List Str × List Nat) := []
abbrev s_lines_of : Stmt := topS 15
def kw_lines_of : List (List Str × List Nat) := []
abbrev s_read_house : Stmt := topS 16
def kw_read_house : List (List Str × List Nat) := [(["text"], [0])]
abbrev s_line_of : Stmt := topS 18
def kw_line_of : List (List Str × List Nat) := []
abbrev s_show_house : Stmt := topS 19
def kw_show_house : List (List Str × List Nat) := []
abbrev s_l_pen : Stmt := topS 21
def kw_l_pen : List (List Str × List Nat) := []
abbrev s_l_pick : Stmt := topS 22
def kw_l_pick : List (List Str × List Nat) := []
abbrev s_l_plan : Stmt := topS 23
def kw_l_plan : List (List Str × List Nat) := []
abbrev s_l_loads : Stmt := topS 24
def kw_l_loads : List (List Str × List Nat) := []
abbrev s_l_laid : Stmt := topS 25
def kw_l_laid : List (List Str × List Nat) := []
abbrev s_l_great : Stmt := topS 26
def kw_l_great : List (List Str × List Nat) := []
abbrev s_l_line : Stmt := topS 27
def kw_l_line : List (List Str × List Nat) := []
abbrev s_l_written : Stmt := topS 28
def kw_l_written : List (List Str × List Nat) := []
abbrev s_l_order : Stmt := topS 29
def kw_l_order : List (List Str × List Nat) := []
abbrev s_l_disguised : Stmt := topS 30
def kw_l_disguised : List (List Str × List Nat) := []
abbrev s_l_renamed : Stmt := topS 31
def kw_l_renamed : List (List Str × List Nat) := []
abbrev s_l_house_of : Stmt := topS 32
def kw_l_house_of : List (List Str × List Nat) := []
abbrev s_law : Stmt := topS 33
def kw_law : List (List Str × List Nat) := []
section
variable {P : Program} {w : World} {K : PySem.W.Frag} {mg : Str → Option Value} {base : Heap}
theorem sc_is_whole : FnScope ["thing"] ["thing"] (defScope s_is_whole) := ⟨rfl, rfl, rfl, by decide +kernel, rfl, by decide +kernel, by decide +kernel⟩
theorem ok_is_whole {f : Addr} {fd : FuncData} (F : L2.Fun K "is_whole" "is_whole" s_is_whole f fd) (T : Txt mg) : FnG P w K mg base CX0 1 f fd ["thing"] (liftF sp_is_whole) :=
  Fun_dok (t := rd_is_whole) F sc_is_whole len_is_whole (fun cv A fs s H E hr hgd => (dss_one (ds_ret (d_and (d_callB call_isi sn_isi (by rfl) T.b_isinstance (by decide +kernel) (da_cons (dv 0) (da_cons (d_bltn (by rfl) T.b_int (by decide +kernel)) da_nil))) (d_one (d_not (d_callB call_isi sn_isi (by rfl) T.b_isinstance (by decide +kernel) (da_cons (dv 0) (da_cons (d_bltn (by rfl) T.b_bool (by decide +kernel)) da_nil))))))))) read_is_whole
theorem sc_is_within : FnScope ["thing", "least", "most"] ["thing", "least", "most"] (defScope s_is_within) := ⟨rfl, rfl, rfl, by decide +kernel, rfl, by decide +kernel, by decide +kernel⟩
theorem ok_is_within {f : Addr} {fd : FuncData} (F : L2.Fun K "is_within" "is_within" s_is_within f fd) (T : Txt mg) (C_is_whole : Cal P w K mg base "is_whole" 1 ["thing"] kw_is_whole (liftF sp_is_whole)) : FnG P w K mg base CX0 2 f fd ["thing", "least", "most"] (liftF sp_is_within) :=
  Fun_dok (t := rd_is_within) F sc_is_within len_is_within (fun cv A fs s H E hr hgd => (dss_one (ds_ret (d_and (d_cal C_is_whole (hr.mono (by decide)) hgd (da_cons (dv 0) da_nil)) (d_one (d_chain op_le sn_le op_le sn_le (dv 1) (dv 0) (dv 2))))))) read_is_within
theorem sc_are_ends : FnScope ["found", "end"] ["found"] (defScope s_are_ends) := ⟨rfl, rfl, rfl, by decide +kernel, rfl, by decide +kernel, by decide +kernel⟩
theorem ok_are_ends {f : Addr} {fd : FuncData} (F : L2.Fun K "are_ends" "are_ends" s_are_ends f fd) (T : Txt mg) (C_is_within : Cal P w K mg base "is_within" 2 ["thing", "least", "most"] kw_is_within (liftF sp_is_within)) : FnG P w K mg base CX0 3 f fd ["found"] (liftF sp_are_ends) :=
  Fun_dok (t := rd_are_ends) F sc_are_ends len_are_ends (fun cv A fs s H E hr hgd => (dss_cons (ds_if (PW.pt (dw_or (dt_not (dt_chain op_le sn_le op_le sn_le d_int (d_callB call_len sn_len (by rfl) T.b_len PySem.boot_len (da_cons (dv 0) da_nil)) (d_op op_mulU sn_mul d_int (d_globI (by rfl) T.g_MOST_WIRES.choose_spec ⟨_, rfl⟩)))) (dw_or1 (dt_cmp (op_eqU hr.units) sn_eq (d_op op_mod sn_mod (d_callB call_len sn_len (by rfl) T.b_len PySem.boot_len (da_cons (dv 0) da_nil)) d_int) d_int (nomark _))))) (dss_one (ds_ret d_bl)) dss_nil)
  (dss_cons (ds_if (dt_not (dt_val (d_callB (cr_all rfl) sn_all (by rfl) T.b_all (by decide +kernel) (da_cons (d_lc .bor rfl sc_are_ends.nd (di_seq (dv 0)) (blkOk_by (own := [("end", 1)]) (N := ["found", "end"]) (sc := defScope s_are_ends) (by decide +kernel)) (fun _ _ _ _ _ => pg_name (i := 1) sc_are_ends.nd rfl (Or.inl rfl)) (fun _ _ _ _ _ => dts_nil) (fun _ _ _ _ _ => (d_cal C_is_within (hr.mono (by decide)) hgd (da_cons (dv 1) (da_cons d_int (da_cons (d_op op_sub sn_sub (d_callB call_len sn_len (by rfl) T.b_len PySem.boot_len (da_cons (dv 0) da_nil)) d_int) da_nil)))))) da_nil)))) (dss_one (ds_ret d_bl)) dss_nil)
  (dss_one (ds_ret (d_cmp (op_eqU hr.units) sn_eq (d_lenSet (by rfl) T.b_len (by rfl) T.b_set (dv 0)) (d_callB call_len sn_len (by rfl) T.b_len PySem.boot_len (da_cons (dv 0) da_nil)) (nomark _))))))) read_are_ends
theorem sc_all_in : FnScope ["rooms", "found", "room"] ["rooms"] (defScope s_all_in) := ⟨rfl, rfl, rfl, by decide +kernel, rfl, by decide +kernel, by decide +kernel⟩
theorem ok_all_in {f : Addr} {fd : FuncData} (F : L2.Fun K "all_in" "all_in" s_all_in f fd) (T : Txt mg) : FnG P w K mg base CX0 1 f fd ["rooms"] (liftF sp_all_in) :=
  Fun_dok (t := rd_all_in) F sc_all_in len_all_in (fun cv A fs s H E hr hgd => (dss_cons (ds_own 1 sc_all_in.nd (d_lst da_nil))
  (dss_cons (ds_for PassesOwn.never rfl (di_seq (dv 0)) (dg_name 2 sc_all_in.nd) (dss_one (ds_extT (pe_bm PySem.F.plainAttrs_list PySem.F.slot_list_extend PySem.F.type_list_extend mt_extT (pv 1) (pa_cons (dv 2) pa_nil)))))
  (dss_one (ds_ret (dv 1)))))) read_all_in
theorem sc_is_house : FnScope ["thing", "room"] ["thing"] (defScope s_is_house) := ⟨rfl, rfl, rfl, by decide +kernel, rfl, by decide +kernel, by decide +kernel⟩
theorem ok_is_house {f : Addr} {fd : FuncData} (F : L2.Fun K "is_house" "is_house" s_is_house f fd) (T : Txt mg) (C_are_ends : Cal P w K mg base "are_ends" 3 ["found"] kw_are_ends (liftF sp_are_ends)) (C_all_in : Cal P w K mg base "all_in" 1 ["rooms"] kw_all_in (liftF sp_all_in)) : FnG P w K mg base CX0 4 f fd ["thing"] (liftF sp_is_house) :=
  Fun_dok (t := rd_is_house) F sc_is_house len_is_house (fun cv A fs s H E hr hgd => (dss_cons (ds_if (PW.pt (dw_or (dt_not (dt_val (d_callB call_isi sn_isi (by rfl) T.b_isinstance (by decide +kernel) (da_cons (dv 0) (da_cons (d_bltn (by rfl) T.b_tuple (by decide +kernel)) da_nil))))) (dw_or1 (dt_not (dt_chain op_le sn_le op_le sn_le d_int (d_callB call_len sn_len (by rfl) T.b_len PySem.boot_len (da_cons (dv 0) da_nil)) (d_globI (by rfl) T.g_MOST_ROOMS.choose_spec ⟨_, rfl⟩)))))) (dss_one (ds_ret d_bl)) dss_nil)
  (dss_one (ds_ret (d_and (d_callB (cr_all rfl) sn_all (by rfl) T.b_all (by decide +kernel) (da_cons (d_lc .bor rfl sc_is_house.nd (di_seq (dv 0)) (blkOk_by (own := [("room", 1)]) (N := ["thing", "room"]) (sc := defScope s_is_house) (by decide +kernel)) (fun _ _ _ _ _ => pg_name (i := 1) sc_is_house.nd rfl (Or.inl rfl)) (fun _ _ _ _ _ => dts_nil) (fun _ _ _ _ _ => (d_callB call_isi sn_isi (by rfl) T.b_isinstance (by decide +kernel) (da_cons (dv 1) (da_cons (d_bltn (by rfl) T.b_tuple (by decide +kernel)) da_nil))))) da_nil)) (d_one (d_cal C_are_ends (hr.mono (by decide)) hgd (da_cons (d_cal C_all_in (hr.mono (by decide)) hgd (da_cons (dv 0) da_nil)) da_nil)))))))) read_is_house
theorem sc_number_in : FnScope ["word", "sign"] ["word"] (defScope s_number_in) := ⟨rfl, rfl, rfl, by decide +kernel, rfl, by decide +kernel, by decide +kernel⟩
theorem ok_number_in {f : Addr} {fd : FuncData} (F : L2.Fun K "number_in" "number_in" s_number_in f fd) (T : Txt mg) : FnG P w K mg base CX0 1 f fd ["word"] (liftF sp_number_in) :=
  Fun_dok (t := rd_number_in) F sc_number_in len_number_in (fun cv A fs s H E hr hgd => (dss_cons (ds_if (PW.pt (dw_or (dt_not (dt_chain op_le sn_le op_le sn_le d_int (d_callB call_len sn_len (by rfl) T.b_len PySem.boot_len (da_cons (dv 0) da_nil)) d_int)) (dw_or1 (dt_not (dt_val (d_callB (cr_all rfl) sn_all (by rfl) T.b_all (by decide +kernel) (da_cons (d_lc .bor rfl sc_number_in.nd (di_str (dv 0)) (blkOk_by (own := [("sign", 1)]) (N := ["word", "sign"]) (sc := defScope s_number_in) (by decide +kernel)) (fun _ _ _ _ _ => pg_name (i := 1) sc_number_in.nd rfl (Or.inl rfl)) (fun _ _ _ _ _ => dts_nil) (fun _ _ _ _ _ => (d_cmp op_in_sign sn_inSign (dv 1) (d_globS (by rfl) T.g_FIGURES.choose_spec ⟨_, rfl⟩) (by rfl)))) da_nil))))))) (dss_one (ds_ret d_non)) dss_nil)
  (dss_one (ds_ret (d_if (dt_cmp (op_eqU hr.units) sn_eq (d_callTy call_str_int sn_strI (by rfl) T.b_str (by decide +kernel) (da_cons (d_callTy call_int_str sn_intS (by rfl) T.b_int (by decide +kernel) (da_cons (dv 0) da_nil)) da_nil)) (dv 0) (nomark _)) (d_callTy call_int_str sn_intS (by rfl) T.b_int (by decide +kernel) (da_cons (dv 0) da_nil)) d_non))))) read_number_in
theorem sc_numbers_in : FnScope ["line", "word", "found", "first", "words", "one"] ["line", "word"] (defScope s_numbers_in) := ⟨rfl, rfl, rfl, by decide +kernel, rfl, by decide +kernel, by decide +kernel⟩
theorem ok_numbers_in {f : Addr} {fd : FuncData} (F : L2.Fun K "numbers_in" "numbers_in" s_numbers_in f fd) (T : Txt mg) (C_number_in : Cal P w K mg base "number_in" 1 ["word"] kw_number_in (liftF sp_number_in)) : FnG P w K mg base CX0 2 f fd ["line", "word"] (liftF sp_numbers_in) :=
  Fun_dok (t := rd_numbers_in) F sc_numbers_in len_numbers_in (fun cv A fs s H E hr hgd => (dss_cons (ds_star1 3 4 rfl sc_numbers_in.nd (d_split (pe_split (dv 0) d_str)))
  (dss_cons (ds_lcO .bor (ps_lcW rfl sc_numbers_in.nd (j := 2) rfl rfl (sw_true rfl rfl rfl (by decide +kernel)) (di_seq (dv 4)) (blkOk_by (own := [("one", 5)]) (N := ["line", "word", "found", "first", "words", "one"]) (sc := defScope s_numbers_in) (by decide +kernel)) (fun _ _ _ _ _ => pg_name (i := 5) sc_numbers_in.nd rfl (Or.inl rfl)) (fun _ _ _ _ _ => dts_nil) (fun _ _ _ _ _ => (d_cal C_number_in (hr.mono (by decide)) hgd (da_cons (dv 5) da_nil)))))
  (dss_one (ds_ret (d_if (PW.pt (dw_or (dt_cmp (op_neU hr.units) sn_ne (dv 3) (dv 1) (nomark _)) (dw_or1 (dt_cmp op_in_seq sn_in d_non (dv 2) (by rfl))))) d_non (dv 2))))))) read_numbers_in
theorem sc_lines_of : FnScope ["text", "rest", "lines"] ["text"] (defScope s_lines_of) := ⟨rfl, rfl, rfl, by decide +kernel, rfl, by decide +kernel, by decide +kernel⟩
theorem ok_lines_of {f : Addr} {fd : FuncData} (F : L2.Fun K "lines_of" "lines_of" s_lines_of f fd) (T : Txt mg) : FnG P w K mg base CX0 1 f fd ["text"] (liftF sp_lines_of) :=
  Fun_dok (t := rd_lines_of) F sc_lines_of len_lines_of (fun cv A fs s H E hr hgd => (dss_cons (ds_if (dt_not (dt_val (d_callB call_isi sn_isi (by rfl) T.b_isinstance (by decide +kernel) (da_cons (dv 0) (da_cons (d_bltn (by rfl) T.b_str (by decide +kernel)) da_nil))))) (dss_one ds_never) dss_nil)
  (dss_cons (ds_star2 2 1 rfl sc_lines_of.nd (d_split (pe_split (dv 0) d_str)))
  (dss_one (ds_ret (d_tup (da_cons (dv 2) (da_cons (dv 1) da_nil)))))))) read_lines_of
theorem sc_read_house : FnScope ["text", "met", "rooms", "lines", "rest", "at", "line", "ends", "end"] ["text"] (defScope s_read_house) := ⟨rfl, rfl, rfl, by decide +kernel, rfl, by decide +kernel, by decide +kernel⟩
theorem ok_read_house {f : Addr} {fd : FuncData} (F : L2.Fun K "read_house" "read_house" s_read_house f fd) (T : Txt mg) (C_is_house : Cal P w K mg base "is_house" 4 ["thing"] kw_is_house (liftF sp_is_house)) (C_numbers_in : Cal P w K mg base "numbers_in" 2 ["line", "word"] kw_numbers_in (liftF sp_numbers_in)) (C_lines_of : Cal P w K mg base "lines_of" 1 ["text"] kw_lines_of (liftF sp_lines_of)) : FnG P w K mg base CX0 5 f fd ["text"] (liftF sp_read_house) :=
  Fun_dok (t := rd_read_house) F sc_read_house len_read_house (fun cv A fs s H E hr hgd => (dss_cons (ds_asg (d_cal C_lines_of (hr.mono (by decide)) hgd (da_cons (dv 0) da_nil)) (dg_tup rfl (dgs_cons (dg_name 3 sc_read_house.nd) (dgs_cons (dg_name 4 sc_read_house.nd) dgs_nil))))
  (dss_cons (ds_own 1 sc_read_house.nd (d_lst da_nil))
  (dss_cons (ds_own 2 sc_read_house.nd (d_lst da_nil))
  (dss_cons (ds_for PassesOwn.never rfl (di_enum (by rfl) T.b_enumerate (dv 3)) (dg_tup rfl (dgs_cons (dg_name 5 sc_read_house.nd) (dgs_cons (dg_name 6 sc_read_house.nd) dgs_nil))) (dss_cons (ds_set 7 sc_read_house.nd (d_cal C_numbers_in (hr.mono (by decide)) hgd (da_cons (dv 6) (da_cons d_str da_nil))))
  (dss_cons (ds_if (PW.pt (dw_or (dt_cmp op_isN sn_isN (dv 7) d_non (nomark _)) (dw_or1 (dt_cmp op_ge sn_ge (dv 5) (d_globI (by rfl) T.g_MOST_ROOMS.choose_spec ⟨_, rfl⟩) (nomark _))))) (dss_one ds_never) dss_nil)
  (dss_cons (ds_for PassesOwn.never rfl (di_seq (dv 7)) (dg_name 8 sc_read_house.nd) (dss_cons (ds_if (PW.pt (dw_or (dt_cmp op_ge sn_ge (dv 8) (d_op op_mulU sn_mul d_int (d_globI (by rfl) T.g_MOST_WIRES.choose_spec ⟨_, rfl⟩)) (nomark _)) (dw_or1 (dt_cmp op_in_seq sn_in (dv 8) (dv 1) (by rfl))))) (dss_one ds_never) dss_nil)
  (dss_one (ds_app (pe_bm PySem.F.plainAttrs_list PySem.F.slot_list_append PySem.F.type_list_append mt_append (pv 1) (pa_cons (dv 8) pa_nil))))))
  (dss_one (ds_app (pe_bm PySem.F.plainAttrs_list PySem.F.slot_list_append PySem.F.type_list_append mt_append (pv 2) (pa_cons (d_callTy call_tuple_of sn_tup (by rfl) T.b_tuple (by decide +kernel) (da_cons (dv 7) da_nil)) pa_nil))))))))
  (dss_cons (ds_if (PW.pt (dw_or (dt_cmp (op_neU hr.units) sn_ne (dv 4) d_str (nomark _)) (dw_or1 (dt_not (dt_val (d_cal C_is_house (hr.mono (by decide)) hgd (da_cons (d_callTy call_tuple_of sn_tup (by rfl) T.b_tuple (by decide +kernel) (da_cons (dv 2) da_nil)) da_nil))))))) (dss_one ds_never) dss_nil)
  (dss_one (ds_ret (d_callTy call_tuple_of sn_tup (by rfl) T.b_tuple (by decide +kernel) (da_cons (dv 2) da_nil)))))))))) read_read_house
theorem sc_line_of : FnScope ["word", "numbers", "number"] ["word", "numbers"] (defScope s_line_of) := ⟨rfl, rfl, rfl, by decide +kernel, rfl, by decide +kernel, by decide +kernel⟩
theorem ok_line_of {f : Addr} {fd : FuncData} (F : L2.Fun K "line_of" "line_of" s_line_of f fd) (T : Txt mg) : FnG P w K mg base CX0 1 f fd ["word", "numbers"] (liftF sp_line_of) :=
  Fun_dok (t := rd_line_of) F sc_line_of len_line_of (fun cv A fs s H E hr hgd => (dss_one (ds_ret (d_op op_addU sn_add (d_join (pe_join d_str (d_op op_addU sn_add (d_lst (da_cons (dv 0) da_nil)) (d_lc .bor rfl sc_line_of.nd (di_seq (dv 1)) (blkOk_by (own := [("number", 2)]) (N := ["word", "numbers", "number"]) (sc := defScope s_line_of) (by decide +kernel)) (fun _ _ _ _ _ => pg_name (i := 2) sc_line_of.nd rfl (Or.inl rfl)) (fun _ _ _ _ _ => dts_nil) (fun _ _ _ _ _ => (d_callTy call_str_int sn_strI (by rfl) T.b_str (by decide +kernel) (da_cons (dv 2) da_nil))))))) d_str)))) read_line_of
theorem sc_show_house : FnScope ["house", "room"] ["house"] (defScope s_show_house) := ⟨rfl, rfl, rfl, by decide +kernel, rfl, by decide +kernel, by decide +kernel⟩
theorem ok_show_house {f : Addr} {fd : FuncData} (F : L2.Fun K "show_house" "show_house" s_show_house f fd) (T : Txt mg) (C_line_of : Cal P w K mg base "line_of" 1 ["word", "numbers"] kw_line_of (liftF sp_line_of)) : FnG P w K mg base CX0 2 f fd ["house"] (liftF sp_show_house) :=
  Fun_dok (t := rd_show_house) F sc_show_house len_show_house (fun cv A fs s H E hr hgd => (dss_one (ds_ret (d_join (pe_join d_str (d_lc .bor rfl sc_show_house.nd (di_seq (dv 0)) (blkOk_by (own := [("room", 1)]) (N := ["house", "room"]) (sc := defScope s_show_house) (by decide +kernel)) (fun _ _ _ _ _ => pg_name (i := 1) sc_show_house.nd rfl (Or.inl rfl)) (fun _ _ _ _ _ => dts_nil) (fun _ _ _ _ _ => (d_cal C_line_of (hr.mono (by decide)) hgd (da_cons d_str (da_cons (dv 1) da_nil)))))))))) read_show_house
theorem sc_l_loads : FnScope ["pen", "wires", "upto", "found", "ways", "rest", "k", "many"] ["pen", "wires", "upto"] (defScope s_l_loads) := ⟨rfl, rfl, rfl, by decide +kernel, rfl, by decide +kernel, by decide +kernel⟩
theorem ok_l_loads {f : Addr} {fd : FuncData} (F : L2.Fun K "_law_loads" "_law_loads" s_l_loads f fd) (T : Txt mg) (C_l_pick : Cal P w K mg base "_law_pick" 1 ["pen", "upto"] kw_l_pick (liftF spPick)) : FnG P w K mg base CX0 2 f fd ["pen", "wires", "upto"] (liftF sp_l_loads) :=
  Fun_dok (t := rd_l_loads) F sc_l_loads len_l_loads (fun cv A fs s H E hr hgd => (dss_cons (ds_own 3 sc_l_loads.nd (d_lst da_nil))
  (dss_cons (ds_set 4 sc_l_loads.nd d_int)
  (dss_cons (ds_set 5 sc_l_loads.nd d_int)
  (dss_cons (ds_for PassesOwn.never rfl (di_rng1 (by rfl) T.b_range (dv 1)) (dg_name 6 sc_l_loads.nd) (dss_one (ds_set 5 sc_l_loads.nd (d_op op_mulU sn_mul (dv 5) d_int))))
  (dss_cons (ds_for PassesOwn.never rfl (di_rng1 (by rfl) T.b_range (dv 1)) (dg_name 6 sc_l_loads.nd) (dss_cons (ds_set 5 sc_l_loads.nd (d_op op_fdiv sn_div (dv 5) d_int))
  (dss_cons (ds_set 7 sc_l_loads.nd (d_op op_addU sn_add d_int (d_cal C_l_pick (hr.mono (by decide)) hgd (da_cons (dv 0) (da_cons (d_ix (d_lst (da_cons d_int (da_cons d_int (da_cons d_int (da_cons d_int da_nil))))) (d_cal C_l_pick (hr.mono (by decide)) hgd (da_cons (dv 0) (da_cons d_int da_nil))) (fun _ _ => rfl)) da_nil)))))
  (dss_cons (ds_while PassesOwn.never (PW.pt (dw_and (dt_cmp op_gt sn_gt (dv 7) d_int (nomark _)) (dw_and1 (dt_cmp op_gt sn_gt (d_op op_mulU sn_mul (d_op op_mulU sn_mul (dv 4) (d_op op_addU sn_add (dv 7) d_int)) (dv 5)) (dv 2) (nomark _))))) (dss_one (ds_set 7 sc_l_loads.nd (d_op op_sub sn_sub (dv 7) d_int))))
  (dss_cons (ds_app (pe_bm PySem.F.plainAttrs_list PySem.F.slot_list_append PySem.F.type_list_append mt_append (pv 3) (pa_cons (dv 7) pa_nil)))
  (dss_one (ds_set 4 sc_l_loads.nd (d_op op_mulU sn_mul (dv 4) (d_op op_addU sn_add (dv 7) d_int)))))))))
  (dss_one (ds_ret (d_callTy call_tuple_of sn_tup (by rfl) T.b_tuple (by decide +kernel) (da_cons (dv 3) da_nil)))))))))) read_l_loads
theorem sc_l_laid : FnScope ["pen", "loads", "row", "many", "laden", "here", "end"] ["pen", "loads"] (defScope s_l_laid) := ⟨rfl, rfl, rfl, by decide +kernel, rfl, by decide +kernel, by decide +kernel⟩
theorem ok_l_laid {f : Addr} {fd : FuncData} (F : L2.Fun K "_law_laid" "_law_laid" s_l_laid f fd) (T : Txt mg) (C_l_pick : Cal P w K mg base "_law_pick" 1 ["pen", "upto"] kw_l_pick (liftF spPick)) : FnG P w K mg base CX0 2 f fd ["pen", "loads"] (liftF sp_l_laid) :=
  Fun_dok (t := rd_l_laid) F sc_l_laid len_l_laid (fun cv A fs s H E hr hgd => (dss_cons (ds_own 2 sc_l_laid.nd (d_lst da_nil))
  (dss_cons (ds_for PassesOwn.never rfl (di_seq (dv 1)) (dg_name 3 sc_l_laid.nd) (dss_cons (ds_set 5 sc_l_laid.nd (d_ix (d_lst (da_cons d_int (da_cons (dv 3) (da_cons (d_cal C_l_pick (hr.mono (by decide)) hgd (da_cons (dv 0) (da_cons (d_op op_addU sn_add (dv 3) d_int) da_nil))) da_nil)))) (d_cal C_l_pick (hr.mono (by decide)) hgd (da_cons (dv 0) (da_cons d_int da_nil))) (fun _ _ => rfl)))
  (dss_one (ds_ext (pe_bm PySem.F.plainAttrs_list PySem.F.slot_list_extend PySem.F.type_list_extend mt_extend (pv 2) (pa_cons (d_lst (da_cons (dv 5) (da_cons (d_op op_sub sn_sub (dv 3) (dv 5)) da_nil))) pa_nil))))))
  (dss_cons (ds_lcF .bor (ps_lcW rfl sc_l_laid.nd (j := 4) rfl rfl (sw_true rfl rfl rfl (by decide +kernel)) (di_rng1 (by rfl) T.b_range (d_callB call_len sn_len (by rfl) T.b_len PySem.boot_len (da_cons (dv 2) da_nil))) (blkOk_by (own := [("end", 6)]) (N := ["pen", "loads", "row", "many", "laden", "here", "end"]) (sc := defScope s_l_laid) (by decide +kernel)) (fun _ _ _ _ _ => pg_name (i := 6) sc_l_laid.nd rfl (Or.inl rfl)) (fun _ _ _ _ _ => dts_one (dt_cmp op_gt sn_gt (d_ix (dv 2) (dv 6) (fun _ _ => rfl)) d_int (nomark _))) (fun _ _ _ _ _ => (dv 6))))
  (dss_one (ds_ret (d_tup (da_cons (d_callTy call_tuple_of sn_tup (by rfl) T.b_tuple (by decide +kernel) (da_cons (dv 2) da_nil)) (da_cons (d_ix (dv 4) (d_cal C_l_pick (hr.mono (by decide)) hgd (da_cons (dv 0) (da_cons (d_callB call_len sn_len (by rfl) T.b_len PySem.boot_len (da_cons (dv 4) da_nil)) da_nil))) (fun _ _ => rfl)) da_nil))))))))) read_l_laid
theorem sc_l_great : FnScope ["pen", "wires", "house"] ["pen"] (defScope s_l_great) := ⟨rfl, rfl, rfl, by decide +kernel, rfl, by decide +kernel, by decide +kernel⟩
theorem ok_l_great {f : Addr} {fd : FuncData} (F : L2.Fun K "_law_great" "_law_great" s_l_great f fd) (T : Txt mg) (C_l_laid : Cal P w K mg base "_law_laid" 2 ["pen", "loads"] kw_l_laid (liftF sp_l_laid)) (C_l_loads : Cal P w K mg base "_law_loads" 2 ["pen", "wires", "upto"] kw_l_loads (liftF sp_l_loads)) (C_l_plan : Cal P w K mg base "_law_plan" 2 ["pen", "rooms", "wires"] kw_l_plan (liftF spPlan)) (C_l_pick : Cal P w K mg base "_law_pick" 1 ["pen", "upto"] kw_l_pick (liftF spPick)) : FnG P w K mg base CX0 3 f fd ["pen"] (liftF sp_l_great) :=
  Fun_dok (t := rd_l_great) F sc_l_great len_l_great (fun cv A fs s H E hr hgd => (dss_cons (ds_set 1 sc_l_great.nd (d_op op_addU sn_add d_int (d_cal C_l_pick (hr.mono (by decide)) hgd (da_cons (dv 0) (da_cons (d_ix (d_lst (da_cons d_int (da_cons d_int da_nil))) (d_cal C_l_pick (hr.mono (by decide)) hgd (da_cons (dv 0) (da_cons d_int da_nil))) (fun _ _ => rfl)) da_nil)))))
  (dss_cons (ds_set 2 sc_l_great.nd (d_cal C_l_plan (hr.mono (by decide)) hgd (da_cons (dv 0) (da_cons (d_op op_addU sn_add d_int (d_cal C_l_pick (hr.mono (by decide)) hgd (da_cons (dv 0) (da_cons d_int da_nil)))) (da_cons (dv 1) da_nil)))))
  (dss_one (ds_ret (d_tup (da_cons (dv 2) (da_cons (d_cal C_l_laid (hr.mono (by decide)) hgd (da_cons (dv 0) (da_cons (d_cal C_l_loads (hr.mono (by decide)) hgd (da_cons (dv 0) (da_cons (dv 1) (da_cons (d_op op_pow sn_pow d_int d_int) da_nil)))) da_nil))) da_nil)))))))) read_l_great
theorem sc_l_line : FnScope ["word", "numbers", "found", "number"] ["word", "numbers"] (defScope s_l_line) := ⟨rfl, rfl, rfl, by decide +kernel, rfl, by decide +kernel, by decide +kernel⟩
theorem ok_l_line {f : Addr} {fd : FuncData} (F : L2.Fun K "_law_line" "_law_line" s_l_line f fd) (T : Txt mg) : FnG P w K mg base CX0 1 f fd ["word", "numbers"] (liftF sp_l_line) :=
  Fun_dok (t := rd_l_line) F sc_l_line len_l_line (fun cv A fs s H E hr hgd => (dss_cons (ds_set 2 sc_l_line.nd (dv 0))
  (dss_cons (ds_for PassesOwn.never rfl (di_seq (dv 1)) (dg_name 3 sc_l_line.nd) (dss_one (ds_set 2 sc_l_line.nd (d_op op_addU sn_add (d_op op_addU sn_add (dv 2) d_str) (d_callTy call_str_int sn_strI (by rfl) T.b_str (by decide +kernel) (da_cons (dv 3) da_nil))))))
  (dss_one (ds_ret (d_op op_addU sn_add (dv 2) d_str)))))) read_l_line
theorem sc_l_written : FnScope ["house", "standing", "paper", "row"] ["house", "standing"] (defScope s_l_written) := ⟨rfl, rfl, rfl, by decide +kernel, rfl, by decide +kernel, by decide +kernel⟩
theorem ok_l_written {f : Addr} {fd : FuncData} (F : L2.Fun K "_law_written" "_law_written" s_l_written f fd) (T : Txt mg) (C_l_line : Cal P w K mg base "_law_line" 1 ["word", "numbers"] kw_l_line (liftF sp_l_line)) : FnG P w K mg base CX0 2 f fd ["house", "standing"] (liftF sp_l_written) :=
  Fun_dok (t := rd_l_written) F sc_l_written len_l_written (fun cv A fs s H E hr hgd => (dss_cons (ds_set 2 sc_l_written.nd d_str)
  (dss_cons (ds_for PassesOwn.never rfl (di_seq (dv 0)) (dg_name 3 sc_l_written.nd) (dss_one (ds_set 2 sc_l_written.nd (d_op op_addU sn_add (dv 2) (d_cal C_l_line (hr.mono (by decide)) hgd (da_cons d_str (da_cons (dv 3) da_nil)))))))
  (dss_one (ds_ret (d_tup (da_cons (dv 2) (da_cons (d_op op_addU sn_add (d_cal C_l_line (hr.mono (by decide)) hgd (da_cons d_str (da_cons (d_ix (dv 1) d_int (fun _ _ => rfl)) da_nil))) (d_cal C_l_line (hr.mono (by decide)) hgd (da_cons d_str (da_cons (d_sl (dv 1) (do_some d_int) do_none) da_nil)))) da_nil)))))))) read_l_written
theorem sc_l_disguised : FnScope ["pen", "painted", "order", "flips", "named", "rooms", "found", "room", "house", "standing", "paints", "row", "cut", "wire", "end"] ["pen", "painted"] (defScope s_l_disguised) := ⟨rfl, rfl, rfl, by decide +kernel, rfl, by decide +kernel, by decide +kernel⟩
theorem ok_l_disguised {f : Addr} {fd : FuncData} (F : L2.Fun K "_law_disguised" "_law_disguised" s_l_disguised f fd) (T : Txt mg) (C_l_renamed : Cal P w K mg base "_law_renamed" 1 ["named", "standing"] kw_l_renamed (liftF sp_l_renamed)) (C_l_pick : Cal P w K mg base "_law_pick" 1 ["pen", "upto"] kw_l_pick (liftF spPick)) (C_l_order : Cal P w K mg base "_law_order" 2 ["pen", "many"] kw_l_order (liftF sp_l_order)) : FnG P w K mg base CX0 3 f fd ["pen", "painted"] (liftF sp_l_disguised) :=
  Fun_dok (t := rd_l_disguised) F sc_l_disguised len_l_disguised (fun cv A fs s H E hr hgd => (dss_cons (ds_asg (dv 1) (dg_tup rfl (dgs_cons (dg_name 8 sc_l_disguised.nd) (dgs_cons (dg_name 9 sc_l_disguised.nd) (dgs_cons (dg_name 10 sc_l_disguised.nd) dgs_nil)))))
  (dss_cons (ds_set 2 sc_l_disguised.nd (d_cal C_l_order (hr.mono (by decide)) hgd (da_cons (dv 0) (da_cons (d_op op_fdiv sn_div (d_callB call_len sn_len (by rfl) T.b_len PySem.boot_len (da_cons (d_ix (dv 9) d_int (fun _ _ => rfl)) da_nil)) d_int) da_nil))))
  (dss_cons (ds_set 3 sc_l_disguised.nd (d_lc .bor rfl sc_l_disguised.nd (di_seq (dv 2)) (blkOk_by (own := [("wire", 13)]) (N := ["pen", "painted", "order", "flips", "named", "rooms", "found", "room", "house", "standing", "paints", "row", "cut", "wire", "end"]) (sc := defScope s_l_disguised) (by decide +kernel)) (fun _ _ _ _ _ => pg_name (i := 13) sc_l_disguised.nd rfl (Or.inl rfl)) (fun _ _ _ _ _ => dts_nil) (fun _ _ _ _ _ => (d_cal C_l_pick (hr.mono (by decide)) hgd (da_cons (dv 0) (da_cons d_int da_nil))))))
  (dss_cons (ds_own 4 sc_l_disguised.nd (d_lc .bor rfl sc_l_disguised.nd (di_rng1 (by rfl) T.b_range (d_op op_mulU sn_mul d_int (d_callB call_len sn_len (by rfl) T.b_len PySem.boot_len (da_cons (dv 2) da_nil)))) (blkOk_by (own := [("end", 14)]) (N := ["pen", "painted", "order", "flips", "named", "rooms", "found", "room", "house", "standing", "paints", "row", "cut", "wire", "end"]) (sc := defScope s_l_disguised) (by decide +kernel)) (fun _ _ _ _ _ => pg_name (i := 14) sc_l_disguised.nd rfl (Or.inl rfl)) (fun _ _ _ _ _ => dts_nil) (fun _ _ _ _ _ => (d_op op_addU sn_add (d_op op_mulU sn_mul d_int (d_ix (dv 2) (d_op op_fdiv sn_div (dv 14) d_int) (fun _ _ => rfl))) (d_op op_mod sn_mod (d_op op_addU sn_add (dv 14) (d_ix (dv 3) (d_op op_fdiv sn_div (dv 14) d_int) (fun _ _ => rfl))) d_int)))))
  (dss_cons (ds_set 5 sc_l_disguised.nd (d_cal C_l_order (hr.mono (by decide)) hgd (da_cons (dv 0) (da_cons (d_callB call_len sn_len (by rfl) T.b_len PySem.boot_len (da_cons (dv 8) da_nil)) da_nil))))
  (dss_cons (ds_own 6 sc_l_disguised.nd (d_lst da_nil))
  (dss_cons (ds_for PassesOwn.never rfl (di_seq (dv 5)) (dg_name 7 sc_l_disguised.nd) (dss_cons (ds_lcF .bor (ps_lcW rfl sc_l_disguised.nd (j := 11) rfl rfl (sw_true rfl rfl rfl (by decide +kernel)) (di_seq (d_ix (dv 8) (dv 7) (fun _ _ => rfl))) (blkOk_by (own := [("end", 14)]) (N := ["pen", "painted", "order", "flips", "named", "rooms", "found", "room", "house", "standing", "paints", "row", "cut", "wire", "end"]) (sc := defScope s_l_disguised) (by decide +kernel)) (fun _ _ _ _ _ => pg_name (i := 14) sc_l_disguised.nd rfl (Or.inl rfl)) (fun _ _ _ _ _ => dts_nil) (fun _ _ _ _ _ => (d_ix (dv 4) (dv 14) (fun _ _ => rfl)))))
  (dss_cons (ds_set 12 sc_l_disguised.nd (d_cal C_l_pick (hr.mono (by decide)) hgd (da_cons (dv 0) (da_cons (d_op op_addU sn_add (d_callB call_len sn_len (by rfl) T.b_len PySem.boot_len (da_cons (dv 11) da_nil)) d_int) da_nil))))
  (dss_one (ds_app (pe_bm PySem.F.plainAttrs_list PySem.F.slot_list_append PySem.F.type_list_append mt_append (pv 6) (pa_cons (d_callTy call_tuple_of sn_tup (by rfl) T.b_tuple (by decide +kernel) (da_cons (d_op op_addU sn_add (d_sl (dv 11) (do_some (dv 12)) do_none) (d_sl (dv 11) do_none (do_some (dv 12)))) da_nil)) pa_nil)))))))
  (dss_one (ds_ret (d_tup (da_cons (d_tup (da_cons (d_callTy call_tuple_of sn_tup (by rfl) T.b_tuple (by decide +kernel) (da_cons (dv 6) da_nil)) (da_cons (d_cal C_l_renamed (hr.mono (by decide)) hgd (da_cons (dv 4) (da_cons (dv 9) da_nil))) (da_cons (d_join (pe_join d_str (d_lc .bor rfl sc_l_disguised.nd (di_seq (dv 5)) (blkOk_by (own := [("room", 7)]) (N := ["pen", "painted", "order", "flips", "named", "rooms", "found", "room", "house", "standing", "paints", "row", "cut", "wire", "end"]) (sc := defScope s_l_disguised) (by decide +kernel)) (fun _ _ _ _ _ => pg_name (i := 7) sc_l_disguised.nd rfl (Or.inl rfl)) (fun _ _ _ _ _ => dts_nil) (fun _ _ _ _ _ => (d_ix (dv 10) (dv 7) (fun _ _ => rfl)))))) da_nil)))) (da_cons (dv 4) da_nil))))))))))))) read_l_disguised
theorem sc_l_renamed : FnScope ["named", "standing", "row", "end", "many"] ["named", "standing"] (defScope s_l_renamed) := ⟨rfl, rfl, rfl, by decide +kernel, rfl, by decide +kernel, by decide +kernel⟩
theorem ok_l_renamed {f : Addr} {fd : FuncData} (F : L2.Fun K "_law_renamed" "_law_renamed" s_l_renamed f fd) (T : Txt mg) : FnG P w K mg base CX0 1 f fd ["named", "standing"] (liftF sp_l_renamed) :=
  Fun_dok (t := rd_l_renamed) F sc_l_renamed len_l_renamed (fun cv A fs s H E hr hgd => (dss_cons (ds_lcO .bor (ps_lcW rfl sc_l_renamed.nd (j := 2) rfl rfl (sw_true rfl rfl rfl (by decide +kernel)) (di_seq (dv 0)) (blkOk_by (own := [("end", 3)]) (N := ["named", "standing", "row", "end", "many"]) (sc := defScope s_l_renamed) (by decide +kernel)) (fun _ _ _ _ _ => pg_name (i := 3) sc_l_renamed.nd rfl (Or.inl rfl)) (fun _ _ _ _ _ => dts_nil) (fun _ _ _ _ _ => d_int)))
  (dss_cons (ds_for PassesOwn.never rfl (di_enumT (by rfl) T.b_enumerate (d_ix (dv 1) d_int (fun _ _ => rfl))) (dg_tup rfl (dgs_cons (dg_name 3 sc_l_renamed.nd) (dgs_cons (dg_name 4 sc_l_renamed.nd) dgs_nil))) (dss_one (ds_st (ps_asg (dv 4) (pg_sub (pv 2) (d_ix (dv 0) (dv 3) (fun _ _ => rfl)) set_list)))))
  (dss_one (ds_ret (d_tup (da_cons (d_callTy call_tuple_of sn_tup (by rfl) T.b_tuple (by decide +kernel) (da_cons (dv 2) da_nil)) (da_cons (d_ix (dv 0) (d_ix (dv 1) d_int (fun _ _ => rfl)) (fun _ _ => rfl)) da_nil)))))))) read_l_renamed
theorem sc_l_house_of : FnScope ["paper", "rows", "rest", "met", "found", "at", "row", "words", "word", "end"] ["paper"] (defScope s_l_house_of) := ⟨rfl, rfl, rfl, by decide +kernel, rfl, by decide +kernel, by decide +kernel⟩
theorem ok_l_house_of {f : Addr} {fd : FuncData} (F : L2.Fun K "_law_house_of" "_law_house_of" s_l_house_of f fd) (T : Txt mg) : FnG P w K mg base CX0 1 f fd ["paper"] (liftF sp_l_house_of) :=
  Fun_dok (t := rd_l_house_of) F sc_l_house_of len_l_house_of (fun cv A fs s H E hr hgd => (dss_cons (ds_own 1 sc_l_house_of.nd (d_split (pe_split (dv 0) d_str)))
  (dss_cons (ds_pop (ps_set (i := 2) sc_l_house_of.nd rfl (by first | exact .inl rfl | exact .inr rfl) (pe_bm0 PySem.F.plainAttrs_list PySem.F.slot_list_pop PySem.F.type_list_pop mt_pop (pv 1))))
  (dss_frz 1 (dss_cons (ds_own 3 sc_l_house_of.nd (d_lst da_nil))
  (dss_cons (ds_own 4 sc_l_house_of.nd (d_lst da_nil))
  (dss_cons (ds_for PassesOwn.never rfl (di_enum (by rfl) T.b_enumerate (dv 1)) (dg_tup rfl (dgs_cons (dg_name 5 sc_l_house_of.nd) (dgs_cons (dg_name 6 sc_l_house_of.nd) dgs_nil))) (dss_cons (ds_set 7 sc_l_house_of.nd (d_split (pe_split (dv 6) d_str)))
  (dss_cons (ds_if (PW.pt (dw_or (dt_cmp (op_neU hr.units) sn_ne (d_ix (dv 7) d_int (fun _ _ => rfl)) d_str (nomark _)) (dw_or1 (dt_cmp op_gt sn_gt (dv 5) d_int (nomark _))))) (dss_one (ds_ret (dv 5))) dss_nil)
  (dss_cons (ds_for PassesOwn.never rfl (di_seq (d_sl (dv 7) (do_some d_int) do_none)) (dg_name 8 sc_l_house_of.nd) (dss_cons (ds_if (PW.pt (dw_or (dt_cmp op_notIn_seq sn_in (dv 8) (d_lc .bor rfl sc_l_house_of.nd (di_rng1 (by rfl) T.b_range d_int) (blkOk_by (own := [("end", 9)]) (N := ["paper", "rows", "rest", "met", "found", "at", "row", "words", "word", "end"]) (sc := defScope s_l_house_of) (by decide +kernel)) (fun _ _ _ _ _ => pg_name (i := 9) sc_l_house_of.nd rfl (Or.inl rfl)) (fun _ _ _ _ _ => dts_nil) (fun _ _ _ _ _ => (d_callTy call_str_int sn_strI (by rfl) T.b_str (by decide +kernel) (da_cons (dv 9) da_nil)))) (by rfl)) (dw_or1 (dt_cmp op_in_seq sn_in (d_callTy call_int_str sn_intS (by rfl) T.b_int (by decide +kernel) (da_cons (dv 8) da_nil)) (dv 3) (by rfl))))) (dss_one (ds_ret (dv 5))) dss_nil)
  (dss_one (ds_app (pe_bm PySem.F.plainAttrs_list PySem.F.slot_list_append PySem.F.type_list_append mt_append (pv 3) (pa_cons (d_callTy call_int_str sn_intS (by rfl) T.b_int (by decide +kernel) (da_cons (dv 8) da_nil)) pa_nil))))))
  (dss_one (ds_app (pe_bm PySem.F.plainAttrs_list PySem.F.slot_list_append PySem.F.type_list_append mt_append (pv 4) (pa_cons (d_callTy call_tuple_of sn_tup (by rfl) T.b_tuple (by decide +kernel) (da_cons (d_lc .bor rfl sc_l_house_of.nd (di_seq (d_sl (dv 7) (do_some d_int) do_none)) (blkOk_by (own := [("word", 8)]) (N := ["paper", "rows", "rest", "met", "found", "at", "row", "words", "word", "end"]) (sc := defScope s_l_house_of) (by decide +kernel)) (fun _ _ _ _ _ => pg_name (i := 8) sc_l_house_of.nd rfl (Or.inl rfl)) (fun _ _ _ _ _ => dts_nil) (fun _ _ _ _ _ => (d_callTy call_int_str sn_intS (by rfl) T.b_int (by decide +kernel) (da_cons (dv 8) da_nil)))) da_nil)) pa_nil))))))))
  (dss_cons (ds_if (PW.pt (dw_or (dt_cmp (op_neU hr.units) sn_ne (dv 2) d_str (nomark _)) (dw_or (dt_cmp (op_eqU hr.units) sn_eq (dv 3) (d_lst da_nil) (nomark _)) (dw_or (dt_cmp (op_neU hr.units) sn_ne (d_callB cr_sortedI sn_sorted (by rfl) T.b_sorted (by decide +kernel) (da_cons (dv 3) da_nil)) (d_listRg rfl (by rfl) T.b_list (by rfl) T.b_range (d_callB call_len sn_len (by rfl) T.b_len PySem.boot_len (da_cons (dv 3) da_nil))) (nomark _)) (dw_or1 (dt_cmp (op_eqU hr.units) sn_eq (d_op op_mod sn_mod (d_callB call_len sn_len (by rfl) T.b_len PySem.boot_len (da_cons (dv 3) da_nil)) d_int) d_int (nomark _))))))) (dss_one (ds_ret (d_callB call_len sn_len (by rfl) T.b_len PySem.boot_len (da_cons (dv 1) da_nil)))) dss_nil)
  (dss_one (ds_ret (d_lst (da_cons (d_callTy call_tuple_of sn_tup (by rfl) T.b_tuple (by decide +kernel) (da_cons (dv 4) da_nil)) da_nil)))))))))))) read_l_house_of
theorem sc_law : FnScope ["script", "pen", "turn", "like", "some", "one", "house", "standing", "paper", "due", "found"] ["script"] (defScope s_law) := ⟨rfl, rfl, rfl, by decide +kernel, rfl, by decide +kernel, by decide +kernel⟩
theorem ok_law {f : Addr} {fd : FuncData} (F : L2.Fun K "law" "law" s_law f fd) (T : Txt mg) (C_l_pen : Cal P w K mg base "_law_pen" 1 ["script"] kw_l_pen (spPen K)) (C_read_house : Cal P w K mg base "read_house" 5 ["text"] kw_read_house (liftF sp_read_house)) (C_l_written : Cal P w K mg base "_law_written" 2 ["house", "standing"] kw_l_written (liftF sp_l_written)) (C_show_house : Cal P w K mg base "show_house" 2 ["house"] kw_show_house (liftF sp_show_house)) (C_l_house_of : Cal P w K mg base "_law_house_of" 1 ["paper"] kw_l_house_of (liftF sp_l_house_of)) (C_l_pick : Cal P w K mg base "_law_pick" 1 ["pen", "upto"] kw_l_pick (liftF spPick)) (C_l_disguised : Cal P w K mg base "_law_disguised" 3 ["pen", "painted"] kw_l_disguised (liftF sp_l_disguised)) (C_l_great : Cal P w K mg base "_law_great" 3 ["pen"] kw_l_great (liftF sp_l_great)) : FnG P w K mg base CX0 6 f fd ["script"] (spLaw K) :=
  law_ok (t := rd_law) F sc_law (fun cv A fs s H E hr hgd => (pss_cons (ps_set (i := 1) sc_law.nd rfl (by first | exact .inl rfl | exact .inr rfl) (pe_cal C_l_pen (hr.mono (by decide)) hgd (pa_cons (pv 0) pa_nil)))
  (dss_cons (ds_for PassesOwn.never rfl (di_rng1 (by rfl) T.b_range d_int) (dg_name 2 sc_law.nd) (dss_cons (ds_asg (d_cal C_l_great (hr.mono (by decide)) hgd (da_cons (dv 1) da_nil)) (dg_tup rfl (dgs_cons (dg_name 6 sc_law.nd) (dgs_cons (dg_name 7 sc_law.nd) dgs_nil))))
  (dss_cons (ds_set 3 sc_law.nd (d_ix (d_ix (d_cal C_l_disguised (hr.mono (by decide)) hgd (da_cons (dv 1) (da_cons (d_tup (da_cons (dv 6) (da_cons (dv 7) (da_cons (d_op op_repS sn_mulS d_str (d_callB call_len sn_len (by rfl) T.b_len PySem.boot_len (da_cons (dv 6) da_nil))) da_nil)))) da_nil))) d_int (fun _ _ => rfl)) d_int (fun _ _ => rfl)))
  (dss_cons (ds_set 4 sc_law.nd (d_tup (da_cons (d_op op_addU sn_add (d_sl (dv 6) (do_some (d_cal C_l_pick (hr.mono (by decide)) hgd (da_cons (dv 1) (da_cons (d_callB call_len sn_len (by rfl) T.b_len PySem.boot_len (da_cons (dv 6) da_nil)) da_nil)))) do_none) (dv 6)) (da_cons (dv 6) (da_cons (dv 3) (da_cons (d_rev (dv 6)) (da_cons (d_op op_addU sn_add (dv 6) (d_tup (da_cons (d_tup da_nil) da_nil))) (da_cons (d_op op_addU sn_add (d_tup (da_cons (d_tup da_nil) da_nil)) (dv 3)) da_nil))))))))
  (dss_cons (ds_for PassesOwn.never rfl (di_seq (dv 4)) (dg_name 5 sc_law.nd) (dss_cons (ds_set 8 sc_law.nd (d_ix (d_cal C_l_written (hr.mono (by decide)) hgd (da_cons (dv 5) (da_cons (dv 7) da_nil))) d_int (fun _ _ => rfl)))
  (dss_cons (ds_set 9 sc_law.nd (d_cal C_l_house_of (hr.mono (by decide)) hgd (da_cons (dv 8) da_nil)))
  (dss_one (ds_if (dt_val (d_callB call_isi sn_isi (by rfl) T.b_isinstance (by decide +kernel) (da_cons (dv 9) (da_cons (d_bltn (by rfl) T.b_list (by decide +kernel)) da_nil)))) (dss_cons (ds_set 10 sc_law.nd (d_cal C_read_house (hr.mono (by decide)) hgd (da_cons (dv 8) da_nil)))
  (dss_one (ds_if (PW.pt (dw_or (dt_cmp (op_neU hr.units) sn_ne (d_callB (call_repr hr.units hgd) sn_repr (by rfl) T.b_repr (by decide +kernel) (da_cons (d_lst (da_cons (dv 10) da_nil)) da_nil)) (d_callB (call_repr hr.units hgd) sn_repr (by rfl) T.b_repr (by decide +kernel) (da_cons (dv 9) da_nil)) (nomark _)) (dw_or (dt_cmp (op_neU hr.units) sn_ne (dv 10) (dv 5) (nomark _)) (dw_or1 (dt_cmp (op_neU hr.units) sn_ne (d_calK0 [0] ["text"] (by simp [kw_read_house]) C_read_house (hr.mono (by decide)) hgd (dk_cons (d_cal C_show_house (hr.mono (by decide)) hgd (da_cons (dv 10) da_nil)) dk_nil)) (dv 5) (nomark _)))))) (dss_one (ds_ret d_bl)) dss_nil))) dss_nil)))))
  (dss_one (ds_if (dt_cmp (op_neU hr.units) sn_ne (d_cal C_read_house (hr.mono (by decide)) hgd (da_cons (d_ix (d_cal C_l_written (hr.mono (by decide)) hgd (da_cons (dv 3) (da_cons (dv 7) da_nil))) d_int (fun _ _ => rfl)) da_nil)) (dv 3) (nomark _)) (dss_one (ds_ret d_bl)) dss_nil)))))))
  (dss_one (ds_ret d_bl))))) read_law
end
end Lw

set_option Elab.async false
set_option linter.all false
set_option maxRecDepth 100000
set_option maxHeartbeats 4000000
namespace Lw
open PySem PySem.Spec PyProof.Rows L2 Dl
theorem all_mk {l : PySem.W.OpenLaw} {w : World} {K : PySem.W.Frag} {h : Heap} {mg : Str → Option Value} {fa : Addr} (X : K.In h) (G : h.Ns mainGlobals mg) (hfa : mg "law" = some (.ref fa))
    {f0 f1 f2 f3 f4 f5 f6 f7 f8 f9 f10 f11 f12 f13 f14 f15 f16 f17 f18 f19 f20 f21 f22 f23 : Addr} {od0 an0 od1 an1 od2 an2 od3 an3 od4 an4 od5 an5 od6 an6 od7 an7 od8 an8 od9 an9 od10 an10 od11 an11 od12 an12 od13 an13 od14 an14 od15 an15 od16 an16 od17 an17 od18 an18 od19 an19 od20 an20 od21 an21 od22 an22 od23 an23 : Option Addr} {sl0 sl1 sl2 sl3 sl4 sl5 sl6 sl7 sl8 sl9 sl10 sl11 sl12 sl13 sl14 sl15 sl16 sl17 sl18 sl19 sl20 sl21 sl22 sl23 : Array (Option Value)}
    {oc0 kV0 dc0 pm0 cd0 ct0 oc1 kV1 dc1 pm1 cd1 ct1 oc2 kV2 dc2 pm2 cd2 ct2 oc3 kV3 dc3 pm3 cd3 ct3 oc4 kV4 dc4 pm4 cd4 ct4 oc5 kV5 dc5 pm5 cd5 ct5 oc6 kV6 dc6 pm6 cd6 ct6 oc7 kV7 dc7 pm7 cd7 ct7 oc8 kV8 dc8 pm8 cd8 ct8 oc9 kV9 dc9 pm9 cd9 ct9 oc10 kV10 dc10 pm10 cd10 ct10 oc11 kV11 dc11 pm11 cd11 ct11 oc12 kV12 dc12 pm12 cd12 ct12 oc13 kV13 dc13 pm13 cd13 ct13 oc14 kV14 dc14 pm14 cd14 ct14 oc15 kV15 dc15 pm15 cd15 ct15 oc16 kV16 dc16 pm16 cd16 ct16 oc17 kV17 dc17 pm17 cd17 ct17 oc18 kV18 dc18 pm18 cd18 ct18 oc19 kV19 dc19 pm19 cd19 ct19 oc20 kV20 dc20 pm20 cd20 ct20 oc21 kV21 dc21 pm21 cd21 ct21 oc22 kV22 dc22 pm22 cd22 ct22 oc23 kV23 dc23 pm23 cd23 ct23 : Value}
    (a0 : PySem.W.nsIn K mainGlobals "is_whole" = some (some (.ref f0))) (l0 : K.lookup f0 = some ⟨oc0, od0, .func (PySem.W.fnOf "is_whole" "is_whole" (defArgs s_is_whole) (defBody s_is_whole) (defScope s_is_whole) .none kV0 dc0 pm0 an0 cd0 ct0), sl0⟩) (c0 : PySem.W.codeIn K cd0 "is_whole" = true) (k0 : PySem.W.keepIn K (.ref f0) = true)
    (a1 : PySem.W.nsIn K mainGlobals "is_within" = some (some (.ref f1))) (l1 : K.lookup f1 = some ⟨oc1, od1, .func (PySem.W.fnOf "is_within" "is_within" (defArgs s_is_within) (defBody s_is_within) (defScope s_is_within) .none kV1 dc1 pm1 an1 cd1 ct1), sl1⟩) (c1 : PySem.W.codeIn K cd1 "is_within" = true) (k1 : PySem.W.keepIn K (.ref f1) = true)
    (a2 : PySem.W.nsIn K mainGlobals "are_ends" = some (some (.ref f2))) (l2 : K.lookup f2 = some ⟨oc2, od2, .func (PySem.W.fnOf "are_ends" "are_ends" (defArgs s_are_ends) (defBody s_are_ends) (defScope s_are_ends) .none kV2 dc2 pm2 an2 cd2 ct2), sl2⟩) (c2 : PySem.W.codeIn K cd2 "are_ends" = true) (k2 : PySem.W.keepIn K (.ref f2) = true)
    (a3 : PySem.W.nsIn K mainGlobals "all_in" = some (some (.ref f3))) (l3 : K.lookup f3 = some ⟨oc3, od3, .func (PySem.W.fnOf "all_in" "all_in" (defArgs s_all_in) (defBody s_all_in) (defScope s_all_in) .none kV3 dc3 pm3 an3 cd3 ct3), sl3⟩) (c3 : PySem.W.codeIn K cd3 "all_in" = true) (k3 : PySem.W.keepIn K (.ref f3) = true)
    (a4 : PySem.W.nsIn K mainGlobals "is_house" = some (some (.ref f4))) (l4 : K.lookup f4 = some ⟨oc4, od4, .func (PySem.W.fnOf "is_house" "is_house" (defArgs s_is_house) (defBody s_is_house) (defScope s_is_house) .none kV4 dc4 pm4 an4 cd4 ct4), sl4⟩) (c4 : PySem.W.codeIn K cd4 "is_house" = true) (k4 : PySem.W.keepIn K (.ref f4) = true)
    (a5 : PySem.W.nsIn K mainGlobals "number_in" = some (some (.ref f5))) (l5 : K.lookup f5 = some ⟨oc5, od5, .func (PySem.W.fnOf "number_in" "number_in" (defArgs s_number_in) (defBody s_number_in) (defScope s_number_in) .none kV5 dc5 pm5 an5 cd5 ct5), sl5⟩) (c5 : PySem.W.codeIn K cd5 "number_in" = true) (k5 : PySem.W.keepIn K (.ref f5) = true)
    (a6 : PySem.W.nsIn K mainGlobals "numbers_in" = some (some (.ref f6))) (l6 : K.lookup f6 = some ⟨oc6, od6, .func (PySem.W.fnOf "numbers_in" "numbers_in" (defArgs s_numbers_in) (defBody s_numbers_in) (defScope s_numbers_in) .none kV6 dc6 pm6 an6 cd6 ct6), sl6⟩) (c6 : PySem.W.codeIn K cd6 "numbers_in" = true) (k6 : PySem.W.keepIn K (.ref f6) = true)
    (a7 : PySem.W.nsIn K mainGlobals "lines_of" = some (some (.ref f7))) (l7 : K.lookup f7 = some ⟨oc7, od7, .func (PySem.W.fnOf "lines_of" "lines_of" (defArgs s_lines_of) (defBody s_lines_of) (defScope s_lines_of) .none kV7 dc7 pm7 an7 cd7 ct7), sl7⟩) (c7 : PySem.W.codeIn K cd7 "lines_of" = true) (k7 : PySem.W.keepIn K (.ref f7) = true)
    (a8 : PySem.W.nsIn K mainGlobals "read_house" = some (some (.ref f8))) (l8 : K.lookup f8 = some ⟨oc8, od8, .func (PySem.W.fnOf "read_house" "read_house" (defArgs s_read_house) (defBody s_read_house) (defScope s_read_house) .none kV8 dc8 pm8 an8 cd8 ct8), sl8⟩) (c8 : PySem.W.codeIn K cd8 "read_house" = true) (k8 : PySem.W.keepIn K (.ref f8) = true)
    (a9 : PySem.W.nsIn K mainGlobals "line_of" = some (some (.ref f9))) (l9 : K.lookup f9 = some ⟨oc9, od9, .func (PySem.W.fnOf "line_of" "line_of" (defArgs s_line_of) (defBody s_line_of) (defScope s_line_of) .none kV9 dc9 pm9 an9 cd9 ct9), sl9⟩) (c9 : PySem.W.codeIn K cd9 "line_of" = true) (k9 : PySem.W.keepIn K (.ref f9) = true)
    (a10 : PySem.W.nsIn K mainGlobals "show_house" = some (some (.ref f10))) (l10 : K.lookup f10 = some ⟨oc10, od10, .func (PySem.W.fnOf "show_house" "show_house" (defArgs s_show_house) (defBody s_show_house) (defScope s_show_house) .none kV10 dc10 pm10 an10 cd10 ct10), sl10⟩) (c10 : PySem.W.codeIn K cd10 "show_house" = true) (k10 : PySem.W.keepIn K (.ref f10) = true)
    (a11 : PySem.W.nsIn K mainGlobals "_law_pen" = some (some (.ref f11))) (l11 : K.lookup f11 = some ⟨oc11, od11, .func (PySem.W.fnOf "_law_pen" "_law_pen" (defArgs s_l_pen) (defBody s_l_pen) (defScope s_l_pen) .none kV11 dc11 pm11 an11 cd11 ct11), sl11⟩) (c11 : PySem.W.codeIn K cd11 "_law_pen" = true) (k11 : PySem.W.keepIn K (.ref f11) = true)
    (a12 : PySem.W.nsIn K mainGlobals "_law_pick" = some (some (.ref f12))) (l12 : K.lookup f12 = some ⟨oc12, od12, .func (PySem.W.fnOf "_law_pick" "_law_pick" (defArgs s_l_pick) (defBody s_l_pick) (defScope s_l_pick) .none kV12 dc12 pm12 an12 cd12 ct12), sl12⟩) (c12 : PySem.W.codeIn K cd12 "_law_pick" = true) (k12 : PySem.W.keepIn K (.ref f12) = true)
    (a13 : PySem.W.nsIn K mainGlobals "_law_plan" = some (some (.ref f13))) (l13 : K.lookup f13 = some ⟨oc13, od13, .func (PySem.W.fnOf "_law_plan" "_law_plan" (defArgs s_l_plan) (defBody s_l_plan) (defScope s_l_plan) .none kV13 dc13 pm13 an13 cd13 ct13), sl13⟩) (c13 : PySem.W.codeIn K cd13 "_law_plan" = true) (k13 : PySem.W.keepIn K (.ref f13) = true)
    (a14 : PySem.W.nsIn K mainGlobals "_law_loads" = some (some (.ref f14))) (l14 : K.lookup f14 = some ⟨oc14, od14, .func (PySem.W.fnOf "_law_loads" "_law_loads" (defArgs s_l_loads) (defBody s_l_loads) (defScope s_l_loads) .none kV14 dc14 pm14 an14 cd14 ct14), sl14⟩) (c14 : PySem.W.codeIn K cd14 "_law_loads" = true) (k14 : PySem.W.keepIn K (.ref f14) = true)
    (a15 : PySem.W.nsIn K mainGlobals "_law_laid" = some (some (.ref f15))) (l15 : K.lookup f15 = some ⟨oc15, od15, .func (PySem.W.fnOf "_law_laid" "_law_laid" (defArgs s_l_laid) (defBody s_l_laid) (defScope s_l_laid) .none kV15 dc15 pm15 an15 cd15 ct15), sl15⟩) (c15 : PySem.W.codeIn K cd15 "_law_laid" = true) (k15 : PySem.W.keepIn K (.ref f15) = true)
    (a16 : PySem.W.nsIn K mainGlobals "_law_great" = some (some (.ref f16))) (l16 : K.lookup f16 = some ⟨oc16, od16, .func (PySem.W.fnOf "_law_great" "_law_great" (defArgs s_l_great) (defBody s_l_great) (defScope s_l_great) .none kV16 dc16 pm16 an16 cd16 ct16), sl16⟩) (c16 : PySem.W.codeIn K cd16 "_law_great" = true) (k16 : PySem.W.keepIn K (.ref f16) = true)
    (a17 : PySem.W.nsIn K mainGlobals "_law_line" = some (some (.ref f17))) (l17 : K.lookup f17 = some ⟨oc17, od17, .func (PySem.W.fnOf "_law_line" "_law_line" (defArgs s_l_line) (defBody s_l_line) (defScope s_l_line) .none kV17 dc17 pm17 an17 cd17 ct17), sl17⟩) (c17 : PySem.W.codeIn K cd17 "_law_line" = true) (k17 : PySem.W.keepIn K (.ref f17) = true)
    (a18 : PySem.W.nsIn K mainGlobals "_law_written" = some (some (.ref f18))) (l18 : K.lookup f18 = some ⟨oc18, od18, .func (PySem.W.fnOf "_law_written" "_law_written" (defArgs s_l_written) (defBody s_l_written) (defScope s_l_written) .none kV18 dc18 pm18 an18 cd18 ct18), sl18⟩) (c18 : PySem.W.codeIn K cd18 "_law_written" = true) (k18 : PySem.W.keepIn K (.ref f18) = true)
    (a19 : PySem.W.nsIn K mainGlobals "_law_order" = some (some (.ref f19))) (l19 : K.lookup f19 = some ⟨oc19, od19, .func (PySem.W.fnOf "_law_order" "_law_order" (defArgs s_l_order) (defBody s_l_order) (defScope s_l_order) .none kV19 dc19 pm19 an19 cd19 ct19), sl19⟩) (c19 : PySem.W.codeIn K cd19 "_law_order" = true) (k19 : PySem.W.keepIn K (.ref f19) = true)
    (a20 : PySem.W.nsIn K mainGlobals "_law_disguised" = some (some (.ref f20))) (l20 : K.lookup f20 = some ⟨oc20, od20, .func (PySem.W.fnOf "_law_disguised" "_law_disguised" (defArgs s_l_disguised) (defBody s_l_disguised) (defScope s_l_disguised) .none kV20 dc20 pm20 an20 cd20 ct20), sl20⟩) (c20 : PySem.W.codeIn K cd20 "_law_disguised" = true) (k20 : PySem.W.keepIn K (.ref f20) = true)
    (a21 : PySem.W.nsIn K mainGlobals "_law_renamed" = some (some (.ref f21))) (l21 : K.lookup f21 = some ⟨oc21, od21, .func (PySem.W.fnOf "_law_renamed" "_law_renamed" (defArgs s_l_renamed) (defBody s_l_renamed) (defScope s_l_renamed) .none kV21 dc21 pm21 an21 cd21 ct21), sl21⟩) (c21 : PySem.W.codeIn K cd21 "_law_renamed" = true) (k21 : PySem.W.keepIn K (.ref f21) = true)
    (a22 : PySem.W.nsIn K mainGlobals "_law_house_of" = some (some (.ref f22))) (l22 : K.lookup f22 = some ⟨oc22, od22, .func (PySem.W.fnOf "_law_house_of" "_law_house_of" (defArgs s_l_house_of) (defBody s_l_house_of) (defScope s_l_house_of) .none kV22 dc22 pm22 an22 cd22 ct22), sl22⟩) (c22 : PySem.W.codeIn K cd22 "_law_house_of" = true) (k22 : PySem.W.keepIn K (.ref f22) = true)
    (a23 : PySem.W.nsIn K mainGlobals "law" = some (some (.ref f23))) (l23 : K.lookup f23 = some ⟨oc23, od23, .func (PySem.W.fnOf "law" "law" (defArgs s_law) (defBody s_law) (defScope s_law) .none kV23 dc23 pm23 an23 cd23 ct23), sl23⟩) (c23 : PySem.W.codeIn K cd23 "law" = true) (k23 : PySem.W.keepIn K (.ref f23) = true)
    (z_abs : PySem.W.nsIn K mainGlobals "abs" = some none)
    (z_all : PySem.W.nsIn K mainGlobals "all" = some none)
    (z_bool : PySem.W.nsIn K mainGlobals "bool" = some none)
    (z_enumerate : PySem.W.nsIn K mainGlobals "enumerate" = some none)
    (z_int : PySem.W.nsIn K mainGlobals "int" = some none)
    (z_isinstance : PySem.W.nsIn K mainGlobals "isinstance" = some none)
    (z_len : PySem.W.nsIn K mainGlobals "len" = some none)
    (z_list : PySem.W.nsIn K mainGlobals "list" = some none)
    (z_range : PySem.W.nsIn K mainGlobals "range" = some none)
    (z_repr : PySem.W.nsIn K mainGlobals "repr" = some none)
    (z_set : PySem.W.nsIn K mainGlobals "set" = some none)
    (z_sorted : PySem.W.nsIn K mainGlobals "sorted" = some none)
    (z_str : PySem.W.nsIn K mainGlobals "str" = some none)
    (z_tuple : PySem.W.nsIn K mainGlobals "tuple" = some none)
    {t_MOST_ROOMS : Tok} (y_MOST_ROOMS : PySem.W.nsIn K mainGlobals "MOST_ROOMS" = some (some (.int 10 t_MOST_ROOMS)))
    {t_MOST_WIRES : Tok} (y_MOST_WIRES : PySem.W.nsIn K mainGlobals "MOST_WIRES" = some (some (.int 20 t_MOST_WIRES)))
    {t_FIGURES : Tok} (y_FIGURES : PySem.W.nsIn K mainGlobals "FIGURES" = some (some (.str (Str.ofString "0123456789") t_FIGURES)))
    : ∃ fd : FuncData, (∀ (s : Shared) (v : Value), BindsTo s fd ⟨[v], []⟩ [("script", v)]) ∧ ∀ base : Heap, K.In base → base.Ns mainGlobals mg → FnG l.prog w K mg base CX0 6 fa fd ["script"] (spLaw K) := by
  have e := hfa.symm.trans (PySem.W.mg_of X G a23)
  cases e
  have T : Txt mg := ⟨PySem.W.mg_none_of X G z_abs, PySem.W.mg_none_of X G z_all, PySem.W.mg_none_of X G z_bool, PySem.W.mg_none_of X G z_enumerate, PySem.W.mg_none_of X G z_int, PySem.W.mg_none_of X G z_isinstance, PySem.W.mg_none_of X G z_len, PySem.W.mg_none_of X G z_list, PySem.W.mg_none_of X G z_range, PySem.W.mg_none_of X G z_repr, PySem.W.mg_none_of X G z_set, PySem.W.mg_none_of X G z_sorted, PySem.W.mg_none_of X G z_str, PySem.W.mg_none_of X G z_tuple, ⟨_, PySem.W.mg_of X G y_MOST_ROOMS⟩, ⟨_, PySem.W.mg_of X G y_MOST_WIRES⟩, ⟨_, PySem.W.mg_of X G y_FIGURES⟩⟩
  have F0 := fun_mk (st := s_is_whole) l0 c0 k0
  have F1 := fun_mk (st := s_is_within) l1 c1 k1
  have F2 := fun_mk (st := s_are_ends) l2 c2 k2
  have F3 := fun_mk (st := s_all_in) l3 c3 k3
  have F4 := fun_mk (st := s_is_house) l4 c4 k4
  have F5 := fun_mk (st := s_number_in) l5 c5 k5
  have F6 := fun_mk (st := s_numbers_in) l6 c6 k6
  have F7 := fun_mk (st := s_lines_of) l7 c7 k7
  have F8 := fun_mk (st := s_read_house) l8 c8 k8
  have F9 := fun_mk (st := s_line_of) l9 c9 k9
  have F10 := fun_mk (st := s_show_house) l10 c10 k10
  have F11 := fun_mk (st := s_l_pen) l11 c11 k11
  have F12 := fun_mk (st := s_l_pick) l12 c12 k12
  have F13 := fun_mk (st := s_l_plan) l13 c13 k13
  have F14 := fun_mk (st := s_l_loads) l14 c14 k14
  have F15 := fun_mk (st := s_l_laid) l15 c15 k15
  have F16 := fun_mk (st := s_l_great) l16 c16 k16
  have F17 := fun_mk (st := s_l_line) l17 c17 k17
  have F18 := fun_mk (st := s_l_written) l18 c18 k18
  have F19 := fun_mk (st := s_l_order) l19 c19 k19
  have F20 := fun_mk (st := s_l_disguised) l20 c20 k20
  have F21 := fun_mk (st := s_l_renamed) l21 c21 k21
  have F22 := fun_mk (st := s_l_house_of) l22 c22 k22
  have F23 := fun_mk (st := s_law) l23 c23 k23
  refine ⟨PySem.W.fnOf "law" "law" (defArgs s_law) (defBody s_law) (defScope s_law) .none kV23 dc23 pm23 an23 cd23 ct23, fun s v => .of_eq rfl, fun base _ _ => ?_⟩
  have B11 := F11.binds (ps := ["script"]) fun _ _ _ _ _ _ us hl => match us, hl with | [_], _ => rfl
  have C_l_pen : Cal l.prog w K mg base "_law_pen" 1 ["script"] kw_l_pen (spPen K) := ⟨f11, _, PySem.W.mg_of X G a11, F11.kp, B11, fun q hq => by simp only [kw_l_pen, List.not_mem_nil] at hq, (FnG.of (ok_pen F11 T.b_list) )⟩
  have B0 := F0.binds (ps := ["thing"]) fun _ _ _ _ _ _ us hl => match us, hl with | [_], _ => rfl
  have C_is_whole : Cal l.prog w K mg base "is_whole" 1 ["thing"] kw_is_whole (liftF sp_is_whole) := ⟨f0, _, PySem.W.mg_of X G a0, F0.kp, B0, fun q hq => by simp only [kw_is_whole, List.not_mem_nil] at hq, ok_is_whole F0 T ⟩
  have B1 := F1.binds (ps := ["thing", "least", "most"]) fun _ _ _ _ _ _ us hl => match us, hl with | [_, _, _], _ => rfl
  have C_is_within : Cal l.prog w K mg base "is_within" 2 ["thing", "least", "most"] kw_is_within (liftF sp_is_within) := ⟨f1, _, PySem.W.mg_of X G a1, F1.kp, B1, fun q hq => by simp only [kw_is_within, List.not_mem_nil] at hq, ok_is_within F1 T C_is_whole⟩
  have B2 := F2.binds (ps := ["found"]) fun _ _ _ _ _ _ us hl => match us, hl with | [_], _ => rfl
  have C_are_ends : Cal l.prog w K mg base "are_ends" 3 ["found"] kw_are_ends (liftF sp_are_ends) := ⟨f2, _, PySem.W.mg_of X G a2, F2.kp, B2, fun q hq => by simp only [kw_are_ends, List.not_mem_nil] at hq, ok_are_ends F2 T C_is_within⟩
  have B3 := F3.binds (ps := ["rooms"]) fun _ _ _ _ _ _ us hl => match us, hl with | [_], _ => rfl
  have C_all_in : Cal l.prog w K mg base "all_in" 1 ["rooms"] kw_all_in (liftF sp_all_in) := ⟨f3, _, PySem.W.mg_of X G a3, F3.kp, B3, fun q hq => by simp only [kw_all_in, List.not_mem_nil] at hq, ok_all_in F3 T ⟩
  have B4 := F4.binds (ps := ["thing"]) fun _ _ _ _ _ _ us hl => match us, hl with | [_], _ => rfl
  have C_is_house : Cal l.prog w K mg base "is_house" 4 ["thing"] kw_is_house (liftF sp_is_house) := ⟨f4, _, PySem.W.mg_of X G a4, F4.kp, B4, fun q hq => by simp only [kw_is_house, List.not_mem_nil] at hq, ok_is_house F4 T C_are_ends C_all_in⟩
  have B5 := F5.binds (ps := ["word"]) fun _ _ _ _ _ _ us hl => match us, hl with | [_], _ => rfl
  have C_number_in : Cal l.prog w K mg base "number_in" 1 ["word"] kw_number_in (liftF sp_number_in) := ⟨f5, _, PySem.W.mg_of X G a5, F5.kp, B5, fun q hq => by simp only [kw_number_in, List.not_mem_nil] at hq, ok_number_in F5 T ⟩
  have B6 := F6.binds (ps := ["line", "word"]) fun _ _ _ _ _ _ us hl => match us, hl with | [_, _], _ => rfl
  have C_numbers_in : Cal l.prog w K mg base "numbers_in" 2 ["line", "word"] kw_numbers_in (liftF sp_numbers_in) := ⟨f6, _, PySem.W.mg_of X G a6, F6.kp, B6, fun q hq => by simp only [kw_numbers_in, List.not_mem_nil] at hq, ok_numbers_in F6 T C_number_in⟩
  have B7 := F7.binds (ps := ["text"]) fun _ _ _ _ _ _ us hl => match us, hl with | [_], _ => rfl
  have C_lines_of : Cal l.prog w K mg base "lines_of" 1 ["text"] kw_lines_of (liftF sp_lines_of) := ⟨f7, _, PySem.W.mg_of X G a7, F7.kp, B7, fun q hq => by simp only [kw_lines_of, List.not_mem_nil] at hq, ok_lines_of F7 T ⟩
  have B8 := F8.binds (ps := ["text"]) fun _ _ _ _ _ _ us hl => match us, hl with | [_], _ => rfl
  have C_read_house : Cal l.prog w K mg base "read_house" 5 ["text"] kw_read_house (liftF sp_read_house) := ⟨f8, _, PySem.W.mg_of X G a8, F8.kp, B8, (by intro q hq; simp only [kw_read_house, List.mem_cons, List.not_mem_nil, or_false] at hq; subst hq;  exact kwb_of 0 F8 rfl (by decide) rfl (fun _ _ _ _ _ _ us ws h1 h2 => match us, ws, h1, h2 with | [], [_], _, _ => rfl)), ok_read_house F8 T C_is_house C_numbers_in C_lines_of⟩
  have B17 := F17.binds (ps := ["word", "numbers"]) fun _ _ _ _ _ _ us hl => match us, hl with | [_, _], _ => rfl
  have C_l_line : Cal l.prog w K mg base "_law_line" 1 ["word", "numbers"] kw_l_line (liftF sp_l_line) := ⟨f17, _, PySem.W.mg_of X G a17, F17.kp, B17, fun q hq => by simp only [kw_l_line, List.not_mem_nil] at hq, ok_l_line F17 T ⟩
  have B18 := F18.binds (ps := ["house", "standing"]) fun _ _ _ _ _ _ us hl => match us, hl with | [_, _], _ => rfl
  have C_l_written : Cal l.prog w K mg base "_law_written" 2 ["house", "standing"] kw_l_written (liftF sp_l_written) := ⟨f18, _, PySem.W.mg_of X G a18, F18.kp, B18, fun q hq => by simp only [kw_l_written, List.not_mem_nil] at hq, ok_l_written F18 T C_l_line⟩
  have B9 := F9.binds (ps := ["word", "numbers"]) fun _ _ _ _ _ _ us hl => match us, hl with | [_, _], _ => rfl
  have C_line_of : Cal l.prog w K mg base "line_of" 1 ["word", "numbers"] kw_line_of (liftF sp_line_of) := ⟨f9, _, PySem.W.mg_of X G a9, F9.kp, B9, fun q hq => by simp only [kw_line_of, List.not_mem_nil] at hq, ok_line_of F9 T ⟩
  have B10 := F10.binds (ps := ["house"]) fun _ _ _ _ _ _ us hl => match us, hl with | [_], _ => rfl
  have C_show_house : Cal l.prog w K mg base "show_house" 2 ["house"] kw_show_house (liftF sp_show_house) := ⟨f10, _, PySem.W.mg_of X G a10, F10.kp, B10, fun q hq => by simp only [kw_show_house, List.not_mem_nil] at hq, ok_show_house F10 T C_line_of⟩
  have B22 := F22.binds (ps := ["paper"]) fun _ _ _ _ _ _ us hl => match us, hl with | [_], _ => rfl
  have C_l_house_of : Cal l.prog w K mg base "_law_house_of" 1 ["paper"] kw_l_house_of (liftF sp_l_house_of) := ⟨f22, _, PySem.W.mg_of X G a22, F22.kp, B22, fun q hq => by simp only [kw_l_house_of, List.not_mem_nil] at hq, ok_l_house_of F22 T ⟩
  have B12 := F12.binds (ps := ["pen", "upto"]) fun _ _ _ _ _ _ us hl => match us, hl with | [_, _], _ => rfl
  have C_l_pick : Cal l.prog w K mg base "_law_pick" 1 ["pen", "upto"] kw_l_pick (liftF spPick) := ⟨f12, _, PySem.W.mg_of X G a12, F12.kp, B12, fun q hq => by simp only [kw_l_pick, List.not_mem_nil] at hq, (ok_pick F12 T.b_len T.b_abs T.b_int )⟩
  have B21 := F21.binds (ps := ["named", "standing"]) fun _ _ _ _ _ _ us hl => match us, hl with | [_, _], _ => rfl
  have C_l_renamed : Cal l.prog w K mg base "_law_renamed" 1 ["named", "standing"] kw_l_renamed (liftF sp_l_renamed) := ⟨f21, _, PySem.W.mg_of X G a21, F21.kp, B21, fun q hq => by simp only [kw_l_renamed, List.not_mem_nil] at hq, ok_l_renamed F21 T ⟩
  have B19 := F19.binds (ps := ["pen", "many"]) fun _ _ _ _ _ _ us hl => match us, hl with | [_, _], _ => rfl
  have C_l_order : Cal l.prog w K mg base "_law_order" 2 ["pen", "many"] kw_l_order (liftF sp_l_order) := ⟨f19, _, PySem.W.mg_of X G a19, F19.kp, B19, fun q hq => by simp only [kw_l_order, List.not_mem_nil] at hq, (ok_order F19 T.b_range T.b_len T.b_list C_l_pick)⟩
  have B20 := F20.binds (ps := ["pen", "painted"]) fun _ _ _ _ _ _ us hl => match us, hl with | [_, _], _ => rfl
  have C_l_disguised : Cal l.prog w K mg base "_law_disguised" 3 ["pen", "painted"] kw_l_disguised (liftF sp_l_disguised) := ⟨f20, _, PySem.W.mg_of X G a20, F20.kp, B20, fun q hq => by simp only [kw_l_disguised, List.not_mem_nil] at hq, ok_l_disguised F20 T C_l_renamed C_l_pick C_l_order⟩
  have B15 := F15.binds (ps := ["pen", "loads"]) fun _ _ _ _ _ _ us hl => match us, hl with | [_, _], _ => rfl
  have C_l_laid : Cal l.prog w K mg base "_law_laid" 2 ["pen", "loads"] kw_l_laid (liftF sp_l_laid) := ⟨f15, _, PySem.W.mg_of X G a15, F15.kp, B15, fun q hq => by simp only [kw_l_laid, List.not_mem_nil] at hq, ok_l_laid F15 T C_l_pick⟩
  have B14 := F14.binds (ps := ["pen", "wires", "upto"]) fun _ _ _ _ _ _ us hl => match us, hl with | [_, _, _], _ => rfl
  have C_l_loads : Cal l.prog w K mg base "_law_loads" 2 ["pen", "wires", "upto"] kw_l_loads (liftF sp_l_loads) := ⟨f14, _, PySem.W.mg_of X G a14, F14.kp, B14, fun q hq => by simp only [kw_l_loads, List.not_mem_nil] at hq, ok_l_loads F14 T C_l_pick⟩
  have B13 := F13.binds (ps := ["pen", "rooms", "wires"]) fun _ _ _ _ _ _ us hl => match us, hl with | [_, _, _], _ => rfl
  have C_l_plan : Cal l.prog w K mg base "_law_plan" 2 ["pen", "rooms", "wires"] kw_l_plan (liftF spPlan) := ⟨f13, _, PySem.W.mg_of X G a13, F13.kp, B13, fun q hq => by simp only [kw_l_plan, List.not_mem_nil] at hq, (ok_plan F13 T.b_range T.b_len T.b_tuple C_l_pick)⟩
  have B16 := F16.binds (ps := ["pen"]) fun _ _ _ _ _ _ us hl => match us, hl with | [_], _ => rfl
  have C_l_great : Cal l.prog w K mg base "_law_great" 3 ["pen"] kw_l_great (liftF sp_l_great) := ⟨f16, _, PySem.W.mg_of X G a16, F16.kp, B16, fun q hq => by simp only [kw_l_great, List.not_mem_nil] at hq, ok_l_great F16 T C_l_laid C_l_loads C_l_plan C_l_pick⟩
  exact ok_law F23 T C_l_pen C_read_house C_l_written C_show_house C_l_house_of C_l_pick C_l_disguised C_l_great
end Lw

open PySem PySem.W PyProof.Rows
set_option maxRecDepth 100000 in
set_option maxHeartbeats 0 in
theorem PySem.Challenge.cw_carryround_k73_houses_read_back_holds : PySem.Challenge.rw_carryround_k73_houses_read_back.Holds := by
  w_on; o_law; k_head; (case hw => w_witness2)
  k_fill
  refine Dl.walkG (l := PySem.Challenge.rw_carryround_k73_houses_read_back) (k := 6) rfl rfl ⟨rfl, by decide, by decide⟩ (fun w h Y => PySem.W.kIn_of Y) ?F
  case F =>
    intro w mg fa h KX G hmg
    refine' Lw.all_mk KX G hmg ?a0 ?l0 ?c0 ?k0 ?a1 ?l1 ?c1 ?k1 ?a2 ?l2 ?c2 ?k2 ?a3 ?l3 ?c3 ?k3 ?a4 ?l4 ?c4 ?k4 ?a5 ?l5 ?c5 ?k5 ?a6 ?l6 ?c6 ?k6 ?a7 ?l7 ?c7 ?k7 ?a8 ?l8 ?c8 ?k8 ?a9 ?l9 ?c9 ?k9 ?a10 ?l10 ?c10 ?k10 ?a11 ?l11 ?c11 ?k11 ?a12 ?l12 ?c12 ?k12 ?a13 ?l13 ?c13 ?k13 ?a14 ?l14 ?c14 ?k14 ?a15 ?l15 ?c15 ?k15 ?a16 ?l16 ?c16 ?k16 ?a17 ?l17 ?c17 ?k17 ?a18 ?l18 ?c18 ?k18 ?a19 ?l19 ?c19 ?k19 ?a20 ?l20 ?c20 ?k20 ?a21 ?l21 ?c21 ?k21 ?a22 ?l22 ?c22 ?k22 ?a23 ?l23 ?c23 ?k23 ?z_abs ?z_all ?z_bool ?z_enumerate ?z_int ?z_isinstance ?z_len ?z_list ?z_range ?z_repr ?z_set ?z_sorted ?z_str ?z_tuple ?y_MOST_ROOMS ?y_MOST_WIRES ?y_FIGURES
    (case a0 => k_is)
    (case l0 => k_is)
    (case c0 => k_is)
    (case k0 => k_is)
    (case a1 => k_is)
    (case l1 => k_is)
    (case c1 => k_is)
    (case k1 => k_is)
    (case a2 => k_is)
    (case l2 => k_is)
    (case c2 => k_is)
    (case k2 => k_is)
    (case a3 => k_is)
    (case l3 => k_is)
    (case c3 => k_is)
    (case k3 => k_is)
    (case a4 => k_is)
    (case l4 => k_is)
    (case c4 => k_is)
    (case k4 => k_is)
    (case a5 => k_is)
    (case l5 => k_is)
    (case c5 => k_is)
    (case k5 => k_is)
    (case a6 => k_is)
    (case l6 => k_is)
    (case c6 => k_is)
    (case k6 => k_is)
    (case a7 => k_is)
    (case l7 => k_is)
    (case c7 => k_is)
    (case k7 => k_is)
    (case a8 => k_is)
    (case l8 => k_is)
    (case c8 => k_is)
    (case k8 => k_is)
    (case a9 => k_is)
    (case l9 => k_is)
    (case c9 => k_is)
    (case k9 => k_is)
    (case a10 => k_is)
    (case l10 => k_is)
    (case c10 => k_is)
    (case k10 => k_is)
    (case a11 => k_is)
    (case l11 => k_is)
    (case c11 => k_is)
    (case k11 => k_is)
    (case a12 => k_is)
    (case l12 => k_is)
    (case c12 => k_is)
    (case k12 => k_is)
    (case a13 => k_is)
    (case l13 => k_is)
    (case c13 => k_is)
    (case k13 => k_is)
    (case a14 => k_is)
    (case l14 => k_is)
    (case c14 => k_is)
    (case k14 => k_is)
    (case a15 => k_is)
    (case l15 => k_is)
    (case c15 => k_is)
    (case k15 => k_is)
    (case a16 => k_is)
    (case l16 => k_is)
    (case c16 => k_is)
    (case k16 => k_is)
    (case a17 => k_is)
    (case l17 => k_is)
    (case c17 => k_is)
    (case k17 => k_is)
    (case a18 => k_is)
    (case l18 => k_is)
    (case c18 => k_is)
    (case k18 => k_is)
    (case a19 => k_is)
    (case l19 => k_is)
    (case c19 => k_is)
    (case k19 => k_is)
    (case a20 => k_is)
    (case l20 => k_is)
    (case c20 => k_is)
    (case k20 => k_is)
    (case a21 => k_is)
    (case l21 => k_is)
    (case c21 => k_is)
    (case k21 => k_is)
    (case a22 => k_is)
    (case l22 => k_is)
    (case c22 => k_is)
    (case k22 => k_is)
    (case a23 => k_is)
    (case l23 => k_is)
    (case c23 => k_is)
    (case k23 => k_is)
    (case z_abs => k_is)
    (case z_all => k_is)
    (case z_bool => k_is)
    (case z_enumerate => k_is)
    (case z_int => k_is)
    (case z_isinstance => k_is)
    (case z_len => k_is)
    (case z_list => k_is)
    (case z_range => k_is)
    (case z_repr => k_is)
    (case z_set => k_is)
    (case z_sorted => k_is)
    (case z_str => k_is)
    (case z_tuple => k_is)
    (case y_MOST_ROOMS => k_is)
    (case y_MOST_WIRES => k_is)
    (case y_FIGURES => k_is)

