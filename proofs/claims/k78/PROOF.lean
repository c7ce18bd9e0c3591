import PyProof.Rows.All
import Wide.All
import OpenK.AllK
import Wide.FinOn
import HandS.ForMost
import HandS.Defaults
import HandS.TupAny
import HandS.IsInst
import HandS.Flow
import HandS.Deep
import HandS.Style
import HandS.SortInts
import HandS.Lambda
import HandS.ExcOwn
import HandS.Conv
import KE.KIndexWalk
import HandS.EndTab
import KE.KUnpackStar
import HandS.Zip
import HandS.Text
import PyProof.SeqWrite
import KE.GoesEnum
import HandS.Exc
import HandS.ExcInit
import HandS.ExcIs
import HandS.ExcField
import HandS.RaiseMore
import HandS.ReplaceLit
import HandS.More
import HandS.Iter
import HandS.Comp
import KE.GoesRaise
import HandS.Bytes
import KE.KBytesNew
import PyProof.ConsumeS
import PyProof.DelItemList
import PyProof.Walks
import PyProof.ListOps
import HandS.MakeKw
import PyProof.Rows.StrSplitJoin
import PyProof.Rows.StrSplitAre
import PyProof.Rows.StrItems
import PySem.Challenge.RW_carryround_k78_carriers_do_deeds
set_option Elab.async false
set_option linter.all false
set_option maxRecDepth 100000
set_option maxHeartbeats 1000000
/-! Tuples whose object is known: such a tuple has no dict, so its methods can be called. -/
namespace Dl
open PySem PySem.Spec PyProof.Rows L2
/-- the tuple at a, its object known, without a dict -/
def TupO (H : Hp) (a : Addr) (vs : List V) : Prop := ∃ ob : Obj, H a = some (.frz ob (.tup vs)) ∧ ob.dict = none
theorem TupO.sq {K : PySem.W.Frag} {H : Hp} {a : Addr} {vs : List V} (h : TupO H a vs) : SqT K H a vs := let ⟨o, e, _⟩ := h; .inl (.inr ⟨o, e⟩)
theorem TupO.new {H : Hp} {a : Addr} {vs : List V} {ob : Obj} (h : ob.dict = none) : TupO (upd H a (.frz ob (.tup vs))) a vs := ⟨ob, upd_same, h⟩
theorem TupO.ne {H : Hp} {a p : Addr} {vs : List V} {u : HO} (t : TupO H a vs) (h : H p = some u) (n : ∀ ob w, u ≠ .frz ob w) : a ≠ p := by
  obtain ⟨ob, e, _⟩ := t
  exact ne_of e h fun z => n _ _ z.symm
theorem TupO.ne_none {H : Hp} {a p : Addr} {vs : List V} (t : TupO H a vs) (h : H p = none) : a ≠ p := by
  obtain ⟨ob, e, _⟩ := t
  exact ne_of_none e h
theorem TupO.upd {H : Hp} {a p : Addr} {vs : List V} {o : HO} (t : TupO H a vs) (h : a ≠ p) : TupO (L2.upd H p o) a vs := by
  obtain ⟨ob, e, d⟩ := t
  exact ⟨ob, by rw [upd_ne h]; exact e, d⟩
theorem TupO.updL {H : Hp} {a p : Addr} {vs us : List V} {o : HO} (t : TupO H a vs) (h : H p = some (.lst us)) : TupO (L2.upd H p o) a vs := t.upd (t.ne h fun _ _ z => nomatch z)
theorem TupO.inj {H : Hp} {a : Addr} {vs ws : List V} (t : TupO H a vs) (u : TupO H a ws) : vs = ws := by
  obtain ⟨ob, e, d⟩ := t
  obtain ⟨ob2, e2, d2⟩ := u
  rw [e] at e2; cases e2; rfl
theorem Inv.nodict {X : Cx} {pins : List (Addr × Obj)} {σ : L2.St} {H : Hp} {s : Shared} {a : Addr} {vs : List V} (I : Inv X pins σ H s) (t : TupO H a vs) : ∃ ob, s.heap.get? a = some ob ∧ ob.dict = none := by
  obtain ⟨ob, e, d⟩ := t
  obtain ⟨g, _⟩ := I.hok a _ e
  exact ⟨ob, g, d⟩
section
variable {X : Cx} {es : List Expr} {t : TA} {pos : Pos}
/-- a new tuple -/
abbrev NwT (xs : List V) (H : Hp) (Q : VK) : Prop := ∀ p ob, H p = none → ob.dict = none → Q (.ref p) (upd H p (.frz ob (.tup xs)))
theorem obj_tup {P : Program} {w : World} {H : Hp} {h : Heap} {p : Addr} {vs : Array Value} {xs : List V} {its : List Value} {n : Nat} {ob : Obj} (ho : ob = { cls := .type "tuple", data := .seq vs n }) (e : h.get? p = some ob) (hv : vs = its.toArray) (r : Vals xs its) (hz : xs.length ≤ sizeLine) :
    ObjOk P w H h p (.frz ob (.tup xs)) := by
  subst ho hv
  exact ⟨e, hz, its, r, ⟨_, e, rfl, _, rfl⟩⟩
def tTupF (t : TA) : TE := fun σ H Q => t σ H fun xs H1 => xs.length ≤ sizeLine ∧ NwT xs H1 Q
theorem pe_tupF {x1} (h : PA X es t) : PE X (.Tuple es x1 pos) (tTupF t) := by
  refine ⟨fun pins s σ H Q I hq => ?_⟩
  refine wpAny_Tuple_spliced (thn (h.run pos pins s σ H _ I hq) fun us s1 ⟨xs, H1, I1, r, z, q⟩ => ⟨by rw [← r.length]; exact z, ?_⟩)
  exact ⟨.ref s1.heap.objs.size, _, I1.laid (t' := s1.toks) (fun b u e => Heap.get?_push_of_some _ e) (Nat.le_refl _) (obj_tup rfl (Heap.get?_push_size _ rfl) rfl r z), rfl, q _ _ (I1.hok.fresh (Nat.le_refl _)) rfl⟩
/-- t + u -/
def rCatF (K : PySem.W.Frag) : R2 := fun x y H Q => ∃ a b xs ys, x = .ref a ∧ y = .ref b ∧ SqT K H a xs ∧ SqT K H b ys ∧ xs.length + ys.length ≤ sizeLine ∧
  (xs = [] → Q (.ref b) H) ∧ (xs ≠ [] → ys = [] → Q (.ref a) H) ∧ (xs ≠ [] → ys ≠ [] → NwT (xs ++ ys) H Q)
theorem op_catF : OpR X (binaryOp .Add) (rCatF X.K) := by
  intro pins s σ H x y v u Q I rx ry h
  obtain ⟨a, b, xs, ys, rfl, rfl, ha, hb, hz, q0, q1, q2⟩ := h
  cases rx
  cases ry
  obtain ⟨its, r1, p1, _⟩ := I.tuple ha
  obtain ⟨its2, r2, p2, _⟩ := I.tuple hb
  by_cases hx : xs = []
  · subst hx
    cases r1
    exact cat_tup0 p1 p2 ⟨.ref b, H, I, rfl, q0 rfl⟩
  · refine HT.cat_tup p1 p2 (fun z => hx (r1.nil_iff.mp z)) (fun z => ⟨.ref a, H, I, rfl, q1 hx (r2.nil_iff.mp z)⟩) (fun z => ?_) (by rw [← r1.length, ← r2.length]; exact hz)
    refine ⟨.ref s.heap.objs.size, _, I.laid (t' := s.toks) (fun b ob q => Heap.get?_push_of_some _ q) (Nat.le_refl _) (obj_tup rfl (Heap.get?_push_size _ rfl) rfl (r1.append r2) (by rw [List.length_append]; exact hz)), rfl, q2 hx (fun w => z (r2.nil_iff.mpr w)) _ _ (I.hok.fresh (Nat.le_refl _)) rfl⟩
/-- t[lo:hi] -/
def rSlF (K : PySem.W.Frag) : V → Option Int → Option Int → Hp → VK → Prop := fun x lo hi H Q => ∃ a xs, x = .ref a ∧ SqT K H a xs ∧
  (HT.sIx xs.length 0 lo = 0 ∧ HT.sIx xs.length xs.length hi = xs.length → Q (.ref a) H) ∧ (¬ (HT.sIx xs.length 0 lo = 0 ∧ HT.sIx xs.length xs.length hi = xs.length) → NwT (cutV xs lo hi) H Q)
theorem sl_tupF : SlR X (rSlF X.K) := by
  intro pins s σ H x v vl vu lo hi sl Q I rx hs pl pu h
  obtain ⟨a, xs, rfl, hx, q1, q2⟩ := h
  cases rx
  obtain ⟨its, r, ht, hz⟩ := I.tuple hx
  have hlen : its.toArray.size = xs.length := by rw [List.size_toArray]; exact r.length.symm
  refine ⟨"tuple", _, PyProof.Rows.slot_tuple_getitem.lookup, ht.typeIs, ?_⟩
  by_cases hw : HT.sIx xs.length 0 lo = 0 ∧ HT.sIx xs.length xs.length hi = xs.length
  · exact getItem_tuple_whole ht hs pl pu (by rw [hlen]; exact hw) ⟨.ref a, H, I, rfl, q1 hw⟩
  · refine HT.getItem_tuple_cut ht hs pl pu (by rw [hlen]; exact hw) ?_ (by rw [hlen]; exact hz)
    rw [hlen]
    refine ⟨.ref s.heap.objs.size, _, I.laid (t' := s.toks) (fun b ob q => Heap.get?_push_of_some _ q) (Nat.le_refl _) (obj_tup rfl (Heap.get?_push_size _ rfl) rfl ((r.drop (HT.sIx xs.length 0 lo)).take (HT.sIx xs.length xs.length hi - HT.sIx xs.length 0 lo)) (Nat.le_trans (cutV_length xs lo hi) hz)), rfl, q2 hw _ _ (I.hok.fresh (Nat.le_refl _)) rfl⟩
/-- tuple(xs) -/
def rTupF (K : PySem.W.Frag) : List V → Hp → VK → Prop := fun xs H Q => ∃ p ys, xs = [.ref p] ∧ ((SqL K H p ys ∧ NwT ys H Q) ∨ (SqT K H p ys ∧ Q (.ref p) H))
theorem call_tupF : CallR X (.type "tuple") (rTupF X.K) := by
  intro pins s σ H xs us Q I r h
  obtain ⟨p, ys, rfl, h⟩ := h
  obtain ⟨u, rfl, rx⟩ := vals1 r
  cases rx
  rcases h with ⟨hq, q⟩ | ⟨hq, q⟩
  · obtain ⟨its, r', pl, hz⟩ := I.list hq
    have hlen := r'.length
    refine call_tuple_list pl.isList (fun h' kp => ?_) (by simp only [List.size_toArray] <;> omega)
    have I1 : Inv X pins σ H { s with heap := h' } := I.kept (t' := s.toks) kp
    exact ⟨.ref h'.objs.size, _, I1.laid (t' := s.toks) (fun b o e => Heap.get?_push_of_some _ e) (Nat.le_refl _) (obj_tup rfl (Heap.get?_push_size _ rfl) rfl r' hz), rfl, q _ _ (I1.hok.fresh (Nat.le_refl _)) rfl⟩
  · obtain ⟨its, r', pl, hz⟩ := I.tuple hq
    exact call_tuple_same pl ⟨.ref p, H, I, rfl, q⟩
end
/-! ### enumerate(list): each pair's object known -/
def IteF (K : PySem.W.Frag) (a : Addr) : It :=
  ⟨fun i H => ∃ (xs : List V) (x : V), SqL K H a xs ∧ xs[i]? = some x, fun i H v H' => ∃ T x ob, v = .ref T ∧ H T = none ∧ ob.dict = none ∧ H' = upd H T (.frz ob (.tup [.int (i : Nat), x])) ∧ ∀ xs, SqL K H a xs → xs[i]? = some x, fun i H => ∃ xs : List V, SqL K H a xs ∧ xs.length ≤ i⟩
theorem turn_enumF {P : Program} {w : World} {K : PySem.W.Frag} {elts : List Expr} {kk : Nat} {tpos : Pos} (a e it : Addr) :
    Turn P w K (.Tuple elts kk tpos) (IteF K a) [e, it] e (fun i h => (∃ old, IsEnum h e it ((i : Nat) : Int) old) ∧ h.IsListIter it a i ∧ e ≠ it) where
  mem := by simp
  obj := fun i h ⟨⟨old, he⟩, ⟨o, ho, hc, hd⟩, _⟩ b hb => by
    rcases (show b = e ∨ b = it by simpa using hb) with z | z
    · rw [z]; exact ⟨_, he, fun v q => nomatch q⟩
    · rw [z]; exact ⟨o, ho, fun v q => by rw [hd] at q; cases q⟩
  keep := fun i h h' ⟨⟨old, he⟩, hi, hne⟩ k => ⟨⟨old, k e (by simp) _ he⟩, hi.at fun o q => k it (by simp) o q, hne⟩
  item := by
    rintro X rfl rfl rfl hc i pins s σ H E inv hf ⟨⟨old, he⟩, hit, hne⟩ ⟨xs, x, hq, hx⟩
    obtain ⟨its, rv, p, hz⟩ := inv.list hq
    obtain ⟨u, hu, ru⟩ := rv.get hx
    have hel : e < s.heap.objs.size := Heap.lt_size he
    have hil : it < s.heap.objs.size := by obtain ⟨_, q, _⟩ := hit; exact Heap.lt_size q
    refine wpAny_pyNext_enum_item he hit p.isList (x := u) (by simpa using hu) hne fun h' ho hit' hT hsz hk => ?_
    refine ⟨_, rfl, wpAny_letOwnedTupleGo_enum (s := { s with heap := h', toks := s.toks + 1 }) ho fun h'' he' sb => ?_⟩
    have hT2 : h''.get? s.heap.objs.size = some { cls := .type "tuple", data := .seq #[.int i s.toks, u] } := (sb.2 _ (Nat.ne_of_gt hel)).trans hT
    have rr : Vals [V.int (i : Nat), x] [.int i s.toks, u] := .cons ⟨_, rfl⟩ (.cons ru .nil)
    have new := obj_tup (P := X.prog) (w := X.w) (H := upd H s.heap.objs.size (.frz { cls := .type "tuple", data := .seq #[.int i s.toks, u] } (.tup [.int (i : Nat), x]))) rfl hT2 rfl rr (by show 2 ≤ sizeLine; decide)
    have inv1 := inv.turnedNew (t' := s.toks + 1) (ch := [e, it]) (fun b ob hb q => (sb.2 b (fun z => hb (by simp [z]))).trans (hk b ob (fun z => hb (by simp [z])) (fun z => hb (by simp [z])) q)) hf (Nat.le_refl _) new
    refine ⟨.ref s.heap.objs.size, _, inv1, rfl, ⟨_, x, _, rfl, inv.hok.fresh (Nat.le_refl _), rfl, rfl, fun ys hy => by rw [inv.list_inj hy hq]; exact hx⟩, ⟨⟨u, ?_⟩, hit'.at fun o q => (sb.2 it (Ne.symm hne)).trans q, hne⟩, fun b hb => ?_⟩
    · rw [show ((i + 1 : Nat) : Int) = (i : Int) + 1 by omega]; exact he'
    · have hb' : b < s.heap.objs.size := by
        rcases (show b = e ∨ b = it by simpa using hb) with z | z
        · rw [z]; exact hel
        · rw [z]; exact hil
      rw [upd_ne (Nat.ne_of_lt hb')]
      exact (hf b hb).1
  done := by
    rintro X rfl rfl rfl hc i pins s σ H E inv hf ⟨⟨old, he⟩, hit, hne⟩ ⟨xs, hq, hx⟩
    obtain ⟨its, rv, p, hz⟩ := inv.list hq
    obtain ⟨f0, f1, f2, f3, f4, f5⟩ := hf it (by simp)
    have hl := rv.length
    exact wpAny_pyNext_enum_end (inv.ok.hd hc) he hit p.isList (by simp; omega) fun h' eb => ⟨rfl, inv.turned (t' := s.toks) (fun b o hb q => eb b o hb q) f0 f1 f3 f4 f5⟩
  self := fun A i s Q E ⟨⟨_, he⟩, _⟩ h => wpAny_pyIter_enum he h
def iEnumF (K : PySem.W.Frag) (ta : TA) : TI := fun σ H R => ta σ H fun vs H1 => ∃ a xs, vs = [.ref a] ∧ SqL K H1 a xs ∧ R (IteF K a) H1
theorem pi_enumF {X : Cx} {e : Expr} {ta : TA} {p pos tpos : Pos} {elts : List Expr} {kk : Nat} (hg : Gl X "enumerate") (hm : X.mg "enumerate" = none) (ha : PA X [e] ta) (hs : starEach [e] X.env = [(false, eval e X.env)] := by rfl) :
    PI X (.Tuple elts kk tpos) (.Call (.Name "enumerate" p) [e] [] pos) (iEnumF X.K ta) :=
  ⟨fun pins s σ H R inv h => Call_ (ld_blt inv hg hm boot_enumerate (PyProof.Rows.callWith_type1 (thn (ha.run pos pins s σ H _ inv h) fun us s1 ⟨vs, H1, inv1, r1, a, xs, ex, hq, q⟩ => by
    subst ex
    cases r1 with
    | cons r rr =>
      cases rr
      cases r
      obtain ⟨its, rv, p', hz⟩ := inv1.list hq
      refine call_enumerate_list p'.isList fun h' he hit hsz hk => wpAny_pyIter_enum he ?_
      have inv2 : Inv X pins σ H1 { s1 with heap := h' } := inv1.kept (t' := s1.toks) hk
      refine ⟨s1.heap.objs.size + 1, [s1.heap.objs.size + 1, s1.heap.objs.size], _, _, H1, rfl, inv2, turn_enumF a (s1.heap.objs.size + 1) s1.heap.objs.size, ⟨⟨.none, he⟩, hit, Nat.succ_ne_self _⟩, fun b hb => ?_, q⟩
      have hle : s1.heap.objs.size ≤ b := by
        rcases (show b = s1.heap.objs.size + 1 ∨ b = s1.heap.objs.size by simpa using hb) with z | z
        · rw [z]; exact Nat.le_add_right _ _
        · rw [z]; exact Nat.le_refl _
      exact inv1.fpOk hle (inv1.hok.fresh hle)) hs rfl))⟩
end Dl

set_option Elab.async false
set_option linter.all false
set_option maxRecDepth 100000
set_option maxHeartbeats 1000000
/-! A layer of plain data over the hand layer: values are data; a list that one slot alone holds may change; what is shared and changes stands in a store of roots. -/
namespace Dl
open PySem PySem.Spec PyProof.Rows L2

inductive D where
  | non | bl (b : Bool) | int (i : Int) | str (x : Str) | byt (b : Array UInt8)
  | tup (ds : List D) | lst (ds : List D) | obj (o : HO) | opq (v : V)
  /-- a root -/
  | loc (a : Addr)
  /-- a class of the program -/
  | cls (c : Str)
  /-- an exception: its class; its one field -/
  | exc0 (c : Str) | exc1 (c f : Str) (d : D)
/-- what a root holds: flat data -/
inductive RO where
  | lst (ds : List D)
  | ins (c : Str) (fs : List (Str × D))
  | dK (kvs : List (Key × D))
abbrev Sto := Addr → Option RO
def updS (n : Sto) (a : Addr) (o : RO) : Sto := fun b => if b = a then some o else n b
theorem updS_same {n : Sto} {a : Addr} {o : RO} : updS n a o a = some o := by unfold updS; rw [if_pos rfl]
theorem updS_ne {n : Sto} {a b : Addr} {o : RO} (h : b ≠ a) : updS n a o b = n b := by unfold updS; rw [if_neg h]
theorem updS_upd {n : Sto} {a : Addr} {o u : RO} : updS (updS n a o) a u = updS n a u := by
  funext b; unfold updS; split <;> rfl

/-- what a law has: the tables of code objects, the names -/
class XP where
  T : List (Addr × Str)
  mg : Str → Option Value
variable [XP]
/-- an exception that was caught: its class, its dict -/
def cxo (a : Addr) (cls : Value) (d : Option Addr) : HO := .ext fun h => ∃ oe : Obj, h.get? a = some oe ∧ Zc cls d oe ∧ ∃ vs, oe.data = .fields vs
theorem cxo_tbl {a : Addr} {c : Value} {d : Option Addr} (ps : Array Value) : cxo a c d ≠ .tbl ps := fun z => by
  have z' : HO.ext _ = HO.tbl ps := z
  cases z'
theorem cxo_tup {a : Addr} {c : Value} {d : Option Addr} {xs : List V} : cxo a c d ≠ .tup xs := fun z => by
  have z' : HO.ext _ = HO.tup xs := z
  cases z'
theorem cxo_lst {a : Addr} {c : Value} {d : Option Addr} {xs : List V} : cxo a c d ≠ .lst xs := fun z => by
  have z' : HO.ext _ = HO.lst xs := z
  cases z'
/-- no object, or a table -/
def NewS (H : Hp) (a : Addr) : Prop := ∀ o, H a = some o → ∃ ps, o = HO.tbl ps
theorem NewS.of {H : Hp} {a : Addr} (h : H a = none) : NewS H a := fun o e => by rw [h] at e; cases e
theorem NewS.neO {H : Hp} {a b : Addr} {o : HO} (h : NewS H a) (e : H b = some o) (nt : ∀ ps, o ≠ HO.tbl ps) : a ≠ b := fun z => by
  subst z
  obtain ⟨ps, q⟩ := h _ e
  exact nt ps q
theorem NewS.ne {H : Hp} {a b : Addr} {vs : List V} (h : NewS H a) (e : H b = some (.lst vs)) : a ≠ b := h.neO e (by intro _ z; cases z)
/-- all but the roots and the tables as it was; the roots stay roots -/
structure SameP (n : Sto) (H : Hp) (n' : Sto) (H' : Hp) : Prop where
  keep : ∀ a o, H a = some o → n a = none → (nt : ∀ ps, o ≠ HO.tbl ps := by intro _ z; cases z) → H' a = some o ∧ n' a = none
  root : ∀ a, n' a = none → n a = none
theorem SameP.tup {n n' : Sto} {H H' : Hp} {a : Addr} {vs : List V} (s : SameP n H n' H') (t : TupO H a vs) (r : n a = none) : TupO H' a vs ∧ n' a = none := by
  obtain ⟨ob, e, d⟩ := t
  obtain ⟨k1, k2⟩ := s.keep _ _ e r (by intro _ z; cases z)
  exact ⟨⟨ob, k1, d⟩, k2⟩
instance {n n' : Sto} {H H' : Hp} : CoeFun (SameP n H n' H') (fun _ => ∀ a o, H a = some o → n a = none → (nt : ∀ ps, o ≠ HO.tbl ps := by intro _ z; cases z) → H' a = some o) := ⟨fun s a o h r nt => (s.keep a o h r nt).1⟩
theorem SameP.refl (n : Sto) (H : Hp) : SameP n H n H := ⟨fun _ _ h r _ => ⟨h, r⟩, fun _ r => r⟩
theorem SameP.trans {n n1 n2 : Sto} {H H1 H2 : Hp} (a : SameP n H n1 H1) (b : SameP n1 H1 n2 H2) : SameP n H n2 H2 :=
  ⟨fun c o h r nt => let ⟨h1, r1⟩ := a.keep c o h r nt; b.keep c o h1 r1 nt, fun c r => a.root c (b.root c r)⟩
theorem SameP.of {n : Sto} {H H' : Hp} (a : Same H H') : SameP n H n H' := ⟨fun c o h r _ => ⟨a c o h, r⟩, fun _ r => r⟩
theorem tabs_wrO {T : List (Addr × Str)} {H : Hp} {p : Addr} {o u : HO} (h : H p = some o) (nt : ∀ ps, o ≠ .tbl ps) (nc : ∀ c q, o ≠ LamX.CodeO c q) (t : LamX.Tabs T H) : LamX.Tabs T (upd H p u) := fun q hq => by
  obtain ⟨ps, a1, a2, a3⟩ := t q hq
  refine ⟨ps, by rw [upd_ne (ne_of a1 h (fun z => nt ps z.symm))]; exact a1, a2, fun pos cv hc => ?_⟩
  obtain ⟨c, e1, e2⟩ := a3 pos cv hc
  exact ⟨c, e1, by rw [upd_ne (ne_of e2 h (fun z => nc c _ z.symm))]; exact e2⟩
theorem tabs_wr {T : List (Addr × Str)} {H : Hp} {p : Addr} {us : List V} {u : HO} (h : H p = some (.lst us)) (t : LamX.Tabs T H) : LamX.Tabs T (upd H p u) :=
  tabs_wrO h (by intro _ z; cases z) (by intro c q z; unfold LamX.CodeO at z; cases z) t
theorem same_new {p : Addr} {H : Hp} {o : HO} (h : H p = none) : Same H (upd H p o) := fun a u e => by
  rw [upd_ne (ne_of_none e h)]; exact e
theorem SameP.new {n : Sto} {p : Addr} {H : Hp} {o : HO} (h : H p = none) : SameP n H n (upd H p o) := SameP.of (same_new h)
theorem SameP.newS {n n' : Sto} {a : Addr} {H H' : Hp} (s : SameP n H n' H') (h : NewS H' a) (r : n' a = none) : NewS H a := fun o e => by
  cases o with
  | tbl ps => exact ⟨ps, rfl⟩
  | _ => exact h _ (s.keep a _ e (s.root a r) (by intro _ z; cases z)).1
theorem SameP.none {n n' : Sto} {a : Addr} {H H' : Hp} (s : SameP n H n' H') (h : H' a = none) (r : n' a = none) : NewS H a := s.newS (.of h) r

mutual
inductive Rp (n : Sto) (A : Addr → Prop) (H : Hp) : V → D → Prop
  | non : Rp n A H .non .non
  | bl (b : Bool) : Rp n A H (.bl b) (.bl b)
  | int (i : Int) : Rp n A H (.int i) (.int i)
  | str (x : Str) : Rp n A H (.str x) (.str x)
  | byt (x : Array UInt8) : Rp n A H (.byt x) (.byt x)
  | opq (v : V) : Rp n A H v (.opq v)
  | loc (a : Addr) : Rp n A H (.ref a) (.loc a)
  | cls {c : Str} {C : Addr} : XP.mg c = some (.ref C) → Rp n A H (.ref C) (.cls c)
  | tup {a : Addr} {vs : List V} {ds : List D} : TupO H a vs → n a = none → RpAll n A H vs ds → Rp n A H (.ref a) (.tup ds)
  | lst {a : Addr} {vs : List V} {ds : List D} : H a = some (.lst vs) → n a = none → A a → RpAll n A H vs ds → Rp n A H (.ref a) (.lst ds)
  | obj {a : Addr} {o : HO} : H a = some o → n a = none → A a → (∀ ps, o ≠ HO.tbl ps) → Rp n A H (.ref a) (.obj o)
  | exc0 {a C : Addr} {c : Str} : XP.mg c = some (.ref C) → H a = some (cxo a (.ref C) none) → n a = none → Rp n A H (.ref a) (.exc0 c)
  | exc1 {a C dd : Addr} {c f : Str} {v : V} {y : D} : XP.mg c = some (.ref C) → H a = some (cxo a (.ref C) (some dd)) → n a = none → H dd = some (.xd [(f, v)]) → n dd = none → Rp n A H v y → Rp n A H (.ref a) (.exc1 c f y)
inductive RpAll (n : Sto) (A : Addr → Prop) (H : Hp) : List V → List D → Prop
  | nil : RpAll n A H [] []
  | cons {v : V} {vs : List V} {d : D} {ds : List D} : Rp n A H v d → RpAll n A H vs ds → RpAll n A H (v :: vs) (d :: ds)
end

/-- the heap may change where no rep stands -/
structure Stay (n : Sto) (A : Addr → Prop) (H : Hp) (n' : Sto) (A' : Addr → Prop) (H' : Hp) : Prop where
  tup : ∀ a vs, TupO H a vs → n a = none → TupO H' a vs ∧ n' a = none
  any : ∀ a o, H a = some o → n a = none → A a → (∀ ps, o ≠ HO.tbl ps) → H' a = some o ∧ n' a = none ∧ A' a
  cxo : ∀ a c d, H a = some (cxo a c d) → n a = none → H' a = some (Dl.cxo a c d) ∧ n' a = none
  xd : ∀ a fs, H a = some (.xd fs) → n a = none → H' a = some (.xd fs) ∧ n' a = none
mutual
theorem Rp.stay {n n' : Sto} {A A' : Addr → Prop} {H H' : Hp} (s : Stay n A H n' A' H') : ∀ (d : D) (v : V), Rp n A H v d → Rp n' A' H' v d
  | .non, _, h => by cases h; exact .non
  | .bl _, _, h => by cases h; exact .bl _
  | .int _, _, h => by cases h; exact .int _
  | .str _, _, h => by cases h; exact .str _
  | .byt _, _, h => by cases h; exact .byt _
  | .opq _, _, h => by cases h; exact .opq _
  | .loc _, _, h => by cases h; exact .loc _
  | .cls _, _, h => by cases h with | cls h1 => exact .cls h1
  | .tup ds, _, h => by
    cases h with
    | tup h1 h2 h3 => exact .tup (s.tup _ _ h1 h2).1 (s.tup _ _ h1 h2).2 (RpAll.stay s ds _ h3)
  | .lst ds, _, h => by
    cases h with
    | lst h1 h2 h4 h3 =>
      obtain ⟨k1, k2, k3⟩ := s.any _ _ h1 h2 h4 (by intro _ z; cases z)
      exact .lst k1 k2 k3 (RpAll.stay s ds _ h3)
  | .obj o, _, h => by
    cases h with
    | obj h1 h2 h4 h5 =>
      obtain ⟨k1, k2, k3⟩ := s.any _ _ h1 h2 h4 h5
      exact .obj k1 k2 k3 h5
  | .exc0 c, _, h => by
    cases h with
    | exc0 h1 h2 h3 => exact .exc0 h1 (s.cxo _ _ _ h2 h3).1 (s.cxo _ _ _ h2 h3).2
  | .exc1 c f y, _, h => by
    cases h with
    | exc1 h1 h2 h3 h4 h5 h6 => exact .exc1 h1 (s.cxo _ _ _ h2 h3).1 (s.cxo _ _ _ h2 h3).2 (s.xd _ _ h4 h5).1 (s.xd _ _ h4 h5).2 (Rp.stay s y _ h6)
theorem RpAll.stay {n n' : Sto} {A A' : Addr → Prop} {H H' : Hp} (s : Stay n A H n' A' H') : ∀ (ds : List D) (vs : List V), RpAll n A H vs ds → RpAll n' A' H' vs ds
  | [], _, h => by cases h; exact .nil
  | d :: ds, _, h => by
    cases h with
    | cons h1 h2 => exact .cons (Rp.stay s d _ h1) (RpAll.stay s ds _ h2)
end
theorem Stay.of {n n' : Sto} {A A' : Addr → Prop} {H H' : Hp} (s : SameP n H n' H') (i : ∀ a o, H a = some o → n a = none → (∀ ps, o ≠ HO.tbl ps) → A a → A' a) : Stay n A H n' A' H' :=
  ⟨fun a vs e r => s.tup e r, fun a o e r q nt => let ⟨h1, h2⟩ := s.keep a o e r nt; ⟨h1, h2, i a o e r nt q⟩, fun a c d e r => s.keep a _ e r cxo_tbl, fun a fs e r => s.keep a _ e r (by intro _ z; cases z)⟩
section
variable {n n' : Sto} {A A' : Addr → Prop} {H H' : Hp}
theorem Rp.same {v : V} {d : D} (h : Rp n A H v d) (s : SameP n H n' H') : Rp n' A H' v d := Rp.stay (.of s fun _ _ _ _ _ q => q) d v h
theorem RpAll.same {v : List V} {d : List D} (h : RpAll n A H v d) (s : SameP n H n' H') : RpAll n' A H' v d := RpAll.stay (.of s fun _ _ _ _ _ q => q) d v h
theorem Rp.imp {v : V} {d : D} (h : Rp n A H v d) (s : ∀ a o, H a = some o → A a → A' a) : Rp n A' H v d := Rp.stay (.of (.refl n H) fun a o e _ _ q => s a o e q) d v h
theorem RpAll.imp {v : List V} {d : List D} (h : RpAll n A H v d) (s : ∀ a o, H a = some o → A a → A' a) : RpAll n A' H v d := RpAll.stay (.of (.refl n H) fun a o e _ _ q => s a o e q) d v h
theorem Rp.imp' {v : V} {d : D} (h : Rp n A H v d) (s : ∀ a o, H a = some o → (∀ ps, o ≠ HO.tbl ps) → A a → A' a) : Rp n A' H v d := Rp.stay (.of (.refl n H) fun a o e _ nt q => s a o e nt q) d v h
theorem RpAll.imp' {v : List V} {d : List D} (h : RpAll n A H v d) (s : ∀ a o, H a = some o → (∀ ps, o ≠ HO.tbl ps) → A a → A' a) : RpAll n A' H v d := RpAll.stay (.of (.refl n H) fun a o e _ nt q => s a o e nt q) d v h
end
/- no list within -/
mutual
def flat : D → Bool
  | .lst _ => false
  | .obj _ => false
  | .tup ds => flatAll ds
  | .exc1 _ _ y => flat y
  | _ => true
def flatAll : List D → Bool
  | [] => true
  | d :: ds => flat d && flatAll ds
end
mutual
theorem Rp.flat {n : Sto} {A A' : Addr → Prop} {H : Hp} : ∀ (d : D) (v : V), Dl.flat d = true → Rp n A H v d → Rp n A' H v d
  | .non, _, _, h => by cases h; exact .non
  | .bl _, _, _, h => by cases h; exact .bl _
  | .int _, _, _, h => by cases h; exact .int _
  | .str _, _, _, h => by cases h; exact .str _
  | .byt _, _, _, h => by cases h; exact .byt _
  | .opq _, _, _, h => by cases h; exact .opq _
  | .loc _, _, _, h => by cases h; exact .loc _
  | .cls _, _, _, h => by cases h with | cls h1 => exact .cls h1
  | .tup ds, _, f, h => by
    cases h with
    | tup h1 h2 h3 => exact .tup h1 h2 (RpAll.flat ds _ (by simpa only [Dl.flat] using f) h3)
  | .lst ds, _, f, h => by simp only [Dl.flat] at f; cases f
  | .obj o, _, f, h => by simp only [Dl.flat] at f; cases f
  | .exc0 c, _, _, h => by cases h with | exc0 h1 h2 h3 => exact .exc0 h1 h2 h3
  | .exc1 c f y, _, q, h => by
    cases h with
    | exc1 h1 h2 h3 h4 h5 h6 => exact .exc1 h1 h2 h3 h4 h5 (Rp.flat y _ (by simpa only [Dl.flat] using q) h6)
theorem RpAll.flat {n : Sto} {A A' : Addr → Prop} {H : Hp} : ∀ (ds : List D) (vs : List V), flatAll ds = true → RpAll n A H vs ds → RpAll n A' H vs ds
  | [], _, _, h => by cases h; exact .nil
  | d :: ds, _, f, h => by
    simp only [flatAll, Bool.and_eq_true] at f
    cases h with
    | cons h1 h2 => exact .cons (Rp.flat d _ f.1 h1) (RpAll.flat ds _ f.2 h2)
end
omit [XP] in
theorem flatAll_iff : ∀ {ds : List D}, flatAll ds = true ↔ ∀ d ∈ ds, flat d = true
  | [] => by simp [flatAll]
  | d :: ds => by simp [flatAll, flatAll_iff (ds := ds)]
omit [XP] in
theorem flatAll_map {α : Type} {f : α → D} (h : ∀ x, flat (f x) = true) (xs : List α) : flatAll (xs.map f) = true := by
  rw [flatAll_iff]
  intro d hd
  obtain ⟨x, _, rfl⟩ := List.mem_map.mp hd
  exact h x

section
variable {n : Sto} {A : Addr → Prop} {H : Hp}
theorem RpAll.length : ∀ {vs : List V} {ds : List D}, RpAll n A H vs ds → vs.length = ds.length
  | _, _, .nil => rfl
  | _, _, .cons _ h => by simp [RpAll.length h]
theorem RpAll.get : ∀ {vs : List V} {ds : List D} {i : Nat} {d : D}, RpAll n A H vs ds → ds[i]? = some d → ∃ v, vs[i]? = some v ∧ Rp n A H v d
  | _, _, _, _, .nil, e => by simp at e
  | _, _, 0, _, .cons r _, e => by simp at e; subst e; exact ⟨_, rfl, r⟩
  | _, _, i + 1, d, .cons _ t, e => by
    obtain ⟨u, h1, h2⟩ := RpAll.get (i := i) (d := d) t (by simpa using e)
    exact ⟨u, by simpa using h1, h2⟩
theorem RpAll.get' : ∀ {vs : List V} {ds : List D} {i : Nat} {v : V}, RpAll n A H vs ds → vs[i]? = some v → ∃ d, ds[i]? = some d ∧ Rp n A H v d
  | _, _, _, _, .nil, e => by simp at e
  | _, _, 0, _, .cons r _, e => by simp at e; subst e; exact ⟨_, rfl, r⟩
  | _, _, i + 1, d, .cons _ t, e => by
    obtain ⟨u, h1, h2⟩ := RpAll.get' (i := i) (v := d) t (by simpa using e)
    exact ⟨u, by simpa using h1, h2⟩
theorem RpAll.append : ∀ {vs us : List V} {ds es : List D}, RpAll n A H vs ds → RpAll n A H us es → RpAll n A H (vs ++ us) (ds ++ es)
  | _, _, _, _, .nil, s => s
  | _, _, _, _, .cons r t, s => .cons r (RpAll.append t s)
theorem RpAll.take : ∀ {vs : List V} {ds : List D} (k : Nat), RpAll n A H vs ds → RpAll n A H (vs.take k) (ds.take k)
  | _, _, 0, _ => .nil
  | _, _, _ + 1, .nil => .nil
  | _, _, k + 1, .cons r t => .cons r (RpAll.take k t)
theorem RpAll.drop : ∀ {vs : List V} {ds : List D} (k : Nat), RpAll n A H vs ds → RpAll n A H (vs.drop k) (ds.drop k)
  | _, _, 0, r => r
  | _, _, _ + 1, .nil => .nil
  | _, _, k + 1, .cons _ t => RpAll.drop k t
theorem RpAll.set {v : V} {d : D} (r : Rp n A H v d) : ∀ {vs : List V} {ds : List D} (i : Nat), RpAll n A H vs ds → RpAll n A H (vs.set i v) (ds.set i d)
  | _, _, _, .nil => .nil
  | _, _, 0, .cons _ t => .cons r t
  | _, _, i + 1, .cons q t => .cons q (RpAll.set r i t)
theorem RpAll.reverse : ∀ {vs : List V} {ds : List D}, RpAll n A H vs ds → RpAll n A H vs.reverse ds.reverse
  | _, _, .nil => .nil
  | _, _, .cons r t => by
    rw [List.reverse_cons, List.reverse_cons]
    exact (RpAll.reverse t).append (.cons r .nil)
theorem RpAll.ints : ∀ {vs : List V} {ns : List Int}, RpAll n A H vs (ns.map D.int) → vs = ns.map V.int
  | _, [], h => by cases h; rfl
  | _, k :: ns, h => by
    rw [List.map_cons] at h
    cases h with
    | cons h1 h2 => cases h1; rw [RpAll.ints h2]; rfl
theorem RpAll.bls : ∀ {vs : List V} {ns : List Bool}, RpAll n A H vs (ns.map D.bl) → vs = ns.map V.bl
  | _, [], h => by cases h; rfl
  | _, k :: ns, h => by
    rw [List.map_cons] at h
    cases h with
    | cons h1 h2 => cases h1; rw [RpAll.bls h2]; rfl
theorem RpAll.strs : ∀ {vs : List V} {ns : List Str}, RpAll n A H vs (ns.map D.str) → vs = ns.map V.str
  | _, [], h => by cases h; rfl
  | _, k :: ns, h => by
    rw [List.map_cons] at h
    cases h with
    | cons h1 h2 => cases h1; rw [RpAll.strs h2]; rfl
theorem RpAll.of_ints : ∀ (ns : List Int), RpAll n A H (ns.map V.int) (ns.map D.int)
  | [] => .nil
  | k :: ns => .cons (.int k) (RpAll.of_ints ns)
theorem RpAll.of_strs : ∀ (ns : List Str), RpAll n A H (ns.map V.str) (ns.map D.str)
  | [] => .nil
  | k :: ns => .cons (.str k) (RpAll.of_strs ns)
theorem RpAll.of_bls : ∀ (ns : List Bool), RpAll n A H (ns.map V.bl) (ns.map D.bl)
  | [] => .nil
  | k :: ns => .cons (.bl k) (RpAll.of_bls ns)
end

/-! ### the roots -/
abbrev NoA : Addr → Prop := fun _ => False
def RoR (n : Sto) (H : Hp) (a : Addr) : RO → Prop
  | .lst ds => ∃ vs, H a = some (.lst vs) ∧ RpAll n NoA H vs ds
  | .ins c fs => ∃ C dx vfs, XP.mg c = some (.ref C) ∧ H a = some (.ins C dx vfs) ∧ H dx = some (.own a) ∧ n dx = none ∧ vfs.map Prod.fst = fs.map Prod.fst ∧ RpAll n NoA H (vfs.map Prod.snd) (fs.map Prod.snd)
  | .dK kvs => ∃ vks, H a = some (.dK vks) ∧ vks.map Prod.fst = kvs.map Prod.fst ∧ RpAll n NoA H (vks.map Prod.snd) (kvs.map Prod.snd)
structure SOk (n : Sto) (H : Hp) : Prop where
  tab : LamX.Tabs XP.T H
  ro : ∀ a ro, n a = some ro → RoR n H a ro
theorem RoR.at {n : Sto} {H : Hp} {a : Addr} {ro : RO} (r : RoR n H a ro) : ∃ o, H a = some o ∧ (∀ ps, o ≠ HO.tbl ps) ∧ (∀ ob w, o ≠ .frz ob w) ∧ (∀ x, o ≠ .own x) ∧ (∀ fs, o ≠ .xd fs) ∧ ∀ φ, o ≠ .ext φ := by
  cases ro with
  | lst ds => obtain ⟨vs, h, _⟩ := r; exact ⟨_, h, nofun, (fun _ _ z => nomatch z), nofun, nofun, nofun⟩
  | ins c fs => obtain ⟨C, dx, vfs, _, h, _⟩ := r; exact ⟨_, h, nofun, (fun _ _ z => nomatch z), nofun, nofun, nofun⟩
  | dK kvs => obtain ⟨vks, h, _⟩ := r; exact ⟨_, h, nofun, (fun _ _ z => nomatch z), nofun, nofun, nofun⟩
theorem SOk.nw {n : Sto} {H : Hp} {a : Addr} (k : SOk n H) (h : NewS H a) : n a = none := by
  cases e : n a with
  | none => rfl
  | some ro =>
    obtain ⟨o, h1, h2, _⟩ := (k.ro a ro e).at
    obtain ⟨ps, q⟩ := h o h1
    exact absurd q (h2 ps)
theorem SOk.fresh {n : Sto} {H : Hp} (k : SOk n H) : ∀ a, H a = none → n a = none := fun a h => k.nw (.of h)
theorem SOk.no_tup {n : Sto} {H : Hp} {a : Addr} {vs : List V} (k : SOk n H) (h : TupO H a vs) : n a = none := by
  obtain ⟨ob, h, _⟩ := h
  cases e : n a with
  | none => rfl
  | some ro =>
    obtain ⟨o, h1, _, h2, _⟩ := (k.ro a ro e).at
    rw [h] at h1
    cases h1
    exact absurd rfl (h2 _ _)
theorem RoR.stay {n n' : Sto} {H H' : Hp} {a : Addr} {ro : RO} (r : RoR n H a ro) (s : Stay n NoA H n' NoA H') (h : ∀ o, H a = some o → H' a = some o) (ho : ∀ dx, H dx = some (.own a) → n dx = none → H' dx = some (.own a) ∧ n' dx = none) : RoR n' H' a ro := by
  cases ro with
  | lst ds => obtain ⟨vs, h1, h2⟩ := r; exact ⟨vs, h _ h1, RpAll.stay s _ _ h2⟩
  | ins c fs =>
    obtain ⟨C, dx, vfs, h1, h2, h3, h4, h5, h6⟩ := r
    exact ⟨C, dx, vfs, h1, h _ h2, (ho _ h3 h4).1, (ho _ h3 h4).2, h5, RpAll.stay s _ _ h6⟩
  | dK kvs => obtain ⟨vks, h1, h2, h3⟩ := r; exact ⟨vks, h _ h1, h2, RpAll.stay s _ _ h3⟩
theorem SOk.same {n : Sto} {H H' : Hp} (k : SOk n H) (s : Same H H') : SOk n H' := ⟨k.tab.ext s, fun a ro e =>
  (k.ro a ro e).stay (.of (.of s) fun _ _ _ _ _ q => q) (fun o h => s a o h) fun dx h r => ⟨s _ _ h, r⟩⟩

/-! ### what slots hold -/
inductive SV where
  /-- data that stays -/
  | frz (d : D)
  /-- a list that this slot alone holds -/
  | own (ds : List D)
abbrev DEnv := List (Option SV)
/-- not one of the lists that slots hold alone, nor one that is under way -/
def NO (av : List Addr) (σ : L2.St) (Δ : DEnv) (a : Addr) : Prop := a ∉ av ∧ ∀ (i : Nat) (ds : List D), Δ[i]? = some (some (SV.own ds)) → σ[i]? ≠ some (some (V.ref a))
/-- the state: n0 H0 the store and the heap at the entry, fr what stays besides the slots, av lists under way -/
structure StR (n0 : Sto) (H0 : Hp) (fr : List (V × D)) (av : List Addr) (n : Sto) (σ : L2.St) (Δ : DEnv) (H : Hp) : Prop where
  same : SameP n0 H0 n H
  pen : SOk n H
  len : σ.length = Δ.length
  frz : ∀ (i : Nat) (d : D), Δ[i]? = some (some (SV.frz d)) → ∃ v, σ[i]? = some (some v) ∧ Rp n (NO av σ Δ) H v d
  own : ∀ (i : Nat) (ds : List D), Δ[i]? = some (some (SV.own ds)) → ∃ p vs, σ[i]? = some (some (V.ref p)) ∧ p ∉ av ∧ (NewS H0 p ∧ n p = none) ∧ H p = some (.lst vs) ∧ RpAll n (NO av σ Δ) H vs ds
  dis : ∀ (i j : Nat) (p : Addr) (di dj : List D), Δ[i]? = some (some (SV.own di)) → Δ[j]? = some (some (SV.own dj)) → σ[i]? = some (some (V.ref p)) → σ[j]? = some (some (V.ref p)) → i = j
  gh : ∀ g ∈ fr, Rp n (NO av σ Δ) H g.1 g.2
  avn : ∀ a ∈ av, n a = none ∧ ∃ vs, H a = some (.lst vs)
section
variable {n0 n n' : Sto} {H0 : Hp} {fr : List (V × D)} {av : List Addr} {σ : L2.St} {Δ : DEnv} {H H' : Hp}
theorem StR.mono (S : StR n0 H0 fr av n σ Δ H) (s : SameP n H n' H') (p : SOk n' H') : StR n0 H0 fr av n' σ Δ H' where
  same := S.same.trans s
  pen := p
  len := S.len
  frz := fun i d e => let ⟨v, h1, h2⟩ := S.frz i d e; ⟨v, h1, h2.same s⟩
  own := fun i ds e => by
    obtain ⟨q, vs, h1, h2, h3, h4, h5⟩ := S.own i ds e
    obtain ⟨k1, k2⟩ := s.keep _ _ h4 h3.2
    exact ⟨q, vs, h1, h2, ⟨h3.1, k2⟩, k1, h5.same s⟩
  dis := S.dis
  gh := fun g hg => (S.gh g hg).same s
  avn := fun a ha => by
    obtain ⟨r, vs, h⟩ := S.avn a ha
    obtain ⟨k1, k2⟩ := s.keep _ _ h r
    exact ⟨k2, vs, k1⟩
/-- a new address is none of those -/
theorem StR.no_newS (S : StR n0 H0 fr av n σ Δ H) {p : Addr} (h : NewS H p) : NO av σ Δ p :=
  ⟨fun z => (by obtain ⟨_, vs, e⟩ := S.avn p z; exact h.ne e rfl), fun i ds e z => by
    obtain ⟨q, vs, h1, h2, h3, h4, h5⟩ := S.own i ds e
    rw [h1] at z
    cases z
    exact h.ne h4 rfl⟩
theorem StR.no_new (S : StR n0 H0 fr av n σ Δ H) {p : Addr} (h : H p = none) : NO av σ Δ p := S.no_newS (.of h)
theorem StR.neS (S : StR n0 H0 fr av n σ Δ H) {p : Addr} (h : NewS H p) : n p = none := S.pen.nw h
theorem StR.neP (S : StR n0 H0 fr av n σ Δ H) {p : Addr} (h : H p = none) : n p = none := S.pen.fresh p h
theorem StR.old (S : StR n0 H0 fr av n σ Δ H) {p : Addr} (h : H p = none) : NewS H0 p := S.same.none h (S.neP h)
end

/-! ### how a value is wanted: for the moment; to stay; new since the entry; new since B -/
inductive Md where
  | bor | frz | ret | new
/-- where its lists may stand -/
def Al (m : Md) (B H0 : Hp) (av : List Addr) (σ : L2.St) (Δ : DEnv) (a : Addr) : Prop :=
  match m with
  | .bor => a ∉ av
  | .frz => NO av σ Δ a
  | .ret => a ∉ av ∧ NewS H0 a
  | .new => a ∉ av ∧ NewS B a
section
variable {n0 nB n : Sto} {H0 B : Hp} {fr : List (V × D)} {av : List Addr} {σ : L2.St} {Δ : DEnv} {H : Hp}
theorem Al.newS (S : StR n0 H0 fr av n σ Δ H) (b : SameP nB B n H) (m : Md) {p : Addr} (h : NewS H p) : Al m B H0 av σ Δ p := by
  have h1 := S.no_newS h
  cases m with
  | bor => exact h1.1
  | frz => exact h1
  | ret => exact ⟨h1.1, S.same.newS h (S.neS h)⟩
  | new => exact ⟨h1.1, b.newS h (S.neS h)⟩
theorem Al.new (S : StR n0 H0 fr av n σ Δ H) (b : SameP nB B n H) (m : Md) {p : Addr} (h : H p = none) : Al m B H0 av σ Δ p := Al.newS S b m (.of h)
end

/-- what the place takes of exceptions: class, dict, slots, heap; what holds of the heap all along -/
class XE where
  W : WX
  I : Sto → Hp → Prop
  st : ∀ {n n' : Sto} {H H' : Hp}, I n H → SameP n H n' H' → I n' H'
abbrev XE.of (W : WX) : XE := ⟨W, fun _ _ => True, fun _ _ => trivial⟩
variable [XE]
/-- the same place, another wish -/
abbrev XE.w (W : WX) : XE := ⟨W, XE.I, XE.st⟩
/-- an exception on its way -/
def RpX (n : Sto) (H : Hp) (cls : Value) (d : Option Addr) : D → Prop
  | .exc0 c => ∃ C, XP.mg c = some (.ref C) ∧ cls = .ref C ∧ d = none
  | .exc1 c f y => ∃ C dd v, XP.mg c = some (.ref C) ∧ cls = .ref C ∧ d = some dd ∧ H dd = some (.xd [(f, v)]) ∧ n dd = none ∧ Rp n NoA H v y
  | _ => False
abbrev XC := D → Sto → Prop
structure XOk (n : Sto) (H : Hp) (σ : L2.St) (Xd : XC) : Prop where
  go : ∀ cls d H' ex n', SameP n H n' H' → SOk n' H' → RpX n' H' cls d ex → Xd ex n' → XE.W cls d σ H'
  inv : XE.I n H
theorem XOk.step {n n' : Sto} {H H' : Hp} {σ : L2.St} {Xd : XC} (x : XOk n H σ Xd) (s : SameP n H n' H') : XOk n' H' σ Xd := ⟨fun cls d H2 ex n2 s2 p r q => x.go cls d H2 ex n2 (s.trans s2) p r q, XE.st x.inv s⟩

abbrev DTE := Md → DEnv → Sto → XC → (D → Sto → Prop) → Prop
abbrev DTT := DEnv → Sto → XC → (Bool → Sto → Prop) → Prop
abbrev DTA := Md → DEnv → Sto → XC → (List D → Sto → Prop) → Prop
def lift (t : DTE) : TE := fun σ H Q => ∃ n0 H0 nB B fr av n Δ m Xd Qd, StR n0 H0 fr av n σ Δ H ∧ SameP nB B n H ∧ XOk n H σ Xd ∧ t m Δ n Xd Qd ∧
  ∀ v H' d n', SameP n H n' H' → SOk n' H' → Rp n' (Al m B H0 av σ Δ) H' v d → Qd d n' → Q v H'
def liftT (t : DTT) : TT := fun σ H Q => ∃ n0 H0 fr av n Δ Xd Qd, StR n0 H0 fr av n σ Δ H ∧ XOk n H σ Xd ∧ t Δ n Xd Qd ∧
  ∀ b H' n', SameP n H n' H' → SOk n' H' → Qd b n' → Q b H'
def liftA (t : DTA) : TA := fun σ H Q => ∃ n0 H0 nB B fr av n Δ m Xd Qd, StR n0 H0 fr av n σ Δ H ∧ SameP nB B n H ∧ XOk n H σ Xd ∧ t m Δ n Xd Qd ∧
  ∀ vs H' ds n', SameP n H n' H' → SOk n' H' → RpAll n' (Al m B H0 av σ Δ) H' vs ds → Qd ds n' → Q vs H'
abbrev DE (X : Cx) (e : Expr) (t : DTE) : Prop := PE X e (lift t)
abbrev DT (X : Cx) (e : Expr) (t : DTT) : Prop := PT X e (liftT t)
abbrev DW (X : Cx) (e : Expr) (t : DTT) : Prop := PW X e (liftT t)
abbrev DA (X : Cx) (es : List Expr) (t : DTA) : Prop := PA X es (liftA t)
omit [XE] [XP]
theorem wkE {X : Cx} {e : Expr} {t t' : TE} (h : PE X e t) (w : ∀ σ H Q, t' σ H Q → t σ H Q) : PE X e t' := ⟨fun pins s σ H Q I q => h.run pins s σ H Q I (w σ H Q q)⟩
theorem wkT {X : Cx} {e : Expr} {t t' : TT} (h : PT X e t) (w : ∀ σ H Q, t' σ H Q → t σ H Q) : PT X e t' := ⟨fun pins s σ H Q I q => h.run pins s σ H Q I (w σ H Q q)⟩
theorem wkW {X : Cx} {e : Expr} {t t' : TT} (h : PW X e t) (w : ∀ σ H Q, t' σ H Q → t σ H Q) : PW X e t' := ⟨fun wh pins s σ H Q I q => h.run wh pins s σ H Q I (w σ H Q q)⟩
theorem wkA {X : Cx} {e : List Expr} {t t' : TA} (h : PA X e t) (w : ∀ σ H Q, t' σ H Q → t σ H Q) : PA X e t' := ⟨fun po pins s σ H Q I q => h.run po pins s σ H Q I (w σ H Q q)⟩
theorem wkS {X : Cx} {e : Stmt} {t t' : TS} (h : PS X e t) (w : ∀ D σ H, t' D σ H → t D σ H) : PS X e t' := ⟨fun pins s σ H D I q => h.run pins s σ H D I (w D σ H q)⟩
theorem wkSs {X : Cx} {e : List Stmt} {t t' : TS} (h : PSs X e t) (w : ∀ D σ H, t' D σ H → t D σ H) : PSs X e t' := ⟨fun pins s σ H D I q => h.run pins s σ H D I (w D σ H q)⟩
theorem wkI {X : Cx} {tg e : Expr} {t t' : TI} (h : PI X tg e t) (w : ∀ σ H R, t' σ H R → t σ H R) : PI X tg e t' := ⟨fun pins s σ H R I q => h.run pins s σ H R I (w σ H R q)⟩
variable [XP] [XE]
section
variable {n0 nB n : Sto} {H0 B : Hp} {fr : List (V × D)} {av : List Addr} {σ : L2.St} {Δ : DEnv} {H : Hp} {Xd : XC}
/-- an expression within: what it is lifted from, at a state -/
theorem lift_at {t : DTE} {Q : VK} (m : Md) {Qd : D → Sto → Prop} (S : StR n0 H0 fr av n σ Δ H) (b : SameP nB B n H) (xk : XOk n H σ Xd) (h : t m Δ n Xd Qd)
    (k : ∀ v H' d n', SameP n H n' H' → StR n0 H0 fr av n' σ Δ H' → Rp n' (Al m B H0 av σ Δ) H' v d → Qd d n' → Q v H') : lift t σ H Q :=
  ⟨n0, H0, nB, B, fr, av, n, Δ, m, Xd, Qd, S, b, xk, h, fun v H' d n' s p r q => k v H' d n' s (S.mono s p) r q⟩
theorem liftT_at {t : DTT} {Q : Bool → Hp → Prop} {Qd : Bool → Sto → Prop} (S : StR n0 H0 fr av n σ Δ H) (xk : XOk n H σ Xd) (h : t Δ n Xd Qd)
    (k : ∀ v H' n', SameP n H n' H' → StR n0 H0 fr av n' σ Δ H' → Qd v n' → Q v H') : liftT t σ H Q :=
  ⟨n0, H0, fr, av, n, Δ, Xd, Qd, S, xk, h, fun v H' n' s p q => k v H' n' s (S.mono s p) q⟩
theorem liftA_at {t : DTA} {Q : List V → Hp → Prop} (m : Md) {Qd : List D → Sto → Prop} (S : StR n0 H0 fr av n σ Δ H) (b : SameP nB B n H) (xk : XOk n H σ Xd) (h : t m Δ n Xd Qd)
    (k : ∀ v H' d n', SameP n H n' H' → StR n0 H0 fr av n' σ Δ H' → RpAll n' (Al m B H0 av σ Δ) H' v d → Qd d n' → Q v H') : liftA t σ H Q :=
  ⟨n0, H0, nB, B, fr, av, n, Δ, m, Xd, Qd, S, b, xk, h, fun v H' d n' s p r q => k v H' d n' s (S.mono s p) r q⟩
end
end Dl

set_option Elab.async false
set_option linter.all false
set_option maxRecDepth 100000
set_option maxHeartbeats 1000000
namespace Dl
open PySem PySem.Spec PyProof.Rows L2
variable [XP] [XE]

/-! ### names, constants -/
def tVarD (i : Nat) : DTE := fun m Δ n X Q => match Δ[i]? with
  | some (some (.frz d)) => (match m with | .bor => Q d n | .frz => Q d n | .ret => flat d = true ∧ Q d n | .new => flat d = true ∧ Q d n)
  | some (some (.own ds)) => (match m with | .bor => Q (.lst ds) n | .ret => flatAll ds = true ∧ Q (.lst ds) n | .frz => False | .new => False)
  | _ => False
def tCD (d : D) : DTE := fun _ _ n X Q => Q d n
section
variable {X : Cx}
theorem lift_var {i : Nat} {σ : L2.St} {H : Hp} {Q : VK} (h : lift (tVarD i) σ H Q) : tVar i σ H Q := by
  obtain ⟨n0, H0, nB, B, fr, av, n, Δ, m, Xd, Qd, S, b, xk, h, k⟩ := h
  unfold tVarD at h
  split at h
  · rename_i d e
    obtain ⟨v, e1, r⟩ := S.frz _ _ e
    refine ⟨v, e1, ?_⟩
    cases m with
    | bor => exact k v H d n (SameP.refl n H) S.pen (r.imp fun a o _ z => z.1) h
    | frz => exact k v H d n (SameP.refl n H) S.pen r h
    | ret => exact k v H d n (SameP.refl n H) S.pen (Rp.flat _ _ h.1 r) h.2
    | new => exact k v H d n (SameP.refl n H) S.pen (Rp.flat _ _ h.1 r) h.2
  · rename_i ds e
    obtain ⟨p, vs, e1, e2, e3, e4, r⟩ := S.own _ _ e
    have np := e3.2
    refine ⟨.ref p, e1, ?_⟩
    cases m with
    | bor => exact k _ H _ n (SameP.refl n H) S.pen (.lst e4 np e2 (r.imp fun a o _ z => z.1)) h
    | ret => exact k _ H _ n (SameP.refl n H) S.pen (.lst e4 np ⟨e2, e3.1⟩ (RpAll.flat _ _ h.1 r)) h.2
    | frz => exact h.elim
    | new => exact h.elim
  · exact h.elim
theorem dv (i : Nat) {x : Str} {pos : Pos} (hN : X.N[i]? = some x := by rfl) (hv : Vis X.env.scope x := by first | exact Or.inl rfl | exact Or.inr (Or.inl rfl) | exact Or.inr (Or.inr rfl)) (hd : (x == ("__debug__" : Str)) = false := by decide)
    (hcd : (x == ("__classdict__" : Str)) = false := by decide) : DE X (.Name x pos) (tVarD i) := wkE (pe_var hN hv hd hcd) fun σ H Q h => lift_var h
theorem lift_c {d : D} {v : V} (hf : flat d = true) (hr : ∀ n A H, Rp n A H v d) {σ : L2.St} {H : Hp} {Q : VK} (h : lift (tCD d) σ H Q) : tC v σ H Q := by
  obtain ⟨n0, H0, nB, B, fr, av, n, Δ, m, Xd, Qd, S, b, xk, h, k⟩ := h
  exact k v H d n (SameP.refl n H) S.pen (hr _ _ _) h
theorem d_int {i j pos} : DE X (.Constant (.int i) j pos) (tCD (.int i)) := wkE pe_int fun _ _ _ h => lift_c rfl (fun _ _ _ => .int i) h
theorem d_bl {b j pos} : DE X (.Constant (.bool b) j pos) (tCD (.bl b)) := wkE pe_bl fun _ _ _ h => lift_c rfl (fun _ _ _ => .bl b) h
theorem d_non {j pos} : DE X (.Constant .none j pos) (tCD .non) := wkE pe_non fun _ _ _ h => lift_c rfl (fun _ _ _ => .non) h
theorem d_str {x j pos} : DE X (.Constant (.str x) j pos) (tCD (.str x)) := wkE pe_str fun _ _ _ h => lift_c rfl (fun _ _ _ => .str x) h
theorem d_globI {x : Str} {i : Int} {u : Value} {pos : Pos} (hg : Gl X x) (hm : X.mg x = some u) (r : RelV (.int i) u) (hd : (x == ("__debug__" : Str)) = false := by decide) : DE X (.Name x pos) (tCD (.int i)) :=
  wkE (pe_glob hg hm r hd) fun _ _ _ h => lift_c rfl (fun _ _ _ => .int i) h
theorem d_globS {x : Str} {i : Str} {u : Value} {pos : Pos} (hg : Gl X x) (hm : X.mg x = some u) (r : RelV (.str i) u) (hd : (x == ("__debug__" : Str)) = false := by decide) : DE X (.Name x pos) (tCD (.str i)) :=
  wkE (pe_glob hg hm r hd) fun _ _ _ h => lift_c rfl (fun _ _ _ => .str i) h
end

/-! ### operators by values -/
abbrev DR2 := D → D → (D → Prop) → Prop
abbrev DR1 := D → (D → Prop) → Prop
abbrev DRn := List D → (D → Prop) → Prop
def Snd2 (r : R2) (dr : DR2) : Prop := ∀ (n : Sto) (A B : Addr → Prop) (H : Hp) (x y : V) (d e : D) (Q : VK) (Qd : D → Prop), (∀ a, H a = none → n a = none) → (∀ a, H a = none → A a) → Rp n B H x d → Rp n B H y e → dr d e Qd →
  (∀ v H' z, Same H H' → Rp n A H' v z → Qd z → Q v H') → r x y H Q
def Snd1 (r : V → Hp → VK → Prop) (dr : DR1) : Prop := ∀ (n : Sto) (A B : Addr → Prop) (H : Hp) (x : V) (d : D) (Q : VK) (Qd : D → Prop), (∀ a, H a = none → n a = none) → (∀ a, H a = none → A a) → Rp n B H x d → dr d Qd →
  (∀ v H' z, Same H H' → Rp n A H' v z → Qd z → Q v H') → r x H Q
def SndN (r : List V → Hp → VK → Prop) (dr : DRn) : Prop := ∀ (n : Sto) (A B : Addr → Prop) (H : Hp) (xs : List V) (ds : List D) (Q : VK) (Qd : D → Prop), (∀ a, H a = none → n a = none) → (∀ a, H a = none → A a) → RpAll n B H xs ds → dr ds Qd →
  (∀ v H' z, Same H H' → Rp n A H' v z → Qd z → Q v H') → r xs H Q
def tOpD (dr : DR2) (ta tb : DTE) : DTE := fun _ Δ n X Q => ta .bor Δ n X fun x n1 => tb .bor Δ n1 X fun y n2 => dr x y fun z => Q z n2
def tUnD (dr : DR1) (ta : DTE) : DTE := fun _ Δ n X Q => ta .bor Δ n X fun x n1 => dr x fun z => Q z n1
def tCallN (dr : DRn) (ta : DTA) : DTE := fun _ Δ n X Q => ta .bor Δ n X fun xs n1 => dr xs fun z => Q z n1
def tTestD (t : DTE) : DTT := fun Δ n X Q => t .bor Δ n X fun z n1 => match z with | .bl b => Q b n1 | _ => False
section
variable {X : Cx} {a b c e : Expr} {ta tb tc te : DTE} {pos : Pos}
theorem lift_op {r : R2} {dr : DR2} (sn : Snd2 r dr) {σ : L2.St} {H : Hp} {Q : VK} (h : lift (tOpD dr ta tb) σ H Q) : tOp r (lift ta) (lift tb) σ H Q := by
  obtain ⟨n0, H0, nB, B, fr, av, n, Δ, m, Xd, Qd, S, b, xk, h, k⟩ := h
  refine lift_at .bor S b xk h fun x H1 d n1 s1 S1 r1 q1 => ?_
  refine lift_at .bor S1 (b.trans s1) (xk.step s1) q1 fun y H2 e n2 s2 S2 r2 q2 => ?_
  refine sn _ (Al m B H0 av σ Δ) _ H2 x y d e Q _ S2.pen.fresh (fun a ha => Al.new S2 ((b.trans s1).trans s2) m ha) (r1.same s2) r2 q2 fun v H3 z s3 rz qz => ?_
  exact k v H3 z n2 ((s1.trans s2).trans (.of s3)) (S2.pen.same s3) rz qz
theorem lift_un {r : V → Hp → VK → Prop} {dr : DR1} (sn : Snd1 r dr) {σ : L2.St} {H : Hp} {Q : VK} (h : lift (tUnD dr ta) σ H Q) : tUn r (lift ta) σ H Q := by
  obtain ⟨n0, H0, nB, B, fr, av, n, Δ, m, Xd, Qd, S, b, xk, h, k⟩ := h
  refine lift_at .bor S b xk h fun x H1 d n1 s1 S1 r1 q1 => ?_
  refine sn _ (Al m B H0 av σ Δ) _ H1 x d Q _ S1.pen.fresh (fun a ha => Al.new S1 (b.trans s1) m ha) r1 q1 fun v H3 z s3 rz qz => ?_
  exact k v H3 z n1 (s1.trans (.of s3)) (S1.pen.same s3) rz qz
theorem lift_call {r : List V → Hp → VK → Prop} {dr : DRn} {ta : DTA} (sn : SndN r dr) {σ : L2.St} {H : Hp} {Q : VK} (h : lift (tCallN dr ta) σ H Q) : tCB r (liftA ta) σ H Q := by
  obtain ⟨n0, H0, nB, B, fr, av, n, Δ, m, Xd, Qd, S, b, xk, h, k⟩ := h
  refine liftA_at .bor S b xk h fun x H1 d n1 s1 S1 r1 q1 => ?_
  refine sn _ (Al m B H0 av σ Δ) _ H1 x d Q _ S1.pen.fresh (fun a ha => Al.new S1 (b.trans s1) m ha) r1 q1 fun v H3 z s3 rz qz => ?_
  exact k v H3 z n1 (s1.trans (.of s3)) (S1.pen.same s3) rz qz
theorem d_op {op : Operator} {r : R2} {dr : DR2} (ho : OpR X (binaryOp op) r) (sn : Snd2 r dr) (ha : DE X a ta) (hb : DE X b tb) : DE X (.BinOp a op b pos) (tOpD dr ta tb) :=
  wkE (pe_op ho ha hb) fun _ _ _ h => lift_op sn h
theorem d_un {op : UnaryOp} {r : V → Hp → VK → Prop} {dr : DR1} (ho : UnR X (unaryOp op) r) (sn : Snd1 r dr) (ha : DE X a ta) : DE X (.UnaryOp op a pos) (tUnD dr ta) :=
  wkE (pe_un ho ha) fun _ _ _ h => lift_un sn h
theorem d_cmp {op : CmpOp} {r : R2} {dr : DR2} (ho : OpR X (compareOp op) r) (sn : Snd2 r dr) (ha : DE X a ta) (hb : DE X b tb) (hm : behindInMarks op b = false) : DE X (.Compare a [op] [b] pos) (tOpD dr ta tb) :=
  wkE (pe_cmpR ho ha hb hm) fun _ _ _ h => lift_op sn h
theorem lift_test {t : DTE} {σ : L2.St} {H : Hp} {Q : Bool → Hp → Prop} {te : TE} (hw : ∀ Q, lift t σ H Q → te σ H Q) (h : liftT (tTestD t) σ H Q) : tTest te σ H Q := by
  obtain ⟨n0, H0, fr, av, n, Δ, Xd, Qd, S, xk, h, k⟩ := h
  refine hw _ (lift_at (B := H) .bor S (SameP.refl n H) xk h fun x H1 d n1 s1 S1 r1 q1 => ?_)
  cases d with
  | bl b => cases r1; exact ⟨b, rfl, k b H1 n1 s1 S1.pen q1⟩
  | _ => exact q1.elim
theorem dt_cmp {op : CmpOp} {r : R2} {dr : DR2} (ho : OpR X (compareOp op) r) (sn : Snd2 r dr) (ha : DE X a ta) (hb : DE X b tb) (hm : behindInMarks op b = false) : DT X (.Compare a [op] [b] pos) (tTestD (tOpD dr ta tb)) :=
  wkT (pt_cmpR ho ha hb hm) fun _ _ _ h => lift_test (fun _ => lift_op sn) h
/-- two comparisons of ints -/
def tChainD (dr dr' : DR2) (ta tb tc : DTE) : DTE := fun _ Δ n X Q => ta .bor Δ n X fun x n1 => tb .bor Δ n1 X fun y n2 => dr x y fun z => match z with
  | .bl true => tc .bor Δ n2 X fun w n3 => dr' y w fun u => Q u n3
  | .bl false => Q (.bl false) n2
  | _ => False
theorem lift_chain {r r' : R2} {dr dr' : DR2} (sn : Snd2 r dr) (sn' : Snd2 r' dr') {σ : L2.St} {H : Hp} {Q : VK} (h : lift (tChainD dr dr' ta tb tc) σ H Q) : tChain r r' (lift ta) (lift tb) (lift tc) σ H Q := by
  obtain ⟨n0, H0, nB, B, fr, av, n, Δ, m, Xd, Qd, S, b, xk, h, k⟩ := h
  refine lift_at .bor S b xk h fun x H1 d n1 s1 S1 r1 q1 => ?_
  refine lift_at .bor S1 (b.trans s1) (xk.step s1) q1 fun y H2 e n2 s2 S2 r2 q2 => ?_
  refine sn _ (Al m B H0 av σ Δ) _ H2 x y d e _ _ S2.pen.fresh (fun a ha => Al.new S2 ((b.trans s1).trans s2) m ha) (r1.same s2) r2 q2 fun v H3 z s3 rz qz => ?_
  have S3 := S2.mono (.of s3) (S2.pen.same s3)
  cases z with
  | bl c =>
    cases rz
    refine ⟨c, rfl, ?_⟩
    cases c with
    | false => exact k _ H3 _ n2 ((s1.trans s2).trans (.of s3)) (S2.pen.same s3) (.bl _) qz
    | true =>
      refine lift_at .bor S3 ((b.trans s1).trans (s2.trans (.of s3))) ((xk.step s1).step (s2.trans (.of s3))) qz fun w H4 f n4 s4 S4 r4 q4 => ?_
      refine sn' _ (Al m B H0 av σ Δ) _ H4 y w e f Q _ S4.pen.fresh (fun a ha => Al.new S4 (((b.trans s1).trans (s2.trans (.of s3))).trans s4) m ha) (r2.same ((SameP.of s3).trans s4)) r4 q4 fun v H5 z s5 rz qz => ?_
      exact k v H5 z n4 (((s1.trans s2).trans (.of s3)).trans (s4.trans (.of s5))) (S4.pen.same s5) rz qz
  | _ => exact qz.elim
theorem d_chain {op op' : CmpOp} {r r' : R2} {dr dr' : DR2} (ho : OpR X (compareOp op) r) (sn : Snd2 r dr) (ho' : OpR X (compareOp op') r') (sn' : Snd2 r' dr') (ha : DE X a ta) (hb : DE X b tb) (hc : DE X c tc)
    (hm : lastMarks [op, op'] [b, c] = false := by with_unfolding_all rfl) : DE X (.Compare a [op, op'] [b, c] pos) (tChainD dr dr' ta tb tc) :=
  wkE (pe_chain ho ho' ha hb hc hm) fun _ _ _ h => lift_chain sn sn' h
theorem dt_chain {op op' : CmpOp} {r r' : R2} {dr dr' : DR2} (ho : OpR X (compareOp op) r) (sn : Snd2 r dr) (ho' : OpR X (compareOp op') r') (sn' : Snd2 r' dr') (ha : DE X a ta) (hb : DE X b tb) (hc : DE X c tc)
    (hm : lastMarks [op, op'] [b, c] = false := by with_unfolding_all rfl) : DT X (.Compare a [op, op'] [b, c] pos) (tTestD (tChainD dr dr' ta tb tc)) :=
  wkT (pt_chain ho ho' ha hb hc hm) fun _ _ _ h => lift_test (fun _ => lift_chain sn sn') h
/-- an expression that gives a truth, as a test -/
theorem dt_val {e : Expr} (h : DE X e te) (he : ∀ whole, isTrue e X.env whole = (do let v ← whole; standAt e.pos; holding [v] (truthy v)) := by intro _; rfl) : DT X e (tTestD te) :=
  wkT (pt_val h he) fun _ _ _ h => lift_test (fun _ h => h) h
/-! and, or, not -/
def tAndD (t u : DTT) : DTT := fun Δ n X Q => t Δ n X fun b n1 => if b = true then u Δ n1 X Q else Q false n1
def tOrD (t u : DTT) : DTT := fun Δ n X Q => t Δ n X fun b n1 => if b = true then Q true n1 else u Δ n1 X Q
def tNotD (t : DTT) : DTT := fun Δ n X Q => t Δ n X fun b n1 => Q (!b) n1
variable {tA tB' : DTT} {rest : List Expr}
theorem dw_and1 (ha : DT X a tA) : DW X (.BoolOp .And [a] pos) tA := pw_and1 ha
theorem dw_or1 (ha : DT X a tA) : DW X (.BoolOp .Or [a] pos) tA := pw_or1 ha
theorem dw_and (ha : DT X a tA) (hb : DW X (.BoolOp .And (b :: rest) pos) tB') : DW X (.BoolOp .And (a :: b :: rest) pos) (tAndD tA tB') :=
  wkW (pw_and ha hb) fun σ H Q ⟨n0, H0, fr, av, n, Δ, Xd, Qd, S, xk, h, k⟩ => liftT_at S xk h fun v H1 n1 s1 S1 q1 => by
    cases v with
    | true => exact liftT_at S1 (xk.step s1) q1 fun v H2 n2 s2 S2 q2 => k v H2 n2 (s1.trans s2) S2.pen q2
    | false => exact k false H1 n1 s1 S1.pen q1
theorem dw_or (ha : DT X a tA) (hb : DW X (.BoolOp .Or (b :: rest) pos) tB') : DW X (.BoolOp .Or (a :: b :: rest) pos) (tOrD tA tB') :=
  wkW (pw_or ha hb) fun σ H Q ⟨n0, H0, fr, av, n, Δ, Xd, Qd, S, xk, h, k⟩ => liftT_at S xk h fun v H1 n1 s1 S1 q1 => by
    cases v with
    | false => exact liftT_at S1 (xk.step s1) q1 fun v H2 n2 s2 S2 q2 => k v H2 n2 (s1.trans s2) S2.pen q2
    | true => exact k true H1 n1 s1 S1.pen q1
theorem dt_not (ha : DT X a tA) : DT X (.UnaryOp .Not a pos) (tNotD tA) :=
  wkT (pt_not ha) fun σ H Q ⟨n0, H0, fr, av, n, Δ, Xd, Qd, S, xk, h, k⟩ => liftT_at S xk h fun v H1 n1 s1 S1 q1 => k (!v) H1 n1 s1 S1.pen q1
/-- .. as values -/
def tAndVD (ta tb : DTE) : DTE := fun m Δ n X Q => ta .bor Δ n X fun x n1 => match x with | .bl true => tb m Δ n1 X Q | .bl false => Q (.bl false) n1 | _ => False
def tOrVD (ta tb : DTE) : DTE := fun m Δ n X Q => ta .bor Δ n X fun x n1 => match x with | .bl true => Q (.bl true) n1 | .bl false => tb m Δ n1 X Q | _ => False
def tNotVD (ta : DTE) : DTE := fun m Δ n X Q => ta .bor Δ n X fun x n1 => match x with | .bl b => Q (.bl (!b)) n1 | _ => False
theorem d_one {op} (h : DE X a ta) : DE X (.BoolOp op [a] pos) ta := pe_one h
theorem d_and (ha : DE X a ta) (hb : DE X (.BoolOp .And (b :: rest) pos) tb) : DE X (.BoolOp .And (a :: b :: rest) pos) (tAndVD ta tb) :=
  wkE (pe_and ha hb) fun σ H Q ⟨n0, H0, nB, B, fr, av, n, Δ, m, Xd, Qd, S, bb, xk, h, k⟩ => lift_at .bor S bb xk h fun v H1 d n1 s1 S1 r1 q1 => by
    cases d with
    | bl c =>
      cases r1
      cases c with
      | true => exact ⟨true, rfl, lift_at m S1 (bb.trans s1) (xk.step s1) q1 fun v H2 d n2 s2 S2 r2 q2 => k v H2 d n2 (s1.trans s2) S2.pen r2 q2⟩
      | false => exact ⟨false, rfl, k _ H1 _ n1 s1 S1.pen (.bl _) q1⟩
    | _ => exact q1.elim
theorem d_or (ha : DE X a ta) (hb : DE X (.BoolOp .Or (b :: rest) pos) tb) : DE X (.BoolOp .Or (a :: b :: rest) pos) (tOrVD ta tb) :=
  wkE (pe_or ha hb) fun σ H Q ⟨n0, H0, nB, B, fr, av, n, Δ, m, Xd, Qd, S, bb, xk, h, k⟩ => lift_at .bor S bb xk h fun v H1 d n1 s1 S1 r1 q1 => by
    cases d with
    | bl c =>
      cases r1
      cases c with
      | false => exact ⟨false, rfl, lift_at m S1 (bb.trans s1) (xk.step s1) q1 fun v H2 d n2 s2 S2 r2 q2 => k v H2 d n2 (s1.trans s2) S2.pen r2 q2⟩
      | true => exact ⟨true, rfl, k _ H1 _ n1 s1 S1.pen (.bl _) q1⟩
    | _ => exact q1.elim
theorem d_not (ha : DE X a ta) : DE X (.UnaryOp .Not a pos) (tNotVD ta) :=
  wkE (pe_not ha) fun σ H Q ⟨n0, H0, nB, B, fr, av, n, Δ, m, Xd, Qd, S, bb, xk, h, k⟩ => lift_at .bor S bb xk h fun v H1 d n1 s1 S1 r1 q1 => by
    cases d with
    | bl c => cases r1; exact ⟨c, rfl, k _ H1 _ n1 s1 S1.pen (.bl _) q1⟩
    | _ => exact q1.elim
def tIfD (t : DTT) (ta tb : DTE) : DTE := fun m Δ n X Q => t Δ n X fun b n1 => if b = true then ta m Δ n1 X Q else tb m Δ n1 X Q
theorem d_if (hc : DT X c tA) (ha : DE X a ta) (hb : DE X b tb) : DE X (.IfExp c a b pos) (tIfD tA ta tb) :=
  wkE (pe_ifExp hc ha hb) fun σ H Q ⟨n0, H0, nB, B, fr, av, n, Δ, m, Xd, Qd, S, bb, xk, h, k⟩ => liftT_at S xk h fun v H1 n1 s1 S1 q1 => by
    cases v with
    | true => exact lift_at m S1 (bb.trans s1) (xk.step s1) q1 fun v H2 d n2 s2 S2 r2 q2 => k v H2 d n2 (s1.trans s2) S2.pen r2 q2
    | false => exact lift_at m S1 (bb.trans s1) (xk.step s1) q1 fun v H2 d n2 s2 S2 r2 q2 => k v H2 d n2 (s1.trans s2) S2.pen r2 q2
/-! arguments, displays -/
def tNilD : DTA := fun _ _ n X Q => Q [] n
def tConsD (ta : DTE) (tr : DTA) : DTA := fun m Δ n X Q => ta m Δ n X fun x n1 => tr m Δ n1 X fun xs n2 => Q (x :: xs) n2
theorem da_nil : DA X [] tNilD := wkA pa_nil fun σ H Q ⟨n0, H0, nB, B, fr, av, n, Δ, m, Xd, Qd, S, bb, xk, h, k⟩ => k [] H [] n (SameP.refl n H) S.pen .nil h
theorem da_cons {es : List Expr} {tr : DTA} (ha : DE X a ta) (hr : DA X es tr) (hst : starEach (a :: es) X.env = (false, eval a X.env) :: starEach es X.env := by rfl) : DA X (a :: es) (tConsD ta tr) :=
  wkA (pa_cons ha hr hst) fun σ H Q ⟨n0, H0, nB, B, fr, av, n, Δ, m, Xd, Qd, S, bb, xk, h, k⟩ => lift_at m S bb xk h fun v H1 d n1 s1 S1 r1 q1 =>
    liftA_at m S1 (bb.trans s1) (xk.step s1) q1 fun vs H2 ds n2 s2 S2 r2 q2 => k _ H2 _ n2 (s1.trans s2) S2.pen (.cons (r1.same s2) r2) q2
def tTupD (t : DTA) : DTE := fun m Δ n X Q => t m Δ n X fun ds n1 => ds.length ≤ sizeLine ∧ Q (.tup ds) n1
def tLstD (t : DTA) : DTE := fun m Δ n X Q => t m Δ n X fun ds n1 => ds.length ≤ sizeLine ∧ Q (.lst ds) n1
theorem rp_upd {n : Sto} {p : Addr} {A A' : Addr → Prop} {H : Hp} {o : HO} (hp : H p = none) (ha : ∀ a o, H a = some o → A a → A' a) {vs : List V} {ds : List D} (r : RpAll n A H vs ds) : RpAll n A' (upd H p o) vs ds :=
  RpAll.stay (.of (SameP.new hp) fun a o e _ _ q => ha a o e q) _ _ r
theorem lift_tup {es : List Expr} {t : DTA} {σ : L2.St} {H : Hp} {Q : VK} (h : lift (tTupD t) σ H Q) : tTupF (liftA t) σ H Q := by
  obtain ⟨n0, H0, nB, B, fr, av, n, Δ, m, Xd, Qd, S, bb, xk, h, k⟩ := h
  refine liftA_at m S bb xk h fun vs H1 ds n1 s1 S1 r1 q1 => ⟨by rw [r1.length]; exact q1.1, fun p ob hp hd => ?_⟩
  exact k _ _ _ n1 (s1.trans (SameP.new hp)) (S1.pen.same (same_new hp)) (.tup (.new hd) (S1.neP hp) (rp_upd hp (fun _ _ _ z => z) r1)) q1.2
theorem lift_lst {es : List Expr} {t : DTA} {σ : L2.St} {H : Hp} {Q : VK} (h : lift (tLstD t) σ H Q) : tLst (liftA t) σ H Q := by
  obtain ⟨n0, H0, nB, B, fr, av, n, Δ, m, Xd, Qd, S, bb, xk, h, k⟩ := h
  refine liftA_at m S bb xk h fun vs H1 ds n1 s1 S1 r1 q1 => ⟨by rw [r1.length]; exact q1.1, fun p hp => ?_⟩
  exact k _ _ _ n1 (s1.trans (SameP.new hp)) (S1.pen.same (same_new hp)) (.lst upd_same (S1.neP hp) (Al.new S1 (bb.trans s1) m hp) (rp_upd hp (fun _ _ _ z => z) r1)) q1.2
theorem d_tup {es : List Expr} {t : DTA} {x1} (h : DA X es t) : DE X (.Tuple es x1 pos) (tTupD t) := wkE (pe_tupF h) fun _ _ _ h => lift_tup (es := es) h
theorem d_lst {es : List Expr} {t : DTA} (h : DA X es t) : DE X (.List es pos) (tLstD t) := wkE (pe_lst h) fun _ _ _ h => lift_lst (es := es) h
/-! built-ins by their names -/
theorem d_callB {id : String} {x : Str} {p : Pos} {es : List Expr} {r : List V → Hp → VK → Prop} {dr : DRn} {t : DTA} (hc : CallR X (.builtin id) r) (sn : SndN r dr) (hg : Gl X x) (hm : X.mg x = none) (hv : bootBuiltins x = some (.builtin id)) (ha : DA X (e :: es) t)
    (hn : x ≠ "__name__" := by decide) (hdb : (x == ("__debug__" : Str)) = false := by decide)
    (he : starEach (e :: es) X.env = (false, eval e X.env) :: starEach es X.env := by rfl) (hpl : (backTo pos (starEach es X.env)).any (·.1) = false := by rfl) :
    DE X (.Call (.Name x p) (e :: es) [] pos) (tCallN dr t) := wkE (pe_callB hc hg hm hv ha hn hdb he hpl) fun _ _ _ h => lift_call sn h
theorem d_callTy {T : String} {x : Str} {p : Pos} {es : List Expr} {r : List V → Hp → VK → Prop} {dr : DRn} {t : DTA} (hc : CallR X (.type T) r) (sn : SndN r dr) (hg : Gl X x) (hm : X.mg x = none) (hv : bootBuiltins x = some (.type T)) (ha : DA X (e :: es) t)
    (hn : x ≠ "__name__" := by decide) (hdb : (x == ("__debug__" : Str)) = false := by decide)
    (he : starEach (e :: es) X.env = (false, eval e X.env) :: starEach es X.env := by rfl) (hpl : (backTo pos (starEach es X.env)).any (·.1) = false := by rfl) :
    DE X (.Call (.Name x p) (e :: es) [] pos) (tCallN dr t) := wkE (pe_callTy hc hg hm hv ha hn hdb he hpl) fun _ _ _ h => lift_call sn h
end
end Dl

set_option Elab.async false
set_option linter.all false
set_option maxRecDepth 100000
set_option maxHeartbeats 1000000
namespace Dl
open PySem PySem.Spec PyProof.Rows L2
variable [XP] [XE]

/-! ### ints -/
def drI (C : Int → Int → Prop) (g : Int → Int → Int) : DR2 := fun x y Q => match x, y with | .int i, .int j => C i j ∧ Q (.int (g i j)) | _, _ => False
def drI0 (g : Int → Int → Int) : DR2 := fun x y Q => match x, y with | .int i, .int j => Q (.int (g i j)) | _, _ => False
def drB0 (g : Int → Int → Bool) : DR2 := fun x y Q => match x, y with | .int i, .int j => Q (.bl (g i j)) | _, _ => False
theorem sn_I {C : Int → Int → Prop} {g : Int → Int → Int} : Snd2 (rI C fun i j => .int (g i j)) (drI C g) := fun P A B H x y d e Q Qd p0 nA rx ry h k => by
  cases d <;> cases e <;> first | exact h.elim | skip
  cases rx
  cases ry
  exact ⟨_, _, rfl, rfl, h.1, k _ H _ (Same.refl H) (.int _) h.2⟩
theorem sn_I0 {g : Int → Int → Int} : Snd2 (rI0 fun i j => .int (g i j)) (drI0 g) := fun P A B H x y d e Q Qd p0 nA rx ry h k => by
  cases d <;> cases e <;> first | exact h.elim | skip
  cases rx
  cases ry
  exact ⟨_, _, rfl, rfl, k _ H _ (Same.refl H) (.int _) h⟩
theorem sn_B0 {g : Int → Int → Bool} : Snd2 (rI0 fun i j => .bl (g i j)) (drB0 g) := fun P A B H x y d e Q Qd p0 nA rx ry h k => by
  cases d <;> cases e <;> first | exact h.elim | skip
  cases rx
  cases ry
  exact ⟨_, _, rfl, rfl, k _ H _ (Same.refl H) (.bl _) h⟩
def drNeg : DR1 := fun x Q => match x with | .int i => Q (.int (-i)) | _ => False
theorem sn_neg : Snd1 (rU fun i => .int (-i)) drNeg := fun P A B H x d Q Qd p0 nA rx h k => by
  cases d <;> first | exact h.elim | skip
  cases rx
  exact ⟨_, rfl, k _ H _ (Same.refl H) (.int _) h⟩
/-! ### texts, lists, tuples: + * -/
def drAddS : DR2 := fun x y Q => match x, y with | .str i, .str j => i.length + j.length ≤ sizeLine ∧ Q (.str (i ++ j)) | _, _ => False
theorem sn_addS : Snd2 (fun x y H Q => ∃ i j, x = .str i ∧ y = .str j ∧ i.length + j.length ≤ sizeLine ∧ Q (.str (i ++ j)) H) drAddS := fun P A B H x y d e Q Qd p0 nA rx ry h k => by
  cases d <;> cases e <;> first | exact h.elim | skip
  cases rx
  cases ry
  exact ⟨_, _, rfl, rfl, h.1, k _ H _ (Same.refl H) (.str _) h.2⟩
theorem ne_P {n : Sto} {p : Addr} {H : Hp} (p0 : ∀ a, H a = none → n a = none) (hp : H p = none) : n p = none := p0 p hp
def drCatL : DR2 := fun x y Q => match x, y with | .lst i, .lst j => i.length + j.length ≤ sizeLine ∧ flatAll i = true ∧ flatAll j = true ∧ Q (.lst (i ++ j)) | _, _ => False
theorem sn_catL : Snd2 rCat drCatL := fun P A B H x y d e Q Qd p0 nA rx ry h k => by
  cases d <;> cases e <;> first | exact h.elim | skip
  cases rx with
  | lst h1 h2 h3 r1 =>
    cases ry with
    | lst h4 h5 h6 r2 =>
      refine ⟨_, _, _, _, rfl, rfl, h1, h4, by rw [r1.length, r2.length]; exact h.1, fun p hp => ?_⟩
      exact k _ _ _ (same_new hp) (.lst upd_same (ne_P p0 hp) (nA p hp) (rp_upd hp (fun _ _ _ z => z) ((RpAll.flat _ _ h.2.1 r1).append (RpAll.flat _ _ h.2.2.1 r2)))) h.2.2.2
def drCatT : DR2 := fun x y Q => match x, y with | .tup i, .tup j => i.length + j.length ≤ sizeLine ∧ flatAll i = true ∧ flatAll j = true ∧ Q (.tup (i ++ j)) | _, _ => False
theorem sn_catT {K : PySem.W.Frag} : Snd2 (rCatF K) drCatT := fun n A B H x y d e Q Qd p0 nA rx ry h k => by
  cases d <;> cases e <;> first | exact h.elim | skip
  cases rx with
  | tup h1 h2 r1 =>
    cases ry with
    | tup h4 h5 r2 =>
      have f1 : RpAll n A H _ _ := RpAll.flat _ _ h.2.1 r1
      have f2 : RpAll n A H _ _ := RpAll.flat _ _ h.2.2.1 r2
      refine ⟨_, _, _, _, rfl, rfl, TupO.sq h1, TupO.sq h4, by rw [r1.length, r2.length]; exact h.1, fun e => ?_, fun _ e => ?_, fun _ _ p ob hp hd => ?_⟩
      · subst e
        cases r1
        exact k _ _ _ (Same.refl H) (.tup h4 h5 f2) h.2.2.2
      · subst e
        cases r2
        have q := h.2.2.2
        rw [List.append_nil] at q
        exact k _ _ _ (Same.refl H) (.tup h1 h2 f1) q
      · exact k _ _ _ (same_new hp) (.tup (.new hd) (ne_P p0 hp) (rp_upd hp (fun _ _ _ z => z) (f1.append f2))) h.2.2.2
def drRep : DR2 := fun x y Q => match x, y with | .lst i, .int j => -(2 ^ 63) ≤ j ∧ j < 2 ^ 63 ∧ i.length * j.toNat ≤ sizeLine ∧ flatAll i = true ∧ Q (.lst (List.replicate j.toNat i).flatten) | _, _ => False
theorem RpAll.rep {n : Sto} {A : Addr → Prop} {H : Hp} {vs : List V} {ds : List D} (r : RpAll n A H vs ds) : ∀ k : Nat, RpAll n A H (List.replicate k vs).flatten (List.replicate k ds).flatten
  | 0 => .nil
  | k + 1 => by
    rw [List.replicate_succ, List.replicate_succ, List.flatten_cons, List.flatten_cons]
    exact r.append (RpAll.rep r k)
theorem sn_rep : Snd2 rRep drRep := fun P A B H x y d e Q Qd p0 nA rx ry h k => by
  cases d <;> cases e <;> first | exact h.elim | skip
  cases rx with
  | lst h1 h2 h3 r1 =>
    cases ry
    refine ⟨_, _, _, rfl, rfl, h1, h.1, h.2.1, by rw [r1.length]; exact h.2.2.1, fun p hp => ?_⟩
    exact k _ _ _ (same_new hp) (.lst upd_same (ne_P p0 hp) (nA p hp) (rp_upd hp (fun _ _ _ z => z) ((RpAll.flat _ _ h.2.2.2.1 r1).rep _))) h.2.2.2.2
/-! ### == != -/
mutual
def toPy : D → PyData
  | .non => .none
  | .bl b => .bool b
  | .int i => .int i
  | .str x => .str x
  | .tup ds => .tuple (toPys ds)
  | .lst ds => .list (toPys ds)
  | _ => .none
def toPys : List D → List PyData
  | [] => []
  | d :: ds => toPy d :: toPys ds
end
mutual
def pyb : D → Bool
  | .byt _ => false
  | .loc _ => false
  | .cls _ => false
  | .exc0 _ => false
  | .exc1 _ _ _ => false
  | .obj _ => false
  | .opq _ => false
  | .tup ds => pybs ds
  | .lst ds => pybs ds
  | _ => true
def pybs : List D → Bool
  | [] => true
  | d :: ds => pyb d && pybs ds
end
mutual
theorem Rp.dp {K : PySem.W.Frag} {n : Sto} {A : Addr → Prop} {H : Hp} : ∀ (d : D) (v : V), pyb d = true → Rp n A H v d → Dp K H v (toPy d)
  | .non, _, _, h => by cases h; simp only [toPy]; exact .non
  | .bl _, _, _, h => by cases h; simp only [toPy]; exact .bl _
  | .int _, _, _, h => by cases h; simp only [toPy]; exact .int _
  | .str _, _, _, h => by cases h; simp only [toPy]; exact .str _
  | .byt _, _, f, h => by simp [pyb] at f
  | .opq _, _, f, h => by simp [pyb] at f
  | .loc _, _, f, h => by simp [pyb] at f
  | .cls _, _, f, h => by simp [pyb] at f
  | .exc0 _, _, f, h => by simp [pyb] at f
  | .exc1 _ _ _, _, f, h => by simp [pyb] at f
  | .obj o, _, f, h => by simp [pyb] at f
  | .tup ds, _, f, h => by
    simp only [pyb] at f
    cases h with
    | tup h1 h2 h3 => simp only [toPy]; exact .tup (TupO.sq h1) (RpAll.dp ds _ f h3)
  | .lst ds, _, f, h => by
    simp only [pyb] at f
    cases h with
    | lst h1 h2 h4 h3 => simp only [toPy]; exact .lst (SqL.of h1) (RpAll.dp ds _ f h3)
theorem RpAll.dp {K : PySem.W.Frag} {n : Sto} {A : Addr → Prop} {H : Hp} : ∀ (ds : List D) (vs : List V), pybs ds = true → RpAll n A H vs ds → DpAll K H vs (toPys ds)
  | [], _, _, h => by cases h; simp only [toPys]; exact .nil
  | d :: ds, _, f, h => by
    simp only [pybs, Bool.and_eq_true] at f
    cases h with
    | cons h1 h2 => simp only [toPys]; exact .cons (Rp.dp d _ f.1 h1) (RpAll.dp ds _ f.2 h2)
end
def eqS : D → D → Option Bool
  | .int i, .int j => some (decide (i = j))
  | .str i, .str j => some (decide (i = j))
  | .bl i, .bl j => some (decide (i = j))
  | .non, .non => some true
  | .non, .int _ => some false
  | .int _, .non => some false
  | .byt i, .byt j => some (decide (i = j))
  | _, _ => none
/-- what == compares as data -/
def shp (d : D) : Prop := pyb d = true ∧ SeqAt.shaped (toPy d) = true
def drEq : DR2 := fun x y Q => match eqS x y with
  | some b => Q (.bl b)
  | none => shp x ∧ shp y ∧ Q (.bl (PyData.eqv (toPy x) (toPy y)))
def drNe : DR2 := fun x y Q => match eqS x y with
  | some b => Q (.bl (!b))
  | none => shp x ∧ shp y ∧ Q (.bl (!PyData.eqv (toPy x) (toPy y)))
theorem eqS_V {n : Sto} {B : Addr → Prop} {H : Hp} {x y : V} {d e : D} {b : Bool} (rx : Rp n B H x d) (ry : Rp n B H y e) (h : eqS d e = some b) : scal x y = true ∧ decide (x = y) = b := by
  unfold eqS at h
  split at h <;> first | (cases h; done) | skip
  all_goals (cases rx; cases ry; simp only [Option.some.injEq] at h; subst h; refine ⟨rfl, ?_⟩; simp)
theorem sn_eq {K : PySem.W.Frag} : Snd2 (fun x y H Q => rEq x y H Q ∨ rEqD K x y H Q) drEq := fun P A B H x y d e Q Qd p0 nA rx ry h k => by
  unfold drEq at h
  split at h
  · rename_i b hb
    obtain ⟨h1, h2⟩ := eqS_V rx ry hb
    exact .inl ⟨h1, by rw [h2]; exact k _ H _ (Same.refl H) (.bl _) h⟩
  · exact .inr ⟨_, _, Rp.dp d x h.1.1 rx, Rp.dp e y h.2.1.1 ry, h.1.2, h.2.1.2, k _ H _ (Same.refl H) (.bl _) h.2.2⟩
theorem sn_ne {K : PySem.W.Frag} : Snd2 (fun x y H Q => rNe x y H Q ∨ rNeD K x y H Q) drNe := fun P A B H x y d e Q Qd p0 nA rx ry h k => by
  unfold drNe at h
  split at h
  · rename_i b hb
    obtain ⟨h1, h2⟩ := eqS_V rx ry hb
    exact .inl ⟨h1, by rw [h2]; exact k _ H _ (Same.refl H) (.bl _) h⟩
  · exact .inr ⟨_, _, Rp.dp d x h.1.1 rx, Rp.dp e y h.2.1.1 ry, h.1.2, h.2.1.2, k _ H _ (Same.refl H) (.bl _) h.2.2⟩
theorem op_eqU {X : Cx} (hu : X.A.units + 64 < cLine) : OpR X (compareOp .Eq) (fun x y H Q => rEq x y H Q ∨ rEqD X.K x y H Q) := op_eq.or (op_eqD hu)
theorem op_neU {X : Cx} (hu : X.A.units + 64 < cLine) : OpR X (compareOp .NotEq) (fun x y H Q => rNe x y H Q ∨ rNeD X.K x y H Q) := op_ne.or (op_neD hu)
/-! ### is None -/
def isNonD : D → Option Bool
  | .non => some true
  | .opq _ => none
  | _ => some false
def drIsN : DR2 := fun x y Q => match y, isNonD x with | .non, some b => Q (.bl b) | _, _ => False
def drNotN : DR2 := fun x y Q => match y, isNonD x with | .non, some b => Q (.bl (!b)) | _, _ => False
theorem isNon_V {n : Sto} {B : Addr → Prop} {H : Hp} {x : V} {d : D} {b : Bool} (rx : Rp n B H x d) (h : isNonD d = some b) : decide (x = .non) = b := by
  cases rx <;> simp [isNonD] at h <;> subst h <;> simp
theorem sn_isN : Snd2 (fun x y H Q => y = .non ∧ Q (.bl (decide (x = .non))) H) drIsN := fun P A B H x y d e Q Qd p0 nA rx ry h k => by
  unfold drIsN at h
  split at h
  · rename_i b hb
    cases ry
    exact ⟨rfl, by rw [isNon_V rx hb]; exact k _ H _ (Same.refl H) (.bl _) h⟩
  · exact h.elim
theorem sn_notN : Snd2 (fun x y H Q => y = .non ∧ Q (.bl (!decide (x = .non))) H) drNotN := fun P A B H x y d e Q Qd p0 nA rx ry h k => by
  unfold drNotN at h
  split at h
  · rename_i b hb
    cases ry
    exact ⟨rfl, by rw [isNon_V rx hb]; exact k _ H _ (Same.refl H) (.bl _) h⟩
  · exact h.elim
/-! ### in, not in -/
def scD : D → Bool
  | .non => true
  | .bl _ => true
  | .int _ => true
  | .str _ => true
  | _ => false
def eqD : D → D → Bool
  | .non, .non => true
  | .bl a, .bl b => a == b
  | .bl a, .int b => (if a then 1 else 0) == b
  | .int a, .bl b => a == (if b then 1 else 0)
  | .int a, .int b => a == b
  | .str a, .str b => a == b
  | _, _ => false
def inD (x : D) (ds : List D) : Bool := ds.any fun y => eqD y x
def seqOf : D → Option (List D)
  | .lst ds => some ds
  | .tup ds => some ds
  | _ => none
theorem sc_V {n : Sto} {B : Addr → Prop} {H : Hp} {x : V} {d : D} (r : Rp n B H x d) (h : scD d = true) : flatV x = true := by
  cases r <;> first | rfl | simp [scD] at h
theorem eqD_V {n : Sto} {B : Addr → Prop} {H : Hp} {x y : V} {d e : D} (rx : Rp n B H x d) (ry : Rp n B H y e) (h1 : scD d = true) (h2 : scD e = true) : eqV x y = eqD d e := by
  cases rx <;> first | (simp [scD] at h1; done) | skip
  all_goals (cases ry <;> first | rfl | (simp [scD] at h2; done))
theorem inD_V {n : Sto} {B : Addr → Prop} {H : Hp} {x : V} {d : D} (rx : Rp n B H x d) (h1 : scD d = true) : ∀ {vs : List V} {ds : List D}, RpAll n B H vs ds → ds.all scD = true → vs.all flatV = true ∧ inV x vs = inD d ds
  | _, _, .nil, _ => ⟨rfl, rfl⟩
  | v :: vs, e :: es, .cons r t, h => by
    rw [List.all_cons, Bool.and_eq_true] at h
    obtain ⟨a, b⟩ := inD_V rx h1 t h.2
    refine ⟨by rw [List.all_cons, sc_V r h.1, a]; rfl, ?_⟩
    show (eqV v x || inV x vs) = (eqD e d || inD d es)
    rw [eqD_V r rx h.1 h1, b]
def drIn (neg : Bool) : DR2 := fun x y Q => ∃ ds, seqOf y = some ds ∧ scD x = true ∧ ds.all scD = true ∧ Q (.bl (if neg then !inD x ds else inD x ds))
theorem sn_in {K : PySem.W.Frag} {neg : Bool} : Snd2 (rIn K neg) (drIn neg) := fun P A B H x y d e Q Qd p0 nA rx ry h k => by
  obtain ⟨ds, e1, h1, h2, h⟩ := h
  cases e <;> first | (cases e1; done) | skip
  · cases e1
    cases ry with
    | tup a1 a2 r =>
      obtain ⟨f, i⟩ := inD_V rx h1 r h2
      exact ⟨_, _, rfl, .inr (TupO.sq a1), sc_V rx h1, f, by rw [i]; exact k _ H _ (Same.refl H) (.bl _) h⟩
  · cases e1
    cases ry with
    | lst a1 a2 a3 r =>
      obtain ⟨f, i⟩ := inD_V rx h1 r h2
      exact ⟨_, _, rfl, .inl (SqL.of a1), sc_V rx h1, f, by rw [i]; exact k _ H _ (Same.refl H) (.bl _) h⟩
omit [XP] [XE] in
theorem inD_ints (i : Int) : ∀ ns : List Int, inD (.int i) (ns.map D.int) = decide (i ∈ ns)
  | [] => rfl
  | n :: ns => by
    show ((n == i) || inD (.int i) (ns.map D.int)) = decide (i ∈ n :: ns)
    rw [inD_ints i ns, Bool.eq_iff_iff]
    simp only [List.mem_cons, Bool.or_eq_true, beq_iff_eq, decide_eq_true_eq]
    exact ⟨fun h => h.elim (fun h => .inl h.symm) .inr, fun h => h.elim (fun h => .inl h.symm) .inr⟩
omit [XP] [XE] in
theorem sc_ints : ∀ ns : List Int, (ns.map D.int).all scD = true
  | [] => rfl
  | n :: ns => by rw [List.map_cons, List.all_cons, sc_ints ns]; rfl
omit [XP] [XE] in
theorem flat_ints (ns : List Int) : flatAll (ns.map D.int) = true := flatAll_map (fun _ => rfl) ns
/-! ### x[i], x[a:b] -/
theorem RpAll.atI {n : Sto} {A : Addr → Prop} {H : Hp} {vs : List V} {ds : List D} {i : Int} {d : D} (r : RpAll n A H vs ds) (h : L2.atI ds i = some d) : ∃ v, L2.atI vs i = some v ∧ Rp n A H v d := by
  unfold L2.atI at h ⊢
  rw [r.length]
  cases e : ixN ds.length i with
  | none => rw [e] at h; cases h
  | some j =>
    rw [e] at h
    exact r.get h
def drIx : DR2 := fun x y Q => match x, y with
  | .lst xs, .int i => ∃ d, atI xs i = some d ∧ flat d = true ∧ Q d
  | .tup xs, .int i => ∃ d, atI xs i = some d ∧ flat d = true ∧ Q d
  | .str z, .int i => ∃ c, z.length ≤ sizeLine ∧ atI z.cps.toList i = some c ∧ Q (.str ⟨#[c]⟩)
  | _, _ => False
theorem sn_ix {K : PySem.W.Frag} : Snd2 (rIx K) drIx := fun P A B H x y d e Q Qd p0 nA rx ry h k => by
  cases d <;> cases e <;> first | exact h.elim | skip
  · cases rx
    cases ry
    obtain ⟨c, h1, h2, q⟩ := h
    exact .inr (.inr ⟨_, _, c, rfl, rfl, h1, h2, k _ H _ (Same.refl H) (.str _) q⟩)
  · obtain ⟨d, h1, h2, q⟩ := h
    cases ry
    cases rx with
    | tup a1 a2 r =>
      obtain ⟨v, e1, e2⟩ := r.atI h1
      exact .inr (.inl ⟨_, _, _, v, rfl, rfl, TupO.sq a1, e1, k _ H _ (Same.refl H) (Rp.flat _ _ h2 e2) q⟩)
  · obtain ⟨d, h1, h2, q⟩ := h
    cases ry
    cases rx with
    | lst a1 a2 a3 r =>
      obtain ⟨v, e1, e2⟩ := r.atI h1
      exact .inl ⟨_, _, _, v, rfl, rfl, SqL.of a1, e1, k _ H _ (Same.refl H) (Rp.flat _ _ h2 e2) q⟩
section
variable {X : Cx} {a b c e : Expr} {ta tb tc te : DTE} {pos : Pos}
theorem d_ix (ha : DE X a ta) (hb : DE X b tb) (hs : PlainIx b) : DE X (.Subscript a b pos) (tOpD drIx ta tb) :=
  wkE (pe_ix ix_seq ha hb hs) fun _ _ _ h => lift_op sn_ix h
abbrev DTO := DEnv → Sto → XC → (Option Int → Sto → Prop) → Prop
def liftO (t : DTO) : TO := fun σ H Q => ∃ n0 H0 fr av n Δ Xd Qd, StR n0 H0 fr av n σ Δ H ∧ XOk n H σ Xd ∧ t Δ n Xd Qd ∧ ∀ b H' n', SameP n H n' H' → SOk n' H' → Qd b n' → Q b H'
abbrev DO (X : Cx) (e : Option Expr) (t : DTO) : Prop := PO X e (liftO t)
def tNoPartD : DTO := fun _ n X Q => Q none n
def tPartD (t : DTE) : DTO := fun Δ n X Q => t .bor Δ n X fun x n1 => match x with | .int i => Q (some i) n1 | _ => False
theorem wkO {e : Option Expr} {t t' : TO} (h : PO X e t) (w : ∀ σ H Q, t' σ H Q → t σ H Q) : PO X e t' := ⟨fun pins s σ H Q I q => h.run pins s σ H Q I (w σ H Q q)⟩
theorem do_none : DO X none tNoPartD := wkO po_none fun σ H Q ⟨n0, H0, fr, av, n, Δ, Xd, Qd, S, xk, h, k⟩ => k none H n (SameP.refl n H) S.pen h
theorem do_some (h : DE X e te) : DO X (some e) (tPartD te) := wkO (po_some h) fun σ H Q ⟨n0, H0, fr, av, n, Δ, Xd, Qd, S, xk, h, k⟩ => lift_at (B := H) .bor S (SameP.refl n H) xk h fun v H1 d n1 s1 S1 r1 q1 => by
  cases d <;> first | exact q1.elim | skip
  cases r1
  exact ⟨_, rfl, k _ H1 n1 s1 S1.pen q1⟩
theorem liftO_at {t : DTO} {n0 : Sto} {H0 : Hp} {fr : List (V × D)} {av : List Addr} {n : Sto} {σ : L2.St} {Δ : DEnv} {H : Hp} {Xd : XC} {Q : Option Int → Hp → Prop} {Qd : Option Int → Sto → Prop} (S : StR n0 H0 fr av n σ Δ H) (xk : XOk n H σ Xd) (h : t Δ n Xd Qd)
    (k : ∀ v H' n', SameP n H n' H' → StR n0 H0 fr av n' σ Δ H' → Qd v n' → Q v H') : liftO t σ H Q :=
  ⟨n0, H0, fr, av, n, Δ, Xd, Qd, S, xk, h, fun v H' n' s p q => k v H' n' s (S.mono s p) q⟩
def cutL {α : Type} (xs : List α) (lo hi : Option Int) : List α := (xs.drop (HT.sIx xs.length 0 lo)).take (HT.sIx xs.length xs.length hi - HT.sIx xs.length 0 lo)
theorem RpAll.cut {n : Sto} {A : Addr → Prop} {H : Hp} {vs : List V} {ds : List D} (r : RpAll n A H vs ds) (lo hi : Option Int) : RpAll n A H (cutV vs lo hi) (cutL ds lo hi) := by
  unfold cutV cutL
  rw [r.length]
  exact (r.drop _).take _
def tSlD (te : DTE) (tl th : DTO) : DTE := fun _ Δ n X Q => te .bor Δ n X fun x n1 => tl Δ n1 X fun l n2 => th Δ n2 X fun u n3 => match x with
  | .lst xs => flatAll xs = true ∧ Q (.lst (cutL xs l u)) n3
  | .tup xs => flatAll xs = true ∧ Q (.tup (cutL xs l u)) n3
  | .str z => z.length ≤ sizeLine ∧ Q (.str (cutS z l u)) n3
  | _ => False
omit [XP] [XE] in
theorem flat_cut {ds : List D} (h : flatAll ds = true) (lo hi : Option Int) : flatAll (cutL ds lo hi) = true := by
  rw [flatAll_iff] at h ⊢
  intro d hd
  exact h d (List.mem_of_mem_drop (List.mem_of_mem_take hd))
theorem d_sl {lo hi : Option Expr} {tl th : DTO} {p2 : Pos} (he : DE X e te) (hl : DO X lo tl) (hu : DO X hi th) : DE X (.Subscript e (.Slice lo hi none p2) pos) (tSlD te tl th) :=
  wkE (pe_slice (sl_list.or (sl_tupF.or sl_str)) he hl hu) fun σ H Q ⟨n0, H0, nB, B, fr, av, n, Δ, m, Xd, Qd, S, bb, xk, h, k⟩ => lift_at .bor S bb xk h fun v H1 d n1 s1 S1 r1 q1 =>
    liftO_at S1 (xk.step s1) q1 fun l H2 n2 s2 S2 q2 => liftO_at S2 ((xk.step s1).step s2) q2 fun u H3 n3 s3 S3 q3 => by
      have s13 := (s1.trans s2).trans s3
      cases d <;> first | exact q3.elim | skip
      · cases r1
        exact .inr (.inr ⟨_, rfl, q3.1, k _ H3 _ n3 s13 S3.pen (.str _) q3.2⟩)
      · cases r1 with
        | tup a1 a2 r =>
          obtain ⟨e1, a2'⟩ := (s2.trans s3).tup a1 a2
          have r3 := r.same (s2.trans s3)
          refine .inr (.inl ⟨_, _, rfl, TupO.sq e1, fun z => ?_, fun _ p ob hp hd => ?_⟩)
          · have q := q3.2
            unfold cutL at q
            rw [← r.length, z.1, z.2, List.drop_zero, Nat.sub_zero, r.length, List.take_length] at q
            exact k _ H3 _ n3 s13 S3.pen (.tup e1 a2' (RpAll.flat _ _ q3.1 r3)) q
          · exact k _ _ _ n3 (s13.trans (SameP.new hp)) (S3.pen.same (same_new hp)) (.tup (.new hd) (S3.neP hp) (rp_upd hp (fun _ _ _ z => z) (RpAll.flat _ _ (flat_cut q3.1 _ _) (r3.cut l u)))) q3.2
      · cases r1 with
        | lst a1 a2 a3 r =>
          obtain ⟨e1, a2'⟩ := (s2.trans s3).keep _ _ a1 a2
          have r3 := r.same (s2.trans s3)
          refine .inl ⟨_, _, rfl, SqL.of e1, fun p hp => ?_⟩
          exact k _ _ _ n3 (s13.trans (SameP.new hp)) (S3.pen.same (same_new hp)) (.lst upd_same (S3.neP hp) (Al.new S3 (bb.trans s13) m hp) (rp_upd hp (fun _ _ _ z => z) (RpAll.flat _ _ (flat_cut q3.1 _ _) (r3.cut l u)))) q3.2
end
end Dl

set_option Elab.async false
set_option linter.all false
set_option maxRecDepth 100000
set_option maxHeartbeats 1000000
namespace Dl
open PySem PySem.Spec PyProof.Rows L2
variable [XP] [XE]

/-! ### statements -/
structure DEnds where
  nx : DEnv → Sto → Prop
  rt : D → Sto → Prop
  bk : DEnv → Sto → Prop := fun _ _ => False
  ct : DEnv → Sto → Prop := fun _ _ => False
  xr : D → DEnv → Sto → Prop := fun _ _ _ => False
abbrev DEnds.xs (Dd : DEnds) (Δ : DEnv) : XC := fun ex n => Dd.xr ex Δ n
abbrev DTS := DEnds → DEnv → Sto → Prop
structure EndsOk (n0 : Sto) (H0 : Hp) (fr : List (V × D)) (av : List Addr) (Dd : DEnds) (E : Ends) : Prop where
  nx : ∀ σ' H' Δ' n', StR n0 H0 fr av n' σ' Δ' H' → Dd.nx Δ' n' → E.nx σ' H'
  rt : ∀ v H' d n', SameP n0 H0 n' H' → SOk n' H' → Rp n' (NewS H0) H' v d → Dd.rt d n' → E.rt v H'
  bk : ∀ σ' H' Δ' n', StR n0 H0 fr av n' σ' Δ' H' → Dd.bk Δ' n' → E.bk σ' H'
  ct : ∀ σ' H' Δ' n', StR n0 H0 fr av n' σ' Δ' H' → Dd.ct Δ' n' → E.ct σ' H'
  xr : ∀ cls d σ' H' Δ' ex n', StR n0 H0 fr av n' σ' Δ' H' → RpX n' H' cls d ex → Dd.xr ex Δ' n' → XE.W cls d σ' H'
  inv : ∀ n H, SameP n0 H0 n H → XE.I n H
theorem EndsOk.xk {n0 n : Sto} {H0 H : Hp} {fr : List (V × D)} {av : List Addr} {σ : L2.St} {Δ : DEnv} {Dd : DEnds} {E : Ends} (k : EndsOk n0 H0 fr av Dd E) (S : StR n0 H0 fr av n σ Δ H) : XOk n H σ (Dd.xs Δ) :=
  ⟨fun cls d H' ex n' s p r q => k.xr cls d σ H' Δ ex n' (S.mono s p) r q, k.inv n H S.same⟩
def liftS (t : DTS) : TS := fun E σ H => ∃ n0 H0 fr av n Δ Dd, StR n0 H0 fr av n σ Δ H ∧ t Dd Δ n ∧ EndsOk n0 H0 fr av Dd E
abbrev DS (X : Cx) (st : Stmt) (t : DTS) : Prop := PS X st (liftS t)
abbrev DSs (X : Cx) (st : List Stmt) (t : DTS) : Prop := PSs X st (liftS t)
def tNextD : DTS := fun Dd Δ n => Dd.nx Δ n
def tSeqD (t u : DTS) : DTS := fun Dd Δ n => t { Dd with nx := u Dd } Δ n
def tBreakD : DTS := fun Dd Δ n => Dd.bk Δ n
def tContD : DTS := fun Dd Δ n => Dd.ct Δ n
def tDropD (te : DTE) : DTS := fun Dd Δ n => te .bor Δ n (Dd.xs Δ) fun _ n1 => Dd.nx Δ n1
def tRetD (te : DTE) : DTS := fun Dd Δ n => te .ret Δ n (Dd.xs Δ) Dd.rt
def tRetND : DTS := fun Dd _ n => Dd.rt .non n
def tIfSD (c : DTT) (t u : DTS) : DTS := fun Dd Δ n => c Δ n (Dd.xs Δ) fun b n1 => if b = true then t Dd Δ n1 else u Dd Δ n1
section
variable {X : Cx} {st : Stmt} {rest : List Stmt} {t u : DTS} {e : Expr} {te : DTE} {pos : Pos}
theorem dss_nil : DSs X [] tNextD := wkSs pss_nil fun E σ H ⟨n0, H0, fr, av, n, Δ, Dd, S, h, k⟩ => k.nx _ _ _ _ S h
theorem dss_cons (h1 : DS X st t) (h2 : DSs X rest u) : DSs X (st :: rest) (tSeqD t u) :=
  wkSs (pss_cons h1 h2) fun E σ H ⟨n0, H0, fr, av, n, Δ, Dd, S, h, k⟩ =>
    ⟨n0, H0, fr, av, n, Δ, _, S, h, ⟨fun σ' H' Δ' n' S' q => ⟨n0, H0, fr, av, n', Δ', Dd, S', q, k⟩, k.rt, k.bk, k.ct, k.xr, k.inv⟩⟩
theorem dss_one (h1 : DS X st t) : DSs X [st] t := pss_one h1
theorem ds_pass : DS X (.Pass pos) tNextD := wkS ps_pass fun E σ H ⟨n0, H0, fr, av, n, Δ, Dd, S, h, k⟩ => k.nx _ _ _ _ S h
theorem ds_break : DS X (.Break pos) tBreakD := wkS ps_break fun E σ H ⟨n0, H0, fr, av, n, Δ, Dd, S, h, k⟩ => k.bk _ _ _ _ S h
theorem ds_continue : DS X (.Continue pos) tContD := wkS ps_continue fun E σ H ⟨n0, H0, fr, av, n, Δ, Dd, S, h, k⟩ => k.ct _ _ _ _ S h
theorem ds_expr (he : DE X e te) (hs : swapsWith e none pos.line X.env = pure false := by rfl) : DS X (.Expr e pos) (tDropD te) :=
  wkS (ps_expr he hs) fun E σ H ⟨n0, H0, fr, av, n, Δ, Dd, S, h, k⟩ => lift_at (B := H) .bor S (SameP.refl n H) (k.xk S) h fun v H1 d n1 s1 S1 r1 q1 => k.nx _ _ _ _ S1 q1
theorem ds_ret (he : DE X e te) : DS X (.Return (some e) pos) (tRetD te) :=
  wkS (ps_ret he) fun E σ H ⟨n0, H0, fr, av, n, Δ, Dd, S, h, k⟩ => lift_at (B := H) .ret S (SameP.refl n H) (k.xk S) h fun v H1 d n1 s1 S1 r1 q1 =>
    k.rt v H1 d n1 S1.same S1.pen (r1.imp fun a o _ z => z.2) q1
theorem ds_retN : DS X (.Return none pos) tRetND := wkS ps_retN fun E σ H ⟨n0, H0, fr, av, n, Δ, Dd, S, h, k⟩ => k.rt _ H _ n S.same S.pen .non h
theorem ds_if {c : Expr} {a b : List Stmt} {tc : DTT} (hc : DT X c tc) (ha : DSs X a t) (hb : DSs X b u) : DS X (.If c a b pos) (tIfSD tc t u) :=
  wkS (ps_if hc ha hb) fun E σ H ⟨n0, H0, fr, av, n, Δ, Dd, S, h, k⟩ => liftT_at S (k.xk S) h fun v H1 n1 s1 S1 q1 => by
    cases v with
    | true => exact ⟨n0, H0, fr, av, n1, Δ, Dd, S1, q1, k⟩
    | false => exact ⟨n0, H0, fr, av, n1, Δ, Dd, S1, q1, k⟩
end

/-! ### slots set -/
omit [XE]
section
variable {n0 : Sto} {H0 : Hp} {fr : List (V × D)} {av : List Addr} {n n' : Sto} {σ : L2.St} {Δ : DEnv} {H H' : Hp}
theorem StR.lt (S : StR n0 H0 fr av n σ Δ H) (i : Nat) : i < σ.length ↔ i < Δ.length := by rw [S.len]
theorem no_setF {v : V} {d : D} {i : Nat} (hl : σ.length = Δ.length) (a : Addr) (h : NO av σ Δ a) : NO av (σ.set i (some v)) (Δ.set i (some (.frz d))) a := by
  refine ⟨h.1, fun j ds e => ?_⟩
  by_cases hj : i = j
  · subst hj
    rw [List.getElem?_set] at e
    simp only [if_true] at e
    split at e <;> cases e
  · rw [List.getElem?_set_ne hj] at e ⊢
    exact h.2 j ds e
theorem StR.setF (S : StR n0 H0 fr av n σ Δ H) {v : V} {d : D} (i : Nat) (r : Rp n (NO av σ Δ) H v d) : StR n0 H0 fr av n (σ.set i (some v)) (Δ.set i (some (.frz d))) H where
  same := S.same
  pen := S.pen
  len := by rw [List.length_set, List.length_set, S.len]
  frz := fun j e h => by
    by_cases hj : i = j
    · subst hj
      have hi : i < Δ.length := by
        rw [List.getElem?_set] at h
        simp only [if_true] at h
        split at h
        · assumption
        · cases h
      rw [List.getElem?_set_self hi] at h
      cases h
      exact ⟨v, List.getElem?_set_self (by rw [S.len]; exact hi), r.imp fun a _ _ z => no_setF S.len a z⟩
    · rw [List.getElem?_set_ne hj] at h ⊢
      obtain ⟨u, h1, h2⟩ := S.frz j e h
      exact ⟨u, h1, h2.imp fun a _ _ z => no_setF S.len a z⟩
  own := fun j ds h => by
    by_cases hj : i = j
    · subst hj
      rw [List.getElem?_set] at h
      simp only [if_true] at h
      split at h <;> cases h
    · rw [List.getElem?_set_ne hj] at h ⊢
      obtain ⟨p, vs, h1, h2, h3, h4, h5⟩ := S.own j ds h
      exact ⟨p, vs, h1, h2, h3, h4, h5.imp fun a _ _ z => no_setF S.len a z⟩
  dis := fun j l p dj dl h1 h2 h3 h4 => by
    by_cases hj : i = j
    · subst hj
      rw [List.getElem?_set] at h1
      simp only [if_true] at h1
      split at h1 <;> cases h1
    · by_cases hl : i = l
      · subst hl
        rw [List.getElem?_set] at h2
        simp only [if_true] at h2
        split at h2 <;> cases h2
      · rw [List.getElem?_set_ne hj] at h1 h3
        rw [List.getElem?_set_ne hl] at h2 h4
        exact S.dis j l p dj dl h1 h2 h3 h4
  gh := fun g hg => (S.gh g hg).imp fun a _ _ z => no_setF S.len a z
  avn := S.avn
/-- a new list that this slot alone is to hold -/
theorem StR.setO (S : StR n0 H0 fr av n σ Δ H) (s : SameP n H n' H') (pe : SOk n' H') {p : Addr} {vs : List V} {ds : List D} (i : Nat) (hp : NewS H p) (hp' : H' p = some (.lst vs)) (hr : n' p = none) (hf : flatAll ds = true) {A : Addr → Prop} (r : RpAll n' A H' vs ds) :
    StR n0 H0 fr av n' (σ.set i (some (.ref p))) (Δ.set i (some (.own ds))) H' := by
  have no : ∀ a, NO av σ Δ a → a ≠ p → NO av (σ.set i (some (.ref p))) (Δ.set i (some (.own ds))) a := fun a h ne => by
    refine ⟨h.1, fun j es e => ?_⟩
    by_cases hj : i = j
    · subst hj
      intro z
      by_cases hi : i < σ.length
      · rw [List.getElem?_set_self hi] at z
        exact ne (by cases z; rfl)
      · rw [List.getElem?_eq_none (by rw [List.length_set]; omega)] at z
        cases z
    · rw [List.getElem?_set_ne hj] at e ⊢
      exact h.2 j es e
  have up : ∀ {v : V} {d : D}, Rp n (NO av σ Δ) H v d → Rp n' (NO av (σ.set i (some (.ref p))) (Δ.set i (some (.own ds)))) H' v d := fun {v d} q =>
    ((q.imp' (A' := fun a => NO av σ Δ a ∧ a ≠ p) fun a o e nt z => ⟨z, fun y => by subst y; obtain ⟨ps, w⟩ := hp o e; exact nt ps w⟩).same s).imp fun a _ _ z => no a z.1 z.2
  have ups : ∀ {v : List V} {d : List D}, RpAll n (NO av σ Δ) H v d → RpAll n' (NO av (σ.set i (some (.ref p))) (Δ.set i (some (.own ds)))) H' v d := fun {v d} q =>
    ((q.imp' (A' := fun a => NO av σ Δ a ∧ a ≠ p) fun a o e nt z => ⟨z, fun y => by subst y; obtain ⟨ps, w⟩ := hp o e; exact nt ps w⟩).same s).imp fun a _ _ z => no a z.1 z.2
  have S' := S.mono s pe
  refine ⟨S'.same, pe, by rw [List.length_set, List.length_set, S.len], fun j e h => ?_, fun j es h => ?_, fun j l q dj dl h1 h2 h3 h4 => ?_, fun g hg => up (S.gh g hg), S'.avn⟩
  · by_cases hj : i = j
    · subst hj
      rw [List.getElem?_set] at h
      simp only [if_true] at h
      split at h <;> cases h
    · rw [List.getElem?_set_ne hj] at h ⊢
      obtain ⟨u, h1, h2⟩ := S.frz j e h
      exact ⟨u, h1, up h2⟩
  · by_cases hj : i = j
    · subst hj
      have hi : i < Δ.length := by
        rw [List.getElem?_set] at h
        simp only [if_true] at h
        split at h
        · assumption
        · cases h
      rw [List.getElem?_set_self hi] at h
      cases h
      refine ⟨p, vs, List.getElem?_set_self (by rw [S.len]; exact hi), fun z => (by obtain ⟨_, vs, e⟩ := S.avn p z; exact hp.ne e rfl), ⟨S.same.newS hp (S.neS hp), hr⟩, hp', RpAll.flat _ _ hf r⟩
    · rw [List.getElem?_set_ne hj] at h ⊢
      obtain ⟨q, us, h1, h2, h3, h4, h5⟩ := S.own j es h
      obtain ⟨k1, k2⟩ := s.keep _ _ h4 h3.2
      exact ⟨q, us, h1, h2, ⟨h3.1, k2⟩, k1, ups h5⟩
  · have key : ∀ (k : Nat) (dk : List D), i ≠ k → Δ[k]? = some (some (SV.own dk)) → σ[k]? = some (some (V.ref q)) → q ≠ p := fun k dk hk e1 e2 z => by
      obtain ⟨q', us, g1, g2, g3, g4, g5⟩ := S.own k dk e1
      rw [e2] at g1
      cases g1
      exact hp.ne g4 z.symm
    have at_i : ∀ {x : Option V}, (σ.set i (some (V.ref p)))[i]? = some x → x = some (V.ref p) := fun {x} z => by
      by_cases hi : i < σ.length
      · rw [List.getElem?_set_self hi] at z; cases z; rfl
      · rw [List.getElem?_eq_none (by rw [List.length_set]; omega)] at z; cases z
    by_cases hj : i = j
    · by_cases hl : i = l
      · exact hj.symm.trans hl
      · rw [List.getElem?_set_ne hl] at h2 h4
        rw [← hj] at h3
        have e := at_i h3
        cases e
        exact absurd rfl (key l dl hl h2 h4)
    · by_cases hl : i = l
      · rw [List.getElem?_set_ne hj] at h1 h3
        rw [← hl] at h4
        have e := at_i h4
        cases e
        exact absurd rfl (key j dj hj h1 h3)
      · rw [List.getElem?_set_ne hj] at h1 h3
        rw [List.getElem?_set_ne hl] at h2 h4
        exact S.dis j l q dj dl h1 h2 h3 h4
/-- a tracked list that is no root is changed: what is not it stays -/
theorem wr_same {n0 n : Sto} {H0 H : Hp} {p : Addr} {vs us : List V} (S : SameP n0 H0 n H) (h3 : NewS H0 p) (h4 : H p = some (.lst us)) : SameP n0 H0 n (upd H p (.lst vs)) :=
  ⟨fun a o e r nt => by
    rw [upd_ne (fun z => by subst z; obtain ⟨ps, q⟩ := h3 o e; exact nt ps q)]
    exact S.keep a o e r nt, S.root⟩
theorem SOk.wr {n : Sto} {H : Hp} {p : Addr} {us vs : List V} (k : SOk n H) (h4 : H p = some (.lst us)) (r : n p = none) : SOk n (upd H p (.lst vs)) := ⟨tabs_wr h4 k.tab, fun a ro e => by
  have hap : a ≠ p := fun z => by rw [z, r] at e; cases e
  refine (k.ro a ro e).stay ⟨fun b xs q z => ⟨q.updL h4, z⟩, fun b o q z f => f.elim, fun b c d q z => ⟨by rw [upd_ne (ne_of q h4 cxo_lst)]; exact q, z⟩, fun b fs q z => ⟨by rw [upd_ne (ne_of q h4 (by intro z; cases z))]; exact q, z⟩⟩ (fun o q => by rw [upd_ne hap]; exact q) fun dx q z => ⟨by rw [upd_ne (ne_of q h4 (by intro z; cases z))]; exact q, z⟩⟩
/-- the list that a slot alone holds is changed -/
theorem StR.wr (S : StR n0 H0 fr av n σ Δ H) {p : Addr} {vs : List V} {ds es : List D} {i : Nat} (hi : Δ[i]? = some (some (SV.own ds))) (hp : σ[i]? = some (some (V.ref p))) (r : RpAll n (NO av σ Δ) H vs es) :
    StR n0 H0 fr av n σ (Δ.set i (some (.own es))) (upd H p (.lst vs)) := by
  obtain ⟨q, us, h1, h2, h3, h4, h5⟩ := S.own i ds hi
  rw [hp] at h1
  cases h1
  have il : i < Δ.length := (List.getElem?_eq_some_iff.mp hi).1
  have no : ∀ a, NO av σ Δ a → NO av σ (Δ.set i (some (.own es))) a := fun a h => by
    refine ⟨h.1, fun j fs e => ?_⟩
    by_cases hj : i = j
    · subst hj
      exact h.2 i ds hi
    · rw [List.getElem?_set_ne hj] at e
      exact h.2 j fs e
  have st : Stay n (NO av σ Δ) H n (NO av σ (Δ.set i (some (.own es)))) (upd H p (.lst vs)) := by
    refine ⟨fun a xs e z => ⟨e.updL h4, z⟩, fun a o e y z _ => ?_, fun b c d q z => ⟨by rw [upd_ne (ne_of q h4 cxo_lst)]; exact q, z⟩, fun b fs q z => ⟨by rw [upd_ne (ne_of q h4 (by intro z; cases z))]; exact q, z⟩⟩
    have ne : a ≠ p := fun y => by subst y; exact z.2 i ds hi hp
    exact ⟨by rw [upd_ne ne]; exact e, y, no a z⟩
  refine ⟨wr_same S.same h3.1 h4, S.pen.wr h4 h3.2, by rw [List.length_set, S.len], fun j e h => ?_, fun j fs h => ?_, fun j l q dj dl g1 g2 g3 g4 => ?_, fun g hg => Rp.stay st _ _ (S.gh g hg), fun a ha => ?_⟩
  · by_cases hj : i = j
    · subst hj
      rw [List.getElem?_set_self il] at h
      cases h
    · rw [List.getElem?_set_ne hj] at h
      obtain ⟨u, k1, k2⟩ := S.frz j e h
      exact ⟨u, k1, Rp.stay st _ _ k2⟩
  · by_cases hj : i = j
    · subst hj
      rw [List.getElem?_set_self il] at h
      cases h
      exact ⟨p, vs, hp, h2, h3, upd_same, RpAll.stay st _ _ r⟩
    · rw [List.getElem?_set_ne hj] at h
      obtain ⟨q, us', k1, k2, k3, k4, k5⟩ := S.own j fs h
      have nq : q ≠ p := fun z => by
        subst z
        exact hj (S.dis i j q ds fs hi h hp k1)
      exact ⟨q, us', k1, k2, k3, by rw [upd_ne nq]; exact k4, RpAll.stay st _ _ k5⟩
  · have g1' : ∃ d, Δ[j]? = some (some (SV.own d)) := by
      by_cases hj : i = j
      · exact ⟨ds, hj ▸ hi⟩
      · rw [List.getElem?_set_ne hj] at g1; exact ⟨_, g1⟩
    have g2' : ∃ d, Δ[l]? = some (some (SV.own d)) := by
      by_cases hj : i = l
      · exact ⟨ds, hj ▸ hi⟩
      · rw [List.getElem?_set_ne hj] at g2; exact ⟨_, g2⟩
    obtain ⟨d1, g1'⟩ := g1'
    obtain ⟨d2, g2'⟩ := g2'
    exact S.dis j l q d1 d2 g1' g2' g3 g4
  · by_cases z : a = p
    · subst z; exact absurd ha h2
    · rw [upd_ne z]; exact S.avn a ha
end
end Dl

set_option Elab.async false
set_option linter.all false
set_option maxRecDepth 100000
set_option maxHeartbeats 1000000
namespace Dl
open PySem PySem.Spec PyProof.Rows L2
variable [XP] [XE]

/-! ### x = e -/
def tSetD (i : Nat) (te : DTE) : DTS := fun Dd Δ n => te .frz Δ n (Dd.xs Δ) fun d n1 => Dd.nx (Δ.set i (some (.frz d))) n1
def tOwnD (i : Nat) (te : DTE) : DTS := fun Dd Δ n => te .new Δ n (Dd.xs Δ) fun d n1 => match d with | .lst ds => flatAll ds = true ∧ Dd.nx (Δ.set i (some (.own ds))) n1 | _ => False
theorem asg_F {i : Nat} {t : DTE} {te : TE} (w : ∀ σ H Q, lift t σ H Q → te σ H Q) (E : Ends) (σ : L2.St) (H : Hp) (h : liftS (tSetD i t) E σ H) : tAsg te (gName i) E σ H := by
  obtain ⟨n0, H0, fr, av, n, Δ, Dd, S, h, k⟩ := h
  exact w _ _ _ (lift_at (B := H) .frz S (SameP.refl n H) (k.xk S) h fun v H1 d n1 s1 S1 r1 q1 => k.nx _ _ _ _ (S1.setF i r1) q1)
theorem asg_O {i : Nat} {t : DTE} {te : TE} (w : ∀ σ H Q, lift t σ H Q → te σ H Q) (E : Ends) (σ : L2.St) (H : Hp) (h : liftS (tOwnD i t) E σ H) : tAsg te (gName i) E σ H := by
  obtain ⟨n0, H0, fr, av, n, Δ, Dd, S, h, k⟩ := h
  refine w _ _ _ (lift_at (B := H) .new S (SameP.refl n H) (k.xk S) h fun v H1 d n1 s1 S1 r1 q1 => ?_)
  cases d <;> first | exact q1.elim | skip
  cases r1 with
  | lst a1 a2 a3 r => exact k.nx _ _ _ _ (S.setO s1 S1.pen i a3.2 a1 a2 q1.1 r) q1.2
section
variable {X : Cx} {i : Nat} {x : Str} {e : Expr} {te : DTE} {pos pos' : Pos}
theorem ds_set (i : Nat) (hN : X.N.Nodup) (he : DE X e te) (hi : X.N[i]? = some x := by rfl) (hx : Loc X.env.scope x := by first | exact Or.inl rfl | exact Or.inr rfl) (hs : swapsWith e (some (.Name x pos')) pos.line X.env = pure false := by rfl) (hf : X.fn x = true ∨ X.env.scope.names.lookup x = some .local := by first | exact .inl rfl | exact .inr rfl) :
    DS X (.Assign [.Name x pos'] e pos) (tSetD i te) := wkS (ps_set hN hi hx he hs hf) (asg_F fun _ _ _ h => h)
theorem ds_own (i : Nat) (hN : X.N.Nodup) (he : DE X e te) (hi : X.N[i]? = some x := by rfl) (hx : Loc X.env.scope x := by first | exact Or.inl rfl | exact Or.inr rfl) (hs : swapsWith e (some (.Name x pos')) pos.line X.env = pure false := by rfl) (hf : X.fn x = true ∨ X.env.scope.names.lookup x = some .local := by first | exact .inl rfl | exact .inr rfl) :
    DS X (.Assign [.Name x pos'] e pos) (tOwnD i te) := wkS (ps_set hN hi hx he hs hf) (asg_O fun _ _ _ h => h)
/-- x op= e -/
def tAugD (i : Nat) (dr : DR2) (te : DTE) : DTS := fun Dd Δ n => match Δ[i]? with
  | some (some (.frz d)) => te .bor Δ n (Dd.xs Δ) fun y n1 => dr d y fun z => Dd.nx (Δ.set i (some (.frz z))) n1
  | _ => False
theorem ds_aug (i : Nat) {op : Operator} {r : R2} {dr : DR2} (hN : X.N.Nodup) (ho : OpR X (inplaceOp op) r) (sn : Snd2 r dr) (he : DE X e te) (hi : X.N[i]? = some x := by rfl) (hx : Loc X.env.scope x := by first | exact Or.inl rfl | exact Or.inr rfl)
    (hf : X.fn x = true ∨ X.env.scope.names.lookup x = some .local := by first | exact .inl rfl | exact .inr rfl) : DS X (.AugAssign (.Name x pos') op e pos) (tAugD i dr te) :=
  wkS (ps_aug (ti := r) hN hi hx he ho hf) fun E σ H ⟨n0, H0, fr, av, n, Δ, Dd, S, h, k⟩ => by
    unfold tAugD at h
    split at h
    · rename_i d e1
      obtain ⟨v, e2, r1⟩ := S.frz _ _ e1
      refine ⟨v, e2, lift_at (B := H) .bor S (SameP.refl n H) (k.xk S) h fun u H1 d1 n1 s1 S1 r2 q1 => ?_⟩
      have r2' : Rp n1 (fun _ => True) H1 u d1 := r2.imp fun _ _ _ _ => trivial
      have r1' : Rp n1 (fun _ => True) H1 v d := (r1.same s1).imp fun _ _ _ _ => trivial
      exact sn _ (NO av σ Δ) _ H1 v u d d1 _ _ S1.pen.fresh (fun a ha => S1.no_new ha) r1' r2' q1 fun v' H2 z s2 rz qz =>
        k.nx _ _ _ _ ((S1.mono (.of s2) (S1.pen.same s2)).setF i rz) qz
    · exact h.elim
end

/-! ### targets -/
abbrev DTG := D → DEnv → Sto → (DEnv → Sto → Prop) → Prop
abbrev DTGs := List D → DEnv → Sto → (DEnv → Sto → Prop) → Prop
def liftG (g : DTG) : TG := fun v σ H Q => ∃ n0 H0 fr av n Δ d Qd, StR n0 H0 fr av n σ Δ H ∧ Rp n (NO av σ Δ) H v d ∧ g d Δ n Qd ∧ ∀ σ' H' Δ' n', StR n0 H0 fr av n' σ' Δ' H' → Qd Δ' n' → Q σ' H'
def liftGs (g : DTGs) : TGs := fun vs σ H Q => ∃ n0 H0 fr av n Δ ds Qd, StR n0 H0 fr av n σ Δ H ∧ RpAll n (NO av σ Δ) H vs ds ∧ g ds Δ n Qd ∧ ∀ σ' H' Δ' n', StR n0 H0 fr av n' σ' Δ' H' → Qd Δ' n' → Q σ' H'
theorem wkG {X : Cx} {tg : Expr} {t t' : TG} (h : PG X tg t) (w : ∀ v σ H Q, t' v σ H Q → t v σ H Q) : PG X tg t' := ⟨fun pins s σ H v u Q I r q => h.run pins s σ H v u Q I r (w v σ H Q q)⟩
theorem wkGs {X : Cx} {tg : List Expr} {t t' : TGs} (h : PGs X tg t) (w : ∀ v σ H Q, t' v σ H Q → t v σ H Q) : PGs X tg t' := ⟨fun pins s σ H v u Q I r q => h.run pins s σ H v u Q I r (w v σ H Q q)⟩
def gNameD (i : Nat) : DTG := fun d Δ n Q => Q (Δ.set i (some (.frz d))) n
def gNilD : DTGs := fun ds Δ n Q => match ds with | [] => Q Δ n | _ => False
def gConsD (g : DTG) (gs : DTGs) : DTGs := fun ds Δ n Q => match ds with | d :: r => g d Δ n fun Δ1 n1 => gs r Δ1 n1 Q | _ => False
def gTupD (k : Nat) (gs : DTGs) : DTG := fun d Δ n Q => match d with | .tup ds => ds.length = k ∧ gs ds Δ n Q | _ => False
theorem StR.unfr {n0 : Sto} {H0 : Hp} {fr gs : List (V × D)} {av : List Addr} {n : Sto} {σ : L2.St} {Δ : DEnv} {H : Hp} (S : StR n0 H0 (gs ++ fr) av n σ Δ H) : StR n0 H0 fr av n σ Δ H :=
  ⟨S.same, S.pen, S.len, S.frz, S.own, S.dis, fun g hg => S.gh g (List.mem_append_right _ hg), S.avn⟩
theorem StR.infr {n0 : Sto} {H0 : Hp} {fr gs : List (V × D)} {av : List Addr} {n : Sto} {σ : L2.St} {Δ : DEnv} {H : Hp} (S : StR n0 H0 fr av n σ Δ H) (h : ∀ g ∈ gs, Rp n (NO av σ Δ) H g.1 g.2) : StR n0 H0 (gs ++ fr) av n σ Δ H :=
  ⟨S.same, S.pen, S.len, S.frz, S.own, S.dis, fun g hg => (List.mem_append.mp hg).elim (h g) (S.gh g), S.avn⟩
theorem rp_zip {n : Sto} {A : Addr → Prop} {H : Hp} : ∀ {vs : List V} {ds : List D}, RpAll n A H vs ds → ∀ g ∈ vs.zip ds, Rp n A H g.1 g.2
  | _, _, .nil, g, h => by simp at h
  | v :: vs, d :: ds, .cons r t, g, h => by
    rcases List.mem_cons.mp (show g ∈ (v, d) :: vs.zip ds from h) with e | h
    · subst e; exact r
    · exact rp_zip t g h
theorem rp_unzip {n n' : Sto} {A A' : Addr → Prop} {H H' : Hp} : ∀ {vs : List V} {ds : List D}, RpAll n A H vs ds → (∀ g ∈ vs.zip ds, Rp n' A' H' g.1 g.2) → RpAll n' A' H' vs ds
  | _, _, .nil, h => .nil
  | v :: vs, d :: ds, .cons r t, h => .cons (h (v, d) (List.mem_cons_self ..)) (rp_unzip t fun g hg => h g (List.mem_cons_of_mem _ hg))
section
variable {X : Cx} {pos : Pos}
theorem dg_name (i : Nat) {x : Str} (hN : X.N.Nodup) (hi : X.N[i]? = some x := by rfl) (hx : Loc X.env.scope x := by first | exact Or.inl rfl | exact Or.inr rfl) (hf : X.fn x = true ∨ X.env.scope.names.lookup x = some .local := by first | exact .inl rfl | exact .inr rfl) : PG X (.Name x pos) (liftG (gNameD i)) :=
  wkG (pg_name hN hi hx hf) fun v σ H Q ⟨n0, H0, fr, av, n, Δ, d, Qd, S, r, h, k⟩ => k _ _ _ _ (S.setF i r) h
theorem dgs_nil : PGs X [] (liftGs gNilD) := wkGs pgs_nil fun v σ H Q ⟨n0, H0, fr, av, n, Δ, ds, Qd, S, r, h, k⟩ => by
  cases ds with
  | nil => cases r; exact ⟨rfl, k _ _ _ _ S h⟩
  | cons => exact h.elim
theorem dgs_cons {e : Expr} {es : List Expr} {g : DTG} {gs : DTGs} (h1 : PG X e (liftG g)) (h2 : PGs X es (liftGs gs))
    (hs : (assignEach (e :: es) X.env).map (·.2) = assign e X.env :: (assignEach es X.env).map (·.2) := by rfl) : PGs X (e :: es) (liftGs (gConsD g gs)) :=
  wkGs (pgs_cons h1 h2 hs) fun vs σ H Q ⟨n0, H0, fr, av, n, Δ, ds, Qd, S, r, h, k⟩ => by
    cases ds with
    | nil => exact h.elim
    | cons d ds =>
      cases r with
      | @cons v0 vs0 _ _ r1 r2 =>
        refine ⟨v0, vs0, rfl, n0, H0, vs0.zip ds ++ fr, av, n, Δ, d, _, S.infr (rp_zip r2), r1, h, fun σ' H' Δ' n' S' q => ?_⟩
        exact ⟨n0, H0, fr, av, n', Δ', ds, Qd, S'.unfr, rp_unzip r2 fun g hg => S'.gh g (List.mem_append_left _ hg), q, k⟩
theorem dg_tup {es : List Expr} {k : Nat} {gs : DTGs} {n : Nat} (hc : X.calm = true) (h : PGs X es (liftGs gs))
    (hn : (assignEach es X.env).length = n := by rfl) (hst : (assignEach es X.env).findIdx? (·.1) = none := by rfl) : PG X (.Tuple es k pos) (liftG (gTupD n gs)) :=
  wkG (pg_tup hc h hn hst) fun v σ H Q ⟨n0, H0, fr, av, n, Δ, d, Qd, S, r, h, k⟩ => by
    cases d <;> first | exact h.elim | skip
    cases r with
    | tup a1 a2 r => exact ⟨_, _, rfl, TupO.sq a1, by rw [r.length]; exact h.1, n0, H0, fr, av, n, Δ, _, Qd, S, r, h.2, k⟩
def tAsgD (te : DTE) (g : DTG) : DTS := fun Dd Δ n => te .frz Δ n (Dd.xs Δ) fun d n1 => g d Δ n1 Dd.nx
theorem ds_asg {tg e : Expr} {te : DTE} {g : DTG} (he : DE X e te) (hg : PG X tg (liftG g)) (hs : swapsWithSole [tg] e pos.line X.env = pure false := by rfl) (hw : swappedStores [tg] e X.env = pure none := by rfl)
    (h1 : (assignEach [tg] X.env).map (·.2) = [assign tg X.env] := by rfl) : DS X (.Assign [tg] e pos) (tAsgD te g) :=
  wkS (ps_asg he hg hs hw h1) fun E σ H ⟨n0, H0, fr, av, n, Δ, Dd, S, h, k⟩ => lift_at (B := H) .frz S (SameP.refl n H) (k.xk S) h fun v H1 d n1 s1 S1 r1 q1 =>
    ⟨n0, H0, fr, av, n1, Δ, d, _, S1, r1, q1, fun σ' H' Δ' n' S' q => k.nx _ _ _ _ S' q⟩
/-- a, b = x, y -/
def tParD (i j : Nat) (ta : DTA) : DTS := fun Dd Δ n => ta .frz Δ n (Dd.xs Δ) fun ds n1 => match ds with | [d, e] => Dd.nx ((Δ.set i (some (.frz d))).set j (some (.frz e))) n1 | _ => False
theorem ds_par (i j : Nat) {x y : Str} {a b : Expr} {ta : DTA} {px py pt : Pos} {kt k2 pt2} (hc : X.calm = true) (hN : X.N.Nodup) (ha : DA X [a, b] ta) (hi : X.N[i]? = some x := by rfl) (hj : X.N[j]? = some y := by rfl) (hij : i ≠ j := by decide)
    (hx : X.env.scope.names.lookup x = some .local := by rfl) (hy : X.env.scope.names.lookup y = some .local := by rfl)
    (hw : swappedStores [.Tuple [.Name x px, .Name y py] kt pt] (.Tuple [a, b] k2 pt2) X.env = pure (some [x, y]) := by rfl)
    (hs : swapsWithSole [.Tuple [.Name x px, .Name y py] kt pt] (.Tuple [a, b] k2 pt2) pos.line X.env = pure false := by rfl) :
    DS X (.Assign [.Tuple [.Name x px, .Name y py] kt pt] (.Tuple [a, b] k2 pt2) pos) (tParD i j ta) :=
  wkS (ps_par hc hN hi hj hij hx hy ha hw hs) fun E σ H ⟨n0, H0, fr, av, n, Δ, Dd, S, h, k⟩ => liftA_at (B := H) .frz S (SameP.refl n H) (k.xk S) h fun vs H1 ds n1 s1 S1 r1 q1 => by
    match ds, r1, q1 with
    | [d, e], .cons r1 (.cons r2 .nil), q1 =>
      have S2 := (S1.infr (gs := [(_, e)]) (fun g hg => by cases List.mem_singleton.mp hg; exact r2)).setF i r1
      exact ⟨_, _, rfl, k.nx _ _ _ _ (S2.setF j (S2.gh _ (List.mem_append_left _ (List.mem_singleton.mpr rfl)))).unfr q1⟩
end

/-! ### lists that a slot alone holds: append, extend, insert, pop, x[i] = e -/
theorem StR.at_own {n0 : Sto} {H0 : Hp} {fr : List (V × D)} {av : List Addr} {n : Sto} {σ : L2.St} {Δ : DEnv} {H : Hp} {i : Nat} {ds : List D} (S : StR n0 H0 fr av n σ Δ H) (h : Δ[i]? = some (some (SV.own ds))) :
    ∃ p vs, σ[i]? = some (some (V.ref p)) ∧ n p = none ∧ H p = some (.lst vs) ∧ RpAll n (NO av σ Δ) H vs ds := by
  obtain ⟨p, vs, h1, h2, h3, h4, h5⟩ := S.own i ds h
  exact ⟨p, vs, h1, h3.2, h4, h5⟩
section
variable {X : Cx} {pos apos px : Pos} {x : Str} {e e2 : Expr} {te te2 : DTE}
def tAppD (i : Nat) (te : DTE) : DTS := fun Dd Δ n => match Δ[i]? with
  | some (some (.own ds)) => te .frz Δ n (Dd.xs Δ) fun d n1 => ds.length < sizeLine ∧ Dd.nx (Δ.set i (some (.own (ds ++ [d])))) n1
  | _ => False
theorem ds_app {i : Nat} (he : PE X e (tBM X.K "list" rAppend (tVar i) (tCons (lift te) tNil))) (hsw : swapsWith e none pos.line X.env = pure false := by rfl) : DS X (.Expr e pos) (tAppD i te) :=
  wkS (ps_expr he hsw) fun E σ H ⟨n0, H0, fr, av, n, Δ, Dd, S, h, k⟩ => by
    unfold tAppD at h
    split at h
    · rename_i ds e1
      obtain ⟨p, vs, e2, np, e3, r⟩ := S.at_own e1
      refine ⟨_, e2, .inl ⟨rfl, _, SqL.of e3⟩, lift_at (B := H) .frz S (SameP.refl n H) (k.xk S) h fun v H1 d n1 s1 S1 r1 q1 => ?_⟩
      refine ⟨p, vs, v, rfl, rfl, (s1.keep _ _ e3 np).1, by rw [r.length]; exact q1.1, ?_⟩
      exact k.nx _ _ _ _ (S1.wr e1 e2 ((r.same s1).append (.cons r1 .nil))) q1.2
    · exact h.elim
def tExtD (i : Nat) (te : DTE) : DTS := fun Dd Δ n => match Δ[i]? with
  | some (some (.own ds)) => te .bor Δ n (Dd.xs Δ) fun d n1 => match d with | .lst es => ds.length + es.length ≤ sizeLine ∧ flatAll es = true ∧ Dd.nx (Δ.set i (some (.own (ds ++ es)))) n1 | _ => False
  | _ => False
theorem ds_ext {i : Nat} (he : PE X e (tBM X.K "list" rExtend (tVar i) (tCons (lift te) tNil))) (hsw : swapsWith e none pos.line X.env = pure false := by rfl) : DS X (.Expr e pos) (tExtD i te) :=
  wkS (ps_expr he hsw) fun E σ H ⟨n0, H0, fr, av, n, Δ, Dd, S, h, k⟩ => by
    unfold tExtD at h
    split at h
    · rename_i ds e1
      obtain ⟨p, vs, e2, np, e3, r⟩ := S.at_own e1
      refine ⟨_, e2, .inl ⟨rfl, _, SqL.of e3⟩, lift_at (B := H) .bor S (SameP.refl n H) (k.xk S) h fun v H1 d n1 s1 S1 r1 q1 => ?_⟩
      cases d <;> first | exact q1.elim | skip
      cases r1 with
      | lst a1 a2 a3 r2 =>
        refine ⟨p, _, vs, _, rfl, rfl, (s1.keep _ _ e3 np).1, a1, by rw [r.length, r2.length]; exact q1.1, ?_⟩
        exact k.nx _ _ _ _ (S1.wr e1 e2 ((r.same s1).append (RpAll.flat _ _ q1.2.1 r2))) q1.2.2
    · exact h.elim
def rInsert : V → List V → Hp → VK → Prop := fun x vs H Q => ∃ (l : Addr) (xs : List V) (i : Int) (y : V), x = .ref l ∧ vs = [.int i, y] ∧ H l = some (.lst xs) ∧ xs.length < sizeLine ∧ 0 ≤ i ∧ i < 2 ^ 63 ∧
    Q .non (upd H l (.lst (xs.take i.toNat ++ [y] ++ xs.drop i.toNat)))
def tInsD (i : Nat) (ti te : DTE) : DTS := fun Dd Δ n => match Δ[i]? with
  | some (some (.own ds)) => ti .frz Δ n (Dd.xs Δ) fun k n0 => te .frz Δ n0 (Dd.xs Δ) fun d n1 => match k with | .int z => ds.length < sizeLine ∧ 0 ≤ z ∧ z < 2 ^ 63 ∧ Dd.nx (Δ.set i (some (.own (ds.take z.toNat ++ [d] ++ ds.drop z.toNat)))) n1 | _ => False
  | _ => False
theorem ds_ins {i : Nat} (he : PE X e (tBM X.K "list" rInsert (tVar i) (tCons (lift te) (tCons (lift te2) tNil)))) (hsw : swapsWith e none pos.line X.env = pure false := by rfl) : DS X (.Expr e pos) (tInsD i te te2) :=
  wkS (ps_expr he hsw) fun E σ H ⟨n0, H0, fr, av, n, Δ, Dd, S, h, k⟩ => by
    unfold tInsD at h
    split at h
    · rename_i ds e1
      obtain ⟨p, vs, e2, np, e3, r⟩ := S.at_own e1
      refine ⟨_, e2, .inl ⟨rfl, _, SqL.of e3⟩, lift_at (B := H) .frz S (SameP.refl n H) (k.xk S) h fun v H1 d n1 s1 S1 r1 q1 => ?_⟩
      refine lift_at (B := H1) .frz S1 (SameP.refl n1 H1) (k.xk S1) q1 fun v2 H2 d2 n2 s2 S2 r2 q2 => ?_
      cases d <;> first | exact q2.elim | skip
      cases r1
      have s12 := s1.trans s2
      refine ⟨p, vs, _, v2, rfl, rfl, (s12.keep _ _ e3 np).1, by rw [r.length]; exact q2.1, q2.2.1, q2.2.2.1, ?_⟩
      exact k.nx _ _ _ _ (S2.wr e1 e2 ((((r.same s12).take _).append (.cons r2 .nil)).append ((r.same s12).drop _))) q2.2.2.2
    · exact h.elim
/-- x[k] = e -/
def tStD (i : Nat) (tk te : DTE) : DTS := fun Dd Δ n => te .frz Δ n (Dd.xs Δ) fun d n1 => match Δ[i]? with
  | some (some (.own ds)) => tk .bor Δ n1 (Dd.xs Δ) fun k n2 => match k with | .int z => ∃ j, ixN ds.length z = some j ∧ Dd.nx (Δ.set i (some (.own (ds.set j d)))) n2 | _ => False
  | _ => False
theorem ds_st {tg : Expr} {i : Nat} (hp : PS X (.Assign [tg] e pos) (tAsg (lift te) (gSub (tVar i) (lift te2) rSetL))) : DS X (.Assign [tg] e pos) (tStD i te2 te) :=
  wkS hp fun E σ H ⟨n0, H0, fr, av, n, Δ, Dd, S, h, k⟩ => lift_at (B := H) .frz S (SameP.refl n H) (k.xk S) h fun v H1 d n1 s1 S1 r1 q1 => by
    split at q1
    · rename_i ds e1
      obtain ⟨p, vs, e2, np, e3, r⟩ := S1.at_own e1
      refine ⟨_, e2, lift_at (B := H1) .bor S1 (SameP.refl n1 H1) (k.xk S1) q1 fun v2 H2 d2 n2 s2 S2 r2 q2 => ?_⟩
      cases d2 <;> first | exact q2.elim | skip
      cases r2
      obtain ⟨j, g1, g2⟩ := q2
      refine ⟨p, vs, _, j, rfl, rfl, (s2.keep _ _ e3 np).1, by rw [r.length]; exact g1, ?_⟩
      exact k.nx _ _ _ _ (S2.wr e1 e2 (RpAll.set (r1.same s2) j (r.same s2))) g2
    · exact q1.elim
/-- from now on the list stays as it is -/
def tFrzD (i : Nat) (t : DTS) : DTS := fun Dd Δ n => match Δ[i]? with
  | some (some (.own ds)) => t Dd (Δ.set i (some (.frz (.lst ds)))) n
  | _ => False
theorem StR.fz {n0 : Sto} {H0 : Hp} {fr : List (V × D)} {av : List Addr} {n : Sto} {σ : L2.St} {Δ : DEnv} {H : Hp} {i : Nat} {ds : List D} (S : StR n0 H0 fr av n σ Δ H) (h : Δ[i]? = some (some (SV.own ds))) : StR n0 H0 fr av n σ (Δ.set i (some (.frz (.lst ds)))) H := by
  have no : ∀ a, NO av σ Δ a → NO av σ (Δ.set i (some (.frz (.lst ds)))) a := fun a z => ⟨z.1, fun j es e => by
    by_cases hj : i = j
    · subst hj
      rw [List.getElem?_set] at e
      simp only [if_true] at e
      split at e <;> cases e
    · rw [List.getElem?_set_ne hj] at e
      exact z.2 j es e⟩
  have il : i < Δ.length := (List.getElem?_eq_some_iff.mp h).1
  have own : ∀ {j : Nat} {es : List D}, (Δ.set i (some (SV.frz (.lst ds))))[j]? = some (some (SV.own es)) → i ≠ j ∧ Δ[j]? = some (some (SV.own es)) := fun {j es} e => by
    by_cases hj : i = j
    · subst hj
      rw [List.getElem?_set] at e
      simp only [if_true] at e
      split at e <;> cases e
    · rw [List.getElem?_set_ne hj] at e
      exact ⟨hj, e⟩
  refine ⟨S.same, S.pen, by rw [List.length_set, S.len], fun j d e => ?_, fun j es e => ?_, fun j l q dj dl e1 e2 e3 e4 => S.dis j l q dj dl (own e1).2 (own e2).2 e3 e4, fun g hg => (S.gh g hg).imp fun a _ _ z => no a z, S.avn⟩
  · by_cases hj : i = j
    · subst hj
      rw [List.getElem?_set_self il] at e
      cases e
      obtain ⟨p, vs, k1, k2, k3, k4, k5⟩ := S.own _ _ h
      refine ⟨_, k1, .lst k4 k3.2 ⟨k2, fun j es e z => ?_⟩ (k5.imp fun a _ _ z => no a z)⟩
      obtain ⟨hj, e'⟩ := own e
      exact hj (S.dis _ _ _ _ _ h e' k1 z)
    · rw [List.getElem?_set_ne hj] at e
      obtain ⟨v, k1, k2⟩ := S.frz j d e
      exact ⟨v, k1, k2.imp fun a _ _ z => no a z⟩
  · obtain ⟨hj, e'⟩ := own e
    obtain ⟨p, vs, k1, k2, k3, k4, k5⟩ := S.own j es e'
    exact ⟨p, vs, k1, k2, k3, k4, k5.imp fun a _ _ z => no a z⟩
theorem dss_frz {sts : List Stmt} {t : DTS} (i : Nat) (h : DSs X sts t) : DSs X sts (tFrzD i t) := wkSs h fun E σ H ⟨n0, H0, fr, av, n, Δ, Dd, S, h, k⟩ => by
  unfold tFrzD at h
  split at h
  · rename_i ds e
    exact ⟨n0, H0, fr, av, n, _, Dd, S.fz e, h, k⟩
  · exact h.elim
end
end Dl

set_option Elab.async false
set_option linter.all false
set_option maxRecDepth 100000
set_option maxHeartbeats 1000000
namespace Dl
open PySem PySem.Spec PyProof.Rows L2
variable [XP] [XE]

/-! ### what is walked -/
def Goes (J : It) (gs : List (V × D)) (items : List D) : Prop := ∀ (n : Sto) (H : Hp) (A : Addr → Prop), (∀ a, H a = none → n a = none) → (∀ a, H a = none → A a) → (∀ g ∈ gs, Rp n A H g.1 g.2) →
  ∀ i : Nat, (items.length ≤ i → J.stop i H) ∧ ∀ it, items[i]? = some it → J.go i H ∧ ∀ x H', J.yld i H x H' → Same H H' ∧ Rp n A H' x it
abbrev DTI := Md → DEnv → Sto → XC → (List D → Sto → Prop) → Prop
def liftI (t : DTI) : TI := fun σ H R => ∃ n0 H0 fr av n Δ m Xd Qd, StR n0 H0 fr av n σ Δ H ∧ XOk n H σ Xd ∧ t m Δ n Xd Qd ∧
  ∀ J H' gs items n', SameP n H n' H' → SOk n' H' → (∀ g ∈ gs, Rp n' (Al m H H0 av σ Δ) H' g.1 g.2) → Goes J gs items → items.length ≤ 2 ^ 62 → Qd items n' → R J H'
abbrev DI (X : Cx) (tg e : Expr) (t : DTI) : Prop := PI X tg e (liftI t)
omit [XP] [XE] in
theorem sz62 {n : Nat} (h : n ≤ sizeLine) : n ≤ 2 ^ 62 := Nat.le_trans h (by decide)
def tWLst (te : DTE) : DTI := fun m Δ n X Q => te m Δ n X fun d n1 => match d with | .lst ds => Q ds n1 | _ => False
def tWTup (te : DTE) : DTI := fun m Δ n X Q => te m Δ n X fun d n1 => match d with | .tup ds => Q ds n1 | _ => False
/-- lo, lo + 1, .. : n of them -/
def rangeD (lo : Int) : Nat → List D
  | 0 => []
  | n + 1 => .int lo :: rangeD (lo + 1) n
omit [XP] [XE] in
theorem rangeD_length : ∀ (n : Nat) (lo : Int), (rangeD lo n).length = n
  | 0, _ => rfl
  | n + 1, lo => by rw [rangeD, List.length_cons, rangeD_length n]
omit [XP] [XE] in
theorem rangeD_get : ∀ (n : Nat) (lo : Int) (i : Nat), i < n → (rangeD lo n)[i]? = some (.int (lo + i))
  | 0, _, _, h => absurd h (Nat.not_lt_zero _)
  | n + 1, lo, 0, _ => by rw [rangeD]; simp
  | n + 1, lo, i + 1, h => by
    rw [rangeD, List.getElem?_cons_succ, rangeD_get n (lo + 1) i (by omega)]
    congr 2
    omega
def tWRng1 (te : DTE) : DTI := fun _ Δ n X Q => te .bor Δ n X fun d n1 => match d with | .int j => -(2 ^ 62) ≤ j ∧ j < 2 ^ 62 ∧ Q (rangeD 0 j.toNat) n1 | _ => False
def tWRng2 (ta tb : DTE) : DTI := fun _ Δ n X Q => ta .bor Δ n X fun d n1 => tb .bor Δ n1 X fun e n2 => match d, e with | .int i, .int j => (-(2 ^ 62) ≤ i ∧ i < 2 ^ 62 ∧ -(2 ^ 62) ≤ j ∧ j < 2 ^ 62 ∧ j - i ≤ 2 ^ 62) ∧ Q (rangeD i (j - i).toNat) n2 | _, _ => False
theorem goes_lst {K : PySem.W.Frag} {a : Addr} {ds : List D} : Goes (Itl K a) [(.ref a, .lst ds)] ds := fun n H A p0 nA hg i => by
  have r := hg _ (List.mem_singleton.mpr rfl)
  cases r with
  | lst h1 h2 h3 r =>
    refine ⟨fun hi => ⟨_, SqL.of h1, by rw [r.length]; exact hi⟩, fun it e => ?_⟩
    obtain ⟨v, e1, e2⟩ := r.get e
    refine ⟨⟨_, v, SqL.of h1, e1⟩, fun x H' y => ?_⟩
    obtain ⟨rfl, y⟩ := y
    have := y _ (SqL.of h1)
    rw [e1] at this
    cases this
    exact ⟨Same.refl _, e2⟩
theorem goes_tup {K : PySem.W.Frag} {a : Addr} {ds : List D} : Goes (Itt K a) [(.ref a, .tup ds)] ds := fun n H A p0 nA hg i => by
  have r := hg _ (List.mem_singleton.mpr rfl)
  cases r with
  | tup h1 h2 r =>
    refine ⟨fun hi => ⟨_, TupO.sq h1, by rw [r.length]; exact hi⟩, fun it e => ?_⟩
    obtain ⟨v, e1, e2⟩ := r.get e
    refine ⟨⟨_, v, TupO.sq h1, e1⟩, fun x H' y => ?_⟩
    obtain ⟨rfl, y⟩ := y
    have := y _ (TupO.sq h1)
    rw [e1] at this
    cases this
    exact ⟨Same.refl _, e2⟩
theorem goes_rng {lo : Int} {n : Nat} : Goes (Itr lo n) [] (rangeD lo n) := fun _ H A p0 nA hg i => by
  refine ⟨fun hi => by rw [rangeD_length] at hi; exact hi, fun it e => ?_⟩
  have hi : i < n := by
    have := (List.getElem?_eq_some_iff.mp e).1
    rw [rangeD_length] at this
    exact this
  rw [rangeD_get n lo i hi] at e
  cases e
  exact ⟨hi, fun x H' y => by obtain ⟨rfl, rfl⟩ := y; exact ⟨Same.refl _, .int _⟩⟩
section
variable {X : Cx} {tg e a b : Expr} {te ta tb : DTE} {p pos : Pos}
theorem di_lst (he : DE X e te) : DI X tg e (fun m Δ n X Q => tWLst te m Δ n X fun ds n1 => ds.length ≤ sizeLine ∧ Q ds n1) :=
  wkI (pi_list he) fun σ H R ⟨n0, H0, fr, av, n, Δ, m, Xd, Qd, S, xk, h, k⟩ => lift_at (B := H) m S (SameP.refl n H) xk h fun v H1 d n1 s1 S1 r1 q1 => by
    cases d <;> first | exact q1.elim | skip
    have r2 := r1
    cases r1 with
    | lst a1 a2 a3 r => exact ⟨_, rfl, ⟨_, SqL.of a1⟩, k _ _ [(_, .lst _)] _ n1 s1 S1.pen (fun g hg => by cases List.mem_singleton.mp hg; exact r2) goes_lst (sz62 q1.1) q1.2⟩
theorem di_tup (he : DE X e te) : DI X tg e (fun m Δ n X Q => tWTup te m Δ n X fun ds n1 => ds.length ≤ sizeLine ∧ Q ds n1) :=
  wkI (pi_tup he) fun σ H R ⟨n0, H0, fr, av, n, Δ, m, Xd, Qd, S, xk, h, k⟩ => lift_at (B := H) m S (SameP.refl n H) xk h fun v H1 d n1 s1 S1 r1 q1 => by
    cases d <;> first | exact q1.elim | skip
    have r2 := r1
    cases r1 with
    | tup a1 a2 r => exact ⟨_, rfl, ⟨_, TupO.sq a1⟩, k _ _ [(_, .tup _)] _ n1 s1 S1.pen (fun g hg => by cases List.mem_singleton.mp hg; exact r2) goes_tup (sz62 q1.1) q1.2⟩
/-- a list or a tuple: which of them is said by its data -/
def tWSeq (te : DTE) : DTI := fun m Δ n X Q => (te m Δ n X fun d n1 => match d with | .lst ds => ds.length ≤ sizeLine ∧ Q ds n1 | _ => False) ∨ (te m Δ n X fun d n1 => match d with | .tup ds => ds.length ≤ sizeLine ∧ Q ds n1 | _ => False)
theorem di_seq (he : DE X e te) : DI X tg e (tWSeq te) := ⟨fun pins s σ H R I ⟨n0, H0, fr, av, n, Δ, m, Xd, Qd, S, xk, h, k⟩ => by
  rcases h with h | h
  · exact (di_lst he).run pins s σ H R I ⟨n0, H0, fr, av, n, Δ, m, Xd, Qd, S, xk, h, k⟩
  · exact (di_tup he).run pins s σ H R I ⟨n0, H0, fr, av, n, Δ, m, Xd, Qd, S, xk, h, k⟩⟩
theorem di_rng1 (hg : Gl X "range") (hm : X.mg "range" = none) (he : DE X a te) (hs : starEach [a] X.env = [(false, eval a X.env)] := by rfl) : DI X tg (.Call (.Name "range" p) [a] [] pos) (tWRng1 te) :=
  wkI (pi_range1 hg hm (pa_cons he pa_nil hs) hs) fun σ H R ⟨n0, H0, fr, av, n, Δ, m, Xd, Qd, S, xk, h, k⟩ => lift_at (B := H) .bor S (SameP.refl n H) xk h fun v H1 d n1 s1 S1 r1 q1 => by
    cases d <;> first | exact q1.elim | skip
    cases r1
    refine ⟨_, rfl, q1.1, q1.2.1, k _ _ [] _ n1 s1 S1.pen (fun g hg => by cases hg) goes_rng (by rw [rangeD_length]; have := q1.2.1; omega) q1.2.2⟩
theorem di_rng2 (hg : Gl X "range") (hm : X.mg "range" = none) (ha : DE X a ta) (hb : DE X b tb) (hs : starEach [a, b] X.env = [(false, eval a X.env), (false, eval b X.env)] := by rfl) (hs2 : starEach [b] X.env = [(false, eval b X.env)] := by rfl) : DI X tg (.Call (.Name "range" p) [a, b] [] pos) (tWRng2 ta tb) :=
  wkI (pi_range2 hg hm (pa_cons ha (pa_cons hb pa_nil hs2) (by rw [hs, hs2])) hs hs2) fun σ H R ⟨n0, H0, fr, av, n, Δ, m, Xd, Qd, S, xk, h, k⟩ => lift_at (B := H) .bor S (SameP.refl n H) xk h fun v H1 d n1 s1 S1 r1 q1 =>
    lift_at (B := H1) .bor S1 (SameP.refl n1 H1) (xk.step s1) q1 fun v2 H2 d2 n2 s2 S2 r2 q2 => by
      cases d <;> cases d2 <;> first | exact q2.elim | skip
      cases r1
      cases r2
      obtain ⟨⟨g1, g2, g3, g4, g5⟩, q2⟩ := q2
      exact ⟨_, _, rfl, ⟨g1, g2, g3, g4⟩, k _ _ [] _ n2 (s1.trans s2) S2.pen (fun g hg => by cases hg) goes_rng (by rw [rangeD_length]; omega) q2⟩
end

/-! ### for, while -/
/-- I: what holds ahead of the j-th turn -/
def tForD (ti : DTI) (g : DTG) (tb : DTS) : DTS := fun Dd Δ n => ti .frz Δ n (Dd.xs Δ) fun items n1 => ∃ I : Nat → DEnv → Sto → Prop, I 0 Δ n1 ∧
  (∀ (j : Nat) (d : D) Δ n, items[j]? = some d → I j Δ n → g d Δ n fun Δ1 n1 => tb { Dd with nx := I (j + 1), ct := I (j + 1), bk := Dd.nx } Δ1 n1) ∧ ∀ Δ n, I items.length Δ n → Dd.nx Δ n
def tWhileD (tc : DTT) (tb : DTS) : DTS := fun Dd Δ n => ∃ I : Nat → DEnv → Sto → Prop, (∃ m, I m Δ n) ∧ ∀ m Δ n, I m Δ n → tc Δ n (Dd.xs Δ) fun b n1 =>
  if b = true then tb { Dd with nx := fun Δ' n' => ∃ m', m' < m ∧ I m' Δ' n', ct := fun Δ' n' => ∃ m', m' < m ∧ I m' Δ' n', bk := Dd.nx } Δ n1 else Dd.nx Δ n1
section
variable {X : Cx} {tg iter : Expr} {body : List Stmt} {ti : DTI} {g : DTG} {tb : DTS} {pos : Pos}
theorem ds_for (hp : PassesOwn (model X.prog X.w) X.A X.env X.xe) (hc : X.calm = true) (hi : DI X tg iter ti) (hg : PG X tg (liftG g)) (hb : DSs X body tb)
    (hs : ∀ x, foldedSetIterable iter X.env x = pure x := by intro _; rfl) : DS X (.For tg iter body [] pos) (tForD ti g tb) :=
  wkS (ps_for hp hc hi hg hb hs) fun E σ H ⟨n0, H0, fr, av, n, Δ, Dd, S, h, k⟩ => by
    refine ⟨n0, H0, fr, av, n, Δ, .frz, _, _, S, k.xk S, h, fun J H' gs items n' s pe rgs goes _ q => ?_⟩
    obtain ⟨I, i0, istep, iend⟩ := q
    refine ⟨fun i m σ2 H2 => m = items.length - i ∧ i ≤ items.length ∧ ∃ Δ2 n2, StR n0 H0 (gs ++ fr) av n2 σ2 Δ2 H2 ∧ I i Δ2 n2,
      ⟨items.length, by simp, Nat.zero_le _, Δ, n', (S.mono s pe).infr rgs, i0⟩, ?_⟩
    rintro i m σ2 H2 ⟨rfl, hi, Δ2, n2, S2, q2⟩
    have go := goes n2 H2 (NO av σ2 Δ2) S2.pen.fresh (fun a ha => S2.no_new ha) (fun g hg => S2.gh g (List.mem_append_left _ hg)) i
    by_cases hlt : i < items.length
    · have e1 : items[i]? = some items[i] := List.getElem?_eq_getElem hlt
      obtain ⟨g1, g2⟩ := go.2 _ e1
      refine .inr ⟨g1, fun σ' H' => ∃ Δ' n', StR n0 H0 (gs ++ fr) av n' σ' Δ' H' ∧ I (i + 1) Δ' n', fun σ' H' ⟨Δ', n', S', q'⟩ => ⟨items.length - (i + 1), by omega, rfl, hlt, Δ', n', S', q'⟩, fun x H3 y => ?_⟩
      obtain ⟨s3, r3⟩ := g2 x H3 y
      refine ⟨n0, H0, gs ++ fr, av, n2, Δ2, _, _, S2.mono (.of s3) (S2.pen.same s3), r3, istep i _ Δ2 n2 e1 q2, fun σ' H' Δ' n' S' q' => ?_⟩
      exact ⟨n0, H0, gs ++ fr, av, n', Δ', _, S', q', ⟨fun σ'' H'' Δ'' n'' S'' q'' => ⟨Δ'', n'', S'', q''⟩, k.rt, fun σ'' H'' Δ'' n'' S'' q'' => k.nx _ _ _ _ S''.unfr q'', fun σ'' H'' Δ'' n'' S'' q'' => ⟨Δ'', n'', S'', q''⟩, fun cls d σ'' H'' Δ'' ex n'' S'' r q'' => k.xr _ _ _ _ _ _ _ S''.unfr r q'', k.inv⟩⟩
    · have e : i = items.length := by omega
      subst e
      exact .inl ⟨go.1 (Nat.le_refl _), k.nx _ _ _ _ S2.unfr (iend _ _ q2)⟩
theorem ds_while {c : Expr} {tc : DTT} (hp : PassesOwn (model X.prog X.w) X.A X.env X.xe) (hc : DT X c tc) (hb : DSs X body tb) : DS X (.While c body [] pos) (tWhileD tc tb) :=
  wkS (ps_while hp hc hb) fun E σ H ⟨n0, H0, fr, av, n, Δ, Dd, S, h, k⟩ => by
    obtain ⟨I, ⟨m0, h0⟩, hI⟩ := h
    refine ⟨fun m σ2 H2 => ∃ Δ2 n2, StR n0 H0 fr av n2 σ2 Δ2 H2 ∧ I m Δ2 n2, ⟨m0, Δ, n, S, h0⟩, fun m σ2 H2 ⟨Δ2, n2, S2, h2⟩ => ?_⟩
    refine liftT_at S2 (k.xk S2) (hI m Δ2 n2 h2) fun b H3 n3 s3 S3 q3 => ?_
    cases b with
    | true =>
      refine ⟨fun σ' H' => ∃ Δ' n', StR n0 H0 fr av n' σ' Δ' H' ∧ ∃ m', m' < m ∧ I m' Δ' n', fun σ' H' ⟨Δ', n', S', m', l, i⟩ => ⟨m', l, Δ', n', S', i⟩, ?_⟩
      exact ⟨n0, H0, fr, av, n3, Δ2, _, S3, q3, ⟨fun σ' H' Δ' n' S' q' => ⟨Δ', n', S', q'⟩, k.rt, fun σ' H' Δ' n' S' q' => k.nx _ _ _ _ S' q', fun σ' H' Δ' n' S' q' => ⟨Δ', n', S', q'⟩, k.xr, k.inv⟩⟩
    | false => exact k.nx _ _ _ _ S3 q3
end
end Dl

set_option Elab.async false
set_option linter.all false
set_option maxRecDepth 100000
set_option maxHeartbeats 1000000
namespace Dl
open PySem PySem.Spec PyProof.Rows L2

/-! ### defs called where no repr is under way -/
structure FnG (P : Program) (w : World) (K : PySem.W.Frag) (mg : Str → Option Value) (base : Heap) (CX : CXT) (k : Nat) (f : Addr) (fd : FuncData) (ps : List Str) (sp : Sp) : Prop where
  len : ∀ vs H Q E, sp vs H Q E → vs.length = ps.length
  go : ∀ (A : Around) (fs : List Env) (s : Shared) (H : Hp) (ar : Args) (us : List Value) (vs : List V) (Q : VK) (E : XK), Room k A → A.guards = some [] → Env0 P w K mg base A fs s H → BindsTo s fd ar (ps.zip us) → Vals vs us →
    sp vs H Q E → codeAny (model P w) A (.call (.ref f) ar) (CR CX fs P w H s Q E) s
section
variable {P : Program} {w : World} {K : PySem.W.Frag} {mg : Str → Option Value} {base : Heap} {CX : CXT} {k : Nat} {f : Addr} {fd : FuncData} {ps : List Str} {sp : Sp}
theorem FnG.of (F : FnOk P w K mg base CX k f fd ps sp) : FnG P w K mg base CX k f fd ps sp :=
  ⟨F.len, fun A fs s H ar us vs Q E hr _ => F.run A fs s H ar us vs Q E hr⟩
theorem FnG.mono {j : Nat} (F : FnG P w K mg base CX j f fd ps sp) (h : j ≤ k) : FnG P w K mg base CX k f fd ps sp :=
  ⟨F.len, fun A fs s H ar us vs Q E hr => F.go A fs s H ar us vs Q E (hr.mono h)⟩
theorem FnG.imp {sp' : Sp} (F : FnG P w K mg base CX k f fd ps sp) (h : ∀ vs H Q E, sp' vs H Q E → sp vs H Q E) : FnG P w K mg base CX k f fd ps sp' :=
  ⟨fun vs H Q E q => F.len vs H Q E (h _ _ _ _ q), fun A fs s H ar us vs Q E hr hg e0 hb r q => F.go A fs s H ar us vs Q E hr hg e0 hb r (h _ _ _ _ q)⟩
/-- a def of the text, by its body: the body runs where no repr is under way -/
theorem fn_body {x qual : Str} {st : Stmt} {N : List Str} (F : L2.Fun K x qual st f fd) (S : FnScope N ps (defScope st)) (len : ∀ vs H Q E, sp vs H Q E → vs.length = ps.length)
    (hbody : ∀ (cv : Value), fd.code = cv → ∀ (A : Around) (fs : List Env) (s : Shared) (H : Hp) (vs : List V) (Q : VK) (E : XK), Room k (A.deeper (envOfC qual (defScope st) s.heap.objs.size f cv)) → A.guards = some [] → sp vs H Q E →
      ∃ t, PSs (cxOf CX P w K mg base N qual (defScope st) f cv A fs s H E) (defBody st) t ∧ t { nx := fun _ H' => Q .non H', rt := Q } (L2.start N vs) H) :
    FnG P w K mg base CX (k + 1) f fd ps sp := by
  obtain ⟨oc, od, kV, dc, pm, an, cv, ct, sl, rfl, look, code⟩ := F.ex
  constructor
  · exact len
  intro A fs s H ar us vs Q E room gd e0 bind rel hsp
  have nargs := len vs H Q E hsp
  have up : ∀ b o, base.get? b = some o → s.heap.get? b = some o := fun b o e => (e0.bs b o e).1
  have kin : K.In s.heap := e0.mod.kin.keeps up
  have nolim : s.heap.NoLimit := e0.mod.nolimit.keeps up
  refine codeAny_call_function room.depth (kin _ _ look) rfl S.co S.gen rfl (PySem.W.codeRec_of kin code) (bind _ _ _ _ ?_)
  refine wpAny_newFunctionEnv_cells S.kind ?_ ?_
  · rintro ⟨nm, u⟩ hy
    cases S.par nm (List.of_mem_zip hy).1 with
    | inl q => exact .inl q
    | inr q => exact .inr ⟨q, PySem.W.cellsFrom_some _ _ _ (.inl q)⟩
  · intro env he s1 st1
    subst he
    refine ⟨nolim.keeps st1.toInCall.keep, codeAny_func ?_⟩
    obtain ⟨t, der, rd⟩ := hbody cv rfl A fs s H vs Q E (room.deeper _) gd hsp
    have inv := inv_start (CX := CX) (P := P) (w := w) (K := K) (mg := mg) (base := base) (E := E) S room.hd e0 nargs rel st1
    refine wpAny_mono (der.run [] s1 _ H _ inv rd) ?_ (fun _ _ z => z)
    intro fl s' z
    cases fl with
    | ret u =>
      obtain ⟨v, σ', H', J, rv, q⟩ := z
      exact ⟨v, H', J.os, J.bare, J.base, J.hok, rv, q⟩
    | next =>
      obtain ⟨σ', H', J, q⟩ := z
      exact ⟨.non, H', J.os, J.bare, J.base, J.hok, rfl, q⟩
    | brk => exact z.elim fun _ z => z.elim fun _ z => z.2.elim
    | cont => exact z.elim fun _ z => z.elim fun _ z => z.2.elim
end
/-- what is called here may let out: by the place's own wish, at these slots -/
def PsAt [XE] (CX : CXT) (X : Cx) : Prop := ∀ (pins : List (Addr × Obj)) (σ : L2.St) (H : Hp) (s : Shared) (e : Value) (s' : Shared), Inv X pins σ H s → CX X.stack H s (fun cls d H' => XE.W cls d σ H') e s' → X.xe e s'
theorem PsAt.of [XE] {X : Cx} (tk : L2.Takes X XE.W) : PsAt (L2.CX X.prog X.w) X := fun _ σ _ _ e s' I c => tk e s' (XE.of_call I (fun _ _ _ h => h) c)
section
variable [XE] {X : Cx} {CX : CXT} {k : Nat} {f : Addr} {fd : FuncData} {ps : List Str} {sp : Sp}
/-- the callee runs, however its arguments are bound -/
theorem run_g {pins : List (Addr × Obj)} {σ : L2.St} {H : Hp} {s : Shared} {Q : VK} {us : List Value} {kw : List (Str × Value)} {all : List Value} {vs : List V} (F : FnG X.prog X.w X.K X.mg X.base CX k f fd ps sp) (hr : Room k X.A) (hgd : X.A.guards = some []) (hx : PsAt CX X)
    (I : Inv X pins σ H s) (hb : BindsTo s fd ⟨us, kw⟩ (ps.zip all)) (r : Vals vs all) (h : sp vs H Q fun cls d H' => XE.W cls d σ H') : wpAny (model X.prog X.w) X.A (call (.ref f) us kw) (EP X pins σ Q) X.xe s := by
  refine wpAny_call (codeAny_mono (F.go X.A X.stack s H ⟨us, kw⟩ all vs Q _ hr hgd I.env0 hb r h) ?_)
  intro res s' z
  match res, z with
  | .error e, z => exact hx pins σ H s e s' I z
  | .ok (.ret u), z => exact I.after z
  | .ok .next, z => exact False.elim z
  | .ok .brk, z => exact False.elim z
  | .ok .cont, z => exact False.elim z
/-- f(e, ..) -/
theorem pe_callG {x : Str} {p pos : Pos} {e : Expr} {es : List Expr} {t : TA} {dvs : List V} {ds : List Value} (F : FnG X.prog X.w X.K X.mg X.base CX k f fd ps sp) (hr : Room k X.A) (hgd : X.A.guards = some []) (hg : Gl X x) (hm : X.mg x = some (.ref f)) (hk : PySem.W.keepIn X.K (.ref f) = true) (hb : Binds X.K fd ps ds) (hd : Vals dvs ds)
    (hx : PsAt CX X) (ha : PA X (e :: es) t) (hdb : (x == ("__debug__" : Str)) = false := by decide) (he : starEach (e :: es) X.env = (false, eval e X.env) :: starEach es X.env := by rfl) (hpl : (backTo pos (starEach es X.env)).any (·.1) = false := by rfl) :
    PE X (.Call (.Name x p) (e :: es) [] pos) (fun σ H Q => t σ H fun vs H1 => sp (vs ++ dvs) H1 Q fun cls d H' => XE.W cls d σ H') := by
  constructor
  intro pins s σ H Q I h
  refine wpAny_Call_Name_kw (ld_glob I hg hm ?_ hdb)
  refine PySem.W.callWith_K (h₀ := X.base) I.ok.mod.kin hk (thn (ha.run pos pins s σ H _ I h) ?_) he hpl
  rintro us s1 ⟨vs, H1, I1, r, q⟩
  refine ⟨I1.kIn, ?_⟩
  have r2 : Vals (vs ++ dvs) (us ++ ds) := r.append hd
  have nargs : (us ++ ds).length = ps.length := by rw [← r2.length]; exact F.len _ _ _ _ q
  exact run_g F hr hgd hx I1 (hb s1 us I1.kIn nargs) r2 q
theorem pe_callG0 {x : Str} {p pos : Pos} {dvs : List V} {ds : List Value} (F : FnG X.prog X.w X.K X.mg X.base CX k f fd ps sp) (hr : Room k X.A) (hgd : X.A.guards = some []) (hg : Gl X x) (hm : X.mg x = some (.ref f)) (hk : PySem.W.keepIn X.K (.ref f) = true) (hb : Binds X.K fd ps ds) (hd : Vals dvs ds)
    (hx : PsAt CX X) (hdb : (x == ("__debug__" : Str)) = false := by decide) : PE X (.Call (.Name x p) [] [] pos) (fun σ H Q => sp dvs H Q fun cls d H' => XE.W cls d σ H') := by
  constructor
  intro pins s σ H Q I h
  refine wpAny_Call_Name_kw (ld_glob I hg hm ?_ hdb)
  have nargs : ds.length = ps.length := by rw [← hd.length]; exact F.len _ _ _ _ h
  exact PySem.W.callWith_K0 I.kIn hk (run_g F hr hgd hx I (hb s [] I.kIn nargs) hd h)
/-- o.m(e, ..) -/
theorem pe_methG {pl : Sem Bool} {C : Addr} {m : Str} {o : Expr} {e : Expr} {es : List Expr} {ta : TE} {t : TA} {pos apos : Pos} {dvs : List V} {ds : List Value} (he : PE X o ta) (c : Cls X.K C) (hm : Meth X.K C m f) (F : FnG X.prog X.w X.K X.mg X.base CX k f fd ps sp) (hr : Room k X.A) (hgd : X.A.guards = some []) (hb : Binds X.K fd ps ds) (hd : Vals dvs ds) (hx : PsAt CX X) (ha : PA X (e :: es) t)
    (hst : starEach (e :: es) X.env = (false, eval e X.env) :: starEach es X.env := by rfl) (hpl : (backTo pos (starEach es X.env)).any (·.1) = false := by rfl)
    (ht : eval (.Call (.Attribute o m apos) (e :: es) [] pos) X.env = (do
      let ov ← eval o X.env
      standAt apos.atName
      let (f, first) ← holding [ov] (getMethod ov m pl)
      callWith pos f first (backTo pos (starEach (e :: es) X.env)) (backToKw pos (keywordEach [] X.env))) := by rfl) :
    PE X (.Call (.Attribute o m apos) (e :: es) [] pos) (fun σ H Q => ta σ H fun x H1 => ∃ (a dx : Addr) (fs : List (Str × V)), x = .ref a ∧ H1 a = some (.ins C dx fs) ∧ fs.lookup m = none ∧ t σ H1 fun vs H2 => sp (.ref a :: (vs ++ dvs)) H2 Q fun cls d H' => XE.W cls d σ H') := by
  refine ⟨fun pins s σ H Q I h => ?_⟩
  refine PySem.W.methodCall_KW (pl := pl) (thn (he.run pins s σ H _ I h) fun u s1 ⟨x, H1, I1, rx, a, dx, fs, ex, ea, l, q⟩ => ?_) ht
  subst ex
  obtain rfl : u = Value.ref a := rx
  refine getmeth_ok I1 ea c hm l ?_
  refine PySem.W.callWith_K (first := [.ref a]) (h₀ := X.base) I.ok.mod.kin hm.kp (thn (ha.run pos pins s1 σ H1 _ I1 q) fun us s2 ⟨vs, H2, I2, r, q2⟩ => ⟨I2.kIn, ?_⟩) hst hpl
  have r2 : Vals (.ref a :: (vs ++ dvs)) ((.ref a :: us) ++ ds) := .cons rfl (r.append hd)
  have nargs : ((.ref a :: us) ++ ds).length = ps.length := by rw [← r2.length]; exact F.len _ _ _ _ q2
  exact run_g (us := .ref a :: us) F hr hgd hx I2 (hb s2 (.ref a :: us) I2.kIn nargs) r2 q2
/-- o.m() -/
theorem pe_methG0 {pl : Sem Bool} {C : Addr} {m : Str} {o : Expr} {ta : TE} {pos apos : Pos} {dvs : List V} {ds : List Value} (he : PE X o ta) (c : Cls X.K C) (hm : Meth X.K C m f) (F : FnG X.prog X.w X.K X.mg X.base CX k f fd ps sp) (hr : Room k X.A) (hgd : X.A.guards = some []) (hb : Binds X.K fd ps ds) (hd : Vals dvs ds) (hx : PsAt CX X)
    (ht : eval (.Call (.Attribute o m apos) [] [] pos) X.env = (do
      let ov ← eval o X.env
      standAt apos.atName
      let (f, first) ← holding [ov] (getMethod ov m pl)
      callWith pos f first (backTo pos (starEach [] X.env)) (backToKw pos (keywordEach [] X.env))) := by rfl) :
    PE X (.Call (.Attribute o m apos) [] [] pos) (fun σ H Q => ta σ H fun x H1 => ∃ (a dx : Addr) (fs : List (Str × V)), x = .ref a ∧ H1 a = some (.ins C dx fs) ∧ fs.lookup m = none ∧ sp (.ref a :: dvs) H1 Q fun cls d H' => XE.W cls d σ H') := by
  refine ⟨fun pins s σ H Q I h => ?_⟩
  refine PySem.W.methodCall_KW (pl := pl) (thn (he.run pins s σ H _ I h) fun u s1 ⟨x, H1, I1, rx, a, dx, fs, ex, ea, l, q⟩ => ?_) ht
  subst ex
  obtain rfl : u = Value.ref a := rx
  refine getmeth_ok I1 ea c hm l ?_
  have r2 : Vals (.ref a :: dvs) ([.ref a] ++ ds) := .cons rfl hd
  have nargs : ([Value.ref a] ++ ds).length = ps.length := by rw [← r2.length]; exact F.len _ _ _ _ q
  exact PySem.W.callWith_K0 (first := [.ref a]) I1.kIn hm.kp (run_g (us := [.ref a]) F hr hgd hx I1 (hb s1 [.ref a] I1.kIn nargs) r2 q)
end
end Dl

set_option Elab.async false
set_option linter.all false
set_option maxRecDepth 100000
set_option maxHeartbeats 1000000
namespace Dl
open PySem PySem.Spec PyProof.Rows L2
variable [XP]

/-! ### what a def promises, by data -/
abbrev DSp := List D → Sto → XC → (D → Sto → Prop) → Prop
def liftF (sp : DSp) : Sp := fun vs H Q E => ∃ n ds Xd Qd, SOk n H ∧ RpAll n (fun _ => True) H vs ds ∧ sp ds n Xd Qd ∧
  (∀ v H' d n', SameP n H n' H' → SOk n' H' → Rp n' (NewS H) H' v d → Qd d n' → Q v H') ∧
  ∀ cls d H' ex n', SameP n H n' H' → SOk n' H' → RpX n' H' cls d ex → Xd ex n' → E cls d H'
def startD (N : List Str) (ds : List D) : DEnv := ds.map (fun d => some (.frz d)) ++ List.replicate (N.length - ds.length) none
theorem start_get {N : List Str} {vs : List V} {ds : List D} {n : Sto} {A : Addr → Prop} {H : Hp} (r : RpAll n A H vs ds) (i : Nat) :
    (∀ d, (startD N ds)[i]? = some (some (SV.frz d)) → ∃ v, (L2.start N vs)[i]? = some (some v) ∧ Rp n A H v d) ∧ ∀ es, (startD N ds)[i]? ≠ some (some (SV.own es)) := by
  unfold startD L2.start
  by_cases hi : i < ds.length
  · have e1 : (ds.map (fun d => some (SV.frz d)) ++ List.replicate (N.length - ds.length) none)[i]? = some (some (.frz ds[i])) := by
      rw [List.getElem?_append_left (by simpa using hi), List.getElem?_map, List.getElem?_eq_getElem hi]; rfl
    rw [e1]
    obtain ⟨v, g1, g2⟩ := r.get (List.getElem?_eq_getElem hi)
    refine ⟨fun d e => ?_, fun es e => by cases e⟩
    cases e
    refine ⟨v, ?_, g2⟩
    rw [List.getElem?_append_left (by rw [List.length_map, r.length]; exact hi), List.getElem?_map, g1]; rfl
  · have e1 : ∀ s, (ds.map (fun d => some (SV.frz d)) ++ List.replicate (N.length - ds.length) none)[i]? ≠ some (some s) := fun s e => by
      rw [List.getElem?_append_right (by simpa using hi), List.getElem?_replicate] at e
      split at e <;> cases e
    exact ⟨fun d e => absurd e (e1 _), fun es => e1 _⟩
theorem StR.start {n : Sto} {N : List Str} {vs : List V} {ds : List D} {H : Hp} (p : SOk n H) (r : RpAll n (fun _ => True) H vs ds) : StR n H [] [] n (L2.start N vs) (startD N ds) H where
  same := SameP.refl n H
  pen := p
  len := by
    unfold L2.start startD
    rw [List.length_append, List.length_append, List.length_map, List.length_map, List.length_replicate, List.length_replicate, r.length]
  frz := fun i d e => by
    obtain ⟨v, g1, g2⟩ := (start_get r i).1 d e
    exact ⟨v, g1, g2.imp fun a o _ _ => ⟨by simp, fun j es e' => absurd e' ((start_get r j).2 es)⟩⟩
  own := fun i ds e => absurd e ((start_get r i).2 ds)
  dis := fun i j p di dj e => absurd e ((start_get r i).2 di)
  gh := fun g hg => by cases hg
  avn := fun a ha => by cases ha

section
variable {P : Program} {w : World} {K : PySem.W.Frag} {mg : Str → Option Value} {base : Heap}
section
variable {N : List Str} {qual : Str} {sc : Scope} {f : Addr} {cv : Value} {A : Around} {fs : List Env} {s : Shared} {H : Hp} {E : XK}
omit [XP]
theorem takes_def : L2.Takes (cxOf (L2.CX P w) P w K mg base N qual sc f cv A fs s H E) (fun cls d _ H' => E cls d H') := L2.takes_of rfl rfl rfl rfl
theorem own_def : PassesOwn (model P w) (cxOf (L2.CX P w) P w K mg base N qual sc f cv A fs s H E).A (cxOf (L2.CX P w) P w K mg base N qual sc f cv A fs s H E).env (cxOf (L2.CX P w) P w K mg base N qual sc f cv A fs s H E).xe := L2.passes_of rfl
end
/-- THE RULE for a def: its body's derivation, and its reading over data -/
theorem Fun_dok {x qual : Str} {st : Stmt} {f : Addr} {fd : FuncData} {N ps : List Str} {k : Nat} {sp : DSp} {t : DTS} (F : L2.Fun K x qual st f fd) (S : FnScope N ps (defScope st)) (len : ∀ ds n X Q, sp ds n X Q → ds.length = ps.length)
    (hbody : ∀ [XE] (cv : Value), fd.code = cv → ∀ (A : Around) (fs : List Env) (s : Shared) (H : Hp) (E : XK), Room k (A.deeper (envOfC qual (defScope st) s.heap.objs.size f cv)) → (A.deeper (envOfC qual (defScope st) s.heap.objs.size f cv)).guards = some [] →
      L2.Takes (cxOf (L2.CX P w) P w K mg base N qual (defScope st) f cv A fs s H E) XE.W →
      DSs (cxOf (L2.CX P w) P w K mg base N qual (defScope st) f cv A fs s H E) (defBody st) t)
    (hread : ∀ ds n Xd Qd, sp ds n Xd Qd → t { nx := fun _ n' => Qd .non n', rt := Qd, xr := fun ex _ n' => Xd ex n' } (startD N ds) n) : FnG P w K mg base (L2.CX P w) (k + 1) f fd ps (liftF sp) := by
  refine fn_body F S (fun vs H Q E h => ?_) (fun cdv hcv A outer s H vs Q E hr hgd h => ?_)
  · obtain ⟨n, ds, Xd, Qd, p, r, h, _⟩ := h
    rw [r.length]; exact len _ _ _ _ h
  · obtain ⟨n, ds, Xd, Qd, p, r, h, kk, kx⟩ := h
    letI : XE := .of fun cls d _ H' => E cls d H'
    refine ⟨_, hbody cdv hcv A outer s H E hr hgd takes_def, n, H, [], [], n, startD N ds, _, StR.start p r, hread _ _ _ _ h, ⟨fun σ' H' Δ' n' S' q => ?_, fun v H' d n' s p r q => kk v H' d n' s p r q, fun _ _ _ _ _ q => q, fun _ _ _ _ _ q => q, fun cls d σ' H' Δ' ex n' S' r q => kx cls d H' ex n' S'.same S'.pen r q, fun _ _ _ => trivial⟩⟩
    exact kk .non H' .non n' S'.same S'.pen .non q
/-- nothing is let out -/
theorem FnG.noX {k : Nat} {f : Addr} {fd : FuncData} {ps : List Str} {sp : Sp} (F : FnG P w K mg base (L2.CX P w) k f fd ps sp) : FnG P w K mg base CX0 k f fd ps (fun vs H Q _ => sp vs H Q fun _ _ _ => False) :=
  ⟨fun vs H Q E h => F.len vs H Q _ h, fun A fs s H ar us vs Q E hr hg e0 hb r h => codeAny_mono (F.go A fs s H ar us vs Q _ hr hg e0 hb r h) fun res s' z => by
    cases res with
    | error e =>
      obtain ⟨a, B, H', cls, d, _, _, _, _, _, _, _, q⟩ := z
      exact q.elim
    | ok fl => cases fl <;> exact z⟩
end
def tCallD (sp : DSp) (ta : DTA) : DTE := fun _ Δ n X Q => ta .bor Δ n X fun ds n1 => sp ds n1 X Q
def tCallDD (sp : DSp) (ta : DTA) (dd : List D) : DTE := fun _ Δ n X Q => ta .bor Δ n X fun ds n1 => sp (ds ++ dd) n1 X Q
variable [XE]
section
variable {X : Cx} {k : Nat} {f : Addr} {fd : FuncData} {ps ks : List Str} {sp : DSp} {x : Str} {p pos : Pos} {e : Expr} {es : List Expr} {kws : List Keyword} {ta tk : DTA}
theorem call_end {vs : List V} {n0 nB n n1 : Sto} {H0 B : Hp} {fr : List (V × D)} {av : List Addr} {σ : L2.St} {Δ : DEnv} {m : Md} {H H1 : Hp} {ds : List D} {Xd : XC} {Qd : D → Sto → Prop} {Q : VK} {A : Addr → Prop} (bb : SameP nB B n H) (xk : XOk n H σ Xd) (s1 : SameP n H n1 H1) (S1 : StR n0 H0 fr av n1 σ Δ H1) (r1 : RpAll n1 A H1 vs ds) (q1 : sp ds n1 Xd Qd)
    (k : ∀ v H' d n', SameP n H n' H' → SOk n' H' → Rp n' (Al m B H0 av σ Δ) H' v d → Qd d n' → Q v H') : liftF sp vs H1 Q fun cls d H' => XE.W cls d σ H' :=
  ⟨n1, ds, Xd, Qd, S1.pen, r1.imp fun _ _ _ _ => trivial, q1, fun v H' d n' s p r q => k v H' d n' (s1.trans s) p (r.imp fun a o _ z => Al.newS S1 (bb.trans s1) m z) q, fun cls d H' ex n' s p r q => xk.go cls d H' ex n' (s1.trans s) p r q⟩
theorem d_callDD {dd : List D} {dvs : List V} {dds : List Value} (F : FnG X.prog X.w X.K X.mg X.base (L2.CX X.prog X.w) k f fd ps (liftF sp)) (hr : Room k X.A) (hgd : X.A.guards = some []) (tk : L2.Takes X XE.W) (hg : Gl X x) (hm : X.mg x = some (.ref f)) (hk : PySem.W.keepIn X.K (.ref f) = true) (hb : Binds X.K fd ps dds) (hv : Vals dvs dds) (hd : ∀ n A H, RpAll n A H dvs dd)
    (ha : DA X (e :: es) ta) (hdb : (x == ("__debug__" : Str)) = false := by decide) (he : starEach (e :: es) X.env = (false, eval e X.env) :: starEach es X.env := by rfl) (hpl : (backTo pos (starEach es X.env)).any (·.1) = false := by rfl) :
    DE X (.Call (.Name x p) (e :: es) [] pos) (tCallDD sp ta dd) :=
  wkE (pe_callG F hr hgd hg hm hk hb hv (.of tk) ha hdb he hpl) fun σ H Q ⟨n0, H0, nB, B, fr, av, n, Δ, m, Xd, Qd, S, bb, xk, h, kk⟩ => liftA_at .bor S bb xk h fun vs H1 ds n1 s1 S1 r1 q1 => call_end bb xk s1 S1 (r1.append (hd _ _ _)) q1 kk
theorem d_call (F : FnG X.prog X.w X.K X.mg X.base (L2.CX X.prog X.w) k f fd ps (liftF sp)) (hr : Room k X.A) (hgd : X.A.guards = some []) (tk : L2.Takes X XE.W) (hg : Gl X x) (hm : X.mg x = some (.ref f)) (hk : PySem.W.keepIn X.K (.ref f) = true) (hb : Binds X.K fd ps [])
    (ha : DA X (e :: es) ta) (hdb : (x == ("__debug__" : Str)) = false := by decide) (he : starEach (e :: es) X.env = (false, eval e X.env) :: starEach es X.env := by rfl) (hpl : (backTo pos (starEach es X.env)).any (·.1) = false := by rfl) :
    DE X (.Call (.Name x p) (e :: es) [] pos) (tCallD sp ta) :=
  wkE (pe_callG F hr hgd hg hm hk hb .nil (.of tk) ha hdb he hpl) fun σ H Q ⟨n0, H0, nB, B, fr, av, n, Δ, m, Xd, Qd, S, bb, xk, h, kk⟩ => liftA_at .bor S bb xk h fun vs H1 ds n1 s1 S1 r1 q1 => by
    rw [List.append_nil]
    exact call_end bb xk s1 S1 r1 q1 kk
theorem d_call0 (F : FnG X.prog X.w X.K X.mg X.base (L2.CX X.prog X.w) k f fd ps (liftF sp)) (hr : Room k X.A) (hgd : X.A.guards = some []) (tk : L2.Takes X XE.W) (hg : Gl X x) (hm : X.mg x = some (.ref f)) (hk : PySem.W.keepIn X.K (.ref f) = true) (hb : Binds X.K fd ps [])
    (hdb : (x == ("__debug__" : Str)) = false := by decide) : DE X (.Call (.Name x p) [] [] pos) (tCallD sp tNilD) :=
  wkE (pe_callG0 F hr hgd hg hm hk hb .nil (.of tk) hdb) fun σ H Q ⟨n0, H0, nB, B, fr, av, n, Δ, m, Xd, Qd, S, bb, xk, h, kk⟩ => call_end (A := fun _ => True) bb xk (SameP.refl n H) S .nil h kk
/-- keywords alone, and behind places -/
def DKw (X : Cx) (kws : List Keyword) (t : DTA) : Prop := PK X kws (liftA t)
theorem wkK {kws : List Keyword} {t t' : TA} (h : PK X kws t) (w : ∀ σ H Q, t' σ H Q → t σ H Q) : PK X kws t' := ⟨fun po pins s σ H Q I q => h.run po pins s σ H Q I (w σ H Q q)⟩
theorem dk_nil : DKw X [] tNilD := wkK pk_nil fun σ H Q ⟨n0, H0, nB, B, fr, av, n, Δ, m, Xd, Qd, S, bb, xk, h, k⟩ => k [] H [] n (SameP.refl n H) S.pen .nil h
theorem dk_cons {nm : Option Str} {kpos : Pos} {te : DTE} {t : DTA} (ha : DE X e te) (hr : DKw X kws t) : DKw X (⟨nm, e, kpos⟩ :: kws) (tConsD te t) :=
  wkK (pk_cons ha hr) fun σ H Q ⟨n0, H0, nB, B, fr, av, n, Δ, m, Xd, Qd, S, bb, xk, h, k⟩ => lift_at m S bb xk h fun v H1 d n1 s1 S1 r1 q1 =>
    liftA_at m S1 (bb.trans s1) (xk.step s1) q1 fun vs H2 ds n2 s2 S2 r2 q2 => k _ H2 _ n2 (s1.trans s2) S2.pen (.cons (r1.same s2) r2) q2
/-- how keywords come to the parameters: pr puts the keywords' values behind the positional ones in order -/
structure KwB (K : PySem.W.Frag) (fd : FuncData) (ps ks : List Str) (pr : List Nat) : Prop where
  to : ∀ (s : Shared) (us ws : List Value), K.In s.heap → us.length + ws.length = ps.length → ws.length = ks.length → BindsTo s fd ⟨us, ks.zip ws⟩ (ps.zip (us ++ pr.filterMap fun i => ws[i]?))
  len : pr.length = ks.length
  lt : ∀ i ∈ pr, i < ks.length
theorem kw_vals {ws : List Value} {zs : List V} (r : Vals zs ws) : ∀ pr : List Nat, Vals (pr.filterMap fun i => zs[i]?) (pr.filterMap fun i => ws[i]?)
  | [] => .nil
  | i :: pr => by
    have t := kw_vals r pr
    cases e : zs[i]? with
    | none =>
      have e2 := r.none_of e
      rw [List.filterMap_cons_none e, List.filterMap_cons_none e2]
      exact t
    | some v =>
      obtain ⟨u, e2, rv⟩ := r.get e
      rw [List.filterMap_cons_some e, List.filterMap_cons_some e2]
      exact .cons rv t
theorem kw_reps {n : Sto} {A : Addr → Prop} {H : Hp} {zs : List V} {ds : List D} (r : RpAll n A H zs ds) : ∀ pr : List Nat, RpAll n A H (pr.filterMap fun i => zs[i]?) (pr.filterMap fun i => ds[i]?)
  | [] => .nil
  | i :: pr => by
    have t := kw_reps r pr
    cases e : ds[i]? with
    | none =>
      have e2 : zs[i]? = none := by
        rw [List.getElem?_eq_none_iff] at e ⊢
        rw [r.length]; exact e
      rw [List.filterMap_cons_none e, List.filterMap_cons_none e2]
      exact t
    | some v =>
      obtain ⟨u, e2, rv⟩ := r.get e
      rw [List.filterMap_cons_some e, List.filterMap_cons_some e2]
      exact .cons rv t
def tCallKD (sp : DSp) (pr : List Nat) (ta tk : DTA) : DTE := fun _ Δ n X Q => ta .bor Δ n X fun ds n1 => tk .bor Δ n1 X fun es n2 => es.length = pr.length ∧ sp (ds ++ pr.filterMap fun i => es[i]?) n2 X Q
theorem run_kw {pr : List Nat} {pins : List (Addr × Obj)} {σ : L2.St} {H : Hp} {s : Shared} {Q : VK} {us ws : List Value} {vs zs : List V} (F : FnG X.prog X.w X.K X.mg X.base (L2.CX X.prog X.w) k f fd ps (liftF sp)) (hr : Room k X.A) (hgd : X.A.guards = some []) (tk : L2.Takes X XE.W) (hb : KwB X.K fd ps ks pr)
    (I : Inv X pins σ H s) (r : Vals vs us) (rz : Vals zs ws) (hl : zs.length = pr.length) (h : liftF sp (vs ++ pr.filterMap fun i => zs[i]?) H Q fun cls d H' => XE.W cls d σ H') : wpAny (model X.prog X.w) X.A (call (.ref f) us (ks.zip ws)) (EP X pins σ Q) X.xe s := by
  have r2 : Vals (vs ++ pr.filterMap fun i => zs[i]?) (us ++ pr.filterMap fun i => ws[i]?) := r.append (kw_vals rz pr)
  have hl2 := F.len _ _ _ _ h
  have hw : ws.length = ks.length := by rw [← rz.length, hl, hb.len]
  have full : ∀ l : List Nat, (∀ i ∈ l, i < ws.length) → (l.filterMap fun i => ws[i]?).length = l.length := by
    intro l
    induction l with
    | nil => intro _; rfl
    | cons i l ih =>
      intro hlt
      have e : ws[i]? = some (ws[i]'(hlt i (List.mem_cons_self ..))) := List.getElem?_eq_getElem _
      rw [List.filterMap_cons_some e, List.length_cons, ih fun j hj => hlt j (List.mem_cons_of_mem _ hj), List.length_cons]
  have hl3 : us.length + ws.length = ps.length := by
    rw [← hl2, r2.length, List.length_append, full pr fun i hi => by rw [hw]; exact hb.lt i hi, hb.len, hw]
  exact run_g F hr hgd (.of tk) I (hb.to s us ws I.kIn hl3 hw) r2 h
theorem d_callK {pr : List Nat} (F : FnG X.prog X.w X.K X.mg X.base (L2.CX X.prog X.w) k f fd ps (liftF sp)) (hr : Room k X.A) (hgd : X.A.guards = some []) (tkx : L2.Takes X XE.W) (hg : Gl X x) (hm : X.mg x = some (.ref f)) (hk : PySem.W.keepIn X.K (.ref f) = true) (hb : KwB X.K fd ps ks pr)
    (ha : DA X (e :: es) ta) (hkw : DKw X kws tk) (hall : (backToKw pos (keywordEach kws X.env)).all (·.1.isSome) = true := by rfl) (hks : (backToKw pos (keywordEach kws X.env)).filterMap (·.1) = ks := by rfl)
    (hdb : (x == ("__debug__" : Str)) = false := by decide) (he : starEach (e :: es) X.env = (false, eval e X.env) :: starEach es X.env := by rfl)
    (hpl : ((backTo pos (starEach (e :: es) X.env)).any (·.1) || (backToKw pos (keywordEach kws X.env)).any (·.1.isNone)) = false := by rfl) :
    DE X (.Call (.Name x p) (e :: es) kws pos) (tCallKD sp pr ta tk) := by
  refine ⟨fun pins s σ H Q I ⟨n0, H0, nB, B, fr, av, n, Δ, m, Xd, Qd, S, bb, xk, h, kk⟩ => ?_⟩
  refine wpAny_Call_Name_kw (ld_glob I hg hm ?_ hdb)
  refine PySem.W.callWith_KW (h₀ := X.base) I.ok.mod.kin hk hall (thn (PA.run ha pos pins s σ H _ I (liftA_at (Q := fun vs H1 => liftA tk σ H1 fun zs H2 => zs.length = pr.length ∧ liftF sp (vs ++ pr.filterMap fun i => zs[i]?) H2 Q fun cls d H' => XE.W cls d σ H') .bor S bb xk h fun vs H1 ds n1 s1 S1 r1 q1 => ?_)) fun us s1 ⟨vs, H1, I1, r, q⟩ => ?_) hpl he
  · refine liftA_at .bor S1 (bb.trans s1) (xk.step s1) q1 fun zs H2 es n2 s2 S2 r2 q2 => ⟨by rw [r2.length]; exact q2.1, ?_⟩
    exact call_end bb xk (s1.trans s2) S2 ((r1.same s2).append (kw_reps r2 pr)) q2.2 kk
  · refine thn (PK.run hkw pos pins s1 σ H1 _ I1 q) fun ws s2 ⟨zs, H2, I2, rz, q2⟩ => ⟨I2.kIn, ?_⟩
    rw [hks]
    exact run_kw F hr hgd tkx hb I2 r rz q2.1 q2.2
theorem d_callK0 {pr : List Nat} (F : FnG X.prog X.w X.K X.mg X.base (L2.CX X.prog X.w) k f fd ps (liftF sp)) (hr : Room k X.A) (hgd : X.A.guards = some []) (tkx : L2.Takes X XE.W) (hg : Gl X x) (hm : X.mg x = some (.ref f)) (hk : PySem.W.keepIn X.K (.ref f) = true) (hb : KwB X.K fd ps ks pr)
    (hkw : DKw X kws tk) (hall : (backToKw pos (keywordEach kws X.env)).all (·.1.isSome) = true := by rfl) (hks : (backToKw pos (keywordEach kws X.env)).filterMap (·.1) = ks := by rfl)
    (hdb : (x == ("__debug__" : Str)) = false := by decide)
    (hpl : (backToKw pos (keywordEach kws X.env)).any (·.1.isNone) = false := by rfl) :
    DE X (.Call (.Name x p) [] kws pos) (tCallKD sp pr tNilD tk) := by
  refine ⟨fun pins s σ H Q I ⟨n0, H0, nB, B, fr, av, n, Δ, m, Xd, Qd, S, bb, xk, h, kk⟩ => ?_⟩
  refine wpAny_Call_Name_kw (ld_glob I hg hm ?_ hdb)
  refine PySem.W.callWith_KW0 (h₀ := X.base) (first := []) I.ok.mod.kin hk hall (thn (PK.run hkw pos pins s σ H _ I (liftA_at (Q := fun zs H2 => zs.length = pr.length ∧ liftF sp ([] ++ pr.filterMap fun i => zs[i]?) H2 Q fun cls d H' => XE.W cls d σ H') .bor S bb xk h fun zs H2 es n2 s2 S2 r2 q2 => ⟨by rw [r2.length]; exact q2.1, ?_⟩)) fun ws s2 ⟨zs, H2, I2, rz, q2⟩ => ⟨I2.kIn, ?_⟩) hpl
  · exact call_end (ds := [] ++ pr.filterMap fun i => es[i]?) bb xk s2 S2 (kw_reps r2 pr) q2.2 kk
  · rw [hks]
    exact run_kw (us := []) (vs := []) F hr hgd tkx hb I2 .nil rz q2.1 q2.2
end
end Dl

set_option Elab.async false
set_option linter.all false
set_option maxRecDepth 100000
set_option maxHeartbeats 1000000
namespace Dl
open PySem PySem.Spec PyProof.Rows L2
variable [XP] [XE]

/-! ### comprehensions -/
/-- a place that takes no exception -/
abbrev noXE : Dl.XE := .of fun _ _ _ _ => False
theorem XOk.no {n : Sto} {H : Hp} {σ : L2.St} : @XOk _ noXE n H σ fun _ _ => False := @XOk.mk _ noXE _ _ _ _ (fun _ _ _ _ _ _ _ _ z => z.elim) trivial
abbrev noX : XC := fun _ _ => False
def lcW (i : Nat) (tt : DTT) (te : DTE) (m : Md) (Δ : DEnv) (Q : D → Sto → Prop) : List D → List D → Sto → Prop
  | [], acc, n => Q (.lst acc) n
  | d :: ds, acc, n => tt (Δ.set i (some (.frz d))) n noX fun b n1 => if b = true then te m (Δ.set i (some (.frz d))) n1 noX fun y n2 => acc.length < sizeLine ∧ lcW i tt te m Δ Q ds (acc ++ [y]) n2 else lcW i tt te m Δ Q ds acc n1
def tYesD : DTT := fun _ n X Q => Q true n
/-- ms: how the walked one is wanted (bor: its items are flat; frz: it stays) -/
def tLcD (ms : Md) (ti : DTI) (i : Nat) (tt : DTT) (te : DTE) : DTE := fun m Δ n X Q => (match Δ[i]? with | some (some (.own _)) => False | _ => True) ∧ ti ms Δ n X fun items n1 => (match ms with | .frz => True | _ => flatAll items = true) ∧ lcW i tt te m Δ Q items [] n1
section
variable {n0 nB : Sto} {H0 B : Hp} {fr : List (V × D)} {av : List Addr} {n n' : Sto} {σ : L2.St} {Δ : DEnv} {H H' : Hp}
omit [XP] [XE]
theorem no_cons {a b : Addr} : NO (b :: av) σ Δ a ↔ NO av σ Δ a ∧ a ≠ b := by
  unfold NO
  simp only [List.mem_cons, not_or]
  exact ⟨fun ⟨⟨h1, h2⟩, h3⟩ => ⟨⟨h2, h3⟩, h1⟩, fun ⟨⟨h2, h3⟩, h1⟩ => ⟨⟨h1, h2⟩, h3⟩⟩
variable [XP]
/-- .. what is tracked changes at one list that is no root -/
theorem stay_av {A : Addr → Prop} {b : Addr} (hA : ∀ a, A a → a ≠ b) {vs : List V} {o : HO} (hb : H b = some (.lst vs)) : Stay n A H n A (upd H b o) :=
  ⟨fun a ws e z => ⟨e.updL hb, z⟩, fun a u e y z _ => ⟨by rw [upd_ne (hA a z)]; exact e, y, z⟩, fun a c d q z => ⟨by rw [upd_ne (ne_of q hb cxo_lst)]; exact q, z⟩, fun a fs q z => ⟨by rw [upd_ne (ne_of q hb (by intro z; cases z))]; exact q, z⟩⟩
/-- a new list is under way -/
theorem StR.addav (S : StR n0 H0 fr av n σ Δ H) {b : Addr} {us : List V} (hb : H b = none) : StR n0 H0 fr (b :: av) n σ Δ (upd H b (.lst us)) := by
  have S' := S.mono (SameP.new (o := .lst us) hb) (S.pen.same (same_new hb))
  have st : Stay n (NO av σ Δ) H n (NO (b :: av) σ Δ) (upd H b (.lst us)) := .of (SameP.new hb) fun a u e _ _ z => no_cons.mpr ⟨z, ne_of_none e hb⟩
  refine ⟨S'.same, S'.pen, S.len, fun i d e => ?_, fun i ds e => ?_, S.dis, fun g hg => Rp.stay st _ _ (S.gh g hg), fun a ha => ?_⟩
  · obtain ⟨v, h1, h2⟩ := S.frz i d e
    exact ⟨v, h1, Rp.stay st _ _ h2⟩
  · obtain ⟨p, vs, h1, h2, h3, h4, h5⟩ := S.own i ds e
    refine ⟨p, vs, h1, ?_, h3, by rw [upd_ne (ne_of_none h4 hb)]; exact h4, RpAll.stay st _ _ h5⟩
    simp only [List.mem_cons, not_or]
    exact ⟨ne_of_none h4 hb, h2⟩
  · rcases List.mem_cons.mp ha with e | ha
    · subst e; exact ⟨S.neP hb, _, upd_same⟩
    · exact S'.avn a ha
theorem StR.wrav {b : Addr} (S : StR n0 H0 fr (b :: av) n σ Δ H) {vs us : List V} (hb : H b = some (.lst vs)) (h0 : NewS H0 b) : StR n0 H0 fr (b :: av) n σ Δ (upd H b (.lst us)) := by
  have st : Stay n (NO (b :: av) σ Δ) H n (NO (b :: av) σ Δ) (upd H b (.lst us)) := stay_av (fun a z => (no_cons.mp z).2) hb
  have rb : n b = none := (S.avn b (List.mem_cons_self ..)).1
  refine ⟨wr_same S.same h0 hb, S.pen.wr hb rb, S.len, fun i d e => ?_, fun i ds e => ?_, S.dis, fun g hg => Rp.stay st _ _ (S.gh g hg), fun a ha => ?_⟩
  · obtain ⟨v, h1, h2⟩ := S.frz i d e
    exact ⟨v, h1, Rp.stay st _ _ h2⟩
  · obtain ⟨p, vs, h1, h2, h3, h4, h5⟩ := S.own i ds e
    exact ⟨p, vs, h1, h2, h3, by rw [upd_ne (show p ≠ b from fun z => h2 (by rw [z]; exact List.mem_cons_self ..))]; exact h4, RpAll.stay st _ _ h5⟩
  · by_cases z : a = b
    · subst z; exact ⟨rb, _, upd_same⟩
    · obtain ⟨r, vs2, q⟩ := S.avn a ha
      exact ⟨r, vs2, by rw [upd_ne z]; exact q⟩
omit [XP]
theorem al_cons {m : Md} {b a : Addr} (h : Al m B H0 (b :: av) σ Δ a) : Al m B H0 av σ Δ a ∧ a ≠ b := by
  cases m with
  | bor => simp only [Al, List.mem_cons, not_or] at h ⊢; exact ⟨h.2, h.1⟩
  | frz => exact no_cons.mp h
  | ret => simp only [Al, List.mem_cons, not_or] at h ⊢; exact ⟨⟨h.1.2, h.2⟩, h.1.1⟩
  | new => simp only [Al, List.mem_cons, not_or] at h ⊢; exact ⟨⟨h.1.2, h.2⟩, h.1.1⟩
theorem al_unset {m : Md} {a : Addr} {i : Nat} {x : V} {d : D} (hno : match Δ[i]? with | some (some (.own _)) => False | _ => True) (h : Al m B H0 av (σ.set i (some x)) (Δ.set i (some (.frz d))) a) : Al m B H0 av σ Δ a := by
  cases m with
  | frz =>
    refine ⟨h.1, fun j ds e => ?_⟩
    have hj : i ≠ j := fun z => by subst z; rw [e] at hno; exact hno
    have := h.2 j ds (by rw [List.getElem?_set_ne hj]; exact e)
    rw [List.getElem?_set_ne hj] at this
    exact this
  | bor => exact h
  | ret => exact h
  | new => exact h
end
def Asr (ms : Md) (av : List Addr) (σ : L2.St) (Δ : DEnv) (a : Addr) : Prop := match ms with | .frz => NO av σ Δ a | _ => True
theorem lift_lc {ms : Md} {ti : DTI} {i : Nat} {tt : DTT} {te : DTE} {σ : L2.St} {H : Hp} {Q : VK} (h : lift (tLcD ms ti i tt te) σ H Q) : tLc (liftI ti) (gName i) (@liftT _ noXE tt) (@lift _ noXE te) [i] σ H Q := by
  obtain ⟨n0, H0, nB, B, fr, av, n, Δ, m, Xd, Qd, S, bb, xk, ⟨hno, h⟩, k⟩ := h
  refine ⟨n0, H0, fr, av, n, Δ, ms, _, _, S, xk, h, fun J H1 gs items n1 s1 p1 rgs goes _ q Db hD => ?_⟩
  obtain ⟨hms, q⟩ := q
  have S1 := S.mono s1 p1
  have bP : n1 Db = none := S1.neP hD
  have b0 : NewS H0 Db := S1.old hD
  -- the walked one's reps
  have S2 : StR n0 H0 fr (Db :: av) n1 σ Δ (upd H1 Db (.lst [])) := S1.addav hD
  have rg2 : ∀ g ∈ gs, Rp n1 (fun a => Asr ms av σ Δ a ∧ a ≠ Db) (upd H1 Db (.lst [])) g.1 g.2 := fun g hg => by
    refine Rp.stay (.of (SameP.new hD) fun a u e _ _ z => ⟨?_, ne_of_none e hD⟩) _ _ (rgs g hg)
    cases ms with
    | frz => exact z
    | bor => trivial
    | ret => trivial
    | new => trivial
  refine ⟨fun j mm H2 => mm = items.length - j ∧ j ≤ items.length ∧ ∃ vacc acc n2, H2 Db = some (.lst vacc) ∧ RpAll n2 (Al m B H0 (Db :: av) σ Δ) H2 vacc acc ∧ SameP n1 H1 n2 H2 ∧ StR n0 H0 fr (Db :: av) n2 σ Δ H2 ∧
    (∀ g ∈ gs, Rp n2 (fun a => Asr ms av σ Δ a ∧ a ≠ Db) H2 g.1 g.2) ∧ lcW i tt te m Δ Qd (items.drop j) acc n2, ⟨items.length, by simp, Nat.zero_le _, [], [], n1, upd_same, .nil, SameP.new hD, S2, rg2, by rw [List.drop_zero]; exact q⟩, ?_⟩
  rintro j mm H2 ⟨rfl, hj, vacc, acc, n2, hacc, racc, s2, S2, rg2, q2⟩
  have bP2 : n2 Db = none := (S2.avn Db (List.mem_cons_self ..)).1
  have go := goes n2 H2 (fun a => Asr ms av σ Δ a ∧ a ≠ Db) S2.pen.fresh (fun a ha => by
    have z := no_cons.mp (S2.no_new ha)
    refine ⟨?_, z.2⟩
    cases ms with
    | frz => exact z.1
    | bor => trivial
    | ret => trivial
    | new => trivial) rg2 j
  by_cases hlt : j < items.length
  · have e1 : items[j]? = some items[j] := List.getElem?_eq_getElem hlt
    rw [List.drop_eq_getElem_cons hlt] at q2
    obtain ⟨g1, g2⟩ := go.2 _ e1
    refine .inr ⟨g1, fun H' => ∃ vacc acc n2, H' Db = some (.lst vacc) ∧ RpAll n2 (Al m B H0 (Db :: av) σ Δ) H' vacc acc ∧ SameP n1 H1 n2 H' ∧ StR n0 H0 fr (Db :: av) n2 σ Δ H' ∧
      (∀ g ∈ gs, Rp n2 (fun a => Asr ms av σ Δ a ∧ a ≠ Db) H' g.1 g.2) ∧ lcW i tt te m Δ Qd (items.drop (j + 1)) acc n2, fun H' ⟨va, ac, nn, z⟩ => ⟨items.length - (j + 1), by omega, rfl, hlt, va, ac, nn, z⟩, fun x H3 y => ?_⟩
    obtain ⟨s3, r3⟩ := g2 x H3 y
    show wipe ((wipe σ [i]).set i (some x)) [i] = wipe σ [i] ∧ @liftT _ noXE tt ((wipe σ [i]).set i (some x)) H3 _
    have es : (wipe σ [i]).set i (some x) = σ.set i (some x) := by show (σ.set i none).set i (some x) = _; rw [List.set_set]
    rw [es]
    refine ⟨by show (σ.set i (some x)).set i none = σ.set i none; rw [List.set_set], ?_⟩
    have S3 := S2.mono (.of s3) (S2.pen.same s3)
    have r3' : Rp n2 (NO (Db :: av) σ Δ) H3 x items[j] := by
      cases ms with
      | frz => exact r3.imp fun a _ _ z => no_cons.mpr ⟨z.1, z.2⟩
      | bor => exact Rp.flat _ _ (flatAll_iff.mp hms _ (List.getElem_mem hlt)) r3
      | ret => exact Rp.flat _ _ (flatAll_iff.mp hms _ (List.getElem_mem hlt)) r3
      | new => exact Rp.flat _ _ (flatAll_iff.mp hms _ (List.getElem_mem hlt)) r3
    have S3' := S3.setF i r3'
    have b3 : SameP nB B n2 H3 := (bb.trans s1).trans (s2.trans (.of s3))
    have ld : H3 Db = some (.lst vacc) := s3 _ _ hacc
    letI : XE := noXE
    refine liftT_at S3' .no q2 fun b H4 n4 s4 S4 q4 => ?_
    -- back to the slots as they were
    have back : ∀ {H5 : Hp} {n5 : Sto}, SameP n2 H3 n5 H5 → SOk n5 H5 → StR n0 H0 fr (Db :: av) n5 σ Δ H5 := fun s p => S3.mono s p
    have rgk : ∀ {H5 : Hp} {n5 : Sto}, SameP n2 H3 n5 H5 → ∀ g ∈ gs, Rp n5 (fun a => Asr ms av σ Δ a ∧ a ≠ Db) H5 g.1 g.2 := fun s g hg => ((rg2 g hg).same (.of s3)).same s
    cases b with
    | false => exact ⟨vacc, acc, n4, (s4.keep _ _ ld bP2).1, (racc.same (.of s3)).same s4, (s2.trans (.of s3)).trans s4, back s4 S4.pen, rgk s4, q4⟩
    | true =>
      refine lift_at m S4 (b3.trans s4) .no q4 fun v H5 d n5 s5 S5 r5 q5 => ?_
      have s45 := s4.trans s5
      obtain ⟨h5, bP5⟩ := s45.keep _ _ ld bP2
      have racc5 : RpAll n5 (Al m B H0 (Db :: av) σ Δ) H5 vacc acc := (racc.same (.of s3)).same s45
      refine ⟨vacc, h5, by rw [racc.length]; exact q5.1, vacc ++ [v], acc ++ [d], n5, upd_same, ?_, ?_, (back s45 S5.pen).wrav h5 b0, fun g hg => ?_, q5.2⟩
      · refine RpAll.stay (stay_av (fun a z => (al_cons z).2) h5) _ _ (racc5.append (.cons ?_ .nil))
        exact r5.imp fun a _ _ z => al_unset hno z
      · exact wr_same ((s2.trans (.of s3)).trans s45) (.of hD) h5
      · exact Rp.stay (stay_av (fun a z => z.2) h5) _ _ (rgk s45 g hg)
  · have e : j = items.length := by omega
    subst e
    rw [List.drop_length] at q2
    exact .inl ⟨go.1 (Nat.le_refl _), k _ _ _ n2 (s1.trans s2) S2.pen (.lst hacc bP2 (Al.new S1 (bb.trans s1) m hD) (racc.imp fun a _ _ z => (al_cons z).1)) q2⟩
end Dl

set_option Elab.async false
set_option linter.all false
set_option maxRecDepth 100000
set_option maxHeartbeats 1000000
namespace Dl
open PySem PySem.Spec PyProof.Rows L2
variable [XP] [XE]

/-! ### comprehensions as expressions and statements -/
section
variable {X : Cx}
theorem dts_nil : PTs X [] (liftT tYesD) := ⟨fun pins s σ H Q I ⟨n0, H0, fr, av, n, Δ, Xd, Qd, S, xk, h, k⟩ => pts_nil.run pins s σ H Q I (k true H n (SameP.refl n H) S.pen h)⟩
theorem dts_one {c : Expr} {t : DTT} (h : DT X c t) : PTs X [c] (liftT t) := pts_one h
theorem d_lc {elt tg iter : Expr} {ifs : List Expr} {scope : Scope} {i : Nat} {x : Str} {pos : Pos} {ti : DTI} {tt : DTT} {te : DTE} (ms : Md) (hc : X.calm = true) (hN : X.N.Nodup) (hi : DI X tg iter ti) (ok : BlkOk X.N X.env.scope scope [(x, i)])
    (hg : ∀ (s : Shared) (H : Hp) (C : Addr) (cl : List (Str × Addr)) (fp : List Addr), PG (X.blk s H scope (compEnvC scope cl C X.env) fp) tg (gName i)) (ht : ∀ (s : Shared) (H : Hp) (C : Addr) (cl : List (Str × Addr)) (fp : List Addr), PTs (X.blk s H scope (compEnvC scope cl C X.env) fp) ifs (@liftT _ noXE tt))
    (he : ∀ (s : Shared) (H : Hp) (C : Addr) (cl : List (Str × Addr)) (fp : List Addr), PE (X.blk s H scope (compEnvC scope cl C X.env) fp) elt (@lift _ noXE te)) (hs : ∀ x, foldedSetIterable iter X.env x = pure x := by intro _; rfl) :
    DE X (.ListComp elt [⟨tg, iter, ifs, 0⟩] scope pos) (tLcD ms ti i tt te) :=
  wkE (pe_lc (own := [(x, i)]) hc hN hi ok hg ht he hs) fun σ H Q h => lift_lc h
/-- y = [..] on one line -/
theorem ps_lcW {elt tg iter : Expr} {ifs : List Expr} {scope : Scope} {i j : Nat} {x y : Str} {pos py spos : Pos} {ti : DTI} {tt : DTT} {te : DTE} (hc : X.calm = true) (hN : X.N.Nodup) (hy : X.N[j]? = some y) (hyl : X.env.scope.names.lookup y = some .local)
    (hsw : swapsWith (.ListComp elt [⟨tg, iter, ifs, 0⟩] scope pos) (some (.Name y py)) spos.line X.env = pure true) (hi : DI X tg iter ti) (ok : BlkOk X.N X.env.scope scope [(x, i)])
    (hg : ∀ (s : Shared) (H : Hp) (C : Addr) (cl : List (Str × Addr)) (fp : List Addr), PG (X.blk s H scope (compEnvC scope cl C X.env) fp) tg (gName i)) (ht : ∀ (s : Shared) (H : Hp) (C : Addr) (cl : List (Str × Addr)) (fp : List Addr), PTs (X.blk s H scope (compEnvC scope cl C X.env) fp) ifs (@liftT _ noXE tt))
    (he : ∀ (s : Shared) (H : Hp) (C : Addr) (cl : List (Str × Addr)) (fp : List Addr), PE (X.blk s H scope (compEnvC scope cl C X.env) fp) elt (@lift _ noXE te)) (hs : ∀ x, foldedSetIterable iter X.env x = pure x := by intro _; rfl) :
    PS X (.Assign [.Name y py] (.ListComp elt [⟨tg, iter, ifs, 0⟩] scope pos) spos) (tAsg (tLc (liftI ti) (gName i) (@liftT _ noXE tt) (@lift _ noXE te) [i]) (gName j)) :=
  ps_setLc (own := [(x, i)]) hc hN hy hyl hsw hi ok hg ht he hs
theorem ds_lcF {st : Stmt} {i j : Nat} {ti : DTI} {tt : DTT} {te : DTE} (ms : Md) (h : PS X st (tAsg (tLc (liftI ti) (gName i) (@liftT _ noXE tt) (@lift _ noXE te) [i]) (gName j))) : DS X st (tSetD j (tLcD ms ti i tt te)) :=
  wkS h (asg_F fun _ _ _ h => lift_lc h)
theorem ds_lcO {st : Stmt} {i j : Nat} {ti : DTI} {tt : DTT} {te : DTE} (ms : Md) (h : PS X st (tAsg (tLc (liftI ti) (gName i) (@liftT _ noXE tt) (@lift _ noXE te) [i]) (gName j))) : DS X st (tOwnD j (tLcD ms ti i tt te)) :=
  wkS h (asg_O fun _ _ _ h => lift_lc h)
end
omit [XP] [XE]
/-- a comprehension without a test whose element is a function of its item -/
theorem lcW_map {i : Nat} {tt : DTT} {te : DTE} {m : Md} {Δ : DEnv} {Q : D → Sto → Prop} (f : D → D) (htt : tt = tYesD) : ∀ (ds acc : List D) (n : Sto), acc.length + ds.length ≤ sizeLine →
    (∀ d ∈ ds, ∀ n' Q', Q' (f d) n' → te m (Δ.set i (some (.frz d))) n' noX Q') → Q (.lst (acc ++ ds.map f)) n → lcW i tt te m Δ Q ds acc n
  | [], acc, n, _, _, q => by rw [List.map_nil, List.append_nil] at q; exact q
  | d :: ds, acc, n, hz, h, q => by
    subst htt
    rw [List.length_cons] at hz
    refine h d (List.mem_cons_self ..) n _ ⟨by omega, lcW_map f rfl ds (acc ++ [f d]) n ?_ (fun d' hd' => h d' (List.mem_cons_of_mem _ hd')) ?_⟩
    · rw [List.length_append, List.length_singleton]; omega
    · rw [List.append_assoc]; exact q
/-- .. with a test -/
theorem lcW_filter {i : Nat} {tt : DTT} {te : DTE} {m : Md} {Δ : DEnv} {Q : D → Sto → Prop} (p : D → Bool) (f : D → D) : ∀ (ds acc : List D) (n : Sto), acc.length + ds.length ≤ sizeLine →
    (∀ d ∈ ds, ∀ n' Q', Q' (p d) n' → tt (Δ.set i (some (.frz d))) n' noX Q') → (∀ d ∈ ds, p d = true → ∀ n' Q', Q' (f d) n' → te m (Δ.set i (some (.frz d))) n' noX Q') → Q (.lst (acc ++ (ds.filter p).map f)) n → lcW i tt te m Δ Q ds acc n
  | [], acc, n, _, _, _, q => by rw [List.filter_nil, List.map_nil, List.append_nil] at q; exact q
  | d :: ds, acc, n, hz, h1, h2, q => by
    rw [List.length_cons] at hz
    refine h1 d (List.mem_cons_self ..) n _ ?_
    cases hp : p d with
    | true =>
      rw [if_pos rfl]
      refine h2 d (List.mem_cons_self ..) hp n _ ⟨by omega, lcW_filter p f ds (acc ++ [f d]) n ?_ (fun d' hd' => h1 d' (List.mem_cons_of_mem _ hd')) (fun d' hd' => h2 d' (List.mem_cons_of_mem _ hd')) ?_⟩
      · rw [List.length_append, List.length_singleton]; omega
      · rw [List.filter_cons_of_pos hp, List.map_cons] at q
        rw [List.append_assoc]; exact q
    | false =>
      rw [if_neg Bool.false_ne_true]
      refine lcW_filter p f ds acc n (by omega) (fun d' hd' => h1 d' (List.mem_cons_of_mem _ hd')) (fun d' hd' => h2 d' (List.mem_cons_of_mem _ hd')) ?_
      rw [List.filter_cons_of_neg (by rw [hp]; exact Bool.false_ne_true)] at q
      exact q
/-- .. whose elements are drawn: R tells of them -/
theorem lcW_any {i : Nat} {tt : DTT} {te : DTE} {m : Md} {Δ : DEnv} {Q : D → Sto → Prop} (htt : tt = tYesD) (R : List D → Sto → Prop) : ∀ (ds acc : List D) (n : Sto), acc.length + ds.length ≤ sizeLine → R acc n →
    (∀ d ∈ ds, ∀ acc n' Q', acc.length < sizeLine → R acc n' → (∀ y n'', R (acc ++ [y]) n'' → Q' y n'') → te m (Δ.set i (some (.frz d))) n' noX Q') → (∀ acc' n', acc'.length = acc.length + ds.length → R acc' n' → Q (.lst acc') n') → lcW i tt te m Δ Q ds acc n
  | [], acc, n, _, r, _, q => q acc n (by simp) r
  | d :: ds, acc, n, hz, r, h, q => by
    subst htt
    rw [List.length_cons] at hz
    refine h d (List.mem_cons_self ..) acc n _ (by omega) r fun y n'' r' => ⟨by omega, lcW_any rfl R ds (acc ++ [y]) n'' ?_ r' (fun d' hd' => h d' (List.mem_cons_of_mem _ hd')) fun acc' n' hl => ?_⟩
    · rw [List.length_append, List.length_singleton]; omega
    · refine q acc' n' ?_
      rw [hl, List.length_append, List.length_singleton, List.length_cons]; omega

variable [XP] [XE]
/-! ### built-ins -/
def drLen : DRn := fun ds Q => match ds with | [.str z] => z.length ≤ sizeLine ∧ Q (.int z.length) | [.lst l] => Q (.int l.length) | [.tup l] => Q (.int l.length) | [.byt z] => z.size ≤ sizeLine ∧ Q (.int z.size) | _ => False
theorem sn_len {K : PySem.W.Frag} : SndN (fun xs H Q => ∃ x n, xs = [x] ∧ LenV K x H n ∧ Q (.int n) H) drLen := fun P A B H xs ds Q Qd p0 nA r h k => by
  match ds, r, h with
  | [.str z], .cons r .nil, h => cases r; exact ⟨_, _, rfl, ⟨h.1, rfl⟩, k _ H _ (Same.refl H) (.int _) h.2⟩
  | [.byt z], .cons r .nil, h => cases r; exact ⟨_, _, rfl, ⟨h.1, rfl⟩, k _ H _ (Same.refl H) (.int _) h.2⟩
  | [.lst l], .cons r .nil, h =>
    cases r with
    | lst a1 a2 a3 r => exact ⟨_, _, rfl, .inl ⟨_, SqL.of a1, rfl⟩, k _ H _ (Same.refl H) (by rw [r.length]; exact .int _) h⟩
  | [.tup l], .cons r .nil, h =>
    cases r with
    | tup a1 a2 r => exact ⟨_, _, rfl, .inr ⟨_, TupO.sq a1, rfl⟩, k _ H _ (Same.refl H) (by rw [r.length]; exact .int _) h⟩
def drStrI : DRn := fun ds Q => match ds with | [.int i] => i.natAbs.log2 < 1920 ∧ Q (.str (toString i)) | _ => False
theorem sn_strI : SndN (fun xs H Q => ∃ i, xs = [.int i] ∧ i.natAbs.log2 < 1920 ∧ Q (.str (toString i)) H) drStrI := fun P A B H xs ds Q Qd p0 nA r h k => by
  match ds, r, h with
  | [.int z], .cons r .nil, h => cases r; exact ⟨_, rfl, h.1, k _ H _ (Same.refl H) (.str _) h.2⟩
def drInt : DRn := fun ds Q => match ds with | [.int i] => Q (.int i) | [.bl b] => Q (.int (if b then 1 else 0)) | _ => False
theorem sn_int : SndN (fun xs H Q => (∃ i, xs = [.int i] ∧ Q (.int i) H) ∨ ∃ k, xs = [.bl k] ∧ Q (.int (if k then 1 else 0)) H) drInt := fun P A B H xs ds Q Qd p0 nA r h k => by
  match ds, r, h with
  | [.int z], .cons r .nil, h => cases r; exact .inl ⟨_, rfl, k _ H _ (Same.refl H) (.int _) h⟩
  | [.bl z], .cons r .nil, h => cases r; exact .inr ⟨_, rfl, k _ H _ (Same.refl H) (.int _) h⟩
def drAbs : DRn := fun ds Q => match ds with | [.int i] => Q (.int (if i < 0 then -i else i)) | _ => False
theorem sn_abs : SndN (fun xs H Q => ∃ i, xs = [.int i] ∧ Q (.int (if i < 0 then -i else i)) H) drAbs := fun P A B H xs ds Q Qd p0 nA r h k => by
  match ds, r, h with
  | [.int z], .cons r .nil, h => cases r; exact ⟨_, rfl, k _ H _ (Same.refl H) (.int _) h⟩
def drSum : DRn := fun ds Q => ∃ ns : List Int, ds = [.lst (ns.map D.int)] ∧ Q (.int ns.sum)
theorem sn_sum {K : PySem.W.Frag} : SndN (rSum K) drSum := fun P A B H xs ds Q Qd p0 nA r h k => by
  obtain ⟨ns, rfl, h⟩ := h
  match r with
  | .cons (.lst a1 a2 a3 r) .nil => exact ⟨_, ns, rfl, by rw [← r.ints]; exact SqL.of a1, k _ H _ (Same.refl H) (.int _) h⟩
def drAll : DRn := fun ds Q => ∃ bs : List Bool, ds = [.lst (bs.map D.bl)] ∧ Q (.bl (bs.all id))
def drAny : DRn := fun ds Q => ∃ bs : List Bool, ds = [.lst (bs.map D.bl)] ∧ Q (.bl (bs.any id))
theorem sn_all {K : PySem.W.Frag} : SndN (rAll K) drAll := fun P A B H xs ds Q Qd p0 nA r h k => by
  obtain ⟨ns, rfl, h⟩ := h
  match r with
  | .cons (.lst a1 a2 a3 r) .nil => exact ⟨_, ns, rfl, by rw [← r.bls]; exact SqL.of a1, k _ H _ (Same.refl H) (.bl _) h⟩
theorem sn_any {K : PySem.W.Frag} : SndN (rAny K) drAny := fun P A B H xs ds Q Qd p0 nA r h k => by
  obtain ⟨ns, rfl, h⟩ := h
  match r with
  | .cons (.lst a1 a2 a3 r) .nil => exact ⟨_, ns, rfl, by rw [← r.bls]; exact SqL.of a1, k _ H _ (Same.refl H) (.bl _) h⟩
def drTup : DRn := fun ds Q => match ds with | [.lst l] => flatAll l = true ∧ Q (.tup l) | [.tup l] => flatAll l = true ∧ Q (.tup l) | _ => False
theorem sn_tup {K : PySem.W.Frag} : SndN (rTupF K) drTup := fun P A B H xs ds Q Qd p0 nA r h k => by
  match ds, r, h with
  | [.lst l], .cons (.lst a1 a2 a3 r) .nil, h =>
    exact ⟨_, _, rfl, .inl ⟨SqL.of a1, fun p ob hp hd => k _ _ _ (same_new hp) (.tup (.new hd) (ne_P p0 hp) (rp_upd hp (fun _ _ _ z => z) (RpAll.flat _ _ h.1 r))) h.2⟩⟩
  | [.tup l], .cons (.tup a1 a2 r) .nil, h => exact ⟨_, _, rfl, .inr ⟨TupO.sq a1, k _ H _ (Same.refl H) (.tup a1 a2 (RpAll.flat _ _ h.1 r)) h.2⟩⟩
def drList : DRn := fun ds Q => match ds with | [.lst l] => flatAll l = true ∧ Q (.lst l) | [.tup l] => flatAll l = true ∧ Q (.lst l) | _ => False
theorem sn_list {K : PySem.W.Frag} : SndN (fun xs H Q => ∃ p ys, xs = [.ref p] ∧ (SqL K H p ys ∨ SqT K H p ys) ∧ ∀ l, H l = none → Q (.ref l) (upd H l (.lst ys))) drList := fun P A B H xs ds Q Qd p0 nA r h k => by
  match ds, r, h with
  | [.lst l], .cons (.lst a1 a2 a3 r) .nil, h =>
    exact ⟨_, _, rfl, .inl (SqL.of a1), fun p hp => k _ _ _ (same_new hp) (.lst upd_same (ne_P p0 hp) (nA p hp) (rp_upd hp (fun _ _ _ z => z) (RpAll.flat _ _ h.1 r))) h.2⟩
  | [.tup l], .cons (.tup a1 a2 r) .nil, h =>
    exact ⟨_, _, rfl, .inr (TupO.sq a1), fun p hp => k _ _ _ (same_new hp) (.lst upd_same (ne_P p0 hp) (nA p hp) (rp_upd hp (fun _ _ _ z => z) (RpAll.flat _ _ h.1 r))) h.2⟩
def drSorted : DRn := fun ds Q => ∃ ns : List Int, ds = [.lst (ns.map D.int)] ∧ ∀ ns' : List Int, ns'.Perm ns → ns'.Pairwise (· ≤ ·) → Q (.lst (ns'.map D.int))
theorem sn_sorted {K : PySem.W.Frag} : SndN (rSortedI K) drSorted := fun P A B H xs ds Q Qd p0 nA r h k => by
  obtain ⟨ns, rfl, h⟩ := h
  match r with
  | .cons (.lst a1 a2 a3 r) .nil =>
    exact ⟨_, ns, rfl, by rw [← r.ints]; exact SqL.of a1, fun ns' p h1 h2 hp => k _ _ _ (same_new hp) (.lst upd_same (ne_P p0 hp) (nA p hp) (RpAll.of_ints ns')) (h ns' h1 h2)⟩
/-- s.join(xs) -/
def tJoinD (to te : DTE) : DTE := fun _ Δ n X Q => to .bor Δ n X fun x n1 => match x with | .str a => te .bor Δ n1 X fun y n2 => ∃ ys : List Str, y = .lst (ys.map D.str) ∧ (ys.map (·.length)).sum + ys.length * a.length ≤ 16777216 ∧ Q (.str (Txt.join a ys)) n2 | _ => False
section
variable {X : Cx} {e : Expr} {to te : DTE}
theorem d_join (h : PE X e (tM1 (fun x xs H Q => ∃ a p, ∃ ys : List Str, x = .str a ∧ xs = [.ref p] ∧ (SqL X.K H p (ys.map V.str) ∨ SqT X.K H p (ys.map V.str)) ∧ (ys.map (·.length)).sum + ys.length * a.length ≤ 16777216 ∧ Q (.str (Txt.join a ys)) H) (lift to) (lift te))) :
    DE X e (tJoinD to te) := wkE h fun σ H Q ⟨n0, H0, nB, B, fr, av, n, Δ, m, Xd, Qd, S, bb, xk, h, k⟩ => lift_at .bor S bb xk h fun v H1 d n1 s1 S1 r1 q1 => by
  cases d <;> first | exact q1.elim | skip
  cases r1
  refine ⟨⟨_, rfl⟩, lift_at .bor S1 (bb.trans s1) (xk.step s1) q1 fun v2 H2 d2 n2 s2 S2 r2 q2 => ?_⟩
  obtain ⟨ys, rfl, hz, q⟩ := q2
  cases r2 with
  | lst a1 a2 a3 r => exact ⟨_, _, ys, rfl, rfl, .inl (by rw [← r.strs]; exact SqL.of a1), hz, k _ H2 _ n2 (s1.trans s2) S2.pen (.str _) q⟩
/-- x or y, by truth: texts -/
def tOrSD (ta tb : DTE) : DTE := fun m Δ n X Q => ta .bor Δ n X fun x n1 => match x with | .str z => z.length ≤ sizeLine ∧ if z.length = 0 then tb m Δ n1 X Q else Q (.str z) n1 | _ => False
theorem d_orS {a b : Expr} {rest : List Expr} {pos : Pos} {ta tb : DTE} (ha : DE X a ta) (hb : DE X (.BoolOp .Or (b :: rest) pos) tb) : DE X (.BoolOp .Or (a :: b :: rest) pos) (tOrSD ta tb) :=
  wkE (pe_orT ha hb) fun σ H Q ⟨n0, H0, nB, B, fr, av, n, Δ, m, Xd, Qd, S, bb, xk, h, k⟩ => lift_at .bor S bb xk h fun v H1 d n1 s1 S1 r1 q1 => by
    cases d <;> first | exact q1.elim | skip
    rename_i z
    cases r1
    obtain ⟨hz, q1⟩ := q1
    refine ⟨_, ⟨hz, rfl⟩, ?_⟩
    by_cases h0 : z.length = 0
    · rw [if_pos h0] at q1
      rw [h0]
      exact lift_at m S1 (bb.trans s1) (xk.step s1) q1 fun v H2 d n2 s2 S2 r2 q2 => k v H2 d n2 (s1.trans s2) S2.pen r2 q2
    · rw [if_neg h0] at q1
      rw [if_pos (by simp; omega)]
      exact k _ H1 _ n1 s1 S1.pen (.str _) q1
end
end Dl

set_option Elab.async false
set_option linter.all false
set_option maxRecDepth 100000
set_option maxHeartbeats 1000000
namespace Dl
open PySem PySem.Spec PyProof.Rows L2
variable [XP] [XE]

/-! ### repr, isinstance -/
/- how long a text of it is at most -/
mutual
def szD : D → Nat
  | .non => 4
  | .bl _ => 5
  | .int i => ((toString i : String) : Str).length
  | .str x => (reprText x).length
  | .tup ds => 4 + szDs ds
  | .lst ds => 4 + szDs ds
  | _ => 0
def szDs : List D → Nat
  | [] => 0
  | d :: ds => 2 + szD d + szDs ds
end
/-- ints that are shown, no dict, not deep -/
def rpOk (d : D) : Prop := pyb d = true ∧ (toPy d).showable = true ∧ (toPy d).hasDict = false ∧ (toPy d).depth ≤ 60 ∧ (toPy d).shown.length ≤ sizeLine
def rRepr (K : PySem.W.Frag) : List V → Hp → VK → Prop := fun xs H Q => ∃ x d, xs = [x] ∧ Dp K H x d ∧ d.showable = true ∧ d.hasDict = false ∧ d.depth ≤ 60 ∧ d.shown.length ≤ sizeLine ∧ Q (.str d.shown) H
theorem call_repr {X : Cx} (hu : X.A.units + 64 < cLine) (hg : X.A.guards = some []) : CallR X (.builtin "repr") (rRepr X.K) := by
  intro pins s σ H xs us Q I r h
  obtain ⟨x, d, rfl, dp, h1, h2, h3, h4, q⟩ := h
  cases r with
  | cons r rr =>
    cases rr
    rename_i u
    obtain ⟨as, rd⟩ := Dp.reads I d x u dp r
    have fin : ∀ (h' : Heap) (t : Tok) (tk : Nat), (∀ b o, s.heap.get? b = some o → h'.get? b = some o) → EP X pins σ Q (.str d.shown t) { s with heap := h', toks := tk } := fun h' t tk k => ⟨.str d.shown, H, I.kept k, ⟨t, rfl⟩, q⟩
    cases dp with
    | non => cases r; simp only [PyData.shown] at fin; exact P.repr_of_none (fin s.heap _ _ fun _ _ e => e)
    | bl b => cases r; simp only [PyData.shown] at fin; exact P.repr_of_bool (fin s.heap _ _ fun _ _ e => e)
    | int i =>
      obtain ⟨t, rfl⟩ := r
      simp only [PyData.shown] at fin
      exact P.repr_of_int (by simpa [PyData.showable] using h1) (fin s.heap _ _ fun _ _ e => e)
    | str z =>
      obtain ⟨t, rfl⟩ := r
      simp only [PyData.shown] at fin h4
      exact P.repr_of_str (fin s.heap _ _ fun _ _ e => e) h4
    | lst a b =>
      cases r
      exact repr_of_reads' rd h1 (fun e => by rw [h2] at e; cases e) hg (by omega) (fun _ _ e => e) (fun h' t tk k => fin h' t tk k) h4
    | tup a b =>
      cases r
      exact repr_of_reads' rd h1 (fun e => by rw [h2] at e; cases e) hg (by omega) (fun _ _ e => e) (fun h' t tk k => fin h' t tk k) h4
@[irreducible] def shownD (d : D) : Str := (toPy d).shown
def drRepr : DRn := fun ds Q => match ds with | [d] => rpOk d ∧ Q (.str (shownD d)) | _ => False
theorem sn_repr {K : PySem.W.Frag} : SndN (rRepr K) drRepr := fun P A B H xs ds Q Qd p0 nA r h k => by
  match ds, r, h with
  | [d], .cons r .nil, ⟨⟨h1, h2, h3, h4, h5⟩, h⟩ => exact ⟨_, _, rfl, Rp.dp d _ h1 r, h2, h3, h4, h5, k _ H _ (Same.refl H) (.str _) (by unfold shownD at h; exact h)⟩
def tyO : HO → Option String
  | .dK _ => some "dict"
  | _ => none
def tyD : D → Option String
  | .obj o => tyO o
  | .non => some "NoneType"
  | .bl _ => some "bool"
  | .int _ => some "int"
  | .str _ => some "str"
  | .byt _ => some "bytes"
  | .tup _ => some "tuple"
  | .lst _ => some "list"
  | _ => none
def drIsi : DRn := fun ds Q => match ds with | [d, .opq (.ty T)] => ∃ t b, tyD d = some t ∧ kitB t T = some b ∧ Q (.bl b) | _ => False
theorem tyD_V {K : PySem.W.Frag} {n : Sto} {B : Addr → Prop} {H : Hp} {x : V} {d : D} {t : String} (r : Rp n B H x d) (h : tyD d = some t) : TyX K H x (.type t) := by
  cases r
  case obj a o h1 h2 h3 h4 =>
    cases o <;> simp only [tyD, tyO, Option.some.injEq, reduceCtorEq] at h
    subst h
    exact .base (.dK h1)
  all_goals simp only [tyD, Option.some.injEq, reduceCtorEq] at h
  all_goals subst h
  · exact .base .non
  · exact .base (.bl _)
  · exact .base (.int _)
  · exact .base (.str _)
  · exact .byt _
  · rename_i a vs ds h1 h2 h3; obtain ⟨ob, h1, _⟩ := h1; exact .fTuple h1
  · rename_i a vs ds h1 h2 h3 h4; exact .base (.lst h1)
theorem sn_isi {K : PySem.W.Frag} : SndN (rIsi K) drIsi := fun P A B H xs ds Q Qd p0 nA r h k => by
  match ds, r, h with
  | [d, .opq (.ty T)], .cons r (.cons r2 .nil), ⟨t, b, h1, h2, h⟩ =>
    cases r2
    exact ⟨_, _, _, _, b, rfl, .ty T, tyD_V r h1, kit_ty h2, k _ H _ (Same.refl H) (.bl _) h⟩
theorem d_bltn {X : Cx} {x : Str} {T : String} {pos : Pos} (hg : Gl X x) (hm : X.mg x = none) (hv : bootBuiltins x = some (.type T)) (hn : x ≠ "__name__" := by decide) (hd : (x == ("__debug__" : Str)) = false := by decide) : DE X (.Name x pos) (tCD (.opq (.ty T))) :=
  wkE (pe_bltn (v := .ty T) hg hm hv rfl hn hd) fun _ _ _ h => lift_c rfl (fun _ _ _ => .opq _) h

end Dl

set_option Elab.async false
set_option linter.all false
set_option maxRecDepth 100000
set_option maxHeartbeats 1000000
namespace Dl
open PySem PySem.Spec PyProof.Rows L2
variable [XP] [XE]

/-! ### + and * whatever the kinds; a def as its callers know it -/
def drAdd : DR2 := fun x y Q => match x, y with
  | .int i, .int j => Q (.int (i + j))
  | .str i, .str j => i.length + j.length ≤ sizeLine ∧ Q (.str (i ++ j))
  | .lst i, .lst j => i.length + j.length ≤ sizeLine ∧ flatAll i = true ∧ flatAll j = true ∧ Q (.lst (i ++ j))
  | .tup i, .tup j => i.length + j.length ≤ sizeLine ∧ flatAll i = true ∧ flatAll j = true ∧ Q (.tup (i ++ j))
  | _, _ => False
abbrev rAddU (K : PySem.W.Frag) : R2 := fun x y H Q => (rI0 (fun i j => .int (i + j))) x y H Q ∨ (fun x y H Q => (fun x y H Q => ∃ i j, x = .str i ∧ y = .str j ∧ i.length + j.length ≤ sizeLine ∧ Q (.str (i ++ j)) H) x y H Q ∨ (fun x y H Q => rCat x y H Q ∨ rCatF K x y H Q) x y H Q) x y H Q
theorem op_addU {X : Cx} : OpR X (binaryOp .Add) (rAddU X.K) := op_add.or (op_add_str.or (op_cat.or op_catF))
theorem sn_add {K : PySem.W.Frag} : Snd2 (rAddU K) drAdd := fun P A B H x y d e Q Qd p0 nA rx ry h k => by
  cases d <;> cases e <;> first | exact h.elim | skip
  · exact .inl (sn_I0 (g := fun i j => i + j) P A B H x y _ _ Q Qd p0 nA rx ry h k)
  · exact .inr (.inl (sn_addS P A B H x y _ _ Q Qd p0 nA rx ry h k))
  · exact .inr (.inr (.inr (sn_catT P A B H x y _ _ Q Qd p0 nA rx ry h k)))
  · exact .inr (.inr (.inl (sn_catL P A B H x y _ _ Q Qd p0 nA rx ry h k)))
def drMul : DR2 := fun x y Q => match x, y with
  | .int i, .int j => CMul i j ∧ Q (.int (i * j))
  | .lst i, .int j => -(2 ^ 63) ≤ j ∧ j < 2 ^ 63 ∧ i.length * j.toNat ≤ sizeLine ∧ flatAll i = true ∧ Q (.lst (List.replicate j.toNat i).flatten)
  | _, _ => False
theorem op_mulU {X : Cx} : OpR X (binaryOp .Mult) (fun x y H Q => (rI CMul (fun i j => .int (i * j))) x y H Q ∨ rRep x y H Q) := op_mul.or op_rep
theorem sn_mul : Snd2 (fun x y H Q => (rI CMul (fun i j => .int (i * j))) x y H Q ∨ rRep x y H Q) drMul := fun P A B H x y d e Q Qd p0 nA rx ry h k => by
  cases d <;> cases e <;> first | exact h.elim | skip
  · exact .inl (sn_I (g := fun i j => i * j) P A B H x y _ _ Q Qd p0 nA rx ry h k)
  · exact .inr (sn_rep P A B H x y _ _ Q Qd p0 nA rx ry h k)
abbrev drSub := drI0 (fun i j => i - j)
abbrev drMod := drI (fun _ j => 0 < j) (fun i j => i % j)
abbrev drDiv := drI CDiv (fun i j => i / j)
abbrev drPow := drI CPow (fun i j => i ^ j.toNat)
abbrev drLt := drB0 (fun i j => decide (i < j))
abbrev drLe := drB0 (fun i j => decide (i ≤ j))
abbrev drGt := drB0 (fun i j => decide (j < i))
abbrev drGe := drB0 (fun i j => decide (j ≤ i))
theorem sn_sub : Snd2 (rI0 fun i j => .int (i - j)) drSub := sn_I0
theorem sn_mod : Snd2 (rI (fun _ j => 0 < j) fun i j => .int (i % j)) drMod := sn_I
theorem sn_div : Snd2 (rI CDiv fun i j => .int (i / j)) drDiv := sn_I
theorem sn_pow : Snd2 (rI CPow fun i j => .int (i ^ j.toNat)) drPow := sn_I
theorem sn_lt : Snd2 (rI0 fun i j => .bl (decide (i < j))) drLt := sn_B0
theorem sn_le : Snd2 (rI0 fun i j => .bl (decide (i ≤ j))) drLe := sn_B0
theorem sn_gt : Snd2 (rI0 fun i j => .bl (decide (j < i))) drGt := sn_B0
theorem sn_ge : Snd2 (rI0 fun i j => .bl (decide (j ≤ i))) drGe := sn_B0

/-- a def of the module as its callers know it -/
structure Cal (P : Program) (w : World) (K : PySem.W.Frag) (mg : Str → Option Value) (base : Heap) (x : Str) (k : Nat) (ps : List Str) (kws : List (List Str × List Nat)) (sp : Sp) : Prop where
  ex : ∃ (f : Addr) (fd : FuncData), mg x = some (.ref f) ∧ PySem.W.keepIn K (.ref f) = true ∧ Binds K fd ps [] ∧ (∀ q ∈ kws, KwB K fd ps q.1 q.2) ∧ FnG P w K mg base (L2.CX P w) k f fd ps sp
section
variable {X : Cx} {k : Nat} {ps ks : List Str} {kw : List (List Str × List Nat)} {sp : DSp} {x : Str} {p pos : Pos} {e : Expr} {es : List Expr} {kws : List Keyword} {ta tk : DTA} {pr : List Nat}
theorem d_cal (c : Cal X.prog X.w X.K X.mg X.base x k ps kw (liftF sp)) (hr : Room k X.A) (hgd : X.A.guards = some []) (tkx : L2.Takes X XE.W) (ha : DA X (e :: es) ta) (hg : Gl X x := by rfl)
    (hdb : (x == ("__debug__" : Str)) = false := by decide) (he : starEach (e :: es) X.env = (false, eval e X.env) :: starEach es X.env := by rfl) (hpl : (backTo pos (starEach es X.env)).any (·.1) = false := by rfl) :
    DE X (.Call (.Name x p) (e :: es) [] pos) (tCallD sp ta) := by
  obtain ⟨f, fd, h1, h2, h3, h4, F⟩ := c.ex
  exact d_call F hr hgd tkx hg h1 h2 h3 ha hdb he hpl
theorem d_cal0 (c : Cal X.prog X.w X.K X.mg X.base x k ps kw (liftF sp)) (hr : Room k X.A) (hgd : X.A.guards = some []) (tkx : L2.Takes X XE.W) (hg : Gl X x := by rfl) (hdb : (x == ("__debug__" : Str)) = false := by decide) :
    DE X (.Call (.Name x p) [] [] pos) (tCallD sp tNilD) := by
  obtain ⟨f, fd, h1, h2, h3, h4, F⟩ := c.ex
  exact d_call0 F hr hgd tkx hg h1 h2 h3 hdb
theorem d_calK (pr : List Nat) (ks : List Str) (hq : (ks, pr) ∈ kw) (c : Cal X.prog X.w X.K X.mg X.base x k ps kw (liftF sp)) (hr : Room k X.A) (hgd : X.A.guards = some []) (tkx : L2.Takes X XE.W) (ha : DA X (e :: es) ta) (hkw : DKw X kws tk) (hg : Gl X x := by rfl)
    (hall : (backToKw pos (keywordEach kws X.env)).all (·.1.isSome) = true := by rfl) (hks : (backToKw pos (keywordEach kws X.env)).filterMap (·.1) = ks := by rfl)
    (hdb : (x == ("__debug__" : Str)) = false := by decide) (he : starEach (e :: es) X.env = (false, eval e X.env) :: starEach es X.env := by rfl)
    (hpl : ((backTo pos (starEach (e :: es) X.env)).any (·.1) || (backToKw pos (keywordEach kws X.env)).any (·.1.isNone)) = false := by rfl) :
    DE X (.Call (.Name x p) (e :: es) kws pos) (tCallKD sp pr ta tk) := by
  obtain ⟨f, fd, h1, h2, h3, h4, F⟩ := c.ex
  exact d_callK F hr hgd tkx hg h1 h2 (h4 _ hq) ha hkw hall hks hdb he hpl
theorem d_calK0 (pr : List Nat) (ks : List Str) (hq : (ks, pr) ∈ kw) (c : Cal X.prog X.w X.K X.mg X.base x k ps kw (liftF sp)) (hr : Room k X.A) (hgd : X.A.guards = some []) (tkx : L2.Takes X XE.W) (hkw : DKw X kws tk) (hg : Gl X x := by rfl)
    (hall : (backToKw pos (keywordEach kws X.env)).all (·.1.isSome) = true := by rfl) (hks : (backToKw pos (keywordEach kws X.env)).filterMap (·.1) = ks := by rfl)
    (hdb : (x == ("__debug__" : Str)) = false := by decide)
    (hpl : (backToKw pos (keywordEach kws X.env)).any (·.1.isNone) = false := by rfl) :
    DE X (.Call (.Name x p) [] kws pos) (tCallKD sp pr tNilD tk) := by
  obtain ⟨f, fd, h1, h2, h3, h4, F⟩ := c.ex
  exact d_callK0 F hr hgd tkx hg h1 h2 (h4 _ hq) hkw hall hks hdb hpl
end
end Dl

set_option Elab.async false
set_option linter.all false
set_option maxRecDepth 100000
set_option maxHeartbeats 1000000
namespace Dl
open PySem PySem.Spec PyProof.Rows L2
variable [XP] [XE]
def tNeverD : DTS := fun _ _ _ => False
section
variable {X : Cx} {st : Stmt}
theorem ds_never : DS X st tNeverD := wkS ps_never fun E σ H ⟨n0, H0, fr, av, n, Δ, Dd, S, h, k⟩ => h
end
abbrev tWL (te : DTE) : DTI := fun m Δ n X Q => tWLst te m Δ n X fun ds n1 => ds.length ≤ sizeLine ∧ Q ds n1
abbrev tWT (te : DTE) : DTI := fun m Δ n X Q => tWTup te m Δ n X fun ds n1 => ds.length ≤ sizeLine ∧ Q ds n1
omit [XP] [XE]
section
variable {P : Program} {w : World} {K : PySem.W.Frag} {mg : Str → Option Value} {base : Heap}
/-- keywords' values come behind the positional ones -/
theorem kwb_of {x qual : Str} {st : Stmt} {f : Addr} {fd : FuncData} {ps ks : List Str} {pr : List Nat} (np : Nat) (F : L2.Fun K x qual st f fd) (hl : pr.length = ks.length) (hlt : ∀ i ∈ pr, i < ks.length) (hn : np + ks.length = ps.length)
    (h : ∀ (kV doc pm : Value) (an : Option Addr) (cdv ct : Value) (us ws : List Value), us.length = np → ws.length = ks.length →
      bindArgs (PySem.W.fnOf x qual (defArgs st) (defBody st) (defScope st) .none kV doc pm an cdv ct) ⟨us, ks.zip ws⟩ = pure (ps.zip (us ++ pr.filterMap fun i => ws[i]?))) : KwB K fd ps ks pr := by
  obtain ⟨oc, od, kV, doc, pm, an, cdv, ct, osl, rfl, lk, hcd⟩ := F.ex
  exact ⟨fun s us ws _ h1 h2 => .of_eq (h kV doc pm an cdv ct us ws (by omega) h2), hl, hlt⟩
end
end Dl

set_option Elab.async false
set_option linter.all false
set_option maxRecDepth 100000
set_option maxHeartbeats 1000000
/-! Roots: made, read, written; what is shared is looked at. -/
namespace Dl
open PySem PySem.Spec PyProof.Rows L2
variable [XP]
section
variable {n : Sto} {H : Hp} {p : Addr} {ro ro' : RO} {o o' : HO} {A : Addr → Prop}
theorem ne_root {a : Addr} (e : n p = some ro) (r : n a = none) : a ≠ p := fun z => by rw [z, e] at r; cases r
theorem put_stay (e : n p = some ro) : Stay n A H (updS n p ro') A (upd H p o') :=
  ⟨fun a vs h r => ⟨h.upd (ne_root e r), by rw [updS_ne (ne_root e r)]; exact r⟩, fun a u h r q _ => ⟨by rw [upd_ne (ne_root e r)]; exact h, by rw [updS_ne (ne_root e r)]; exact r, q⟩,
    fun a c d h r => ⟨by rw [upd_ne (ne_root e r)]; exact h, by rw [updS_ne (ne_root e r)]; exact r⟩, fun a fs h r => ⟨by rw [upd_ne (ne_root e r)]; exact h, by rw [updS_ne (ne_root e r)]; exact r⟩⟩
theorem put_same (e : n p = some ro) : SameP n H (updS n p ro') (upd H p o') :=
  ⟨fun a u h r _ => ⟨by rw [upd_ne (ne_root e r)]; exact h, by rw [updS_ne (ne_root e r)]; exact r⟩, fun a r => by
    by_cases z : a = p
    · rw [z, updS_same] at r; cases r
    · rw [updS_ne z] at r; exact r⟩
theorem SOk.put (k : SOk n H) (e : n p = some ro) (r : RoR (updS n p ro') (upd H p o') p ro') : SOk (updS n p ro') (upd H p o') := by
  obtain ⟨u, h1, h2, _, _, _, h3⟩ := (k.ro p ro e).at
  refine ⟨tabs_wrO h1 h2 (fun c q => h3 _) k.tab, fun a ra ea => ?_⟩
  by_cases z : a = p
  · subst z
    rw [updS_same] at ea
    cases ea
    exact r
  · rw [updS_ne z] at ea
    exact (k.ro a ra ea).stay (put_stay e) (fun u hu => by rw [upd_ne z]; exact hu) fun dx hd hr => ⟨by rw [upd_ne (ne_root e hr)]; exact hd, by rw [updS_ne (ne_root e hr)]; exact hr⟩
theorem SOk.putL {us : List V} {es : List D} (k : SOk n H) (e : n p = some ro) (r : RpAll n NoA H us es) : SOk (updS n p (.lst es)) (upd H p (.lst us)) :=
  k.put e ⟨us, upd_same, RpAll.stay (put_stay e) _ _ r⟩
/-- a tracked thing becomes a root -/
theorem add_stay (hp : H p = some o) (h1 : ∀ ob w, o ≠ .frz ob w) (h2 : ∀ fs, o ≠ .xd fs) (h3 : ∀ φ, o ≠ .ext φ) (hA : ∀ a, A a → a ≠ p) : Stay n A H (updS n p ro) A H :=
  ⟨fun a vs h r => ⟨h, by rw [updS_ne (h.ne hp h1)]; exact r⟩, fun a u h r q _ => ⟨h, by rw [updS_ne (hA a q)]; exact r, q⟩,
    fun a c d h r => ⟨h, by rw [updS_ne (ne_of h hp (fun z => h3 _ z.symm))]; exact r⟩, fun a fs h r => ⟨h, by rw [updS_ne (ne_of h hp (fun z => h2 fs z.symm))]; exact r⟩⟩
theorem SOk.add (k : SOk n H) (hn : n p = none) (hp : H p = some o) (h1 : ∀ ob w, o ≠ .frz ob w) (h2 : ∀ fs, o ≠ .xd fs) (h3 : ∀ φ, o ≠ .ext φ) (h4 : ∀ x, o ≠ .own x) (r : RoR (updS n p ro) H p ro) : SOk (updS n p ro) H := by
  refine ⟨k.tab, fun a ra ea => ?_⟩
  by_cases z : a = p
  · subst z
    rw [updS_same] at ea
    cases ea
    exact r
  · rw [updS_ne z] at ea
    exact (k.ro a ra ea).stay (add_stay hp h1 h2 h3 fun _ z => z.elim) (fun u hu => hu) fun dx hd hr => ⟨hd, by rw [updS_ne (ne_of hd hp (fun z => h4 a z.symm))]; exact hr⟩
theorem SOk.addL {us : List V} {es : List D} (k : SOk n H) (hn : n p = none) (hp : H p = some (.lst us)) (r : RpAll n NoA H us es) : SOk (updS n p (.lst es)) H :=
  k.add hn hp (fun _ _ z => nomatch z) nofun nofun nofun ⟨us, hp, RpAll.stay (add_stay hp (fun _ _ z => nomatch z) nofun nofun fun _ z => z.elim) _ _ r⟩
theorem add_same {n0 : Sto} {H0 : Hp} (s : SameP n0 H0 n H) (h : NewS H0 p) : SameP n0 H0 (updS n p ro) H :=
  ⟨fun a u e r nt => by
    obtain ⟨k1, k2⟩ := s.keep a u e r nt
    exact ⟨k1, by rw [updS_ne (fun z => by subst z; obtain ⟨ps, q⟩ := h u e; exact nt ps q)]; exact k2⟩, fun a r => by
    by_cases z : a = p
    · rw [z, updS_same] at r; cases r
    · rw [updS_ne z] at r; exact s.root a r⟩
theorem SOk.lst {ds : List D} (k : SOk n H) (e : n p = some (.lst ds)) : ∃ vs, H p = some (.lst vs) ∧ RpAll n NoA H vs ds := k.ro p _ e
theorem RpAll.ofNo {vs : List V} {ds : List D} (r : RpAll n NoA H vs ds) : RpAll n A H vs ds := r.imp fun _ _ _ z => z.elim
theorem Rp.ofNo {v : V} {d : D} (r : Rp n NoA H v d) : Rp n A H v d := r.imp fun _ _ _ z => z.elim
end
variable [XE]
/-- a new list becomes a root -/
def tRootD (te : DTE) : DTE := fun _ Δ n X Q => te .new Δ n X fun d n1 => match d with | .lst ds => flatAll ds = true ∧ ∀ p, n1 p = none → Q (.loc p) (updS n1 p (.lst ds)) | _ => False
theorem d_root {X : Cx} {e : Expr} {te : DTE} (he : DE X e te) : DE X e (tRootD te) :=
  wkE he fun σ H Q ⟨n0, H0, nB, B, fr, av, n, Δ, m, Xd, Qd, S, b, xk, h, k⟩ => lift_at (B := H) .new S (SameP.refl n H) xk h fun v H1 d n1 s1 S1 r1 q1 => by
    cases d <;> first | exact q1.elim | skip
    cases r1 with
    | lst a1 a2 a3 r => exact k _ H1 _ _ (add_same s1 a3.2) (S1.pen.addL a2 a1 (RpAll.flat _ _ q1.1 r)) (.loc _) (q1.2 _ a2)
section
variable {X : Cx} {a b c e o : Expr} {ta tb tc te to : DTE} {pos : Pos}
/-- x[i], x a root that is a list -/
def tIxRD (ta tb : DTE) : DTE := fun _ Δ n X Q => ta .bor Δ n X fun x n1 => tb .bor Δ n1 X fun y n2 => match x, y with | .loc p, .int i => ∃ ds d, n2 p = some (.lst ds) ∧ atI ds i = some d ∧ Q d n2 | _, _ => False
theorem d_ixR (ha : DE X a ta) (hb : DE X b tb) (hs : PlainIx b) : DE X (.Subscript a b pos) (tIxRD ta tb) :=
  wkE (pe_ix ix_list ha hb hs) fun σ H Q ⟨n0, H0, nB, B, fr, av, n, Δ, m, Xd, Qd, S, bb, xk, h, k⟩ => lift_at .bor S bb xk h fun x H1 d n1 s1 S1 r1 q1 =>
    lift_at .bor S1 (bb.trans s1) (xk.step s1) q1 fun y H2 e n2 s2 S2 r2 q2 => by
      cases d <;> cases e <;> first | exact q2.elim | skip
      cases r1
      cases r2
      obtain ⟨ds, d, e1, e2, q⟩ := q2
      obtain ⟨vs, h1, r⟩ := S2.pen.lst e1
      obtain ⟨v, e3, rv⟩ := r.atI e2
      exact ⟨_, _, _, v, rfl, rfl, SqL.of h1, e3, k _ H2 _ n2 (s1.trans s2) S2.pen rv.ofNo q⟩
/-- the walked or looked-at list behind a root -/
def vw (n : Sto) : D → D
  | .loc p => match n p with | some (.lst ds) => .lst ds | _ => .loc p
  | d => d
theorem Rp.hide {n : Sto} {A A' : Addr → Prop} {H : Hp} (i : ∀ a o, H a = some o → A a → A' a) {d : D} {v : V} (r : Rp n A H v d) : Rp (fun _ => none) A' H v d :=
  Rp.stay ⟨fun a vs h _ => ⟨h, rfl⟩, fun a o h _ q _ => ⟨h, rfl, i a o h q⟩, fun a c d h _ => ⟨h, rfl⟩, fun a fs h _ => ⟨h, rfl⟩⟩ d v r
theorem Rp.unhide {n : Sto} {A : Addr → Prop} {H : Hp} {d : D} {v : V} (k : SOk n H) (r : Rp (fun _ => none) (fun a => A a ∧ n a = none) H v d) : Rp n A H v d := by
  refine Rp.stay ⟨fun a vs h _ => ⟨h, k.no_tup h⟩, fun a o h _ q _ => ⟨h, q.2, q.1⟩, fun a c d h _ => ⟨h, ?_⟩, fun a fs h _ => ⟨h, ?_⟩⟩ d v r
  · cases e : n a with
    | none => rfl
    | some ro =>
      obtain ⟨u, h1, _, _, _, _, h2⟩ := (k.ro a ro e).at
      rw [h] at h1
      cases h1
      exact absurd rfl (h2 _)
  · cases e : n a with
    | none => rfl
    | some ro =>
      obtain ⟨u, h1, _, _, _, h2, _⟩ := (k.ro a ro e).at
      rw [h] at h1
      cases h1
      exact absurd rfl (h2 _)
theorem Rp.vw {n : Sto} {A : Addr → Prop} {H : Hp} {d : D} {v : V} (k : SOk n H) (r : Rp n A H v d) : Rp (fun _ => none) (fun _ => True) H v (Dl.vw n d) := by
  have base : Rp (fun _ => none) (fun _ => True) H v d := r.hide fun _ _ _ _ => trivial
  cases d <;> first | exact base | skip
  rename_i p
  unfold Dl.vw
  dsimp only
  split
  · rename_i ds e
    cases r
    obtain ⟨vs, h1, r⟩ := k.lst e
    refine .lst h1 rfl trivial ?_
    exact RpAll.stay ⟨fun a vs h _ => ⟨h, rfl⟩, fun a o h _ q _ => q.elim, fun a c d h _ => ⟨h, rfl⟩, fun a fs h _ => ⟨h, rfl⟩⟩ _ _ r
  · exact base
theorem RpAll.vw {n : Sto} {A : Addr → Prop} {H : Hp} (k : SOk n H) : ∀ {vs : List V} {ds : List D}, RpAll n A H vs ds → RpAll (fun _ => none) (fun _ => True) H vs (ds.map (Dl.vw n))
  | _, _, .nil => .nil
  | _, _, .cons r t => .cons (r.vw k) (RpAll.vw k t)
def tOpV (dr : DR2) (ta tb : DTE) : DTE := fun _ Δ n X Q => ta .bor Δ n X fun x n1 => tb .bor Δ n1 X fun y n2 => dr (vw n2 x) (vw n2 y) fun z => Q z n2
def tCallV (dr : DRn) (ta : DTA) : DTE := fun _ Δ n X Q => ta .bor Δ n X fun xs n1 => dr (xs.map (vw n1)) fun z => Q z n1
theorem lift_opV {r : R2} {dr : DR2} (sn : Snd2 r dr) {σ : L2.St} {H : Hp} {Q : VK} (h : lift (tOpV dr ta tb) σ H Q) : tOp r (lift ta) (lift tb) σ H Q := by
  obtain ⟨n0, H0, nB, B, fr, av, n, Δ, m, Xd, Qd, S, b, xk, h, k⟩ := h
  refine lift_at .bor S b xk h fun x H1 d n1 s1 S1 r1 q1 => ?_
  refine lift_at .bor S1 (b.trans s1) (xk.step s1) q1 fun y H2 e n2 s2 S2 r2 q2 => ?_
  refine sn _ (fun a => Al m B H0 av σ Δ a ∧ n2 a = none) _ H2 x y _ _ Q _ (fun _ _ => rfl) (fun a ha => ⟨Al.new S2 ((b.trans s1).trans s2) m ha, S2.neP ha⟩) ((r1.same s2).vw S2.pen) (r2.vw S2.pen) q2 fun v H3 z s3 rz qz => ?_
  exact k v H3 z n2 ((s1.trans s2).trans (.of s3)) (S2.pen.same s3) (rz.unhide (S2.pen.same s3)) qz
theorem lift_callV {r : List V → Hp → VK → Prop} {dr : DRn} {ta : DTA} (sn : SndN r dr) {σ : L2.St} {H : Hp} {Q : VK} (h : lift (tCallV dr ta) σ H Q) : tCB r (liftA ta) σ H Q := by
  obtain ⟨n0, H0, nB, B, fr, av, n, Δ, m, Xd, Qd, S, b, xk, h, k⟩ := h
  refine liftA_at .bor S b xk h fun x H1 d n1 s1 S1 r1 q1 => ?_
  refine sn _ (fun a => Al m B H0 av σ Δ a ∧ n1 a = none) _ H1 x _ Q _ (fun _ _ => rfl) (fun a ha => ⟨Al.new S1 (b.trans s1) m ha, S1.neP ha⟩) (r1.vw S1.pen) q1 fun v H3 z s3 rz qz => ?_
  exact k v H3 z n1 (s1.trans (.of s3)) (S1.pen.same s3) (rz.unhide (S1.pen.same s3)) qz
theorem d_cmpV {op : CmpOp} {r : R2} {dr : DR2} (ho : OpR X (compareOp op) r) (sn : Snd2 r dr) (ha : DE X a ta) (hb : DE X b tb) (hm : behindInMarks op b = false) : DE X (.Compare a [op] [b] pos) (tOpV dr ta tb) :=
  wkE (pe_cmpR ho ha hb hm) fun _ _ _ h => lift_opV sn h
theorem dt_cmpV {op : CmpOp} {r : R2} {dr : DR2} (ho : OpR X (compareOp op) r) (sn : Snd2 r dr) (ha : DE X a ta) (hb : DE X b tb) (hm : behindInMarks op b = false) : DT X (.Compare a [op] [b] pos) (tTestD (tOpV dr ta tb)) :=
  wkT (pt_cmpR ho ha hb hm) fun _ _ _ h => lift_test (fun _ => lift_opV sn) h
theorem d_callBV {id : String} {x : Str} {p : Pos} {es : List Expr} {r : List V → Hp → VK → Prop} {dr : DRn} {t : DTA} (hc : CallR X (.builtin id) r) (sn : SndN r dr) (hg : Gl X x) (hm : X.mg x = none) (hv : bootBuiltins x = some (.builtin id)) (ha : DA X (e :: es) t)
    (hn : x ≠ "__name__" := by decide) (hdb : (x == ("__debug__" : Str)) = false := by decide)
    (he : starEach (e :: es) X.env = (false, eval e X.env) :: starEach es X.env := by rfl) (hpl : (backTo pos (starEach es X.env)).any (·.1) = false := by rfl) :
    DE X (.Call (.Name x p) (e :: es) [] pos) (tCallV dr t) := wkE (pe_callB hc hg hm hv ha hn hdb he hpl) fun _ _ _ h => lift_callV sn h
theorem d_callTyV {T : String} {x : Str} {p : Pos} {es : List Expr} {r : List V → Hp → VK → Prop} {dr : DRn} {t : DTA} (hc : CallR X (.type T) r) (sn : SndN r dr) (hg : Gl X x) (hm : X.mg x = none) (hv : bootBuiltins x = some (.type T)) (ha : DA X (e :: es) t)
    (hn : x ≠ "__name__" := by decide) (hdb : (x == ("__debug__" : Str)) = false := by decide)
    (he : starEach (e :: es) X.env = (false, eval e X.env) :: starEach es X.env := by rfl) (hpl : (backTo pos (starEach es X.env)).any (·.1) = false := by rfl) :
    DE X (.Call (.Name x p) (e :: es) [] pos) (tCallV dr t) := wkE (pe_callTy hc hg hm hv ha hn hdb he hpl) fun _ _ _ h => lift_callV sn h
/-- x[k] = e, x a root that is a list -/
def tStRD (to tk te : DTE) : DTS := fun Dd Δ n => te .bor Δ n (Dd.xs Δ) fun d n1 => to .bor Δ n1 (Dd.xs Δ) fun x n2 => tk .bor Δ n2 (Dd.xs Δ) fun y n3 => match x, y with
  | .loc p, .int z => flat d = true ∧ ∃ ds j, n3 p = some (.lst ds) ∧ ixN ds.length z = some j ∧ Dd.nx Δ (updS n3 p (.lst (ds.set j d))) | _, _ => False
theorem ds_stR {tg : Expr} {tk : DTE} (hp : PS X (.Assign [tg] e pos) (tAsg (lift te) (gSub (lift to) (lift tk) rSetL))) : DS X (.Assign [tg] e pos) (tStRD to tk te) :=
  wkS hp fun E σ H ⟨n0, H0, fr, av, n, Δ, Dd, S, h, k⟩ => lift_at (B := H) .bor S (SameP.refl n H) (k.xk S) h fun v H1 d n1 s1 S1 r1 q1 =>
    lift_at (B := H1) .bor S1 (SameP.refl n1 H1) (k.xk S1) q1 fun v2 H2 d2 n2 s2 S2 r2 q2 => lift_at (B := H2) .bor S2 (SameP.refl n2 H2) (k.xk S2) q2 fun v3 H3 d3 n3 s3 S3 r3 q3 => by
      cases d2 <;> cases d3 <;> first | exact q3.elim | skip
      cases r2
      cases r3
      obtain ⟨fd, ds, j, e1, e2, q⟩ := q3
      obtain ⟨vs, h1, r⟩ := S3.pen.lst e1
      exact ⟨_, vs, _, j, rfl, rfl, h1, by rw [r.length]; exact e2, k.nx _ _ _ _ (S3.mono (put_same e1) (S3.pen.putL e1 (RpAll.set (Rp.flat _ _ fd ((r1.same s2).same s3)) j r))) q⟩
end
end Dl

set_option Elab.async false
set_option linter.all false
set_option maxRecDepth 100000
set_option maxHeartbeats 1000000
/-! A law's end. -/
namespace Dl
open PySem PySem.Spec PyProof.Rows L2
abbrev noS : Sto := fun _ => none
/-- what the law promises: ts, the tables of code objects -/
def spLaw (K : PySem.W.Frag) (ts : List Addr) : Sp := fun vs H Q _ => ∃ (a : Addr) (ns : List Int), vs = [.ref a] ∧ SqL K H a (ns.map V.int) ∧ ns.length ≤ 63 ∧ (∀ p ∈ ts, H p = some (.tbl #[])) ∧ ∀ H', Q (.bl true) H'
/-- what is tracked at first: the script, where it is not the module's own, and the tables -/
def firstH (own : Bool) (a : Addr) (vs : List Value) (ns : List Int) (ts : List Addr) : Hp := fun b =>
  if b = a then (if own = true then none else some (.frz { cls := .type "list", data := .seq vs.toArray } (.lst (ns.map V.int)))) else if b ∈ ts then some (.tbl #[]) else none
/-- the law's call behind the top -/
theorem law_callG {P : Program} {w : World} {K : PySem.W.Frag} {mg mb : Str → Option Value} {k : Nat} {fa a : Addr} {fd : FuncData} {x : Str} {s₁ : Shared} {vs : List Value} {ns : List Int} {cs : List (Addr × Addr)}
    (kin : K.In s₁.heap) (gl : s₁.heap.Ns mainGlobals mg) (bl : s₁.heap.Ns builtinsNs mb) (hbb : ∀ y : Str, y ≠ "__name__" → mb y = bootBuiltins y) (nol : s₁.heap.NoLimit) (gens : s₁.gens = #[])
    (bmn : ∃ (bm : Addr) (ob : Obj), mg "__builtins__" = some (.ref bm) ∧ bm ≠ builtinsNs ∧ s₁.heap.get? bm = some ob ∧ ob.cls = .type "module" ∧ ob.dict = some builtinsNs ∧ ob.data = .plain)
    (tb1 : ∀ q ∈ cs, s₁.heap.get? q.2 = some (PySem.W.tabObj #[])) (tb2 : ∀ q ∈ cs, K.lookup q.2 = none) (tb3 : ∀ q ∈ cs, PySem.W.CodeHd s₁.heap q.1 q.2)
    (scr : s₁.heap.get? a = some { cls := .type "list", data := .seq vs.toArray }) (isI : IntsAre vs ns) (few : ns.length ≤ 63) (hr : Room k callerA)
    (F : ∀ base : Heap, K.In base → base.Ns mainGlobals mg → (∀ q ∈ cs, LamX.TabB base mg q.1 q.2) → FnG P w K mg base CX0 k fa fd [x] (spLaw K (cs.map (·.2)))) (bind : ∀ (s : Shared) (u : Value), BindsTo s fd ⟨[u], []⟩ [(x, u)]) :
    codeAny (model P w) callerA (.call (.ref fa) ⟨[.ref a], []⟩) (fun r s' => r = .ok (.ret (.bool true)) ∧ OldK s₁.heap s'.heap ∧ s'.os = s₁.os ∧ AllBare s'.gens) s₁ := by
  have rv := vals_ints isI
  have tabAt : ∀ b ∈ cs.map (·.2), s₁.heap.get? b = some (PySem.W.tabObj #[]) := fun b hb => by
    obtain ⟨q, hq, e⟩ := List.mem_map.mp hb
    exact e ▸ tb1 q hq
  have tabK : ∀ b ∈ cs.map (·.2), K.lookup b = none := fun b hb => by
    obtain ⟨q, hq, e⟩ := List.mem_map.mp hb
    exact e ▸ tb2 q hq
  have aNo : a ∉ cs.map (·.2) := fun z => by
    have e := tabAt a z
    rw [scr] at e
    cases e
  obtain ⟨own, hown⟩ : ∃ own : Bool, own = (K.lookup a).isSome := ⟨_, rfl⟩
  let H : Hp := firstH own a vs ns (cs.map (·.2))
  have only : ∀ b u, H b = some u → (b = a ∧ own = false ∧ u = .frz { cls := .type "list", data := .seq vs.toArray } (.lst (ns.map V.int))) ∨ (b ∈ cs.map (·.2) ∧ u = .tbl #[]) := fun b u e => by
    have e : firstH own a vs ns (cs.map (·.2)) b = some u := e
    unfold firstH at e
    split at e
    · rename_i h1
      split at e
      · cases e
      · rename_i h2
        cases e
        exact .inl ⟨h1, by simpa using h2, rfl⟩
    · split at e
      · rename_i h1
        cases e
        exact .inr ⟨h1, rfl⟩
      · cases e
  have Htab : ∀ b ∈ cs.map (·.2), H b = some (.tbl #[]) := fun b hb => by
    show firstH own a vs ns (cs.map (·.2)) b = _
    unfold firstH
    rw [if_neg (show ¬ b = a from fun z => aNo (z ▸ hb)), if_pos hb]
  have seq : SqL K H a (ns.map V.int) := by
    cases ho : K.lookup a with
    | some o =>
      have e := kin a o ho
      rw [scr] at e
      cases e
      exact .inr ⟨_, vs.toArray, _, ho, rfl, rfl, rfl, by rw [List.size_toArray, isI.length]; exact Nat.le_trans few (by decide), by simpa using rv⟩
    | none =>
      refine .inl (.inr ⟨{ cls := .type "list", data := .seq vs.toArray }, ?_⟩)
      show firstH own a vs ns (cs.map (·.2)) a = _
      unfold firstH
      rw [if_pos rfl, hown, ho]
      rfl
  have ok : HOk P w H s₁.heap := fun b u e => by
    rcases only b u e with ⟨h1, h2, h3⟩ | ⟨h1, h2⟩
    · subst h1 h3
      exact ⟨scr, by rw [List.length_map]; exact Nat.le_trans few (by decide), vs, _, rv, scr⟩
    · subst h2
      exact tabAt b h1
  have untracked : ∀ {b : Addr} {o : Obj}, s₁.heap.get? b = some o → (∀ vs n, o.data ≠ .seq vs n) → o.data ≠ .fields #[] → (hidT s₁.heap H).get? b = some o := fun {b o} e n1 n2 => hidT_get e (by
    cases q : H b with
    | none => rfl
    | some u =>
      rcases only b u q with ⟨h1, _⟩ | ⟨h1, _⟩
      · subst h1
        rw [scr] at e
        cases e
        exact (n1 _ _ rfl).elim
      · rw [tabAt b h1] at e
        cases e
        exact (n2 rfl).elim)
  have nsA : ∀ {b : Addr} {m : Str → Option Value}, s₁.heap.Ns b m → (hidT s₁.heap H).Ns b m := fun {b m} z => by
    obtain ⟨o, es, ep, e, d, rest⟩ := z
    exact ⟨o, es, ep, untracked e (fun _ _ z => by rw [d] at z; cases z) (fun z => by rw [d] at z; cases z), d, rest⟩
  have kinA : K.In (hidT s₁.heap H) := fun b o e => hidT_get (kin b o e) (by
    cases q : H b with
    | none => rfl
    | some u =>
      rcases only b u q with ⟨h1, h2, _⟩ | ⟨h1, _⟩
      · subst h1
        rw [hown, e] at h2
        cases h2
      · rw [tabK b h1] at e
        cases e)
  have modA : Mod K mg (hidT s₁.heap H) := ⟨kinA, nsA gl, ⟨mb, nsA bl, hbb⟩, nol.elim fun mc z => ⟨mc, nsA z.1, z.2⟩⟩
  have tbs : ∀ q ∈ cs, LamX.TabB (hidT s₁.heap H) mg q.1 q.2 := fun q hq => by
    have eq := tb1 q hq
    refine ⟨?_, ?_, fun z => ?_⟩
    · obtain ⟨o, us, file, tf, flags, tg, inF, text, tt, e1, r1, r2, r3, r⟩ := tb3 q hq
      refine ⟨o, us, file, tf, flags, tg, inF, text, tt, untracked e1 (fun _ _ z => by rw [r2] at z; cases z) (fun z => ?_), r1, r2, r3, r⟩
      rw [r2] at z
      cases z
      simp at r3
    · obtain ⟨bm, ob, b1, b2, b3, b4, b5, b6⟩ := bmn
      refine ⟨bm, ob, b1, b2, fun z => ?_, fun z => ?_, untracked b3 (fun _ _ z => by rw [b6] at z; cases z) (fun z => by rw [b6] at z; cases z), b4, b5, b6⟩
      · obtain ⟨o, es, ep, e, hd, _⟩ := gl
        rw [z, e] at b3
        cases b3
        rw [hd] at b6
        cases b6
      · rw [z, eq] at b3
        cases b3
        cases b6
    · obtain ⟨o, es, ep, e, hd, _⟩ := gl
      rw [z, eq] at e
      cases e
      cases hd
  have e0 : Env0 P w K mg (hidT s₁.heap H) callerA [] s₁ H :=
    { frames := rfl, mod := modA, bs := fun b o e => of_hidT e, bsz := Nat.le_of_eq (hidT_size _ _), funs := trivial, frf := fun b hb => absurd (show b ∈ ([] : List Addr) from hb) (by simp), hok := ok, bare := .of_eq gens }
  refine codeAny_mono ((F _ kinA (nsA gl) tbs).go callerA [] s₁ H ⟨[.ref a], []⟩ [.ref a] [.ref a] (fun v _ => v = .bl true) (fun _ _ _ => False) hr rfl e0 (bind s₁ (.ref a)) (.cons rfl .nil) ⟨a, ns, rfl, seq, few, Htab, fun _ => rfl⟩) ?_
  intro r s' z
  match r, z with
  | .error e, z => exact (show False from z).elim
  | .ok .next, z => exact False.elim z
  | .ok .brk, z => exact False.elim z
  | .ok .cont, z => exact False.elim z
  | .ok (.ret u), z =>
    obtain ⟨v, H', os, bare, un, ok', rel, q⟩ := z
    cases (show v = .bl true from q)
    cases (show u = Value.bool true from rel)
    have stays : ∀ b o, b ∉ cs.map (·.2) → s₁.heap.get? b = some o → s'.heap.get? b = some o := fun b o nb e => by
      cases q : H b with
      | none => exact un.keep b o e q (fun z => absurd (show b ∈ ([] : List Addr) from z) (by simp)) (by simp)
      | some u =>
        rcases only b u q with ⟨_, _, h3⟩ | ⟨h1, _⟩
        · subst h3
          have e1 := (ok b _ q).1
          have e2 := (ok' b _ (un.frzs b _ _ q)).1
          rw [e] at e1
          cases e1
          exact e2
        · exact absurd h1 nb
    have grows : ∀ p ∈ cs, ∃ more : Array Value, s'.heap.get? p.2 = some (PySem.W.tabObj more) := fun p hp => by
      obtain ⟨more, z⟩ := un.tbls p.2 #[] (Htab _ (List.mem_map.mpr ⟨p, hp, rfl⟩))
      exact ⟨_, ok' p.2 _ z⟩
    refine ⟨rfl, ⟨fun b o e => ?_, fun b o e => ?_⟩, os, bare⟩
    · by_cases hb : b ∈ cs.map (·.2)
      · obtain ⟨p, hp, ep⟩ := List.mem_map.mp hb
        obtain ⟨more, hm⟩ := grows p hp
        subst ep
        rw [tb1 p hp] at e
        cases e
        exact .inr (.inl ⟨((tb3 p hp).tab (tb1 p hp)).isCodeTable, rfl, #[], more, rfl, by rw [Array.empty_append]; exact hm⟩)
      · exact .inl (stays b o hb e)
    · by_cases hb : b ∈ cs.map (·.2)
      · obtain ⟨p, hp, ep⟩ := List.mem_map.mp hb
        obtain ⟨more, hm⟩ := grows p hp
        exact ⟨_, ep ▸ hm⟩
      · exact ⟨o, stays b o hb e⟩
theorem walkT {l : PySem.W.OpenLaw} {k : Nat} {q : Program} {loose : List Str} {XP : (Str → Option Value) → Heap → Prop} {YP : World → Heap → Prop} {d : DefRec} {K : Params → PySem.W.Frag}
    (hn : l.most = some 63) (hdf : d.params.defaults = []) (hr : Room k callerA) (hY : ∀ (w : World) (h : Heap), YP w h → (K w.params).In h)
    (F : ∀ (w : World) (mg : Str → Option Value) (fa : Addr) (h : Heap), YP w h → (K w.params).In h → h.Ns mainGlobals mg → mg d.name = some (.ref fa) →
      ∃ (fd : FuncData) (cs : List (Addr × Addr)), (∀ (s : Shared) (u : Value), BindsTo s fd ⟨[u], []⟩ [("script", u)]) ∧ (∀ q ∈ cs, h.get? q.2 = some (PySem.W.tabObj #[])) ∧ (∀ q ∈ cs, (K w.params).lookup q.2 = none) ∧ (∀ q ∈ cs, PySem.W.CodeHd h q.1 q.2) ∧
        ∀ base : Heap, (K w.params).In base → base.Ns mainGlobals mg → (∀ q ∈ cs, LamX.TabB base mg q.1 q.2) → FnG l.prog w (K w.params) mg base CX0 k fa fd ["script"] (spLaw (K w.params) (cs.map (·.2)))) :
    PySem.W.WalkO q loose XP YP l.row.toRowW d [] (fun f vs => PySem.call f vs) := by
  refine Att.attach_call hn hdf ?_
  intro w s₀ s₁ mg mb fa o pm cd doc a vs ns G Y ho hd hcd hmg hobj hints hlen hg
  obtain ⟨fd, cs, hb, t1, t2, t3, hF⟩ := F w mg fa _ Y (hY w _ Y) G.T.g hmg
  exact law_callG (hY w _ Y) G.T.g G.T.b G.T.builtins G.T.nolimit hg G.T.bmain t1 t2 t3 hobj hints hlen hr hF hb
variable [XP]
/-- what makes the pen -/
def spPen (K : PySem.W.Frag) (PS : Sto → D → Prop) : Sp := fun vs H Q _ => ∃ (a : Addr) (ns : List Int), vs = [.ref a] ∧ SqL K H a (ns.map V.int) ∧ ns.length ≤ 63 ∧ SOk noS H ∧
  ∀ H' v d n, Same H H' → SOk n H' → Rp n (fun _ => True) H' v d → PS n d → Q v H'
section
variable {P : Program} {w : World} {K : PySem.W.Frag} {mg : Str → Option Value} {base : Heap}
theorem pe_calP [XE] {X : Cx} {k : Nat} {ps : List Str} {kw : List (List Str × List Nat)} {PS : Sto → D → Prop} {x : Str} {p pos : Pos} {e : Expr} {es : List Expr} {t : TA} (c : Cal X.prog X.w X.K X.mg X.base x k ps kw (spPen X.K PS)) (hr : Room k X.A) (hgd : X.A.guards = some []) (tk : L2.Takes X XE.W) (ha : PA X (e :: es) t) (hg : Gl X x := by rfl)
    (hdb : (x == ("__debug__" : Str)) = false := by decide) (he : starEach (e :: es) X.env = (false, eval e X.env) :: starEach es X.env := by rfl) (hpl : (backTo pos (starEach es X.env)).any (·.1) = false := by rfl) :
    PE X (.Call (.Name x p) (e :: es) [] pos) (fun σ H Q => t σ H fun vs H1 => spPen X.K PS (vs ++ []) H1 Q E0) := by
  obtain ⟨f, fd, h1, h2, h3, h4, F⟩ := c.ex
  exact ⟨fun pins s σ H Q I h => (pe_callG F hr hgd hg h1 h2 h3 .nil (.of tk) ha hdb he hpl).run pins s σ H Q I h⟩
/-- a law: the pen is made, the rest is over data -/
theorem law_ok {st : Stmt} {f : Addr} {fd : FuncData} {N : List Str} {k : Nat} {t : DTS} {PS : Sto → D → Prop} {ts : List Addr} (F : L2.Fun K "law" "law" st f fd) (S : FnScope N ["script"] (defScope st)) (hts : ts = XP.T.map (·.1))
    (hbody : ∀ [XE] (cv : Value), fd.code = cv → ∀ (A : Around) (fs : List Env) (s : Shared) (H : Hp) (E : XK), Room k (A.deeper (envOfC "law" (defScope st) s.heap.objs.size f cv)) → (A.deeper (envOfC "law" (defScope st) s.heap.objs.size f cv)).guards = some [] →
      L2.Takes (cxOf (L2.CX P w) P w K mg base N "law" (defScope st) f cv A fs s H E) XE.W →
      PSs (cxOf (L2.CX P w) P w K mg base N "law" (defScope st) f cv A fs s H E) (defBody st) (tSeq (tAsg (fun σ H Q => (tCons (tVar 0) tNil) σ H fun vs H1 => spPen K PS (vs ++ []) H1 Q E0) (gName 1)) (liftS t)))
    (hread : ∀ v n d, PS n d → t { nx := fun _ _ => False, rt := fun d _ => d = .bl true } ((startD N [.opq v]).set 1 (some (.frz d))) n) : FnG P w K mg base CX0 (k + 1) f fd ["script"] (spLaw K ts) := by
  refine (FnG.noX (sp := spLaw K ts) ?_).imp fun vs H Q E h => h
  refine fn_body F S (fun vs H Q E h => ?_) (fun cdv hcv A outer s H vs Q E hr hgd h => ?_)
  · obtain ⟨a, ns, rfl, _⟩ := h
    rfl
  · obtain ⟨a, ns, rfl, hS, hl, hT, q⟩ := h
    letI : XE := .of fun cls d _ H' => E cls d H'
    refine ⟨_, hbody cdv hcv A outer s H E hr hgd takes_def, ?_⟩
    have e0 : (L2.start N [V.ref a])[0]? = some (some (V.ref a)) := rfl
    have k0 : SOk noS H := ⟨fun p hp => .nil (hT _ (by rw [hts]; exact List.mem_map.mpr ⟨p, hp, rfl⟩)), fun a ro e => by cases (show (none : Option RO) = some ro from e)⟩
    refine ⟨_, e0, a, ns, rfl, hS, hl, k0, fun H1 v d n s1 k1 r1 p1 => ?_⟩
    have S1 : StR n H1 [(v, d)] [] n (L2.start N [V.ref a]) (startD N [.opq (.ref a)]) H1 := (StR.start k1 (.cons (.opq _) .nil)).infr (gs := [(v, d)]) fun g hg => by
      cases List.mem_singleton.mp hg
      exact r1.imp fun a' o _ _ => ⟨by simp, fun i ds e => absurd e ((start_get (N := N) (vs := [V.ref a]) (ds := [.opq (.ref a)]) (n := n) (A := fun _ => True) (H := H1) (.cons (.opq _) .nil) i).2 ds)⟩
    refine ⟨n, H1, [], [], n, _, _, (S1.setF 1 (S1.gh (v, d) (List.mem_singleton.mpr rfl))).unfr (gs := [(v, d)]), hread _ n d p1, ⟨fun _ _ _ _ _ z => z.elim, fun v H' d n' s p r z => ?_, fun _ _ _ _ _ z => z, fun _ _ _ _ _ z => z, fun _ _ _ _ _ _ _ _ _ z => z.elim, fun _ _ _ => trivial⟩⟩
    subst z
    cases r
    exact q H'
end
end Dl

set_option Elab.async false
set_option linter.all false
set_option maxRecDepth 100000
set_option maxHeartbeats 1000000
/-! Houses, standings as data; the pens. -/
namespace Dl
open PySem PySem.Spec PyProof.Rows L2
abbrev lim : Nat := 4000000
/-! ### houses and standings as data -/
abbrev Hs := List (List Int)
def encI (r : List Int) : D := .tup (r.map D.int)
def encH (h : Hs) : D := .tup (h.map encI)
def encS (b : List Int) (at' : Int) : D := .tup [encI b, .int at']
theorem flat_encI (r : List Int) : flat (encI r) = true := by
  show flat (.tup (r.map D.int)) = true
  simp only [flat]
  exact flat_ints r
theorem flat_encH (h : Hs) : flat (encH h) = true := by
  show flat (.tup (h.map encI)) = true
  simp only [flat]
  exact flatAll_map flat_encI h
theorem flat_encS (b : List Int) (a : Int) : flat (encS b a) = true := by
  show flat (.tup [encI b, .int a]) = true
  simp only [flat, flatAll, flat_encI]; rfl
/-- rooms with the ends of so many wires, each end once -/
structure IsHs (h : Hs) (rooms wires : Nat) : Prop where
  len : h.length = rooms
  perm : h.flatten.Perm ((List.range (2 * wires)).map fun (k : Nat) => (k : Int))
theorem flat_set_perm : ∀ (rs : List (List Int)) (j : Nat) (r : List Int) (i : Nat) (x : Int), rs[j]? = some r → (rs.set j (r.take i ++ [x] ++ r.drop i)).flatten.Perm (x :: rs.flatten)
  | [], j, r, i, x, h => by simp at h
  | s :: rs, 0, r, i, x, h => by
    simp at h; subst h
    rw [List.set_cons_zero, List.flatten_cons, List.flatten_cons]
    have p1 : (s.take i ++ [x] ++ s.drop i).Perm (x :: s) := by
      rw [List.append_assoc, List.singleton_append]
      refine List.perm_middle.trans ?_
      rw [List.take_append_drop]
    exact List.Perm.append_right _ p1
  | s :: rs, j + 1, r, i, x, h => by
    rw [List.set_cons_succ, List.flatten_cons, List.flatten_cons]
    exact (List.Perm.append_left s (flat_set_perm rs j r i x (by simpa using h))).trans List.perm_middle

/-! ### pens -/
/-- nothing but the root at p changed -/
def Only (n n' : Sto) (p : Addr) : Prop := ∀ a, a ≠ p → n a ≠ none → n' a = n a
theorem Only.refl (n : Sto) (p : Addr) : Only n n p := fun _ _ _ => rfl
theorem Only.trans {n n1 n2 : Sto} {p : Addr} (a : Only n n1 p) (b : Only n1 n2 p) : Only n n2 p := fun q h e => (b q h (by rw [a q h e]; exact e)).trans (a q h e)
/-- a list: the cells, how many were begun, what is left of a great one -/
def PenL (n : Sto) (p : Addr) (k : Nat) : Prop := ∃ (c : Addr) (t r : Int) (cells : List Int), n p = some (.lst [.loc c, .int t, .int r]) ∧ n c = some (.lst (cells.map D.int)) ∧ c ≠ p ∧ True ∧ 0 ≤ t ∧ t ≤ k ∧ 0 ≤ r
theorem PenL.mono {n : Sto} {p : Addr} {k j : Nat} (h : PenL n p k) (l : k ≤ j) : PenL n p j := by
  obtain ⟨c, t, r, cells, h1, h2, h3, h4, h5, h6, h7⟩ := h
  exact ⟨c, t, r, cells, h1, h2, h3, h4, h5, by omega, h7⟩
/-- the pen at p, of which at most k cells were begun, behind it stands n' -/
structure Drew (n : Sto) (p : Addr) (k : Nat) (n' : Sto) : Prop where
  pen : PenL n' p k
  only : Only n n' p
theorem Drew.trans {n n1 n2 : Sto} {p : Addr} {k j : Nat} (a : Drew n p k n1) (b : Drew n1 p j n2) : Drew n p j n2 := ⟨b.pen, a.only.trans b.only⟩
theorem Drew.mono {n n1 : Sto} {p : Addr} {k j : Nat} (a : Drew n p k n1) (h : k ≤ j) : Drew n p j n1 := ⟨a.pen.mono h, a.only⟩
theorem Drew.refl {n : Sto} {p : Addr} {k : Nat} (h : PenL n p k) : Drew n p k n := ⟨h, Only.refl n p⟩
def spPick : DSp := fun ds n X Q => ∃ (p : Addr) (u : Int) (k : Nat), ds = [.loc p, .int u] ∧ 0 < u ∧ u < 1073741824 ∧ PenL n p k ∧ k < lim ∧ ∀ (z : Int) n', 0 ≤ z → z < u → Drew n p (k + 1) n' → Q (.int z) n'
def spPlan : DSp := fun ds n X Q => ∃ (p : Addr) (rooms wires k : Nat), ds = [.loc p, .int rooms, .int wires] ∧ 1 ≤ rooms ∧ rooms ≤ 100 ∧ wires ≤ 100 ∧ PenL n p k ∧ k + 4 * wires ≤ lim ∧ ∀ h n', IsHs h rooms wires → Drew n p (k + 4 * wires) n' → Q (encH h) n'
end Dl

set_option Elab.async false
set_option linter.all false
set_option maxRecDepth 100000
set_option maxHeartbeats 1000000
namespace Dl
open PySem PySem.Spec PyProof.Rows L2
theorem lcW_mapE {α : Type} {i : Nat} {tt : DTT} {te : DTE} {m : Md} {Δ : DEnv} {Q : D → Sto → Prop} (e f : α → D) (htt : tt = tYesD) : ∀ (xs : List α) (acc : List D) (n : Sto), acc.length + xs.length ≤ sizeLine →
    (∀ x ∈ xs, ∀ n' Q', Q' (f x) n' → te m (Δ.set i (some (.frz (e x)))) n' noX Q') → Q (.lst (acc ++ xs.map f)) n → lcW i tt te m Δ Q (xs.map e) acc n
  | [], acc, n, _, _, q => by rw [List.map_nil, List.append_nil] at q; exact q
  | x :: xs, acc, n, hz, h, q => by
    subst htt
    rw [List.length_cons] at hz
    refine h x (List.mem_cons_self ..) n _ ⟨by omega, lcW_mapE e f rfl xs (acc ++ [f x]) n ?_ (fun d' hd' => h d' (List.mem_cons_of_mem _ hd')) ?_⟩
    · rw [List.length_append, List.length_singleton]; omega
    · rw [List.append_assoc]; exact q
theorem lcW_filterE {α : Type} {i : Nat} {tt : DTT} {te : DTE} {m : Md} {Δ : DEnv} {Q : D → Sto → Prop} (e : α → D) (p : α → Bool) (f : α → D) : ∀ (xs : List α) (acc : List D) (n : Sto), acc.length + xs.length ≤ sizeLine →
    (∀ x ∈ xs, ∀ n' Q', Q' (p x) n' → tt (Δ.set i (some (.frz (e x)))) n' noX Q') → (∀ x ∈ xs, p x = true → ∀ n' Q', Q' (f x) n' → te m (Δ.set i (some (.frz (e x)))) n' noX Q') → Q (.lst (acc ++ (xs.filter p).map f)) n → lcW i tt te m Δ Q (xs.map e) acc n
  | [], acc, n, _, _, _, q => by rw [List.filter_nil, List.map_nil, List.append_nil] at q; exact q
  | x :: xs, acc, n, hz, h1, h2, q => by
    rw [List.length_cons] at hz
    refine h1 x (List.mem_cons_self ..) n _ ?_
    cases hp : p x with
    | true =>
      rw [if_pos rfl]
      refine h2 x (List.mem_cons_self ..) hp n _ ⟨by omega, lcW_filterE e p f xs (acc ++ [f x]) n ?_ (fun d' hd' => h1 d' (List.mem_cons_of_mem _ hd')) (fun d' hd' => h2 d' (List.mem_cons_of_mem _ hd')) ?_⟩
      · rw [List.length_append, List.length_singleton]; omega
      · rw [List.filter_cons_of_pos hp, List.map_cons] at q
        rw [List.append_assoc]; exact q
    | false =>
      rw [if_neg Bool.false_ne_true]
      refine lcW_filterE e p f xs acc n (by omega) (fun d' hd' => h1 d' (List.mem_cons_of_mem _ hd')) (fun d' hd' => h2 d' (List.mem_cons_of_mem _ hd')) ?_
      rw [List.filter_cons_of_neg (by rw [hp]; exact Bool.false_ne_true)] at q
      exact q
/-- .. drawn, with a bound for how many they are -/
theorem lcW_some {i : Nat} {tt : DTT} {te : DTE} {m : Md} {Δ : DEnv} {Q : D → Sto → Prop} (htt : tt = tYesD) (L : Nat) (hL : L ≤ sizeLine) (R : List D → Sto → Prop) : ∀ (ds acc : List D) (n : Sto), acc.length + ds.length = L → R acc n →
    (∀ d ∈ ds, ∀ acc n' Q', acc.length < L → R acc n' → (∀ y n'', R (acc ++ [y]) n'' → Q' y n'') → te m (Δ.set i (some (.frz d))) n' noX Q') → (∀ acc' n', acc'.length = L → R acc' n' → Q (.lst acc') n') → lcW i tt te m Δ Q ds acc n
  | [], acc, n, hz, r, _, q => q acc n (by simpa using hz) r
  | d :: ds, acc, n, hz, r, h, q => by
    subst htt
    rw [List.length_cons] at hz
    refine h d (List.mem_cons_self ..) acc n _ (by omega) r fun y n'' r' => ⟨by omega, lcW_some rfl L hL R ds (acc ++ [y]) n'' ?_ r' (fun d' hd' => h d' (List.mem_cons_of_mem _ hd')) q⟩
    rw [List.length_append, List.length_singleton]; omega
/-- a range as a map -/
def rangeI (n : Nat) : List Int := (List.range n).map fun (k : Nat) => (k : Int)
theorem rangeD_eq : ∀ (n : Nat) (lo : Int), rangeD lo n = ((List.range n).map fun (k : Nat) => lo + (k : Int)).map D.int
  | 0, _ => rfl
  | n + 1, lo => by
    rw [rangeD, rangeD_eq n (lo + 1), List.range_succ_eq_map, List.map_cons, List.map_cons, List.map_map, List.map_map, List.map_map]
    congr 1
    · simp
    · refine List.map_congr_left fun k _ => ?_
      simp only [Function.comp, Nat.succ_eq_add_one]
      congr 1
      omega
theorem range0_eq (n : Nat) : rangeD 0 n = (rangeI n).map D.int := by
  rw [rangeD_eq]
  unfold rangeI
  congr 1
  refine List.map_congr_left fun k _ => ?_
  omega
theorem rangeI_length (n : Nat) : (rangeI n).length = n := by unfold rangeI; rw [List.length_map, List.length_range]
theorem mem_rangeI {n : Nat} {i : Int} : i ∈ rangeI n ↔ 0 ≤ i ∧ i < n := by
  unfold rangeI
  rw [List.mem_map]
  constructor
  · rintro ⟨k, hk, rfl⟩
    rw [List.mem_range] at hk
    omega
  · rintro ⟨h0, h1⟩
    exact ⟨i.toNat, by rw [List.mem_range]; omega, by omega⟩
theorem atI_get {α : Type} {xs : List α} {j : Nat} {x : α} (h : xs[j]? = some x) : atI xs (j : Int) = some x := atI_nat h
/-- an item at an int place -/
theorem atI_int {α : Type} {xs : List α} {i : Int} (h0 : 0 ≤ i) (h1 : i < xs.length) : ∃ x, atI xs i = some x ∧ x ∈ xs ∧ xs[i.toNat]? = some x := by
  have hl : i.toNat < xs.length := by omega
  refine ⟨xs[i.toNat], ?_, List.getElem_mem hl, List.getElem?_eq_getElem hl⟩
  have e : ((i.toNat : Nat) : Int) = i := by omega
  have := atI_nat (xs := xs) (j := i.toNat) (v := xs[i.toNat]) (List.getElem?_eq_getElem hl)
  rw [e] at this
  exact this
end Dl

set_option Elab.async false
set_option linter.all false
set_option maxRecDepth 100000
set_option maxHeartbeats 1000000
namespace Dl
open PySem PySem.Spec PyProof.Rows L2
/-! ### what repr and == take: data that is tame -/
/- ints of at most 59 figures, texts, none deeper than k -/
mutual
def tm : Nat → D → Bool
  | _, .non => true
  | _, .bl _ => true
  | _, .int i => decide (i.natAbs < 10 ^ 59)
  | _, .str x => x.cps.toList.all fun c => decide (c < 1114112)
  | k + 1, .tup ds => tms k ds
  | k + 1, .lst ds => tms k ds
  | _, _ => false
def tms : Nat → List D → Bool
  | _, [] => true
  | k, d :: ds => tm k d && tms k ds
end
mutual
def wtD : D → Nat
  | .int _ => 200
  | .str x => x.cps.size
  | .tup ds => wtDs ds
  | .lst ds => wtDs ds
  | _ => 0
def wtDs : List D → Nat
  | [] => 0
  | d :: ds => wtD d + 1 + wtDs ds
end
structure Tame (k : Nat) (d : D) : Prop where
  py : pyb d = true
  sh : (toPy d).showable = true
  nd : (toPy d).hasDict = false
  dp : (toPy d).depth ≤ k
  cl : (toPy d).canLay0 = true
  ls : (toPy d).leavesShort 60 = true
  wt : (toPy d).weight ≤ wtD d
theorem log_of_lt {m : Nat} (h : m < 10 ^ 59) : m.log2 < 199 := by
  by_cases h0 : m = 0
  · subst h0; decide
  · rw [Nat.log2_lt h0]
    exact Nat.lt_trans h (by decide)
mutual
theorem tame_of : ∀ (k : Nat) (d : D), tm k d = true → Tame k d
  | _, .non, _ => by
    constructor <;> simp [pyb, toPy, PyData.showable, PyData.hasDict, PyData.depth, PyData.canLay0, PyData.leavesShort, PyData.weight]
  | _, .bl b, _ => by
    constructor <;> simp [pyb, toPy, PyData.showable, PyData.hasDict, PyData.depth, PyData.canLay0, PyData.leavesShort, PyData.weight]
  | k, .int i, h => by
    have hi : i.natAbs < 10 ^ 59 := by cases k <;> simpa [tm] using h
    have hl := log_of_lt hi
    constructor
    · rfl
    · simp only [toPy, PyData.showable, decide_eq_true_eq]; omega
    · simp only [toPy, PyData.hasDict]
    · simp only [toPy, PyData.depth]; omega
    · simp only [toPy, PyData.canLay0]
    · simp only [toPy, PyData.leavesShort, decide_eq_true_eq, PyData.shown_int]
      have e := int_text_length_le10 (k := 59) (by decide) hi
      rw [PySem.ofString_length]
      exact e
    · simp only [toPy, PyData.weight, wtD]
      split <;> omega
  | k, .str x, h => by
    have hx : (x.cps.toList.all fun c => decide (c < 1114112)) = true := by cases k <;> simpa [tm] using h
    rw [List.all_eq_true] at hx
    constructor
    · rfl
    · simp only [toPy, PyData.showable]
    · simp only [toPy, PyData.hasDict]
    · simp only [toPy, PyData.depth]; omega
    · simp only [toPy, PyData.canLay0]
      show PyData.strOk x = true
      unfold PyData.strOk
      rw [← Array.all_toList, List.all_eq_true]
      intro c hc
      have := of_decide_eq_true (hx c hc)
      exact decide_eq_true (by omega)
    · simp only [toPy, PyData.leavesShort]
      rw [List.all_eq_true]
      intro c hc
      have := of_decide_eq_true (hx c hc)
      exact decide_eq_true (by omega)
    · simp only [toPy, PyData.weight, wtD]; exact Nat.le_refl _
  | 0, .tup ds, h => by simp [tm] at h
  | 0, .lst ds, h => by simp [tm] at h
  | k + 1, .tup ds, h => by
    simp only [tm] at h
    obtain ⟨h1, h2, h3, h4, h5, h6, h7⟩ := tames_of k ds h
    constructor
    · simpa only [pyb] using h1
    · simpa only [toPy, PyData.showable] using h2
    · simpa only [toPy, PyData.hasDict] using h3
    · simp only [toPy, PyData.depth]; omega
    · simpa only [toPy, PyData.canLay0] using h5
    · simpa only [toPy, PyData.leavesShort] using h6
    · simpa only [toPy, PyData.weight, wtD] using h7
  | k + 1, .lst ds, h => by
    simp only [tm] at h
    obtain ⟨h1, h2, h3, h4, h5, h6, h7⟩ := tames_of k ds h
    constructor
    · simpa only [pyb] using h1
    · simpa only [toPy, PyData.showable] using h2
    · simpa only [toPy, PyData.hasDict] using h3
    · simp only [toPy, PyData.depth]; omega
    · simpa only [toPy, PyData.canLay0] using h5
    · simpa only [toPy, PyData.leavesShort] using h6
    · simpa only [toPy, PyData.weight, wtD] using h7
  | k, .byt _, h => by cases k <;> simp [tm] at h
  | k, .loc _, h => by cases k <;> simp [tm] at h
  | k, .cls _, h => by cases k <;> simp [tm] at h
  | k, .exc0 _, h => by cases k <;> simp [tm] at h
  | k, .exc1 _ _ _, h => by cases k <;> simp [tm] at h
  | k, .obj _, h => by cases k <;> simp [tm] at h
  | k, .opq _, h => by cases k <;> simp [tm] at h
theorem tames_of : ∀ (k : Nat) (ds : List D), tms k ds = true → pybs ds = true ∧ PyData.showableAll (toPys ds) = true ∧ PyData.hasDictAll (toPys ds) = false ∧ PyData.depthAll (toPys ds) ≤ k ∧ PyData.canLayAll0 (toPys ds) = true ∧ PyData.leavesShortAll 60 (toPys ds) = true ∧ PyData.weightAll (toPys ds) ≤ wtDs ds
  | _, [], _ => by simp [pybs, toPys, PyData.showableAll, PyData.hasDictAll, PyData.depthAll, PyData.canLayAll0, PyData.leavesShortAll, PyData.weightAll, wtDs]
  | k, d :: ds, h => by
    simp only [tms, Bool.and_eq_true] at h
    have t := tame_of k d h.1
    obtain ⟨h1, h2, h3, h4, h5, h6, h7⟩ := tames_of k ds h.2
    refine ⟨?_, ?_, ?_, ?_, ?_, ?_, ?_⟩
    · simp only [pybs, t.py, h1]; rfl
    · simp only [toPys, PyData.showableAll, t.sh, h2]; rfl
    · simp only [toPys, PyData.hasDictAll, t.nd, h3]; rfl
    · simp only [toPys, PyData.depthAll]; have := t.dp; omega
    · simp only [toPys, PyData.canLayAll0, t.cl, h5]; rfl
    · simp only [toPys, PyData.leavesShortAll, t.ls, h6]; rfl
    · simp only [toPys, PyData.weightAll, wtDs]; have := t.wt; omega
end
theorem shp_of {k : Nat} {d : D} (h : tm k d = true) (hk : k ≤ 60) : shp d := by
  have t := tame_of k d h
  refine ⟨t.py, ?_⟩
  unfold SeqAt.shaped
  rw [t.cl, Bool.true_and]
  exact decide_eq_true (by have := t.dp; omega)
theorem rpOk_of {k : Nat} {d : D} (h : tm k d = true) (hk : k ≤ 60) (hw : wtD d ≤ 200000) : rpOk d := by
  have t := tame_of k d h
  have e := PyData.shown_le 60 (by decide) _ t.ls
  refine ⟨t.py, t.sh, t.nd, by have := t.dp; omega, ?_⟩
  have := t.wt
  have hs : sizeLine = 16777216 := by decide
  omega
theorem tms_iff {k : Nat} : ∀ {ds : List D}, tms k ds = true ↔ ∀ d ∈ ds, tm k d = true
  | [] => by simp [tms]
  | d :: ds => by simp [tms, tms_iff (ds := ds)]
theorem tms_map {α : Type} {k : Nat} {f : α → D} {xs : List α} (h : ∀ x ∈ xs, tm k (f x) = true) : tms k (xs.map f) = true := by
  rw [tms_iff]
  intro d hd
  obtain ⟨x, hx, rfl⟩ := List.mem_map.mp hd
  exact h x hx
theorem wt_map {α : Type} {f : α → D} {c : Nat} : ∀ {xs : List α}, (∀ x ∈ xs, wtD (f x) ≤ c) → wtDs (xs.map f) ≤ (c + 1) * xs.length
  | [], _ => by simp [wtDs]
  | x :: xs, h => by
    have ih := wt_map (xs := xs) fun y hy => h y (List.mem_cons_of_mem _ hy)
    have h1 := h x (List.mem_cons_self ..)
    simp only [List.map_cons, wtDs, List.length_cons]
    rw [Nat.mul_add]
    omega
def small (ns : List Int) : Prop := ∀ n ∈ ns, 0 ≤ n ∧ n < 100
theorem tm_int {k : Nat} {i : Int} (h : i.natAbs < 10 ^ 59) : tm k (.int i) = true := by cases k <;> simp [tm, h]
theorem tm_encI {r : List Int} (h : small r) : tm 1 (encI r) = true := by
  show tm 1 (.tup (r.map D.int)) = true
  simp only [tm]
  exact tms_map fun x hx => tm_int (by have := h x hx; omega)
theorem tm_mono : ∀ {k : Nat} {r : List Int}, small r → 1 ≤ k → tm k (encI r) = true
  | 0, _, _, h => absurd h (by decide)
  | k + 1, r, hs, _ => by
    show tm (k + 1) (.tup (r.map D.int)) = true
    simp only [tm]
    exact tms_map fun x hx => tm_int (by have := hs x hx; omega)
theorem wt_encI (r : List Int) : wtD (encI r) ≤ 201 * r.length := by
  show wtD (.tup (r.map D.int)) ≤ _
  simp only [wtD]
  exact wt_map (c := 200) fun x _ => by simp [wtD]
end Dl

set_option Elab.async false
set_option linter.all false
set_option maxRecDepth 100000
set_option maxHeartbeats 1000000
/-! More words: split, signs of a text, enumerate, starred targets, pop, list(range ..), len(set(..)). -/
namespace Dl
open PySem PySem.Spec PyProof.Rows L2
variable [XP] [XE]
section
variable {X : Cx} {e a b : Expr} {to te ta : DTE} {p pos : Pos}
/-- a.split(b) -/
def tSplitD (to te : DTE) : DTE := fun _ Δ n X Q => to .bor Δ n X fun x n1 => match x with
  | .str a => te .bor Δ n1 X fun y n2 => (match y with | .str b => (b.length == 0) = false ∧ a.length + 2 ≤ sizeLine ∧ Q (.lst ((Txt.split a b).map D.str)) n2 | _ => False)
  | _ => False
theorem d_split (h : PE X e (tM1 (fun x xs H Q => ∃ a b, x = .str a ∧ xs = [.str b] ∧ (b.length == 0) = false ∧ a.length + 2 ≤ sizeLine ∧ rNewStrs (Txt.split a b) H Q) (lift to) (lift te))) : DE X e (tSplitD to te) :=
  wkE h fun σ H Q ⟨n0, H0, nB, B, fr, av, n, Δ, m, Xd, Qd, S, bb, xk, h, k⟩ => lift_at .bor S bb xk h fun v H1 d n1 s1 S1 r1 q1 => by
    cases d <;> first | exact q1.elim | skip
    cases r1
    refine ⟨⟨_, rfl⟩, lift_at .bor S1 (bb.trans s1) (xk.step s1) q1 fun v2 H2 d2 n2 s2 S2 r2 q2 => ?_⟩
    cases d2 <;> first | exact q2.elim | skip
    cases r2
    refine ⟨_, _, rfl, rfl, q2.1, q2.2.1, fun q hq => ?_⟩
    exact k _ _ _ n2 ((s1.trans s2).trans (SameP.new hq)) (S2.pen.same (same_new hq)) (.lst upd_same (S2.neP hq) (Al.new S2 (bb.trans (s1.trans s2)) m hq) (RpAll.of_strs _)) q2.2.2
/-- list(range(a)), tuple(range(a)) -/
def intsD (n : Nat) : List D := (List.range n).map fun (k : Nat) => D.int (k : Int)
def tLRngD (tup : Bool) (ta : DTE) : DTE := fun _ Δ n X Q => ta .bor Δ n X fun x n1 => match x with | .int i => i ≤ 16777216 ∧ 0 ≤ i ∧ Q (if tup then .tup (intsD i.toNat) else .lst (intsD i.toNat)) n1 | _ => False
omit [XP] [XE] in
theorem rgV_ints (i : Int) : rgV 0 i = (((List.range i.toNat).map fun (k : Nat) => (k : Int))).map V.int := by
  unfold rgV
  rw [List.map_map, Int.sub_zero]
  refine List.map_congr_left fun k _ => ?_
  simp
omit [XP] [XE] in
theorem intsD_eq (n : Nat) : intsD n = ((List.range n).map fun (k : Nat) => (k : Int)).map D.int := by unfold intsD; rw [List.map_map]; rfl
theorem d_listRg {p2 pos2 : Pos} (hc : X.calm = true) (hg : Gl X "list") (hm : X.mg "list" = none) (hg2 : Gl X "range") (hm2 : X.mg "range" = none) (ha : DE X a ta) (na : starEach [a] X.env = (false, eval a X.env) :: starEach [] X.env := by rfl)
    (nb : starEach [.Call (.Name "range" p2) [a] [] pos2] X.env = (false, eval (.Call (.Name "range" p2) [a] [] pos2) X.env) :: starEach [] X.env := by rfl) :
    DE X (.Call (.Name "list" p) [.Call (.Name "range" p2) [a] [] pos2] [] pos) (tLRngD false ta) :=
  wkE (pe_listRg hc hg hm (prg_1 hg2 hm2 ha na) nb) fun σ H Q ⟨n0, H0, nB, B, fr, av, n, Δ, m, Xd, Qd, S, bb, xk, h, k⟩ => lift_at .bor S bb xk h fun v H1 d n1 s1 S1 r1 q1 => by
    cases d <;> first | exact q1.elim | skip
    cases r1
    refine ⟨_, rfl, RgOk.of_le (by omega) q1.1 (by omega) q1.2.1, fun q hq => ?_⟩
    rw [rgV_ints]
    exact k _ _ _ n1 (s1.trans (SameP.new hq)) (S1.pen.same (same_new hq)) (.lst upd_same (S1.neP hq) (Al.new S1 (bb.trans s1) m hq) (by rw [intsD_eq]; exact RpAll.of_ints _)) q1.2.2
/-- len(set(xs)) of ints, each once -/
def tLenSetD (ta : DTE) : DTE := fun _ Δ n X Q => ta .bor Δ n X fun x n1 => ∃ ns : List Int, x = .lst (ns.map D.int) ∧ ns.Nodup ∧ ns.length ≤ 4000 ∧ Q (.int ns.length) n1
theorem d_lenSet {p2 q : Pos} (hg : Gl X "len") (hm : X.mg "len" = none) (hg2 : Gl X "set") (hm2 : X.mg "set" = none) (ha : DE X a ta) (hc : X.calm = true := by rfl) (na : starEach [a] X.env = (false, eval a X.env) :: starEach [] X.env := by rfl) :
    DE X (.Call (.Name "len" p) [.Call (.Name "set" p2) [a] [] q] [] pos) (tLenSetD ta) :=
  wkE (RZ.pe_lenSetI hg hm hg2 hm2 ha hc na) fun σ H Q ⟨n0, H0, nB, B, fr, av, n, Δ, m, Xd, Qd, S, bb, xk, h, k⟩ => lift_at .bor S bb xk h fun v H1 d n1 s1 S1 r1 q1 => by
    obtain ⟨ns, rfl, h1, h2, q⟩ := q1
    cases r1 with
    | lst a1 a2 a3 r => exact ⟨_, ns, rfl, by rw [← r.ints]; exact SqL.of a1, h1, h2, k _ H1 _ n1 s1 S1.pen (.int _) q⟩
/-- for c in a text -/
def signsD (x : Str) : List D := x.cps.toList.map fun c => .str ⟨#[c]⟩
def tWStr (te : DTE) : DTI := fun _ Δ n X Q => te .bor Δ n X fun d n1 => match d with | .str x => x.length ≤ sizeLine ∧ Q (signsD x) n1 | _ => False
theorem goes_str {x : Str} : Goes (Its x) [] (signsD x) := fun n H A p0 nA hg i => by
  refine ⟨fun hi => by
    unfold signsD at hi
    rw [List.length_map] at hi
    exact hi, fun it e => ?_⟩
  unfold signsD at e
  rw [List.getElem?_map] at e
  obtain ⟨c, hc, rfl⟩ : ∃ c, x.cps.toList[i]? = some c ∧ it = .str ⟨#[c]⟩ := by
    cases q : x.cps.toList[i]? with
    | none => rw [q] at e; cases e
    | some c => rw [q] at e; cases e; exact ⟨c, rfl, rfl⟩
  have hl : i < x.cps.size := (List.getElem?_eq_some_iff.mp hc).1
  refine ⟨hl, fun v H' y => ?_⟩
  obtain ⟨rfl, c', hc', rfl⟩ := y
  rw [← Array.getElem?_toList, hc] at hc'
  cases hc'
  exact ⟨Same.refl _, .str _⟩
theorem di_str {tg : Expr} (he : DE X e te) : DI X tg e (tWStr te) :=
  wkI (pi_str he) fun σ H R ⟨n0, H0, fr, av, n, Δ, m, Xd, Qd, S, xk, h, k⟩ => lift_at (B := H) .bor S (SameP.refl n H) xk h fun v H1 d n1 s1 S1 r1 q1 => by
    cases d <;> first | exact q1.elim | skip
    cases r1
    exact ⟨_, rfl, k _ _ [] _ n1 s1 S1.pen (fun g hg => by cases hg) goes_str (by unfold signsD; rw [List.length_map]; exact sz62 q1.1) q1.2⟩
/-- for i, x in enumerate(xs) -/
def enumD : Nat → List D → List D
  | _, [] => []
  | i, d :: ds => .tup [.int (i : Nat), d] :: enumD (i + 1) ds
omit [XP] [XE] in
theorem enumD_length : ∀ (ds : List D) (i : Nat), (enumD i ds).length = ds.length
  | [], _ => rfl
  | d :: ds, i => by rw [enumD, List.length_cons, List.length_cons, enumD_length ds]
omit [XP] [XE] in
theorem enumD_get : ∀ (ds : List D) (i j : Nat), (enumD i ds)[j]? = ds[j]?.map fun d => .tup [.int ((i + j : Nat) : Int), d]
  | [], _, _ => by simp [enumD]
  | d :: ds, i, 0 => by simp [enumD]
  | d :: ds, i, j + 1 => by
    rw [enumD, List.getElem?_cons_succ, List.getElem?_cons_succ, enumD_get ds (i + 1) j, show i + 1 + j = i + (j + 1) by omega]
def tWEnum (te : DTE) : DTI := fun m Δ n X Q => te m Δ n X fun d n1 => match d with | .lst ds => ds.length ≤ sizeLine ∧ Q (enumD 0 ds) n1 | _ => False
theorem goes_enum {K : PySem.W.Frag} {a : Addr} {ds : List D} : Goes (IteF K a) [(.ref a, .lst ds)] (enumD 0 ds) := fun n H A p0 nA hg i => by
  have r := hg _ (List.mem_singleton.mpr rfl)
  cases r with
  | lst h1 h2 h3 r =>
    refine ⟨fun hi => ⟨_, SqL.of h1, by rw [r.length]; rw [enumD_length] at hi; exact hi⟩, fun it e => ?_⟩
    rw [enumD_get] at e
    obtain ⟨d, hd, rfl⟩ : ∃ d, ds[i]? = some d ∧ it = .tup [.int ((0 + i : Nat) : Int), d] := by
      cases q : ds[i]? with
      | none => rw [q] at e; cases e
      | some c => rw [q] at e; cases e; exact ⟨c, rfl, rfl⟩
    obtain ⟨v, e1, e2⟩ := r.get hd
    refine ⟨⟨_, v, SqL.of h1, e1⟩, fun x H' y => ?_⟩
    obtain ⟨T, u, ob, rfl, hT, hd2, rfl, y⟩ := y
    have := y _ (SqL.of h1)
    rw [e1] at this
    cases this
    refine ⟨same_new hT, .tup (.new hd2) (ne_P p0 hT) (.cons (by rw [Nat.zero_add]; exact .int _) (.cons (e2.same (SameP.new hT)) .nil))⟩
theorem di_enum {elts : List Expr} {kk : Nat} {tpos : Pos} (hg : Gl X "enumerate") (hm : X.mg "enumerate" = none) (he : DE X e te) (hs : starEach [e] X.env = [(false, eval e X.env)] := by rfl) : DI X (.Tuple elts kk tpos) (.Call (.Name "enumerate" p) [e] [] pos) (tWEnum te) :=
  wkI (pi_enumF hg hm (pa_cons he pa_nil hs) hs) fun σ H R ⟨n0, H0, fr, av, n, Δ, m, Xd, Qd, S, xk, h, k⟩ => lift_at (B := H) m S (SameP.refl n H) xk h fun v H1 d n1 s1 S1 r1 q1 => by
    cases d <;> first | exact q1.elim | skip
    have r2 := r1
    cases r1 with
    | lst a1 a2 a3 r => exact ⟨_, _, rfl, SqL.of a1, k _ _ [(_, .lst _)] _ n1 s1 S1.pen (fun g hg => by cases List.mem_singleton.mp hg; exact r2) goes_enum (by rw [enumD_length]; exact sz62 q1.1) q1.2⟩
end
end Dl

set_option Elab.async false
set_option linter.all false
set_option maxRecDepth 100000
set_option maxHeartbeats 1000000
/-! Starred targets; pop. -/
namespace Dl
open PySem PySem.Spec PyProof.Rows L2
section
variable {prog : Program} {w : World} {A : Around} {E : Value → Shared → Prop} {s : Shared} {env : Env}
/-- what a starred target takes of a list, ahead of the new list -/
theorem unpack_starL {l : Addr} {items : Array Value} {nT i : Nat} {Q : List Value → Shared → Prop} (hl : s.heap.IsList l items) (hh : A.handled = none) (hi : i < nT) (hn : nT ≤ items.size + 1) (hz : items.size ≤ 16384)
    (hgo : ∀ (h' : Heap) (tk : Nat), (∀ b o, s.heap.get? b = some o → h'.get? b = some o) →
      Q (items.toList.take i ++ [.ref h'.objs.size] ++ (items.toList.drop i).drop (items.size + 1 - nT)) { s with heap := h'.push { cls := .type "list", data := .seq ((items.toList.drop i).take (items.size + 1 - nT)).toArray }, toks := tk }) : wpAny (model prog w) A (unpackItems (.ref l) nT (some i)) Q E s := by
  have hlt : l ≠ s.heap.objs.size := by obtain ⟨o, ho, _⟩ := hl; exact Nat.ne_of_lt (Heap.lt_size ho)
  unfold unpackItems notIterableAtAll
  refine wpAny_bind (wpAny_bind (wpAny_specialOf hl.typeIs slot_list_iter.lookup (wpAny_pure ?_)))
  simp only [Bool.false_eq_true, if_false]
  refine wpAny_bind (wpAny_holding (wpAny_pyIter_list hl ?_))
  refine wpAny_bind (wpAny_holding (PySem.W.kun_draw hlt i 0 _ _ ⟨_, Heap.get?_push_size _ rfl, rfl, rfl⟩ (hl.push _) (by omega) fun h₁ hit₁ hs₁ => ?_))
  have hl₁ : h₁.IsList l items := (hl.push _).extBut hs₁.extBut hlt
  rw [Nat.zero_add] at hit₁
  obtain ⟨oi, hoi, _⟩ := id hit₁
  obtain ⟨ol, hol, _⟩ := id hl₁
  have hfl : (items.toList.take i).length = i := by rw [List.length_take, Array.length_toList]; omega
  have hrl : (items.toList.drop i).length = items.size - i := by rw [List.length_drop, Array.length_toList]
  rw [List.drop_zero, if_neg (by rw [hfl]; omega)]
  refine wpAny_bind (wpAny_holding (PySem.W.kun_collect (T := "list_iterator") (.inr (.inr (.inl rfl))) (Walks.list (A := A.in1) hh s.heap.objs.size l hlt items) (fun j u st => st.1.typeIs) (by omega) ⟨hit₁, hl₁⟩ (Heap.lt_size hoi) (Heap.lt_size hol) (fun h₂ tk hk => ?_) (by rw [sizeLine_eq]; omega)))
  have e1 : (items.toList.drop i).length - (nT - 1 - i) = items.size + 1 - nT := by rw [hrl]; omega
  show wpAny _ _ (if (items.toList.drop i).length < nT - 1 - i then _ else _) _ _ _
  rw [if_neg (by rw [hrl]; omega)]
  show wpAny _ _ (newList ((items.toList.drop i).take ((items.toList.drop i).length - (nT - 1 - i))) >>= fun d => pure (items.toList.take i ++ [d] ++ (items.toList.drop i).drop ((items.toList.drop i).length - (nT - 1 - i)))) _ _ _
  rw [e1]
  refine wpAny_bind (wpAny_newList (wpAny_pure (hgo h₂ tk fun b o e => ?_)) (by rw [List.length_take, hrl, sizeLine_eq]; omega))
  exact hk b o (Nat.ne_of_lt (Heap.lt_size e)) (hs₁.extBut b o (Nat.ne_of_lt (Heap.lt_size e)) (Heap.get?_push_of_some _ e))
end
/-- a, *b, c = a list: i targets ahead of the starred one, nT in all -/
def gStar (K : PySem.W.Frag) (nT i : Nat) (t : TGs) : TG := fun v σ H Q => ∃ a xs, v = .ref a ∧ SqL K H a xs ∧ nT ≤ xs.length + 1 ∧ xs.length ≤ 16384 ∧
  ∀ p, H p = none → t (xs.take i ++ [.ref p] ++ (xs.drop i).drop (xs.length + 1 - nT)) σ (upd H p (.lst ((xs.drop i).take (xs.length + 1 - nT)))) Q
section
variable {X : Cx} {pos p : Pos}
theorem pg_star {es : List Expr} {k nT i : Nat} {t : TGs} (hc : X.calm = true) (hes : PGs X es t) (hi : i < nT) (hn : (assignEach es X.env).length = nT := by rfl) (hst : (assignEach es X.env).findIdx? (·.1) = some i := by rfl) : PG X (.Tuple es k pos) (gStar X.K nT i t) :=
  ⟨fun pins s σ H v u Q inv rv ⟨a, xs, ev, hq, hl, hz, hw⟩ => by
    subst ev
    cases rv
    obtain ⟨its, vv, pl, hz2⟩ := inv.list hq
    have el := vv.length
    rw [assign_Tuple]
    refine wpAny_bind (wpAny_standAt ?_)
    unfold unpack
    rw [hn, hst]
    refine wpAny_bind (wpAny_holding (unpack_starL pl.isList (inv.ok.hd hc) hi (by rw [show its.toArray.size = xs.length by rw [List.size_toArray, el]]; exact hl) (by rw [show its.toArray.size = xs.length by rw [List.size_toArray, el]]; exact hz) fun h' tk hk => ?_))
    have e1 : its.toArray.toList = its := rfl
    have e2 : its.toArray.size = xs.length := by rw [List.size_toArray, el]
    rw [e1, e2]
    have inv1 : Inv X pins σ H { s with heap := h', toks := tk } := inv.kept hk
    exact hes.run pins _ σ _ _ _ Q (inv1.lnew (t' := tk) ((vv.drop i).take (xs.length + 1 - nT)) (by rw [List.length_take]; omega)) (((vv.take i).append (.cons (show L2.RelV (.ref h'.objs.size) (.ref h'.objs.size) from rfl) .nil)).append ((vv.drop i).drop _)) (hw _ inv1.fresh)⟩
theorem pgs_star {e : Expr} {es : List Expr} {t : TG} {u : TGs} (h1 : PG X e t) (h2 : PGs X es u) (hs : (assignEach (.Starred e p :: es) X.env).map (·.2) = assign e X.env :: (assignEach es X.env).map (·.2) := by rfl) : PGs X (.Starred e p :: es) (gCons t u) :=
  ⟨fun pins s σ H vs us Q inv rv ⟨v, vr, ev, hw⟩ => by
    subst ev
    cases rv with
    | cons r rr =>
      rw [hs]
      exact assignInOrder_cons (thn (h1.run pins s σ H _ _ _ inv r hw) fun _ s1 ⟨σ1, H1, inv1, q1⟩ => h2.run pins s1 σ1 H1 _ _ Q inv1 rr q1)⟩
variable [XP] [XE]
/-- first, *rest = xs : both stay as they are -/
def tStar1D (i j : Nat) (te : DTE) : DTS := fun Dd Δ n => te .frz Δ n (Dd.xs Δ) fun d n1 => match d with
  | .lst (x :: ds) => ds.length < 16384 ∧ Dd.nx ((Δ.set i (some (.frz x))).set j (some (.frz (.lst ds)))) n1
  | _ => False
/-- *rest, last = xs : rest is a new list that the slot alone holds -/
def tStar2D (i j : Nat) (te : DTE) : DTS := fun Dd Δ n => te .frz Δ n (Dd.xs Δ) fun d n1 => match d with
  | .lst ds => ds.length ≤ 16384 ∧ flatAll ds = true ∧ ∃ es x, ds = es ++ [x] ∧ Dd.nx ((Δ.set i (some (.own es))).set j (some (.frz x))) n1
  | _ => False
theorem ds_star1 (i j : Nat) {x y : Str} {e : Expr} {te : DTE} {p1 p2 p3 pt : Pos} {kt : Nat} (hc : X.calm = true) (hN : X.N.Nodup) (he : DE X e te) (hi : X.N[i]? = some x := by rfl) (hj : X.N[j]? = some y := by rfl)
    (hx : Loc X.env.scope x := by first | exact Or.inl rfl | exact Or.inr rfl) (hy : Loc X.env.scope y := by first | exact Or.inl rfl | exact Or.inr rfl) (fx : X.fn x = true ∨ X.env.scope.names.lookup x = some .local := by first | exact .inl rfl | exact .inr rfl) (fy : X.fn y = true ∨ X.env.scope.names.lookup y = some .local := by first | exact .inl rfl | exact .inr rfl)
    (hs : swapsWithSole [.Tuple [.Name x p1, .Starred (.Name y p2) p3] kt pt] e pos.line X.env = pure false := by rfl) (hw : swappedStores [.Tuple [.Name x p1, .Starred (.Name y p2) p3] kt pt] e X.env = pure none := by rfl) :
    DS X (.Assign [.Tuple [.Name x p1, .Starred (.Name y p2) p3] kt pt] e pos) (tStar1D i j te) :=
  wkS (ps_asg he (pg_star (nT := 2) (i := 1) hc (pgs_cons (pg_name hN hi hx fx) (pgs_star (pg_name hN hj hy fy) pgs_nil)) (by decide)) hs hw) fun E σ H ⟨n0, H0, fr, av, n, Δ, Dd, S, h, k⟩ => lift_at (B := H) .frz S (SameP.refl n H) (k.xk S) h fun v H1 d n1 s1 S1 r1 q1 => by
    match d, r1, q1 with
    | .lst (x :: ds), .lst (vs := v0 :: vs) a1 a2 a3 (.cons r0 r), q1 =>
      have el := r.length
      refine ⟨_, _, rfl, SqL.of a1, by simp, by rw [List.length_cons]; omega, fun q hq => ?_⟩
      have e1 : ((v0 :: vs).drop 1).take ((v0 :: vs).length + 1 - 2) = vs := by simp
      have e2 : (v0 :: vs).take 1 ++ [V.ref q] ++ ((v0 :: vs).drop 1).drop ((v0 :: vs).length + 1 - 2) = [v0, .ref q] := by simp
      rw [e1, e2]
      have sm := SameP.new (n := n1) (o := HO.lst vs) hq
      have rq : Rp n1 (NO av σ Δ) (upd H1 q (.lst vs)) (.ref q) (.lst ds) := .lst upd_same (S1.neP hq) (S1.no_new hq) (r.same sm)
      have S2 := ((S1.mono sm (S1.pen.same (same_new hq))).infr (gs := [(V.ref q, .lst ds)]) (fun g hg => by cases List.mem_singleton.mp hg; exact rq)).setF i (r0.same sm)
      exact ⟨_, _, rfl, _, _, rfl, rfl, k.nx _ _ _ _ (S2.setF j (S2.gh _ (List.mem_append_left _ (List.mem_singleton.mpr rfl)))).unfr q1.2⟩
theorem ds_star2 (i j : Nat) {x y : Str} {e : Expr} {te : DTE} {p1 p2 p3 pt : Pos} {kt : Nat} (hc : X.calm = true) (hN : X.N.Nodup) (he : DE X e te) (hi : X.N[i]? = some x := by rfl) (hj : X.N[j]? = some y := by rfl)
    (hx : Loc X.env.scope x := by first | exact Or.inl rfl | exact Or.inr rfl) (hy : Loc X.env.scope y := by first | exact Or.inl rfl | exact Or.inr rfl) (fx : X.fn x = true ∨ X.env.scope.names.lookup x = some .local := by first | exact .inl rfl | exact .inr rfl) (fy : X.fn y = true ∨ X.env.scope.names.lookup y = some .local := by first | exact .inl rfl | exact .inr rfl)
    (hs : swapsWithSole [.Tuple [.Starred (.Name x p1) p3, .Name y p2] kt pt] e pos.line X.env = pure false := by rfl) (hw : swappedStores [.Tuple [.Starred (.Name x p1) p3, .Name y p2] kt pt] e X.env = pure none := by rfl) :
    DS X (.Assign [.Tuple [.Starred (.Name x p1) p3, .Name y p2] kt pt] e pos) (tStar2D i j te) :=
  wkS (ps_asg he (pg_star (nT := 2) (i := 0) hc (pgs_star (pg_name hN hi hx fx) (pgs_cons (pg_name hN hj hy fy) pgs_nil)) (by decide)) hs hw) fun E σ H ⟨n0, H0, fr, av, n, Δ, Dd, S, h, k⟩ => lift_at (B := H) .frz S (SameP.refl n H) (k.xk S) h fun v H1 d n1 s1 S1 r1 q1 => by
    cases d <;> first | exact q1.elim | skip
    obtain ⟨hz, hf, es, x, rfl, q1⟩ := q1
    cases r1 with
    | @lst a vs _ a1 a2 a3 r =>
      have el := r.length
      rw [List.length_append, List.length_singleton] at el hz
      refine ⟨_, _, rfl, SqL.of a1, by omega, by omega, fun q hq => ?_⟩
      obtain ⟨v0, g1, r0⟩ := r.get (i := es.length) (d := x) (by simp)
      have e1 : (vs.drop 0).take (vs.length + 1 - 2) = vs.take es.length := by rw [List.drop_zero, el]; rfl
      have e2 : vs.take 0 ++ [V.ref q] ++ (vs.drop 0).drop (vs.length + 1 - 2) = [.ref q, v0] := by
        have e3 : vs.drop es.length = [v0] := by
          have hlt : es.length < vs.length := by omega
          rw [List.drop_eq_getElem_cons hlt, List.drop_of_length_le (by omega)]
          rw [List.getElem?_eq_getElem hlt] at g1
          cases g1; rfl
        rw [List.drop_zero, el, show es.length + 1 + 1 - 2 = es.length by omega, e3]; rfl
      rw [e1, e2]
      have sm := SameP.new (n := n1) (o := HO.lst (vs.take es.length)) hq
      have re : RpAll n1 (NO av σ Δ) (upd H1 q (.lst (vs.take es.length))) (vs.take es.length) es := by
        have := (r.take es.length).same sm
        rw [List.take_left] at this
        exact this
      have fe : flatAll es = true := by
        rw [flatAll_iff] at hf ⊢
        exact fun d hd => hf d (List.mem_append_left _ hd)
      have fx : flat x = true := flatAll_iff.mp hf x (by simp)
      have S2 := S1.setO sm (S1.pen.same (same_new hq)) i (.of hq) upd_same (S1.neP hq) fe re
      exact ⟨_, _, rfl, _, _, rfl, rfl, k.nx _ _ _ _ (S2.setF j (Rp.flat x _ fx (r0.same sm))) q1⟩
/-- x = l.pop() of a list that a slot alone holds -/
def tPopD (i l : Nat) : DTS := fun Dd Δ n => match Δ[l]? with
  | some (some (.own ds)) => flatAll ds = true ∧ ∃ es x, ds = es ++ [x] ∧ Dd.nx ((Δ.set l (some (.own es))).set i (some (.frz x))) n
  | _ => False
theorem ds_pop {tg e : Expr} {i l : Nat} (hp : PS X (.Assign [tg] e pos) (tAsg (tBM0 X.K "list" rPop (tVar l)) (gName i))) : DS X (.Assign [tg] e pos) (tPopD i l) :=
  wkS hp fun E σ H ⟨n0, H0, fr, av, n, Δ, Dd, S, h, k⟩ => by
    unfold tPopD at h
    split at h
    · rename_i ds e1
      obtain ⟨hf, es, x, rfl, q⟩ := h
      obtain ⟨p, vs, e2, np, e3, r⟩ := S.at_own e1
      obtain ⟨v0, g1, r0⟩ := r.get (i := es.length) (d := x) (by simp)
      have el := r.length
      rw [List.length_append, List.length_singleton] at el
      refine ⟨_, e2, .inl ⟨rfl, _, SqL.of e3⟩, p, vs, v0, rfl, rfl, e3, by rw [el]; exact g1, ?_⟩
      have e4 : vs.dropLast = vs.take es.length := by rw [List.dropLast_eq_take, el]; rfl
      have re : RpAll n (NO av σ Δ) H vs.dropLast es := by
        rw [e4]
        have := r.take es.length
        rw [List.take_left] at this
        exact this
      have fx : flat x = true := flatAll_iff.mp hf x (by simp)
      have S2 := S.wr e1 e2 re
      have sm : Rp n (NO av σ (Δ.set l (some (.own es)))) (upd H p (.lst vs.dropLast)) v0 x :=
        Rp.stay (stay_av (A := fun _ => False) (fun _ z => z.elim) e3) x v0 (Rp.flat x v0 fx r0) |>.imp fun _ _ _ z => z.elim
      exact k.nx _ _ _ _ (S2.setF i sm) q
    · exact h.elim
end
end Dl

set_option Elab.async false
set_option linter.all false
set_option maxRecDepth 100000
set_option maxHeartbeats 1000000
/-! int of a text, signs in a text, xs[::-1], text * int, extend with a tuple. -/
namespace Dl
open PySem PySem.Spec PyProof.Rows L2
variable [XP] [XE]
def drIntS : DRn := fun ds Q => match ds with | [.str a] => ∃ z, PySem.intText? a = some z ∧ a.length ≤ 640 ∧ Q (.int z) | _ => False
theorem sn_intS : SndN (fun xs H Q => ∃ a n, xs = [.str a] ∧ PySem.intText? a = some n ∧ a.length ≤ 640 ∧ Q (.int n) H) drIntS := fun P A B H xs ds Q Qd p0 nA r h k => by
  match ds, r, h with
  | [.str a], .cons (.str _) .nil, ⟨z, h1, h2, h⟩ => exact ⟨a, z, rfl, h1, h2, k _ H _ (Same.refl H) (.int _) h⟩
def drInSign (neg : Bool) : DR2 := fun x y Q => match x, y with | .str x, .str z => ∃ c, x = ⟨#[c]⟩ ∧ Q (.bl (if neg then !decide (c ∈ z.cps.toList) else decide (c ∈ z.cps.toList))) | _, _ => False
theorem sn_inSign : Snd2 (fun x y H Q => ∃ (c : Nat) (z : Str), x = .str ⟨#[c]⟩ ∧ y = .str z ∧ Q (.bl (decide (c ∈ z.cps.toList))) H) (drInSign false) := fun P A B H x y d e Q Qd p0 nA rx ry h k => by
  cases d <;> cases e <;> first | exact h.elim | skip
  cases rx
  cases ry
  obtain ⟨c, rfl, h⟩ := h
  exact ⟨c, _, rfl, rfl, k _ H _ (Same.refl H) (.bl _) h⟩
theorem sn_notInSign : Snd2 (fun x y H Q => ∃ (c : Nat) (z : Str), x = .str ⟨#[c]⟩ ∧ y = .str z ∧ Q (.bl (!decide (c ∈ z.cps.toList))) H) (drInSign true) := fun P A B H x y d e Q Qd p0 nA rx ry h k => by
  cases d <;> cases e <;> first | exact h.elim | skip
  cases rx
  cases ry
  obtain ⟨c, rfl, h⟩ := h
  exact ⟨c, _, rfl, rfl, k _ H _ (Same.refl H) (.bl _) h⟩
/-! ### a tuple backwards -/
theorem adjust_back (m : Nat) : Builtin.Slice.sliceAdjust none none (-1) (m : Int) = ((m : Int) - 1, -1) := by
  simp [Builtin.Slice.sliceAdjust]
theorem places_back (m : Nat) : Builtin.Slice.slicePlaces ((m : Int) - 1) (-1) (-1) = m := by
  simp only [Builtin.Slice.slicePlaces]
  rw [if_neg (by decide), show -(-1 : Int) = 1 from rfl, Int.ediv_one]
  split <;> omega
theorem fm_cong {α β : Type} {f g : α → Option β} : ∀ {l : List α}, (∀ x ∈ l, f x = g x) → l.filterMap f = l.filterMap g
  | [], _ => rfl
  | x :: l, h => by
    rw [List.filterMap_cons, List.filterMap_cons, h x (List.mem_cons_self ..), fm_cong fun y hy => h y (List.mem_cons_of_mem _ hy)]
theorem pick_back (xs : Array Value) : ((List.range xs.size).filterMap fun (j : Nat) => xs[((xs.size : Int) - 1 + (j : Int) * (-1)).toNat]?).toArray = xs.toList.reverse.toArray := by
  have e := HT.pick_gen xs.toList.reverse.toArray 0 xs.size
  rw [List.drop_zero, List.take_of_length_le (by simp)] at e
  rw [show xs.toList.reverse.toArray = (xs.toList.reverse.toArray.toList).toArray from rfl, ← e]
  congr 1
  refine fm_cong fun j hj => ?_
  rw [List.mem_range] at hj
  have e1 : ((xs.size : Int) - 1 + (j : Int) * (-1)).toNat = xs.size - 1 - j := by omega
  have e2 : (((0 : Nat) : Int) + (j : Int) * 1).toNat = j := by omega
  rw [e1, e2, ← Array.getElem?_toList]
  refine Eq.symm ?_
  show xs.toList.reverse.toArray[j]? = _
  rw [List.getElem?_toArray, List.getElem?_reverse (by simpa using hj)]
  simp
section
variable {prog : Program} {w : World} {A : Around} {E : Value → Shared → Prop} {s : Shared}
theorem applied_back {sl : Addr} {vl vu vs : Value} {m : Nat} {Q : Int × Int × Nat → Shared → Prop} (hs : s.heap.IsSliceOf sl vl vu vs) (pl : IsPart vl none) (pu : IsPart vu none) (ps : IsPart vs (some (-1)))
    (h : Q ((m : Int) - 1, -1, m) s) : wpAny (model prog w) A (Builtin.Slice.sliceApplied (.ref sl) (pure (m : Int))) Q E s := by
  obtain ⟨ob, g1, g2, g3⟩ := id hs
  unfold Builtin.Slice.sliceApplied
  unfold Builtin.Slice.sliceFields
  refine wpAny_bind (wpAny_bind (wpAny_field g1 g3 (x := vl) rfl (wpAny_bind (wpAny_field g1 g3 (x := vu) rfl (wpAny_bind (wpAny_field g1 g3 (x := vs) rfl (wpAny_pure ?_)))))))
  refine wpAny_bind (HT.slicePart_ ps ?_)
  show wpAny _ _ (if ((-1 : Int) == 0) = true then _ else _) _ _ s
  rw [if_neg (by decide)]
  refine wpAny_bind (HT.slicePart_ pl (wpAny_bind (HT.slicePart_ pu (wpAny_bind (wpAny_pure ?_)))))
  show wpAny _ _ (match Builtin.Slice.sliceAdjust none none (-1) (m : Int) with | (lo, hi) => pure (lo, (-1 : Int), Builtin.Slice.slicePlaces lo hi (-1))) _ _ s
  rw [adjust_back]
  show wpAny _ _ (pure ((m : Int) - 1, (-1 : Int), Builtin.Slice.slicePlaces ((m : Int) - 1) (-1) (-1))) _ _ s
  rw [places_back]
  exact wpAny_pure h
theorem getItem_back {t sl : Addr} {items : Array Value} {vl vu vs : Value} {Q : Value → Shared → Prop} (ht : IsTup s.heap t items) (hs : s.heap.IsSliceOf sl vl vu vs) (pl : IsPart vl none) (pu : IsPart vu none) (ps : IsPart vs (some (-1)))
    (h : Q (.ref s.heap.objs.size) { s with heap := s.heap.push { cls := .type "tuple", data := .seq items.toList.reverse.toArray } }) (hsz : items.size ≤ sizeLine) : wpAny (model prog w) A (getItem (.ref t) (.ref sl)) Q E s := by
  have hz : sizeOk (.seq items.toList.reverse.toArray) := by
    show items.toList.reverse.toArray.size ≤ sizeLine
    rw [List.size_toArray, List.length_reverse, Array.length_toList]
    exact hsz
  obtain ⟨ob, g1, g2, g3⟩ := id hs
  have isSl : s.TypeIs (.ref sl) "slice" := ⟨ob, g1, g2⟩
  unfold getItem
  (try with_reducible refine wpAny_holding ?_); (first | refine wpAny_bind (wpAny_pure ?_) | skip)
  refine wpAny_bind (wpAny_sequenceKey ht.typeIs (by decide) (wpAny_bind (wpAny_callSpecial?_slot (name := Str.ofString "__getitem__") ht.typeIs PyProof.Rows.slot_tuple_getitem
    (wpAny_call_entry PyProof.Rows.slot_tuple_getitem ht.typeIs entry_tuple_getitem ?_ (args_tuple_getitem _ _)))))
  show wpAny _ _ (Builtin.Tuple.tupleItemsOf (.ref t) >>= _) _ _ s
  refine wpAny_bind (tupleItemsOf_ ht (wpAny_bind (wpAny_typeOf isSl ?_)))
  rw [if_pos (by decide)]
  refine wpAny_bind (applied_back hs pl pu ps ?_)
  show wpAny _ _ (if (((items.size : Int) - 1) == 0 && (-1 : Int) == 1 && items.size == items.size) = true then _ else _) _ _ s
  rw [if_neg (by rw [show ((-1 : Int) == 1) = false by decide, Bool.and_false, Bool.false_and]; exact Bool.false_ne_true), pick_back]
  first | exact wpAny_bind (m := Builtin.Tuple.tupleExact _) (wpAny_newObj_type (wpAny_pure ⟨_, rfl, wpAny_pure h⟩) hz) | exact wpAny_bind (m := Builtin.Tuple.tupleExact _) (wpAny_newObj_type (wpAny_bind (wpAny_pure (wpAny_pure ⟨_, rfl, wpAny_pure h⟩))) hz) | exact wpAny_bind (wpAny_bind (m := Builtin.Tuple.tupleExact _) (wpAny_newObj_type (wpAny_pure (wpAny_pure ⟨_, rfl, wpAny_pure h⟩)) hz)) | exact wpAny_bind (wpAny_bind (m := Builtin.Tuple.tupleExact _) (wpAny_newObj_type (wpAny_pure ⟨_, rfl, wpAny_pure h⟩) hz))
end
def tRevT (K : PySem.W.Frag) (te : TE) : TE := fun σ H Q => te σ H fun x H1 => ∃ a xs, x = .ref a ∧ SqT K H1 a xs ∧ NwT xs.reverse H1 Q
section
variable {X : Cx} {e : Expr}
theorem pe_revT {te : TE} {kk : Nat} {p1 p2 p3 pos : Pos} (he : PE X e te) : PE X (.Subscript e (.Slice none none (some (.UnaryOp .USub (.Constant (.int 1) kk p1) p2)) p3) pos) (tRevT X.K te) :=
  ⟨fun pins s σ H Q inv hw => by
    refine Subscript_ (thn (he.run pins s σ H _ inv hw) fun v s1 ⟨x, H1, inv1, r1, a, xs, ex, hx, q⟩ => ?_)
    subst ex
    cases r1
    have step : PO X (some (.UnaryOp .USub (.Constant (.int 1) kk p1) p2)) (tPart (tUn (rU fun i => .int (-i)) (tC (.int 1)))) := po_some (pe_un un_neg pe_int)
    refine wpAny_Slice (thn (po_none.run pins s1 σ H1 (fun o H2 => o = none ∧ H2 = H1) inv1 ⟨rfl, rfl⟩) fun vl s2 ⟨l, H2, inv2, pl, el, e2⟩ => ?_)
    subst el e2
    refine thn (po_none.run pins s2 σ H2 (fun o H3 => o = none ∧ H3 = H2) inv2 ⟨rfl, rfl⟩) fun vu s3 ⟨u, H3, inv3, pu, eu, e3⟩ => ?_
    subst eu e3
    refine thn (step.run pins s3 σ H3 (fun o H4 => o = some (-1) ∧ H4 = H3) inv3 ⟨1, rfl, -1, rfl, rfl, rfl⟩) fun vs s4 ⟨o, H4, inv4, ps, eo, e4⟩ => ?_
    subst eo e4
    have inv5 : Inv X pins σ H4 { s4 with heap := s4.heap.push { cls := .type "slice", data := .fields #[vl, vu, vs] } } := inv4.kept (t' := s4.toks) fun b ob z => Heap.get?_push_of_some _ z
    obtain ⟨its, r, pt, hz⟩ := inv5.tuple hx
    have hlen := r.length
    refine tail_any (ops := [.ref a, .ref s4.heap.objs.size]) pt.typeIs (PyProof.Rows.slot_tuple_getitem.lookup) ?_ (by with_unfolding_all rfl)
    refine getItem_back pt (Heap.IsSliceOf.new _ vl vu vs) pl pu ps ?_ (by rw [List.size_toArray]; omega)
    exact ⟨.ref _, _, inv5.laid (t' := s4.toks) (fun b ob z => Heap.get?_push_of_some _ z) (Nat.le_refl _) (obj_tup rfl (Heap.get?_push_size _ rfl) rfl r.reverse (by rw [List.length_reverse]; exact hz)), rfl, q _ _ (inv5.hok.fresh (Nat.le_refl _)) rfl⟩⟩
def tRevD (te : DTE) : DTE := fun _ Δ n X Q => te .bor Δ n X fun x n1 => match x with | .tup xs => flatAll xs = true ∧ Q (.tup xs.reverse) n1 | _ => False
omit [XP] [XE] in
theorem flat_rev {xs : List D} (h : flatAll xs = true) : flatAll xs.reverse = true := by
  rw [flatAll_iff] at h ⊢
  exact fun d hd => h d (List.mem_reverse.mp hd)
theorem d_rev {te : DTE} {kk : Nat} {p1 p2 p3 pos : Pos} (he : DE X e te) : DE X (.Subscript e (.Slice none none (some (.UnaryOp .USub (.Constant (.int 1) kk p1) p2)) p3) pos) (tRevD te) :=
  wkE (pe_revT he) fun σ H Q ⟨n0, H0, nB, B, fr, av, n, Δ, m, Xd, Qd, S, bb, xk, h, k⟩ => lift_at .bor S bb xk h fun v H1 d n1 s1 S1 r1 q1 => by
    cases d <;> first | exact q1.elim | skip
    cases r1 with
    | @tup a vs _ a1 a2 r =>
      refine ⟨_, _, rfl, TupO.sq a1, fun q ob hq hd => ?_⟩
      have sm := SameP.new (n := n1) (o := HO.frz ob (HO.tup vs.reverse)) hq
      exact k _ _ _ n1 (s1.trans sm) (S1.pen.same (same_new hq)) (.tup (.new hd) (S1.neP hq) (RpAll.flat _ _ (flat_rev q1.1) (r.same sm).reverse)) q1.2
/-! ### text * int: a text of that length -/
omit [XP] [XE] in
theorem rep_size (a : Array Nat) : ∀ (n : Nat) (acc : Array Nat), ((List.replicate n a).foldl (· ++ ·) acc).size = acc.size + n * a.size
  | 0, acc => by simp
  | n + 1, acc => by
    rw [List.replicate_succ, List.foldl_cons, rep_size a n, Array.size_append, Nat.succ_mul]
    omega
def rRepS : R2 := fun x y H Q => ∃ a k, x = .str a ∧ y = .int k ∧ 0 < k ∧ k ≤ 1000 ∧ a.length ≤ 1000 ∧ ∀ z : Str, z.length = a.length * k.toNat → Q (.str z) H
theorem op_repS : OpR X (binaryOp .Mult) rRepS := fun pins s σ H x y v u Q inv rx ry ⟨a, k, ex, ey, k0, k1, az, q⟩ => by
  subst ex ey
  obtain ⟨t, rfl⟩ := rx
  obtain ⟨t', rfl⟩ := ry
  have a0 : 0 ≤ a.length := Nat.zero_le _
  have mz : a.length * k.toNat ≤ 1000000 := Nat.mul_le_mul az (show k.toNat ≤ 1000 by omega)
  have big : ¬ (a.length : Int) > (2 ^ 63 - 1) / k := by
    have : (1000 : Int) ≤ (2 ^ 63 - 1) / k := by
      rw [Int.le_ediv_iff_mul_le k0]
      omega
    omega
  refine PySem.P.mul_str (by rw [decide_eq_false (by omega), decide_eq_false (by omega)]; rfl) (fun _ _ => big) (fun _ _ => ?_) ?_
  · show decide (_ > sizeLine) = false
    rw [decide_eq_false_iff_not, sizeLine_eq]
    omega
  · rw [if_neg (by omega)]
    split
    · rename_i hc
      refine ⟨.str a, H, inv, ⟨t, rfl⟩, q a ?_⟩
      rw [Bool.or_eq_true] at hc
      rcases hc with hc | hc
      · rw [eq_of_beq hc]; simp
      · rw [eq_of_beq hc]; simp
    · have e : (⟨(List.replicate k.toNat a.cps).foldl (· ++ ·) #[]⟩ : Str).length = a.length * k.toNat := by
        show ((List.replicate k.toNat a.cps).foldl (· ++ ·) #[]).size = a.cps.size * k.toNat
        rw [rep_size]
        simp [Nat.mul_comm]
      refine ⟨?_, .str _, H, inv.kept fun _ _ z => z, ⟨_, rfl⟩, q _ e⟩
      show Str.length _ ≤ sizeLine
      rw [e, sizeLine_eq]
      omega
def drMulS : DR2 := fun x y Q => match x, y with
  | .str a, .int k => 0 < k ∧ k ≤ 1000 ∧ a.length ≤ 1000 ∧ ∀ z : Str, z.length = a.length * k.toNat → Q (.str z)
  | _, _ => False
theorem sn_mulS : Snd2 rRepS drMulS := fun P A B H x y d e Q Qd p0 nA rx ry h k => by
  cases d <;> cases e <;> first | exact h.elim | skip
  cases rx
  cases ry
  obtain ⟨h1, h2, h3, h⟩ := h
  exact ⟨_, _, rfl, rfl, h1, h2, h3, fun z hz => k _ H _ (Same.refl H) (.str _) (h z hz)⟩
end
end Dl

set_option Elab.async false
set_option linter.all false
set_option maxRecDepth 100000
set_option maxHeartbeats 1000000
namespace Dl
open PySem PySem.Spec PyProof.Rows L2
theorem list_ext_tup (l b : Addr) (is js : Array Value) (n m : Nat) (dd : Option Addr) (sl : Array (Option Value)) (h0 : ¬(!is.isEmpty && Builtin.List.listTooLong (is.size + js.size)) = true) (h1 : is.size ≤ sizeLine) (h2 : is.size + js.size ≤ sizeLine + 1) :
    Meets (Builtin.«list.extend» ⟨[.ref l, .ref b], []⟩) (fun _ R s => s.heap.get? l = some { cls := .type "list", dict := none, data := .seq is n, slots := #[] } ∧ s.heap.get? b = some { cls := .type "tuple", dict := dd, data := .seq js m, slots := sl } ∧ R (.ok (.ret Value.none)) { s with heap := s.heap.update l (Obj.mapSeq fun x => x ++ js), toks := s.toks }) :=
  .of_wp fun prog w A R s h => by
    obtain ⟨hp, g, d, tk, os⟩ := s
    obtain ⟨hl, hb, h⟩ := h
    have f1 := AutoSeq1.idx_int
    have f2 := AutoSeq1.sub_tuple_tuple
    have f3 := AutoSeq1.sub_list_list
    have f4 := AutoSeq1.sub_tuple_list
    have z2 : (is ++ js).size ≤ sizeLine + 1 := by rw [Array.size_append]; exact h2
    wp_walk using (wpAny_updateSeq hl rfl (hz := h1) (_hz' := z2)), AutoSeq1.wpAny_loadPart' hl, AutoSeq1.wpAny_loadPart' hb
    exact ⟨_, rfl, h⟩
def rExtT (K : PySem.W.Frag) : V → List V → Hp → VK → Prop := fun x vs H Q => ∃ l b xs zs, x = .ref l ∧ vs = [.ref b] ∧ H l = some (.lst xs) ∧ SqT K H b zs ∧ xs.length + zs.length ≤ sizeLine ∧ Q .non (upd H l (.lst (xs ++ zs)))
section
variable {X : Cx} {pos : Pos} {e : Expr} {te : DTE}
theorem mt_extT : MtM X "list.extend" (rExtT X.K) := fun pins s σ H x vs v us Q inv rx rv ⟨l, b, xs, zs, ex, ev, hH, hB, hz, q⟩ => by
  subst ex ev
  cases rx
  obtain ⟨u, rfl, ru⟩ := rv.one
  cases ru
  obtain ⟨z, its, n, r, hl, e1⟩ := inv.lstM hH
  obtain ⟨js, r2, ⟨⟨cls, dd, data, sl⟩, ho, hc, m, hd⟩, hs⟩ := inv.tuple hB
  simp only at hc hd
  subst hc hd
  have l2 := r2.length
  have hsz : its.toArray.size + js.toArray.size ≤ sizeLine := by rw [List.size_toArray, List.size_toArray]; omega
  refine call_meets F.slot_list_extend ⟨_, e1, rfl⟩ F.entry_list_extend (F.args_list_extend_2 _ _)
    (list_ext_tup l b its.toArray js.toArray n m dd sl (by rw [notLongL hsz, Bool.and_false]; exact Bool.false_ne_true) (by rw [List.size_toArray]; omega) (by omega)) ⟨e1, ho, ?_⟩
  exact ⟨.non, _, inv.lset (its' := its ++ js) hH e1 (by simp) (r.append r2) (by rw [List.length_append]; omega), rfl, q⟩
variable [XP] [XE]
/-- l.extend(e), e a tuple -/
def tExtTD (i : Nat) (te : DTE) : DTS := fun Dd Δ n => match Δ[i]? with
  | some (some (.own ds)) => te .bor Δ n (Dd.xs Δ) fun d n1 => match d with | .tup es => ds.length + es.length ≤ sizeLine ∧ flatAll es = true ∧ Dd.nx (Δ.set i (some (.own (ds ++ es)))) n1 | _ => False
  | _ => False
theorem ds_extT {i : Nat} (he : PE X e (tBM X.K "list" (rExtT X.K) (tVar i) (tCons (lift te) tNil))) (hsw : swapsWith e none pos.line X.env = pure false := by rfl) : DS X (.Expr e pos) (tExtTD i te) :=
  wkS (ps_expr he hsw) fun E σ H ⟨n0, H0, fr, av, n, Δ, Dd, S, h, k⟩ => by
    unfold tExtTD at h
    split at h
    · rename_i ds e1
      obtain ⟨p, vs, e2, np, e3, r⟩ := S.at_own e1
      refine ⟨_, e2, .inl ⟨rfl, _, SqL.of e3⟩, lift_at (B := H) .bor S (SameP.refl n H) (k.xk S) h fun v H1 d n1 s1 S1 r1 q1 => ?_⟩
      cases d <;> first | exact q1.elim | skip
      cases r1 with
      | tup a1 a2 r2 =>
        refine ⟨p, _, vs, _, rfl, rfl, (s1.keep _ _ e3 np).1, TupO.sq a1, by rw [r.length, r2.length]; exact q1.1, ?_⟩
        exact k.nx _ _ _ _ (S1.wr e1 e2 ((r.same s1).append (RpAll.flat _ _ q1.2.1 r2))) q1.2.2
    · exact h.elim
end
end Dl

set_option Elab.async false
set_option linter.all false
set_option maxRecDepth 100000
set_option maxHeartbeats 1000000
/-! enumerate over a tuple. -/
namespace Dl
open PySem PySem.Spec PyProof.Rows L2
theorem enum_new {v : Value} {o : Obj} {Hv : Heap → Prop} (B : Begins v o Hv) :
    Meets (Builtin.«enumerate.__new__» ⟨[.type "enumerate", v], []⟩) (fun _ R s => Hv s.heap ∧ R (.ok (.ret (.ref (s.heap.push o).objs.size))) { s with heap := (s.heap.push o).push { cls := .type "enumerate", data := .fields #[.none, .bool false, .ref s.heap.objs.size, rawInt 0, .none, .none] } }) :=
  .of_wp fun prog w A R s h => by
    obtain ⟨hp, g, d, tk, os⟩ := s
    obtain ⟨h1, h⟩ := h
    have sb := sub_enumerate
    have go : ∀ {A' : Around} {E : Value → Shared → Prop} {Q : Value → Shared → Prop}, Q (.ref hp.objs.size) ⟨hp.push o, g, d, tk, os⟩ → wpAny (model prog w) A' (pyIter v) Q E ⟨hp, g, d, tk, os⟩ := fun q => B.iter prog w _ _ ⟨hp, g, d, tk, os⟩ _ h1 q
    wp_walk using go
    refine wpAny_stack_any fun st => wpAny_pure ?_
    split
    · rename_i c _ _ _ _ _
      cases (c == Value.type "enumerate") <;> (wp_walk using go; exact ⟨_, rfl, h⟩)
    · wp_walk using go; exact ⟨_, rfl, h⟩
section
variable {prog : Program} {w : World} {A : Around} {E : Value → Shared → Prop} {s : Shared}
theorem call_enum {v : Value} {o : Obj} {Hv : Heap → Prop} {Q : Value → Shared → Prop} (B : Begins v o Hv) (h1 : Hv s.heap)
    (h : ∀ h' : Heap, IsEnum h' (s.heap.objs.size + 1) s.heap.objs.size 0 .none → h'.get? s.heap.objs.size = some o → (∀ b u, s.heap.get? b = some u → h'.get? b = some u) → Q (.ref (s.heap.objs.size + 1)) { s with heap := h' }) :
    wpAny (model prog w) A (call (.type "enumerate") [v]) Q E s := by
  refine callType_new F.called_enumerate (by decide) (F.typeCall_enumerate_1 _) (F.newCall_enumerate_1 _) (fun obj => F.args_object_init_2 obj _) F.entry_enumerate_new (enum_new B) ⟨h1, ?_⟩
  have z : (s.heap.push o).objs.size = s.heap.objs.size + 1 := Heap.size_push ..
  show _ ∧ _
  rw [z]
  have he : IsEnum ((s.heap.push o).push { cls := .type "enumerate", data := .fields #[.none, .bool false, .ref s.heap.objs.size, rawInt 0, .none, .none] }) (s.heap.objs.size + 1) s.heap.objs.size 0 .none := by
    have q := Heap.get?_push_size (s.heap.push o) (o := { cls := .type "enumerate", data := .fields #[.none, .bool false, .ref s.heap.objs.size, rawInt 0, .none, .none] }) rfl
    rw [z] at q
    exact q
  exact ⟨⟨_, he, rfl⟩, h _ he (Heap.get?_push_of_some _ (Heap.get?_push_size _ B.free)) fun b u x => Heap.get?_push_of_some _ (Heap.get?_push_of_some _ x)⟩
end
/-- the tuple at a, each item in a new pair -/
def Itu (K : PySem.W.Frag) (a : Addr) : It :=
  ⟨fun i H => ∃ (xs : List V) (x : V), SqT K H a xs ∧ xs[i]? = some x, fun i H v H' => ∃ T x ob, v = .ref T ∧ H T = none ∧ ob.dict = none ∧ H' = upd H T (.frz ob (.tup [.int (i : Nat), x])) ∧ ∀ xs, SqT K H a xs → xs[i]? = some x, fun i H => ∃ xs : List V, SqT K H a xs ∧ xs.length ≤ i⟩
theorem turn_enumT {P : Program} {w : World} {K : PySem.W.Frag} {elts : List Expr} {kk : Nat} {tpos : Pos} (a e it : Addr) :
    Turn P w K (.Tuple elts kk tpos) (Itu K a) [e, it] e (fun i h => (∃ old, IsEnum h e it ((i : Nat) : Int) old) ∧ h.IsTupleIter it a i ∧ e ≠ it ∧ a ≠ it ∧ a ≠ e) where
  mem := by simp
  obj := fun i h ⟨⟨old, he⟩, ⟨o, ho, hc, hd⟩, _⟩ b hb => by
    rcases (show b = e ∨ b = it by simpa using hb) with z | z
    · rw [z]; exact ⟨_, he, fun v q => nomatch q⟩
    · rw [z]; exact ⟨o, ho, fun v q => by rw [hd] at q; cases q⟩
  keep := fun i h h' ⟨⟨old, he⟩, hi, hne⟩ k => ⟨⟨old, k e (by simp) _ he⟩, hi.at fun o q => k it (by simp) o q, hne⟩
  item := by
    rintro X rfl rfl rfl hc i pins s σ H E inv hf ⟨⟨old, he⟩, hit, hne, hai, hae⟩ ⟨xs, x, hq, hx⟩
    obtain ⟨its, rv, p, hz⟩ := inv.tuple hq
    obtain ⟨u, hu, ru⟩ := rv.get hx
    have hel : e < s.heap.objs.size := Heap.lt_size he
    have hil : it < s.heap.objs.size := by obtain ⟨_, q, _⟩ := hit; exact Heap.lt_size q
    have hlt : i < its.toArray.size := by rw [List.size_toArray]; exact (List.getElem?_eq_some_iff.mp hu).1
    refine wpAny_pyNext_enum_itemD (Draws.tuple (A := X.A.in1) (inv.ok.hd hc) it a hai its.toArray) he ⟨hit, p⟩ hlt hne (by simp [hne, Ne.symm hae]) fun y h' tk py ho st' hT hsz hk => ?_
    obtain rfl : u = y := by
      have py : its[i]? = some y := by simpa using py
      rw [hu] at py
      cases py; rfl
    refine ⟨_, rfl, wpAny_letOwnedTupleGo_enum (s := { s with heap := h', toks := tk + 1 }) ho fun h'' he' sb => ?_⟩
    have hT2 : h''.get? s.heap.objs.size = some { cls := .type "tuple", data := .seq #[.int i tk, u] } := (sb.2 _ (Nat.ne_of_gt hel)).trans hT
    have rr : Vals [V.int (i : Nat), x] [.int i tk, u] := .cons ⟨_, rfl⟩ (.cons ru .nil)
    have new := obj_tup (P := X.prog) (w := X.w) (H := upd H s.heap.objs.size (.frz { cls := .type "tuple", data := .seq #[.int i tk, u] } (.tup [.int (i : Nat), x]))) rfl hT2 rfl rr (by show 2 ≤ sizeLine; decide)
    have inv1 := inv.turnedNew (t' := tk + 1) (ch := [e, it]) (fun b ob hb q => (sb.2 b (fun z => hb (by simp [z]))).trans (hk b ob (fun z => hb (by simp [z])) (fun z => hb (by simp [z])) q)) hf (Nat.le_refl _) new
    refine ⟨.ref s.heap.objs.size, _, inv1, rfl, ⟨_, x, _, rfl, inv.hok.fresh (Nat.le_refl _), rfl, rfl, fun ys hy => by rw [inv.tuple_inj hy hq]; exact hx⟩, ⟨⟨u, ?_⟩, st'.1.at fun o q => (sb.2 it (Ne.symm hne)).trans q, hne, hai, hae⟩, fun b hb => ?_⟩
    · rw [show ((i + 1 : Nat) : Int) = (i : Int) + 1 by omega]; exact he'
    · have hb' : b < s.heap.objs.size := by
        rcases (show b = e ∨ b = it by simpa using hb) with z | z
        · rw [z]; exact hel
        · rw [z]; exact hil
      rw [upd_ne (Nat.ne_of_lt hb')]
      exact (hf b hb).1
  done := by
    rintro X rfl rfl rfl hc i pins s σ H E inv hf ⟨⟨old, he⟩, hit, hne, hai, hae⟩ ⟨xs, hq, hx⟩
    obtain ⟨its, rv, p, hz⟩ := inv.tuple hq
    obtain ⟨f0, f1, f2, f3, f4, f5⟩ := hf it (by simp)
    have hl := rv.length
    have D : Draws X.prog X.w X.A.in1 it [it, a] i (fun _ _ => False) (fun j h => j = i ∧ h.IsTupleIter it a i ∧ h.IsTuple a its.toArray) :=
      { live := fun j h st => let ⟨o, ho, _⟩ := st.2.1; ⟨o, ho⟩
        frame := fun j h h' st k => ⟨st.1, st.2.1.at fun o q => k it (by simp) o q, st.2.2.at fun o q => k a (by simp) o q⟩
        item := fun j s Q E hj st _ => absurd st.1 (Nat.ne_of_lt hj)
        done := fun s Q E st hE => wpAny_nextOf_tuple_end (inv.ok.hd hc) st.2.1 st.2.2 (by rw [← Array.getElem?_toList]; exact List.getElem?_eq_none (by show its.length ≤ i; omega)) hE }
    exact wpAny_pyNext_enum_endD D he ⟨rfl, hit, p⟩ fun h' eb => ⟨rfl, inv.turned (t' := s.toks) (fun b o hb q => eb b o hb q) f0 f1 f3 f4 f5⟩
  self := fun A i s Q E ⟨⟨_, he⟩, _⟩ h => wpAny_pyIter_enum he h
def iEnumT (K : PySem.W.Frag) (ta : TA) : TI := fun σ H R => ta σ H fun vs H1 => ∃ a xs, vs = [.ref a] ∧ SqT K H1 a xs ∧ R (Itu K a) H1
section
variable {X : Cx} {e : Expr} {p pos tpos : Pos} {elts : List Expr} {kk : Nat}
theorem pi_enumT {ta : TA} (hg : Gl X "enumerate") (hm : X.mg "enumerate" = none) (ha : PA X [e] ta) (hs : starEach [e] X.env = [(false, eval e X.env)] := by rfl) : PI X (.Tuple elts kk tpos) (.Call (.Name "enumerate" p) [e] [] pos) (iEnumT X.K ta) :=
  ⟨fun pins s σ H R inv h => Call_ (ld_blt inv hg hm boot_enumerate (PyProof.Rows.callWith_type1 (thn (ha.run pos pins s σ H _ inv h) fun us s1 ⟨vs, H1, inv1, r1, a, xs, ex, hq, q⟩ => by
    subst ex
    cases r1 with
    | cons r rr =>
      cases rr
      cases r
      obtain ⟨its, rv, pt, hz⟩ := inv1.tuple hq
      have ha1 : a < s1.heap.objs.size := by obtain ⟨_, z, _⟩ := pt; exact Heap.lt_size z
      refine call_enum (begins_tuple a its.toArray) pt fun h' he hit hk => wpAny_pyIter_enum he ?_
      have inv2 : Inv X pins σ H1 { s1 with heap := h' } := inv1.kept (t' := s1.toks) hk
      refine ⟨s1.heap.objs.size + 1, [s1.heap.objs.size + 1, s1.heap.objs.size], _, _, H1, rfl, inv2, turn_enumT a (s1.heap.objs.size + 1) s1.heap.objs.size, ⟨⟨.none, he⟩, ⟨_, hit, rfl, rfl⟩, Nat.succ_ne_self _, Nat.ne_of_lt ha1, Nat.ne_of_lt (Nat.lt_succ_of_lt ha1)⟩, fun b hb => ?_, q⟩
      have hle : s1.heap.objs.size ≤ b := by
        rcases (show b = s1.heap.objs.size + 1 ∨ b = s1.heap.objs.size by simpa using hb) with z | z
        · rw [z]; exact Nat.le_add_right _ _
        · rw [z]; exact Nat.le_refl _
      exact inv1.fpOk hle (inv1.hok.fresh hle)) hs rfl))⟩
variable [XP] [XE]
def tWEnumT (te : DTE) : DTI := fun m Δ n X Q => te m Δ n X fun d n1 => match d with | .tup ds => ds.length ≤ sizeLine ∧ Q (enumD 0 ds) n1 | _ => False
theorem goes_enumT {K : PySem.W.Frag} {a : Addr} {ds : List D} : Goes (Itu K a) [(.ref a, .tup ds)] (enumD 0 ds) := fun n H A p0 nA hg i => by
  have r := hg _ (List.mem_singleton.mpr rfl)
  cases r with
  | tup h1 h2 r =>
    refine ⟨fun hi => ⟨_, TupO.sq h1, by rw [r.length]; rw [enumD_length] at hi; exact hi⟩, fun it e => ?_⟩
    rw [enumD_get] at e
    obtain ⟨d, hd, rfl⟩ : ∃ d, ds[i]? = some d ∧ it = .tup [.int ((0 + i : Nat) : Int), d] := by
      cases q : ds[i]? with
      | none => rw [q] at e; cases e
      | some c => rw [q] at e; cases e; exact ⟨c, rfl, rfl⟩
    obtain ⟨v, e1, e2⟩ := r.get hd
    refine ⟨⟨_, v, TupO.sq h1, e1⟩, fun x H' y => ?_⟩
    obtain ⟨T, u, ob, rfl, hT, hd2, rfl, y⟩ := y
    have := y _ (TupO.sq h1)
    rw [e1] at this
    cases this
    exact ⟨same_new hT, .tup (.new hd2) (ne_P p0 hT) (.cons (by rw [Nat.zero_add]; exact .int _) (.cons (e2.same (SameP.new hT)) .nil))⟩
theorem di_enumT {te : DTE} (hg : Gl X "enumerate") (hm : X.mg "enumerate" = none) (he : DE X e te) (hs : starEach [e] X.env = [(false, eval e X.env)] := by rfl) : DI X (.Tuple elts kk tpos) (.Call (.Name "enumerate" p) [e] [] pos) (tWEnumT te) :=
  wkI (pi_enumT hg hm (pa_cons he pa_nil hs) hs) fun σ H R ⟨n0, H0, fr, av, n, Δ, m, Xd, Qd, S, xk, h, k⟩ => lift_at (B := H) m S (SameP.refl n H) xk h fun v H1 d n1 s1 S1 r1 q1 => by
    cases d <;> first | exact q1.elim | skip
    have r2 := r1
    cases r1 with
    | tup a1 a2 r => exact ⟨_, _, rfl, TupO.sq a1, k _ _ [(_, .tup _)] _ n1 s1 S1.pen (fun g hg => by cases List.mem_singleton.mp hg; exact r2) goes_enumT (by rw [enumD_length]; exact sz62 q1.1) q1.2⟩
end
end Dl

set_option Elab.async false
set_option linter.all false
set_option maxRecDepth 100000
set_option maxHeartbeats 2000000
/-! A caught exception that is kept: try: .. except C as n: y = n. At the suite's end its object is tracked. -/
namespace Dl
open PySem PySem.Spec PyProof.Rows L2
section
variable {X : Cx} {pins : List (Addr × Obj)} {σ : L2.St} {H : Hp} {s : Shared}
/-- an untracked object of ours is tracked from now on -/
theorem inv_lay {a : Addr} {u : HO} (inv : Inv X pins σ H s) (fresh : H a = none) (old : X.s_0.heap.get? a = none) (nl : a ≠ X.env.locals) (nc : ∀ y c, X.env.cells.lookup y = some c → c ≠ a) (np : ∀ q ∈ X.pn ++ pins, q.1 ≠ a)
    (new : ObjOk X.prog X.w (upd H a u) s.heap a u) : Inv X pins σ (upd H a u) s := by
  have other : ∀ {b : Addr} {o : HO}, H b = some o → upd H a u b = some o := fun {b o} e => by rw [upd_ne (ne_of_none e fresh)]; exact e
  refine { inv with
    base := ⟨inv.base.keep, inv.base.slot, fun b o e0 e1 e2 => ?_, inv.base.there, fun b xs e => other (inv.base.tups b xs e), fun b o w e => other (inv.base.frzs b o w e), fun b ps e => ?_⟩
    free := by rw [upd_ne (Ne.symm nl)]; exact inv.free
    freeC := fun y c e => by rw [upd_ne (nc y c e)]; exact inv.freeC y c e
    pin := fun q hq => ?_
    hok := fun b o e => ?_ }
  · rw [upd_ne (fun z => by rw [z, old] at e0; cases e0)]
    exact inv.base.free b o e0 e1 e2
  · obtain ⟨more, z⟩ := inv.base.tbls b ps e
    exact ⟨more, other z⟩
  · obtain ⟨k1, k2, k3, k4, k5⟩ := inv.pin q hq
    exact ⟨k1, by rw [upd_ne (np q hq)]; exact k2, k3, k4, k5⟩
  · by_cases hb : b = a
    · subst hb
      rw [upd_same] at e
      cases e
      exact new
    · rw [upd_ne hb] at e
      exact (inv.hok b o e).stay (fun _ _ _ z => z) (fun _ z => other z) fun _ _ z => other z
theorem cxo_ok {P : Program} {w : World} {a : Addr} {cls : Value} {d : Option Addr} {h : Heap} {ob : Obj} (e : h.get? a = some ob) (z : Zc cls d ob) (fl : ∃ vs, ob.data = .fields vs) : ObjOk P w H h a (cxo a cls d) :=
  ⟨⟨ob, e, z, fl⟩, ⟨ob, e⟩, fun h1 h2 ⟨o1, q1, q2, q3⟩ k => ⟨o1, k _ q1, q2, q3⟩⟩
/-- what the clause wishes: the exception stands at slot j, its object is tracked -/
def wKeep (K : PySem.W.Frag) (c : Value) (i j : Nat) (Wout : WX) (Dn : Ends) : WX := fun cls d σ H => ∃ yes, PySem.W.exmOne K cls c = some yes ∧
  (yes = true → ∀ a, H a = none → Dn.nx (((σ.set i (some (.ref a))).set j (some (.ref a))).set i none) (upd H a (cxo a cls d))) ∧ (yes = false → Wout cls d σ H)
variable {x n y : Str} {c : Value} {i j : Nat} {body : List Stmt} {np yp nq yq pos pos' : Pos} {tb : WX → TS} {Wout : WX}
theorem ps_try_keep (stk : X.stack = X.env :: X.outer) (frm : X.env.frame = some X.env.locals) (nd : X.N.Nodup) (hi : X.N[i]? = some n) (hn : X.env.kindOf n = some .local) (hj : X.N[j]? = some y) (hy : Loc X.env.scope y) (hfy : X.fn y = true ∨ X.env.scope.names.lookup y = some .local) (nm : Names X x c) (out : Takes X Wout) (hex : X.ex = [])
    (hb : ∀ (W : WX) (pn : List (Addr × Obj)) (xe : Value → Shared → Prop), Takes (X.tr pn xe) W → PassesOwn (model X.prog X.w) X.A X.env xe → PSs (X.tr pn xe) body (tb W))
    (hij : i ≠ j) (hdn : (n == ("__debug__" : Str)) = false) (hcn : (n == ("__classdict__" : Str)) = false) (hsw : swapsWith (.Name n nq) (some (.Name y yp)) yq.line X.env = pure false) :
    PS X (.Try body [.ExceptHandler (some (.Name x np)) (some n) [.Assign [.Name y yp] (.Name n nq) yq] pos'] [] [] pos) (fun Dn σ H => tb (wKeep X.K c i j Wout Dn) Dn σ H) := by
  constructor
  intro pins s σ H Dn inv want
  have okX := inv.ok
  have frs0 : X.A.frames = some (X.env :: X.outer) := by rw [okX.frames, stk]
  refine wpAny_Try_except (wpAny_mono ((hb (wKeep X.K c i j Wout Dn) (X.pn ++ pins) (fun ex sh => wpAny (model X.prog X.w) X.A (noteFrame ex X.env) (fun _ sh2 => wpAny (model X.prog X.w) X.A (setFlight ex none) (fun _ sh3 =>
    wpAny (model X.prog X.w) X.A (handleBy ex X.env [.ExceptHandler (some (.Name x np)) (some n) [.Assign [.Name y yp] (.Name n nq) yq] pos']) (SP X pins Dn) X.xe sh3) X.xe sh2) X.xe sh) (fun u s' air => ?_) PassesOwn.looking).run [] s σ H Dn (inv.toTry _) want) (fun fl s1 res => ?_) fun ex s1 he => he)
  · obtain ⟨a, G, sI, pinsI, σ1, H1, cls, d, eu, invI, grd, ups, sky, fresh, eos, bare, yes, htest, hyes, hno⟩ := air
    subst eu
    have inv1 : Inv X pins σ1 H1 sI := invI.ofTry okX
    have sky1 : Sky G (X.env :: X.outer) a (Zc cls d) X.env.locals s'.heap := by rw [← stk]; exact sky
    show wpAny (model X.prog X.w) X.A (noteFrame (.ref a) X.env) _ _ _
    refine Sky.land Zc.steady frs0 frm sky1 fun h3 fly3 up3 => ?_
    have inv3 : Inv X pins σ1 H1 { s' with heap := h3 } := inv1.landed grd fly3.1 (ups.trans up3) eos bare
    obtain ⟨o3, fs3, at3, cls3, dat3⟩ := fly3.there
    have offFr : a ∉ frs (X.env :: X.outer) := fun hm => by
      obtain ⟨_, o', e', hnf⟩ := fly3.2.2.1.mem hm
      rw [at3] at e'
      cases e'
      exact hnf _ dat3
    have offL : a ≠ X.env.locals := fun z => offFr (List.mem_filterMap.mpr ⟨X.env, List.mem_cons_self, by rw [frm, z]⟩)
    have offF : a ∉ X.fs := fun hm => by
      obtain ⟨ev, hev, qe⟩ := List.mem_filterMap.mp hm
      exact offFr (List.mem_filterMap.mpr ⟨ev, List.mem_cons_of_mem _ hev, qe⟩)
    -- it is new since the entry
    have newI : sI.heap.get? a = none := by
      cases e : sI.heap.get? a with
      | none => rfl
      | some o =>
        have z := grd a o e (by rw [stk]; exact offFr)
        rw [fly3.2.1] at z
        cases z
    have new0 : X.s_0.heap.get? a = none := by
      cases e : X.s_0.heap.get? a with
      | none => rfl
      | some o =>
        obtain ⟨o', z⟩ := inv1.base.there a o e (by rw [hex]; exact fun z => nomatch z)
        rw [newI] at z
        cases z
    have offC : ∀ z q, X.env.cells.lookup z = some q → q ≠ a := fun z q e w => by
      obtain ⟨v, ob, k1, k2⟩ := inv1.cell z q e
      rw [w, newI] at k1
      cases k1
    have offP : ∀ q ∈ X.pn ++ pins, q.1 ≠ a := fun q hq w => by
      have k := (inv1.pin q hq).1
      rw [w, newI] at k
      cases k
    have st3 := inv3.suite at3 dat3 fresh offL offF
    refine wpAny_handleBy_cons (codeAny_handlers_test ?_) (by intro q; cases q)
    have lt3 : PySem.W.Looks (model X.prog X.w) h3 (typeOf (.ref a)) cls := fun A Q E sh k q => wpAny_typeOf_ref (k _ _ at3) (by rw [cls3.1]; exact q)
    have lm3 := PySem.W.exm_one (M := model X.prog X.w) (inv3.kIn) lt3 htest
    have named : ∀ {Q E : Value → Shared → Prop}, Q c { s' with heap := h3 } → wpAny (model X.prog X.w) (X.A.mark (some (.ref a))) (eval (.Name x np) X.env) Q E { s' with heap := h3 } := fun {Q E} q => by
      obtain ⟨g1, g2, g3 | ⟨g3, g4, g5⟩⟩ := nm
      · exact ld_glob (X := X.suite a ((a, o3) :: (X.pn ++ pins))) st3 g1 g3 q g2
      · exact ld_blt (X := X.suite a ((a, o3) :: (X.pn ++ pins))) st3 g1 g3 g4 q g5 g2
    refine named (lm3.here ?_)
    cases yes with
    | true =>
      refine codeAny_handlers_suite_as (HandSPX.lands_againZ fly3 fun h4 fly4 up4 => ?_)
      have inv4 : Inv X pins σ1 H1 { s' with heap := h4 } := inv1.landed grd fly4.1 ((ups.trans up3).trans up4) eos bare
      obtain ⟨o4, fs4, at4, cls4, dat4⟩ := fly4.there
      have st4 := inv4.suite at4 dat4 fresh offL offF
      refine store_ok (X := X.suite a ((a, o4) :: (X.pn ++ pins))) (v := .ref a) st4 nd hi (.inl hn) rfl (fun s5 st5 => ?_) (.inr hn)
      have li : i < σ1.length := by rw [inv4.len]; exact (List.getElem?_eq_some_iff.mp hi).1
      have der : PSs (X.suite a ((a, o4) :: (X.pn ++ pins))) [.Assign [.Name y yp] (.Name n nq) yq] (tAsg (tVar i) (gName j)) := pss_one (ps_set nd hj hy (pe_var hi (.inl hn) hdn hcn) hsw hfy)
      refine wpAny_mono (der.run [] s5 (σ1.set i (some (.ref a))) H1 { nx := fun σ6 H6 => σ6 = (σ1.set i (some (.ref a))).set j (some (.ref a)) ∧ H6 = H1, rt := fun _ _ => False } st5 ⟨_, List.getElem?_set_self li, rfl, rfl⟩) (fun fl s6 res => ?_) (fun _ _ z => False.elim z)
      cases fl with
      | next =>
        obtain ⟨σ6, H6, st6, e6, e7⟩ := res
        subst e6 e7
        have at6 : s6.heap.get? a = some o4 := (st6.pin (a, o4) (List.mem_append_left _ List.mem_cons_self)).1
        have inv6 := st6.unsuite okX
        refine gone_ok (inv_lay (u := cxo a cls d) inv6 fresh new0 offL offC offP (cxo_ok at6 cls4 ⟨_, dat4⟩)) nd hi hn fun s7 inv7 => ⟨_, _, inv7, hyes rfl a fresh⟩
      | brk => exact res.elim fun _ z => z.elim fun _ z => z.2.elim
      | cont => exact res.elim fun _ z => z.elim fun _ z => z.2.elim
      | ret v => exact res.elim fun _ z => z.elim fun _ z => z.elim fun _ z => z.2.2.elim
    | false =>
      show wpAny _ X.A (handleBy (.ref a) X.env []) _ _ _
      refine wpAny_handleBy_nil ?_
      obtain ⟨k1, k2, k3, oe, vs, T, oT, ts', he, hz, hd, h1, hr⟩ := id fly3
      unfold PySem.passOn
      refine wpAny_bind (wpAny_field he hd h1 ?_)
      rw [if_neg (show ¬ ((Value.ref T == Value.none) = true) by simp)]
      have on : wpAny (model X.prog X.w) X.A (setFlight (.ref a) X.env.frame) (fun _ s4 => wpAny (model X.prog X.w) X.A (throw (.ref a) : Sem Flow) (SP X pins Dn) X.xe s4) X.xe { s' with heap := h3 } := by
        rw [frm]
        exact HandSPX.setFlight_upZ fly3 fun h4 held up4 => wpAny_throw (out _ _ ⟨a, G, sI, pins, σ1, H1, cls, d, rfl, inv1, grd, (ups.trans up3).trans up4, .inr (.inr (by rw [stk]; exact held)), fresh, eos, bare, hno rfl⟩)
      first
        | exact wpAny_bind (wpAny_pure (wpAny_bind on))
        | exact wpAny_bind on
  · cases fl with
    | next =>
      obtain ⟨σ1, H1, inv1, q⟩ := res
      exact wpAny_execs_nil ⟨σ1, H1, inv1.ofTry okX, q⟩
    | brk => exact res.elim fun σ1 z => z.elim fun H1 z => ⟨σ1, H1, z.1.ofTry okX, z.2⟩
    | cont => exact res.elim fun σ1 z => z.elim fun H1 z => ⟨σ1, H1, z.1.ofTry okX, z.2⟩
    | ret v =>
      obtain ⟨v1, σ1, H1, inv1, r1, q⟩ := res
      exact ⟨v1, σ1, H1, inv1.ofTry okX, r1, q⟩
end
end Dl

set_option Elab.async false
set_option linter.all false
set_option maxRecDepth 100000
set_option maxHeartbeats 4000000
/-! isinstance of a kept exception, with or without its own dict; its field. -/
namespace Dl
open PySem PySem.Spec PySem.Calls PyProof.Rows L2
section
variable {prog : Program} {w : World} {A : Around} {E : Value → Shared → Prop} {s : Shared} {K : PySem.W.Frag} {x C : Addr} {ob : Obj} {od : Option Obj}
theorem exc_cls {Q : Option Value → Shared → Prop} (c : ExcC K C) (kin : K.In s.heap) (at' : PySem.W.InstAt s.heap x ob C od) (fin : Q (some (.ref C)) { s with toks := s.toks + 1 }) : wpAny (model prog w) A (getAttr? (.ref x) "__class__") Q E s := by
  have hit : PySem.W.findObj K C od "__class__" = some (.bind (.builtin "getset_descriptor.__get__") (.builtin "object.__class__")) := by
    obtain ⟨cd, hcd, _⟩ := PySem.W.any_some c.hd
    unfold PySem.W.findObj
    rw [hcd, Option.bind_some, c.ha, Option.bind_some]
    simp [c.hn, c.ht]
  obtain ⟨hp, g, d, t, os⟩ := s
  have l0 := at'.type (M := model prog w)
  have l1 := PySem.W.looks_findIn (M := model prog w) kin c.hg
  have l2 := PySem.W.looks_findIn (M := model prog w) kin c.hk
  have l3 := PySem.W.looks_find (M := model prog w) kin at' hit
  have isB : PySem.W.Looks (model prog w) hp (isInstance (.ref x) (.type "BaseException")) true := l0.andThen (PySem.W.looks_subIn kin c.hs)
  have ne : (Value.builtin "BaseException.__getattribute__" == Value.builtin "object.__getattribute__") = false := by decide +kernel
  have cond : (onTheHeap (Value.ref C) && Value.builtin "BaseException.__getattribute__" == Value.builtin "object.__getattribute__") = false := by rw [ne] <;> rfl
  unfold getAttr? getAttrBy? getAttrBy
  refine wpAny_bind (wpAny_mkText (wpAny_bind (wpAny_attempt (wpAny_holding (wpAny_bind (l0.at (wpAny_bind (l1.at ?_))))))))
  show wpAny _ _ (if (onTheHeap (Value.ref C) && Value.builtin "BaseException.__getattribute__" == Value.builtin "object.__getattribute__") = true then _ else _) _ _ _
  rw [cond, if_neg Bool.false_ne_true]
  unfold getAttrByItsOwn hookBefore
  refine wpAny_bind (by
    rw [if_pos (show onTheHeap (Value.ref C) = true from rfl)]
    refine l2.at (wpAny_bind (wpAny_attempt (wpAny_holding ?_)))
    unfold callGetattribute
    rw [show (false && onTheHeap (Value.builtin "BaseException.__getattribute__")) = false from rfl, if_neg Bool.false_ne_true]
    unfold boundAndCalled
    rw [PySem.F.excAttr_ValueError.ga.bind (.ref x)]
    refine wpAny_bind (wpAny_pure ?_)
    show wpAny _ _ (call (.builtin "BaseException.__getattribute__") [.ref x, .str "__class__" t]) _ _ _
    refine wpAny_call (codeAny_call_builtin PySem.F.excAttr_ValueError.ga.plain PySem.F.entry_bexc_ga ?_)
    refine @PySem.W.check_slot (model prog w) _ _ ⟨hp, g, d, t + 1, os⟩ "BaseException.__getattribute__" "BaseException" "__getattribute__" (.ref x) [.str "__class__" t] [] _ (by decide +kernel) (by decide +kernel) isB (PySem.F.args_bexc_ga (.ref x) (.str "__class__" t)) ?_
    unfold Builtin.«object.__getattribute__»
    refine wpAny_bind (wpAny_of_eq (a := ((Value.ref x : Value), [Value.str "__class__" t])) (by first | rfl | (simp only [slotArgs]; rfl)) (wpAny_bind (wpAny_pure (wpAny_bind (l0.at (wpAny_bind (l3.at ?_)))))))
    show wpAny _ _ (holding [Value.builtin "object.__class__"] (call (.builtin "getset_descriptor.__get__") [.builtin "object.__class__", .ref x, .ref C]) >>= ret) _ _ _
    refine wpAny_bind (wpAny_holding (wpAny_call (PySem.W.class_get (s := ⟨hp, g, d, t + 1, os⟩) (ox := ob) (od := od) kin at' c.hm (wpAny_pure ?_))))
    show wpAny _ _ (handedOut (.ref C)) _ _ _
    rw [PySem.W.handedOut_of (v := .ref C) rfl]
    first
      | exact wpAny_pure (wpAny_pure fin)
      | exact wpAny_pure fin
      | exact wpAny_pure (wpAny_bind (wpAny_pure (wpAny_pure fin))))
theorem exc_kit (c : ExcC K C) : PySem.W.KitX K (.ref x) (.ref C) (fun h => ∃ ob od, PySem.W.InstAt h x ob C od) where
  ty := fun _ _ _ ⟨_, _, at'⟩ => at'.type
  it := fun _ _ kin _ => by
    obtain ⟨cd, hcd, _⟩ := PySem.W.any_some c.hd
    unfold PySem.W.clsIn at hcd
    split at hcd
    · rename_i k1 k2 k3 k4 e
      intro A' Q' E' s' k q
      unfold isType loadHead
      exact wpAny_bind (wpAny_loadPart (k _ _ (kin _ _ e)) (wpAny_pure q))
    · cases hcd
  ne := fun h tp dd its n sl kin htp => by
    obtain ⟨cd, hcd, _⟩ := PySem.W.any_some c.hd
    refine Bool.eq_false_iff.mpr fun q => ?_
    have e : C = tp := Value.ref.inj (beq_iff_eq.mp q)
    subst e
    unfold PySem.W.clsIn at hcd
    split at hcd
    · rename_i k1 k2 k3 k4 e
      cases (kin _ _ e).symm.trans htp
    · cases hcd
  ca := fun kin ⟨_, _, at'⟩ k => exc_cls c kin at' k
end
/-- what a tracked kept exception is on the heap -/
theorem cxo_inst {P : Program} {w : World} {H : Hp} {h : Heap} {a C : Addr} {d : Option Addr} (ok : HOk P w H h) (e : H a = some (cxo a (.ref C) d)) (hd : ∀ dd, d = some dd → ∃ fs, H dd = some (.xd fs)) : ∃ ob od, PySem.W.InstAt h a ob C od := by
  obtain ⟨⟨ob, e1, z, vs, ev⟩, _⟩ := ok a _ e
  have no : PySem.W.notCls ob = true := by unfold PySem.W.notCls; rw [ev] <;> rfl
  cases d with
  | none => exact ⟨ob, none, e1, z.1, no, by rw [z.2]; trivial⟩
  | some dd =>
    obtain ⟨fs, e2⟩ := hd dd rfl
    obtain ⟨mA, hns, _⟩ := ok dd _ e2
    obtain ⟨o, ho, _⟩ := lookIn_ns hns
    exact ⟨ob, some o, e1, z.1, no, by rw [z.2]; exact ho⟩
/-- isinstance(e, c) -/
def rIsX (K : PySem.W.Frag) : List V → Hp → VK → Prop := fun xs H Q => ∃ (a C : Addr) (d : Option Addr) (c : V) (cv : Value) (b : Bool), xs = [.ref a, c] ∧ H a = some (cxo a (.ref C) d) ∧ (∀ dd, d = some dd → ∃ fs, H dd = some (.xd fs)) ∧ ExcC K C ∧ (∀ u, RelV c u → u = cv) ∧ PySem.W.kitOne K (.ref C) cv = some b ∧ Q (.bl b) H
theorem call_isX {X : Cx} : CallR X (.builtin "isinstance") (rIsX X.K) := by
  intro pins s σ H xs us Q inv r h
  obtain ⟨a, C, d, c, cv, b, rfl, e1, e2, ec, hcv, e3, q⟩ := h
  match r with
  | .cons rx (.cons rc .nil) =>
    cases rx
    cases hcv _ rc
    exact PySem.W.kia_one (exc_kit ec) inv.kIn (cxo_inst inv.hok e1 e2) e3 (fun z => nomatch z) fun tk => ⟨.bl b, H, inv.kept (t' := tk) fun _ _ z => z, rfl, q⟩
/-- isinstance(e, (c, ..)) -/
def rIsXT (K : PySem.W.Frag) : List V → Hp → VK → Prop := fun xs H Q => ∃ (a C tp : Addr) (d : Option Addr) (cs : List V) (b : Bool), xs = [.ref a, .ref tp] ∧ H a = some (cxo a (.ref C) d) ∧ (∀ dd, d = some dd → ∃ fs, H dd = some (.xd fs)) ∧ ExcC K C ∧ TupO H tp cs ∧
  (∀ us, Vals cs us → PySem.W.kitAny K (.ref C) us = some b) ∧ Q (.bl b) H
theorem call_isXT {X : Cx} : CallR X (.builtin "isinstance") (rIsXT X.K) := by
  intro pins s σ H xs us Q inv r h
  obtain ⟨a, C, tp, d, cs, b, rfl, e1, e2, ec, et, e3, q⟩ := h
  match r with
  | .cons rx (.cons rc .nil) =>
    cases rx
    cases rc
    obtain ⟨oot, et, _⟩ := et
    obtain ⟨_, _, its, rv, ⟨⟨k1, k2, k3, k4⟩, ho, hc, m, hd⟩⟩ := inv.hok tp _ et
    simp only at hc hd
    subst hc hd
    exact PySem.W.kia_tup (exc_kit ec) inv.kIn (cxo_inst inv.hok e1 e2) ho (e3 its rv) (fun z => nomatch z) fun tk => ⟨.bl b, H, inv.kept (t' := tk) fun _ _ z => z, rfl, q⟩
/-- e.f -/
def tXfld (K : PySem.W.Frag) (te : TE) (f : Str) : TE := fun σ H Q => te σ H fun x H1 => ∃ (a C dd : Addr) (fs : List (Str × V)) (v : V), x = .ref a ∧ H1 a = some (cxo a (.ref C) (some dd)) ∧ H1 dd = some (.xd fs) ∧ XfC K C ∧ PySem.W.findIn K (.ref C) f = some none ∧ fs.lookup f = some v ∧ Q v H1
theorem pe_xfld {X : Cx} {e : Expr} {te : TE} {f : Str} {pos : Pos} (he : PE X e te) (hb : attributeBase e f X.env (eval e X.env) = eval e X.env := by rfl) : PE X (.Attribute e f pos) (tXfld X.K te f) := by
  refine ⟨fun pins s σ H Q inv h => attr_of hb (thn (he.run pins s σ H _ inv h) fun u s1 ⟨x, H1, inv1, rx, a, C, dd, fs, v, ex, e1, e2, c, no, l, q⟩ => ?_)⟩
  subst ex
  cases rx
  obtain ⟨⟨ob, g1, z, vs, ev⟩, _⟩ := inv1.hok a _ e1
  obtain ⟨mA, hns, hr⟩ := inv1.hok dd _ e2
  obtain ⟨o, ho, hl⟩ := lookIn_ns hns
  obtain ⟨u, hu, ru⟩ := RelO.some_of (v := v) (o := mA f) (by rw [← l]; exact hr f)
  have at' : PySem.W.InstAt s1.heap a ob C (some o) := ⟨g1, z.1, by unfold PySem.W.notCls; rw [ev] <;> rfl, by rw [z.2]; exact ho⟩
  exact HandSPX.exc_get inv1.kIn at' c.ga c.gg c.exC (PySem.W.findObj_own c.hdC no rfl (by rw [hl, hu])) (handed_of ru) ⟨v, H1, inv1.tok _, ru, q⟩
end Dl

set_option Elab.async false
set_option linter.all false
set_option maxRecDepth 100000
set_option maxHeartbeats 4000000
/-! x(lambda: body): the def that got the lambda calls it; what is raised is wished for at that def's slots. -/
namespace Dl
open PySem PySem.Spec PyProof.Rows L2
section
variable {X : Cx} {pins : List (Addr × Obj)} {σ : L2.St} {H HZ : Hp} {s s1 : Shared}
/-- a(), in the def that got the lambda f -/
theorem pe_ask {CXg : CXT} {Eg : XK} {Ng : List Str} {qg : Str} {sg : Scope} {g f c' : Addr} {cdg pm ctv : Value} {params : Arguments} {body : Expr} {scope : Scope} {k i : Nat} {a : Str} {pn : List (Addr × Obj)} {xe : Value → Shared → Prop} {W : WX} {tb : XK → TE} {p1 p2 : Pos}
    (inv : Inv X pins σ H s) (ls : LamX.LamS X.env.scope scope) (hf : s.heap.get? f = some (PySem.W.kla_obj "<lambda>" (X.env.qual ++ "<lambda>") params body scope (cloFrom X.env.cells scope.names []) pm c' ctv)) (untr : H f = none) (offF : f ∉ frs X.stack)
    (bind : bindArgs (PySem.W.kla_fn "<lambda>" (X.env.qual ++ "<lambda>") params body scope (cloFrom X.env.cells scope.names []) pm (.ref c') ctv) ⟨[], []⟩ = pure [])
    (tk : L2.Takes ((cxOf CXg X.prog X.w X.K X.mg X.base Ng qg sg g cdg X.A X.stack s H Eg).tr pn xe) W) (hr : Room (k + 1) (X.A.deeper (envOfC qg sg s.heap.objs.size g cdg)))
    (der : ∀ (A : Around) (outer : List Env) (s : Shared) (H : Hp) (E : XK), Room k (A.deeper (LamX.lamEnv X scope s.heap.objs.size f c')) → A.guards = X.A.guards → PE (LamX.lamCx X A outer s H E scope f c') body (tb E))
    (hN : Ng[i]? = some a) (hv : Vis sg a) (hd : (a == ("__debug__" : Str)) = false := by decide) (hcd : (a == ("__classdict__" : Str)) = false := by decide) :
    PE ((cxOf CXg X.prog X.w X.K X.mg X.base Ng qg sg g cdg X.A X.stack s H Eg).tr pn xe) (.Call (.Name a p1) [] [] p2)
      (fun σZ HZ Q => σZ[i]? = some (some (.ref f)) ∧ HZ c' = some (LamX.CodeO c' (X.env.qual ++ "<lambda>")) ∧ tb (fun cls d H' => W cls d σZ H') σ HZ Q) := by
  constructor
  rintro pinsZ sZ σZ HZ Q invZ ⟨at0, code, want⟩
  refine wpAny_Call_Name_kw (thn ((pe_var (pos := p1) (i := i) hN hv hd hcd).run pinsZ sZ σZ HZ (fun v H1 => v = .ref f ∧ H1 = HZ) invZ ⟨.ref f, at0, rfl, rfl⟩) ?_)
  rintro u s1 ⟨v, H1, inv1, rel, rfl, rfl⟩
  cases rel
  have there : s1.heap.get? f = some (PySem.W.kla_obj "<lambda>" (X.env.qual ++ "<lambda>") params body scope (cloFrom X.env.cells scope.names []) pm c' ctv) := inv1.base.keep f _ hf untr offF (fun z => nomatch (show f ∈ ([] : List Addr) from z))
  refine PySem.W.callWith_F0 ⟨_, _, _, _, there⟩ ?_
  have apart : Un (frs X.stack) [] H H1 s.heap s1.heap := inv1.base
  obtain ⟨⟨oc, vs, t, oc1, oc2, oc3⟩, _, _⟩ := inv1.hok c' _ code
  have called : codeAny (model X.prog X.w) (X.A.deeper (envOfC qg sg s.heap.objs.size g cdg)) (.call (.ref f) ⟨[], []⟩) (CR (L2.CX X.prog X.w) (envOfC qg sg s.heap.objs.size g cdg :: X.stack) X.prog X.w H1 s1 Q (fun cls d H' => W cls d σZ H')) s1 := by
    refine PySem.W.kla_callFunE hr.depth there rfl ls.co ls.gen rfl ⟨c', oc, vs, t, rfl, oc1, oc2, oc3⟩ ?_
    rw [bind]
    refine wpAny_pure (wpAny_newFunctionEnv (fun y hy => (ls.own y hy).2) (fun y hy => absurd hy (by simp)) (fun h₁ hns hsb => ⟨inv1.nolimit.fresh _ hsb, ?_⟩) ls.kind)
    show codeAny _ _ (.expr body (LamX.lamEnv X scope s1.heap.objs.size f c')) _ _
    have kept : ∀ b o, s1.heap.get? b = some o → h₁.get? b = some o := fun b o e => hsb.extBut b o (Nat.ne_of_lt (Heap.lt_size e)) (Heap.get?_push_of_some _ e)
    have invL : Inv (LamX.lamCx X (X.A.deeper (envOfC qg sg s.heap.objs.size g cdg)) (envOfC qg sg s.heap.objs.size g cdg :: X.stack) s1 H1 (fun cls d H' => W cls d σZ H') scope f c') [] σ H1 { s1 with heap := h₁, toks := s1.toks + ([] : List (Str × Value)).length } :=
      LamX.lam_start2 inv ls inv1.env0 hr.hd apart hns kept
    refine PySem.W.kla_codeExpr (wpAny_mono ((der _ _ s1 H1 _ (hr.deeper _) rfl).run [] _ _ H1 Q invL want) (fun v s' res => ?_) fun e s' res => res)
    obtain ⟨w', H', J, rv, q⟩ := res
    exact ⟨w', H', J.os, J.bare, J.base, J.hok, rv, q⟩
  refine wpAny_call (codeAny_mono called fun r s' res => ?_)
  cases r with
  | error e => exact tk e s' (XE.of_call inv1 (fun _ _ _ h => h) res)
  | ok fl =>
    cases fl with
    | ret u => exact inv1.after res
    | next => exact False.elim res
    | brk => exact False.elim res
    | cont => exact False.elim res
end
variable [XP]
/-- what the lambda's body says, from a store on: what may be raised, what is given -/
abbrev DAsk := Sto → XC → (D → Sto → Prop) → Prop
/-- the call of the one handed in -/
def tAskD (v0 : V) (ask : DAsk) : DTE := fun _ Δ n X Q => Δ[0]? = some (some (.frz (.opq v0))) ∧ ask n X Q
/-- a def that gets a lambda alone -/
abbrev DSpL := DAsk → Sto → XC → (D → Sto → Prop) → Prop
def tLamD (sp : DSpL) (tE : DTE) : DTE := fun _ Δ n X Q => sp (fun n' X' Q' => tE .new Δ n' X' Q') n X Q
/-- what is called with a lambda, as its callers know it; q: the lambda's own name -/
structure CalL (P : Program) (w : World) (K : PySem.W.Frag) (mg : Str → Option Value) (base : Heap) (x a : Str) (k : Nat) (sp : DSpL) : Prop where
  ex : ∃ (g : Addr) (pg : Arguments) (bg : List Stmt) (sg : Scope) (dV kV doc pm cdv ct oc : Value) (an od : Option Addr) (osl : Array (Option Value)) (Ng : List Str) (tbl : V → DAsk → DTS),
    mg x = some (.ref g) ∧ PySem.W.keepIn K (.ref g) = true ∧ K.lookup g = some ⟨oc, od, .func (PySem.W.fnOf x x pg bg sg dV kV doc pm an cdv ct), osl⟩ ∧ PySem.W.codeIn K cdv x = true ∧ L2.Binds K (PySem.W.fnOf x x pg bg sg dV kV doc pm an cdv ct) [a] [] ∧
    FnScope Ng [a] sg ∧ Ng[0]? = some a ∧ Vis sg a ∧
    (∀ [XE] (A : Around) (fs : List Env) (s : Shared) (H : Hp) (E : XK) (v0 : V) (ask : DAsk), Room k (A.deeper (envOfC x sg s.heap.objs.size g cdv)) → (A.deeper (envOfC x sg s.heap.objs.size g cdv)).guards = some [] →
      L2.Takes (cxOf (L2.CX P w) P w K mg base Ng x sg g cdv A fs s H E) XE.W →
      (∀ (W : WX) (pn : List (Addr × Obj)) (xe : Value → Shared → Prop) (p1 p2 : Pos), L2.Takes ((cxOf (L2.CX P w) P w K mg base Ng x sg g cdv A fs s H E).tr pn xe) W → PE ((cxOf (L2.CX P w) P w K mg base Ng x sg g cdv A fs s H E).tr pn xe) (.Call (.Name a p1) [] [] p2) (@lift _ (XE.w W) (tAskD v0 ask))) →
      DSs (cxOf (L2.CX P w) P w K mg base Ng x sg g cdv A fs s H E) bg (tbl v0 ask)) ∧
    ∀ v0 ask n Xd Qd, sp ask n Xd Qd → tbl v0 ask { nx := fun _ n' => Qd .non n', rt := Qd, xr := fun ex _ n' => Xd ex n' } (startD Ng [.opq v0]) n
end Dl

set_option Elab.async false
set_option linter.all false
set_option maxRecDepth 100000
set_option maxHeartbeats 4000000
namespace Dl
open PySem PySem.Spec PyProof.Rows L2
variable [XP]
theorem ext_same {n : Sto} {H H1 : Hp} (e : LamX.ExtN H H1) : SameP n H n H1 := ⟨fun a o h r nt => ⟨e a o h nt, r⟩, fun _ r => r⟩
theorem SOk.ext {n : Sto} {H H1 : Hp} (k : SOk n H) (e : LamX.ExtN H H1) (t : LamX.Tabs XP.T H1) : SOk n H1 :=
  ⟨t, fun a ro h => (k.ro a ro h).stay (.of (ext_same e) fun _ _ _ _ _ q => q) (fun o q => by
    obtain ⟨u, h1, h2, _⟩ := (k.ro a ro h).at
    rw [h1] at q
    cases q
    exact e a _ h1 h2) fun dx q r => ⟨e dx _ q (by intro _ z; cases z), r⟩⟩
/-- x(lambda: body) -/
theorem d_lam [x0 : XE] {X : Cx} {x a : Str} {k j : Nat} {sp : DSpL} {params : Arguments} {body : Expr} {scope : Scope} {tE : DTE} {p lpos pos : Pos} {cd Pt : Addr} (c : CalL X.prog X.w X.K X.mg X.base x a k sp) (hr : Room (j + 2) X.A) (hkj : k ≤ j + 1) (hgd : X.A.guards = some []) (tk : L2.Takes X XE.W) (hg : Gl X x)
    (TB : LamX.TabB X.base X.mg cd Pt) (hcode : X.env.code = .ref cd) (hmT : (Pt, X.env.qual ++ "<lambda>") ∈ XP.T) (hu : ∀ q ∈ XP.T, q.1 = Pt → q.2 = X.env.qual ++ "<lambda>") (L : LamX.LamS X.env.scope scope) (hdef : defaultsOf params X.env = ([], []))
    (hbind : ∀ (q : Str) (cl : List (Str × Addr)) (pm cv ctv : Value), bindArgs (PySem.W.kla_fn "<lambda>" q params body scope cl pm cv ctv) ⟨[], []⟩ = pure [])
    (hbody : ∀ [XE] (A : Around) (outer : List Env) (s : Shared) (H : Hp) (E : XK) (f c' : Addr), Room j (A.deeper (LamX.lamEnv X scope s.heap.objs.size f c')) → (A.deeper (LamX.lamEnv X scope s.heap.objs.size f c')).guards = some [] →
      L2.Takes (LamX.lamCx X A outer s H E scope f c') XE.W → DE (LamX.lamCx X A outer s H E scope f c') body tE)
    (hdb : (x == ("__debug__" : Str)) = false := by decide) (hd : (a == ("__debug__" : Str)) = false := by decide) (hcd : (a == ("__classdict__" : Str)) = false := by decide) :
    DE X (.Call (.Name x p) [.Lambda params body scope lpos] [] pos) (tLamD sp tE) := by
  obtain ⟨g, pg, bg, sg, dV, kV, doc, pm, cdv, ct, oc, an, od, osl, Ng, tbl, hm, hk, lk, hcg, hb, Sg, hNg, hva, der, read⟩ := c.ex
  refine ⟨fun pins s σ H Q inv ⟨n0, H0, nB, B, fr, av, n, Δ, m, Xd, Qd, S, bb, xk, want, kq⟩ => ?_⟩
  refine wpAny_Call_Name_kw (ld_glob inv hg hm ?_ hdb)
  refine PySem.W.callWith_K (h₀ := X.base) inv.ok.mod.kin hk ?_ (by rfl) (by rfl)
  show wpAny _ _ (spliced ((false, eval (.Lambda params body scope lpos) X.env) :: backTo pos (starEach [] X.env))) _ _ s
  refine Calls.spliced_cons (LamX.lam_make2 inv TB hcode hmT hu S.pen.tab hdef (L.has inv.ok) fun f c' pm' ctv H1 s' inv1 eN T1 hf hfn hfr hco => Calls.spliced_nil ⟨inv1.kIn, ?_⟩)
  have s1 : SameP n H n H1 := ext_same eN
  have p1 : SOk n H1 := S.pen.ext eN T1
  have S1 := S.mono s1 p1
  have rc : codeAny (model X.prog X.w) X.A (.call (.ref g) ⟨[.ref f], []⟩) (CR (L2.CX X.prog X.w) X.stack X.prog X.w H1 s' Q (fun cls d H' => XE.W cls d σ H')) s' := by
    refine LamX.run_ofS (N := Ng) (ps := [a]) (us := [.ref f]) (vs := [.ref f]) lk hcg Sg (k := j + 1) hr inv1.env0 (hb s' [.ref f] inv1.kIn rfl) (.cons rfl .nil) rfl fun hr' => ?_
    let W0 : WX := XE.W
    let ask : DAsk := fun n' X' Q' => tE .new Δ n' X' Q'
    letI xh : XE := ⟨fun cls d _ H' => W0 cls d σ H', fun n' H' => SameP n H1 n' H', fun i s => i.trans s⟩
    refine ⟨_, der X.A X.stack s' H1 _ (.ref f) ask (hr'.mono hkj) hgd takes_def (fun W pn xe q1 q2 tk' => ?_), n, H1, [], [], n, startD Ng [.opq (.ref f)], _, StR.start p1 (.cons (.opq _) .nil), read _ _ _ _ _ want, ?_⟩
    · refine wkE (pe_ask (i := 0) (tb := fun E => @lift _ (.of fun cls d _ H' => E cls d H') tE) inv1 L hf hfn hfr (hbind _ _ _ _ _) tk' hr' (fun A outer s H E hr2 hgA => ?_) hNg hva hd hcd) fun σZ HZ QZ hl => ?_
      · letI : XE := .of fun cls d _ H' => E cls d H'
        exact hbody A outer s H E f c' hr2 (hgA.trans hgd) (L2.takes_of rfl rfl rfl rfl)
      · obtain ⟨n0', H0', nB', B', fr', av', nZ, ΔZ, mZ, XdZ, QdZ, SZ, bZ, xkZ, ⟨e0, qZ⟩, kZ⟩ := hl
        obtain ⟨v, e1, r1⟩ := SZ.frz _ _ e0
        have sZ : SameP n H1 nZ HZ := @XOk.inv _ (XE.w W) _ _ _ _ xkZ
        cases r1
        refine ⟨e1, (sZ.keep c' _ hco ?_ (fun ps z => by unfold LamX.CodeO at z; cases z)).1, n0, H0, nZ, HZ, fr, av, nZ, Δ, .new, XdZ, QdZ, S1.mono sZ SZ.pen, SameP.refl nZ HZ, ?_, qZ, fun v H' d n' s p r q => kZ v H' d n' s p (r.imp fun a o _ z => Al.newS SZ bZ mZ z.2) q⟩
        · cases e : n c' with
          | none => rfl
          | some ro =>
            obtain ⟨u, h1, _, _, _, _, h2⟩ := (p1.ro c' ro e).at
            rw [hco] at h1
            cases h1
            exact absurd rfl (h2 _)
        · exact @XOk.mk _ (.of fun cls d _ H' => W cls d σZ H') _ _ _ _ (fun cls d H' ex n' s p r q => @XOk.go _ (XE.w W) _ _ _ _ xkZ cls d H' ex n' s p r q) trivial
    · exact EndsOk.mk (fun σ' H' Δ' n' S' q => kq .non H' .non n' (s1.trans S'.same) S'.pen .non q) (fun v H' d n' s p r q => kq v H' d n' (s1.trans s) p (r.imp fun a o _ z => Al.newS S1 (bb.trans s1) m z) q) (fun _ _ _ _ _ q => q) (fun _ _ _ _ _ q => q)
        (fun cls d σ' H' Δ' ex n' S' r q => @XOk.go _ x0 _ _ _ _ xk cls d H' ex n' (s1.trans S'.same) S'.pen r q) (fun _ _ s => s)
  refine wpAny_call (codeAny_mono rc fun r s2 res => ?_)
  cases r with
  | error e => exact tk e s2 (XE.of_call inv1 (fun _ _ _ h => h) res)
  | ok fl =>
    cases fl with
    | ret u => exact inv1.after res
    | next => exact False.elim res
    | brk => exact False.elim res
    | cont => exact False.elim res
end Dl

set_option Elab.async false
set_option linter.all false
set_option maxRecDepth 100000
set_option maxHeartbeats 1000000
/-! Exceptions over data: raise, a caught one kept, isinstance, its field. -/
namespace Dl
open PySem PySem.Spec PyProof.Rows L2
variable [XP] [XE]
/-! ### raise C(e), C with its own __init__ that keeps one field -/
/-- what such an __init__ does -/
def spInit (C : Addr) (fld : Str) : Sp := fun vs H Q _ => ∃ (a : Addr) (y : V), vs = [.ref a, y] ∧ H a = some (exo a C none) ∧ ∀ dx, H dx = none → dx ≠ a → Q .non (upd (upd H dx (exd dx [(fld, y)])) a (exo a C (some dx)))
def tRaise1D (c fld : Str) (te : DTE) : DTS := fun Dd Δ n => te .bor Δ n (Dd.xs Δ) fun d n1 => flat d = true ∧ Dd.xr (.exc1 c fld d) Δ n1
def tRaise0D (c : Str) (te : DTE) : DTS := fun Dd Δ n => te .bor Δ n (Dd.xs Δ) fun d n1 => Dd.xr (.exc0 c) Δ n1
section
variable {X : Cx} {k : Nat} {fd : FuncData} {ps : List Str} {x : Str} {C fI : Addr} {p pos pos2 : Pos} {e : Expr} {te : DTE} {fld : Str}
theorem ds_raise (hc : X.calm = true) (tk : L2.Takes X XE.W) (T : OexC X.K C) (iC : PySem.W.findIn X.K (.ref C) "__init__" = some (some (.ref fI))) (tI : PySem.W.typeIn X.K (.ref fI) = some (.type "function"))
    (F : FnOk X.prog X.w X.K X.mg X.base CX0 k fI fd ps (spInit C fld)) (hr : Room (k + 1) X.A) (hb : Binds X.K fd ps []) (hg : Gl X x) (hm : X.mg x = some (.ref C)) (hxp : XP.mg x = some (.ref C)) (he : DE X e te)
    (hdb : (x == ("__debug__" : Str)) = false := by decide) (hst : starEach [e] X.env = (false, eval e X.env) :: starEach [] X.env := by rfl) :
    DS X (.Raise (some (.Call (.Name x p) [e] [] pos)) none pos2) (tRaise1D x fld te) :=
  wkS (ps_raise hc tk (pmk_oex (dvs := []) (ds := []) T iC tI F hr hb .nil (pass0 (X := X)) hg hm (pa_cons he pa_nil hst) hdb hst (by rfl))) fun E σ H ⟨n0, H0, fr, av, n, Δ, Dd, S, h, kk⟩ =>
    lift_at (B := H) .bor S (SameP.refl n H) (kk.xk S) h fun v H1 d n1 s1 S1 r1 q1 => by
      refine ⟨by simp, fun a ha => ⟨a, v, rfl, upd_same, fun dx hdx hne => ?_⟩⟩
      have hd1 : H1 dx = none := by rw [upd_ne hne] at hdx; exact hdx
      refine ⟨rfl, dx, _, upd_same, by rw [upd_ne hne, upd_same], hd1, ?_⟩
      have sm : Same H1 (upd (del (upd (upd (upd H1 a (exo a C none)) dx (exd dx [(fld, v)])) a (exo a C (some dx))) a) dx (.xd [(fld, v)])) := fun b o e2 => by
        have nb : b ≠ a := ne_of_none e2 ha
        have nd : b ≠ dx := ne_of_none e2 hd1
        rw [upd_ne nd, del_ne nb, upd_ne nb, upd_ne nd, upd_ne nb]
        exact e2
      exact kk.xr _ _ _ _ _ (.exc1 x fld d) n1 (S1.mono (.of sm) (S1.pen.same sm)) ⟨C, dx, v, hxp, rfl, rfl, upd_same, S1.neP hd1, (Rp.flat _ _ q1.1 r1).same (.of sm)⟩ q1.2
omit [XE] in
/-- the __init__ itself: self.f = e, both parameters -/
theorem ok_init {P : Program} {w : World} {K : PySem.W.Frag} {mg : Str → Option Value} {base : Heap} {qx qual : Str} {st : Stmt} {f : Addr} {fd : FuncData} {ps : List Str} {kk : Nat} {C : Addr} {fld : Str} (F : L2.Fun K qx qual st f fd) (S : FnScope ps ps (defScope st)) (hps : ps.length = 2)
    (T : OexC K C) (hno : PySem.W.findIn K (.ref C) fld = some none)
    (hbody : ∀ (cv : Value) (A : Around) (fs : List Env) (s : Shared) (H : Hp) (E : XK), PSs (cxOf CX0 P w K mg base ps qual (defScope st) f cv A fs s H E).nox (defBody st) (tOst K fld (tVar 0) (tVar 1))) : FnOk P w K mg base CX0 (kk + 1) f fd ps (spInit C fld) := by
  refine F.ok S (fun vs H Q E h => ?_) (fun cdv A outer s H vs Q E hr h => ?_)
  · obtain ⟨a, y, rfl, _⟩ := h
    exact hps.symm
  · obtain ⟨a, y, rfl, h1, h2⟩ := h
    refine ⟨_, hbody cdv A outer s H E, y, ?_, .ref a, ?_, a, C, rfl, T, hno, .inl ⟨h1, fun dx hd hne => h2 dx hd hne⟩⟩
    · unfold L2.start; simp
    · unfold L2.start; simp
end
/-- an exception class of the program, its __init__ keeps one field -/
structure ExCls (P : Program) (w : World) (K : PySem.W.Frag) (mg : Str → Option Value) (base : Heap) (x fld : Str) : Prop where
  ex : ∃ (C fI : Addr) (fd : FuncData) (ps : List Str), mg x = some (.ref C) ∧ XP.mg x = some (.ref C) ∧ OexC K C ∧ PySem.W.findIn K (.ref C) "__init__" = some (some (.ref fI)) ∧ PySem.W.typeIn K (.ref fI) = some (.type "function") ∧
    FnOk P w K mg base CX0 1 fI fd ps (spInit C fld) ∧ Binds K fd ps []
theorem ds_raise1 {X : Cx} {x : Str} {p pos pos2 : Pos} {e : Expr} {te : DTE} {fld : Str} {k : Nat} (c : ExCls X.prog X.w X.K X.mg X.base x fld) (hc : X.calm = true) (tk : L2.Takes X XE.W) (hr : Room (k + 2) X.A) (hg : Gl X x) (he : DE X e te)
    (hdb : (x == ("__debug__" : Str)) = false := by decide) (hst : starEach [e] X.env = (false, eval e X.env) :: starEach [] X.env := by rfl) : DS X (.Raise (some (.Call (.Name x p) [e] [] pos)) none pos2) (tRaise1D x fld te) := by
  obtain ⟨C, fI, fd, ps, h1, h2, h3, h4, h5, h6, h7⟩ := c.ex
  exact ds_raise hc tk h3 h4 h5 h6 (hr.mono (by omega)) h7 hg h1 h2 he hdb hst
/-- .. without own __init__, over ValueError -/
structure ExCls0 (K : PySem.W.Frag) (mg : Str → Option Value) (x : Str) : Prop where
  ex : ∃ C : Addr, mg x = some (.ref C) ∧ XP.mg x = some (.ref C) ∧ PySem.W.excIn K C [.type "ValueError", .type "Exception", .type "BaseException", .type "object"] "ValueError.__new__" = true ∧ PySem.W.keepIn K (.ref C) = true ∧
    PySem.W.subIn K (.ref C) (.type "BaseException") = some true ∧ PySem.W.typeIn K (.ref C) = some (.type "type")
def tRaiseSD (c : Str) : DTS := fun Dd Δ n => Dd.xr (.exc0 c) Δ n
theorem ds_raise0 {X : Cx} {x m : Str} {j : Nat} {p p2 pos pos2 : Pos} (c : ExCls0 X.K X.mg x) (hc : X.calm = true) (tk : L2.Takes X XE.W) (hg : Gl X x) (hdb : (x == ("__debug__" : Str)) = false := by decide) :
    DS X (.Raise (some (.Call (.Name x p) [.Constant (.str m) j p2] [] pos)) none pos2) (tRaiseSD x) := by
  obtain ⟨C, h1, h2, h3, h4, h5, h6⟩ := c.ex
  exact wkS (ps_raise hc tk (pmk_own PySem.F.excBase_ValueError h3 h1 h4 (raises_own h5 h6) hg hdb)) fun E σ H ⟨n0, H0, fr, av, n, Δ, Dd, S, h, kk⟩ =>
    kk.xr _ _ _ _ _ (.exc0 x) n S ⟨C, h2, rfl, rfl⟩ h

/-! ### which class is under which: (raised, asked, whether) -/
abbrev Subs := List (Str × Str × Bool)
def subOf (s : Subs) (c c' : Str) : Option Bool := (s.find? fun t => t.1 == c && t.2.1 == c').map fun t => t.2.2
def SubsOk (K : PySem.W.Frag) (s : Subs) : Prop := ∀ t ∈ s, ∃ C C', XP.mg t.1 = some (.ref C) ∧ XP.mg t.2.1 = some (.ref C') ∧ ExcC K C ∧ PySem.W.kitOne K (.ref C) (.ref C') = some t.2.2 ∧ PySem.W.exmOne K (.ref C) (.ref C') = some t.2.2
omit [XP] [XE] in
theorem subOf_mem {s : Subs} {c c' : Str} {b : Bool} (h : subOf s c c' = some b) : (c, c', b) ∈ s := by
  unfold subOf at h
  obtain ⟨t, h1, h2⟩ := Option.map_eq_some_iff.mp h
  have m := List.mem_of_find?_eq_some h1
  have q := List.find?_some h1
  simp only [Bool.and_eq_true, beq_iff_eq] at q
  obtain ⟨q1, q2⟩ := q
  subst q1 q2 h2
  exact m
def excN : D → Option Str
  | .exc0 c => some c
  | .exc1 c _ _ => some c
  | _ => none
def clsNs : List D → Option (List Str)
  | [] => some []
  | .cls c :: r => (clsNs r).map (c :: ·)
  | _ :: _ => none
def anyOf (s : Subs) (c : Str) : List Str → Option Bool
  | [] => some false
  | c' :: r => match subOf s c c' with
    | some true => some true
    | some false => anyOf s c r
    | none => none
def drIsX (s : Subs) : DRn := fun ds Q => match ds with
  | [x, .cls c'] => ∃ c b, excN x = some c ∧ subOf s c c' = some b ∧ Q (.bl b)
  | [x, .tup (y :: cs)] => ∃ c ns b, excN x = some c ∧ clsNs (y :: cs) = some ns ∧ anyOf s c ns = some b ∧ Q (.bl b)
  | _ => False
theorem Rp.excE {n : Sto} {A : Addr → Prop} {H : Hp} {x : D} {v : V} {c : Str} (r : Rp n A H v x) (h : excN x = some c) : ∃ a C d, v = .ref a ∧ XP.mg c = some (.ref C) ∧ H a = some (cxo a (.ref C) d) ∧ ∀ dd, d = some dd → ∃ fs, H dd = some (.xd fs) := by
  match x, r, h with
  | .exc0 _, .exc0 h1 h2 h3, rfl => exact ⟨_, _, none, rfl, h1, h2, nofun⟩
  | .exc1 _ _ _, .exc1 h1 h2 h3 h4 h5 h6, rfl => exact ⟨_, _, _, rfl, h1, h2, fun d' e => by cases e; exact ⟨_, h4⟩⟩
theorem SubsOk.at {K : PySem.W.Frag} {s : Subs} (k : SubsOk K s) {c c' : Str} {b : Bool} {C C' : Addr} (h : subOf s c c' = some b) (h1 : XP.mg c = some (.ref C)) (h2 : XP.mg c' = some (.ref C')) : ExcC K C ∧ PySem.W.kitOne K (.ref C) (.ref C') = some b ∧ PySem.W.exmOne K (.ref C) (.ref C') = some b := by
  obtain ⟨C1, C2, e1, e2, e3, e4, e5⟩ := k _ (subOf_mem h)
  rw [h1] at e1
  rw [h2] at e2
  cases e1
  cases e2
  exact ⟨e3, e4, e5⟩
theorem cls_any {K : PySem.W.Frag} {s : Subs} (k : SubsOk K s) {c : Str} {C : Addr} (h1 : XP.mg c = some (.ref C)) {n : Sto} {A : Addr → Prop} {H : Hp} : ∀ {ds : List D} {vs : List V} {us : List Value} {ns : List Str} {b : Bool}, RpAll n A H vs ds → Vals vs us → clsNs ds = some ns → anyOf s c ns = some b → PySem.W.kitAny K (.ref C) us = some b
  | [], _, us, ns, b, .nil, rv, e, h => by
    cases rv
    cases e
    exact h
  | .cls c' :: ds, _, us, ns, b, .cons r0 r, rv, e, h => by
    cases rv with
    | cons ru rr =>
      cases r0 with
      | cls h2 =>
        cases ru
        obtain ⟨ns', e1, e2⟩ := Option.map_eq_some_iff.mp e
        subst e2
        show (match PySem.W.kitOne K (.ref C) (.ref _) with | some true => some true | some false => PySem.W.kitAny K (.ref C) _ | none => none) = some b
        unfold anyOf at h
        cases q : subOf s c c' with
        | none => rw [q] at h; cases h
        | some z =>
          rw [(k.at q h1 h2).2.1]
          rw [q] at h
          cases z with
          | true => exact h
          | false => exact cls_any k h1 r rr e1 h
theorem sn_isX {K : PySem.W.Frag} {s : Subs} (k : SubsOk K s) : SndN (fun xs H Q => rIsX K xs H Q ∨ rIsXT K xs H Q) (drIsX s) := fun n A B H xs ds Q Qd p0 nA r h kk => by
  match ds, r, h with
  | [x, .cls c'], .cons r0 (.cons (.cls h2) .nil), ⟨c, b, e1, e2, q⟩ =>
    obtain ⟨a, C, d, rfl, g1, g2, g3⟩ := r0.excE e1
    obtain ⟨k1, k2, _⟩ := k.at e2 g1 h2
    exact .inl ⟨a, C, d, _, _, b, rfl, g2, g3, k1, fun u hu => hu, k2, kk _ H _ (Same.refl H) (.bl b) q⟩
  | [x, .tup (y :: cs)], .cons r0 (.cons (.tup t1 t2 t3) .nil), ⟨c, ns, b, e1, e2, e3, q⟩ =>
    obtain ⟨a, C, d, rfl, g1, g2, g3⟩ := r0.excE e1
    refine .inr ⟨a, C, _, d, _, b, rfl, g2, g3, ?_, t1, fun us ru => cls_any k g1 t3 ru e2 e3, kk _ H _ (Same.refl H) (.bl b) q⟩
    cases ns with
    | nil => cases y <;> simp [clsNs] at e2
    | cons c' ns =>
      unfold anyOf at e3
      cases z : subOf s c c' with
      | none => rw [z] at e3; cases e3
      | some w =>
        obtain ⟨C1, C2, e5, _, e6, _⟩ := k _ (subOf_mem z)
        rw [g1] at e5
        cases e5
        exact e6
theorem call_isXU {X : Cx} : CallR X (.builtin "isinstance") (fun xs H Q => rIsX X.K xs H Q ∨ rIsXT X.K xs H Q) := call_isX.or call_isXT
end Dl

set_option Elab.async false
set_option linter.all false
set_option maxRecDepth 100000
set_option maxHeartbeats 1000000
/-! try: .. except C as n: y = n; classes by name; fields of exceptions; a def that gets a lambda. -/
namespace Dl
open PySem PySem.Spec PyProof.Rows L2
variable [XP]
theorem no_set_none {av : List Addr} {σ : L2.St} {Δ : DEnv} {i : Nat} (a : Addr) (h : NO av σ Δ a) : NO av (σ.set i none) (Δ.set i none) a := by
  refine ⟨h.1, fun j ds e => ?_⟩
  by_cases hj : i = j
  · subst hj
    rw [List.getElem?_set] at e
    simp only [if_true] at e
    split at e <;> cases e
  · rw [List.getElem?_set_ne hj] at e ⊢
    exact h.2 j ds e
theorem set_none_get {Δ : DEnv} {i j : Nat} {s : SV} (h : (Δ.set i none)[j]? = some (some s)) : i ≠ j ∧ Δ[j]? = some (some s) := by
  by_cases hj : i = j
  · subst hj
    rw [List.getElem?_set] at h
    simp only [if_true] at h
    split at h <;> cases h
  · rw [List.getElem?_set_ne hj] at h
    exact ⟨hj, h⟩
theorem StR.setN {n0 n : Sto} {H0 : Hp} {fr : List (V × D)} {av : List Addr} {σ : L2.St} {Δ : DEnv} {H : Hp} (S : StR n0 H0 fr av n σ Δ H) (i : Nat) : StR n0 H0 fr av n (σ.set i none) (Δ.set i none) H where
  same := S.same
  pen := S.pen
  len := by rw [List.length_set, List.length_set, S.len]
  frz := fun j d h => by
    obtain ⟨hj, h⟩ := set_none_get h
    rw [List.getElem?_set_ne hj]
    obtain ⟨v, h1, h2⟩ := S.frz j d h
    exact ⟨v, h1, h2.imp fun a _ _ z => no_set_none a z⟩
  own := fun j ds h => by
    obtain ⟨hj, h⟩ := set_none_get h
    rw [List.getElem?_set_ne hj]
    obtain ⟨p, vs, h1, h2, h3, h4, h5⟩ := S.own j ds h
    exact ⟨p, vs, h1, h2, h3, h4, h5.imp fun a _ _ z => no_set_none a z⟩
  dis := fun j l p dj dl h1 h2 h3 h4 => by
    obtain ⟨a1, h1⟩ := set_none_get h1
    obtain ⟨a2, h2⟩ := set_none_get h2
    rw [List.getElem?_set_ne a1] at h3
    rw [List.getElem?_set_ne a2] at h4
    exact S.dis j l p dj dl h1 h2 h3 h4
  gh := fun g hg => (S.gh g hg).imp fun a _ _ z => no_set_none a z
  avn := S.avn
variable [XE]
/-- x is the name of a class -/
theorem d_cls {X : Cx} {x : Str} {pos : Pos} (hg : Gl X x) (hm : ∃ C, X.mg x = some (.ref C) ∧ XP.mg x = some (.ref C)) (hd : (x == ("__debug__" : Str)) = false := by decide) : DE X (.Name x pos) (tCD (.cls x)) := by
  obtain ⟨C, h1, h2⟩ := hm
  exact wkE (pe_glob (v := .ref C) hg h1 rfl hd) fun _ _ _ h => lift_c rfl (fun _ _ _ => .cls h2) h
/-- try: .. except C as n: y = n  (slots: i of n, j of y) -/
def tTryKD (s : Subs) (C : Str) (i j : Nat) (tb : DTS) : DTS := fun Dd Δ n =>
  tb { Dd with xr := fun ex Δ' n' => ∃ c b, excN ex = some c ∧ subOf s c C = some b ∧ if b = true then flat ex = true ∧ Dd.nx ((Δ'.set j (some (.frz ex))).set i none) n' else Dd.xr ex Δ' n' } Δ n
theorem ds_try_keep {X : Cx} {x n y : Str} {i j : Nat} {s : Subs} {body : List Stmt} {np yp nq yq pos pos' : Pos} {tb : DTS} (hi : X.N[i]? = some n := by rfl) (hj : X.N[j]? = some y := by rfl) (stk : X.stack = X.env :: X.outer) (frm : X.env.frame = some X.env.locals) (nd : X.N.Nodup) (hn : X.env.kindOf n = some .local) (hy : Loc X.env.scope y) (hfy : X.fn y = true ∨ X.env.scope.names.lookup y = some .local)
    (hx : ∃ C, X.mg x = some (.ref C) ∧ XP.mg x = some (.ref C)) (hg : Gl X x) (hdx : (x == ("__debug__" : Str)) = false) (k : SubsOk X.K s) (out : L2.Takes X XE.W) (hex : X.ex = [])
    (hb : ∀ (W : WX) (pn : List (Addr × Obj)) (xe : Value → Shared → Prop), L2.Takes (X.tr pn xe) W → PassesOwn (model X.prog X.w) X.A X.env xe → @DSs _ (XE.w W) (X.tr pn xe) body tb)
    (hij : i ≠ j) (hdn : (n == ("__debug__" : Str)) = false) (hcn : (n == ("__classdict__" : Str)) = false) (hsw : swapsWith (.Name n nq) (some (.Name y yp)) yq.line X.env = pure false) :
    DS X (.Try body [.ExceptHandler (some (.Name x np)) (some n) [.Assign [.Name y yp] (.Name n nq) yq] pos'] [] [] pos) (tTryKD s x i j tb) := by
  obtain ⟨C, hm, hxp⟩ := hx
  refine wkS (ps_try_keep stk frm nd hi hn hj hy hfy (c := .ref C) ⟨hg, hdx, .inl hm⟩ out hex (tb := fun W => @liftS _ (XE.w W) tb) hb hij hdn hcn hsw) fun E σ H ⟨n0, H0, fr, av, n, Δ, Dd, S, h, kk⟩ => ?_
  refine ⟨n0, H0, fr, av, n, Δ, _, S, h, @EndsOk.mk _ (XE.w _) _ _ _ _ _ _ kk.nx kk.rt kk.bk kk.ct (fun cls d σ' H' Δ' ex n' S' r q => ?_) kk.inv⟩
  obtain ⟨c, b, e1, e2, q⟩ := q
  -- its class
  have hc : ∃ C', XP.mg c = some (.ref C') ∧ cls = .ref C' := by
    cases ex <;> simp only [excN, Option.some.injEq, reduceCtorEq] at e1
    · subst e1; obtain ⟨C', h1, h2, _⟩ := r; exact ⟨C', h1, h2⟩
    · subst e1; obtain ⟨C', _, _, h1, h2, _⟩ := r; exact ⟨C', h1, h2⟩
  obtain ⟨C', hc1, hc2⟩ := hc
  subst hc2
  refine ⟨b, (k.at e2 hc1 hxp).2.2, fun hb a ha => ?_, fun hb => ?_⟩
  · rw [if_pos hb] at q
    have sm : Same H' (upd H' a (cxo a (.ref C') d)) := same_new ha
    have S2 := S'.mono (.of sm) (S'.pen.same sm)
    have na : n' a = none := S'.neP ha
    have rx : Rp n' NoA (upd H' a (cxo a (.ref C') d)) (.ref a) ex := by
      cases ex <;> simp only [excN, Option.some.injEq, reduceCtorEq] at e1
      · subst e1
        obtain ⟨C2, h1, h2, h3⟩ := r
        cases h2
        subst h3
        exact .exc0 h1 upd_same na
      · subst e1
        obtain ⟨C2, dd, v, h1, h2, h3, h4, h5, h6⟩ := r
        cases h2
        subst h3
        have ne : dd ≠ a := ne_of_none h4 ha
        exact .exc1 h1 upd_same na (by rw [upd_ne ne]; exact h4) h5 (h6.same (.of sm))
    have S3 := (S2.setF j (Rp.flat _ _ q.1 rx)).setN i
    have es : ((σ'.set i (some (V.ref a))).set j (some (V.ref a))).set i none = (σ'.set j (some (V.ref a))).set i none := by
      rw [List.set_comm _ _ hij, List.set_set]
    show E.nx _ _
    rw [es]
    exact kk.nx _ _ _ _ S3 q.2
  · rw [if_neg (by rw [hb]; exact Bool.false_ne_true)] at q
    exact kk.xr _ _ _ _ _ _ _ S' r q
/-- e.f of an exception -/
def FldsOk (K : PySem.W.Frag) (fs : List (Str × Str)) : Prop := ∀ t ∈ fs, ∃ C, XP.mg t.1 = some (.ref C) ∧ XfC K C ∧ PySem.W.findIn K (.ref C) t.2 = some none
def tXfldD (fs : List (Str × Str)) (f : Str) (te : DTE) : DTE := fun _ Δ n X Q => te .bor Δ n X fun x n1 => match x with | .exc1 c f' y => f' = f ∧ (c, f) ∈ fs ∧ flat y = true ∧ Q y n1 | _ => False
theorem d_xfld {X : Cx} {e : Expr} {te : DTE} {f : Str} {pos : Pos} {fs : List (Str × Str)} (k : FldsOk X.K fs) (he : DE X e te) (hb : attributeBase e f X.env (eval e X.env) = eval e X.env := by rfl) : DE X (.Attribute e f pos) (tXfldD fs f te) :=
  wkE (pe_xfld he hb) fun σ H Q ⟨n0, H0, nB, B, fr, av, n, Δ, m, Xd, Qd, S, bb, xk, h, kk⟩ => lift_at .bor S bb xk h fun v H1 d n1 s1 S1 r1 q1 => by
    cases d <;> first | exact q1.elim | skip
    obtain ⟨rfl, h2, h3, q⟩ := q1
    cases r1 with
    | exc1 g1 g2 g3 g4 g5 g6 =>
      obtain ⟨C, k1, k2, k3⟩ := k _ h2
      rw [g1] at k1
      cases k1
      refine ⟨_, _, _, _, _, rfl, g2, g4, k2, k3, ?_, kk _ H1 _ n1 s1 S1.pen (Rp.flat _ _ h3 g6) q⟩
      show List.lookup _ [(_, _)] = _
      simp [List.lookup]
end Dl

set_option Elab.async false
set_option linter.all false
set_option maxRecDepth 100000
set_option maxHeartbeats 1000000
/-! More words: methods on roots; an item of a list of new lists; count, index; replace; an empty dict; a def that gets a lambda. -/
namespace Dl
open PySem PySem.Spec PyProof.Rows L2
variable [XP] [XE]
/-! ### methods that change a root -/
abbrev DRm := List D → List D → (D → List D → Prop) → Prop
def SndM (r : V → List V → Hp → VK → Prop) (dr : DRm) : Prop := ∀ (n : Sto) (B : Addr → Prop) (H : Hp) (p : Addr) (vs : List V) (ds : List D) (xs : List V) (es : List D) (Q : VK) (Qd : D → List D → Prop), H p = some (.lst vs) → RpAll n NoA H vs ds → RpAll n B H xs es → dr ds es Qd →
  (∀ v us z fs, RpAll n NoA H us fs → Rp n NoA H v z → flat z = true → Qd z fs → Q v (upd H p (.lst us))) → r (.ref p) xs H Q
def tMthRD (dr : DRm) (to : DTE) (ta : DTA) : DTE := fun _ Δ n X Q => to .bor Δ n X fun x n1 => match x with
  | .loc p => (∃ ds1, n1 p = some (.lst ds1)) ∧ ta .bor Δ n1 X fun es n2 => ∃ ds, n2 p = some (.lst ds) ∧ dr ds es fun z fs => Q z (updS n2 p (.lst fs))
  | _ => False
section
variable {X : Cx} {e : Expr} {to te ta tb : DTE} {tA : DTA} {pos : Pos}
theorem d_mthR {r : V → List V → Hp → VK → Prop} {dr : DRm} (sn : SndM r dr) (he : PE X e (tBM X.K "list" r (lift to) (liftA tA))) : DE X e (tMthRD dr to tA) :=
  wkE he fun σ H Q ⟨n0, H0, nB, B, fr, av, n, Δ, m, Xd, Qd, S, bb, xk, h, k⟩ => lift_at .bor S bb xk h fun v H1 d n1 s1 S1 r1 q1 => by
    cases d <;> first | exact q1.elim | skip
    cases r1
    obtain ⟨⟨ds1, e1⟩, q1⟩ := q1
    obtain ⟨vs1, h1, _⟩ := S1.pen.lst e1
    refine ⟨.inl ⟨rfl, _, SqL.of h1⟩, liftA_at .bor S1 (bb.trans s1) (xk.step s1) q1 fun xs H2 es n2 s2 S2 r2 ⟨ds, e2, q2⟩ => ?_⟩
    obtain ⟨vs, h2, rr⟩ := S2.pen.lst e2
    refine sn n2 _ H2 _ vs ds xs es Q _ h2 rr r2 q2 fun v us z fs ru rz fz qz => ?_
    exact k v _ z _ ((s1.trans s2).trans (put_same e2)) (S2.pen.putL e2 ru) (Rp.flat _ _ fz (Rp.stay (put_stay e2) _ _ rz)) qz
theorem d_mthR0 {r : V → List V → Hp → VK → Prop} {dr : DRm} (sn : SndM r dr) (he : PE X e (tBM0 X.K "list" r (lift to))) : DE X e (tMthRD dr to tNilD) :=
  wkE he fun σ H Q ⟨n0, H0, nB, B, fr, av, n, Δ, m, Xd, Qd, S, bb, xk, h, k⟩ => lift_at .bor S bb xk h fun v H1 d n1 s1 S1 r1 q1 => by
    cases d <;> first | exact q1.elim | skip
    cases r1
    obtain ⟨_, ds, e2, q2⟩ := q1
    obtain ⟨vs, h2, rr⟩ := S1.pen.lst e2
    refine ⟨.inl ⟨rfl, _, SqL.of h2⟩, sn n1 (fun _ => True) H1 _ vs ds [] [] Q _ h2 rr .nil q2 fun v us z fs ru rz fz qz => ?_⟩
    exact k v _ z _ (s1.trans (put_same e2)) (S1.pen.putL e2 ru) (Rp.flat _ _ fz (Rp.stay (put_stay e2) _ _ rz)) qz
def drApp : DRm := fun ds es Q => match es with | [e] => flat e = true ∧ ds.length < sizeLine ∧ Q .non (ds ++ [e]) | _ => False
theorem sn_app : SndM rAppend drApp := fun n B H p vs ds xs es Q Qd h r rx q k => by
  match es, rx, q with
  | [e], .cons (v := v) r0 .nil, ⟨f, l, q⟩ => exact ⟨p, vs, v, rfl, rfl, h, by rw [r.length]; exact l, k _ _ _ _ (r.append (.cons (Rp.flat _ _ f r0) .nil)) .non rfl q⟩
def drIns : DRm := fun ds es Q => match es with | [.int z, e] => flat e = true ∧ ds.length < sizeLine ∧ 0 ≤ z ∧ z < 2 ^ 63 ∧ Q .non (ds.take z.toNat ++ [e] ++ ds.drop z.toNat) | _ => False
theorem sn_ins : SndM rInsert drIns := fun n B H p vs ds xs es Q Qd h r rx q k => by
  match es, rx, q with
  | [.int z, e], .cons (v := _) (.int _) (.cons (v := v) r0 .nil), ⟨f, l, z0, z1, q⟩ =>
    exact ⟨p, vs, z, v, rfl, rfl, h, by rw [r.length]; exact l, z0, z1, k _ _ _ _ (((r.take _).append (.cons (Rp.flat _ _ f r0) .nil)).append (r.drop _)) .non rfl q⟩
def drExt : DRm := fun ds es Q => match es with | [.lst fs] => flatAll fs = true ∧ ds.length + fs.length ≤ sizeLine ∧ Q .non (ds ++ fs) | _ => False
theorem sn_ext : SndM rExtend drExt := fun n B H p vs ds xs es Q Qd h r rx q k => by
  match es, rx, q with
  | [.lst fs], .cons (.lst h1 h2 h3 r0) .nil, ⟨f, l, q⟩ => exact ⟨p, _, vs, _, rfl, rfl, h, h1, by rw [r.length, r0.length]; exact l, k _ _ _ _ (r.append (RpAll.flat _ _ f r0)) .non rfl q⟩
def drPop : DRm := fun ds es Q => es = [] ∧ ∃ fs z, ds = fs ++ [z] ∧ flat z = true ∧ Q z fs
theorem sn_pop : SndM rPop drPop := fun n B H p vs ds xs es Q Qd h r rx q k => by
  obtain ⟨rfl, fs, z, rfl, fz, q⟩ := q
  cases rx
  obtain ⟨v0, g1, r0⟩ := r.get (i := fs.length) (d := z) (by simp)
  have el := r.length
  rw [List.length_append, List.length_singleton] at el
  refine ⟨p, vs, v0, rfl, rfl, h, by rw [el]; exact g1, k _ _ z fs ?_ r0 fz q⟩
  have e4 : vs.dropLast = vs.take fs.length := by rw [List.dropLast_eq_take, el]; rfl
  rw [e4]
  have := r.take fs.length
  rw [List.take_left] at this
  exact this
/-! ### x[i] where x's items are as they are wanted -/
def tIxMD (ta tb : DTE) : DTE := fun m Δ n X Q => ta m Δ n X fun x n1 => tb .bor Δ n1 X fun y n2 => match x, y with
  | .lst xs, .int i => ∃ d, atI xs i = some d ∧ Q d n2
  | .tup xs, .int i => ∃ d, atI xs i = some d ∧ Q d n2
  | _, _ => False
theorem d_ixM {a b : Expr} (ha : DE X a ta) (hb : DE X b tb) (hs : PlainIx b) : DE X (.Subscript a b pos) (tIxMD ta tb) :=
  wkE (pe_ix ix_seq ha hb hs) fun σ H Q ⟨n0, H0, nB, B, fr, av, n, Δ, m, Xd, Qd, S, bb, xk, h, k⟩ => lift_at m S bb xk h fun x H1 d n1 s1 S1 r1 q1 =>
    lift_at .bor S1 (bb.trans s1) (xk.step s1) q1 fun y H2 e n2 s2 S2 r2 q2 => by
      cases d <;> cases e <;> first | exact q2.elim | skip
      · obtain ⟨d, e2, q⟩ := q2
        cases r2
        cases r1 with
        | tup a1 a2 r =>
          obtain ⟨v, e3, rv⟩ := (r.same s2).atI e2
          exact .inr (.inl ⟨_, _, _, v, rfl, rfl, TupO.sq ((s2.tup a1 a2).1), e3, k _ H2 _ n2 (s1.trans s2) S2.pen rv q⟩)
      · obtain ⟨d, e2, q⟩ := q2
        cases r2
        cases r1 with
        | lst a1 a2 a3 r =>
          obtain ⟨v, e3, rv⟩ := (r.same s2).atI e2
          exact .inl ⟨_, _, _, v, rfl, rfl, SqL.of ((s2.keep _ _ a1 a2).1), e3, k _ H2 _ n2 (s1.trans s2) S2.pen rv q⟩
/-! ### xs.count(y), xs.index(y) of flat items -/
def rCntF (K : PySem.W.Frag) : V → List V → Hp → VK → Prop := fun x xs H Q => ∃ (a : Addr) (ys : List V) (y : V), x = .ref a ∧ xs = [y] ∧ SqL K H a ys ∧ flatV y = true ∧ ys.all flatV = true ∧ Q (.int (ys.countP fun z => eqV z y : Nat)) H
omit [XP] [XE] in
theorem count_eqU {y : V} (fy : flatV y = true) : ∀ {ys : List V} {us : List Value}, Vals ys us → ys.all flatV = true → us.countP (eqU y) = ys.countP fun z => eqV z y
  | _, _, .nil, _ => rfl
  | z :: ys, u :: us, .cons r t, f => by
    rw [List.all_cons, Bool.and_eq_true] at f
    rw [List.countP_cons, List.countP_cons, count_eqU fy t f.2, eqU_of r f.1]
omit [XP] [XE] in
theorem mt_countF : MtR X "list.count" (rCntF X.K) := by
  intro pins s σ H x xs v us Q inv rx rxs h
  obtain ⟨a, ys, y, rfl, rfl, hs, fy, fys, q⟩ := h
  cases rx
  cases rxs with
  | cons ry rt =>
    rename_i uy ut
    cases rt
    obtain ⟨its, rv, ⟨⟨cls, dd, data, sl⟩, k, ho, hc, hdn, hd⟩, hlen⟩ := inv.list hs
    simp only at hc hd
    subst hc hd
    refine call_meets F.slot_list_count ⟨_, ho, rfl⟩ F.entry_list_count (F.args_list_count_2 _ _) (SeqAt.list_countAt a its.toArray k dd sl uy (eqU y)) ⟨ho, fun u' hu' => mem_eqAt ry fy rv fys u' (by simpa using hu'), ?_⟩
    refine ⟨.int (ys.countP fun z => eqV z y : Nat), H, inv.tok _, ⟨s.toks, ?_⟩, q⟩
    rw [show its.toArray.toList = its from rfl, count_eqU fy rv fys]
/-- methods of a list that change nothing, by data -/
abbrev DRq := List D → List D → (D → Prop) → Prop
def SndQ (r : V → List V → Hp → VK → Prop) (dr : DRq) : Prop := ∀ (n : Sto) (B : Addr → Prop) (H : Hp) (p : Addr) (vs : List V) (ds : List D) (xs : List V) (es : List D) (Q : VK) (Qd : D → Prop), H p = some (.lst vs) → RpAll n B H vs ds → RpAll n B H xs es → dr ds es Qd →
  (∀ v z, Rp n NoA H v z → flat z = true → Qd z → Q v H) → r (.ref p) xs H Q
def tMthQD (dr : DRq) (to : DTE) (ta : DTA) : DTE := fun _ Δ n X Q => to .bor Δ n X fun x n1 => match x with | .lst ds => ta .bor Δ n1 X fun es n2 => dr ds es fun z => Q z n2 | _ => False
theorem d_mthQ {r : V → List V → Hp → VK → Prop} {dr : DRq} (sn : SndQ r dr) (he : PE X e (tBM X.K "list" r (lift to) (liftA tA))) : DE X e (tMthQD dr to tA) :=
  wkE he fun σ H Q ⟨n0, H0, nB, B, fr, av, n, Δ, m, Xd, Qd, S, bb, xk, h, k⟩ => lift_at .bor S bb xk h fun v H1 d n1 s1 S1 r1 q1 => by
    cases d <;> first | exact q1.elim | skip
    cases r1 with
    | lst a1 a2 a3 rr =>
      refine ⟨.inl ⟨rfl, _, SqL.of a1⟩, liftA_at .bor S1 (bb.trans s1) (xk.step s1) q1 fun xs H2 es n2 s2 S2 r2 q2 => ?_⟩
      exact sn n2 (fun _ => True) H2 _ _ _ xs es Q _ (s2.keep _ _ a1 a2).1 ((rr.same s2).imp fun _ _ _ _ => trivial) (r2.imp fun _ _ _ _ => trivial) q2 fun v z rz fz qz => k v H2 z n2 (s1.trans s2) S2.pen (Rp.flat _ _ fz rz) qz
def drCnt : DRq := fun ds es Q => match es with | [e] => scD e = true ∧ ds.all scD = true ∧ Q (.int (ds.countP fun y => eqD y e : Nat)) | _ => False
theorem all_sc_V {n : Sto} {B : Addr → Prop} {H : Hp} : ∀ {vs : List V} {ds : List D}, RpAll n B H vs ds → ds.all scD = true → vs.all flatV = true
  | _, _, .nil, _ => rfl
  | _, _, .cons r t, h => by
    rw [List.all_cons, Bool.and_eq_true] at h ⊢
    exact ⟨sc_V r h.1, all_sc_V t h.2⟩
theorem countP_V {n : Sto} {B : Addr → Prop} {H : Hp} {y : V} {e : D} (ry : Rp n B H y e) (he : scD e = true) : ∀ {vs : List V} {ds : List D}, RpAll n B H vs ds → ds.all scD = true → vs.countP (fun z => eqV z y) = ds.countP fun z => eqD z e
  | _, _, .nil, _ => rfl
  | _, _, .cons r t, h => by
    rw [List.all_cons, Bool.and_eq_true] at h
    rw [List.countP_cons, List.countP_cons, countP_V ry he t h.2, eqD_V r ry h.1 he]
theorem sn_cnt {K : PySem.W.Frag} : SndQ (rCntF K) drCnt := fun n B H p vs ds xs es Q Qd h r rx q k => by
  match es, rx, q with
  | [e], .cons (v := v) r0 .nil, ⟨f, l, q⟩ => exact ⟨p, vs, v, rfl, rfl, SqL.of h, sc_V r0 f, all_sc_V r l, by rw [countP_V r0 f r l]; exact k _ _ (.int _) rfl q⟩
def drIdx : DRq := fun ds es Q => match es with | [e] => scD e = true ∧ ds.all scD = true ∧ ∃ (j : Nat) (z : D), ds[j]? = some z ∧ eqD z e = true ∧ (∀ (m : Nat) z', m < j → ds[m]? = some z' → eqD z' e = false) ∧ Q (.int j) | _ => False
theorem sc_at {ds : List D} (h : ds.all scD = true) {j : Nat} {z : D} (e : ds[j]? = some z) : scD z = true := List.all_eq_true.mp h z (List.mem_of_getElem? e)
theorem sn_idx {K : PySem.W.Frag} : SndQ (rIndex K) drIdx := fun n B H p vs ds xs es Q Qd h r rx q k => by
  match es, rx, q with
  | [e], .cons (v := v) r0 .nil, ⟨f, l, j, z, e1, e2, e3, q⟩ =>
    obtain ⟨w, g1, g2⟩ := r.get e1
    refine ⟨p, vs, v, j, w, rfl, rfl, SqL.of h, sc_V r0 f, all_sc_V r l, g1, by rw [eqD_V g2 r0 (sc_at l e1) f]; exact e2, fun m z' hm hz => ?_, k _ _ (.int _) rfl q⟩
    obtain ⟨d', g3, g4⟩ := r.get' hz
    rw [eqD_V g4 r0 (sc_at l g3) f]
    exact e3 m d' hm g3
/-! ### {} -/
def tEmpD : DTE := fun _ _ n X Q => Q (.obj (.dK [])) n
theorem d_emp : DE X (.Dict [] [] pos) tEmpD :=
  wkE pe_dnewK fun σ H Q ⟨n0, H0, nB, B, fr, av, n, Δ, m, Xd, Qd, S, bb, xk, h, k⟩ => fun p hp =>
    k _ _ _ n (SameP.new hp) (S.pen.same (same_new hp)) (.obj upd_same (S.neP hp) (Al.new S bb m hp) (by intro _ z; cases z)) h
/-! ### e.replace of written texts, where a token is out -/
abbrev DET (X : Cx) (e : Expr) (t : DTE) : Prop := L2.PET X e (lift t)
abbrev DAT (X : Cx) (es : List Expr) (t : DTA) : Prop := L2.PAT X es (liftA t)
def tReplD (y z : Str) (to : DTE) : DTE := fun _ Δ n X Q => to .bor Δ n X fun d n1 => match d with | .str x => x.length + (x.length + 1) * z.length ≤ 16777216 ∧ Q (.str (Txt.replace x y z)) n1 | _ => False
end
section
variable {X : Cx} {e a b o : Expr} {es : List Expr} {to te ta tb : DTE} {tA : DTA} {pos apos c0 c1 : Pos} {j k : Nat} {y z : Str}
theorem wkET {t t' : TE} (h : L2.PET X e t) (w : ∀ σ H Q, t' σ H Q → t σ H Q) : L2.PET X e t' := fun pins s σ H Q h0 inv q => h pins s σ H Q h0 inv (w σ H Q q)
theorem wkAT {t t' : TA} (h : L2.PAT X es t) (w : ∀ σ H Q, t' σ H Q → t σ H Q) : L2.PAT X es t' := fun po pins s σ H Q h0 inv q => h po pins s σ H Q h0 inv (w σ H Q q)
theorem wkST {st : Stmt} {t t' : TS} (h : L2.PST X st t) (w : ∀ D σ H, t' D σ H → t D σ H) : L2.PST X st t' := fun pins s σ H D h0 inv q => h pins s σ H D h0 inv (w D σ H q)
theorem wkSsT {st : List Stmt} {t t' : TS} (h : L2.PSsT X st t) (w : ∀ D σ H, t' D σ H → t D σ H) : L2.PSsT X st t' := fun pins s σ H D h0 inv q => h pins s σ H D h0 inv (w D σ H q)
theorem dT_repl (ho : DE X o to) (hyz : (y == z) = false := by decide)
    (hst : starEach [.Constant (.str y) j c0, .Constant (.str z) k c1] X.env = [(false, eval (.Constant (.str y) j c0) X.env), (false, eval (.Constant (.str z) k c1) X.env)] := by rfl)
    (hbase : attributeBase o "replace" X.env (eval o X.env) = eval o X.env := by rfl) (hline : (apos.endLine == pos.line) = true := by rfl) :
    DET X (.Call (.Attribute o "replace" apos) [.Constant (.str y) j c0, .Constant (.str z) k c1] [] pos) (tReplD y z to) :=
  wkET (CwR.pet_replC ho hyz hst hbase hline) fun σ H Q ⟨n0, H0, nB, B, fr, av, n, Δ, m, Xd, Qd, S, bb, xk, h, kk⟩ => lift_at .bor S bb xk h fun v H1 d n1 s1 S1 r1 q1 => by
    cases d <;> first | exact q1.elim | skip
    cases r1
    exact ⟨_, rfl, q1.1, kk _ H1 _ n1 s1 S1.pen (.str _) q1.2⟩
theorem dT_of (h : DE X e te) : DET X e te := CwR.PET.of h
theorem daT_nil : DAT X [] tNilD := wkAT L2.pat_nil fun σ H Q ⟨n0, H0, nB, B, fr, av, n, Δ, m, Xd, Qd, S, bb, xk, h, k⟩ => k [] H [] n (SameP.refl n H) S.pen .nil h
theorem daT_cons {tr : DTA} (ha : DET X a ta) (hr : DAT X es tr) (hst : starEach (a :: es) X.env = (false, eval a X.env) :: starEach es X.env := by rfl) : DAT X (a :: es) (tConsD ta tr) :=
  wkAT (L2.pat_cons ha hr hst) fun σ H Q ⟨n0, H0, nB, B, fr, av, n, Δ, m, Xd, Qd, S, bb, xk, h, k⟩ => lift_at m S bb xk h fun v H1 d n1 s1 S1 r1 q1 =>
    liftA_at m S1 (bb.trans s1) (xk.step s1) q1 fun vs H2 ds n2 s2 S2 r2 q2 => k _ H2 _ n2 (s1.trans s2) S2.pen (.cons (r1.same s2) r2) q2
theorem dT_lst (h : DAT X es tA) : DET X (.List es pos) (tLstD tA) := wkET (L2.pet_lst h) fun _ _ _ h => lift_lst (es := es) h
theorem dT_op {op : Operator} {r : R2} {dr : DR2} (ho : OpR X (binaryOp op) r) (sn : Snd2 r dr) (ha : DET X a ta) (hb : DET X b tb) : DET X (.BinOp a op b pos) (tOpD dr ta tb) :=
  wkET (CwR.pet_op ho ha hb) fun _ _ _ h => lift_op sn h
theorem dsT_set (i : Nat) {x : Str} {pos' : Pos} (hN : X.N.Nodup) (he : DET X e te) (hi : X.N[i]? = some x := by rfl) (hx : Loc X.env.scope x := by first | exact Or.inl rfl | exact Or.inr rfl) (hs : swapsWith e (some (.Name x pos')) pos.line X.env = pure false := by rfl) (hf : X.fn x = true ∨ X.env.scope.names.lookup x = some .local := by first | exact .inl rfl | exact .inr rfl) :
    L2.PST X (.Assign [.Name x pos'] e pos) (liftS (tSetD i te)) := by
  intro pins s σ H Dn h0 inv h
  have w := asg_F (i := i) (t := te) (te := lift te) (fun _ _ _ h => h) Dn σ H h
  exact wpAny_Assign_Name (thn (he pins s σ H _ h0 inv w) fun v s1 ⟨y, H1, inv1, r1, q1⟩ => store_ok inv1 hN hi hx r1 (fun s2 inv2 => ⟨_, H1, inv2, q1⟩) hf) hs
theorem dsT_of {st : Stmt} {t : DTS} (h : DS X st t) : L2.PST X st (liftS t) := L2.PST.of h
theorem dssT_of {st : List Stmt} {t : DTS} (h : DSs X st t) : L2.PSsT X st (liftS t) := L2.PSsT.of h
theorem dssT_cons {st : Stmt} {rest : List Stmt} {t u : DTS} (h1 : L2.PST X st (liftS t)) (h2 : L2.PSsT X rest (liftS u)) : L2.PSsT X (st :: rest) (liftS (tSeqD t u)) :=
  wkSsT (L2.psst_cons h1 h2) fun E σ H ⟨n0, H0, fr, av, n, Δ, Dd, S, h, k⟩ =>
    ⟨n0, H0, fr, av, n, Δ, _, S, h, ⟨fun σ' H' Δ' n' S' q => ⟨n0, H0, fr, av, n', Δ', Dd, S', q, k⟩, k.rt, k.bk, k.ct, k.xr, k.inv⟩⟩
theorem dss_doc {x : Str} {rest : List Stmt} {u : DTS} {p p' : Pos} (h : L2.PSsT X rest (liftS u)) : DSs X (.Expr (.Constant (.str x) j p) p' :: rest) (tSeqD (tDropD (tCD (.str x))) u) :=
  wkSs (CwR.pss_docT h) fun E σ H ⟨n0, H0, fr, av, n, Δ, Dd, S, h, k⟩ => ⟨n0, H0, fr, av, n, Δ, Dd, S, h, k⟩
end
/-- behind it a token is out -/
def PEk (X : Cx) (e : Expr) (t : TE) : Prop :=
  ∀ (pins : List (Addr × Obj)) (s : Shared) (σ : L2.St) (H : Hp) (Q : VK), Inv X pins σ H s → t σ H Q → wpAny (model X.prog X.w) X.A (eval e X.env) (fun v s' => 1 ≤ s'.toks ∧ EP X pins σ Q v s') X.xe s
section
variable {X : Cx} {e a : Expr} {es : List Expr} {ta te : DTE} {tr : DTA} {pos p : Pos} {j : Nat} {x : Str}
theorem dek_op {op : Operator} {r : R2} {dr : DR2} (ho : OpR X (binaryOp op) r) (sn : Snd2 r dr) (ha : DE X a ta) : PEk X (.BinOp a op (.Constant (.str x) j p) pos) (lift (tOpD dr ta (tCD (.str x)))) := by
  intro pins s σ H Q inv h
  have w := lift_op (ta := ta) (tb := tCD (.str x)) sn h
  refine wpAny_BinOp (thn (ha.run pins s σ H _ inv w) fun v s1 ⟨y, H1, inv1, r1, q1⟩ => Calls.Constant_str ?_)
  have q2 : r y (.str x) H1 Q := lift_c (d := .str x) (v := .str x) rfl (fun _ _ _ => .str x) q1
  exact wpAny_mono (PySem.wpAny_toks (ho pins { s1 with toks := s1.toks + 1 } σ H1 y (.str x) v _ Q (inv1.tok _) r1 ⟨_, rfl⟩ q2)) (fun u s2 z => ⟨Nat.le_trans (Nat.le_add_left 1 s1.toks) z.1, z.2⟩) fun _ _ z => z.2
theorem da_consK (ha : PEk X e (lift te)) (hr : DAT X es tr) (hst : starEach (e :: es) X.env = (false, eval e X.env) :: starEach es X.env := by rfl) : DA X (e :: es) (tConsD te tr) := by
  refine ⟨fun po pins s σ H Q inv ⟨n0, H0, nB, B, fr, av, n, Δ, m, Xd, Qd, S, bb, xk, h, k⟩ => ?_⟩
  rw [hst]
  show wpAny _ _ (spliced ((false, eval e X.env) :: backTo po (starEach es X.env))) _ _ s
  have w : lift te σ H fun v H1 => liftA tr σ H1 fun vs H2 => Q (v :: vs) H2 := lift_at m S bb xk h fun v H1 d n1 s1 S1 r1 q1 =>
    liftA_at m S1 (bb.trans s1) (xk.step s1) q1 fun vs H2 ds n2 s2 S2 r2 q2 => k _ H2 _ n2 (s1.trans s2) S2.pen (.cons (r1.same s2) r2) q2
  refine Calls.spliced_cons (thn (ha pins s σ H _ inv w) fun v s1 ⟨h1, y, H1, inv1, r1, q1⟩ => ?_)
  exact thn (hr po pins s1 σ H1 _ h1 inv1 q1) fun us s2 ⟨xs, H2, inv2, r2, q2⟩ => ⟨y :: xs, H2, inv2, .cons r1 r2, q2⟩
end
omit [XE] in
/-- a def that gets a lambda alone, as its callers know it -/
theorem callL_of {P : Program} {w : World} {K : PySem.W.Frag} {mg : Str → Option Value} {base : Heap} {x a : Str} {st : Stmt} {f : Addr} {fd : FuncData} {N : List Str} {k : Nat} {sp : DSpL} {t : V → DAsk → DTS} (F : L2.Fun K x x st f fd) (hm : mg x = some (.ref f)) (hb : L2.Binds K fd [a] []) (S : FnScope N [a] (defScope st)) (hN : N[0]? = some a) (hv : Vis (defScope st) a)
    (der : ∀ [XE] (cv : Value), fd.code = cv → ∀ (A : Around) (fs : List Env) (s : Shared) (H : Hp) (E : XK) (v0 : V) (ask : DAsk), Room k (A.deeper (envOfC x (defScope st) s.heap.objs.size f cv)) → (A.deeper (envOfC x (defScope st) s.heap.objs.size f cv)).guards = some [] →
      L2.Takes (cxOf (L2.CX P w) P w K mg base N x (defScope st) f cv A fs s H E) XE.W →
      (∀ (W : WX) (pn : List (Addr × Obj)) (xe : Value → Shared → Prop) (p1 p2 : Pos), L2.Takes ((cxOf (L2.CX P w) P w K mg base N x (defScope st) f cv A fs s H E).tr pn xe) W → PE ((cxOf (L2.CX P w) P w K mg base N x (defScope st) f cv A fs s H E).tr pn xe) (.Call (.Name a p1) [] [] p2) (@lift _ (XE.w W) (tAskD v0 ask))) →
      DSs (cxOf (L2.CX P w) P w K mg base N x (defScope st) f cv A fs s H E) (defBody st) (t v0 ask))
    (read : ∀ v0 ask n Xd Qd, sp ask n Xd Qd → t v0 ask { nx := fun _ n' => Qd .non n', rt := Qd, xr := fun ex _ n' => Xd ex n' } (startD N [.opq v0]) n) : CalL P w K mg base x a k sp := by
  obtain ⟨oc, od, kV, doc, pm, an, cdv, ct, osl, rfl, lk, hcd⟩ := F.ex
  exact ⟨f, _, _, _, .none, kV, doc, pm, cdv, ct, oc, an, od, osl, N, t, hm, F.kp, lk, hcd, hb, S, hN, hv, fun A fs s H E v0 ask hr hg tk hask => der cdv rfl A fs s H E v0 ask hr hg tk hask, read⟩
end Dl

set_option Elab.async false
set_option linter.all false
set_option maxRecDepth 100000
set_option maxHeartbeats 1000000
/-! x = e, of a new list or of what is flat. -/
namespace Dl
open PySem PySem.Spec PyProof.Rows L2
variable [XP] [XE]
def tAnyD (i : Nat) (te : DTE) : DTS := fun Dd Δ n => te .new Δ n (Dd.xs Δ) fun d n1 => match d with | .lst ds => flatAll ds = true ∧ Dd.nx (Δ.set i (some (.own ds))) n1 | d => flat d = true ∧ Dd.nx (Δ.set i (some (.frz d))) n1
theorem asg_any {i : Nat} {t : DTE} {te : TE} (w : ∀ σ H Q, lift t σ H Q → te σ H Q) (E : Ends) (σ : L2.St) (H : Hp) (h : liftS (tAnyD i t) E σ H) : tAsg te (gName i) E σ H := by
  obtain ⟨n0, H0, fr, av, n, Δ, Dd, S, h, k⟩ := h
  refine w _ _ _ (lift_at (B := H) .new S (SameP.refl n H) (k.xk S) h fun v H1 d n1 s1 S1 r1 q1 => ?_)
  have fl : flat d = true → Dd.nx (Δ.set i (some (.frz d))) n1 → E.nx (σ.set i (some v)) H1 := fun f q => k.nx _ _ _ _ (S1.setF i (Rp.flat _ _ f r1)) q
  cases d
  case lst ds =>
    cases r1 with
    | lst a1 a2 a3 r => exact k.nx _ _ _ _ (S.setO s1 S1.pen i a3.2 a1 a2 q1.1 r) q1.2
  all_goals exact fl q1.1 q1.2
section
variable {X : Cx} {i : Nat} {x : Str} {e : Expr} {te : DTE} {pos pos' : Pos}
theorem ds_any (i : Nat) (hN : X.N.Nodup) (he : DE X e te) (hi : X.N[i]? = some x := by rfl) (hx : Loc X.env.scope x := by first | exact Or.inl rfl | exact Or.inr rfl) (hs : swapsWith e (some (.Name x pos')) pos.line X.env = pure false := by rfl) (hf : X.fn x = true ∨ X.env.scope.names.lookup x = some .local := by first | exact .inl rfl | exact .inr rfl) :
    DS X (.Assign [.Name x pos'] e pos) (tAnyD i te) := wkS (ps_set hN hi hx he hs hf) (asg_any fun _ _ _ h => h)
end
end Dl

set_option Elab.async false
set_option linter.all false
set_option maxRecDepth 100000
set_option maxHeartbeats 1000000
/-! range with a step; xs[a:c] = ys of a list that a slot alone holds. -/
namespace Dl
open PySem PySem.Spec PyProof.Rows L2
/-- xs[lo:hi] = .. with whole numbers for the ends -/
def gSlI (to : TE) (tl th : TO) : TG := fun v σ H Q => to σ H fun o H1 => tl σ H1 fun l H2 => th σ H2 fun u H3 => ∃ (L b : Addr) (xs ys : List V) (a c : Int), o = .ref L ∧ v = .ref b ∧ l = some a ∧ u = some c ∧ H3 L = some (.lst xs) ∧ H3 b = some (.lst ys) ∧ L ≠ b ∧ 0 ≤ a ∧ a ≤ c ∧ c ≤ xs.length ∧ xs.length + ys.length ≤ sizeLine ∧
  Q σ (upd H3 L (.lst (xs.take a.toNat ++ ys ++ xs.drop c.toNat)))
section
variable {X : Cx} {pos p2 : Pos}
theorem pg_slice {o lo hi : Expr} {to : TE} {tl th : TO} (ho : PE X o to) (hl : PO X (some lo) tl) (hu : PO X (some hi) th)
    (ha : ∀ v, assign (.Subscript o (.Slice (some lo) (some hi) none p2) pos) X.env v = (do
      let ov ← holding [v] (eval o X.env)
      let iv ← holding [v, ov] (eval (.Slice (some lo) (some hi) none p2) X.env)
      standAt pos
      holding [v, ov, iv] (setItem ov iv v)
      release [iv, v, ov] []) := by intro _; rfl) : PG X (.Subscript o (.Slice (some lo) (some hi) none p2) pos) (gSlI to tl th) := by
  refine ⟨fun pins s σ H v u Q I r h => ?_⟩
  rw [ha]
  refine wpAny_bind (wpAny_holding (thn (ho.run pins s σ H _ I h) fun ov s1 ⟨x, H1, I1, r1, q1⟩ => ?_))
  refine wpAny_bind (wpAny_holding (wpAny_Slice (thn (hl.run pins s1 σ H1 _ I1 q1) fun vl s2 ⟨l, H2, I2, pl, q2⟩ => thn (hu.run pins s2 σ H2 _ I2 q2) fun vu s3 ⟨w, H3, I3, pu, q3⟩ => ?_)))
  rw [evalPart_none]
  refine wpAny_pure ?_
  obtain ⟨L, b, xs, ys, a, c, rfl, rfl, rfl, rfl, hL, hb, hne, h0, hac, hc, hz, q⟩ := q3
  have I4 : Inv X pins σ H3 { s3 with heap := s3.heap.push { cls := .type "slice", data := .fields #[vl, vu, .none] } } := I3.kept (t' := s3.toks) fun b ob q => Heap.get?_push_of_some _ q
  cases r1
  cases r
  have pl' : RelV (.int a) vl := by cases pl; exact ⟨_, rfl⟩
  have pu' : RelV (.int c) vu := by cases pu; exact ⟨_, rfl⟩
  refine wpAny_bind (wpAny_standAt (wpAny_bind (wpAny_holding ?_)))
  refine thn (set_slice (Q := fun _ s' => Inv X pins σ (upd H3 L (.lst (xs.take a.toNat ++ ys ++ xs.drop c.toNat))) s') I4 hL hb hne (Heap.IsSliceOf.new ..) pl' pu' h0 hac hc hz fun s' I' => I') fun _ s4 I5 => ?_
  exact wpAny_release ⟨σ, _, I5, q⟩
variable [XP] [XE] {e ea eb : Expr} {te ta tb : DTE} {i : Nat}
/-- xs[a:c] = e, of a list that slot i alone holds -/
def tSlStD (i : Nat) (ta tb te : DTE) : DTS := fun Dd Δ n => te .frz Δ n (Dd.xs Δ) fun d n1 => match Δ[i]? with
  | some (some (.own ds)) => ta .bor Δ n1 (Dd.xs Δ) fun x n2 => match x with
    | .int a => tb .bor Δ n2 (Dd.xs Δ) fun y n3 => match y with
      | .int c => match d with
        | .lst es => flatAll es = true ∧ 0 ≤ a ∧ a ≤ c ∧ c ≤ ds.length ∧ ds.length + es.length ≤ sizeLine ∧ Dd.nx (Δ.set i (some (.own (ds.take a.toNat ++ es ++ ds.drop c.toNat)))) n3
        | _ => False
      | _ => False
    | _ => False
  | _ => False
theorem ds_slst {tg : Expr} (hp : PS X (.Assign [tg] e pos) (tAsg (lift te) (gSlI (tVar i) (tPart (lift ta)) (tPart (lift tb))))) : DS X (.Assign [tg] e pos) (tSlStD i ta tb te) :=
  wkS hp fun E σ H ⟨n0, H0, fr, av, n, Δ, Dd, S, h, k⟩ => lift_at (B := H) .frz S (SameP.refl n H) (k.xk S) h fun v H1 d n1 s1 S1 r1 q1 => by
    split at q1
    · rename_i ds e1
      obtain ⟨p, vs, e2, np, e3, r⟩ := S1.at_own e1
      refine ⟨_, e2, lift_at (B := H1) .bor S1 (SameP.refl n1 H1) (k.xk S1) q1 fun v2 H2 d2 n2 s2 S2 r2 q2 => ?_⟩
      cases d2 <;> first | exact q2.elim | skip
      cases r2
      refine ⟨_, rfl, lift_at (B := H2) .bor S2 (SameP.refl n2 H2) (k.xk S2) q2 fun v3 H3 d3 n3 s3 S3 r3 q3 => ?_⟩
      cases d3 <;> first | exact q3.elim | skip
      cases r3
      cases d <;> first | exact q3.elim | skip
      have r1' := (r1.same s2).same s3
      cases r1' with
      | @lst b us es a1 a2 a3 ru =>
        obtain ⟨f, h0, hac, hc, hz, q⟩ := q3
        have rr := (r.same s2).same s3
        have e3' : H3 p = some (.lst vs) := (s3.keep _ _ (s2.keep _ _ e3 np).1 (s2.keep _ _ e3 np).2).1
        have hne : p ≠ b := fun z => a3.2 i ds e1 (by rw [e2, z])
        refine ⟨_, rfl, p, b, vs, us, _, _, rfl, rfl, rfl, rfl, e3', a1, hne, h0, hac, by rw [rr.length]; exact hc, by rw [rr.length, ru.length]; exact hz, ?_⟩
        exact k.nx _ _ _ _ (S3.wr e1 e2 (((rr.take _).append ru).append (rr.drop _))) q
    · exact q1.elim
/-! ### range(a, b, c) -/
def rangeDC (lo c : Int) (n : Nat) : List D := (List.range n).map fun (k : Nat) => D.int (lo + (k : Int) * c)
def tWRng3 (ta tb tc : DTE) : DTI := fun _ Δ n X Q => ta .bor Δ n X fun d n1 => tb .bor Δ n1 X fun e n2 => tc .bor Δ n2 X fun f n3 => match d, e, f with | .int a, .int b, .int c => ∃ m : Nat, RgC a b c m ∧ m ≤ 100000 ∧ Q (rangeDC a c m) n3 | _, _, _ => False
omit [XP] [XE] in
theorem rangeDC_length (lo c : Int) (n : Nat) : (rangeDC lo c n).length = n := by unfold rangeDC; rw [List.length_map, List.length_range]
omit [XE] in
theorem goes_rngC {lo c : Int} {n : Nat} : Goes (Itc lo c n) [] (rangeDC lo c n) := fun _ H A p0 nA hg i => by
  refine ⟨fun hi => by rw [rangeDC_length] at hi; exact hi, fun it e => ?_⟩
  have hi : i < n := by
    have := (List.getElem?_eq_some_iff.mp e).1
    rw [rangeDC_length] at this
    exact this
  have e2 : (rangeDC lo c n)[i]? = some (.int (lo + (i : Int) * c)) := by
    unfold rangeDC
    rw [List.getElem?_map, List.getElem?_range hi]; rfl
  rw [e2] at e
  cases e
  exact ⟨hi, fun x H' y => by obtain ⟨rfl, rfl⟩ := y; exact ⟨Same.refl _, .int _⟩⟩
theorem di_rng3 {tg a b c : Expr} {ta tb tc : DTE} {p pos : Pos} (hg : Gl X "range") (hm : X.mg "range" = none) (ha : DE X a ta) (hb : DE X b tb) (hc : DE X c tc)
    (hs : starEach [a, b, c] X.env = (false, eval a X.env) :: starEach [b, c] X.env := by rfl) (hpl : (backTo pos (starEach [b, c] X.env)).any (·.1) = false := by rfl)
    (hs2 : starEach [b, c] X.env = (false, eval b X.env) :: starEach [c] X.env := by rfl) (hs3 : starEach [c] X.env = (false, eval c X.env) :: starEach [] X.env := by rfl) : DI X tg (.Call (.Name "range" p) [a, b, c] [] pos) (tWRng3 ta tb tc) :=
  wkI (pi_range3 hg hm (pa_cons ha (pa_cons hb (pa_cons hc pa_nil hs3) hs2) hs) hs hpl) fun σ H R ⟨n0, H0, fr, av, n, Δ, m, Xd, Qd, S, xk, h, k⟩ => lift_at (B := H) .bor S (SameP.refl n H) xk h fun v H1 d n1 s1 S1 r1 q1 =>
    lift_at (B := H1) .bor S1 (SameP.refl n1 H1) (xk.step s1) q1 fun v2 H2 d2 n2 s2 S2 r2 q2 =>
      lift_at (B := H2) .bor S2 (SameP.refl n2 H2) ((xk.step s1).step s2) q2 fun v3 H3 d3 n3 s3 S3 r3 q3 => by
        cases d <;> cases d2 <;> cases d3 <;> first | exact q3.elim | skip
        cases r1
        cases r2
        cases r3
        obtain ⟨mm, g1, g2, q3⟩ := q3
        exact ⟨_, _, _, mm, rfl, g1, k _ _ [] _ n3 ((s1.trans s2).trans s3) S3.pen (fun g hg => by cases hg) goes_rngC (by rw [rangeDC_length]; omega) q3⟩
end
end Dl

set_option Elab.async false
set_option linter.all false
set_option maxRecDepth 100000
set_option maxHeartbeats 2000000
/-! Exceptions out of a comprehension. -/
namespace Dl
open PySem PySem.Spec PyProof.Rows L2
section
variable {M : Model} {A : Around} {E : Value → Shared → Prop} {s : Shared} {Z : Obj → Prop} {B : Heap} {env ce : Env} {outer l : List Env} {L L' a : Addr} {fl : Value} {m : Str → Option Value}
/-- noted elsewhere already -/
theorem note_else {Q : Unit → Shared → Prop} (hZ : HandSPX.Steady Z) (fr : A.frames = some (env :: outer)) (ef : env.frame = some L) (ne : L' ≠ L) (hh : HandSPX.HeldZ B (env :: outer) a Z L' s.heap)
    (q : ∀ g, HandSPX.HeldZ B (env :: outer) a Z L g → s.heap.UpToSlots g → Q () { s with heap := g }) : wpAny M A (noteFrame (.ref a) env) Q E s := by
  obtain ⟨st, na, ff, o, fs, T, u, ts, ga, hz, hd, f1, nT, Ta, gT, hT, f3⟩ := hh
  unfold noteFrame
  simp only [ef]
  refine wpAny_bind (wpAny_field ga hd f1 ?_)
  rw [if_pos (by simp)]
  refine wpAny_bind (wpAny_field gT hT f3 ?_)
  rw [if_neg (fun z => ne (by have z := eq_of_beq z; simp only [rawInt, Value.int.injEq, Int.natCast_inj] at z; exact z.1))]
  refine wpAny_bind (wpAny_setField gT hT (Array.getElem?_eq_some_iff.mp f3).1 ?_)
  have oth : ∀ b, b ≠ T → (s.heap.update T (Obj.mapFields (·.setIfInBounds 3 Value.none))).get? b = s.heap.get? b := fun b nb => Heap.get?_update_other _ _ (Ne.symm nb)
  have nr : ∀ b w, s.heap.get? b = some w → (∀ vs, w.data ≠ .fields vs) → b ≠ T := fun b w gb nf z => by
    rw [z, gT] at gb
    cases gb
    exact nf ts hT
  refine HandSPX.wpAny_entryZ hZ fr (ff.of_keeps fun b w gb nf => ⟨w, (oth b (nr b w gb nf)).trans gb, rfl⟩) ef ((oth a (Ne.symm Ta)).trans ga)
    (fun b w gb => (oth b fun z => by rw [z, nT] at gb; cases gb).trans (st b w gb)) na hd (Array.getElem?_eq_some_iff.mp f1).1 hz fun g hg => ?_
  exact q g ⟨hg.1, na, hg.2.1, hg.2.2.1⟩ fun b w gb nf => hg.2.2.2 b w ((oth b (nr b w gb nf)).trans gb) nf
/-- whatever stage it is in: noted here -/
theorem note_sky {Q : Unit → Shared → Prop} (hZ : HandSPX.Steady Z) (fr : A.frames = some (env :: outer)) (ef : env.frame = some L) (x : Sky B (env :: outer) a Z L' s.heap)
    (q : ∀ g, HandSPX.HeldZ B (env :: outer) a Z L g → s.heap.UpToSlots g → Q () { s with heap := g }) : wpAny M A (noteFrame (.ref a) env) Q E s := by
  rcases x with ⟨st, na, ff, o, fs, ga, hz, hd, f1⟩ | hf | hh
  · exact HandSPX.look_newZ hZ fr ff ef ga st na hd f1 hz q
  · exact HandSPX.looks_onZ hZ fr ef hf q
  · by_cases e : L' = L
    · subst e
      exact HandSPX.againZ ef hh.2.2.2 (q s.heap hh (Heap.UpToSlots.refl _))
    · exact note_else hZ fr ef e hh q
/-- the block's names are let go -/
theorem held_but {h h2 : Heap} {C : Addr} {m2 : Str → Option Value} (hh : HandSPX.HeldZ B l a Z L h) (n1 : h.Ns C m) (n2 : h2.Ns C m2) (sb : Heap.SameBut C h h2) : HandSPX.HeldZ (PySem.W.hideAll B [C]) l a Z L h2 := by
  obtain ⟨st, na, ff, o, fs, T, u, ts, ga, hz, hd, f1, nT, Ta, gT, hT, f3⟩ := hh
  obtain ⟨oc, es, ep, gc, dc, _⟩ := n1
  have nf : ∀ {b : Addr} {w : Obj} {vs : Array Value}, h.get? b = some w → w.data = .fields vs → b ≠ C := fun gb db z => by
    rw [z, gc] at gb
    cases gb
    rw [dc] at db
    cases db
  have hid : ∀ b, B.get? b = none → (PySem.W.hideAll B [C]).get? b = none := fun b e => by
    cases q : (PySem.W.hideAll B [C]).get? b with
    | none => rfl
    | some w => rw [PySem.W.of_hideAll _ q] at e; cases e
  refine ⟨fun b w gb => ?_, hid a na, ?_, o, fs, T, u, ts, (sb.2 a (nf ga hd)).trans ga, hz, hd, f1, hid T nT, Ta, (sb.2 T (nf gT hT)).trans gT, hT, f3⟩
  · have nb : b ≠ C := fun z => by
      rw [z, PySem.W.hideAll_none [C] (List.mem_singleton.mpr rfl)] at gb
      cases gb
    exact (sb.2 b nb).trans (st b w (PySem.W.of_hideAll _ gb))
  · refine funFrames_none (Heap.FunFrames.sameBut sb n2 ff) fun b hb => hid b ?_
    exact (ff.mem hb).1
theorem fails_of {C : Addr} (cf : ce.frame = some L) (hC : ce.locals = C) (hh : HandSPX.HeldZ B l a Z L s.heap) (hn : s.heap.Ns C m)
    (q : ∀ g, HandSPX.HeldZ (PySem.W.hideAll B [C]) l a Z L g → (∀ b o, b ≠ C → s.heap.get? b = some o → (∀ vs, o.data ≠ .fields vs) → ∃ sl, g.get? b = some { o with slots := sl }) → E (.ref a) { s with heap := g }) : CompFails M A E ce (.ref a) s := by
  subst hC
  refine ⟨m, hn, fun h2 m2 n2 sb => ?_⟩
  have h3 := held_but hh hn n2 sb
  obtain ⟨o, fs, T, u, ts, ga, hz, hd, f1, _⟩ := h3.2.2.2
  unfold PySem.passOn
  refine wpAny_bind (wpAny_field ga hd f1 ?_)
  rw [if_neg (by simp)]
  rw [cf]
  exact wpAny_bind (HandSPX.setFlight_onZ h3 fun g hg up => wpAny_throw (q g hg fun b w nb gb nf => up b w ((sb.2 b nb).trans gb) nf))
end
section
variable {X : Cx} {W : WX} {pins : List (Addr × Obj)} {σ : L2.St} {H3 : Hp} {s3 : Shared} {scope : Scope} {cl : List (Str × Addr)} {fp : List Addr}
/-- what a comprehension's block makes of an exception -/
abbrev failB (X : Cx) (ce : Env) : Value → Shared → Prop := notedBy (model X.prog X.w) X.A ce (CompFails (model X.prog X.w) X.A X.xe ce)
theorem takes_blk (tk : L2.Takes X W) (hs : X.stack = X.env :: X.outer) (hf : X.env.frame = some X.env.locals) (inv : Inv X pins σ H3 s3) (f3 : ∀ b ∈ fp, FpOk X pins H3 b ∧ b < s3.heap.objs.size) :
    L2.Takes ((X.blk s3 H3 scope (compEnvC scope cl s3.heap.objs.size X.env) fp).tr [] (failB X (compEnvC scope cl s3.heap.objs.size X.env))) (fun c d _ H' => W c d σ H') := by
  rintro u s' ⟨a, B, sI, pins', σ', H', c, d, rfl, J, nb, up, sky, na, os, ag, w⟩
  show wpAny _ _ (noteFrame (.ref a) _) _ _ s'
  rw [noteFrame_env (.ref a) (cenv := compEnvC scope cl s3.heap.objs.size X.env) (env := X.env) rfl]
  have fr : X.A.frames = some (X.env :: X.outer) := by rw [inv.ok.frames, hs]
  have sky : Sky B X.stack a (Zc c d) s3.heap.objs.size s'.heap := sky
  rw [hs] at sky
  refine note_sky Zc.steady fr hf sky fun g hg up2 => ?_
  obtain ⟨m, hn, _⟩ := J.loc
  have hn : sI.heap.Ns s3.heap.objs.size m := hn
  have nC : H' s3.heap.objs.size = none := J.free
  have J1 : Inv X pins σ H' sI := inv.call' (ch := fp) J.os J.base J.hok J.bare fun b hb => ⟨(f3 b hb).1.2.2.2.1, (f3 b hb).1.2.1, (f3 b hb).1.2.2.2.2.1, (f3 b hb).1.2.2.2.2.2⟩
  obtain ⟨p0, p1, p2, p3, p4, p5⟩ := inv.fpOk (H' := H') (Nat.le_refl s3.heap.objs.size) nC
  have J2 := J1.turned (t' := sI.toks) (h' := PySem.W.hideAll sI.heap [s3.heap.objs.size]) (fun b o nb e => PySem.W.hideAll_get _ e (by simpa using nb)) p0 p1 p3 p4 p5
  refine fails_of hf rfl hg ((hn.upToSlots up).upToSlots up2) fun g2 hg2 k => tk _ _ ⟨a, PySem.W.hideAll B [s3.heap.objs.size], _, pins, σ, H', c, d, rfl, J2, fun b o gb hb => ?_, fun b o gb nf => ?_, .inr (.inr (by rw [hs]; exact hg2)), na, os, ag, w⟩
  · have hb' : b ∉ [s3.heap.objs.size] := fun z => by rw [PySem.W.hideAll_none _ z] at gb; cases gb
    exact PySem.W.hideAll_get _ (nb b o (PySem.W.of_hideAll _ gb) hb) hb'
  · have hb' : b ∉ [s3.heap.objs.size] := fun z => by rw [PySem.W.hideAll_none _ z] at gb; cases gb
    obtain ⟨sl, e1⟩ := up b o (PySem.W.of_hideAll _ gb) nf
    obtain ⟨sl2, e2⟩ := up2 b _ e1 nf
    obtain ⟨sl3, e3⟩ := k b _ (fun z => hb' (List.mem_singleton.mpr z)) e2 nf
    exact ⟨sl3, e3⟩
end
/-! ### the rule: an exception of the element, of a test goes on in the def -/
section
variable {X : Cx} {W : WX}
abbrev blkX (X : Cx) (s : Shared) (H : Hp) (scope : Scope) (cl : List (Str × Addr)) (C : Addr) (fp : List Addr) (xe : Value → Shared → Prop) : Cx := (X.blk s H scope (compEnvC scope cl C X.env) fp).tr [] xe
theorem pe_lcX {elt tg iter : Expr} {ifs : List Expr} {scope : Scope} {own : List (Str × Nat)} {pos : Pos} {wi : TI} {g : TG} {tt : L2.St → TT} {te : L2.St → TE} (calm : X.calm = true) (nd : X.N.Nodup) (stk : X.stack = X.env :: X.outer) (frm : X.env.frame = some X.env.locals) (tk : L2.Takes X W)
    (hi : PI X tg iter wi) (ok : BlkOk X.N X.env.scope scope own)
    (hg : ∀ (s : Shared) (H : Hp) (C : Addr) (cl : List (Str × Addr)) (fp : List Addr) (xe : Value → Shared → Prop), PG (blkX X s H scope cl C fp xe) tg g)
    (ht : ∀ (s : Shared) (H : Hp) (C : Addr) (cl : List (Str × Addr)) (fp : List Addr) (xe : Value → Shared → Prop) (σ : L2.St), L2.Takes (blkX X s H scope cl C fp xe) (fun c d _ H' => W c d σ H') → PTs (blkX X s H scope cl C fp xe) ifs (tt σ))
    (he : ∀ (s : Shared) (H : Hp) (C : Addr) (cl : List (Str × Addr)) (fp : List Addr) (xe : Value → Shared → Prop) (σ : L2.St), L2.Takes (blkX X s H scope cl C fp xe) (fun c d _ H' => W c d σ H') → PE (blkX X s H scope cl C fp xe) elt (te σ))
    (fold : ∀ x, foldedSetIterable iter X.env x = pure x := by intro _; rfl) : PE X (.ListComp elt [⟨tg, iter, ifs, 0⟩] scope pos) (fun σ H Q => tLc wi g (tt σ) (te σ) (own.map (·.2)) σ H Q) := by
  refine ⟨fun pins s σ H Q inv h => ?_⟩
  rw [eval_ListComp]
  have cap : ∀ y ∈ scope.names, y.2 = .free → ∃ c, X.env.cells.lookup y.1 = some c := fun y hy e => inv.ok.has _ (ok.free y hy e)
  refine comprehension_at (use := none) rfl fold (closure_ok cap) ok.kind (fun y hy e => by rw [ok.uniq y hy, e]) (thn (hi.run pins s σ H _ inv h) fun xv w1 k1 => thn k1 fun itv w2 k2 => ?_)
  obtain ⟨it, fp, tn, J, G2, rfl, inv2, T, t2, f2, q⟩ := k2
  refine wpAny_newObj_type (newEnv_comp ?_) (show 0 ≤ sizeLine by decide)
  obtain ⟨P, m0, w0, turn⟩ : ∃ P : Nat → Nat → Hp → Prop, ∃ m, P 0 m (upd G2 w2.heap.objs.size (.lst [])) ∧ _ := by
    obtain ⟨P, ⟨m, w⟩, turn⟩ := q w2.heap.objs.size (inv2.hok.fresh (Nat.le_refl _))
    exact ⟨P, m, w, turn⟩
  -- the list
  generalize e3 : ({ w2 with heap := w2.heap.push { cls := .type "list", data := .seq ([] : List Value).toArray } } : Shared) = w3
  have hp3 : w3.heap = w2.heap.push { cls := .type "list", data := .seq ([] : List Value).toArray } := by rw [← e3]
  have inv3 : Inv X pins σ (upd G2 w2.heap.objs.size (.lst [])) w3 := by
    rw [← e3]
    exact inv2.laid (t' := w2.toks) (fun b o z => Heap.get?_push_of_some _ z) (Nat.le_refl _) ⟨Nat.zero_le _, [], 0, .nil, Heap.get?_push_size _ rfl⟩
  have small : ∀ b ∈ fp, b < w2.heap.objs.size := fun b hb => by
    obtain ⟨o, z, _⟩ := T.obj _ _ t2 b hb
    exact Heap.lt_size z
  have f3 : ∀ b ∈ fp, FpOk X pins (upd G2 w2.heap.objs.size (.lst [])) b ∧ b < w3.heap.objs.size := fun b hb => by
    refine ⟨⟨?_, (f2 b hb).2⟩, by rw [hp3, Heap.size_push]; exact Nat.lt_succ_of_lt (small b hb)⟩
    rw [upd_ne (Nat.ne_of_lt (small b hb))]
    exact (f2 b hb).1
  have t3 : tn 0 w3.heap := T.keep _ _ _ t2 fun b _ o z => by rw [hp3]; exact Heap.get?_push_of_some _ z
  have nfp : ∀ b ∈ fp, (upd G2 w2.heap.objs.size (.lst [])) b = none := fun b hb => (f3 b hb).1.1
  generalize upd G2 w2.heap.objs.size (.lst []) = G3 at inv3 f3 w0 nfp
  have inv4 := block_start inv3 ok nd f3
  have tkb := takes_blk (scope := scope) (cl := cellsFrom (w3.heap.objs.size + 1) scope.names (cloFrom X.env.cells scope.names [])) tk stk frm inv3 f3
  have pg := hg w3 G3 w3.heap.objs.size (cellsFrom (w3.heap.objs.size + 1) scope.names (cloFrom X.env.cells scope.names [])) fp (failB X (compEnvC scope (cellsFrom (w3.heap.objs.size + 1) scope.names (cloFrom X.env.cells scope.names [])) w3.heap.objs.size X.env))
  have pt := ht w3 G3 w3.heap.objs.size _ fp _ σ tkb
  have pe := he w3 G3 w3.heap.objs.size _ fp _ σ tkb
  show codeAny _ _ (.compStart (.ListComp elt [⟨tg, iter, ifs, 0⟩] scope pos) 0 (.ref it) (.ref w2.heap.objs.size) (compEnvC scope (cellsFrom (w3.heap.objs.size + 1) scope.names (cloFrom X.env.cells scope.names [])) w3.heap.objs.size X.env))
    (compEnds (model X.prog X.w) X.A X.xe none (EP X pins σ Q) (.ref w2.heap.objs.size) (compEnvC scope (cellsFrom (w3.heap.objs.size + 1) scope.names (cloFrom X.env.cells scope.names [])) w3.heap.objs.size X.env)) { w3 with heap := pushCells (w3.heap.push { cls := .type "dict", data := .dict #[] }) scope.names }
  unfold blkX at pg pt pe
  have hL : (compEnvC scope (cellsFrom (w3.heap.objs.size + 1) scope.names (cloFrom X.env.cells scope.names [])) w3.heap.objs.size X.env).locals = w3.heap.objs.size := rfl
  generalize compEnvC scope (cellsFrom (w3.heap.objs.size + 1) scope.names (cloFrom X.env.cells scope.names [])) w3.heap.objs.size X.env = ce at inv4 pg pt pe hL ⊢
  have inv4 := inv4.toTry (failB X ce)
  have inv4 : Inv ((X.blk w3 G3 scope ce fp).tr [] (failB X ce)) [] (wipe σ (own.map (·.2))) G3 { w3 with heap := pushCells (w3.heap.push { cls := .type "dict", data := .dict #[] }) scope.names } := inv4
  have t4 : tn 0 (pushCells (w3.heap.push { cls := .type "dict", data := .dict #[] }) scope.names) := T.keep _ _ _ t3 fun b _ o z => pushCells_keeps _ _ _ _ (Heap.get?_push_of_some _ z)
  have here : ∀ {σ' : L2.St} {K : Hp} {v : Shared}, Inv ((X.blk w3 G3 scope ce fp).tr [] (failB X ce)) [] σ' K v → (∀ b ∈ fp, K b = none) → ∀ b ∈ fp, FpOk ((X.blk w3 G3 scope ce fp).tr [] (failB X ce)) [] K b := fun {σ' K v} J' hn b hb =>
    ⟨hn b hb, (J'.ok.exf b hb).1, J'.ok.exfs b hb, .inl hb, fun x c z => (J'.ok.exf b hb).2 x c z, fun p hp => absurd (show p ∈ ([] : List (Addr × Obj)) from hp) (by simp)⟩
  have loop : codeAny (model X.prog X.w) X.A (.compLoop (.ListComp elt [⟨tg, iter, ifs, 0⟩] scope pos) 0 (.ref it) (.ref w2.heap.objs.size) ce) (compEnds (model X.prog X.w) X.A X.xe none (EP X pins σ Q) (.ref w2.heap.objs.size) ce) { w3 with heap := pushCells (w3.heap.push { cls := .type "dict", data := .dict #[] }) scope.names } := by
    refine compLoop_any (fun k v => ∃ i K, Inv ((X.blk w3 G3 scope ce fp).tr [] (failB X ce)) [] (wipe σ (own.map (·.2))) K v ∧ tn i v.heap ∧ (∀ b ∈ fp, K b = none) ∧ P i k K) ?_ m0 ⟨0, G3, inv4, t4, nfp, w0⟩
    rintro k v ⟨i, K, J5, t5, n5, p5⟩
    rcases turn i k K p5 with ⟨stop, fin⟩ | ⟨go, Nx, nx, step⟩
    · refine thnF (T.done ((X.blk w3 G3 scope ce fp).tr [] (failB X ce)) rfl rfl rfl calm i [] v _ K (fun _ _ => False) J5 (here J5 n5) t5 stop) fun r v6 ⟨er, J6⟩ => ?_
      subst er
      have back : Inv X pins σ K v6 := inv3.call' (ch := fp) J6.os J6.base J6.hok J6.bare fun b hb => ⟨(f3 b hb).1.2.2.2.1, (f3 b hb).1.2.1, (f3 b hb).1.2.2.2.2.1, (f3 b hb).1.2.2.2.2.2⟩
      obtain ⟨m, hn, _⟩ := J6.loc
      have hn : v6.heap.Ns ce.locals m := hn
      have nC : K ce.locals = none := J6.free
      rw [hL] at nC
      obtain ⟨p0, p1, p2, p3, p4, p5⟩ := inv3.fpOk (H' := K) (Nat.le_refl w3.heap.objs.size) nC
      refine ⟨m, hn, fun h' sb => ?_⟩
      rw [hL] at sb
      exact ⟨.ref w2.heap.objs.size, K, back.turned (t' := v6.toks) (fun b o hb z => (sb.2 b hb).trans z) p0 p1 p3 p4 p5, rfl, fin⟩
    · refine thnF (T.item ((X.blk w3 G3 scope ce fp).tr [] (failB X ce)) rfl rfl rfl calm i [] v _ K (fun _ _ => False) J5 (here J5 n5) t5 go) fun r v6 ⟨u, er, k6⟩ => ?_
      subst er
      refine thnF k6 fun _ v7 ⟨x, K7, J7, r7, y7, t7, n7⟩ => ?_
      have J7' := J7.pinned (here J7 n7) (T.obj _ _ t7)
      refine wpAny_mono (pg.run _ v7 _ K7 x u _ J7' r7 (step x K7 y7)) (fun _ v8 ⟨σ8, K8, J8, ew8, q8⟩ => ?_) fun _ _ z => z
      refine wpAny_mono (pt.run _ v8 σ8 K8 _ J8 q8) (fun b v9 ⟨K9, J9, q9⟩ => ?_) fun _ _ z => z
      have next : ∀ {v' : Shared} {K' : Hp}, Inv ((X.blk w3 G3 scope ce fp).tr [] (failB X ce)) ([] ++ pinsAt fp v7.heap) σ8 K' v' → Nx K' → ∃ m, m < k ∧ ∃ i K, Inv ((X.blk w3 G3 scope ce fp).tr [] (failB X ce)) [] (wipe σ (own.map (·.2))) K v' ∧ tn i v'.heap ∧ (∀ b ∈ fp, K b = none) ∧ P i m K := fun {v' K'} J' hN => by
        obtain ⟨m', lt, p'⟩ := nx K' hN
        have pinned : ∀ b ∈ fp, ∀ o, v7.heap.get? b = some o → v'.heap.get? b = some o ∧ K' b = none := fun b hb o z =>
          let y := J'.pin (b, o) (List.mem_append_right _ (List.mem_append_right _ (mem_pinsAt hb z)))
          ⟨y.1, y.2.1⟩
        refine ⟨m', lt, i + 1, K', (J'.unpinned (pins := [])).weak (by rw [← ew8, wipe_length]) (fun j w z => ?_), T.keep _ _ _ t7 fun b hb o z => (pinned b hb o z).1, fun b hb => ?_, p'⟩
        · rw [← ew8] at z
          exact (wipe_some z).1
        · obtain ⟨o, z, _⟩ := T.obj _ _ t7 b hb
          exact (pinned b hb o z).2
      cases b with
      | false => exact next J9 (by simpa using q9)
      | true =>
        have q9 : te σ σ8 K9 _ := q9
        refine wpAny_mono (pe.run _ v9 σ8 K9 _ J9 q9) (fun z v10 ⟨yv, K10, J10, r10, acc, hD, hz, hN⟩ => ?_) fun _ _ z => z
        exact app_ok (X := (X.blk w3 G3 scope ce fp).tr [] (failB X ce)) J10 hD hz r10 fun v11 J11 => next J11 hN
  exact codeAny_compStart_list loop (T.self X.A 0 _ _ _ t4 loop)
end
variable [XP] [XE]
/-- .. whose elements and tests may raise -/
def lcWX (i : Nat) (tt : DTT) (te : DTE) (m : Md) (Δ : DEnv) (X : XC) (Q : D → Sto → Prop) : List D → List D → Sto → Prop
  | [], acc, n => Q (.lst acc) n
  | d :: ds, acc, n => tt (Δ.set i (some (.frz d))) n X fun b n1 => if b = true then te m (Δ.set i (some (.frz d))) n1 X fun y n2 => acc.length < sizeLine ∧ lcWX i tt te m Δ X Q ds (acc ++ [y]) n2 else lcWX i tt te m Δ X Q ds acc n1
def tLcXD (ms : Md) (ti : DTI) (i : Nat) (tt : DTT) (te : DTE) : DTE := fun m Δ n X Q => (match Δ[i]? with | some (some (.own _)) => False | _ => True) ∧ ti ms Δ n X fun items n1 => (match ms with | .frz => True | _ => flatAll items = true) ∧ lcWX i tt te m Δ X Q items [] n1
theorem lift_lcX {ms : Md} {ti : DTI} {i : Nat} {tt : DTT} {te : DTE} {σ : L2.St} {H : Hp} {Q : VK} (h : lift (tLcXD ms ti i tt te) σ H Q) : tLc (liftI ti) (gName i) (@liftT _ (XE.w fun c d _ H2 => XE.W c d σ H2) tt) (@lift _ (XE.w fun c d _ H2 => XE.W c d σ H2) te) [i] σ H Q := by
  obtain ⟨n0, H0, nB, B, fr, av, n, Δ, m, Xd, Qd, S, bb, xk, ⟨hno, h⟩, k⟩ := h
  refine ⟨n0, H0, fr, av, n, Δ, ms, _, _, S, xk, h, fun J H1 gs items n1 s1 p1 rgs goes _ q Db hD => ?_⟩
  obtain ⟨hms, q⟩ := q
  have S1 := S.mono s1 p1
  have bP : n1 Db = none := S1.neP hD
  have b0 : NewS H0 Db := S1.old hD
  -- the walked one's reps
  have S2 : StR n0 H0 fr (Db :: av) n1 σ Δ (upd H1 Db (.lst [])) := S1.addav hD
  have rg2 : ∀ g ∈ gs, Rp n1 (fun a => Asr ms av σ Δ a ∧ a ≠ Db) (upd H1 Db (.lst [])) g.1 g.2 := fun g hg => by
    refine Rp.stay (.of (SameP.new hD) fun a u e _ _ z => ⟨?_, ne_of_none e hD⟩) _ _ (rgs g hg)
    cases ms with
    | frz => exact z
    | bor => trivial
    | ret => trivial
    | new => trivial
  refine ⟨fun j mm H2 => mm = items.length - j ∧ j ≤ items.length ∧ ∃ vacc acc n2, H2 Db = some (.lst vacc) ∧ RpAll n2 (Al m B H0 (Db :: av) σ Δ) H2 vacc acc ∧ SameP n1 H1 n2 H2 ∧ StR n0 H0 fr (Db :: av) n2 σ Δ H2 ∧
    (∀ g ∈ gs, Rp n2 (fun a => Asr ms av σ Δ a ∧ a ≠ Db) H2 g.1 g.2) ∧ lcWX i tt te m Δ Xd Qd (items.drop j) acc n2, ⟨items.length, by simp, Nat.zero_le _, [], [], n1, upd_same, .nil, SameP.new hD, S2, rg2, by rw [List.drop_zero]; exact q⟩, ?_⟩
  rintro j mm H2 ⟨rfl, hj, vacc, acc, n2, hacc, racc, s2, S2, rg2, q2⟩
  have bP2 : n2 Db = none := (S2.avn Db (List.mem_cons_self ..)).1
  have go := goes n2 H2 (fun a => Asr ms av σ Δ a ∧ a ≠ Db) S2.pen.fresh (fun a ha => by
    have z := no_cons.mp (S2.no_new ha)
    refine ⟨?_, z.2⟩
    cases ms with
    | frz => exact z.1
    | bor => trivial
    | ret => trivial
    | new => trivial) rg2 j
  by_cases hlt : j < items.length
  · have e1 : items[j]? = some items[j] := List.getElem?_eq_getElem hlt
    rw [List.drop_eq_getElem_cons hlt] at q2
    obtain ⟨g1, g2⟩ := go.2 _ e1
    refine .inr ⟨g1, fun H' => ∃ vacc acc n2, H' Db = some (.lst vacc) ∧ RpAll n2 (Al m B H0 (Db :: av) σ Δ) H' vacc acc ∧ SameP n1 H1 n2 H' ∧ StR n0 H0 fr (Db :: av) n2 σ Δ H' ∧
      (∀ g ∈ gs, Rp n2 (fun a => Asr ms av σ Δ a ∧ a ≠ Db) H' g.1 g.2) ∧ lcWX i tt te m Δ Xd Qd (items.drop (j + 1)) acc n2, fun H' ⟨va, ac, nn, z⟩ => ⟨items.length - (j + 1), by omega, rfl, hlt, va, ac, nn, z⟩, fun x H3 y => ?_⟩
    obtain ⟨s3, r3⟩ := g2 x H3 y
    show wipe ((wipe σ [i]).set i (some x)) [i] = wipe σ [i] ∧ @liftT _ (XE.w fun c d _ H2 => XE.W c d σ H2) tt ((wipe σ [i]).set i (some x)) H3 _
    have es : (wipe σ [i]).set i (some x) = σ.set i (some x) := by show (σ.set i none).set i (some x) = _; rw [List.set_set]
    rw [es]
    refine ⟨by show (σ.set i (some x)).set i none = σ.set i none; rw [List.set_set], ?_⟩
    have S3 := S2.mono (.of s3) (S2.pen.same s3)
    have r3' : Rp n2 (NO (Db :: av) σ Δ) H3 x items[j] := by
      cases ms with
      | frz => exact r3.imp fun a _ _ z => no_cons.mpr ⟨z.1, z.2⟩
      | bor => exact Rp.flat _ _ (flatAll_iff.mp hms _ (List.getElem_mem hlt)) r3
      | ret => exact Rp.flat _ _ (flatAll_iff.mp hms _ (List.getElem_mem hlt)) r3
      | new => exact Rp.flat _ _ (flatAll_iff.mp hms _ (List.getElem_mem hlt)) r3
    have S3' := S3.setF i r3'
    have b3 : SameP nB B n2 H3 := (bb.trans s1).trans (s2.trans (.of s3))
    have ld : H3 Db = some (.lst vacc) := s3 _ _ hacc
    have sall : SameP n H n2 H3 := s1.trans (s2.trans (.of s3))
    have xkb : @XOk _ (XE.w fun c d _ H2 => XE.W c d σ H2) n2 H3 (σ.set i (some x)) Xd := @XOk.mk _ (XE.w fun c d _ H2 => XE.W c d σ H2) _ _ _ _ (fun cls d H' ex n' s p r q => xk.go cls d H' ex n' (sall.trans s) p r q) (XE.st xk.inv sall)
    refine @liftT_at _ (XE.w fun c d _ H2 => XE.W c d σ H2) _ _ _ _ _ _ _ _ _ _ _ _ S3' xkb q2 fun b H4 n4 s4 S4 q4 => ?_
    -- back to the slots as they were
    have back : ∀ {H5 : Hp} {n5 : Sto}, SameP n2 H3 n5 H5 → SOk n5 H5 → StR n0 H0 fr (Db :: av) n5 σ Δ H5 := fun s p => S3.mono s p
    have rgk : ∀ {H5 : Hp} {n5 : Sto}, SameP n2 H3 n5 H5 → ∀ g ∈ gs, Rp n5 (fun a => Asr ms av σ Δ a ∧ a ≠ Db) H5 g.1 g.2 := fun s g hg => ((rg2 g hg).same (.of s3)).same s
    cases b with
    | false => exact ⟨vacc, acc, n4, (s4.keep _ _ ld bP2).1, (racc.same (.of s3)).same s4, (s2.trans (.of s3)).trans s4, back s4 S4.pen, rgk s4, q4⟩
    | true =>
      refine @lift_at _ (XE.w fun c d _ H2 => XE.W c d σ H2) _ _ _ _ _ _ _ _ _ _ _ _ _ m _ S4 (b3.trans s4) (@XOk.step _ (XE.w fun c d _ H2 => XE.W c d σ H2) _ _ _ _ _ _ xkb s4) q4 fun v H5 d n5 s5 S5 r5 q5 => ?_
      have s45 := s4.trans s5
      obtain ⟨h5, bP5⟩ := s45.keep _ _ ld bP2
      have racc5 : RpAll n5 (Al m B H0 (Db :: av) σ Δ) H5 vacc acc := (racc.same (.of s3)).same s45
      refine ⟨vacc, h5, by rw [racc.length]; exact q5.1, vacc ++ [v], acc ++ [d], n5, upd_same, ?_, ?_, (back s45 S5.pen).wrav h5 b0, fun g hg => ?_, q5.2⟩
      · refine RpAll.stay (stay_av (fun a z => (al_cons z).2) h5) _ _ (racc5.append (.cons ?_ .nil))
        exact r5.imp fun a _ _ z => al_unset hno z
      · exact wr_same ((s2.trans (.of s3)).trans s45) (.of hD) h5
      · exact Rp.stay (stay_av (fun a z => z.2) h5) _ _ (rgk s45 g hg)
  · have e : j = items.length := by omega
    subst e
    rw [List.drop_length] at q2
    exact .inl ⟨go.1 (Nat.le_refl _), k _ _ _ n2 (s1.trans s2) S2.pen (.lst hacc bP2 (Al.new S1 (bb.trans s1) m hD) (racc.imp fun a _ _ z => (al_cons z).1)) q2⟩
section
variable {X : Cx}
theorem d_lcX {elt tg iter : Expr} {ifs : List Expr} {scope : Scope} {i : Nat} {x : Str} {pos : Pos} {ti : DTI} {tt : DTT} {te : DTE} (ms : Md) (hc : X.calm = true) (hN : X.N.Nodup) (stk : X.stack = X.env :: X.outer) (frm : X.env.frame = some X.env.locals) (tk : L2.Takes X XE.W) (hi : DI X tg iter ti) (ok : BlkOk X.N X.env.scope scope [(x, i)])
    (hg : ∀ (s : Shared) (H : Hp) (C : Addr) (cl : List (Str × Addr)) (fp : List Addr) (xe : Value → Shared → Prop), PG (blkX X s H scope cl C fp xe) tg (gName i))
    (ht : ∀ (s : Shared) (H : Hp) (C : Addr) (cl : List (Str × Addr)) (fp : List Addr) (xe : Value → Shared → Prop) (W : WX), L2.Takes (blkX X s H scope cl C fp xe) W → PTs (blkX X s H scope cl C fp xe) ifs (@liftT _ (XE.w W) tt))
    (he : ∀ (s : Shared) (H : Hp) (C : Addr) (cl : List (Str × Addr)) (fp : List Addr) (xe : Value → Shared → Prop) (W : WX), L2.Takes (blkX X s H scope cl C fp xe) W → PE (blkX X s H scope cl C fp xe) elt (@lift _ (XE.w W) te)) (hs : ∀ x, foldedSetIterable iter X.env x = pure x := by intro _; rfl) :
    DE X (.ListComp elt [⟨tg, iter, ifs, 0⟩] scope pos) (tLcXD ms ti i tt te) :=
  wkE (pe_lcX (own := [(x, i)]) (tt := fun σ => @liftT _ (XE.w fun c d _ H2 => XE.W c d σ H2) tt) (te := fun σ => @lift _ (XE.w fun c d _ H2 => XE.W c d σ H2) te) hc hN stk frm tk hi ok hg (fun s H C cl fp xe σ t => ht s H C cl fp xe _ t) (fun s H C cl fp xe σ t => he s H C cl fp xe _ t) hs) fun σ H Q h => lift_lcX h
end
end Dl

set_option Elab.async false
set_option linter.all false
set_option maxRecDepth 100000
set_option maxHeartbeats 2000000
/-! Bytes; del xs[:n]; slices of roots; len(set(..)); min, max. -/
namespace Dl
open PySem PySem.Spec PyProof.Rows L2
/-! ### bytes: as what their ints make -/
theorem sIx_clip (n d : Nat) (v : Int) : HT.sIx n d (some v) = clipAt n v := by
  unfold HT.sIx clipAt
  show (if v < 0 then (v + (n : Int)).toNat else min v.toNat n) = _
  split <;> omega
theorem picked_cut (ns : List Int) (l u : Option Int) : PySem.W.KBy.picked (byteArr ns) l u = byteArr (cutL ns l u) := by
  rw [PySem.W.KBc.picked_eq]
  have e1 : l.elim 0 (clipAt (byteArr ns).size) = HT.sIx ns.length 0 l := by
    rw [byteArr_size]
    cases l with
    | none => rfl
    | some v => exact (sIx_clip _ _ _).symm
  have e2 : u.elim (byteArr ns).size (clipAt (byteArr ns).size) = HT.sIx ns.length ns.length u := by
    rw [byteArr_size]
    cases u with
    | none => rfl
    | some v => exact (sIx_clip _ _ _).symm
  rw [e1, e2]
  unfold byteArr cutL
  show (((ns.map _).drop _).take _).toArray = _
  rw [List.map_take, List.map_drop]
theorem bA_inj {a b : List Int} (ha : B8 a) (hb : B8 b) : byteArr a = byteArr b ↔ a = b := by
  constructor
  · intro h
    have := congrArg bi h
    rwa [bi_make ha, bi_make hb] at this
  · intro h; rw [h]
theorem B8.cut {ns : List Int} (h : B8 ns) (l u : Option Int) : B8 (cutL ns l u) := fun n hn => h n (List.mem_of_mem_drop (List.mem_of_mem_take hn))
theorem slot_brepr : Slot "bytes" "__repr__" "bytes.__repr__" :=
  .of (owner := "bytes") (n := "__repr__") (by rw [typeLookup_type, builtinLookup_eq_fast]; kernel_rfl) (by decide +kernel) (by decide +kernel) (by decide +kernel)
    (by first | exact .inl (by decide +kernel) | exact .inr (by decide +kernel)) (by rw [isSubtype_type]; kernel_rfl)
theorem entry_brepr : entryFor table "bytes.__repr__" = some Builtin.«bytes.__repr__» := by first | exact entryFor_of_tree (by kernel_rfl) | exact entryFor_of_fast (by kernel_rfl)
theorem args_brepr (a : Value) : argsOk "bytes.__repr__" ⟨[a], []⟩ := by
  unfold argsOk; kernel_rfl
theorem fold_len (f : UInt8 → Array Nat) (hf : ∀ c, (f c).size ≤ 4) : ∀ (l : List UInt8) (a : Array Nat), (l.foldl (fun acc c => acc ++ f c) a).size ≤ a.size + 4 * l.length ∧ ∀ x, a[0]? = some x → (l.foldl (fun acc c => acc ++ f c) a)[0]? = some x
  | [], a => ⟨by simp, fun x h => h⟩
  | c :: l, a => by
    obtain ⟨h1, h2⟩ := fold_len f hf l (a ++ f c)
    have h3 := hf c
    refine ⟨?_, fun x h => h2 x ?_⟩
    · rw [List.foldl_cons, List.length_cons]
      rw [Array.size_append] at h1
      omega
    · have : 0 < a.size := (Array.getElem?_eq_some_iff.mp h).1
      rw [Array.getElem?_append_left this]; exact h
theorem lit_ok (b : Array UInt8) : (Builtin.Bytes.literal b).length ≤ 4 * b.size + 3 ∧ (Builtin.Bytes.literal b).cps[0]? = some 98 := by
  unfold Builtin.Bytes.literal
  dsimp only
  show (Array.push _ _).size ≤ _ ∧ (Array.push _ _)[0]? = some 98
  rw [← Array.foldl_toList]
  have hf : ∀ c : UInt8, ((fun c : UInt8 => (if (c.toNat == (if false = true then 39 else (if (b.contains 39 && !b.contains 34) = true then 34 else 39)) || c.toNat == 92) = true then (#[92, c.toNat] : Array Nat)
      else if (c.toNat == 9) = true then #[92, 116] else if (c.toNat == 10) = true then #[92, 110] else if (c.toNat == 13) = true then #[92, 114]
      else if (decide (c.toNat < 32) || decide (c.toNat ≥ 127)) = true then #[92, 120, (if c.toNat / 16 < 10 then 48 + c.toNat / 16 else 87 + c.toNat / 16), (if c.toNat % 16 < 10 then 48 + c.toNat % 16 else 87 + c.toNat % 16)] else #[c.toNat])) c).size ≤ 4 := by
    intro c
    dsimp only
    repeat' split
    all_goals simp
  have key := fold_len _ hf b.toList #[98, (if (b.contains 39 && !b.contains 34) = true then 34 else 39)]
  have hl : b.toList.length = b.size := Array.length_toList
  refine ⟨?_, ?_⟩
  · rw [Array.size_push]
    have := key.1
    rw [hl] at this
    simp only [List.size_toArray, List.length_cons, List.length_nil] at this
    refine Nat.le_trans (Nat.succ_le_succ this) (by omega)
  · have := key.2 98 rfl
    have h0 := (Array.getElem?_eq_some_iff.mp this).1
    rw [Array.getElem?_push_lt h0]
    rw [Array.getElem?_eq_getElem h0] at this
    exact this
theorem gives_brepr {b : Array UInt8} {t : Tok} (hb : b.size ≤ 1000000) : Gives (Builtin.«bytes.__repr__» ⟨[.bytes b t], []⟩) (.str (Builtin.Bytes.literal b)) := by
  refine .of_wp fun M A E s Q hq => ?_
  show wpAny M A (Builtin.Bytes.literalAsked b >>= fun r => _) _ E s
  unfold Builtin.Bytes.literalAsked
  have e : Builtin.Bytes.tooLong (4 * b.size + 3 + 0) = false := PySem.W.KBy.tooLong_not (by omega)
  rw [e]
  simp only [Bool.false_and, Bool.false_eq_true, if_false]
  refine wpAny_bind (wpAny_pure ?_)
  exact wpAny_bind (wpAny_mkStr (wpAny_pure ⟨_, rfl, hq.2⟩) hq.1)
/-! ### del xs[:n] -/
theorem zip_cut {α : Type} (c : Nat) (sel : Nat → Bool) (hs : ∀ k, sel k = decide (k < c)) : ∀ (xs : List α) (j : Nat), ((xs.zipIdx j).filterMap fun p => if sel p.2 = true then none else some p.1) = xs.drop (c - j)
  | [], j => by simp
  | x :: xs, j => by
    have ih := zip_cut c sel hs xs (j + 1)
    rw [List.zipIdx_cons, List.filterMap_cons]
    dsimp only
    rw [hs j]
    by_cases h : j < c
    · rw [if_pos (decide_eq_true h), ih, show c - j = (c - (j + 1)) + 1 by omega, List.drop_succ_cons]
    · rw [if_neg (by simpa using h), ih, show c - j = 0 by omega, show c - (j + 1) = 0 by omega]
      rfl
section
variable {prog : Program} {w : World} {A : Around} {E : Value → Shared → Prop} {s : Shared}
theorem delItem_cut {l sl : Addr} {items : Array Value} {n c : Nat} {vu : Value} {Q : Unit → Shared → Prop} (e : s.heap.get? l = some { cls := .type "list", data := .seq items n }) (hs : s.heap.IsSliceOf sl .none vu .none) (pu : IsPart vu (some (c : Int)))
    (hc : c ≤ items.size) (hz : items.size ≤ sizeLine) (h : ∀ h' n', h'.get? l = some { cls := .type "list", data := .seq (items.toList.drop c).toArray n' } → Heap.SameBut l s.heap h' → Q () { s with heap := h' }) :
    wpAny (model prog w) A (delItem (.ref l) (.ref sl)) Q E s := by
  have hl : s.heap.IsList l items := PySem.IsL.isList e
  obtain ⟨os, hos, hcs, hds⟩ := id hs
  have hT : s.TypeIs (.ref sl) "slice" := ⟨os, hos, hcs⟩
  refine wpAny_delItem_slot hl.typeIs (by decide) F.slot_list_delitem (wpAny_call_entry F.slot_list_delitem hl.typeIs F.entry_list_delitem ?_ (F.args_list_delitem_2 _ _))
  show wpAny _ _ (Builtin.List.listSubscript? (.ref sl) >>= _) _ _ s
  refine wpAny_bind ?_
  unfold Builtin.List.listSubscript?
  refine wpAny_bind (wpAny_specialOf hT slice_no_index ?_)
  simp only [Option.isNone_none, if_true]
  refine wpAny_pure ?_
  show wpAny _ _ (typeOf (.ref sl) >>= _) _ _ s
  refine wpAny_bind (wpAny_typeOf hT ?_)
  first | rw [if_neg (by decide)] | refine PySem.W.KFB.if_not (by decide) ?_
  rw [listSliceParts_eq]
  refine wpAny_bind (wpAny_bind (wpAny_field hos hds (x := .none) rfl (wpAny_bind (wpAny_listPart .none ?_))))
  rw [if_neg (show ¬ ((rawPart none == rawInt 0) = true) from Bool.false_ne_true)]
  refine wpAny_bind (wpAny_field hos hds (x := .none) rfl (wpAny_bind (wpAny_listPart .none ?_)))
  refine wpAny_bind (wpAny_field hos hds (x := vu) rfl (wpAny_bind (wpAny_listPart pu (wpAny_pure ?_))))
  refine wpAny_bind ?_
  unfold Builtin.List.listItems
  refine wpAny_bind (wpAny_seqItems e rfl (wpAny_pure ?_))
  have eb : sliceBounds none (some (c : Int)) none items.size = ((0 : Int), (c : Int), 1) := by
    simp only [sliceBounds, Option.getD_none]
    simp
    omega
  refine wpAny_bind (wpAny_of_eq ((sliceIndices_raw none (some (c : Int)) none items.size (by simp)).trans (congrArg (pure : Int × Int × Int → Sem (Int × Int × Int)) eb)) ?_)
  refine wpAny_bind (wpAny_rule ?_)
  have key : ∀ sel : Nat → Bool, (∀ k, sel k = decide (k < c)) → ∀ f : Array Value → Array Value, (∀ xs, f xs = (xs.toList.zipIdx.filterMap fun p => if sel p.2 = true then none else some p.1).toArray) → f items = (items.toList.drop c).toArray := fun sel h1 f h2 => by
    rw [h2, zip_cut c sel h1 items.toList 0]; rfl
  have key2 : ∀ f : Array Value → Array Value, f items = (items.toList.drop c).toArray → ∀ (R : Unit → Shared → Prop), (∀ h' n', h'.get? l = some { cls := .type "list", data := .seq (items.toList.drop c).toArray n' } → Heap.SameBut l s.heap h' → R () { s with heap := h' }) → wpAny (model prog w) A.in1 (updateSeq l f) R E s := fun f hf R hR => by
    refine wpAny_updateSeq (hz := hz) (_hz' := ?_) e rfl (hR _ (if ((items.toList.drop c).toArray).size == items.size then n else n + 1) ?_ (Heap.SameBut.update ..))
    · rw [Heap.get?_update_self _ e rfl]
      simp only [Obj.mapSeq, hf]
    · rw [hf, List.size_toArray, List.length_drop, Array.length_toList]; omega
  refine wpAny_bind (key2 _ (key _ (fun k => ?_) _ fun xs => rfl) _ fun h' n' g1 g2 => ?_)
  · show (if (1 : Int) > 0 then decide ((0 : Int) ≤ (k : Int)) && decide ((k : Int) < (c : Int)) && (((k : Int) - 0) % 1 == 0) else _) = _
    rw [if_pos (by decide)]
    rw [Bool.eq_iff_iff]
    simp
    first | done | omega
  · refine wpAny_bind (wpAny_letGo ?_)
    first
      | exact wpAny_bind (wpAny_pure (wpAny_pure ⟨.none, rfl, h h' n' g1 g2⟩))
      | exact wpAny_pure ⟨.none, rfl, h h' n' g1 g2⟩
end
section
variable {X : Cx} {pos tpos p2 : Pos}
theorem del_cut {pins : List (Addr × Obj)} {s : Shared} {σ : L2.St} {H : Hp} {l sl : Addr} {xs : List V} {c : Nat} {vu : Value} {Q : Unit → Shared → Prop} (inv : Inv X pins σ H s) (hH : H l = some (.lst xs)) (hs : s.heap.IsSliceOf sl .none vu .none) (pu : IsPart vu (some (c : Int))) (hc : c ≤ xs.length)
    (h : ∀ s', Inv X pins σ (upd H l (.lst (xs.drop c))) s' → Q () s') : wpAny (model X.prog X.w) X.A (delItem (.ref l) (.ref sl)) Q X.xe s := by
  obtain ⟨z, its, n, r, hl, e⟩ := inv.lstM hH
  refine delItem_cut (c := c) e hs pu (by rw [List.size_toArray]; omega) (by rw [List.size_toArray]; omega) fun h' n' g1 sb => h { s with heap := h' } ?_
  refine inv.write (t' := s.toks) (by rw [hH]; trivial) (.inl rfl) (fun b u hb q => (sb.2 b hb).trans q) ⟨_, g1⟩ ⟨?_, its.drop c, n', r.drop c, g1⟩
  rw [List.length_drop]; omega
/-- del o[:n] -/
theorem ps_delCut {o hi : Expr} {to ti : TE} (ho : PE X o to) (hu : PE X hi ti) : PS X (.Delete [.Subscript o (.Slice none (some hi) none p2) tpos] pos) (fun Dn σ H => to σ H fun x H1 => tPart ti σ H1 fun y H2 => ∃ (l : Addr) (xs : List V) (c : Nat), x = .ref l ∧ y = some (c : Int) ∧ H2 l = some (.lst xs) ∧ c ≤ xs.length ∧ Dn.nx σ (upd H2 l (.lst (xs.drop c)))) := by
  refine ⟨fun pins s σ H Dn inv h => ?_⟩
  refine wpAny_Delete (wpAny_deleteEach_cons (wpAny_delete_Subscript (thn (ho.run pins s σ H _ inv h) fun u s1 ⟨x, H1, inv1, rx, q1⟩ => ?_)))
  refine wpAny_Slice (thn (po_none.run pins s1 σ H1 (fun o H2 => o = none ∧ H2 = H1) inv1 ⟨rfl, rfl⟩) fun vl s2 ⟨l, H2, inv2, pl, el, e2⟩ => ?_)
  subst el e2
  refine thn ((po_some hu).run pins s2 σ H2 _ inv2 q1) fun vu s3 ⟨w, H3, inv3, pu, l, xs, c, ex, ew, hH, hd, q⟩ => ?_
  subst ew ex
  rw [evalPart_none]
  refine wpAny_pure ?_
  cases rx
  cases pl
  have inv4 : Inv X pins σ H3 { s3 with heap := s3.heap.push { cls := .type "slice", data := .fields #[.none, vu, .none] } } := inv3.kept (t' := s3.toks) fun b ob q => Heap.get?_push_of_some _ q
  exact del_cut inv4 hH (Heap.IsSliceOf.new ..) pu hd fun s' inv5 => wpAny_deleteEach_nil ⟨σ, _, inv5, q⟩
end
end Dl

set_option Elab.async false
set_option linter.all false
set_option maxRecDepth 100000
set_option maxHeartbeats 2000000
/-! sum(lists, []). -/
namespace Dl
open PySem PySem.Spec PyProof.Rows L2
section
variable {X : Cx}
theorem sub_l_str : isSubtype (.type "list") (.type "str") = pure false := by rw [isSubtype_type]; kernel_rfl
theorem sub_l_bytes : isSubtype (.type "list") (.type "bytes") = pure false := by rw [isSubtype_type]; kernel_rfl
theorem sub_l_bytearray : isSubtype (.type "list") (.type "bytearray") = pure false := by rw [isSubtype_type]; kernel_rfl
theorem args_sum_two (a b : Value) : argsOk "sum" ⟨[a, b], []⟩ := by unfold argsOk; kernel_rfl
theorem sumL_loop {pins : List (Addr × Obj)} {σ : L2.St} {H : Hp} {s0 : Shared} (inv : Inv X pins σ H s0) (hh : X.A.in1.handled = none) {l I S : Addr} {bs : List Addr} {xss : List (List V)} {R : Result → Shared → Prop}
    (hI : l ≠ I) (hS1 : S ≠ I) (hS2 : S ≠ l) (n1 : s0.heap.objs.size ≤ S) (n2 : s0.heap.objs.size ≤ I) (hb : ∀ (i : Nat) (b : Addr), bs[i]? = some b → ∃ xs, xss[i]? = some xs ∧ H b = some (.lst xs)) (hlen : bs.length = xss.length) (hz : xss.flatten.length ≤ sizeLine) (ne : 0 < bs.length)
    (fin : ∀ h' tk T' ts n', (∀ b o, s0.heap.get? b = some o → h'.get? b = some o) → s0.heap.objs.size ≤ T' → Vals xss.flatten ts → h'.get? T' = some { cls := .type "list", data := .seq ts.toArray n' } → R (.ok (.ret (.ref T'))) { s0 with heap := h', toks := tk }) :
    ∀ (k i : Nat) (h : Heap) (tk : Nat) (T : Addr) (c nT : Nat) (ts : List Value), bs.length - i = k → i ≤ bs.length → (∀ b o, s0.heap.get? b = some o → h.get? b = some o) → (h.IsListIter I l i ∧ h.IsList l (bs.map Value.ref).toArray) →
      h.get? S = some { cls := .type "list", data := .seq #[.ref T] c } → h.get? T = some { cls := .type "list", data := .seq ts.toArray nT } → Vals (xss.take i).flatten ts → S ≠ T → T ≠ I → (i = 0 ∨ s0.heap.objs.size ≤ T) →
      codeAny (model X.prog X.w) X.A (.builtin "sum.loop" ⟨[.ref I, .ref S, rawInt 2, rawInt 0], []⟩) R { s0 with heap := h, toks := tk } := by
  have W := Walks.list (prog := X.prog) (w := X.w) (A := X.A.in1) hh I l hI (bs.map Value.ref).toArray
  have hsz : (bs.map Value.ref).toArray.size = bs.length := by simp
  rw [hsz] at W
  intro k
  induction k with
  | zero =>
    intro i h tk T c nT ts hk hi keep st hS hT rv nST nTI old
    have e : i = bs.length := by omega
    subst e
    refine codeAny_builtin F.entry_sum_loop ?_
    rw [Around.under_plainId F.plain_sum_loop _]
    show wpAny _ X.A.in1 (seqItems? (.ref S) >>= _) _ _ _
    refine wpAny_bind (wpAny_seqItems hS rfl ?_)
    show wpAny _ X.A.in1 (tryCatch (pyNext (.ref I)) _ >>= _) _ _ _
    refine wpAny_bind (wpAny_tryCatch (W.done _ _ _ st fun h' tk' kp => ?_))
    refine wpAny_pure (fin h' tk' T ts nT (fun b o z => kp b o (fun hm => ?_) (keep b o z)) (by rcases old with e | e <;> omega) (by rw [hlen, List.take_length] at rv; exact rv) (kp T _ (by simpa using nTI) hT))
    rw [List.mem_singleton.mp hm] at z
    exact absurd (Heap.lt_size z) (Nat.not_lt.mpr n2)
  | succ k ih =>
    intro i h tk T c nT ts hk hi keep st hS hT rv nST nTI old
    have hlt : i < bs.length := by omega
    refine codeAny_builtin F.entry_sum_loop ?_
    rw [Around.under_plainId F.plain_sum_loop _]
    show wpAny _ X.A.in1 (seqItems? (.ref S) >>= _) _ _ _
    refine wpAny_bind (wpAny_seqItems hS rfl ?_)
    show wpAny _ X.A.in1 (tryCatch (pyNext (.ref I)) _ >>= _) _ _ _
    refine wpAny_bind (wpAny_tryCatch (W.item i _ _ _ hlt st fun v h' tk' hv st' kp => ?_))
    have ev : v = .ref bs[i] := by
      have : (bs.map Value.ref).toArray[i]? = some (.ref bs[i]) := by simp [hlt]
      rw [this] at hv
      cases hv; rfl
    subst ev
    obtain ⟨xs, e1, e2⟩ := hb i bs[i] (List.getElem?_eq_getElem hlt)
    obtain ⟨z1, its, n3, r3, l3, e3⟩ := inv.lstM e2
    have nI : ∀ {b : Addr} {o : Obj}, s0.heap.get? b = some o → b ∉ [I] := fun {b o} q hm => by
      rw [List.mem_singleton.mp hm] at q
      exact absurd (Heap.lt_size q) (Nat.not_lt.mpr n2)
    have hT' : h'.get? T = some { cls := .type "list", data := .seq ts.toArray nT } := kp T _ (by simpa using nTI) hT
    have hS' : h'.get? S = some { cls := .type "list", data := .seq #[.ref T] c } := kp S _ (by simpa using hS1) hS
    have hB' : h'.get? bs[i] = some { cls := .type "list", data := .seq its.toArray n3 } := kp _ _ (nI e3) (keep _ _ e3)
    have et : (xss.take (i + 1)).flatten = (xss.take i).flatten ++ xs := by rw [List.take_add_one, e1, List.flatten_append]; simp
    have rv' : Vals (xss.take (i + 1)).flatten (ts ++ its) := by rw [et]; exact rv.append r3
    have lz : (xss.take (i + 1)).flatten.length ≤ xss.flatten.length := by
      have : xss.flatten = (xss.take (i + 1)).flatten ++ (xss.drop (i + 1)).flatten := by rw [← List.flatten_append, List.take_append_drop]
      rw [this, List.length_append]; omega
    have lt := rv'.length
    rw [List.length_append] at lt
    show wpAny _ X.A.in1 ((holding [Value.ref bs[i]] (binaryOp .Add (.ref T) (.ref bs[i]))).attempt >>= _) _ _ _
    refine wpAny_bind (wpAny_attempt (wpAny_holding (PySem.P.add_list hT' hB' ?_ (by rw [List.size_toArray, List.size_toArray]; omega))))
    generalize hh2 : h'.push { cls := .type "list", data := .seq (ts.toArray ++ its.toArray) } = h2
    have p2 : ∀ b o, h'.get? b = some o → h2.get? b = some o := fun b o q => by rw [← hh2]; exact Heap.get?_push_of_some _ q
    have hT2 : h2.get? h'.objs.size = some { cls := .type "list", data := .seq (ts ++ its).toArray } := by
      rw [← hh2, show (ts ++ its).toArray = ts.toArray ++ its.toArray by simp]; exact Heap.get?_push_size _ rfl
    have lS := Heap.lt_size hS'
    have lI : I < h'.objs.size := by obtain ⟨⟨_, q, _⟩, _⟩ := st'; exact Heap.lt_size q
    have l0 : s0.heap.objs.size ≤ h'.objs.size := Nat.le_of_lt (Nat.lt_of_le_of_lt n1 lS)
    refine wpAny_bind (m := updateSeq S (fun _ => #[.ref h'.objs.size])) (wpAny_updateSeq (p2 _ _ hS') rfl ?_ (show 1 ≤ sizeLine by decide) (show 1 ≤ sizeLine + 1 by decide))
    have hS2' := Heap.get?_update_self (Obj.mapSeq fun _ => #[Value.ref h'.objs.size]) (p2 _ _ hS') rfl
    refine wpAny_bind (wpAny_letGo ?_)
    refine wpAny_bind (wpAny_updateSeq hS2' rfl (wpAny_pure ⟨plainId_quiet F.plain_sum_loop _, ?_⟩) (show 1 ≤ sizeLine by decide) (show 1 ≤ sizeLine + 1 by decide))
    have oth : ∀ b, b ≠ S → ∀ o, h2.get? b = some o → (((h2.update S (Obj.mapSeq fun _ => #[Value.ref h'.objs.size])).update S (Obj.mapSeq fun _ => #[Value.ref h'.objs.size]))).get? b = some o := fun b hb o q =>
      (Heap.get?_update_other _ _ (Ne.symm hb)).trans ((Heap.get?_update_other _ _ (Ne.symm hb)).trans q)
    refine ih (i + 1) _ _ h'.objs.size _ _ (ts ++ its) (by omega) (by omega) (fun b o q => oth b (fun z => ?_) o (p2 _ _ (kp b o (nI q) (keep b o q)))) ?_ (Heap.get?_update_self _ hS2' rfl) (oth _ (Nat.ne_of_gt lS) _ hT2) rv' (Nat.ne_of_lt lS) (Nat.ne_of_gt lI) (.inr l0)
    · rw [z] at q
      exact absurd (Heap.lt_size q) (Nat.not_lt.mpr n1)
    · exact ⟨st'.1.at fun o q => oth I (Ne.symm hS1) o (p2 _ _ q), st'.2.at fun o q => oth l (Ne.symm hS2) o (p2 _ _ q)⟩
def rSumL (K : PySem.W.Frag) : List V → Hp → VK → Prop := fun vs H Q => ∃ (a e : Addr) (bs : List Addr) (xss : List (List V)), vs = [.ref a, .ref e] ∧ SqL K H a (bs.map V.ref) ∧ H e = some (.lst []) ∧ 0 < bs.length ∧ bs.length = xss.length ∧
  (∀ (i : Nat) (b : Addr), bs[i]? = some b → ∃ xs, xss[i]? = some xs ∧ H b = some (.lst xs)) ∧ xss.flatten.length ≤ sizeLine ∧ ∀ p, H p = none → Q (.ref p) (upd H p (.lst xss.flatten))
theorem refs_vals : ∀ {bs : List Addr} {us : List Value}, Vals (bs.map V.ref) us → us = bs.map Value.ref
  | [], _, .nil => rfl
  | b :: bs, _, .cons r t => by
    rw [refs_vals t]
    cases r
    rfl
theorem call_sumL (hc : X.calm = true) : CallR X (.builtin "sum") (rSumL X.K) := by
  intro pins s σ H xs us Q inv r h
  obtain ⟨a, e, bs, xss, rfl, ha, he, ne, hl, hb, hz, q⟩ := h
  obtain ⟨u1, u2, rfl, r1, r2⟩ := vals2 r
  cases r1
  cases r2
  obtain ⟨its, rv, pl, hz1⟩ := inv.list ha
  have ei := refs_vals rv
  subst ei
  obtain ⟨z2, its2, n2, r2, l2, e2⟩ := inv.lstM he
  have : its2 = [] := by cases its2 <;> simp at l2; rfl
  subst this
  have hE : s.TypeIs (.ref e) "list" := ⟨_, e2, rfl⟩
  refine call_function_tree F.kind_sum F.plain_sum F.entry_sum (args_sum_two _ _) ?_
  unfold Builtin.«sum»
  simp only [List.length_cons, List.length_nil]
  rw [if_neg (by decide)]
  refine wpAny_bind (wpAny_of_eq (show Builtin.Builtins.bindParams "sum" ["start"] 0 ⟨[.ref e], []⟩ = pure [some (.ref e)] from rfl) ?_)
  have la : a < s.heap.objs.size := by obtain ⟨_, z, _⟩ := pl.isList; exact Heap.lt_size z
  refine wpAny_bind (wpAny_pyIter_list pl.isList ?_)
  refine wpAny_bind (wpAny_pure ?_)
  have kp : ∀ b o, s.heap.get? b = some o → (s.heap.push { cls := .type "list_iterator", data := .fields #[.ref a, .int 0 0] }).get? b = some o := fun b o z => Heap.get?_push_of_some _ z
  have hE2 : Shared.TypeIs { s with heap := s.heap.push { cls := .type "list_iterator", data := .fields #[.ref a, .int 0 0] } } (.ref e) "list" := ⟨_, kp _ _ e2, rfl⟩
  simp only [List.forIn_cons, List.forIn_nil]
  refine wpAny_bind (wpAny_bind (wpAny_bind (wpAny_isInstance (T := "list") (b := false) hE2 sub_l_str ?_)))
  simp only [Bool.false_eq_true, if_false]
  refine wpAny_pure (wpAny_bind (wpAny_bind (wpAny_isInstance (T := "list") (b := false) hE2 sub_l_bytes ?_)))
  simp only [Bool.false_eq_true, if_false]
  refine wpAny_pure (wpAny_bind (wpAny_bind (wpAny_isInstance (T := "list") (b := false) hE2 sub_l_bytearray ?_)))
  simp only [Bool.false_eq_true, if_false]
  refine wpAny_pure (wpAny_pure ?_)
  refine wpAny_bind (wpAny_newObj_type ?_ (show 1 ≤ sizeLine by decide))
  generalize h1 : s.heap.push { cls := .type "list_iterator", data := .fields #[.ref a, .int 0 0] } = g1 at kp ⊢
  have zI : g1.objs.size = s.heap.objs.size + 1 := by rw [← h1]; exact Heap.size_push ..
  have gI : g1.get? s.heap.objs.size = some { cls := .type "list_iterator", data := .fields #[.ref a, .int 0 0] } := by rw [← h1]; exact Heap.get?_push_size _ rfl
  have kq : ∀ b o, g1.get? b = some o → (g1.push { cls := .type "list", data := .seq [Value.ref e].toArray }).get? b = some o := fun b o z => Heap.get?_push_of_some _ z
  refine wpAny_pure ⟨plainId_quiet F.plain_sum_loop _, sumL_loop (S := g1.objs.size) (I := s.heap.objs.size) (l := a) inv (inv.ok.hd hc) (Nat.ne_of_lt la) (by rw [zI]; exact Nat.succ_ne_self _) (by rw [zI]; exact Nat.ne_of_gt (Nat.lt_succ_of_lt la)) (by rw [zI]; exact Nat.le_succ _) (Nat.le_refl _) hb hl hz ne (fun h' tk T' ts n' keep o1 rv' gT => ?_) bs.length 0 _ _ e _ _ [] rfl (Nat.zero_le _) (fun b o z => kq b o (kp b o z)) ⟨⟨_, kq _ _ gI, rfl, rfl⟩, pl.isList.at fun o z => kq _ _ (kp _ _ z)⟩ (Heap.get?_push_size _ rfl) (kq _ _ (kp _ _ e2)) .nil ?_ ?_ (.inl rfl)⟩
  · exact ⟨.ref T', upd H T' (.lst xss.flatten), inv.laid keep o1 ⟨hz, ts, n', rv', gT⟩, rfl, q T' (inv.hok.fresh o1)⟩
  · exact fun z => absurd (Heap.lt_size e2) (by rw [← z, zI]; exact Nat.not_lt.mpr (Nat.le_succ _))
  · exact fun z => absurd (Heap.lt_size e2) (by rw [z]; exact Nat.lt_irrefl _)
end
end Dl

set_option Elab.async false
set_option linter.all false
set_option maxRecDepth 100000
set_option maxHeartbeats 2000000
/-! Over data: bytes; del xs[:n], slices of roots; len(set(..)); min, max; sum(lists, []). -/
namespace Dl
open PySem PySem.Spec PyProof.Rows L2
theorem reprB_run {X : Cx} : CallR X (.builtin "repr") (fun xs H Q => ∃ b, xs = [.byt b] ∧ b.size ≤ 1000000 ∧ Q (.str (Builtin.Bytes.literal b)) H) := by
  intro pins s σ H xs us Q inv r h
  obtain ⟨b, rfl, hz, q⟩ := h
  obtain ⟨u, rfl, ru⟩ := vals1 r
  obtain ⟨t, rfl⟩ := ru
  exact call_repr_gives (PySem.W.typeIs_bytes s b t) slot_brepr entry_brepr (args_brepr _) (gives_brepr hz) ⟨.str (Builtin.Bytes.literal b), H, inv.tok _, ⟨_, rfl⟩, q⟩ (hx := by have := (lit_ok b).1; rw [sizeLine_eq]; omega)
theorem op_mul_byt {X : Cx} : OpR X (binaryOp .Mult) (fun x y H Q => ∃ ns j, x = .byt (byteArr ns) ∧ B8 ns ∧ y = .int j ∧ -1048576 ≤ j ∧ j ≤ 16777216 ∧ ns.length * j.toNat ≤ 16777216 ∧ Q (.byt (byteArr (List.replicate j.toNat ns).flatten)) H) := by
  intro pins s σ H x y v u Q inv rx ry h
  obtain ⟨ns, j, rfl, h8, rfl, h1, h2, h3, q⟩ := h
  obtain ⟨t, rfl⟩ := rx
  obtain ⟨t', rfl⟩ := ry
  refine PySem.W.KBn.mul_K (bi_make h8) h1 h2 h3 fun c t'' k e _ _ => ?_
  have e8 : B8 (List.replicate j.toNat ns).flatten := fun n hn => by
    obtain ⟨l, hl, hm⟩ := List.mem_flatten.mp hn
    rw [(List.mem_replicate.mp hl).2] at hm
    exact h8 n hm
  have ec : c = byteArr (List.replicate j.toNat ns).flatten := bi_inj (by rw [bi_make e8]; exact e)
  subst ec
  exact ⟨.byt _, H, inv.tok _, ⟨_, rfl⟩, q⟩
theorem dedup_len : ∀ (ns ks : List Int), (ns.foldl step_dedup ks).length ≤ ks.length + ns.length ∧ (ks.Nodup → ((ns.foldl step_dedup ks).length = ks.length + ns.length ↔ (ks ++ ns).Nodup))
  | [], ks => ⟨by simp, fun h => by simp [h]⟩
  | a :: ns, ks => by
    have e : step_dedup ks a = if a ∈ ks then ks else ks ++ [a] := by
      unfold step_dedup
      by_cases h : a ∈ ks
      · rw [if_pos h, if_pos (List.any_eq_true.mpr ⟨a, h, by simp⟩)]
      · rw [if_neg h, if_neg]
        intro z
        obtain ⟨x, hx, ex⟩ := List.any_eq_true.mp z
        have : x = a := by simpa using ex
        exact h (this ▸ hx)
    rw [List.foldl_cons, e, List.length_cons]
    by_cases h : a ∈ ks
    · rw [if_pos h]
      obtain ⟨h1, h2⟩ := dedup_len ns ks
      refine ⟨by omega, fun nd => ⟨fun z => by omega, fun z => ?_⟩⟩
      exact absurd rfl ((List.nodup_append.mp z).2.2 a h a (List.mem_cons_self ..))
    · rw [if_neg h]
      obtain ⟨h1, h2⟩ := dedup_len ns (ks ++ [a])
      rw [List.length_append, List.length_singleton] at h1 h2
      refine ⟨by omega, fun nd => ?_⟩
      have nd2 : (ks ++ [a]).Nodup := List.nodup_append.mpr ⟨nd, by simp, fun x hx y hy => by rw [List.mem_singleton] at hy; subst hy; exact fun z => h (z ▸ hx)⟩
      have := h2 nd2
      rw [show ks.length + (ns.length + 1) = ks.length + 1 + ns.length by omega, this, List.append_assoc, List.singleton_append]
theorem met_len (ns : List Int) : (firstMet (fun i => ns.getD i 0) ns.length).length ≤ ns.length ∧ ((firstMet (fun i => ns.getD i 0) ns.length).length = ns.length ↔ ns.Nodup) := by
  have e : (List.range ns.length).map (fun i => ns.getD i 0) = ns := by
    apply List.ext_getElem
    · rw [List.length_map, List.length_range]
    · intro i h1 h2
      rw [List.getElem_map, List.getElem_range, List.getD_eq_getElem?_getD, List.getElem?_eq_getElem h2]; rfl
  unfold firstMet
  rw [e]
  obtain ⟨h1, h2⟩ := dedup_len ns []
  have := h2 List.nodup_nil
  simp only [List.length_nil, Nat.zero_add, List.nil_append] at h1 this
  exact ⟨h1, this⟩
theorem pe_lenSetA {X : Cx} {a : Expr} {ta : TE} {p p2 q pos : Pos} (hg : Gl X "len") (hm : X.mg "len" = none) (hg2 : Gl X "set") (hm2 : X.mg "set" = none) (ha : PE X a ta) (calm : X.calm = true := by rfl)
    (na : starEach [a] X.env = (false, eval a X.env) :: starEach [] X.env := by rfl) : PE X (.Call (.Name "len" p) [.Call (.Name "set" p2) [a] [] q] [] pos)
      (fun σ H Q => ta σ H fun x H1 => ∃ (l : Addr) (ns : List Int), x = .ref l ∧ SqL X.K H1 l (ns.map V.int) ∧ ns.length ≤ 4000 ∧ ∀ m : Nat, (m = ns.length ↔ ns.Nodup) → Q (.int (m : Int)) H1) := by
  refine ⟨fun pins s σ H Q inv h => Call_ (ld_blt inv hg hm boot_len (PyProof.Rows.callWith_builtin1 (PyProof.Rows.args_cons (Call_ (ld_blt inv hg2 hm2 boot_set ?_)) rfl) rfl rfl))⟩
  refine PyProof.Rows.callWith_type1 (PyProof.Rows.args_cons (thn (ha.run pins s σ H _ inv h) fun v s1 ⟨x, H1, inv1, r1, l, ns, ex, hq, hl, q1⟩ => PyProof.Rows.args_nil ?_) na) na rfl
  subst ex
  cases r1
  obtain ⟨its, r, pl, hz⟩ := inv1.list hq
  have lens : its.toArray.size = ns.length := by rw [List.size_toArray, ← r.length, List.length_map]
  refine call_set_list (inv1.ok.hd calm) pl.isList (by simpa using RZ.intsAre_vals r) (by rw [lens]; unfold scanBound; omega) fun h' tk hS hk => PyProof.Rows.args_nil ?_
  rw [lens] at hS
  obtain ⟨o, es, ep, t, ho, hex, hd, _, _, _, hf, hn⟩ := hS
  have inv2 : Inv X pins σ H1 { s1 with heap := h', toks := tk } := inv1.kept fun b w z => hk b w (Heap.lt_size z) z
  obtain ⟨m1, m2⟩ := met_len ns
  exact call_len_set ho hex hd hf (by rw [hn]; omega) ⟨.int _, H1, inv2.tok _, ⟨_, by rw [hn]⟩, q1 _ m2⟩
variable [XP] [XE]
section
variable {X : Cx} {a b c e : Expr} {ta tb te : DTE} {pos p2 tpos : Pos} {lo hi : Option Expr} {tl th : DTO}
/-! ### slices of bytes, of roots -/
def tSlBD (te : DTE) (tl th : DTO) : DTE := fun _ Δ n X Q => te .bor Δ n X fun x n1 => tl Δ n1 X fun l n2 => th Δ n2 X fun u n3 => ∃ ns : List Int, x = .byt (byteArr ns) ∧ ns.length ≤ 16777216 ∧ Q (.byt (byteArr (cutL ns l u))) n3
theorem d_slB (he : DE X e te) (hl : DO X lo tl) (hu : DO X hi th) : DE X (.Subscript e (.Slice lo hi none p2) pos) (tSlBD te tl th) :=
  wkE (pe_slice sl_byt he hl hu) fun σ H Q ⟨n0, H0, nB, B, fr, av, n, Δ, m, Xd, Qd, S, bb, xk, h, k⟩ => lift_at .bor S bb xk h fun v H1 d n1 s1 S1 r1 q1 =>
    liftO_at S1 (xk.step s1) q1 fun l H2 n2 s2 S2 q2 => liftO_at S2 ((xk.step s1).step s2) q2 fun u H3 n3 s3 S3 q3 => by
      obtain ⟨ns, rfl, hz, q⟩ := q3
      cases r1
      exact ⟨_, rfl, by rw [byteArr_size]; exact hz, by rw [picked_cut]; exact k _ H3 _ n3 ((s1.trans s2).trans s3) S3.pen (.byt _) q⟩
def tSlRD (te : DTE) (tl th : DTO) : DTE := fun _ Δ n X Q => te .bor Δ n X fun x n1 => tl Δ n1 X fun l n2 => th Δ n2 X fun u n3 => ∃ p ds, x = .loc p ∧ n3 p = some (.lst ds) ∧ Q (.lst (cutL ds l u)) n3
theorem d_slR (he : DE X e te) (hl : DO X lo tl) (hu : DO X hi th) : DE X (.Subscript e (.Slice lo hi none p2) pos) (tSlRD te tl th) :=
  wkE (pe_slice sl_list he hl hu) fun σ H Q ⟨n0, H0, nB, B, fr, av, n, Δ, m, Xd, Qd, S, bb, xk, h, k⟩ => lift_at .bor S bb xk h fun v H1 d n1 s1 S1 r1 q1 =>
    liftO_at S1 (xk.step s1) q1 fun l H2 n2 s2 S2 q2 => liftO_at S2 ((xk.step s1).step s2) q2 fun u H3 n3 s3 S3 q3 => by
      have s13 := (s1.trans s2).trans s3
      obtain ⟨p, ds, rfl, e1, q⟩ := q3
      cases r1
      obtain ⟨vs, h1, r⟩ := S3.pen.lst e1
      exact ⟨_, _, rfl, SqL.of h1, fun p' hp => k _ _ _ n3 (s13.trans (SameP.new hp)) (S3.pen.same (same_new hp)) (.lst upd_same (S3.neP hp) (Al.new S3 (bb.trans s13) m hp) (rp_upd hp (fun _ _ _ z => z) (r.ofNo.cut l u))) q⟩
/-- del o[:n], o a root -/
def tDelRD (to tn : DTE) : DTS := fun Dd Δ n => to .bor Δ n (Dd.xs Δ) fun x n1 => tn .bor Δ n1 (Dd.xs Δ) fun y n2 => ∃ p ds, ∃ c : Nat, x = .loc p ∧ y = .int (c : Int) ∧ n2 p = some (.lst ds) ∧ c ≤ ds.length ∧ Dd.nx Δ (updS n2 p (.lst (ds.drop c)))
theorem ds_delR (ho : DE X a ta) (hn : DE X b tb) : DS X (.Delete [.Subscript a (.Slice none (some b) none p2) tpos] pos) (tDelRD ta tb) :=
  wkS (ps_delCut ho hn) fun E σ H ⟨n0, H0, fr, av, n, Δ, Dd, S, h, k⟩ => lift_at (B := H) .bor S (SameP.refl n H) (k.xk S) h fun v H1 d n1 s1 S1 r1 q1 =>
    lift_at (B := H1) .bor S1 (SameP.refl n1 H1) (k.xk S1) q1 fun v2 H2 d2 n2 s2 S2 r2 q2 => by
      obtain ⟨p, ds, c, rfl, rfl, e1, hc, q⟩ := q2
      cases r1
      cases r2
      obtain ⟨vs, h1, r⟩ := S2.pen.lst e1
      exact ⟨_, rfl, _, vs, c, rfl, rfl, h1, by rw [r.length]; exact hc, k.nx _ _ _ _ (S2.mono (put_same e1) (S2.pen.putL e1 (r.drop c))) q⟩
/-- len(set(xs)) of ints -/
def tLenSet2D (ta : DTE) : DTE := fun _ Δ n X Q => ta .bor Δ n X fun x n1 => ∃ ns : List Int, x = .lst (ns.map D.int) ∧ ns.length ≤ 4000 ∧ ∀ m : Nat, (m = ns.length ↔ ns.Nodup) → Q (.int (m : Int)) n1
theorem d_lenSet2 {p q : Pos} (hg : Gl X "len") (hm : X.mg "len" = none) (hg2 : Gl X "set") (hm2 : X.mg "set" = none) (ha : DE X a ta) (hc : X.calm = true := by rfl) (na : starEach [a] X.env = (false, eval a X.env) :: starEach [] X.env := by rfl) :
    DE X (.Call (.Name "len" p) [.Call (.Name "set" p2) [a] [] q] [] pos) (tLenSet2D ta) :=
  wkE (pe_lenSetA hg hm hg2 hm2 ha hc na) fun σ H Q ⟨n0, H0, nB, B, fr, av, n, Δ, m, Xd, Qd, S, bb, xk, h, k⟩ => lift_at .bor S bb xk h fun v H1 d n1 s1 S1 r1 q1 => by
    obtain ⟨ns, rfl, h1, q⟩ := q1
    cases r1 with
    | lst a1 a2 a3 r => exact ⟨_, ns, rfl, by rw [← r.ints]; exact SqL.of a1, h1, fun m hm => k _ H1 _ n1 s1 S1.pen (.int _) (q m hm)⟩
end
/-! ### calls, operators -/
def drBytes : DRn := fun ds Q => ∃ ns : List Int, ds = [.lst (ns.map D.int)] ∧ B8 ns ∧ Q (.byt (byteArr ns))
theorem sn_bytes {K : PySem.W.Frag} : SndN (fun xs H Q => ∃ p ns, xs = [.ref p] ∧ SqL K H p (ns.map V.int) ∧ B8 ns ∧ Q (.byt (byteArr ns)) H) drBytes := fun P A B H xs ds Q Qd p0 nA r h k => by
  obtain ⟨ns, rfl, h8, h⟩ := h
  match r with
  | .cons (.lst a1 a2 a3 r) .nil => exact ⟨_, ns, rfl, by rw [← r.ints]; exact SqL.of a1, h8, k _ H _ (Same.refl H) (.byt _) h⟩
def drListB : DRn := fun ds Q => ∃ ns : List Int, ds = [.byt (byteArr ns)] ∧ B8 ns ∧ ns.length ≤ sizeLine ∧ Q (.lst (ns.map D.int))
theorem sn_listB : SndN (r1 kLstB) drListB := fun P A B H xs ds Q Qd p0 nA r h k => by
  obtain ⟨ns, rfl, h8, hz, h⟩ := h
  match r with
  | .cons (.byt _) .nil =>
    refine ⟨_, rfl, by rw [byteArr_size]; exact hz, fun q hq => ?_⟩
    rw [bi_make h8]
    exact k _ _ _ (same_new hq) (.lst upd_same (ne_P p0 hq) (nA q hq) (RpAll.of_ints ns)) h
def drRepr2 : DRn := fun ds Q => (∃ b, ds = [.byt b] ∧ b.size ≤ 1000000 ∧ ∀ z : Str, z.length ≤ 4 * b.size + 3 → z.cps[0]? = some 98 → Q (.str z)) ∨ drRepr ds Q
theorem sn_repr2 {K : PySem.W.Frag} : SndN (fun xs H Q => (∃ b, xs = [.byt b] ∧ b.size ≤ 1000000 ∧ Q (.str (Builtin.Bytes.literal b)) H) ∨ rRepr K xs H Q) drRepr2 := fun P A B H xs ds Q Qd p0 nA r h k => by
  rcases h with ⟨b, rfl, hz, h⟩ | h
  · match r with
    | .cons (.byt _) .nil => exact .inl ⟨_, rfl, hz, k _ H _ (Same.refl H) (.str _) (h _ (lit_ok _).1 (lit_ok _).2)⟩
  · exact .inr (sn_repr P A B H xs ds Q Qd p0 nA r h k)
def drAdd2 : DR2 := fun x y Q => (∃ a b : List Int, x = .byt (byteArr a) ∧ y = .byt (byteArr b) ∧ a.length + b.length ≤ 16777216 ∧ Q (.byt (byteArr (a ++ b)))) ∨ drAdd x y Q
theorem sn_add2 {K : PySem.W.Frag} : Snd2 (fun x y H Q => (∃ i j, x = .byt i ∧ y = .byt j ∧ i.size + j.size ≤ 16777216 ∧ Q (.byt (i ++ j)) H) ∨ rAddU K x y H Q) drAdd2 := fun P A B H x y d e Q Qd p0 nA rx ry h k => by
  rcases h with ⟨a, b, rfl, rfl, hz, h⟩ | h
  · cases rx
    cases ry
    exact .inl ⟨_, _, rfl, rfl, by rw [byteArr_size, byteArr_size]; exact hz, by rw [byteArr_app]; exact k _ H _ (Same.refl H) (.byt _) h⟩
  · exact .inr (sn_add P A B H x y d e Q Qd p0 nA rx ry h k)
def drMul2 : DR2 := fun x y Q => (∃ (a : List Int) (j : Int), x = .byt (byteArr a) ∧ B8 a ∧ y = .int j ∧ -1048576 ≤ j ∧ j ≤ 16777216 ∧ a.length * j.toNat ≤ 16777216 ∧ Q (.byt (byteArr (List.replicate j.toNat a).flatten))) ∨ drMul x y Q
theorem sn_mul2 : Snd2 (fun x y H Q => (∃ ns j, x = .byt (byteArr ns) ∧ B8 ns ∧ y = .int j ∧ -1048576 ≤ j ∧ j ≤ 16777216 ∧ ns.length * j.toNat ≤ 16777216 ∧ Q (.byt (byteArr (List.replicate j.toNat ns).flatten)) H) ∨ ((rI CMul (fun i j => .int (i * j))) x y H Q ∨ rRep x y H Q)) drMul2 := fun P A B H x y d e Q Qd p0 nA rx ry h k => by
  rcases h with ⟨a, j, rfl, h8, rfl, h1, h2, h3, h⟩ | h
  · cases rx
    cases ry
    exact .inl ⟨a, _, rfl, h8, rfl, h1, h2, h3, k _ H _ (Same.refl H) (.byt _) h⟩
  · exact .inr (sn_mul P A B H x y d e Q Qd p0 nA rx ry h k)
def drMin2 : DRn := fun ds Q => ∃ i j : Int, ds = [.int i, .int j] ∧ Q (.int (if j < i then j else i))
theorem sn_min2 : SndN (fun xs H Q => ∃ i j, xs = [.int i, .int j] ∧ Q (.int (if j < i then j else i)) H) drMin2 := fun P A B H xs ds Q Qd p0 nA r h k => by
  obtain ⟨i, j, rfl, h⟩ := h
  match r with
  | .cons (.int _) (.cons (.int _) .nil) => exact ⟨i, j, rfl, k _ H _ (Same.refl H) (.int _) h⟩
def drMax2 : DRn := fun ds Q => ∃ i j : Int, ds = [.int i, .int j] ∧ Q (.int (if j > i then j else i))
theorem sn_max2 : SndN (fun xs H Q => ∃ i j, xs = [.int i, .int j] ∧ Q (.int (if j > i then j else i)) H) drMax2 := fun P A B H xs ds Q Qd p0 nA r h k => by
  obtain ⟨i, j, rfl, h⟩ := h
  match r with
  | .cons (.int _) (.cons (.int _) .nil) => exact ⟨i, j, rfl, k _ H _ (Same.refl H) (.int _) h⟩
def drSumL : DRn := fun ds Q => ∃ gs : List (List D), ds = [.lst (gs.map D.lst), .lst []] ∧ 0 < gs.length ∧ (∀ g ∈ gs, flatAll g = true) ∧ gs.flatten.length ≤ sizeLine ∧ Q (.lst gs.flatten)
theorem rp_lists {n : Sto} {A B : Addr → Prop} {H : Hp} : ∀ {gs : List (List D)} {vs : List V}, RpAll n B H vs (gs.map D.lst) → (∀ g ∈ gs, flatAll g = true) → ∃ (bs : List Addr) (xss : List (List V)), vs = bs.map V.ref ∧ bs.length = gs.length ∧ bs.length = xss.length ∧
    (∀ (i : Nat) (b : Addr), bs[i]? = some b → ∃ xs, xss[i]? = some xs ∧ H b = some (.lst xs)) ∧ RpAll n A H xss.flatten gs.flatten
  | [], _, .nil, _ => ⟨[], [], rfl, rfl, rfl, fun i b e => by simp at e, .nil⟩
  | g :: gs, _, .cons (.lst (vs := us) a1 a2 a3 r) t, hf => by
    obtain ⟨bs, xss, e1, e2, e3, e4, e5⟩ := rp_lists (A := A) t fun g hg => hf g (List.mem_cons_of_mem _ hg)
    refine ⟨_ :: bs, us :: xss, by rw [e1]; rfl, by simp [e2], by simp [e3], fun i b e => ?_, by rw [List.flatten_cons, List.flatten_cons]; exact (RpAll.flat _ _ (hf g (List.mem_cons_self ..)) r).append e5⟩
    cases i with
    | zero => simp at e; subst e; exact ⟨us, rfl, a1⟩
    | succ i => simpa using e4 i b (by simpa using e)
theorem sn_sumL {K : PySem.W.Frag} : SndN (rSumL K) drSumL := fun P A B H xs ds Q Qd p0 nA r h k => by
  obtain ⟨gs, rfl, ne, hf, hz, h⟩ := h
  match r with
  | .cons (.lst a1 a2 a3 r) (.cons (.lst b1 b2 b3 r2) .nil) =>
    cases r2
    obtain ⟨bs, xss, rfl, e2, e3, e4, e5⟩ := rp_lists (A := A) r hf
    refine ⟨_, _, bs, xss, rfl, SqL.of a1, b1, by omega, e3, e4, by rw [e5.length]; exact hz, fun p hp => ?_⟩
    exact k _ _ _ (same_new hp) (.lst upd_same (ne_P p0 hp) (nA p hp) (rp_upd hp (fun _ _ _ z => z) e5)) h
end Dl

set_option Elab.async false
set_option linter.all false
set_option maxRecDepth 100000
set_option maxHeartbeats 1000000
/-! t.index(x) of a tuple of ints; xs[::-1] of a list; a def with a parameter that goes by its name alone. -/
namespace Dl
open PySem PySem.Spec PyProof.Rows L2
variable [XP] [XE]
theorem sliceRange_back (n : Nat) : sliceRange ((n : Int) - 1) (-1) (-1) = (List.range n).map fun k => n - 1 - k := by
  unfold sliceRange
  simp only
  rw [if_neg (by decide)]
  by_cases h : n = 0
  · subst h; rfl
  · rw [if_pos (by omega), show ((n : Int) - 1 - -1 - -1 - 1) / (- -1) = n by rw [show (- -1 : Int) = 1 from rfl, Int.ediv_one]; omega, Int.toNat_natCast]
    refine List.map_congr_left fun k hk => ?_
    omega
theorem pick_backL (xs : Array Value) : slicePick xs none none (some (-1)) = xs.toList.reverse.toArray := by
  rw [← pick_back]
  unfold slicePick
  have e : sliceBounds none none (some (-1)) xs.size = ((xs.size : Int) - 1, -1, -1) := by
    unfold sliceBounds
    simp
  rw [e]
  simp only
  rw [sliceRange_back, List.filterMap_map]
  congr 1
  refine fm_cong fun j hj => ?_
  rw [List.mem_range] at hj
  show xs[xs.size - 1 - j]? = _
  congr 1
  omega
def tRevL (K : PySem.W.Frag) (te : TE) : TE := fun σ H Q => te σ H fun x H1 => ∃ a xs, x = .ref a ∧ SqL K H1 a xs ∧ ∀ p, H1 p = none → Q (.ref p) (upd H1 p (.lst xs.reverse))
section
variable {X : Cx} {e : Expr}
theorem pe_revL {te : TE} {kk : Nat} {p1 p2 p3 pos : Pos} (he : PE X e te) : PE X (.Subscript e (.Slice none none (some (.UnaryOp .USub (.Constant (.int 1) kk p1) p2)) p3) pos) (tRevL X.K te) :=
  ⟨fun pins s σ H Q inv hw => by
    refine Subscript_ (thn (he.run pins s σ H _ inv hw) fun v s1 ⟨x, H1, inv1, r1, a, xs, ex, hx, q⟩ => ?_)
    subst ex
    cases r1
    have step : PO X (some (.UnaryOp .USub (.Constant (.int 1) kk p1) p2)) (tPart (tUn (rU fun i => .int (-i)) (tC (.int 1)))) := po_some (pe_un un_neg pe_int)
    refine wpAny_Slice (thn (po_none.run pins s1 σ H1 (fun o H2 => o = none ∧ H2 = H1) inv1 ⟨rfl, rfl⟩) fun vl s2 ⟨l, H2, inv2, pl, el, e2⟩ => ?_)
    subst el e2
    refine thn (po_none.run pins s2 σ H2 (fun o H3 => o = none ∧ H3 = H2) inv2 ⟨rfl, rfl⟩) fun vu s3 ⟨u, H3, inv3, pu, eu, e3⟩ => ?_
    subst eu e3
    refine thn (step.run pins s3 σ H3 (fun o H4 => o = some (-1) ∧ H4 = H3) inv3 ⟨1, rfl, -1, rfl, rfl, rfl⟩) fun vs s4 ⟨o, H4, inv4, ps, eo, e4⟩ => ?_
    subst eo e4
    have inv5 : Inv X pins σ H4 { s4 with heap := s4.heap.push { cls := .type "slice", data := .fields #[vl, vu, vs] } } := inv4.kept (t' := s4.toks) fun b ob z => Heap.get?_push_of_some _ z
    obtain ⟨its, r, pt, hz⟩ := inv5.list hx
    have hlen := r.length
    refine tail_any (ops := [.ref a, .ref s4.heap.objs.size]) pt.isList.typeIs (slot_list_getitem.lookup) ?_ (by with_unfolding_all rfl)
    refine wpAny_getItem_list_slice pt.isList (Heap.IsSliceOf.new _ vl vu vs) pl pu ps (by decide) ?_ (by rw [List.size_toArray]; omega)
    rw [pick_backL]
    exact ⟨.ref _, _, inv5.laid (t' := s4.toks) (o := .lst xs.reverse) (fun b ob z => Heap.get?_push_of_some _ z) (Nat.le_refl _) ⟨by rw [List.length_reverse]; exact hz, _, _, r.reverse, Heap.get?_push_size _ rfl⟩, rfl, q _ (inv5.hok.fresh (Nat.le_refl _))⟩⟩
/-! t.index(x) -/
def tTupIdx (to ta : TE) : TE := fun σ H Q => to σ H fun x H1 => ∃ (a : Addr) (ns : List Int), x = .ref a ∧ TupO H1 a (ns.map V.int) ∧ ta σ H1 fun y H2 => ∃ k, [y] = [V.int k] ∧ k ∈ ns ∧ TupO H2 a (ns.map V.int) ∧ Q (.int (ns.idxOf k : Nat)) H2
theorem pe_tupIdx {o : Expr} {to ta : TE} {apos cpos : Pos} (ho : PE X o to) (ha : PE X e ta)
    (hbase : attributeBase o "index" X.env (eval o X.env) = eval o X.env := by rfl)
    (hfew : ((backTo cpos (starEach [e] X.env)).all (fun x => !x.1) && (backToKw cpos (keywordEach [] X.env)).all (fun x => x.1.isSome)
      && decide (([e] : List Expr).length + ([] : List Keyword).length + (if ([] : List Keyword).isEmpty then 0 else 1) < 30)) = true := by rfl)
    (hline : (apos.endLine == cpos.line) = true := by rfl) (hs : starEach [e] X.env = (false, eval e X.env) :: starEach [] X.env := by rfl) :
    PE X (.Call (.Attribute o "index" apos) [e] [] cpos) (tTupIdx to ta) := by
  refine ⟨fun pins s σ H Q I h => ?_⟩
  refine wpAny_Call_method_late hbase hfew hline rfl (thn (ho.run pins s σ H _ I h) fun v s1 ⟨x, H1, I1, r1, a, ns, ex, t1, q1⟩ => ?_)
  subst ex
  cases r1
  obtain ⟨its, rv, pt, hz⟩ := I1.tuple (TupO.sq t1)
  refine ⟨"tuple", "tuple.index", PySem.F.plainAttrs_tuple, PySem.F.slot_tuple_index, PySem.F.type_tuple_index, pt.typeIs, fun b eb => by cases eb; exact Inv.nodict I1 t1, ?_⟩
  have hA := (pa_cons ha pa_nil hs).run cpos pins s1 σ H1 (fun vs H2 => ∃ k, vs = [V.int k] ∧ k ∈ ns ∧ TupO H2 a (ns.map V.int) ∧ Q (.int (ns.idxOf k : Nat)) H2) I1 q1
  rw [hs] at hA ⊢
  refine Calls.callWith_builtin rfl (Calls.evalArgs_plain ?_)
  refine thn hA fun us s2 ⟨vs, H2, I2, r2, k, ek, hk, t2, q2⟩ => ?_
  subst ek
  obtain ⟨u, eu, ru⟩ := vals1 r2
  subst eu
  obtain ⟨tk, eu⟩ := ru
  subst eu
  obtain ⟨its2, rv2, pt2, hz2⟩ := I2.tuple (TupO.sq t2)
  exact SeqAt.tuple_index_ints pt2 (intsAre_of rv2) hk ⟨.int (ns.idxOf k : Nat), H2, I2.tok _, ⟨_, rfl⟩, q2⟩
def tTupIdxD (to ta : DTE) : DTE := fun _ Δ n X Q => to .bor Δ n X fun x n1 => ∃ ns : List Int, x = .tup (ns.map D.int) ∧ ta .bor Δ n1 X fun y n2 => ∃ k, y = .int k ∧ k ∈ ns ∧ Q (.int (ns.idxOf k : Nat)) n2
theorem d_tupIdx {o : Expr} {to ta : DTE} {apos cpos : Pos} (ho : DE X o to) (ha : DE X e ta)
    (hbase : attributeBase o "index" X.env (eval o X.env) = eval o X.env := by rfl)
    (hfew : ((backTo cpos (starEach [e] X.env)).all (fun x => !x.1) && (backToKw cpos (keywordEach [] X.env)).all (fun x => x.1.isSome)
      && decide (([e] : List Expr).length + ([] : List Keyword).length + (if ([] : List Keyword).isEmpty then 0 else 1) < 30)) = true := by rfl)
    (hline : (apos.endLine == cpos.line) = true := by rfl) (hs : starEach [e] X.env = (false, eval e X.env) :: starEach [] X.env := by rfl) :
    DE X (.Call (.Attribute o "index" apos) [e] [] cpos) (tTupIdxD to ta) :=
  wkE (pe_tupIdx ho ha hbase hfew hline hs) fun σ H Q ⟨n0, H0, nB, B, fr, av, n, Δ, m, Xd, Qd, S, bb, xk, h, k⟩ => lift_at .bor S bb xk h fun v H1 d n1 s1 S1 r1 q1 => by
    obtain ⟨ns, rfl, q1⟩ := q1
    cases r1 with
    | @tup a vs _ a1 a2 r =>
      rw [r.ints] at a1
      refine ⟨a, ns, rfl, a1, lift_at .bor S1 (bb.trans s1) (xk.step s1) q1 fun v2 H2 d2 n2 s2 S2 r2 q2 => ?_⟩
      obtain ⟨j, rfl, hj, q⟩ := q2
      cases r2
      exact ⟨j, rfl, hj, (s2.tup a1 a2).1, k _ _ _ n2 (s1.trans s2) S2.pen (.int _) q⟩
def tRevLD (te : DTE) : DTE := fun _ Δ n X Q => te .bor Δ n X fun x n1 => match x with | .lst xs => flatAll xs = true ∧ Q (.lst xs.reverse) n1 | _ => False
theorem d_revL {te : DTE} {kk : Nat} {p1 p2 p3 pos : Pos} (he : DE X e te) : DE X (.Subscript e (.Slice none none (some (.UnaryOp .USub (.Constant (.int 1) kk p1) p2)) p3) pos) (tRevLD te) :=
  wkE (pe_revL he) fun σ H Q ⟨n0, H0, nB, B, fr, av, n, Δ, m, Xd, Qd, S, bb, xk, h, k⟩ => lift_at .bor S bb xk h fun v H1 d n1 s1 S1 r1 q1 => by
    cases d <;> first | exact q1.elim | skip
    cases r1 with
    | @lst a vs _ a1 a2 a3 r =>
      refine ⟨_, _, rfl, SqL.of a1, fun q hq => ?_⟩
      have sm := SameP.new (n := n1) (o := HO.lst vs.reverse) hq
      exact k _ _ _ n1 (s1.trans sm) (S1.pen.same (same_new hq)) (.lst upd_same (S1.neP hq) (Al.new S1 (bb.trans s1) m hq) (RpAll.flat _ _ (flat_rev q1.1) (r.same sm).reverse)) q1.2
end
/-- a def with parameters that go by their names alone -/
structure CalK (P : Program) (w : World) (K : PySem.W.Frag) (mg : Str → Option Value) (base : Heap) (x : Str) (k : Nat) (ps : List Str) (kws : List (List Str × List Nat)) (sp : Sp) : Prop where
  ex : ∃ (f : Addr) (fd : FuncData), mg x = some (.ref f) ∧ PySem.W.keepIn K (.ref f) = true ∧ (∀ q ∈ kws, KwB K fd ps q.1 q.2) ∧ FnG P w K mg base (L2.CX P w) k f fd ps sp
section
variable {X : Cx} {k : Nat} {ps ks : List Str} {kw : List (List Str × List Nat)} {sp : DSp} {x : Str} {p pos : Pos} {e : Expr} {es : List Expr} {kws : List Keyword} {ta tk : DTA} {pr : List Nat}
theorem d_calKo (pr : List Nat) (ks : List Str) (hq : (ks, pr) ∈ kw) (c : CalK X.prog X.w X.K X.mg X.base x k ps kw (liftF sp)) (hr : Room k X.A) (hgd : X.A.guards = some []) (tkx : L2.Takes X XE.W) (ha : DA X (e :: es) ta) (hkw : DKw X kws tk) (hg : Gl X x := by rfl)
    (hall : (backToKw pos (keywordEach kws X.env)).all (·.1.isSome) = true := by rfl) (hks : (backToKw pos (keywordEach kws X.env)).filterMap (·.1) = ks := by rfl)
    (hdb : (x == ("__debug__" : Str)) = false := by decide) (he : starEach (e :: es) X.env = (false, eval e X.env) :: starEach es X.env := by rfl)
    (hpl : ((backTo pos (starEach (e :: es) X.env)).any (·.1) || (backToKw pos (keywordEach kws X.env)).any (·.1.isNone)) = false := by rfl) :
    DE X (.Call (.Name x p) (e :: es) kws pos) (tCallKD sp pr ta tk) := by
  obtain ⟨f, fd, h1, h2, h4, F⟩ := c.ex
  exact d_callK F hr hgd tkx hg h1 h2 (h4 _ hq) ha hkw hall hks hdb he hpl
end
end Dl

set_option Elab.async false
set_option linter.all false
set_option maxRecDepth 100000
set_option maxHeartbeats 1000000
/-! xs[i] += e on a list that one slot alone holds, of ints. -/
namespace Dl
open PySem PySem.Spec PyProof.Rows L2
variable [XP] [XE]
def getL : V → V → Hp → VK → Prop := fun x y H Q => ∃ p xs i v, x = .ref p ∧ y = .int i ∧ H p = some (.lst xs) ∧ 0 ≤ i ∧ i < 2 ^ 62 ∧ xs[i.toNat]? = some v ∧ Q v H
omit [XP] [XE] in
theorem get_list {X : Cx} : PGet X getL := by
  intro pins s σ H x y v u Q I rx ry h
  obtain ⟨p, xs, i, z, rfl, rfl, hq, h0, hl, he, q⟩ := h
  cases rx
  obtain ⟨t, rfl⟩ := ry
  obtain ⟨its, r, pl, hz⟩ := I.list (SqL.of hq)
  obtain ⟨w, ew, rw'⟩ := r.get he
  exact wpAny_getItem_list pl.isList h0 (by omega) (by simpa using ew) ⟨z, H, I, rw', q⟩
def tAugLD (i : Nat) (f : Int → Int → Int) (tk te : DTE) : DTS := fun Dd Δ n => match Δ[i]? with
  | some (some (.own ds)) => tk .bor Δ n (Dd.xs Δ) fun k n1 => ∃ z a : Int, k = .int z ∧ 0 ≤ z ∧ z < 2 ^ 62 ∧ ds[z.toNat]? = some (.int a) ∧ te .bor Δ n1 (Dd.xs Δ) fun b n2 => ∃ c, b = .int c ∧ Dd.nx (Δ.set i (some (.own (ds.set z.toNat (.int (f a c)))))) n2
  | _ => False
section
variable {X : Cx} {o e k : Expr} {te tk : DTE} {pos tpos : Pos} {op : Operator} {f : Int → Int → Int}
theorem ds_augL (i : Nat) (hp : PIp X op (ipI f)) (ho : PE X o (tVar i)) (hk : DE X k tk) (he : DE X e te)
    (ha : ∀ ov iv new, augStore k ov iv new = (do holding [new, ov, iv] (setItem ov iv new); release [new, ov, iv] []; pure .next) := by intros; rfl) : DS X (.AugAssign (.Subscript o k tpos) op e pos) (tAugLD i f tk te) :=
  wkS (ps_augS ho hk get_list he hp set_list ha) fun E σ H ⟨n0, H0, fr, av, n, Δ, Dd, S, h, kk⟩ => by
    unfold tAugLD at h
    split at h
    · rename_i ds e1
      obtain ⟨p, vs, e2, np, e3, r⟩ := S.at_own e1
      refine ⟨_, e2, lift_at (B := H) .bor S (SameP.refl n H) (kk.xk S) h fun v1 H1 d1 n1 s1 S1 r1 q1 => ?_⟩
      obtain ⟨z, a, rfl, z0, z1, ea, q1⟩ := q1
      cases r1
      obtain ⟨va, ev, rv⟩ := r.get ea
      cases rv
      refine ⟨p, vs, z, _, rfl, rfl, (s1.keep _ _ e3 np).1, z0, z1, ev, lift_at (B := H1) .bor S1 (SameP.refl n1 H1) (kk.xk S1) q1 fun v2 H2 d2 n2 s2 S2 r2 q2 => ?_⟩
      obtain ⟨c, rfl, q2⟩ := q2
      cases r2
      have hx : ixN vs.length z = some z.toNat := by
        have hl : z.toNat < vs.length := (List.getElem?_eq_some_iff.mp ev).1
        unfold ixN
        rw [if_pos z0, if_pos (by omega)]
      refine ⟨a, c, rfl, rfl, p, vs, z, _, rfl, rfl, ((s1.trans s2).keep _ _ e3 np).1, hx, ?_⟩
      exact kk.nx _ _ _ _ (S2.wr e1 e2 (RpAll.set (.int _) z.toNat ((r.same s1).same s2))) q2
    · exact h.elim
end
end Dl

set_option Elab.async false
set_option linter.all false
set_option maxRecDepth 100000
set_option maxHeartbeats 1000000
/-! Roots that are dicts: d[k], d[k] = v, k in d, d.get(k), d.get(k, x). -/
namespace Dl
open PySem PySem.Spec PyProof.Rows L2
variable [XP] [XE]
def valD (kvs : List (Key × D)) (k : Key) : Option D := (kvs.find? fun kv => decide (kv.1 = k)).map (·.2)
def putD (kvs : List (Key × D)) (k : Key) (d : D) : List (Key × D) :=
  if (kvs.any fun kv => decide (kv.1 = k)) = true then kvs.map (fun kv => if kv.1 = k then (kv.1, d) else kv) else kvs ++ [(k, d)]
def keyD : D → Option Key
  | .int i => some (.inl i)
  | .str x => some (.inr x)
  | _ => none
/-- the same keys, the values likewise -/
def KR (n : Sto) (H : Hp) (vks : List (Key × V)) (kvs : List (Key × D)) : Prop := vks.map Prod.fst = kvs.map Prod.fst ∧ RpAll n NoA H (vks.map Prod.snd) (kvs.map Prod.snd)
theorem KR.cons_inv {n : Sto} {H : Hp} {p : Key × V} {vks : List (Key × V)} {q : Key × D} {kvs : List (Key × D)} (h : KR n H (p :: vks) (q :: kvs)) : p.1 = q.1 ∧ Rp n NoA H p.2 q.2 ∧ KR n H vks kvs := by
  obtain ⟨h1, h2⟩ := h
  rw [List.map_cons, List.map_cons] at h1 h2
  obtain ⟨e1, e2⟩ := List.cons.inj h1
  cases h2 with
  | cons r t => exact ⟨e1, r, e2, t⟩
theorem KR.cons {n : Sto} {H : Hp} {k : Key} {v : V} {d : D} {vks : List (Key × V)} {kvs : List (Key × D)} (r : Rp n NoA H v d) (h : KR n H vks kvs) : KR n H ((k, v) :: vks) ((k, d) :: kvs) :=
  ⟨by rw [List.map_cons, List.map_cons, h.1], by rw [List.map_cons, List.map_cons]; exact .cons r h.2⟩
theorem KR.len {n : Sto} {H : Hp} {vks : List (Key × V)} {kvs : List (Key × D)} (h : KR n H vks kvs) : vks.length = kvs.length := by
  have := congrArg List.length h.1
  simpa using this
theorem KR.any {n : Sto} {H : Hp} {vks : List (Key × V)} {kvs : List (Key × D)} (h : KR n H vks kvs) (k : Key) : (vks.any fun kv => decide (kv.1 = k)) = kvs.any fun kv => decide (kv.1 = k) := by
  have e1 : (vks.any fun kv => decide (kv.1 = k)) = (vks.map Prod.fst).any fun x => decide (x = k) := by rw [List.any_map]; rfl
  have e2 : (kvs.any fun kv => decide (kv.1 = k)) = (kvs.map Prod.fst).any fun x => decide (x = k) := by rw [List.any_map]; rfl
  rw [e1, e2, h.1]
theorem KR.val {n : Sto} {H : Hp} : ∀ {vks : List (Key × V)} {kvs : List (Key × D)}, KR n H vks kvs → ∀ k : Key, (valD kvs k = none → valV vks k = none) ∧ ∀ d, valD kvs k = some d → ∃ v, valV vks k = some v ∧ Rp n NoA H v d
  | [], [], _, k => ⟨fun _ => rfl, fun d h => by cases h⟩
  | [], _ :: _, h, k => by have := h.1; cases this
  | _ :: _, [], h, k => by have := h.1; cases this
  | (k1, v) :: vks, (k2, d) :: kvs, h, k => by
    obtain ⟨e, r, t⟩ := h.cons_inv
    have e : k1 = k2 := e
    subst e
    obtain ⟨a1, a2⟩ := KR.val t k
    unfold valD valV at *
    rw [List.find?_cons, List.find?_cons]
    by_cases hk : k1 = k
    · rw [decide_eq_true hk]
      exact ⟨fun h => (by cases h), fun d' h => by cases h; exact ⟨v, rfl, r⟩⟩
    · rw [decide_eq_false hk]
      exact ⟨a1, a2⟩
theorem KR.repl {n : Sto} {H : Hp} {k : Key} {v : V} {d : D} (rv : Rp n NoA H v d) : ∀ {vks : List (Key × V)} {kvs : List (Key × D)}, KR n H vks kvs → KR n H (vks.map fun kv => if kv.1 = k then (kv.1, v) else kv) (kvs.map fun kv => if kv.1 = k then (kv.1, d) else kv)
  | [], [], h => h
  | [], _ :: _, h => by have := h.1; cases this
  | _ :: _, [], h => by have := h.1; cases this
  | (k1, v1) :: vks, (k2, d1) :: kvs, h => by
    obtain ⟨e, r, t⟩ := h.cons_inv
    have e : k1 = k2 := e
    subst e
    rw [List.map_cons, List.map_cons]
    by_cases hk : k1 = k
    · simp only [if_pos hk]
      exact .cons rv (KR.repl rv t)
    · simp only [if_neg hk]
      exact .cons r (KR.repl rv t)
theorem KR.app {n : Sto} {H : Hp} {k : Key} {v : V} {d : D} (rv : Rp n NoA H v d) {vks : List (Key × V)} {kvs : List (Key × D)} (h : KR n H vks kvs) : KR n H (vks ++ [(k, v)]) (kvs ++ [(k, d)]) :=
  ⟨by rw [List.map_append, List.map_append, h.1]; rfl, by rw [List.map_append, List.map_append]; exact h.2.append (.cons rv .nil)⟩
theorem KR.put {n : Sto} {H : Hp} {k : Key} {v : V} {d : D} (rv : Rp n NoA H v d) {vks : List (Key × V)} {kvs : List (Key × D)} (h : KR n H vks kvs) : KR n H (putK vks k v) (putD kvs k d) := by
  unfold putK putD
  rw [h.any k]
  split
  · exact h.repl rv
  · exact h.app rv
theorem KR.stay {n n' : Sto} {H H' : Hp} {vks : List (Key × V)} {kvs : List (Key × D)} (s : Stay n NoA H n' NoA H') (h : KR n H vks kvs) : KR n' H' vks kvs := ⟨h.1, RpAll.stay s _ _ h.2⟩
theorem SOk.dk {n : Sto} {H : Hp} {p : Addr} {kvs : List (Key × D)} (k : SOk n H) (e : n p = some (.dK kvs)) : ∃ vks, H p = some (.dK vks) ∧ KR n H vks kvs := by
  obtain ⟨vks, h1, h2, h3⟩ := k.ro p _ e
  exact ⟨vks, h1, h2, h3⟩
theorem SOk.putK {n : Sto} {H : Hp} {p : Addr} {ro : RO} {vks : List (Key × V)} {kvs : List (Key × D)} (k : SOk n H) (e : n p = some ro) (r : KR n H vks kvs) : SOk (updS n p (.dK kvs)) (upd H p (.dK vks)) :=
  k.put e ⟨vks, upd_same, r.1, RpAll.stay (put_stay e) _ _ r.2⟩
theorem SOk.addK {n : Sto} {H : Hp} {p : Addr} {vks : List (Key × V)} {kvs : List (Key × D)} (k : SOk n H) (hn : n p = none) (hp : H p = some (.dK vks)) (r : KR n H vks kvs) : SOk (updS n p (.dK kvs)) H :=
  k.add hn hp (fun _ _ z => nomatch z) nofun nofun nofun ⟨vks, hp, r.1, RpAll.stay (add_stay hp (fun _ _ z => nomatch z) nofun nofun fun _ z => z.elim) _ _ r.2⟩
theorem key_V {n : Sto} {A : Addr → Prop} {H : Hp} {v : V} {d : D} {k : Key} (r : Rp n A H v d) (e : keyD d = some k) : v = kV k := by
  cases d <;> simp only [keyD, Option.some.injEq, reduceCtorEq] at e
  · subst e; cases r; rfl
  · subst e; cases r; rfl
section
variable {X : Cx} {o i e f value : Expr} {pos pos' apos cpos : Pos} {td ty tv tx : DTE}
/-- d[k] -/
def tIxKD (td ty : DTE) : DTE := fun _ Δ n X Q => td .bor Δ n X fun x n1 => ty .bor Δ n1 X fun y n2 => ∃ p k kvs d, x = .loc p ∧ keyD y = some k ∧ n2 p = some (.dK kvs) ∧ valD kvs k = some d ∧ Q d n2
theorem d_ixK (hu : X.A.units + 1 < cLine) (ho : DE X o td) (hi : DE X i ty) (hs : NoSl i) : DE X (.Subscript o i pos) (tIxKD td ty) :=
  wkE (pe_dget hu ho hi hs) fun σ H Q ⟨n0, H0, nB, B, fr, av, n, Δ, m, Xd, Qd, S, bb, xk, h, k⟩ => lift_at .bor S bb xk h fun x H1 d n1 s1 S1 r1 q1 =>
    lift_at .bor S1 (bb.trans s1) (xk.step s1) q1 fun y H2 e n2 s2 S2 r2 q2 => by
      obtain ⟨p, k2, kvs, d', rfl, ek, e1, e2, q⟩ := q2
      cases r1
      obtain rfl := key_V r2 ek
      obtain ⟨vks, h1, kr⟩ := S2.pen.dk e1
      obtain ⟨v, e3, rv⟩ := (kr.val k2).2 _ e2
      exact ⟨p, v, rfl, by rw [← e3]; exact .k h1, k _ H2 _ n2 (s1.trans s2) S2.pen rv.ofNo q⟩
/-- d[k] = v -/
def tStKD (td ty tv : DTE) : DTS := fun Dd Δ n => tv .bor Δ n (Dd.xs Δ) fun d n1 => td .bor Δ n1 (Dd.xs Δ) fun x n2 => ty .bor Δ n2 (Dd.xs Δ) fun y n3 =>
  flat d = true ∧ ∃ p k kvs, x = .loc p ∧ keyD y = some k ∧ n3 p = some (.dK kvs) ∧ kvs.length < sizeLine ∧ Dd.nx Δ (updS n3 p (.dK (putD kvs k d)))
theorem ds_stK (hu : X.A.units + 1 < cLine) (ho : DE X o td) (hi : DE X i ty) (hv : DE X value tv) (hs : swapsWith value (some (.Subscript o i pos')) pos.line X.env = pure false := by rfl) : DS X (.Assign [.Subscript o i pos'] value pos) (tStKD td ty tv) :=
  wkS (ps_dput hu ho hi hv hs) fun E σ H ⟨n0, H0, fr, av, n, Δ, Dd, S, h, k⟩ => lift_at (B := H) .bor S (SameP.refl n H) (k.xk S) h fun v H1 d n1 s1 S1 r1 q1 =>
    lift_at (B := H1) .bor S1 (SameP.refl n1 H1) (k.xk S1) q1 fun x H2 d2 n2 s2 S2 r2 q2 => lift_at (B := H2) .bor S2 (SameP.refl n2 H2) (k.xk S2) q2 fun y H3 d3 n3 s3 S3 r3 q3 => by
      obtain ⟨fd, p, k2, kvs, rfl, ek, e1, hl, q⟩ := q3
      cases r2
      obtain rfl := key_V r3 ek
      obtain ⟨vks, h1, kr⟩ := S3.pen.dk e1
      have rv : Rp n3 NoA H3 v d := Rp.flat _ _ fd ((r1.same s2).same s3)
      exact ⟨p, _, rfl, .k h1 (by rw [kr.len]; exact hl), k.nx _ _ _ _ (S3.mono (put_same e1) (S3.pen.putK e1 (kr.put rv))) q⟩
/-- k in d, k not in d -/
def tInKD (neg : Bool) (ty td : DTE) : DTE := fun _ Δ n X Q => ty .bor Δ n X fun y n1 => td .bor Δ n1 X fun x n2 => ∃ p k kvs, x = .loc p ∧ keyD y = some k ∧ n2 p = some (.dK kvs) ∧ Q (.bl (if neg then !(valD kvs k).isSome else (valD kvs k).isSome)) n2
theorem KR.isSome {n : Sto} {H : Hp} {vks : List (Key × V)} {kvs : List (Key × D)} (h : KR n H vks kvs) (k : Key) : (valV vks k).isSome = (valD kvs k).isSome := by
  obtain ⟨a, b⟩ := h.val k
  cases e : valD kvs k with
  | none => rw [a e]; rfl
  | some d => obtain ⟨v, e2, _⟩ := b d e; rw [e2]; rfl
theorem lift_inK {neg : Bool} {σ : L2.St} {H : Hp} {Q : VK} (h : lift (tInKD neg ty td) σ H Q) : lift ty σ H fun y H1 => lift td σ H1 fun x H2 => ∃ a o, x = .ref a ∧ DGet H2 a y o ∧ Q (.bl (if neg then !o.isSome else o.isSome)) H2 := by
  obtain ⟨n0, H0, nB, B, fr, av, n, Δ, m, Xd, Qd, S, bb, xk, h, k⟩ := h
  refine lift_at .bor S bb xk h fun y H1 d n1 s1 S1 r1 q1 => lift_at .bor S1 (bb.trans s1) (xk.step s1) q1 fun x H2 e n2 s2 S2 r2 q2 => ?_
  obtain ⟨p, k2, kvs, rfl, ek, e1, q⟩ := q2
  cases r2
  obtain rfl := key_V r1 ek
  obtain ⟨vks, h1, kr⟩ := S2.pen.dk e1
  refine ⟨p, _, rfl, .k h1, ?_⟩
  rw [kr.isSome]
  exact k _ H2 _ n2 (s1.trans s2) S2.pen (.bl _) q
end
end Dl

set_option Elab.async false
set_option linter.all false
set_option maxRecDepth 100000
set_option maxHeartbeats 1000000
/-! Roots that are instances of an own class: attributes, methods, making one. -/
namespace Dl
open PySem PySem.Spec PyProof.Rows L2
variable [XP] [XE]
def putFD (f : Str) (d : D) : List (Str × D) → List (Str × D)
  | [] => [(f, d)]
  | (g, x) :: r => if g = f then (g, d) :: r else (g, x) :: putFD f d r
/-- the same attributes, the values likewise -/
def FR (n : Sto) (H : Hp) (vfs : List (Str × V)) (fs : List (Str × D)) : Prop := vfs.map Prod.fst = fs.map Prod.fst ∧ RpAll n NoA H (vfs.map Prod.snd) (fs.map Prod.snd)
theorem FR.cons_inv {n : Sto} {H : Hp} {p : Str × V} {vfs : List (Str × V)} {q : Str × D} {fs : List (Str × D)} (h : FR n H (p :: vfs) (q :: fs)) : p.1 = q.1 ∧ Rp n NoA H p.2 q.2 ∧ FR n H vfs fs := by
  obtain ⟨h1, h2⟩ := h
  rw [List.map_cons, List.map_cons] at h1 h2
  obtain ⟨e1, e2⟩ := List.cons.inj h1
  cases h2 with
  | cons r t => exact ⟨e1, r, e2, t⟩
theorem FR.cons {n : Sto} {H : Hp} {k : Str} {v : V} {d : D} {vfs : List (Str × V)} {fs : List (Str × D)} (r : Rp n NoA H v d) (h : FR n H vfs fs) : FR n H ((k, v) :: vfs) ((k, d) :: fs) :=
  ⟨by rw [List.map_cons, List.map_cons, h.1], by rw [List.map_cons, List.map_cons]; exact .cons r h.2⟩
theorem FR.nil {n : Sto} {H : Hp} : FR n H [] [] := ⟨rfl, .nil⟩
theorem FR.len {n : Sto} {H : Hp} {vfs : List (Str × V)} {fs : List (Str × D)} (h : FR n H vfs fs) : vfs.length = fs.length := by
  have := congrArg List.length h.1
  simpa using this
theorem FR.look {n : Sto} {H : Hp} : ∀ {vfs : List (Str × V)} {fs : List (Str × D)}, FR n H vfs fs → ∀ f : Str, (fs.lookup f = none → vfs.lookup f = none) ∧ ∀ d, fs.lookup f = some d → ∃ v, vfs.lookup f = some v ∧ Rp n NoA H v d
  | [], [], _, f => ⟨fun _ => rfl, fun d h => by cases h⟩
  | [], _ :: _, h, _ => by have := h.1; cases this
  | _ :: _, [], h, _ => by have := h.1; cases this
  | (k1, v) :: vfs, (k2, d) :: fs, h, f => by
    obtain ⟨e, r, t⟩ := h.cons_inv
    have e : k1 = k2 := e
    subst e
    obtain ⟨a1, a2⟩ := FR.look t f
    rw [List.lookup_cons, List.lookup_cons]
    cases hk : (f == k1) with
    | true => exact ⟨fun h => (by cases h), fun d' h => by cases h; exact ⟨v, rfl, r⟩⟩
    | false => exact ⟨a1, a2⟩
theorem FR.put {n : Sto} {H : Hp} {f : Str} {v : V} {d : D} (rv : Rp n NoA H v d) : ∀ {vfs : List (Str × V)} {fs : List (Str × D)}, FR n H vfs fs → FR n H (putF f v vfs) (putFD f d fs)
  | [], [], _ => .cons rv .nil
  | [], _ :: _, h => by have := h.1; cases this
  | _ :: _, [], h => by have := h.1; cases this
  | (k1, v1) :: vfs, (k2, d1) :: fs, h => by
    obtain ⟨e, r, t⟩ := h.cons_inv
    have e : k1 = k2 := e
    subst e
    unfold putF putFD
    by_cases hk : k1 = f
    · rw [if_pos hk, if_pos hk]; exact .cons rv t
    · rw [if_neg hk, if_neg hk]; exact .cons r (FR.put rv t)
theorem SOk.ins {n : Sto} {H : Hp} {p : Addr} {c : Str} {fs : List (Str × D)} (k : SOk n H) (e : n p = some (.ins c fs)) : ∃ C dx vfs, XP.mg c = some (.ref C) ∧ H p = some (.ins C dx vfs) ∧ H dx = some (.own p) ∧ n dx = none ∧ FR n H vfs fs := by
  obtain ⟨C, dx, vfs, h1, h2, h3, h4, h5, h6⟩ := k.ro p _ e
  exact ⟨C, dx, vfs, h1, h2, h3, h4, h5, h6⟩
theorem SOk.putI {n : Sto} {H : Hp} {p C dx : Addr} {c : Str} {ro : RO} {vfs wfs : List (Str × V)} {fs : List (Str × D)} (k : SOk n H) (e : n p = some ro) (hm : XP.mg c = some (.ref C)) (hp : H p = some (.ins C dx wfs)) (hd : H dx = some (.own p)) (nd : n dx = none) (r : FR n H vfs fs) :
    SOk (updS n p (.ins c fs)) (upd H p (.ins C dx vfs)) := by
  have ne : dx ≠ p := fun z => by rw [z, hp] at hd; cases hd
  exact k.put e ⟨C, dx, vfs, hm, upd_same, by rw [upd_ne ne]; exact hd, by rw [updS_ne ne]; exact nd, r.1, RpAll.stay (put_stay e) _ _ r.2⟩
/-- a class of instances, its attributes -/
structure InsC (K : PySem.W.Frag) (c : Str) (fl : List Str) : Prop where
  ex : ∃ C, XP.mg c = some (.ref C) ∧ Cls K C ∧ ∀ f ∈ fl, NoAttr K C f
/-- a method as its callers know it -/
structure MCal (P : Program) (w : World) (K : PySem.W.Frag) (mg : Str → Option Value) (base : Heap) (c m : Str) (k : Nat) (ps : List Str) (kws : List (List Str × List Nat)) (sp : Sp) : Prop where
  ex : ∃ (C f : Addr) (fd : FuncData), XP.mg c = some (.ref C) ∧ Cls K C ∧ Meth K C m f ∧ Binds K fd ps [] ∧ (∀ q ∈ kws, KwB K fd ps q.1 q.2) ∧ FnG P w K mg base (L2.CX P w) k f fd ps sp
section
variable {X : Cx} {o e value : Expr} {f c m : Str} {es : List Expr} {fl ps : List Str} {kws : List (List Str × List Nat)} {k : Nat} {sp : DSp} {pos pos' apos tpos : Pos} {to te tv : DTE} {ta : DTA}
/-- o.f -/
def tFldD (c f : Str) (to : DTE) : DTE := fun _ Δ n X Q => to .bor Δ n X fun x n1 => ∃ p fs d, x = .loc p ∧ n1 p = some (.ins c fs) ∧ fs.lookup f = some d ∧ Q d n1
theorem d_fld (T : InsC X.K c fl) (hf : f ∈ fl) (ho : DE X o to) (hb : attributeBase o f X.env (eval o X.env) = eval o X.env := by rfl) : DE X (.Attribute o f pos) (tFldD c f to) :=
  wkE (pe_fld ho hb) fun σ H Q ⟨n0, H0, nB, B, fr, av, n, Δ, m, Xd, Qd, S, bb, xk, h, k⟩ => lift_at .bor S bb xk h fun x H1 d n1 s1 S1 r1 q1 => by
    obtain ⟨p, fs, d', rfl, e1, e2, q⟩ := q1
    cases r1
    obtain ⟨C, dx, vfs, h1, h2, _, _, fr⟩ := S1.pen.ins e1
    obtain ⟨C', g1, g2, g3⟩ := T.ex
    rw [h1] at g1; cases g1
    obtain ⟨v, e3, rv⟩ := (fr.look f).2 _ e2
    exact ⟨p, C, dx, vfs, v, rfl, h2, g2, g3 f hf, e3, k _ H1 _ n1 s1 S1.pen rv.ofNo q⟩
/-- o.f = value -/
def tStFD (c f : Str) (to tv : DTE) : DTS := fun Dd Δ n => tv .bor Δ n (Dd.xs Δ) fun d n1 => to .bor Δ n1 (Dd.xs Δ) fun x n2 => flat d = true ∧ ∃ p fs, x = .loc p ∧ n2 p = some (.ins c fs) ∧ fs.length < 1000 ∧ Dd.nx Δ (updS n2 p (.ins c (putFD f d fs)))
theorem ds_stF (T : InsC X.K c fl) (hf : f ∈ fl) (ho : DE X o to) (hv : DE X value tv) (hs : swapsWith value (some (.Attribute o f pos')) pos.line X.env = pure false := by rfl) : DS X (.Assign [.Attribute o f pos'] value pos) (tStFD c f to tv) :=
  wkS (ps_fld ho hv hs) fun E σ H ⟨n0, H0, fr, av, n, Δ, Dd, S, h, k⟩ => lift_at (B := H) .bor S (SameP.refl n H) (k.xk S) h fun v H1 d n1 s1 S1 r1 q1 =>
    lift_at (B := H1) .bor S1 (SameP.refl n1 H1) (k.xk S1) q1 fun x H2 d2 n2 s2 S2 r2 q2 => by
      obtain ⟨fd, p, fs, rfl, e1, hl, q⟩ := q2
      cases r2
      obtain ⟨C, dx, vfs, h1, h2, h3, h4, fr⟩ := S2.pen.ins e1
      obtain ⟨C', g1, g2, g3⟩ := T.ex
      rw [h1] at g1; cases g1
      have rv : Rp n2 NoA H2 v d := Rp.flat _ _ fd (r1.same s2)
      exact ⟨p, C, dx, vfs, rfl, h2, g2, g3 f hf, by rw [fr.len]; exact hl, k.nx _ _ _ _ (S2.mono (put_same e1) (S2.pen.putI e1 h1 h2 h3 h4 (fr.put rv))) q⟩
/-- o.f += value, ints -/
def tAugFD (c f : Str) (to tv : DTE) : DTS := fun Dd Δ n => to .bor Δ n (Dd.xs Δ) fun x n1 => ∃ p fs i, x = .loc p ∧ n1 p = some (.ins c fs) ∧ fs.lookup f = some (.int i) ∧ tv .bor Δ n1 (Dd.xs Δ) fun y n2 => ∃ j gs, y = .int j ∧ n2 p = some (.ins c gs) ∧ gs.length < 1000 ∧ Dd.nx Δ (updS n2 p (.ins c (putFD f (.int (i + j)) gs)))
theorem ds_augF (T : InsC X.K c fl) (hf : f ∈ fl) (ho : DE X o to) (hv : DE X value tv) : DS X (.AugAssign (.Attribute o f tpos) .Add value pos) (tAugFD c f to tv) :=
  wkS (ps_fldaug ho hv in_add) fun E σ H ⟨n0, H0, fr, av, n, Δ, Dd, S, h, k⟩ => lift_at (B := H) .bor S (SameP.refl n H) (k.xk S) h fun x H1 d n1 s1 S1 r1 q1 => by
    obtain ⟨p, fs, i, rfl, e1, e2, q1⟩ := q1
    cases r1
    obtain ⟨C, dx, vfs, h1, h2, h3, h4, fr⟩ := S1.pen.ins e1
    obtain ⟨C', g1, g2, g3⟩ := T.ex
    rw [h1] at g1; cases g1
    obtain ⟨v, e3, rv⟩ := (fr.look f).2 _ e2
    cases rv
    refine ⟨p, C, dx, vfs, _, rfl, h2, g2, g3 f hf, e3, lift_at (B := H1) .bor S1 (SameP.refl n1 H1) (k.xk S1) q1 fun y H2 d2 n2 s2 S2 r2 q2 => ?_⟩
    obtain ⟨j, gs, rfl, e4, hl, q⟩ := q2
    cases r2
    obtain ⟨C2, dx2, vfs2, k1, k2, k3, k4, fr2⟩ := S2.pen.ins e4
    rw [h1] at k1; cases k1
    exact ⟨i, j, rfl, rfl, dx2, vfs2, k2, by rw [fr2.len]; exact hl, k.nx _ _ _ _ (S2.mono (put_same e4) (S2.pen.putI e4 h1 k2 k3 k4 (fr2.put (.int _)))) q⟩
/-- o.m(..) -/
def tMethD (c m : Str) (sp : DSp) (to : DTE) (ta : DTA) : DTE := fun _ Δ n X Q => to .bor Δ n X fun x n1 => ∃ p fs, x = .loc p ∧ n1 p = some (.ins c fs) ∧ fs.lookup m = none ∧ ta .bor Δ n1 X fun ds n2 => sp (.loc p :: ds) n2 X Q
theorem d_meth (M : MCal X.prog X.w X.K X.mg X.base c m k ps kws (liftF sp)) (hr : Room k X.A) (hgd : X.A.guards = some []) (tk : L2.Takes X XE.W) (ho : DE X o to) (ha : DA X (e :: es) ta)
    {pl : Sem Bool} (hst : starEach (e :: es) X.env = (false, eval e X.env) :: starEach es X.env := by rfl) (hpl : (backTo pos (starEach es X.env)).any (·.1) = false := by rfl)
    (ht : eval (.Call (.Attribute o m apos) (e :: es) [] pos) X.env = (do
      let ov ← eval o X.env
      standAt apos.atName
      let (f, first) ← holding [ov] (getMethod ov m pl)
      callWith pos f first (backTo pos (starEach (e :: es) X.env)) (backToKw pos (keywordEach [] X.env))) := by rfl) :
    DE X (.Call (.Attribute o m apos) (e :: es) [] pos) (tMethD c m sp to ta) := by
  obtain ⟨C, f, fd, g1, g2, g3, g4, _, F⟩ := M.ex
  refine wkE (pe_methG ho g2 g3 F hr hgd g4 .nil (.of tk) ha hst hpl ht) fun σ H Q ⟨n0, H0, nB, B, fr, av, n, Δ, m, Xd, Qd, S, bb, xk, h, kk⟩ => lift_at .bor S bb xk h fun x H1 d n1 s1 S1 r1 q1 => ?_
  obtain ⟨p, fs, rfl, e1, e2, q⟩ := q1
  cases r1
  obtain ⟨C', dx, vfs, h1, h2, _, _, fr⟩ := S1.pen.ins e1
  rw [g1] at h1; cases h1
  refine ⟨p, dx, vfs, rfl, h2, (fr.look _).1 e2, liftA_at .bor S1 (bb.trans s1) (xk.step s1) q fun vs H2 ds n2 s2 S2 r2 q2 => ?_⟩
  rw [List.append_nil]
  exact call_end bb xk (s1.trans s2) S2 (.cons (.loc p) r2) q2 kk
theorem d_meth0 (M : MCal X.prog X.w X.K X.mg X.base c m k ps kws (liftF sp)) (hr : Room k X.A) (hgd : X.A.guards = some []) (tk : L2.Takes X XE.W) (ho : DE X o to)
    {pl : Sem Bool} (ht : eval (.Call (.Attribute o m apos) [] [] pos) X.env = (do
      let ov ← eval o X.env
      standAt apos.atName
      let (f, first) ← holding [ov] (getMethod ov m pl)
      callWith pos f first (backTo pos (starEach [] X.env)) (backToKw pos (keywordEach [] X.env))) := by rfl) :
    DE X (.Call (.Attribute o m apos) [] [] pos) (tMethD c m sp to tNilD) := by
  obtain ⟨C, f, fd, g1, g2, g3, g4, _, F⟩ := M.ex
  refine wkE (pe_methG0 ho g2 g3 F hr hgd g4 .nil (.of tk) ht) fun σ H Q ⟨n0, H0, nB, B, fr, av, n, Δ, m, Xd, Qd, S, bb, xk, h, kk⟩ => lift_at .bor S bb xk h fun x H1 d n1 s1 S1 r1 q1 => ?_
  obtain ⟨p, fs, rfl, e1, e2, q⟩ := q1
  cases r1
  obtain ⟨C', dx, vfs, h1, h2, _, _, fr⟩ := S1.pen.ins e1
  rw [g1] at h1; cases h1
  exact ⟨p, dx, vfs, rfl, h2, (fr.look _).1 e2, call_end (A := fun _ => True) bb xk s1 S1 (.cons (.loc p) .nil) q kk⟩
end
end Dl

set_option Elab.async false
set_option linter.all false
set_option maxRecDepth 100000
set_option maxHeartbeats 1000000
/-! A method called by keywords; an instance made by keywords; len of an instance by its own __len__. -/
namespace Dl
open PySem PySem.Spec PyProof.Rows L2
variable [XP] [XE]
section
variable {X : Cx} {o e value : Expr} {f c m x : Str} {es : List Expr} {fl ps ks : List Str} {kw : List (List Str × List Nat)} {pr : List Nat} {kws : List Keyword} {k : Nat} {sp : DSp} {p pos pos' apos tpos : Pos} {to te tv : DTE} {ta tk : DTA}
/-- o.m(k = v, ..) -/
def tMethKD (c m : Str) (sp : DSp) (pr : List Nat) (to : DTE) (tk : DTA) : DTE := fun _ Δ n X Q => to .bor Δ n X fun x n1 => ∃ p fs, x = .loc p ∧ n1 p = some (.ins c fs) ∧ fs.lookup m = none ∧ tk .bor Δ n1 X fun es n2 => es.length = pr.length ∧ sp ([.loc p] ++ pr.filterMap fun i => es[i]?) n2 X Q
theorem d_methK0 (pr : List Nat) (ks : List Str) (hq : (ks, pr) ∈ kw) (M : MCal X.prog X.w X.K X.mg X.base c m k ps kw (liftF sp)) (hr : Room k X.A) (hgd : X.A.guards = some []) (tkx : L2.Takes X XE.W) (ho : DE X o to) (hkw : DKw X kws tk)
    {pl : Sem Bool} (hall : (backToKw pos (keywordEach kws X.env)).all (·.1.isSome) = true := by rfl) (hks : (backToKw pos (keywordEach kws X.env)).filterMap (·.1) = ks := by rfl)
    (hpl : (backToKw pos (keywordEach kws X.env)).any (·.1.isNone) = false := by rfl)
    (ht : eval (.Call (.Attribute o m apos) [] kws pos) X.env = (do
      let ov ← eval o X.env
      standAt apos.atName
      let (f, first) ← holding [ov] (getMethod ov m pl)
      callWith pos f first (backTo pos (starEach [] X.env)) (backToKw pos (keywordEach kws X.env))) := by rfl) :
    DE X (.Call (.Attribute o m apos) [] kws pos) (tMethKD c m sp pr to tk) := by
  obtain ⟨C, f, fd, g1, g2, g3, g4, g5, F⟩ := M.ex
  refine ⟨fun pins s σ H Q I ⟨n0, H0, nB, B, fr, av, n, Δ, md, Xd, Qd, S, bb, xk, h, kk⟩ => ?_⟩
  refine PySem.W.methodCall_KW (pl := pl) (thn (PE.run ho pins s σ H _ I (lift_at (Q := fun x H1 => ∃ (a dx : Addr) (fs : List (Str × V)), x = .ref a ∧ H1 a = some (.ins C dx fs) ∧ fs.lookup m = none ∧ liftA tk σ H1 fun zs H2 => zs.length = pr.length ∧ liftF sp ([V.ref a] ++ pr.filterMap fun i => zs[i]?) H2 Q fun cls d H' => XE.W cls d σ H') .bor S bb xk h fun x H1 d n1 s1 S1 r1 q1 => ?_)) fun u s1 ⟨x, H1, I1, rx, a, dx, fs, ex, ea, l, q⟩ => ?_) ht
  · obtain ⟨p, fs, rfl, e1, e2, q⟩ := q1
    cases r1
    obtain ⟨C', dx, vfs, h1, h2, _, _, fr⟩ := S1.pen.ins e1
    rw [g1] at h1; cases h1
    refine ⟨p, dx, vfs, rfl, h2, (fr.look _).1 e2, liftA_at .bor S1 (bb.trans s1) (xk.step s1) q fun zs H2 es n2 s2 S2 r2 q2 => ⟨by rw [r2.length]; exact q2.1, ?_⟩⟩
    exact call_end bb xk (s1.trans s2) S2 (RpAll.append (.cons (.loc p) .nil) (kw_reps r2 pr)) q2.2 kk
  · subst ex
    obtain rfl : u = Value.ref a := rx
    refine getmeth_ok I1 ea g2 g3 l ?_
    refine PySem.W.callWith_KW0 (h₀ := X.base) (first := [.ref a]) I1.ok.mod.kin g3.kp hall (thn (PK.run hkw pos pins s1 σ H1 _ I1 q) fun ws s2 ⟨zs, H2, I2, rz, q2⟩ => ⟨I2.kIn, ?_⟩) hpl
    rw [hks]
    exact run_kw (us := [.ref a]) (vs := [.ref a]) F hr hgd tkx (g5 _ hq) I2 (.cons rfl .nil) rz q2.1 q2.2
end
/-! ### making -/
/-- a class as those know it who make its instances -/
structure NCal (P : Program) (w : World) (K : PySem.W.Frag) (mg : Str → Option Value) (base : Heap) (c : Str) (k : Nat) (ps : List Str) (kws : List (List Str × List Nat)) (sp : Sp) : Prop where
  ex : ∃ (C f : Addr) (fd : FuncData), mg c = some (.ref C) ∧ XP.mg c = some (.ref C) ∧ Mk K C f ∧ Binds K fd ps [] ∧ (∀ q ∈ kws, KwB K fd ps q.1 q.2) ∧ FnG P w K mg base (L2.CX P w) k f fd ps sp
theorem under_guards {A : Around} {C : Addr} {us : List Value} {kw : List (Str × Value)} (h : A.guards = some []) : (A.under (.builtin "type.__call__" ⟨.ref C :: us, kw⟩)).guards = some [] := by
  have g : (Code.builtin "type.__call__" ⟨.ref C :: us, kw⟩).isGuard = false := by unfold Code.isGuard; first | rfl | decide
  simp [Around.under, Code.guards, pushGuards, h, g]
section
variable {X : Cx} {k : Nat} {f C : Addr} {fd : FuncData} {ps ks : List Str} {sp : Sp} {pr : List Nat}
theorem run_makeG {pins : List (Addr × Obj)} {σ : L2.St} {H : Hp} {s : Shared} {Q : VK} {us : List Value} {kw : List (Str × Value)} {all : List Value} {vs : List V} (M : Mk X.K C f) (F : FnG X.prog X.w X.K X.mg X.base (L2.CX X.prog X.w) k f fd ps sp) (hr : Room (k + 1) X.A) (hgd : X.A.guards = some [])
    (tk : L2.Takes X XE.W) (I : Inv X pins σ H s) (hb : ∀ (s' : Shared) (a : Addr), X.K.In s'.heap → BindsTo s' fd ⟨.ref a :: us, kw⟩ (ps.zip (.ref a :: all))) (r : Vals vs all)
    (h : ∀ x dx, H x = none → H dx = none → dx ≠ x → sp (.ref x :: vs) (upd (upd H dx (.own x)) x (.ins C dx [])) (fun v H2 => v = .non ∧ Q (.ref x) H2) fun cls d H' => XE.W cls d σ H') :
    wpAny (model X.prog X.w) X.A (call (.ref C) us kw) (EP X pins σ Q) X.xe s := by
  have hq := h (s.heap.objs.size + 1) s.heap.objs.size (I.hok.fresh (Nat.le_succ _)) (I.hok.fresh (Nat.le_refl _)) (Nat.ne_of_lt (Nat.lt_succ_self _))
  have I2 := Inv.made (C := C) I
  refine wpAny_call (make_map (f := f) I.kIn M.makes M.init (beq_iff_eq.mp M.fn) (codeAny_mono (F.go _ X.stack _ _ ⟨Value.ref (s.heap.objs.size + 1) :: us, kw⟩ (Value.ref (s.heap.objs.size + 1) :: all) _ _ _ (hr.make C us kw) (under_guards hgd)
    (I2.env0.make C us kw) (hb _ _ I2.kIn) (show Vals (V.ref (s.heap.objs.size + 1) :: vs) _ from .cons rfl r) hq) fun r s' hq' => ?_))
  cases r with
  | error e => exact PsAt.of tk pins σ _ _ e s' I2 hq'
  | ok fl =>
    cases fl with
    | ret u =>
      obtain ⟨v, H', I3, rv, ev, q3⟩ := I2.after hq'
      subst ev
      exact ⟨rv, ⟨V.ref (s.heap.objs.size + 1), H', I3, rfl, q3⟩⟩
    | next => exact False.elim hq'
    | brk => exact False.elim hq'
    | cont => exact False.elim hq'
end
theorem made_same {n : Sto} {H : Hp} {x dx C : Addr} {c : Str} (hx : H x = none) (hd : H dx = none) : SameP n H (updS n x (.ins c [])) (upd (upd H dx (.own x)) x (.ins C dx [])) where
  keep := fun a o e r _ => by
    have n1 : a ≠ x := ne_of_none e hx
    have n2 : a ≠ dx := ne_of_none e hd
    exact ⟨by rw [upd_ne n1, upd_ne n2]; exact e, by rw [updS_ne n1]; exact r⟩
  root := fun a r => by
    by_cases z : a = x
    · rw [z, updS_same] at r; cases r
    · rw [updS_ne z] at r; exact r
theorem SOk.made {n : Sto} {H : Hp} {x dx C : Addr} {c : Str} (k : SOk n H) (hm : XP.mg c = some (.ref C)) (hx : H x = none) (hd : H dx = none) (ne : dx ≠ x) : SOk (updS n x (.ins c [])) (upd (upd H dx (.own x)) x (.ins C dx [])) := by
  have s1 : Same H (upd H dx (.own x)) := same_new hd
  have hx2 : upd H dx (.own x) x = none := by rw [upd_ne (Ne.symm ne)]; exact hx
  have k2 := (k.same s1).same (same_new (o := .ins C dx []) hx2)
  refine k2.add (k.fresh x hx) upd_same (fun _ _ z => nomatch z) nofun nofun nofun ⟨C, dx, [], hm, upd_same, ?_, ?_, rfl, .nil⟩
  · rw [upd_ne ne, upd_same]
  · rw [updS_ne ne]; exact k.fresh dx hd
section
variable {X : Cx} {c : Str} {ps ks : List Str} {kw : List (List Str × List Nat)} {pr : List Nat} {kws : List Keyword} {k : Nat} {sp : DSp} {p pos : Pos} {tk : DTA}
/-- C(k = v, ..) -/
def tMakeKD (c : Str) (sp : DSp) (pr : List Nat) (tk : DTA) : DTE := fun _ Δ n X Q => tk .bor Δ n X fun es n1 => es.length = pr.length ∧ ∀ a, n1 a = none → sp (.loc a :: pr.filterMap fun i => es[i]?) (updS n1 a (.ins c [])) X fun d n2 => d = .non ∧ Q (.loc a) n2
theorem d_makeK (pr : List Nat) (ks : List Str) (hq : (ks, pr) ∈ kw) (M : NCal X.prog X.w X.K X.mg X.base c k ps kw (liftF sp)) (hr : Room (k + 1) X.A) (hgd : X.A.guards = some []) (tkx : L2.Takes X XE.W) (hkw : DKw X kws tk) (hg : Gl X c := by rfl)
    (hall : (backToKw pos (keywordEach kws X.env)).all (·.1.isSome) = true := by rfl) (hks : (backToKw pos (keywordEach kws X.env)).filterMap (·.1) = ks := by rfl)
    (hdb : (c == ("__debug__" : Str)) = false := by decide) (hpl : (backToKw pos (keywordEach kws X.env)).any (·.1.isNone) = false := by rfl) :
    DE X (.Call (.Name c p) [] kws pos) (tMakeKD c sp pr tk) := by
  obtain ⟨C, f, fd, g1, g2, g3, g4, g5, F⟩ := M.ex
  refine ⟨fun pins s σ H Q I ⟨n0, H0, nB, B, fr, av, n, Δ, md, Xd, Qd, S, bb, xk, h, kk⟩ => ?_⟩
  refine wpAny_Call_Name_kw (ld_glob I hg g1 ?_ hdb)
  refine PySem.W.callWith_KW0 (h₀ := X.base) (first := []) I.ok.mod.kin g3.kp hall (thn (PK.run hkw pos pins s σ H _ I (liftA_at (Q := fun zs H2 => zs.length = pr.length ∧ ∀ x dx, H2 x = none → H2 dx = none → dx ≠ x →
    liftF sp (V.ref x :: pr.filterMap fun i => zs[i]?) (upd (upd H2 dx (.own x)) x (.ins C dx [])) (fun v H3 => v = .non ∧ Q (.ref x) H3) fun cls d H' => XE.W cls d σ H') .bor S bb xk h fun zs H2 es n2 s2 S2 r2 q2 => ⟨by rw [r2.length]; exact q2.1, fun x dx hx hd ne => ?_⟩)) fun ws s2 ⟨zs, H2, I2, rz, q2⟩ => ⟨I2.kIn, ?_⟩) hpl
  · have sm := made_same (n := n2) (C := C) (c := c) hx hd
    have S3 := S2.mono sm (S2.pen.made g2 hx hd ne)
    exact call_end (m := md) (Q := fun v H3 => v = .non ∧ Q (.ref x) H3) (Qd := fun d n2 => d = .non ∧ Qd (.loc x) n2) bb xk (s2.trans sm) S3 (.cons (.loc x) ((kw_reps r2 pr).same sm)) (q2.2 x (S2.neP hx)) fun v H' d n' s p r q => by
      obtain ⟨rfl, q⟩ := q
      cases r
      exact ⟨rfl, kk (.ref x) H' (.loc x) n' s p (.loc x) q⟩
  · rw [hks]
    have hw : ws.length = ks.length := by rw [← rz.length, q2.1, (g5 _ hq).len]
    refine run_makeG g3 F hr hgd tkx I2 (fun s' a hK => ?_) (kw_vals rz pr) q2.2
    have hl := F.len _ _ _ _ (q2.2 (s2.heap.objs.size + 1) s2.heap.objs.size (I2.hok.fresh (Nat.le_succ _)) (I2.hok.fresh (Nat.le_refl _)) (Nat.ne_of_lt (Nat.lt_succ_self _)))
    refine (g5 _ hq).to s' [.ref a] ws hK ?_ hw
    rw [← hl]
    have full : ∀ l : List Nat, (∀ i ∈ l, i < zs.length) → (l.filterMap fun i => zs[i]?).length = l.length := by
      intro l
      induction l with
      | nil => intro _; rfl
      | cons i l ih =>
        intro hlt
        have e : zs[i]? = some (zs[i]'(hlt i (List.mem_cons_self ..))) := List.getElem?_eq_getElem _
        rw [List.filterMap_cons_some e, List.length_cons, ih fun j hj => hlt j (List.mem_cons_of_mem _ hj), List.length_cons]
    have e1 : pr.length = ks.length := (g5 _ hq).len
    have key := full pr fun i hi => by
      have : i < ks.length := (g5 _ hq).lt i hi
      rw [q2.1, e1]; exact this
    simp only [List.length_cons, List.length_nil]
    omega
end
end Dl

set_option Elab.async false
set_option linter.all false
set_option maxRecDepth 100000
set_option maxHeartbeats 1000000
/-! len of an instance by its own __len__. -/
namespace Dl
open PySem PySem.Spec PyProof.Rows L2
section
variable {M : Model} {K : PySem.W.Frag} {A : Around} {E : Value → Shared → Prop} {s : Shared}
theorem cspec_fn {self : Value} {f : Addr} {name : PySem.Str} {args : List Value} {Q : Option Value → Shared → Prop} (X : K.In s.heap) (sp : PySem.W.Looks M s.heap (specialOf self name) (some (.ref f))) (hf : PySem.W.isFn K (.ref f) = true)
    (hc : wpAny M A (call (.ref f) (self :: args)) (fun v => Q (some v)) E s) : wpAny M A (callSpecial? self name args) Q E s := by
  have tf : PySem.W.Looks M s.heap (typeOf (.ref f)) (.type "function") := PySem.W.looks_typeIn X (beq_iff_eq.mp hf)
  simp only [callSpecial?]
  refine wpAny_bind (sp.here ?_)
  refine wpAny_holding ?_
  unfold bindSpecial
  refine wpAny_bind (wpAny_bind (tf.here ?_))
  exact wpAny_pure (wpAny_bind (wpAny_mono hc (fun v s' h' => wpAny_pure h') fun _ _ h' => h'))
end
section
variable {X : Cx} {k : Nat} {f C : Addr} {fd : FuncData} {sp : Sp} {ps : List Str}
theorem call_lenO (hs : PySem.W.findIn X.K (.ref C) "__len__" = some (some (.ref f))) (hf : PySem.W.isFn X.K (.ref f) = true) (hb : Binds X.K fd ps []) (F : FnG X.prog X.w X.K X.mg X.base CX0 k f fd ps sp) (hr : Room (k + 1) X.A) (hgd : X.A.guards = some []) :
    CallR X (.builtin "len") (fun xs H Q => ∃ a dx fs, xs = [.ref a] ∧ H a = some (.ins C dx fs) ∧ sp [.ref a] H (fun v H1 => ∃ i : Int, v = .int i ∧ 0 ≤ i ∧ i < 2 ^ 62 ∧ Q (.int i) H1) fun _ _ _ => False) := by
  intro pins s σ H xs us Q I r h
  obtain ⟨a, dx, fs, rfl, ea, h⟩ := h
  obtain ⟨u, rfl, ru⟩ := vals1 r
  obtain rfl : u = Value.ref a := ru
  obtain ⟨mA, O, _⟩ := ins_get I.hok ea
  obtain ⟨od, J, _⟩ := O.look
  have spl : PySem.W.Looks (model X.prog X.w) s.heap (specialOf (.ref a) "__len__") (some (.ref f)) := J.type.andThen (PySem.W.looks_findIn I.kIn hs)
  refine Calls.call_function_entry kind_len plain_len entry_len (args_len1 _) ?_
  unfold Builtin.«len»
  refine wpAny_bind (m := oneArg "len" _) (wpAny_pure ?_)
  have nargs := F.len _ _ _ _ h
  refine wpAny_bind (m := callSpecial? (.ref a) (PySem.Str.ofString "__len__")) (cspec_fn I.kIn spl hf (wpAny_call (codeAny_mono (F.go X.A.in1 X.stack s H ⟨[.ref a], []⟩ [.ref a] [V.ref a] _ _ hr.in1 (by exact hgd) I.env0.in1 (by
    have := hb s [.ref a] I.kIn (by simpa using nargs)
    simpa using this) (.cons rfl .nil) h) fun res s' z => ?_)))
  cases res with
  | error e => exact z.elim
  | ok fl =>
    cases fl with
    | next => exact False.elim z
    | brk => exact False.elim z
    | cont => exact False.elim z
    | ret w =>
      obtain ⟨v, H', I', rv, i, ev, i0, i1, q⟩ := I.after z
      subst ev
      obtain ⟨t, rfl⟩ := rv
      refine wpAny_bind (wpAny_holding (wpAny_pure ?_))
      refine wpAny_bind (wpAny_letGo ?_)
      show wpAny _ _ (if i < 0 then _ else _) _ _ _
      rw [if_neg (by omega)]
      show wpAny _ _ (if i ≥ 2 ^ 63 then _ else _) _ _ _
      rw [if_neg (by omega)]
      exact wpAny_bind (wpAny_mkInt (wpAny_pure ⟨_, rfl, .int i, H', I'.tok _, ⟨_, rfl⟩, q⟩))
end
end Dl

set_option Elab.async false
set_option linter.all false
set_option maxRecDepth 100000
set_option maxHeartbeats 1000000
/-! [.. for x in xs if ..], xs a root; len of an instance over data. -/
namespace Dl
open PySem PySem.Spec PyProof.Rows L2
variable [XP] [XE]
/-- as lcW, and the root at p stays what it was -/
def lcWR (p : Addr) (all : List D) (i : Nat) (tt : DTT) (te : DTE) (m : Md) (Δ : DEnv) (Q : D → Sto → Prop) : List D → List D → Sto → Prop
  | [], acc, n => n p = some (.lst all) ∧ Q (.lst acc) n
  | d :: ds, acc, n => n p = some (.lst all) ∧ tt (Δ.set i (some (.frz d))) n noX fun b n1 => if b = true then te m (Δ.set i (some (.frz d))) n1 noX fun y n2 => acc.length < sizeLine ∧ lcWR p all i tt te m Δ Q ds (acc ++ [y]) n2 else lcWR p all i tt te m Δ Q ds acc n1
theorem lcWR.at {p : Addr} {all : List D} {i : Nat} {tt : DTT} {te : DTE} {m : Md} {Δ : DEnv} {Q : D → Sto → Prop} : ∀ {ds acc : List D} {n : Sto}, lcWR p all i tt te m Δ Q ds acc n → n p = some (.lst all)
  | [], _, _, h => h.1
  | _ :: _, _, _, h => h.1
def tLcRD (to : DTE) (i : Nat) (tt : DTT) (te : DTE) : DTE := fun m Δ n X Q => (match Δ[i]? with | some (some (.own _)) => False | _ => True) ∧ to .bor Δ n X fun x n1 => ∃ p ds, x = .loc p ∧ n1 p = some (.lst ds) ∧ lcWR p ds i tt te m Δ Q ds [] n1
theorem lift_lcR {K : PySem.W.Frag} {to : DTE} {i : Nat} {tt : DTT} {te : DTE} {σ : L2.St} {H : Hp} {Q : VK} (h : lift (tLcRD to i tt te) σ H Q) : tLc (iList K (lift to)) (gName i) (@liftT _ noXE tt) (@lift _ noXE te) [i] σ H Q := by
  obtain ⟨n0, H0, nB, B, fr, av, n, Δ, m, Xd, Qd, S, bb, xk, ⟨hno, h⟩, k⟩ := h
  refine lift_at (Q := fun x H1 => ∃ a, x = .ref a ∧ (∃ xs, SqL K H1 a xs) ∧ _) .bor S bb xk h fun x H1 d n1 s1 S1 r1 q => ?_
  obtain ⟨a, all, rfl, ea, q⟩ := q
  cases r1
  obtain ⟨vs0, ha0, _⟩ := S1.pen.lst ea
  refine ⟨a, rfl, ⟨vs0, SqL.of ha0⟩, fun Db hD => ?_⟩
  have bP : n1 Db = none := S1.neP hD
  have b0 : NewS H0 Db := S1.old hD
  have S2 : StR n0 H0 fr (Db :: av) n1 σ Δ (upd H1 Db (.lst [])) := S1.addav hD
  refine ⟨fun j mm H2 => mm = all.length - j ∧ j ≤ all.length ∧ ∃ vacc acc n2, H2 Db = some (.lst vacc) ∧ RpAll n2 (Al m B H0 (Db :: av) σ Δ) H2 vacc acc ∧ SameP n1 H1 n2 H2 ∧ StR n0 H0 fr (Db :: av) n2 σ Δ H2 ∧
    lcWR a all i tt te m Δ Qd (all.drop j) acc n2, ⟨all.length, by simp, Nat.zero_le _, [], [], n1, upd_same, .nil, SameP.new hD, S2, by rw [List.drop_zero]; exact q⟩, ?_⟩
  rintro j mm H2 ⟨rfl, hj, vacc, acc, n2, hacc, racc, s2, S2, q2⟩
  have bP2 : n2 Db = none := (S2.avn Db (List.mem_cons_self ..)).1
  obtain ⟨vs, ha, rvs⟩ := S2.pen.lst q2.at
  by_cases hlt : j < all.length
  · have e1 : all[j]? = some all[j] := List.getElem?_eq_getElem hlt
    rw [List.drop_eq_getElem_cons hlt] at q2
    obtain ⟨v, ev, rv⟩ := rvs.get e1
    refine .inr ⟨⟨vs, v, SqL.of ha, ev⟩, fun H' => ∃ vacc acc n2, H' Db = some (.lst vacc) ∧ RpAll n2 (Al m B H0 (Db :: av) σ Δ) H' vacc acc ∧ SameP n1 H1 n2 H' ∧ StR n0 H0 fr (Db :: av) n2 σ Δ H' ∧
      lcWR a all i tt te m Δ Qd (all.drop (j + 1)) acc n2, fun H' ⟨va, ac, nn, z⟩ => ⟨all.length - (j + 1), by omega, rfl, hlt, va, ac, nn, z⟩, fun x H3 y => ?_⟩
    obtain ⟨rfl, y⟩ := y
    have ex := y _ (SqL.of ha)
    rw [ev] at ex
    cases ex
    show wipe ((wipe σ [i]).set i (some v)) [i] = wipe σ [i] ∧ @liftT _ noXE tt ((wipe σ [i]).set i (some v)) H3 _
    have es : (wipe σ [i]).set i (some v) = σ.set i (some v) := by show (σ.set i none).set i (some v) = _; rw [List.set_set]
    rw [es]
    refine ⟨by show (σ.set i (some v)).set i none = σ.set i none; rw [List.set_set], ?_⟩
    have S3' := S2.setF i (rv.ofNo : Rp n2 (NO (Db :: av) σ Δ) H3 v all[j])
    have b3 : SameP nB B n2 H3 := (bb.trans s1).trans s2
    letI : XE := noXE
    refine liftT_at S3' .no q2.2 fun b H4 n4 s4 S4 q4 => ?_
    have back : ∀ {H5 : Hp} {n5 : Sto}, SameP n2 H3 n5 H5 → SOk n5 H5 → StR n0 H0 fr (Db :: av) n5 σ Δ H5 := fun s p => S2.mono s p
    cases b with
    | false => exact ⟨vacc, acc, n4, (s4.keep _ _ hacc bP2).1, racc.same s4, s2.trans s4, back s4 S4.pen, q4⟩
    | true =>
      refine lift_at m S4 (b3.trans s4) .no q4 fun v H5 d n5 s5 S5 r5 q5 => ?_
      have s45 := s4.trans s5
      obtain ⟨h5, bP5⟩ := s45.keep _ _ hacc bP2
      have racc5 : RpAll n5 (Al m B H0 (Db :: av) σ Δ) H5 vacc acc := racc.same s45
      refine ⟨vacc, h5, by rw [racc.length]; exact q5.1, vacc ++ [v], acc ++ [d], n5, upd_same, ?_, ?_, (back s45 S5.pen).wrav h5 b0, q5.2⟩
      · refine RpAll.stay (stay_av (fun a z => (al_cons z).2) h5) _ _ (racc5.append (.cons ?_ .nil))
        exact r5.imp fun a _ _ z => al_unset hno z
      · exact wr_same (s2.trans s45) (.of hD) h5
  · have e : j = all.length := by omega
    subst e
    rw [List.drop_length] at q2
    exact .inl ⟨⟨vs, SqL.of ha, by rw [rvs.length]; exact Nat.le_refl _⟩, k _ _ _ n2 (s1.trans s2) S2.pen (.lst hacc bP2 (Al.new S1 (bb.trans s1) m hD) (racc.imp fun a _ _ z => (al_cons z).1)) q2.2⟩
section
variable {X : Cx}
theorem d_lcR {elt tg iter : Expr} {ifs : List Expr} {scope : Scope} {i : Nat} {x : Str} {pos : Pos} {to : DTE} {tt : DTT} {te : DTE} (hc : X.calm = true) (hN : X.N.Nodup) (hi : DE X iter to) (ok : BlkOk X.N X.env.scope scope [(x, i)])
    (hg : ∀ (s : Shared) (H : Hp) (C : Addr) (cl : List (Str × Addr)) (fp : List Addr), PG (X.blk s H scope (compEnvC scope cl C X.env) fp) tg (gName i)) (ht : ∀ (s : Shared) (H : Hp) (C : Addr) (cl : List (Str × Addr)) (fp : List Addr), PTs (X.blk s H scope (compEnvC scope cl C X.env) fp) ifs (@liftT _ noXE tt))
    (he : ∀ (s : Shared) (H : Hp) (C : Addr) (cl : List (Str × Addr)) (fp : List Addr), PE (X.blk s H scope (compEnvC scope cl C X.env) fp) elt (@lift _ noXE te)) (hs : ∀ x, foldedSetIterable iter X.env x = pure x := by intro _; rfl) :
    DE X (.ListComp elt [⟨tg, iter, ifs, 0⟩] scope pos) (tLcRD to i tt te) :=
  wkE (pe_lc (own := [(x, i)]) hc hN (pi_list hi) ok hg ht he hs) fun σ H Q h => lift_lcR h
/-! len(o) -/
def tLenID (c : Str) (sp : DSp) (to : DTE) : DTE := fun _ Δ n X Q => to .bor Δ n X fun x n1 => ∃ p fs, x = .loc p ∧ n1 p = some (.ins c fs) ∧ sp [.loc p] n1 noX fun d n2 => ∃ i : Int, d = .int i ∧ 0 ≤ i ∧ i < 2 ^ 62 ∧ Q (.int i) n2
theorem d_lenI {c : Str} {k : Nat} {ps : List Str} {kws : List (List Str × List Nat)} {sp : DSp} {o : Expr} {to : DTE} {p pos : Pos} (M : MCal X.prog X.w X.K X.mg X.base c "__len__" k ps kws (liftF sp)) (hr : Room (k + 1) X.A) (hgd : X.A.guards = some []) (hm : X.mg "len" = none) (ho : DE X o to) (hg : Gl X "len" := by rfl)
    (hst : starEach [o] X.env = (false, eval o X.env) :: starEach [] X.env := by rfl) (hpl : (backTo pos (starEach [] X.env)).any (·.1) = false := by rfl) :
    DE X (.Call (.Name "len" p) [o] [] pos) (tLenID c sp to) := by
  obtain ⟨C, f, fd, g1, g2, g3, g4, _, F⟩ := M.ex
  refine wkE (pe_callB (call_lenO g3.at_ g3.fn g4 F.noX hr hgd) hg hm PySem.boot_len (pa_cons ho pa_nil hst) (by decide) (by decide) hst hpl) fun σ H Q ⟨n0, H0, nB, B, fr, av, n, Δ, m, Xd, Qd, S, bb, xk, h, kk⟩ => lift_at .bor S bb xk h fun x H1 d n1 s1 S1 r1 q1 => ?_
  obtain ⟨p, fs, rfl, e1, q⟩ := q1
  cases r1
  obtain ⟨C', dx, vfs, h1, h2, _, _, fr⟩ := S1.pen.ins e1
  rw [g1] at h1; cases h1
  refine ⟨p, dx, vfs, rfl, h2, ?_⟩
  refine ⟨n1, [.loc p], noX, _, S1.pen, .cons (.loc p) .nil, q, fun v H' d n' s pk r q => ?_, fun _ _ _ _ _ _ _ _ z => z.elim⟩
  obtain ⟨i, rfl, i0, i1, q⟩ := q
  cases r
  exact ⟨i, rfl, i0, i1, kk (.int i) H' (.int i) n' (s1.trans s) pk (.int i) q⟩
end
end Dl

set_option Elab.async false
set_option linter.all false
set_option maxRecDepth 100000
set_option maxHeartbeats 1000000
/-! isinstance of an exception and a built-in class; {k: v, l: w}.get(y, z). -/
namespace Dl
open PySem PySem.Spec PyProof.Rows L2
variable [XP] [XE]
abbrev SubsT := List (Str × String × Bool)
def SubsTOk (K : PySem.W.Frag) (s : SubsT) : Prop := ∀ t ∈ s, ∃ C, XP.mg t.1 = some (.ref C) ∧ ExcC K C ∧ PySem.W.kitOne K (.ref C) (.type t.2.1) = some t.2.2
def subTOf (s : SubsT) (c : Str) (T : String) : Option Bool := (s.find? fun t => decide (t.1 = c) && decide (t.2.1 = T)).map (·.2.2)
omit [XP] [XE] in
theorem subTOf_mem {s : SubsT} {c : Str} {T : String} {b : Bool} (h : subTOf s c T = some b) : (c, T, b) ∈ s := by
  unfold subTOf at h
  cases e : s.find? fun t => decide (t.1 = c) && decide (t.2.1 = T) with
  | none => rw [e] at h; cases h
  | some t =>
    rw [e] at h
    cases h
    have h1 := List.find?_some e
    have h2 := List.mem_of_find?_eq_some e
    simp only [Bool.and_eq_true, decide_eq_true_eq] at h1
    obtain ⟨rfl, rfl⟩ := h1
    exact h2
def drIsXV (s : Subs) (st : SubsT) : DRn := fun ds Q => match ds with
  | [x, .opq (.ty T)] => ∃ c b, excN x = some c ∧ subTOf st c T = some b ∧ Q (.bl b)
  | ds => drIsX s ds Q
theorem sn_isXV {K : PySem.W.Frag} {s : Subs} {st : SubsT} (k : SubsOk K s) (kt : SubsTOk K st) : SndN (fun xs H Q => rIsX K xs H Q ∨ rIsXT K xs H Q) (drIsXV s st) := fun n A B H xs ds Q Qd p0 nA r h kk => by
  unfold drIsXV at h
  split at h
  · rename_i x T
    obtain ⟨c, b, e1, e2, q⟩ := h
    match r with
    | .cons r0 (.cons r1 .nil) =>
      cases r1
      obtain ⟨a, C, d, rfl, g1, g2, g3⟩ := r0.excE e1
      obtain ⟨C', h1, h2, h3⟩ := kt _ (subTOf_mem e2)
      rw [g1] at h1; cases h1
      exact .inl ⟨a, C, d, _, _, b, rfl, g2, g3, h2, fun u hu => hu, h3, kk _ H _ (Same.refl H) (.bl b) q⟩
  · exact sn_isX k n A B H xs _ Q Qd p0 nA r h kk
/-! the get of a display -/
def tDispG2D (k1 : Str) (t1 : DTE) (k2 : Str) (t2 : DTE) (ty tx : DTE) : DTE := fun _ Δ n X Q => t1 .bor Δ n X fun d1 n1 => t2 .bor Δ n1 X fun d2 n2 => flat d1 = true ∧ flat d2 = true ∧ ty .bor Δ n2 X fun y n3 => ∃ k : Str, y = .str k ∧ tx .bor Δ n3 X fun z n4 =>
  flat (if k = k1 then d1 else if k = k2 then d2 else z) = true ∧ Q (if k = k1 then d1 else if k = k2 then d2 else z) n4
omit [XP] [XE] in
theorem merge2 {k1 k2 : Str} (hk : k1 ≠ k2) (v1 v2 : V) : mergeK [] [(Sum.inr k1, v1), (Sum.inr k2, v2)] = [((Sum.inr k1 : Key), v1), (Sum.inr k2, v2)] := by
  have hne : ¬ ((Sum.inr k1 : Key) = Sum.inr k2) := fun z => hk (Sum.inr.inj z)
  show putK (putK [] (Sum.inr k1) v1) (Sum.inr k2) v2 = _
  rw [show putK ([] : List (Key × V)) (Sum.inr k1) v1 = [(Sum.inr k1, v1)] from rfl]
  unfold putK
  rw [if_neg (by simp [hne])]; rfl
omit [XP] [XE] in
theorem val2 {k1 k2 k : Str} (v1 v2 z : V) : ((valV [((Sum.inr k1 : Key), v1), (Sum.inr k2, v2)] (Sum.inr k)).getD z) = if k = k1 then v1 else if k = k2 then v2 else z := by
  by_cases h1 : k = k1
  · subst h1
    rw [valV_pos rfl, if_pos rfl]; rfl
  · rw [valV_neg (fun e => h1 (Sum.inr.inj e).symm), if_neg h1]
    by_cases h2 : k = k2
    · subst h2
      rw [valV_pos rfl, if_pos rfl]; rfl
    · rw [valV_neg (fun e => h2 (Sum.inr.inj e).symm), if_neg h2, valV_nil]; rfl
theorem stay_dk {n : Sto} {H : Hp} {p : Addr} {kvs : List (Key × V)} {o : HO} (h4 : H p = some (.dK kvs)) : Stay n NoA H n NoA (upd H p o) :=
  ⟨fun b xs q z => ⟨q.upd (q.ne h4 fun _ _ z => nomatch z), z⟩, fun b o q z f => f.elim, fun b c d q z => ⟨by rw [upd_ne (ne_of q h4 (fun z => by have z' : HO.ext _ = HO.dK _ := z; cases z'))]; exact q, z⟩, fun b fs q z => ⟨by rw [upd_ne (ne_of q h4 (by intro z; cases z))]; exact q, z⟩⟩
theorem SOk.wrK {n : Sto} {H : Hp} {p : Addr} {kvs : List (Key × V)} {o : HO} (k : SOk n H) (h4 : H p = some (.dK kvs)) (r : n p = none) : SOk n (upd H p o) := ⟨tabs_wrO h4 (by intro _ z; cases z) (by intro c q z; unfold LamX.CodeO at z; cases z) k.tab, fun a ro e => by
  have hap : a ≠ p := fun z => by rw [z, r] at e; cases e
  exact (k.ro a ro e).stay (stay_dk h4) (fun o q => by rw [upd_ne hap]; exact q) fun dx q z => ⟨by rw [upd_ne (ne_of q h4 (by intro z; cases z))]; exact q, z⟩⟩
section
variable {X : Cx} {e1 e2 ey ex : Expr} {k1 k2 : Str} {j1 j2 : Option Unit} {pos dpos c1 c2 apos : Pos} {t1 t2 ty tx : DTE}
theorem d_dispG2 {kk1 kk2} (hk : k1 ≠ k2) (hu : X.A.units + 1 < cLine) (h1 : DE X e1 t1) (h2 : DE X e2 t2) (hy : DE X ey ty) (hx : DE X ex tx)
    (m : M2 X (.Dict [some (.Constant (.str k1) kk1 c1), some (.Constant (.str k2) kk2 c2)] [e1, e2] dpos) "get" apos ey ex pos) :
    DE X (.Call (.Attribute (.Dict [some (.Constant (.str k1) kk1 c1), some (.Constant (.str k2) kk2 c2)] [e1, e2] dpos) "get" apos) [ey, ex] [] pos) (tDispG2D k1 t1 k2 t2 ty tx) :=
  wkE (pe_dget2 hu (pe_disp (pps_cons pe_str h1 (pps_cons pe_str h2 pps_nil)) rfl rfl (by simp) (by show 2 ≤ 15; decide)) hy hx m) fun σ H Q ⟨n0, H0, nB, B, fr, av, n, Δ, md, Xd, Qd, S, bb, xk, h, k⟩ => by
    intro p hp
    have sp := SameP.new (n := n) (o := HO.dK []) hp
    have Sp := S.mono sp (S.pen.same (same_new hp))
    have np : n p = none := S.neP hp
    show lift t1 σ (upd H p (.dK [])) _
    refine lift_at .bor Sp (bb.trans sp) (xk.step sp) h fun v1 H1 d1 n1 s1 S1 r1 q1 => ?_
    show lift t2 σ H1 _
    refine lift_at .bor S1 ((bb.trans sp).trans s1) ((xk.step sp).step s1) q1 fun v2 H2 d2 n2 s2 S2 r2 q2 => ?_
    have hp2 := ((s1.trans s2).keep p _ upd_same np)
    obtain ⟨f1, f2, q2⟩ := q2
    refine ⟨hp2.1, [(Sum.inr k1, v1), (Sum.inr k2, v2)], rfl, by show 2 ≤ 15; decide, ?_⟩
    rw [merge2 hk]
    refine ⟨p, rfl, .inl ⟨_, .inl upd_same⟩, ?_⟩
    -- the dict is nobody's
    have s03 : SameP n H n2 (upd H2 p (.dK [(Sum.inr k1, v1), (Sum.inr k2, v2)])) := by
      have s02 := (sp.trans s1).trans s2
      refine ⟨fun a o e r nt => ?_, s02.root⟩
      have ne : a ≠ p := ne_of_none e hp
      have := s02.keep a o e r nt
      exact ⟨by rw [upd_ne ne]; exact this.1, this.2⟩
    have S3 := S.mono s03 (S2.pen.wrK hp2.1 hp2.2)
    have w1 : Rp n2 NoA (upd H2 p (.dK [(Sum.inr k1, v1), (Sum.inr k2, v2)])) v1 d1 := Rp.stay (stay_dk hp2.1) _ _ ((Rp.flat (A' := NoA) _ _ f1 r1).same s2)
    have w2 : Rp n2 NoA (upd H2 p (.dK [(Sum.inr k1, v1), (Sum.inr k2, v2)])) v2 d2 := Rp.stay (stay_dk hp2.1) _ _ (Rp.flat (A' := NoA) _ _ f2 r2)
    refine lift_at .bor S3 (bb.trans s03) (xk.step s03) q2 fun y H4 dy n4 s4 S4 r4 q4 => ?_
    obtain ⟨kk, rfl, q4⟩ := q4
    cases r4
    refine lift_at .bor S4 ((bb.trans s03).trans s4) ((xk.step s03).step s4) q4 fun z H5 dz n5 s5 S5 r5 q5 => ?_
    have hp5 := (s4.trans s5).keep p _ upd_same hp2.2
    refine ⟨_, .k (k := Sum.inr kk) hp5.1, ?_⟩
    rw [val2]
    refine k _ H5 _ n5 ((s03.trans s4).trans s5) S5.pen (Rp.flat (A := fun _ => True) _ _ q5.1 ?_) q5.2
    · split
      · exact ((w1.same s4).same s5).imp fun _ _ _ _ => trivial
      · split
        · exact ((w2.same s4).same s5).imp fun _ _ _ _ => trivial
        · exact r5.imp fun _ _ _ _ => trivial
end
end Dl

set_option Elab.async false
set_option linter.all false
set_option maxRecDepth 100000
set_option maxHeartbeats 1000000
/-! Plain helpers for readings: figures, lines, houses as texts. -/
namespace Lw
open PySem PySem.Spec PyProof.Rows L2 Dl
abbrev numT (i : Int) : Str := ((toString i : String) : Str)
def wordsT (w : Str) (ns : List Int) : Str := ns.foldl (fun acc k => acc ++ Str.ofString " " ++ numT k) w
def lineT (w : Str) (ns : List Int) : Str := wordsT w ns ++ Str.ofString "\n"
theorem words_join : ∀ (ns : List Int) (w : Str), wordsT w ns = Str.join (Str.ofString " ") (w :: ns.map numT)
  | [], w => rfl
  | k :: ns, w => by
    show wordsT (w ++ Str.ofString " " ++ numT k) ns = _
    rw [words_join ns, StrLaws.join_shift]
    rfl
theorem num_len_all : ∀ n : Fin 100, (numT (n.val : Int)).length ≤ 2 := by decide +kernel
theorem num_len {i : Int} (h : 0 ≤ i ∧ i < 100) : (numT i).length ≤ 2 := by
  have := num_len_all ⟨i.toNat, by omega⟩
  have e : ((i.toNat : Nat) : Int) = i := Int.toNat_of_nonneg h.1
  simp only [e] at this
  exact this
theorem sp_len : (Str.ofString " ").length = 1 := by decide +kernel
theorem nl_len : (Str.ofString "\n").length = 1 := by decide +kernel
theorem words_len : ∀ (ns : List Int) (w : Str), small ns → (wordsT w ns).length ≤ w.length + 3 * ns.length
  | [], w, _ => by show w.length ≤ _; simp
  | k :: ns, w, h => by
    have ih := words_len ns (w ++ Str.ofString " " ++ numT k) fun n hn => h n (List.mem_cons_of_mem _ hn)
    have := num_len (h k (List.mem_cons_self ..))
    show (wordsT (w ++ Str.ofString " " ++ numT k) ns).length ≤ _
    rw [Str.length_append, Str.length_append, sp_len] at ih
    rw [List.length_cons]
    omega
theorem line_len (ns : List Int) (w : Str) (h : small ns) : (lineT w ns).length ≤ w.length + 3 * ns.length + 1 := by
  unfold lineT
  rw [Str.length_append, nl_len]
  have := words_len ns w h
  omega
theorem log_small {i : Int} (h : 0 ≤ i ∧ i < 100) : i.natAbs.log2 < 1920 := by
  have : i.natAbs.log2 ≤ i.natAbs := Nat.log2_le_self _
  omega
theorem num_sum : ∀ ns : List Int, small ns → ((ns.map numT).map (·.length)).sum ≤ 2 * ns.length
  | [], _ => by simp
  | k :: ns, h => by
    have ih := num_sum ns fun n hn => h n (List.mem_cons_of_mem _ hn)
    have := num_len (h k (List.mem_cons_self ..))
    simp only [List.map_cons, List.sum_cons, List.length_cons]
    omega
def isSeq (d : D) (ns : List Int) : Prop := d = .lst (ns.map D.int) ∨ d = .tup (ns.map D.int)
def strD : D → D
  | .int i => .str (numT i)
  | _ => .non
theorem map_strD (ns : List Int) : (ns.map D.int).map strD = (ns.map numT).map D.str := by
  rw [List.map_map, List.map_map]; rfl
theorem small100 {n : Nat} (h : n ≤ 100000) : n ≤ sizeLine := Nat.le_trans h (by decide)
theorem flat_strs (ns : List Str) : flatAll (ns.map D.str) = true := flatAll_map (fun _ => rfl) ns
/-- [str(k) for k in ks] -/
theorem lc_strs {i : Nat} {m : Md} {Δ : DEnv} {ns : List Int} {n : Sto} {Q : D → Sto → Prop} (hs : small ns) (hl : ns.length ≤ 100) (hj : ∀ d, (Δ.set i (some (.frz d)))[i]? = some (some (.frz d)))
    (h : Q (.lst ((ns.map numT).map D.str)) n) : lcW i tYesD (tCallN drStrI (tConsD (tVarD i) tNilD)) m Δ Q (ns.map D.int) [] n := by
  refine lcW_map strD rfl _ [] n (by simp; exact small100 (by omega)) (fun d hd n' Q' q => ?_) (by rw [List.nil_append, map_strD]; exact h)
  obtain ⟨k, hk, rfl⟩ := List.mem_map.mp hd
  show tVarD i .bor _ n' noX _
  unfold tVarD
  rw [hj]
  exact ⟨log_small (hs k hk), q⟩
structure okH (h : Hs) : Prop where
  len : h.length ≤ 100
  rows : ∀ r ∈ h, r.length ≤ 100 ∧ small r
def houseT (h : Hs) : Str := h.foldl (fun acc r => acc ++ lineT (Str.ofString "room") r) Str.empty
theorem room_len : (Str.ofString "room").length = 4 := by decide +kernel
theorem empty_len : (Str.ofString "").length = 0 := by decide +kernel
theorem ofs_empty : Str.ofString "" = Str.empty := by decide +kernel
theorem join_empty : ∀ (xs : List Str) (x : Str), Str.join (Str.ofString "") (x :: xs) = xs.foldl (fun acc p => acc ++ p) x
  | [], _ => rfl
  | y :: xs, x => by
    have h := join_empty xs (x ++ y)
    rw [List.foldl_cons, ← h]
    have e : x ++ y = x ++ Str.ofString "" ++ y := by rw [ofs_empty, Str.append_empty]
    rw [e, StrLaws.join_shift]
    rfl
theorem house_join (h : Hs) : Str.join (Str.ofString "") (h.map (lineT (Str.ofString "room"))) = houseT h := by
  cases h with
  | nil => rfl
  | cons r h =>
    rw [List.map_cons, join_empty, List.foldl_map]
    unfold houseT
    rw [List.foldl_cons, Str.empty_append]
theorem house_len : ∀ (h : Hs) (acc : Str), (∀ r ∈ h, r.length ≤ 100 ∧ small r) → (h.foldl (fun acc r => acc ++ lineT (Str.ofString "room") r) acc).length ≤ acc.length + 305 * h.length
  | [], acc, _ => by simp
  | r :: h, acc, ok => by
    have ih := house_len h (acc ++ lineT (Str.ofString "room") r) fun r' hr => ok r' (List.mem_cons_of_mem _ hr)
    obtain ⟨h1, h2⟩ := ok r (List.mem_cons_self ..)
    have := line_len r (Str.ofString "room") h2
    rw [Str.length_append] at ih
    rw [room_len] at this
    rw [List.foldl_cons, List.length_cons]
    omega
theorem lines_sum : ∀ h : Hs, (∀ r ∈ h, r.length ≤ 100 ∧ small r) → ((h.map (lineT (Str.ofString "room"))).map (·.length)).sum ≤ 305 * h.length
  | [], _ => by simp
  | r :: h, ok => by
    have ih := lines_sum h fun r' hr => ok r' (List.mem_cons_of_mem _ hr)
    obtain ⟨h1, h2⟩ := ok r (List.mem_cons_self ..)
    have := line_len r (Str.ofString "room") h2
    rw [room_len] at this
    simp only [List.map_cons, List.sum_cons, List.length_cons]
    omega
theorem flat_encIs (h : Hs) : flatAll (h.map encI) = true := flatAll_map flat_encI h
def standT (b : List Int) (a : Int) : Str := lineT (Str.ofString "beads") b ++ lineT (Str.ofString "at") [a]
theorem beads_len : (Str.ofString "beads").length = 5 := by decide +kernel
theorem at_len : (Str.ofString "at").length = 2 := by decide +kernel
theorem small_one {a : Int} (h0 : 0 ≤ a) (h1 : a < 100) : small [a] := fun n hn => by
  rw [List.mem_singleton] at hn; subst hn; exact ⟨h0, h1⟩
theorem stand_len {b : List Int} {a : Int} (hl : b.length ≤ 100) (hs : small b) (h0 : 0 ≤ a) (h1 : a < 100) : (lineT (Str.ofString "beads") b).length + (lineT (Str.ofString "at") [a]).length ≤ 400 := by
  have e1 := line_len b (Str.ofString "beads") hs
  have e2 := line_len [a] (Str.ofString "at") (small_one h0 h1)
  rw [beads_len] at e1
  rw [at_len] at e2
  simp only [List.length_singleton] at e2
  omega
def endsT (ns : List Int) : Str := if ns = [] then Str.ofString "-" else Str.join (Str.ofString " ") (ns.map numT)
theorem num_pos_all : ∀ n : Fin 100, 1 ≤ (numT (n.val : Int)).length := by decide +kernel
theorem num_pos {i : Int} (h : 0 ≤ i ∧ i < 100) : 1 ≤ (numT i).length := by
  have := num_pos_all ⟨i.toNat, by omega⟩
  have e : ((i.toNat : Nat) : Int) = i := Int.toNat_of_nonneg h.1
  simp only [e] at this
  exact this
theorem words_ge : ∀ (ns : List Int) (w : Str), w.length ≤ (wordsT w ns).length
  | [], w => Nat.le_refl _
  | k :: ns, w => by
    have ih := words_ge ns (w ++ Str.ofString " " ++ numT k)
    show w.length ≤ (wordsT (w ++ Str.ofString " " ++ numT k) ns).length
    rw [Str.length_append, Str.length_append] at ih
    omega
theorem join_words (k : Int) (ns : List Int) : Str.join (Str.ofString " ") ((k :: ns).map numT) = wordsT (numT k) ns := (words_join ns (numT k)).symm
/-! ### texts cut up again -/
theorem num_all : ∀ n : Fin 40, 32 ∉ TL.tl (numT (n.val : Int)) ∧ 10 ∉ TL.tl (numT (n.val : Int)) ∧ ((numT (n.val : Int)).cps.toList.all fun c => decide (c ∈ (Str.ofString "0123456789").cps.toList)) = true ∧ PySem.intText? (numT (n.val : Int)) = some (n.val : Int) := by decide +kernel
def ends40 (ns : List Int) : Prop := ∀ k ∈ ns, 0 ≤ k ∧ k < 40
theorem ends40.small {ns : List Int} (h : ends40 ns) : small ns := fun k hk => ⟨(h k hk).1, by have := (h k hk).2; omega⟩
theorem num40 {k : Int} (h : 0 ≤ k ∧ k < 40) : 32 ∉ TL.tl (numT k) ∧ 10 ∉ TL.tl (numT k) ∧ ((numT k).cps.toList.all fun c => decide (c ∈ (Str.ofString "0123456789").cps.toList)) = true ∧ PySem.intText? (numT k) = some k := by
  have := num_all ⟨k.toNat, by omega⟩
  have e : ((k.toNat : Nat) : Int) = k := Int.toNat_of_nonneg h.1
  simp only [e] at this
  exact this
theorem room_tl : 32 ∉ TL.tl (Str.ofString "room") ∧ 10 ∉ TL.tl (Str.ofString "room") := by decide +kernel
theorem sp_tl : TL.tl (Str.ofString " ") = [32] := by decide +kernel
theorem nl_tl : TL.tl (Str.ofString "\n") = [10] := by decide +kernel
theorem split_words {ns : List Int} (h : ends40 ns) : Txt.split (wordsT (Str.ofString "room") ns) (Str.ofString " ") = Str.ofString "room" :: ns.map numT := by
  have e : wordsT (Str.ofString "room") ns = Txt.join (Str.ofString " ") (Str.ofString "room" :: ns.map numT) := by rw [TL.join_eq, words_join]
  rw [e]
  refine TL.split_join sp_tl (by decide +kernel) (by simp) fun p hp => ?_
  rcases List.mem_cons.mp hp with rfl | hp
  · exact room_tl.1
  · obtain ⟨k, hk, rfl⟩ := List.mem_map.mp hp
    exact (num40 (h k hk)).1
theorem words_nl : ∀ (ns : List Int) (w : Str), ends40 ns → 10 ∉ TL.tl w → 10 ∉ TL.tl (wordsT w ns)
  | [], w, _, hw => hw
  | k :: ns, w, h, hw => by
    refine words_nl ns (w ++ Str.ofString " " ++ numT k) (fun n hn => h n (List.mem_cons_of_mem _ hn)) ?_
    rw [TL.tl_append, TL.tl_append, sp_tl]
    have := (num40 (h k (List.mem_cons_self ..))).2.1
    simp [hw, this]
theorem house_acc : ∀ (h : Hs) (acc : Str), h.foldl (fun acc r => acc ++ lineT (Str.ofString "room") r) acc = acc ++ houseT h
  | [], acc => by show acc = acc ++ Str.empty; rw [Str.append_empty]
  | r :: h, acc => by
    show h.foldl _ (acc ++ lineT (Str.ofString "room") r) = acc ++ h.foldl _ (Str.empty ++ lineT (Str.ofString "room") r)
    rw [house_acc h, house_acc h, Str.empty_append, Str.append_assoc]
theorem house_cons (r : List Int) (h : Hs) : houseT (r :: h) = lineT (Str.ofString "room") r ++ houseT h := by
  show h.foldl _ (Str.empty ++ lineT (Str.ofString "room") r) = _
  rw [house_acc, Str.empty_append]
def linesT (h : Hs) : List Str := h.map (wordsT (Str.ofString "room"))
theorem join_cons (y p q : Str) (r : List Str) : Str.join y (p :: q :: r) = p ++ y ++ Str.join y (q :: r) := rfl
theorem house_lines : ∀ h : Hs, houseT h = Str.join (Str.ofString "\n") (linesT h ++ [Str.ofString ""])
  | [] => by show Str.empty = Str.ofString ""; rw [ofs_empty]
  | r :: h => by
    have ih := house_lines h
    rw [house_cons, ih]
    cases h with
    | nil => exact (join_cons _ _ _ []).symm
    | cons q h => exact (join_cons _ _ _ _).symm
theorem lines_nl {h : Hs} (ok : ∀ r ∈ h, ends40 r) : ∀ p ∈ linesT h ++ [Str.ofString ""], 10 ∉ TL.tl p := fun p hp => by
  rcases List.mem_append.mp hp with hp | hp
  · obtain ⟨r, hr, rfl⟩ := List.mem_map.mp hp
    exact words_nl r _ (ok r hr) room_tl.2
  · rw [List.mem_singleton] at hp
    subst hp
    rw [ofs_empty]
    decide
theorem split_lines {h : Hs} (ok : ∀ r ∈ h, ends40 r) : Txt.split (houseT h) (Str.ofString "\n") = linesT h ++ [Str.ofString ""] := by
  rw [house_lines, ← TL.join_eq]
  exact TL.split_join nl_tl (by decide +kernel) (by simp) (lines_nl ok)
theorem chain_yes {b : Bool} {F G : Prop} (hb : b = true) (h : F) : (match D.bl b with | .bl true => F | .bl false => G | _ => False) := by subst hb; exact h
theorem chain_no {b : Bool} {F G : Prop} (hb : b = false) (h : G) : (match D.bl b with | .bl true => F | .bl false => G | _ => False) := by subst hb; exact h
theorem ifF {c : Bool} {a b : Prop} (hc : c = false) (hb : b) : if c = true then a else b := by subst hc; exact hb
theorem ifT {c : Bool} {a b : Prop} (hc : c = true) (ha : a) : if c = true then a else b := by subst hc; exact ha
theorem signs_len (x : Str) : (signsD x).length = x.length := by unfold signsD; rw [List.length_map]; rfl
theorem flat_signs (x : Str) : flatAll (signsD x) = true := flatAll_map (fun _ => rfl) _
def EndsOf (xs : List Int) (w : Nat) : Prop := xs.Perm ((List.range (2 * w)).map fun (k : Nat) => (k : Int))
theorem EndsOf.len {xs : List Int} {w : Nat} (h : EndsOf xs w) : xs.length = 2 * w := by
  have := h.length_eq
  rw [List.length_map, List.length_range] at this
  exact this
theorem EndsOf.mem {xs : List Int} {w : Nat} (h : EndsOf xs w) {x : Int} (hx : x ∈ xs) : 0 ≤ x ∧ x < 2 * w := by
  obtain ⟨k, hk, rfl⟩ := List.mem_map.mp (h.mem_iff.mp hx)
  rw [List.mem_range] at hk
  omega
theorem EndsOf.nodup {xs : List Int} {w : Nat} (h : EndsOf xs w) : xs.Nodup := by
  refine h.nodup_iff.mpr ?_
  refine List.Pairwise.map _ (fun a b hab => ?_) List.nodup_range
  intro e
  exact hab (by omega)
structure Good (g : Hs) : Prop where
  r1 : 1 ≤ g.length
  r2 : g.length ≤ 10
  ends : ∃ w, EndsOf g.flatten w ∧ 1 ≤ w ∧ w ≤ 20
theorem Good.row {g : Hs} (h : Good g) {r : List Int} (hr : r ∈ g) : r.length ≤ 40 ∧ ends40 r := by
  obtain ⟨w, he, w1, w2⟩ := h.ends
  have e2 := (List.sublist_flatten_of_mem hr).length_le
  have hl := he.len
  refine ⟨by omega, fun x hx => ?_⟩
  have := he.mem (List.mem_flatten.mpr ⟨r, hr, hx⟩)
  omega
theorem Good.ok {g : Hs} (h : Good g) : okH g := ⟨by have := h.r2; omega, fun r hr => ⟨by have := (h.row hr).1; omega, (h.row hr).2.small⟩⟩
theorem val_yes {b : Bool} {F G : Prop} (hb : b = true) (h : F) : (match D.bl b with | .bl true => F | .bl false => G | _ => False) := by subst hb; exact h
theorem all_const {α : Type} (xs : List α) : (xs.map fun _ => true).all id = true := by
  rw [List.all_map, List.all_eq_true]; exact fun _ _ => rfl
def pairsF (ps : List (Int × Int)) : List Int := ps.flatMap fun p => [p.1, p.2]
structure IsSt (wires : Nat) (b : List Int) (a : Int) : Prop where
  pairs : ∃ ps : List (Int × Int), b = pairsF ps ∧ ps.length = wires ∧ ∀ p ∈ ps, 0 ≤ p.1 ∧ 0 ≤ p.2 ∧ 1 ≤ p.1 + p.2 ∧ p.1 + p.2 ≤ 9
  a0 : 0 ≤ a
  a1 : a < 2 * wires
  at' : ∃ x, b[a.toNat]? = some x ∧ 0 < x
theorem pairsF_len : ∀ ps : List (Int × Int), (pairsF ps).length = 2 * ps.length
  | [] => rfl
  | p :: ps => by
    have := pairsF_len ps
    unfold pairsF at this ⊢
    rw [List.flatMap_cons, List.length_append, this, List.length_cons]
    simp only [List.length_cons, List.length_nil]
    omega
theorem pairsF_app (ps qs : List (Int × Int)) : pairsF (ps ++ qs) = pairsF ps ++ pairsF qs := List.flatMap_append
theorem pairsF_mem {ps : List (Int × Int)} {x : Int} (h : x ∈ pairsF ps) : ∃ p ∈ ps, x = p.1 ∨ x = p.2 := by
  unfold pairsF at h
  obtain ⟨p, hp, hx⟩ := List.mem_flatMap.mp h
  exact ⟨p, hp, by simpa using hx⟩
theorem cut_tail (x : Str) (xs : List Str) : cutL ((x :: xs).map D.str) (some 1) none = xs.map D.str := by
  unfold cutL
  have e1 : HT.sIx ((x :: xs).map D.str).length 0 (some 1) = 1 := by
    rw [show HT.sIx ((x :: xs).map D.str).length 0 (some 1) = min 1 ((x :: xs).map D.str).length from HT.sIx_nat _ _ 1, List.length_map, List.length_cons]
    omega
  rw [e1, HT.sIx_none, List.length_map, List.length_cons, List.map_cons, List.drop_one, List.tail_cons]
  rw [show xs.length + 1 - 1 = (xs.map D.str).length by rw [List.length_map]; omega, List.take_length]
theorem eqv_ints : ∀ a b : List Int, PyData.eqvAll (toPys (a.map D.int)) (toPys (b.map D.int)) = decide (a = b)
  | [], [] => by simp [toPys, PyData.eqvAll]
  | [], y :: b => by simp [toPys, PyData.eqvAll]
  | x :: a, [] => by simp [toPys, PyData.eqvAll]
  | x :: a, y :: b => by
    have ih := eqv_ints a b
    simp only [List.map_cons, toPys, toPy, PyData.eqvAll, PyData.eqv, ih]
    rw [Bool.eq_iff_iff]
    simp
theorem eqv_lst (a b : List Int) : PyData.eqv (toPy (.lst (a.map D.int))) (toPy (.lst (b.map D.int))) = decide (a = b) := by
  have := eqv_ints a b
  simp only [toPy, PyData.eqv, this]
theorem shp_lst {xs : List Int} (h : ∀ x ∈ xs, 0 ≤ x ∧ x < 1000) : shp (.lst (xs.map D.int)) :=
  shp_of (k := 2) (by simp only [tm]; exact tms_map fun x hx => tm_int (by have := h x hx; omega)) (by decide)
theorem shp_lst_any {n : Nat} : ∀ (_ : Unit), n ≤ 100000 → shp (.lst ((rangeI n).map D.int)) := fun _ hn => shp_of (k := 2) (by simp only [tm]; exact tms_map fun x hx => tm_int (by have := mem_rangeI.mp hx; omega)) (by decide)
theorem in_strs (a : Str) (xs : List Str) : inD (.str a) (xs.map D.str) = decide (a ∈ xs) := by
  unfold inD
  rw [List.any_map, Bool.eq_iff_iff, List.any_eq_true, decide_eq_true_iff]
  constructor
  · rintro ⟨x, hx, e⟩
    have : (x == a) = true := e
    rw [← eq_of_beq this]; exact hx
  · exact fun h => ⟨a, h, by show (a == a) = true; simp⟩
structure Few (g : Hs) : Prop where
  len : g.length ≤ 100
  rows : ∀ r ∈ g, r.length ≤ 100 ∧ ends40 r
theorem Few.flat {g : Hs} (h : Few g) : ∀ x ∈ g.flatten, 0 ≤ x ∧ x < 40 := fun x hx => by
  obtain ⟨r, hr, hx⟩ := List.mem_flatten.mp hx
  exact (h.rows r hr).2 x hx
theorem shp_nil : shp (.lst []) ∧ shp (.tup []) := by constructor <;> (unfold shp; constructor <;> decide)
theorem ifX {c : Bool} {a b : Prop} (h1 : c = true → a) (h2 : c = false → b) : if c = true then a else b := by cases c with | true => exact h1 rfl | false => exact h2 rfl
theorem at_int {xs : List Int} {i : Int} (h0 : 0 ≤ i) (h1 : i < xs.length) : ∃ x, atI (xs.map D.int) i = some (.int x) ∧ x ∈ xs ∧ xs[i.toNat]? = some x := by
  have hl : i.toNat < xs.length := by omega
  have e : ((i.toNat : Nat) : Int) = i := by omega
  have := atI_nat (xs := xs.map D.int) (j := i.toNat) (v := .int xs[i.toNat]) (by rw [List.getElem?_map, List.getElem?_eq_getElem hl]; rfl)
  rw [e] at this
  exact ⟨_, this, List.getElem_mem hl, List.getElem?_eq_getElem hl⟩
end Lw

set_option Elab.async false
set_option linter.all false
set_option maxRecDepth 100000
set_option maxHeartbeats 2000000
/-! Readings: the pen. -/
namespace Lw
open PySem PySem.Spec PyProof.Rows L2 Dl
abbrev sp_l_pick : DSp := spPick
abbrev sp_l_plan : DSp := spPlan
theorem len_l_pick : ∀ ds n X Q, sp_l_pick ds n X Q → ds.length = 2 := by
  rintro ds n X Q ⟨p, u, k, rfl, _⟩; rfl
theorem len_l_plan : ∀ ds n X Q, sp_l_plan ds n X Q → ds.length = 3 := by
  rintro ds n X Q ⟨p, u, k, _, rfl, _⟩; rfl
def rd_l_pick : DTS := (tSeqD (tIfSD (tTestD (tOpD drGt (tIxRD (tVarD 0) (tCD (.int 2))) (tCD (.int 0)))) (tSeqD (tSetD 5 (tOpD drMod (tIxRD (tVarD 0) (tCD (.int 2))) (tVarD 1)))
  (tSeqD (tStRD (tVarD 0) (tCD (.int 2)) (tOpD drDiv (tIxRD (tVarD 0) (tCD (.int 2))) (tVarD 1)))
  (tRetD (tVarD 5)))) tNextD)
  (tSeqD (tSetD 2 (tIxRD (tVarD 0) (tCD (.int 1))))
  (tSeqD (tStRD (tVarD 0) (tCD (.int 1)) (tOpD drAdd (tVarD 2) (tCD (.int 1))))
  (tSeqD (tSetD 3 (tOpD drAdd (tOpD drMul (tCD (.int 1733)) (tVarD 2)) (tCD (.int 211))))
  (tSeqD (tIfSD (tTestD (tOpV drNe (tIxRD (tVarD 0) (tCD (.int 0))) (tLstD tNilD))) (tSetD 3 (tIxRD (tIxRD (tVarD 0) (tCD (.int 0))) (tOpD drMod (tVarD 2) (tCallV drLen (tConsD (tIxRD (tVarD 0) (tCD (.int 0))) tNilD))))) tNextD)
  (tSeqD (tIfSD (tAndD (tTestD (tOpD drLt (tVarD 2) (tCallV drLen (tConsD (tIxRD (tVarD 0) (tCD (.int 0))) tNilD)))) (tTestD (tOpD drGe (tCallN drAbs (tConsD (tVarD 3) tNilD)) (tOpD drPow (tCD (.int 10)) (tCD (.int 18)))))) (tSeqD (tSetD 6 (tOpD drAdd (tOpD drMul (tCD (.int 2)) (tCallN drAbs (tConsD (tVarD 3) tNilD))) (tCallN drInt (tConsD (tOpD drLt (tVarD 3) (tCD (.int 0))) tNilD))))
  (tSeqD (tStRD (tVarD 0) (tCD (.int 2)) (tOpD drDiv (tVarD 6) (tVarD 1)))
  (tRetD (tOpD drMod (tVarD 6) (tVarD 1))))) tNextD)
  (tSeqD (tSetD 4 (tOpD drMod (tOpD drPow (tOpD drAdd (tOpD drAdd (tOpD drMod (tVarD 3) (tCD (.int 2147483549))) (tOpD drMul (tCD (.int 52009)) (tVarD 2))) (tCD (.int 173))) (tCD (.int 5))) (tCD (.int 2147483647))))
  (tSeqD (tSetD 4 (tOpD drMod (tOpD drPow (tOpD drAdd (tOpD drMul (tVarD 4) (tOpD drAdd (tVarD 2) (tCD (.int 40129)))) (tOpD drMul (tOpD drMul (tCD (.int 91009)) (tVarD 2)) (tVarD 2))) (tCD (.int 3))) (tCD (.int 2147483563))))
  (tRetD (tOpD drMod (tOpD drDiv (tVarD 4) (tCD (.int 64))) (tVarD 1)))))))))))
def N_l_pick : List Str := ["pen", "upto", "turn", "cell", "stirred", "digit", "great"]
theorem pyb_ints : ∀ ns : List Int, pybs (ns.map D.int) = true
  | [] => by simp [pybs]
  | n :: ns => by simp [pybs, pyb, pyb_ints ns]
theorem toPys_ints : ∀ ns : List Int, toPys (ns.map D.int) = ns.map PyData.int
  | [] => by simp [toPys]
  | n :: ns => by simp [toPys, toPy, toPys_ints ns]
theorem lay_ints : ∀ ns : List Int, PyData.canLayAll0 (ns.map PyData.int) = true
  | [] => rfl
  | n :: ns => by rw [List.map_cons]; simp only [PyData.canLayAll0, PyData.canLay0, Bool.true_and]; exact lay_ints ns
theorem depth_ints : ∀ ns : List Int, PyData.depthAll (ns.map PyData.int) = 0
  | [] => by simp only [List.map_nil, PyData.depthAll]
  | n :: ns => by rw [List.map_cons]; simp only [PyData.depthAll, PyData.depth]; rw [depth_ints ns]; rfl
/-- a list of whole numbers of any size -/
theorem shp_ints (ns : List Int) : shp (.lst (ns.map D.int)) := by
  refine ⟨by simp only [pyb]; exact pyb_ints ns, ?_⟩
  simp only [toPy, toPys_ints]
  unfold SeqAt.shaped
  simp only [PyData.canLay0, PyData.depth, lay_ints, depth_ints]
  decide
theorem stir_b {t y1 y3 : Int} (t0 : 0 ≤ t) (tl : t < 4000000) (a1 : 0 ≤ y1) (a2 : y1 < 2147483549) (a3 : 0 ≤ y3) (a4 : y3 < 2147483647) : (y1 + 52009 * t + 173).natAbs < 2 ^ 64 ∧ -(2 ^ 64) < y3 ∧ y3 < 2 ^ 64 ∧ -(2 ^ 64) < 91009 * t ∧ 91009 * t < 2 ^ 64 ∧ (y3 * (t + 40129) + 91009 * t * t).natAbs < 2 ^ 64 := by
  have m1 : y3 * (t + 40129) ≤ 2147483647 * (t + 40129) := Int.mul_le_mul_of_nonneg_right (by omega) (by omega)
  have m2 : 0 ≤ y3 * (t + 40129) := Int.mul_nonneg a3 (by omega)
  have m3 : 91009 * t * t ≤ 91009 * 4000000 * 4000000 := by
    have e1 : 91009 * t ≤ 91009 * 4000000 := by omega
    exact Int.le_trans (Int.mul_le_mul_of_nonneg_right e1 t0) (Int.mul_le_mul_of_nonneg_left (by omega) (by omega))
  have m4 : 0 ≤ 91009 * t * t := Int.mul_nonneg (by omega) t0
  refine ⟨by omega, by omega, by omega, by omega, by omega, by omega⟩
theorem read_l_pick : ∀ ds n Xd Qd, sp_l_pick ds n Xd Qd → rd_l_pick { nx := fun _ n' => Qd .non n', rt := Qd, xr := fun ex _ n' => Xd ex n' } (startD N_l_pick ds) n := by
  rintro ds n Xd Qd ⟨p, u, k, rfl, hu0, hu1, ⟨c, t, r, cells, hP, hc, ncp, hlen, t0, tk, r0⟩, hk, hz⟩
  replace hk : k < 4000000 := hk
  have tl : t < 4000000 := by omega
  -- the pen, written
  have fin : ∀ (t' r' : Int) (n' : Sto), n' p = some (.lst [.loc c, .int t', .int r']) → (∀ a, a ≠ p → n' a = n a) → 0 ≤ t' → t' ≤ t + 1 → 0 ≤ r' → Drew n p (k + 1) n' := fun t' r' n' h1 h2 h3 h4 h5 =>
    ⟨⟨c, t', r', cells, h1, (h2 c ncp).trans hc, ncp, trivial, h3, by omega, h5⟩, fun a ha _ => h2 a ha⟩
  refine ⟨_, _, hP, rfl, ifX (fun hr => ?_) (fun hr => ?_)⟩
  · have hr1 : 0 < r := of_decide_eq_true hr
    refine ⟨_, _, hP, rfl, hu0, ?_⟩
    refine ⟨_, _, hP, rfl, ⟨hu0, hu1⟩, rfl, _, 2, hP, rfl, ?_⟩
    exact ⟨rfl, hz _ _ (Int.emod_nonneg _ (by omega)) (Int.emod_lt_of_pos _ hu0) (fin t (r / u) _ updS_same (fun a ha => updS_ne ha) t0 (by omega) (Int.ediv_nonneg r0 (by omega)))⟩
  · refine ⟨_, _, hP, rfl, ?_⟩
    refine ⟨rfl, _, 1, hP, rfl, ?_⟩
    generalize hn1 : updS n p (.lst (List.set [D.loc c, D.int t, D.int r] 1 (D.int (t + 1)))) = n1
    have hP1 : n1 p = some (.lst [.loc c, .int (t + 1), .int r]) := by rw [← hn1]; exact updS_same
    have hs1 : ∀ a, a ≠ p → n1 a = n a := fun a ha => by rw [← hn1]; exact updS_ne ha
    have hc1 : n1 c = some (.lst (cells.map D.int)) := (hs1 c ncp).trans hc
    have fin2 : ∀ (y : Int), 0 ≤ y → y < u → Qd (.int y) n1 := fun y y0 y1 => hz y n1 y0 y1 (fin (t + 1) r n1 hP1 hs1 (by omega) (by omega) r0)
    refine ⟨.inl ⟨by decide, by decide⟩, ?_⟩
    have nrb : ∀ z : Int, 0 ≤ z % u ∧ z % u < u := fun z => ⟨Int.emod_nonneg _ (by omega), Int.emod_lt_of_pos _ hu0⟩
    have stirred : ∀ cell : Int, (tSeqD (tSetD 4 (tOpD drMod (tOpD drPow (tOpD drAdd (tOpD drAdd (tOpD drMod (tVarD 3) (tCD (.int 2147483549))) (tOpD drMul (tCD (.int 52009)) (tVarD 2))) (tCD (.int 173))) (tCD (.int 5))) (tCD (.int 2147483647))))
        (tSeqD (tSetD 4 (tOpD drMod (tOpD drPow (tOpD drAdd (tOpD drMul (tVarD 4) (tOpD drAdd (tVarD 2) (tCD (.int 40129)))) (tOpD drMul (tOpD drMul (tCD (.int 91009)) (tVarD 2)) (tVarD 2))) (tCD (.int 3))) (tCD (.int 2147483563))))
        (tRetD (tOpD drMod (tOpD drDiv (tVarD 4) (tCD (.int 64))) (tVarD 1)))))
        { nx := fun _ n' => Qd .non n', rt := Qd, xr := fun ex _ n' => Xd ex n' } [some (.frz (.loc p)), some (.frz (.int u)), some (.frz (.int t)), some (.frz (.int cell)), none, none, none] n1 := fun cell => by
      obtain ⟨b1, b2, b3, b4, b5, b6⟩ := stir_b (t := t) (y1 := cell % 2147483549) (y3 := (cell % 2147483549 + 52009 * t + 173) ^ 5 % 2147483647) t0 tl (Int.emod_nonneg _ (by decide)) (Int.emod_lt_of_pos _ (by decide)) (Int.emod_nonneg _ (by decide)) (Int.emod_lt_of_pos _ (by decide))
      refine ⟨by show (0 : Int) < 2147483549; decide, .inl ⟨by decide, by decide⟩, ⟨by decide, by decide, b1⟩, by show (0 : Int) < 2147483647; decide, ?_⟩
      refine ⟨.inl ⟨b2, b3⟩, .inl ⟨by decide, by decide⟩, .inl ⟨b4, b5⟩, ⟨by decide, by decide, b6⟩, by show (0 : Int) < 2147483563; decide, ?_⟩
      exact ⟨⟨by decide, by decide⟩, hu0, fin2 _ (nrb _).1 (nrb _).2⟩
    refine ⟨_, _, hP1, rfl, by show 0 ≤ sizeLine; decide, ?_⟩
    have ev : vw n1 (D.loc c) = .lst (cells.map D.int) := by simp only [vw, hc1]
    show drNe (vw n1 (D.loc c)) (.lst []) _
    rw [ev]
    have len1 : ((cells.map D.int).length : Int) = cells.length := by rw [List.length_map]
    have rest : ∀ cell : Int, (tSeqD (tIfSD (tAndD (tTestD (tOpD drLt (tVarD 2) (tCallV drLen (tConsD (tIxRD (tVarD 0) (tCD (.int 0))) tNilD)))) (tTestD (tOpD drGe (tCallN drAbs (tConsD (tVarD 3) tNilD)) (tOpD drPow (tCD (.int 10)) (tCD (.int 18)))))) (tSeqD (tSetD 6 (tOpD drAdd (tOpD drMul (tCD (.int 2)) (tCallN drAbs (tConsD (tVarD 3) tNilD))) (tCallN drInt (tConsD (tOpD drLt (tVarD 3) (tCD (.int 0))) tNilD))))
      (tSeqD (tStRD (tVarD 0) (tCD (.int 2)) (tOpD drDiv (tVarD 6) (tVarD 1)))
      (tRetD (tOpD drMod (tVarD 6) (tVarD 1))))) tNextD)
      (tSeqD (tSetD 4 (tOpD drMod (tOpD drPow (tOpD drAdd (tOpD drAdd (tOpD drMod (tVarD 3) (tCD (.int 2147483549))) (tOpD drMul (tCD (.int 52009)) (tVarD 2))) (tCD (.int 173))) (tCD (.int 5))) (tCD (.int 2147483647))))
        (tSeqD (tSetD 4 (tOpD drMod (tOpD drPow (tOpD drAdd (tOpD drMul (tVarD 4) (tOpD drAdd (tVarD 2) (tCD (.int 40129)))) (tOpD drMul (tOpD drMul (tCD (.int 91009)) (tVarD 2)) (tVarD 2))) (tCD (.int 3))) (tCD (.int 2147483563))))
        (tRetD (tOpD drMod (tOpD drDiv (tVarD 4) (tCD (.int 64))) (tVarD 1))))))
        { nx := fun _ n' => Qd .non n', rt := Qd, xr := fun ex _ n' => Xd ex n' } [some (.frz (.loc p)), some (.frz (.int u)), some (.frz (.int t)), some (.frz (.int cell)), none, none, none] n1 := fun cell => by
      refine ⟨_, _, hP1, rfl, ?_⟩
      simp only [tNilD, List.map_cons, List.map_nil, ev]
      refine ifX (fun ht => ?_) (fun ht => ?_)
      · refine ⟨⟨by decide, by decide, by decide⟩, ifX (fun hg => ?_) (fun hg => ?_)⟩
        · have ab : (0 : Int) ≤ if cell < 0 then -cell else cell := by split <;> omega
          have gb : (0 : Int) ≤ 2 * (if cell < 0 then -cell else cell) + (if decide (cell < 0) = true then 1 else 0) := by
            have : (0 : Int) ≤ (if decide (cell < 0) = true then 1 else 0) := by split <;> omega
            omega
          refine ⟨.inl ⟨by decide, by decide⟩, ⟨hu0, hu1⟩, rfl, _, 2, hP1, rfl, ?_⟩
          exact ⟨hu0, hz _ _ (nrb _).1 (nrb _).2 (fin (t + 1) _ _ updS_same (fun a ha => (updS_ne ha).trans (hs1 a ha)) (by omega) (by omega) (Int.ediv_nonneg gb (by omega)))⟩
        · exact stirred cell
      · exact ifF rfl (stirred cell)
    by_cases hcl : cells = []
    · subst hcl
      refine ⟨shp_nil.1, shp_nil.1, ?_⟩
      exact ifF rfl (rest _)
    · have hpos : 0 < cells.length := List.length_pos_iff.mpr hcl
      refine ⟨shp_ints cells, shp_nil.1, ?_⟩
      refine ifT (by
        have := eqv_lst cells []
        show (!PyData.eqv (toPy (.lst (cells.map D.int))) (toPy (.lst (([] : List Int).map D.int)))) = true
        rw [this, decide_eq_false hcl]; rfl) ?_
      refine ⟨_, _, hP1, rfl, ?_⟩
      refine ⟨_, _, hP1, rfl, ?_⟩
      simp only [tNilD, List.map_cons, List.map_nil, ev]
      have hm0 : 0 ≤ t % (cells.length : Int) := Int.emod_nonneg _ (by omega)
      have hm1 : t % (cells.length : Int) < cells.length := Int.emod_lt_of_pos _ (by omega)
      obtain ⟨cell, e1, _, _⟩ := at_int hm0 hm1
      refine ⟨by rw [len1]; omega, _, .int cell, hc1, by rw [len1]; exact e1, rest cell⟩
end Lw

set_option Elab.async false
set_option linter.all false
set_option maxRecDepth 100000
set_option maxHeartbeats 2000000
/-! Readings: a drawn house. -/
namespace Lw
open PySem PySem.Spec PyProof.Rows L2 Dl
/-- .. whose elements are drawn, each known by its place -/
theorem lcW_idx {i : Nat} {tt : DTT} {te : DTE} {m : Md} {Δ : DEnv} {Q : D → Sto → Prop} (htt : tt = tYesD) (R : List D → Sto → Prop) : ∀ (ds acc : List D) (n : Sto), acc.length + ds.length ≤ sizeLine → R acc n →
    (∀ j d acc' n' Q', ds[j]? = some d → acc'.length = acc.length + j → R acc' n' → (∀ y n'', R (acc' ++ [y]) n'' → Q' y n'') → te m (Δ.set i (some (.frz d))) n' noX Q') → (∀ acc' n', acc'.length = acc.length + ds.length → R acc' n' → Q (.lst acc') n') → lcW i tt te m Δ Q ds acc n
  | [], acc, n, _, r, _, q => q acc n (by simp) r
  | d :: ds, acc, n, hz, r, h, q => by
    subst htt
    rw [List.length_cons] at hz
    refine h 0 d acc n _ rfl (by omega) r fun y n'' r' => ⟨by omega, lcW_idx rfl R ds (acc ++ [y]) n'' ?_ r' (fun j d' acc' n' Q' hj hl => ?_) fun acc' n' hl => ?_⟩
    · rw [List.length_append, List.length_singleton]; omega
    · rw [List.length_append, List.length_singleton] at hl
      exact h (j + 1) d' acc' n' Q' (by rw [List.getElem?_cons_succ]; exact hj) (by omega)
    · refine q acc' n' ?_
      rw [hl, List.length_append, List.length_singleton, List.length_cons]; omega
/-- roots that are rows of whole numbers -/
structure RowsS (n : Sto) (as : List Addr) (rs : Hs) : Prop where
  len : as.length = rs.length
  at' : ∀ (j : Nat) (a : Addr) (r : List Int), as[j]? = some a → rs[j]? = some r → n a = some (.lst (r.map D.int))
theorem RowsS.get {n : Sto} {as : List Addr} {rs : Hs} (h : RowsS n as rs) {j : Nat} {a : Addr} (ha : as[j]? = some a) : ∃ r, rs[j]? = some r ∧ n a = some (.lst (r.map D.int)) := by
  have hj := (List.getElem?_eq_some_iff.mp ha).1
  obtain ⟨r, hr⟩ : ∃ r, rs[j]? = some r := ⟨_, List.getElem?_eq_getElem (by have := h.len; omega)⟩
  exact ⟨_, hr, h.at' j a _ ha hr⟩
theorem RowsS.same {n n' : Sto} {as : List Addr} {rs : Hs} (h : RowsS n as rs) (e : ∀ a ∈ as, n' a = n a) : RowsS n' as rs :=
  ⟨h.len, fun j a r ha hr => (e a (List.mem_of_getElem? ha)).trans (h.at' j a r ha hr)⟩
theorem RowsS.set {n : Sto} {as : List Addr} {rs : Hs} (h : RowsS n as rs) (nd : as.Nodup) {j : Nat} {a : Addr} (ha : as[j]? = some a) (r : List Int) : RowsS (updS n a (.lst (r.map D.int))) as (rs.set j r) := by
  refine ⟨by rw [List.length_set]; exact h.len, fun i b q hb hq => ?_⟩
  have hj := (List.getElem?_eq_some_iff.mp ha).1
  by_cases e : j = i
  · subst e
    rw [ha] at hb
    cases hb
    rw [List.getElem?_set_self (by have := h.len; omega)] at hq
    cases hq
    exact updS_same
  · rw [List.getElem?_set_ne e] at hq
    have ne : b ≠ a := fun z => e ((List.getElem?_inj hj nd).mp (by rw [ha, hb, z]))
    rw [updS_ne ne]
    exact h.at' i b q hb hq
theorem var_at {i : Nat} {Δ : DEnv} {n : Sto} {X : XC} {Q : D → Sto → Prop} {d : D} (h : Δ[i]? = some (some (.frz d))) (q : Q d n) : tVarD i .bor Δ n X Q := by
  unfold tVarD; rw [h]; exact q
/-- the length of a root -/
theorem len_root {i : Nat} {m : Md} {Δ : DEnv} {n : Sto} {X : XC} {Q : D → Sto → Prop} {a : Addr} {xs : List D} (h : Δ[i]? = some (some (.frz (.loc a)))) (h2 : n a = some (.lst xs)) (q : Q (.int xs.length) n) :
    tCallV drLen (fun m Δ n X Q => tVarD i m Δ n X fun x n1 => Q [x] n1) m Δ n X Q := by
  unfold tCallV
  refine var_at h ?_
  have ev : vw n (D.loc a) = .lst xs := by simp only [vw, h2]
  simp only [List.map_cons, List.map_nil, ev]
  exact q
def rd_l_plan : DTS := (tSeqD (tSetD 3 (tLcD .bor (tWRng1 (tVarD 1)) 6 tYesD (tRootD (tLstD tNilD))))
  (tSeqD (tForD (tWRng1 (tOpD drMul (tCD (.int 2)) (tVarD 2))) (gNameD 4) (tSeqD (tSetD 5 (tOpD drIx (tVarD 3) (tCallD sp_l_pick (tConsD (tVarD 0) (tConsD (tVarD 1) tNilD)))))
  (tDropD (tMthRD drIns (tVarD 5) (tConsD (tCallD sp_l_pick (tConsD (tVarD 0) (tConsD (tOpD drAdd (tCallV drLen (tConsD (tVarD 5) tNilD)) (tCD (.int 1))) tNilD))) (tConsD (tVarD 4) tNilD))))))
  (tRetD (tCallN drTup (tConsD (tLcD .bor (tWSeq (tVarD 3)) 5 tYesD (tCallV drTup (tConsD (tVarD 5) tNilD))) tNilD)))))
def N_l_plan : List Str := ["pen", "rooms", "wires", "found", "end", "row", "k"]
theorem read_l_plan : ∀ ds n Xd Qd, sp_l_plan ds n Xd Qd → rd_l_plan { nx := fun _ n' => Qd .non n', rt := Qd, xr := fun ex _ n' => Xd ex n' } (startD N_l_plan ds) n := by
  rintro ds n Xd Qd ⟨p, rooms, wires, k, rfl, hr1, hr2, hw2, pen, hk, hz⟩
  obtain ⟨pc, pt, pr, pcells, hP, hpc, npc, _⟩ := id pen
  have er : ((rooms : Int)).toNat = rooms := Int.toNat_natCast rooms
  refine ⟨trivial, by omega, by omega, by rw [show rangeD 0 ((rooms : Int)).toNat = (rangeI ((rooms : Int)).toNat).map D.int from range0_eq _]; exact flat_ints _, ?_⟩
  refine lcW_some rfl rooms (small100 (by omega)) (fun acc n' => ∃ as : List Addr, acc = as.map D.loc ∧ as.Nodup ∧ (∀ a ∈ as, n a = none ∧ n' a = some (.lst [])) ∧ ∀ a, n a ≠ none → n' a = n a) _ [] n
    (by rw [rangeD_length, er]; simp) ⟨[], rfl, .nil, by simp, fun _ _ => rfl⟩ ?_ ?_
  · rintro d hd acc n' Q' hl ⟨as, rfl, nd, h1, h2⟩ q
    refine ⟨by show 0 ≤ sizeLine; decide, rfl, fun a ha => q _ _ ⟨as ++ [a], by rw [List.map_append]; rfl, ?_, ?_, ?_⟩⟩
    · rw [List.nodup_append]
      refine ⟨nd, by simp, fun x hx y hy => ?_⟩
      rw [List.mem_singleton] at hy; subst hy
      rintro rfl
      have := (h1 x hx).2
      rw [ha] at this; cases this
    · intro b hb
      rcases List.mem_append.mp hb with hb | hb
      · have ne : b ≠ a := fun z => by have := (h1 b hb).2; rw [z, ha] at this; cases this
        rw [updS_ne ne]
        exact h1 b hb
      · rw [List.mem_singleton] at hb; subst hb
        refine ⟨?_, updS_same⟩
        cases e : n b with
        | none => rfl
        | some o => rw [h2 b (by rw [e]; simp), e] at ha; cases ha
    · intro b hb
      have ne : b ≠ a := fun z => by rw [z] at hb; rw [← h2 a hb, ha] at hb; exact hb rfl
      rw [updS_ne ne]
      exact h2 b hb
  · rintro acc n1 hl ⟨as, rfl, nd, h1, h2⟩
    rw [List.length_map] at hl
    have nap : ∀ a ∈ as, a ≠ p := fun a ha z => by have := (h1 a ha).1; rw [z, hP] at this; cases this
    have pen1 : PenL n1 p k := by
      obtain ⟨pc, pt, pr, pcells, hP, hpc, r⟩ := pen
      exact ⟨pc, pt, pr, pcells, (h2 p (by rw [hP]; simp)).trans hP, (h2 pc (by rw [hpc]; simp)).trans hpc, r⟩
    refine ⟨.inl ⟨by decide, by decide⟩, by omega, by omega, ?_⟩
    have ew : (2 * (wires : Int)).toNat = 2 * wires := by omega
    refine ⟨fun j Δ n' => ∃ (v4 : Option SV) (v5 : Option D) (rs : Hs), Δ = [some (.frz (.loc p)), some (.frz (.int rooms)), some (.frz (.int wires)), some (.frz (.lst (as.map D.loc))), v4, v5.map SV.frz, none] ∧ RowsS n' as rs ∧ rs.flatten.Perm ((List.range j).map fun (k : Nat) => (k : Int)) ∧ PenL n' p (k + 2 * j) ∧ ∀ a, n a ≠ none → a ≠ p → n' a = n a,
      ⟨none, none, List.replicate rooms [], rfl, ⟨by rw [hl, List.length_replicate], fun j a r ha hr => ?_⟩, by rw [List.flatten_replicate_nil]; exact List.Perm.refl _, pen1, fun a ha _ => h2 a ha⟩, ?_, ?_⟩
    · obtain rfl : r = [] := List.eq_of_mem_replicate (List.mem_of_getElem? hr)
      exact (h1 a (List.mem_of_getElem? ha)).2
    · rintro j d Δ n2 hj ⟨v4, v5, rs, rfl, hrs, hperm, pen2, h3⟩
      obtain ⟨hjl, rfl⟩ : j < 2 * wires ∧ d = .int j := by
        have hjl := (List.getElem?_eq_some_iff.mp hj).1
        rw [rangeD_length, ew] at hjl
        rw [rangeD_get _ _ _ (by rw [ew]; exact hjl)] at hj
        cases hj
        exact ⟨hjl, by rw [Int.zero_add]⟩
      refine ⟨p, rooms, k + 2 * j, rfl, by omega, by omega, pen2, by omega, fun z n3 z0 z1 dr1 => ?_⟩
      obtain ⟨x, ex, _, eg⟩ := atI_int (xs := as.map D.loc) z0 (by rw [List.length_map]; omega)
      rw [List.getElem?_map] at eg
      obtain ⟨a, ea, rfl⟩ : ∃ a, as[z.toNat]? = some a ∧ x = .loc a := by
        cases e : as[z.toNat]? with
        | none => rw [e] at eg; cases eg
        | some a => rw [e] at eg; cases eg; exact ⟨a, rfl, rfl⟩
      have am := List.mem_of_getElem? ea
      obtain ⟨r, er', har⟩ := hrs.get ea
      have hrs3 : RowsS n3 as rs := hrs.same fun b hb => by
        obtain ⟨i, hi⟩ := List.mem_iff_getElem?.mp hb
        obtain ⟨q, _, hq⟩ := hrs.get hi
        exact dr1.only b (nap b hb) (by rw [hq]; simp)
      have har3 : n3 a = some (.lst (r.map D.int)) := hrs3.at' _ _ _ ea er'
      have rl : r.length ≤ 200 := by
        have q1 := (List.sublist_flatten_of_mem (List.mem_of_getElem? er')).length_le
        have q2 := hperm.length_eq
        rw [List.length_map, List.length_range] at q2
        omega
      refine ⟨_, ex, rfl, ⟨_, har3⟩, ?_⟩
      simp only [tConsD, tCallD, tOpD]
      refine var_at (d := .loc p) rfl (len_root (a := a) rfl har3 ?_)
      refine ⟨p, _, k + 2 * j + 1, rfl, by rw [List.length_map]; omega, by rw [List.length_map]; omega, dr1.pen, by omega, fun y n4 y0 y1 dr2 => ?_⟩
      have hrs4 : RowsS n4 as rs := hrs3.same fun b hb => by
        obtain ⟨i, hi⟩ := List.mem_iff_getElem?.mp hb
        obtain ⟨q, _, hq⟩ := hrs3.get hi
        exact dr2.only b (nap b hb) (by rw [hq]; simp)
      have har4 : n4 a = some (.lst (r.map D.int)) := hrs4.at' _ _ _ ea er'
      rw [List.length_map] at y1
      refine ⟨_, har4, rfl, by rw [List.length_map]; exact Nat.lt_of_le_of_lt rl (by decide), y0, by omega, ?_⟩
      have em : (r.map D.int).take y.toNat ++ [D.int j] ++ (r.map D.int).drop y.toNat = (r.take y.toNat ++ [(j : Int)] ++ r.drop y.toNat).map D.int := by
        rw [List.map_append, List.map_append, List.map_take, List.map_drop]; rfl
      rw [em]
      have na : ∀ b, n b ≠ none → b ≠ a := fun b hb z => hb (by rw [z]; exact (h1 a am).1)
      refine ⟨_, some (.loc a), _, rfl, hrs4.set nd ea _, ?_, ?_, ?_⟩
      · refine (flat_set_perm rs _ r y.toNat j er').trans ?_
        rw [List.range_succ, List.map_append]
        exact (List.Perm.cons _ hperm).trans (List.perm_append_singleton _ _).symm
      · obtain ⟨c, t, r', cells, k1, k2, k3, k4, k5, k6, k7⟩ := dr2.pen
        by_cases hca : c = a
        · subst hca
          exact ⟨c, t, r', _, by rw [updS_ne (Ne.symm (nap c am))]; exact k1, updS_same, k3, k4, k5, by omega, k7⟩
        · exact ⟨c, t, r', cells, by rw [updS_ne (Ne.symm (nap a am))]; exact k1, by rw [updS_ne hca]; exact k2, k3, k4, k5, by omega, k7⟩
      · intro b hb hp
        rw [updS_ne (na b hb), dr2.only b hp (by rw [dr1.only b hp (by rw [h3 b hb hp]; exact hb), h3 b hb hp]; exact hb), dr1.only b hp (by rw [h3 b hb hp]; exact hb), h3 b hb hp]
    · rintro Δ n2 ⟨v4, v5, rs, rfl, hrs, hperm, pen2, h3⟩
      rw [rangeD_length, ew] at hperm pen2
      have al : ∀ d ∈ as.map D.loc, flat d = true := fun d hd => by obtain ⟨a, _, rfl⟩ := List.mem_map.mp hd; rfl
      have rl := hrs.len
      refine ⟨by cases v5 <;> trivial, .inl ⟨by rw [List.length_map]; exact small100 (by omega), flatAll_iff.mpr al, ?_⟩⟩
      refine lcW_idx rfl (fun acc n' => n' = n2 ∧ acc = (rs.take acc.length).map encI) _ [] n2 (by rw [List.length_map]; simp; exact small100 (by omega)) ⟨rfl, rfl⟩ ?_ ?_
      · rintro j d acc n3 Q' hj hjl ⟨rfl, hacc⟩ q
        rw [List.getElem?_map] at hj
        obtain ⟨a, ea, rfl⟩ : ∃ a, as[j]? = some a ∧ d = .loc a := by
          cases e : as[j]? with
          | none => rw [e] at hj; cases hj
          | some a => rw [e] at hj; cases hj; exact ⟨a, rfl, rfl⟩
        obtain ⟨r, er', har⟩ := hrs.get ea
        unfold tCallV
        refine var_at (d := .loc a) rfl ?_
        have ev : vw n3 (D.loc a) = .lst (r.map D.int) := by simp only [vw, har]
        simp only [tNilD, List.map_cons, List.map_nil, ev]
        refine ⟨flat_ints r, q _ _ ⟨rfl, ?_⟩⟩
        have e2 : acc.length = j := by simpa using hjl
        rw [List.length_append, List.length_singleton, e2, List.take_add_one, er', List.map_append, ← e2, ← hacc]; rfl
      · rintro acc n3 hl3 ⟨rfl, hacc⟩
        rw [List.length_map, List.length_nil, Nat.zero_add] at hl3
        rw [hl3, rl, List.take_length] at hacc
        subst hacc
        have e4 : k + 2 * (2 * wires) = k + 4 * wires := by omega
        exact ⟨flat_encIs rs, hz rs n3 ⟨by omega, hperm⟩ ⟨e4 ▸ pen2, fun a h1 h2 => h3 a h2 h1⟩⟩
end Lw

set_option Elab.async false
set_option linter.all false
set_option maxRecDepth 100000
set_option maxHeartbeats 2000000
/-! Readings: drawn beads, a drawn standing, both. -/
namespace Lw
open PySem PySem.Spec PyProof.Rows L2 Dl
theorem Drew.then {n n1 n2 : Sto} {p : Addr} {k j : Nat} (a : Drew n p k n1) (b : Drew n1 p j n2) : Drew n p j n2 := a.trans b
def sp_l_loads : DSp := fun ds n X Q => ∃ (p : Addr) (k wires : Nat) (upto : Int), ds = [.loc p, .int wires, .int upto] ∧ wires ≤ 40 ∧ PenL n p k ∧ k + 2 * wires ≤ lim ∧ ∀ (ls : List Int) n', ls.length = wires → (∀ l ∈ ls, 1 ≤ l ∧ l ≤ 9) → Drew n p (k + 2 * wires) n' → Q (encI ls) n'
theorem len_l_loads : ∀ ds n X Q, sp_l_loads ds n X Q → ds.length = 3 := by
  rintro ds n X Q ⟨p, k, w, u, rfl, _⟩; rfl
def rd_l_loads : DTS := (tSeqD (tOwnD 3 (tLstD tNilD))
  (tSeqD (tSetD 4 (tCD (.int 1)))
  (tSeqD (tSetD 5 (tCD (.int 1)))
  (tSeqD (tForD (tWRng1 (tVarD 1)) (gNameD 6) (tSetD 5 (tOpD drMul (tVarD 5) (tCD (.int 2)))))
  (tSeqD (tForD (tWRng1 (tVarD 1)) (gNameD 6) (tSeqD (tSetD 5 (tOpD drDiv (tVarD 5) (tCD (.int 2))))
  (tSeqD (tSetD 7 (tOpD drAdd (tCD (.int 1)) (tCallD sp_l_pick (tConsD (tVarD 0) (tConsD (tOpD drIx (tLstD (tConsD (tCD (.int 1)) (tConsD (tCD (.int 2)) (tConsD (tCD (.int 3)) (tConsD (tCD (.int 9)) tNilD))))) (tCallD sp_l_pick (tConsD (tVarD 0) (tConsD (tCD (.int 4)) tNilD)))) tNilD)))))
  (tSeqD (tWhileD (tAndD (tTestD (tOpD drGt (tVarD 7) (tCD (.int 1)))) (tTestD (tOpD drGt (tOpD drMul (tOpD drMul (tVarD 4) (tOpD drAdd (tVarD 7) (tCD (.int 1)))) (tVarD 5)) (tVarD 2)))) (tSetD 7 (tOpD drSub (tVarD 7) (tCD (.int 1)))))
  (tSeqD (tAppD 3 (tVarD 7))
  (tSetD 4 (tOpD drMul (tVarD 4) (tOpD drAdd (tVarD 7) (tCD (.int 1))))))))))
  (tRetD (tCallN drTup (tConsD (tVarD 3) tNilD))))))))
def N_l_loads : List Str := ["pen", "wires", "upto", "found", "ways", "rest", "k", "many"]
theorem read_l_loads : ∀ ds n Xd Qd, sp_l_loads ds n Xd Qd → rd_l_loads { nx := fun _ n' => Qd .non n', rt := Qd, xr := fun ex _ n' => Xd ex n' } (startD N_l_loads ds) n := by
  rintro ds n Xd Qd ⟨p, k, wires, upto, rfl, hw, pen, hk, q⟩
  have ew : ((wires : Int)).toNat = wires := Int.toNat_natCast wires
  refine ⟨by show 0 ≤ sizeLine; decide, rfl, by omega, by omega, ?_⟩
  refine ⟨fun j Δ n' => ∃ v6, Δ = [some (.frz (.loc p)), some (.frz (.int wires)), some (.frz (.int upto)), some (.own []), some (.frz (.int 1)), some (.frz (.int (2 ^ j))), v6, none] ∧ n = n', ⟨none, rfl, rfl⟩, ?_, ?_⟩
  · rintro j d Δ n' hj ⟨v6, rfl, rfl⟩
    exact ⟨.inr ⟨by decide, by decide⟩, _, by rw [Int.pow_succ]; rfl, rfl⟩
  rintro Δ n' ⟨v6, rfl, rfl⟩
  rw [rangeD_length, ew]
  have hp : (2 : Int) ^ wires ≤ 2 ^ 40 := by
    have := Nat.pow_le_pow_right (n := 2) (by decide) hw
    have e : ((2 ^ wires : Nat) : Int) ≤ ((2 ^ 40 : Nat) : Int) := by exact_mod_cast this
    simpa using e
  have hp0 : (0 : Int) ≤ 2 ^ wires := Int.pow_nonneg (by decide)
  generalize (2 : Int) ^ wires = R at hp hp0 ⊢
  refine ⟨by omega, by omega, ?_⟩
  refine ⟨fun j Δ n' => ∃ (v6 v7 : Option SV) (rest ways : Int) (ls : List Int), Δ = [some (.frz (.loc p)), some (.frz (.int wires)), some (.frz (.int upto)), some (.own (ls.map D.int)), some (.frz (.int ways)), some (.frz (.int rest)), v6, v7] ∧ 0 ≤ rest ∧ rest ≤ 2 ^ 40 ∧
    ls.length = j ∧ (∀ l ∈ ls, 1 ≤ l ∧ l ≤ 9) ∧ Drew n p (k + 2 * j) n', ⟨v6, none, R, 1, [], rfl, hp0, hp, rfl, by simp, .refl pen⟩, ?_, ?_⟩
  · rintro j d Δ n1 hj ⟨v6, v7, rest, ways, ls, rfl, r0, r1, hl, hb, dr⟩
    have hjw : j < wires := by
      have := (List.getElem?_eq_some_iff.mp hj).1
      rw [rangeD_length, ew] at this
      exact this
    refine ⟨⟨by decide, by decide⟩, by show 4 ≤ sizeLine; decide, p, 4, k + 2 * j, rfl, by decide, by decide, dr.pen, by omega, fun z n2 z0 z1 dr1 => ?_⟩
    have h4 : z = 0 ∨ z = 1 ∨ z = 2 ∨ z = 3 := by omega
    have top : ∃ t : Int, atI [D.int 1, D.int 2, D.int 3, D.int 9] z = some (.int t) ∧ 1 ≤ t ∧ t ≤ 9 := by
      rcases h4 with rfl | rfl | rfl | rfl
      · exact ⟨1, rfl, by decide, by decide⟩
      · exact ⟨2, rfl, by decide, by decide⟩
      · exact ⟨3, rfl, by decide, by decide⟩
      · exact ⟨9, rfl, by decide, by decide⟩
    obtain ⟨t, et, t1, t9⟩ := top
    refine ⟨_, et, rfl, p, t, k + 2 * j + 1, rfl, by omega, by omega, dr1.pen, by omega, fun y n3 y0 y1 dr2 => ?_⟩
    have dr3 : Drew n p (k + 2 * (j + 1)) n3 := ((dr.trans dr1).trans dr2).mono (by omega)
    have hr0 : 0 ≤ rest / 2 := by omega
    have hr1 : rest / 2 ≤ 2 ^ 40 := by omega
    -- while
    refine ⟨fun m Δ n'' => ∃ many : Int, m = many.toNat ∧ 1 ≤ many ∧ many ≤ 9 ∧ Δ = [some (.frz (.loc p)), some (.frz (.int wires)), some (.frz (.int upto)), some (.own (ls.map D.int)), some (.frz (.int ways)), some (.frz (.int (rest / 2))), some (.frz d), some (.frz (.int many))] ∧ n'' = n3,
      ⟨_, 1 + y, rfl, by omega, by omega, rfl, rfl⟩, ?_⟩
    rintro m Δ n'' ⟨many, rfl, m1, m9, rfl, rfl⟩
    have fin : ∀ many : Int, 1 ≤ many → many ≤ 9 → (tSeqD (tAppD 3 (tVarD 7)) (tSetD 4 (tOpD drMul (tVarD 4) (tOpD drAdd (tVarD 7) (tCD (.int 1))))))
        { nx := fun Δ n' => ∃ (v6 v7 : Option SV) (rest ways : Int) (ls : List Int), Δ = [some (.frz (.loc p)), some (.frz (.int wires)), some (.frz (.int upto)), some (.own (ls.map D.int)), some (.frz (.int ways)), some (.frz (.int rest)), v6, v7] ∧ 0 ≤ rest ∧ rest ≤ 2 ^ 40 ∧
            ls.length = j + 1 ∧ (∀ l ∈ ls, 1 ≤ l ∧ l ≤ 9) ∧ Drew n p (k + 2 * (j + 1)) n', rt := Qd, bk := fun _ _ => False, ct := fun _ _ => False, xr := fun ex _ n' => Xd ex n' }
        [some (.frz (.loc p)), some (.frz (.int wires)), some (.frz (.int upto)), some (.own (ls.map D.int)), some (.frz (.int ways)), some (.frz (.int (rest / 2))), some (.frz d), some (.frz (.int many))] n'' := fun many m1 m9 => by
      refine ⟨Nat.lt_of_le_of_lt (show (ls.map D.int).length ≤ 100 by rw [List.length_map]; omega) (by decide), .inr ⟨by omega, by omega⟩, some (.frz d), some (.frz (.int many)), rest / 2, ways * (many + 1), ls ++ [many], ?_, hr0, hr1, by simp [hl], ?_, dr3⟩
      · rw [List.map_append]; rfl
      · intro l hm
        rcases List.mem_append.mp hm with hm | hm
        · exact hb l hm
        · rw [List.mem_singleton] at hm; subst hm; exact ⟨m1, m9⟩
    refine ite2 (fun h1 => ?_) (fun h1 => iteF (fin many m1 m9))
    have h1 : 1 < many := of_decide_eq_true h1
    refine ⟨.inr ⟨by omega, by omega⟩, .inr ⟨by omega, by omega⟩, ite2 (fun _ => ?_) (fun _ => fin many m1 m9)⟩
    exact ⟨(many - 1).toNat, by omega, many - 1, rfl, by omega, by omega, rfl, rfl⟩
  · rintro Δ n1 ⟨v6, v7, rest, ways, ls, rfl, r0, r1, hl, hb, dr⟩
    rw [rangeD_length, ew] at hl dr
    exact ⟨flat_ints ls, q ls n1 hl hb dr⟩
def sp_l_laid : DSp := fun ds n X Q => ∃ (p : Addr) (k : Nat) (ls : List Int), ds = [.loc p, encI ls] ∧ 1 ≤ ls.length ∧ ls.length ≤ 40 ∧ (∀ l ∈ ls, 1 ≤ l ∧ l ≤ 9) ∧ PenL n p k ∧ k + 2 * ls.length + 1 ≤ lim ∧ ∀ b a n', IsSt ls.length b a → Drew n p (k + 2 * ls.length + 1) n' → Q (encS b a) n'
theorem len_l_laid : ∀ ds n X Q, sp_l_laid ds n X Q → ds.length = 2 := by
  rintro ds n X Q ⟨p, k, w, rfl, _⟩; rfl
def rd_l_laid : DTS := (tSeqD (tOwnD 2 (tLstD tNilD))
  (tSeqD (tForD (tWSeq (tVarD 1)) (gNameD 3) (tSeqD (tSetD 5 (tOpD drIx (tLstD (tConsD (tCD (.int 0)) (tConsD (tVarD 3) (tConsD (tCallD sp_l_pick (tConsD (tVarD 0) (tConsD (tOpD drAdd (tVarD 3) (tCD (.int 1))) tNilD))) tNilD)))) (tCallD sp_l_pick (tConsD (tVarD 0) (tConsD (tCD (.int 3)) tNilD)))))
  (tExtD 2 (tLstD (tConsD (tVarD 5) (tConsD (tOpD drSub (tVarD 3) (tVarD 5)) tNilD))))))
  (tSeqD (tSetD 4 (tLcD .bor (tWRng1 (tCallN drLen (tConsD (tVarD 2) tNilD))) 6 (tTestD (tOpD drGt (tOpD drIx (tVarD 2) (tVarD 6)) (tCD (.int 0)))) (tVarD 6)))
  (tRetD (tTupD (tConsD (tCallN drTup (tConsD (tVarD 2) tNilD)) (tConsD (tOpD drIx (tVarD 4) (tCallD sp_l_pick (tConsD (tVarD 0) (tConsD (tCallN drLen (tConsD (tVarD 4) tNilD)) tNilD)))) tNilD)))))))
def N_l_laid : List Str := ["pen", "loads", "row", "many", "laden", "here", "end"]
theorem read_l_laid : ∀ ds n Xd Qd, sp_l_laid ds n Xd Qd → rd_l_laid { nx := fun _ n' => Qd .non n', rt := Qd, xr := fun ex _ n' => Xd ex n' } (startD N_l_laid ds) n := by
  rintro ds n Xd Qd ⟨p, k, ls, rfl, l1, l40, hb, pen, hk, q⟩
  refine ⟨by show 0 ≤ sizeLine; decide, rfl, .inr ⟨small100 (by rw [List.length_map]; omega), ?_⟩⟩
  refine ⟨fun j Δ n' => ∃ (v3 v5 : Option SV) (ps : List (Int × Int)), Δ = [some (.frz (.loc p)), some (.frz (encI ls)), some (.own ((pairsF ps).map D.int)), v3, none, v5, none] ∧ ps.length = j ∧ (∀ p ∈ ps, 0 ≤ p.1 ∧ 0 ≤ p.2 ∧ 1 ≤ p.1 + p.2 ∧ p.1 + p.2 ≤ 9) ∧ Drew n p (k + 2 * j) n',
    ⟨none, none, [], rfl, rfl, by simp, .refl pen⟩, ?_, ?_⟩
  · rintro j d Δ n1 hj ⟨v3, v5, ps, rfl, hl, hp, dr⟩
    rw [List.getElem?_map] at hj
    obtain ⟨many, hm, rfl⟩ : ∃ many, ls[j]? = some many ∧ d = .int many := by
      cases e : ls[j]? with
      | none => rw [e] at hj; cases hj
      | some x => rw [e] at hj; cases hj; exact ⟨x, rfl, rfl⟩
    have hjl : j < ls.length := (List.getElem?_eq_some_iff.mp hm).1
    obtain ⟨m1, m9⟩ := hb many (List.mem_of_getElem? hm)
    refine ⟨p, many + 1, k + 2 * j, rfl, by omega, by omega, dr.pen, by omega, fun z n2 z0 z1 dr1 => ⟨by show 3 ≤ sizeLine; decide, p, 3, k + 2 * j + 1, rfl, by decide, by decide, dr1.pen, by omega, fun y n3 y0 y1 dr2 => ?_⟩⟩
    have top : ∃ t : Int, atI [D.int 0, D.int many, D.int z] y = some (.int t) ∧ 0 ≤ t ∧ t ≤ many := by
      have h3 : y = 0 ∨ y = 1 ∨ y = 2 := by omega
      rcases h3 with rfl | rfl | rfl
      · exact ⟨0, rfl, by omega, by omega⟩
      · exact ⟨many, rfl, by omega, by omega⟩
      · exact ⟨z, rfl, by omega, by omega⟩
    obtain ⟨t, et, t0, t1⟩ := top
    refine ⟨_, et, rfl, by show 2 ≤ sizeLine; decide, small100 ?_, rfl, some (.frz (.int many)), some (.frz (.int t)), ps ++ [(t, many - t)], ?_, by simp [hl], ?_, ((dr.trans dr1).trans dr2).mono (by omega)⟩
    · rw [List.length_map, pairsF_len]; simp only [List.length_cons, List.length_nil]; omega
    · rw [pairsF_app, List.map_append]; rfl
    · intro p hpm
      rcases List.mem_append.mp hpm with hpm | hpm
      · exact hp p hpm
      · rw [List.mem_singleton] at hpm; subst hpm
        exact ⟨t0, by show 0 ≤ many - t; omega, by show 1 ≤ t + (many - t); omega, by show t + (many - t) ≤ 9; omega⟩
  · rintro Δ n1 ⟨v3, v5, ps, rfl, hl, hp, dr⟩
    rw [List.length_map] at hl dr
    have hbl : ((pairsF ps).map D.int).length = 2 * ls.length := by rw [List.length_map, pairsF_len, hl]
    refine ⟨trivial, by omega, by omega, ?_⟩
    rw [range0_eq]
    refine ⟨flat_ints _, ?_⟩
    have e0 : ((((pairsF ps).map D.int).length : Int)).toNat = 2 * ls.length := by omega
    rw [e0]
    refine lcW_filterE D.int (fun i => decide (0 < (pairsF ps).getD i.toNat 0)) D.int _ [] _ (by rw [rangeI_length]; simp; exact small100 (by omega)) (fun i hi n'' Q' q' => ?_) (fun i hi _ n'' Q' q' => q') ?_
    · obtain ⟨i0, i1⟩ := mem_rangeI.mp hi
      obtain ⟨x, ex, _, eg⟩ := atI_int (xs := (pairsF ps).map D.int) i0 (by omega)
      rw [List.getElem?_map] at eg
      obtain ⟨v, ev, rfl⟩ : ∃ v, (pairsF ps)[i.toNat]? = some v ∧ x = .int v := by
        cases e : (pairsF ps)[i.toNat]? with
        | none => rw [e] at eg; cases eg
        | some v => rw [e] at eg; cases eg; exact ⟨v, rfl, rfl⟩
      have eD : (pairsF ps).getD i.toNat 0 = v := by rw [List.getD_eq_getElem?_getD, ev]; rfl
      rw [eD] at q'
      exact ⟨_, ex, rfl, q'⟩
    · generalize hla : (rangeI (2 * ls.length)).filter (fun i => decide (0 < (pairsF ps).getD i.toNat 0)) = laden
      have mem : ∀ i ∈ laden, 0 ≤ i ∧ i < 2 * ls.length ∧ ∃ x, (pairsF ps)[i.toNat]? = some x ∧ 0 < x := fun i hi => by
        rw [← hla, List.mem_filter] at hi
        obtain ⟨h1, h2⟩ := hi
        obtain ⟨i0, i1⟩ := mem_rangeI.mp h1
        have h2 : 0 < (pairsF ps).getD i.toNat 0 := of_decide_eq_true h2
        rw [List.getD_eq_getElem?_getD] at h2
        refine ⟨i0, by omega, ?_⟩
        cases e : (pairsF ps)[i.toNat]? with
        | none => rw [e] at h2; simp at h2
        | some x => rw [e] at h2; exact ⟨x, rfl, h2⟩
      have ne : 0 < laden.length := by
        cases hps : ps with
        | nil => rw [hps] at hl; simp at hl; omega
        | cons p ps' =>
          obtain ⟨p1, p2, p3, p4⟩ := hp p (by rw [hps]; exact List.mem_cons_self ..)
          have hx : ∃ i : Int, i ∈ laden := by
            by_cases h : 0 < p.1
            · refine ⟨0, ?_⟩
              rw [← hla, List.mem_filter]
              exact ⟨mem_rangeI.mpr ⟨by omega, by omega⟩, decide_eq_true (by rw [hps]; exact h)⟩
            · refine ⟨1, ?_⟩
              rw [← hla, List.mem_filter]
              exact ⟨mem_rangeI.mpr ⟨by omega, by omega⟩, decide_eq_true (by rw [hps]; show 0 < p.2; omega)⟩
          obtain ⟨i, hi⟩ := hx
          exact List.length_pos_of_mem hi
      have ll : laden.length ≤ 2 * ls.length := by
        rw [← hla]
        exact Nat.le_trans (List.length_filter_le _ _) (by rw [rangeI_length]; exact Nat.le_refl _)
      refine ⟨flat_ints _, p, laden.length, k + 2 * ls.length, by rw [List.nil_append, List.length_map], by omega, by omega, dr.pen, by omega, fun z n2 z0 z1 dr1 => ?_⟩
      obtain ⟨x, ex, xm, _⟩ := atI_int (xs := laden.map D.int) z0 (by rw [List.length_map]; exact z1)
      obtain ⟨a, am, rfl⟩ := List.mem_map.mp xm
      obtain ⟨a0, a1, x, hx, x0⟩ := mem a am
      exact ⟨_, ex, rfl, by show 2 ≤ sizeLine; decide, q (pairsF ps) a n2 ⟨⟨ps, rfl, hl, hp⟩, a0, by omega, x, hx, x0⟩ (dr.trans dr1)⟩
def sp_l_great : DSp := fun ds n X Q => ∃ (p : Addr) (k : Nat), ds = [.loc p] ∧ PenL n p k ∧ k + 300 ≤ lim ∧ ∀ (h : Hs) (rooms wires : Nat) (b : List Int) (a : Int) n', IsHs h rooms wires → 1 ≤ rooms → rooms ≤ 10 → 1 ≤ wires → wires ≤ 20 → IsSt wires b a → Drew n p (k + 300) n' → Q (.tup [encH h, encS b a]) n'
theorem len_l_great : ∀ ds n X Q, sp_l_great ds n X Q → ds.length = 1 := by
  rintro ds n X Q ⟨p, k, rfl, _⟩; rfl
def rd_l_great : DTS := (tSeqD (tSetD 1 (tOpD drAdd (tCD (.int 1)) (tCallD sp_l_pick (tConsD (tVarD 0) (tConsD (tOpD drIx (tLstD (tConsD (tCD (.int 20)) (tConsD (tCD (.int 4)) tNilD))) (tCallD sp_l_pick (tConsD (tVarD 0) (tConsD (tCD (.int 2)) tNilD)))) tNilD)))))
  (tSeqD (tSetD 2 (tCallD sp_l_plan (tConsD (tVarD 0) (tConsD (tOpD drAdd (tCD (.int 1)) (tCallD sp_l_pick (tConsD (tVarD 0) (tConsD (tCD (.int 10)) tNilD)))) (tConsD (tVarD 1) tNilD)))))
  (tRetD (tTupD (tConsD (tVarD 2) (tConsD (tCallD sp_l_laid (tConsD (tVarD 0) (tConsD (tCallD sp_l_loads (tConsD (tVarD 0) (tConsD (tVarD 1) (tConsD (tOpD drPow (tCD (.int 10)) (tCD (.int 21))) tNilD)))) tNilD))) tNilD))))))
def N_l_great : List Str := ["pen", "wires", "house"]
theorem read_l_great : ∀ ds n Xd Qd, sp_l_great ds n Xd Qd → rd_l_great { nx := fun _ n' => Qd .non n', rt := Qd, xr := fun ex _ n' => Xd ex n' } (startD N_l_great ds) n := by
  rintro ds n Xd Qd ⟨p, k, rfl, pen, hn, q⟩
  refine ⟨by show 2 ≤ sizeLine; decide, p, 2, k, rfl, by decide, by decide, pen, by omega, fun z n1 z0 z1 dr1 => ?_⟩
  have top : ∃ t : Int, atI [D.int 20, D.int 4] z = some (.int t) ∧ 1 ≤ t ∧ t ≤ 20 := by
    have h2 : z = 0 ∨ z = 1 := by omega
    rcases h2 with rfl | rfl
    · exact ⟨20, rfl, by decide, by decide⟩
    · exact ⟨4, rfl, by decide, by decide⟩
  obtain ⟨t, et, t1, t2⟩ := top
  refine ⟨_, et, rfl, p, t, k + 1, rfl, by omega, by omega, dr1.pen, by omega, fun y n2 y0 y1 dr2 => ?_⟩
  obtain ⟨w, hw⟩ := Int.eq_ofNat_of_zero_le (show 0 ≤ 1 + y by omega)
  refine ⟨p, 10, k + 2, rfl, by decide, by decide, dr2.pen, by omega, fun x n3 x0 x1 dr3 => ?_⟩
  obtain ⟨r, hr⟩ := Int.eq_ofNat_of_zero_le (show 0 ≤ 1 + x by omega)
  refine ⟨p, r, w, k + 3, by rw [hw, hr], by omega, by omega, by omega, dr3.pen, by omega, fun h n4 hh dr4 => ?_⟩
  refine ⟨flat_encH h, ⟨by decide, by decide, by decide⟩, p, _, w, _, by rw [hw], by omega, dr4.pen, by omega, fun ls n5 hl hb dr5 => ?_⟩
  refine ⟨p, _, ls, rfl, by omega, by omega, hb, dr5.pen, by omega, fun b a n6 hs dr6 => ⟨by show 2 ≤ sizeLine; decide, ?_⟩⟩
  rw [hl] at hs dr6
  exact q h r w b a _ hh (by omega) (by omega) (by omega) (by omega) hs ((((((dr1.trans dr2).trans dr3).trans dr4).trans dr5).trans dr6).mono (by omega))
end Lw

set_option Elab.async false
set_option linter.all false
set_option maxRecDepth 100000
set_option maxHeartbeats 2000000
/-! Readings: a line, a house and a standing written. -/
namespace Lw
open PySem PySem.Spec PyProof.Rows L2 Dl
theorem small_take {ns : List Int} (h : small ns) (j : Nat) : small (ns.take j) := fun n hn => h n (List.mem_of_mem_take hn)
theorem words_snoc (w : Str) (ns : List Int) (k : Int) : wordsT w (ns ++ [k]) = wordsT w ns ++ Str.ofString " " ++ numT k := by
  unfold wordsT
  rw [List.foldl_append]; rfl
theorem house_snoc (h : Hs) (r : List Int) : houseT (h ++ [r]) = houseT h ++ lineT (Str.ofString "room") r := by
  unfold houseT
  rw [List.foldl_append]; rfl
def sp_l_line : DSp := fun ds n X Q => ∃ (w : Str) (ns : List Int) (d : D), ds = [.str w, d] ∧ isSeq d ns ∧ w.length ≤ 100 ∧ ns.length ≤ 100 ∧ small ns ∧ Q (.str (lineT w ns)) n
theorem len_l_line : ∀ ds n X Q, sp_l_line ds n X Q → ds.length = 2 := by
  rintro ds n X Q ⟨w, ns, d, rfl, _⟩; rfl
def rd_l_line : DTS := (tSeqD (tSetD 2 (tVarD 0))
  (tSeqD (tForD (tWSeq (tVarD 1)) (gNameD 3) (tSetD 2 (tOpD drAdd (tOpD drAdd (tVarD 2) (tCD (.str (Str.ofString " ")))) (tCallN drStrI (tConsD (tVarD 3) tNilD)))))
  (tRetD (tOpD drAdd (tVarD 2) (tCD (.str (Str.ofString "\n")))))))
def N_l_line : List Str := ["word", "numbers", "found", "number"]
theorem read_l_line : ∀ ds n Xd Qd, sp_l_line ds n Xd Qd → rd_l_line { nx := fun _ n' => Qd .non n', rt := Qd, xr := fun ex _ n' => Xd ex n' } (startD N_l_line ds) n := by
  rintro ds n Xd Qd ⟨w, ns, d, rfl, hd, hw, hl, hs, q⟩
  have key : ∃ I : Nat → DEnv → Sto → Prop, I 0 [some (.frz (.str w)), some (.frz d), some (.frz (.str w)), none] n ∧
      (∀ (j : Nat) (e : D) Δ n, (ns.map D.int)[j]? = some e → I j Δ n → (gNameD 3) e Δ n fun Δ1 n1 => (tSetD 2 (tOpD drAdd (tOpD drAdd (tVarD 2) (tCD (.str (Str.ofString " ")))) (tCallN drStrI (tConsD (tVarD 3) tNilD)))) { nx := I (j + 1), rt := Qd, bk := (tRetD (tOpD drAdd (tVarD 2) (tCD (.str (Str.ofString "\n"))))) { nx := fun _ n' => Qd .non n', rt := Qd, xr := fun ex _ n' => Xd ex n' }, ct := I (j + 1), xr := fun ex _ n' => Xd ex n' } Δ1 n1) ∧
      ∀ Δ n, I (ns.map D.int).length Δ n → (tRetD (tOpD drAdd (tVarD 2) (tCD (.str (Str.ofString "\n"))))) { nx := fun _ n' => Qd .non n', rt := Qd, xr := fun ex _ n' => Xd ex n' } Δ n := by
    refine ⟨fun j Δ n' => ∃ v3, Δ = [some (.frz (.str w)), some (.frz d), some (.frz (.str (wordsT w (ns.take j)))), v3] ∧ n = n', ⟨none, rfl, rfl⟩, ?_, ?_⟩
    · rintro j e Δ n' hj ⟨v3, rfl, rfl⟩
      rw [List.getElem?_map] at hj
      obtain ⟨k, hk, rfl⟩ : ∃ k, ns[j]? = some k ∧ e = .int k := by
        cases e2 : ns[j]? with
        | none => rw [e2] at hj; cases hj
        | some x => rw [e2] at hj; cases hj; exact ⟨x, rfl, rfl⟩
      have kb := hs k (List.mem_of_getElem? hk)
      have e1 := words_len (ns.take j) w (small_take hs j)
      have e2 : (Str.ofString (toString k)).length ≤ 2 := num_len kb
      have e3 : (ns.take j).length ≤ 100 := by rw [List.length_take]; omega
      refine ⟨small100 (by rw [sp_len]; omega), log_small kb, small100 (by rw [Str.length_append, sp_len]; omega), some (.frz (.int k)), ?_, rfl⟩
      rw [List.take_add_one, hk]
      show [_, _, _, _] = [_, _, some (SV.frz (.str (wordsT w (ns.take j ++ [k])))), _]
      rw [words_snoc]
    · rintro Δ n' ⟨v3, rfl, rfl⟩
      rw [List.length_map, List.take_length]
      have e1 := words_len ns w hs
      exact ⟨small100 (by rw [nl_len]; omega), q⟩
  rcases hd with rfl | rfl
  · exact .inl ⟨small100 (by rw [List.length_map]; omega), key⟩
  · exact .inr ⟨small100 (by rw [List.length_map]; omega), key⟩
def sp_l_written : DSp := fun ds n X Q => ∃ (h : Hs) (b : List Int) (a : Int), ds = [encH h, encS b a] ∧ okH h ∧ b.length ≤ 100 ∧ small b ∧ 0 ≤ a ∧ a < 100 ∧ Q (.tup [.str (houseT h), .str (standT b a)]) n
theorem len_l_written : ∀ ds n X Q, sp_l_written ds n X Q → ds.length = 2 := by
  rintro ds n X Q ⟨h, b, a, rfl, _⟩; rfl
def rd_l_written : DTS := (tSeqD (tSetD 2 (tCD (.str (Str.ofString ""))))
  (tSeqD (tForD (tWSeq (tVarD 0)) (gNameD 3) (tSetD 2 (tOpD drAdd (tVarD 2) (tCallD sp_l_line (tConsD (tCD (.str (Str.ofString "room"))) (tConsD (tVarD 3) tNilD))))))
  (tRetD (tTupD (tConsD (tVarD 2) (tConsD (tOpD drAdd (tCallD sp_l_line (tConsD (tCD (.str (Str.ofString "beads"))) (tConsD (tOpD drIx (tVarD 1) (tCD (.int 0))) tNilD))) (tCallD sp_l_line (tConsD (tCD (.str (Str.ofString "at"))) (tConsD (tSlD (tVarD 1) (tPartD (tCD (.int 1))) tNoPartD) tNilD)))) tNilD))))))
def N_l_written : List Str := ["house", "standing", "text", "row"]
theorem read_l_written : ∀ ds n Xd Qd, sp_l_written ds n Xd Qd → rd_l_written { nx := fun _ n' => Qd .non n', rt := Qd, xr := fun ex _ n' => Xd ex n' } (startD N_l_written ds) n := by
  rintro ds n Xd Qd ⟨h, b, a, rfl, ok, hl, hs, a0, a1, q⟩
  have h100 := ok.len
  refine .inr ⟨small100 (by rw [List.length_map]; omega), ?_⟩
  refine ⟨fun j Δ n' => ∃ v3, Δ = [some (.frz (encH h)), some (.frz (encS b a)), some (.frz (.str (houseT (h.take j)))), v3] ∧ n = n', ⟨none, by rw [List.take_zero]; exact congrArg (fun z => [some (SV.frz (encH h)), some (SV.frz (encS b a)), some (SV.frz (.str z)), none]) ofs_empty, rfl⟩, ?_, ?_⟩
  · rintro j e Δ n' hj ⟨v3, rfl, rfl⟩
    rw [List.getElem?_map] at hj
    obtain ⟨r, hr, rfl⟩ : ∃ r, h[j]? = some r ∧ e = encI r := by
      cases e2 : h[j]? with
      | none => rw [e2] at hj; cases hj
      | some x => rw [e2] at hj; cases hj; exact ⟨x, rfl, rfl⟩
    obtain ⟨r1, r2⟩ := ok.rows r (List.mem_of_getElem? hr)
    have e1 := house_len (h.take j) Str.empty fun r' hr' => ok.rows r' (List.mem_of_mem_take hr')
    have e2 := line_len r (Str.ofString "room") r2
    have e3 : (h.take j).length ≤ 100 := by rw [List.length_take]; omega
    have e4 : Str.empty.length = 0 := rfl
    refine ⟨_, r, _, rfl, .inr rfl, by rw [room_len]; decide, r1, r2, small100 ?_, some (.frz (encI r)), ?_, rfl⟩
    · show (houseT (h.take j)).length + _ ≤ _
      unfold houseT
      rw [room_len] at e2
      omega
    · rw [List.take_add_one, hr]
      show [_, _, _, _] = [_, _, some (SV.frz (.str (houseT (h.take j ++ [r])))), _]
      rw [house_snoc]
  · rintro Δ n' ⟨v3, rfl, rfl⟩
    rw [List.length_map, List.take_length]
    refine ⟨rfl, encI b, rfl, flat_encI b, _, b, _, rfl, .inr rfl, by rw [beads_len]; decide, hl, hs, ?_, _, [a], _, rfl, .inr rfl, by rw [at_len]; decide, by simp, small_one a0 a1, small100 (Nat.le_trans (stand_len hl hs a0 a1) (by decide)), by show 2 ≤ sizeLine; decide, q⟩
    show flatAll [encI b, .int a] = true
    simp only [flatAll, flat_encI]; rfl
end Lw

set_option Elab.async false
set_option linter.all false
set_option maxRecDepth 100000
set_option maxHeartbeats 2000000
/-! What a text of a house says: plain. -/
namespace Lw
open PySem PySem.Spec PyProof.Rows L2 Dl
/-! ### figures -/
def num99 (w : Str) : Option Int := (rangeI 100).find? fun k => decide (numT k = w)
theorem num_all100 : ∀ n : Fin 100, 1 ≤ (numT (n.val : Int)).length ∧ ((numT (n.val : Int)).cps.toList.all fun c => decide (c ∈ (Str.ofString "0123456789").cps.toList)) = true ∧ PySem.intText? (numT (n.val : Int)) = some (n.val : Int) := by decide +kernel
theorem num100 {k : Int} (h : 0 ≤ k ∧ k < 100) : (1 ≤ (numT k).length ∧ (numT k).length ≤ 2) ∧ ((numT k).cps.toList.all fun c => decide (c ∈ (Str.ofString "0123456789").cps.toList)) = true ∧ PySem.intText? (numT k) = some k := by
  have := num_all100 ⟨k.toNat, by omega⟩
  have e : ((k.toNat : Nat) : Int) = k := Int.toNat_of_nonneg h.1
  simp only [e] at this
  exact ⟨⟨this.1, num_len h⟩, this.2⟩
theorem num99_some {w : Str} {k : Int} (h : num99 w = some k) : numT k = w ∧ 0 ≤ k ∧ k < 100 := by
  unfold num99 at h
  have h1 := List.find?_some h
  have h2 := mem_rangeI.mp (List.mem_of_find?_eq_some h)
  exact ⟨of_decide_eq_true h1, h2.1, by have := h2.2; omega⟩
theorem num_inj {a b : Int} (ha : 0 ≤ a ∧ a < 100) (hb : 0 ≤ b ∧ b < 100) (h : numT a = numT b) : a = b := by
  have h1 := (num100 ha).2.2
  have h2 := (num100 hb).2.2
  rw [h, h2] at h1
  cases h1; rfl
theorem num99_num {k : Int} (h : 0 ≤ k ∧ k < 100) : num99 (numT k) = some k := by
  cases e : num99 (numT k) with
  | some j =>
    obtain ⟨e1, j0, j1⟩ := num99_some e
    rw [num_inj ⟨j0, j1⟩ h e1]
  | none =>
    unfold num99 at e
    have := List.find?_eq_none.mp e k (mem_rangeI.mpr ⟨h.1, by omega⟩)
    simp at this
/-- a word of figures with this value -/
theorem num99_val {w : Str} {z : Int} (hw : PySem.intText? w = some z) (hz : 0 ≤ z ∧ z < 100) : num99 w = if numT z = w then some z else none := by
  split
  · rename_i e
    rw [← e]; exact num99_num hz
  · rename_i e
    cases h : num99 w with
    | none => rfl
    | some k =>
      obtain ⟨e1, k0, k1⟩ := num99_some h
      have := (num100 ⟨k0, k1⟩).2.2
      rw [e1, hw] at this
      cases this
      exact absurd e1 e
theorem fig_in : ∀ c : Nat, c ∈ (Str.ofString "0123456789").cps.toList → 48 ≤ c ∧ c < 58 := by
  have : ∀ c ∈ (Str.ofString "0123456789").cps.toList, 48 ≤ c ∧ c < 58 := by decide +kernel
  exact this
theorem fig1 : ∀ i : Fin 10, PySem.intText? ⟨#[48 + i.val]⟩ = some (i.val : Int) := by decide +kernel
theorem fig2 : ∀ i j : Fin 10, PySem.intText? ⟨#[48 + i.val, 48 + j.val]⟩ = some (10 * (i.val : Int) + j.val) := by decide +kernel
theorem word_val {w : Str} (h1 : 1 ≤ w.length) (h2 : w.length ≤ 2) (hd : (w.cps.toList.all fun c => decide (c ∈ (Str.ofString "0123456789").cps.toList)) = true) : ∃ z : Int, PySem.intText? w = some z ∧ 0 ≤ z ∧ z < 100 := by
  obtain ⟨⟨l⟩⟩ := w
  have hl : (⟨⟨l⟩⟩ : Str).length = l.length := rfl
  rw [hl] at h1 h2
  rw [List.all_eq_true] at hd
  match l, h1, h2, hd with
  | [c], _, _, hd =>
    have hc := fig_in c (of_decide_eq_true (hd c (by simp)))
    have := fig1 ⟨c - 48, by omega⟩
    simp only [show 48 + (c - 48) = c by omega] at this
    exact ⟨_, this, by omega, by omega⟩
  | [c, d], _, _, hd =>
    have hc := fig_in c (of_decide_eq_true (hd c (by simp)))
    have hc2 := fig_in d (of_decide_eq_true (hd d (by simp)))
    have := fig2 ⟨c - 48, by omega⟩ ⟨d - 48, by omega⟩
    simp only [show 48 + (c - 48) = c by omega, show 48 + (d - 48) = d by omega] at this
    exact ⟨_, this, by omega, by omega⟩
/-! ### a line -/
def numV (w : Str) : Int := (num99 w).getD 0
def wordsOf (l : Str) : List Str := (Txt.split l (Str.ofString " ")).tail
def rowV (l : Str) : List Int := (wordsOf l).map numV
def isRoom (l : Str) : Prop := (Txt.split l (Str.ofString " ")).head? = some (Str.ofString "room")
structure Row (met : List Int) (l : Str) : Prop where
  room : isRoom l
  nums : ∀ w ∈ wordsOf l, ∃ k, num99 w = some k ∧ k < 40
  nd : (met ++ rowV l).Nodup
open Classical in
noncomputable def goL : Nat → Hs → List Str → Hs ⊕ Nat
  | _, g, [] => .inl g
  | j, g, l :: ls => if j ≤ 9 ∧ Row g.flatten l then goL (j + 1) (g ++ [rowV l]) ls else .inr j
def endsB (xs : List Int) : Bool := decide (2 ≤ xs.length) && decide (xs.length ≤ 40) && decide (xs.length % 2 = 0) && xs.all fun x => decide (0 ≤ x) && decide (x ≤ (xs.length : Int) - 1)
open Classical in
noncomputable def outL (ls : List Str) (last : Str) : Hs ⊕ Nat := match goL 0 [] ls with
  | .inr j => .inr j
  | .inl g => if last = Str.ofString "" ∧ endsB g.flatten = true then .inl g else .inr ls.length
noncomputable def outF (t : Str) : Hs ⊕ Nat := outL (Txt.split t (Str.ofString "\n")).dropLast ((Txt.split t (Str.ofString "\n")).getLastD (Str.ofString ""))
theorem goL_yes {j : Nat} {g : Hs} {l : Str} {ls : List Str} (h1 : j ≤ 9) (h2 : Row g.flatten l) : goL j g (l :: ls) = goL (j + 1) (g ++ [rowV l]) ls := by
  unfold goL; rw [if_pos ⟨h1, h2⟩]
  cases ls <;> rfl
theorem goL_no {j : Nat} {g : Hs} {l : Str} {ls : List Str} (h : ¬ (j ≤ 9 ∧ Row g.flatten l)) : goL j g (l :: ls) = .inr j := by
  unfold goL; rw [if_neg h]
/-- the rows up to the j-th were good -/
structure Upto (ls : List Str) (j : Nat) (g : Hs) : Prop where
  go : goL 0 [] ls = goL j g (ls.drop j)
  len : g.length = j
  ten : j ≤ 10
  nd : g.flatten.Nodup
  low : ∀ x ∈ g.flatten, 0 ≤ x ∧ x < 40
  rows : g = (ls.take j).map rowV
theorem Upto.zero (ls : List Str) : Upto ls 0 [] := ⟨by rw [List.drop_zero], rfl, by omega, by simp, by simp, by simp⟩
theorem Row.low {met : List Int} {l : Str} (h : Row met l) : ∀ x ∈ rowV l, 0 ≤ x ∧ x < 40 := fun x hx => by
  obtain ⟨w, hw, rfl⟩ := List.mem_map.mp hx
  obtain ⟨k, e, hk⟩ := h.nums w hw
  unfold numV
  rw [e]
  exact ⟨(num99_some e).2.1, hk⟩
theorem Upto.next {ls : List Str} {j : Nat} {g : Hs} (u : Upto ls j g) {l : Str} (hl : ls[j]? = some l) (h1 : j ≤ 9) (h2 : Row g.flatten l) : Upto ls (j + 1) (g ++ [rowV l]) := by
  have e : ls.drop j = l :: ls.drop (j + 1) := by
    obtain ⟨h, rfl⟩ := List.getElem?_eq_some_iff.mp hl
    exact List.drop_eq_getElem_cons h
  refine ⟨by rw [u.go, e, goL_yes h1 h2], by rw [List.length_append, u.len]; rfl, by omega, ?_, ?_, ?_⟩
  · rw [List.flatten_append]
    simpa using h2.nd
  · intro x hx
    rw [List.flatten_append, List.mem_append] at hx
    rcases hx with hx | hx
    · exact u.low x hx
    · exact h2.low x (by simpa using hx)
  · rw [List.take_add_one, hl, List.map_append, ← u.rows]; rfl
theorem Upto.stop {ls : List Str} {j : Nat} {g : Hs} (u : Upto ls j g) {l : Str} (hl : ls[j]? = some l) (h : ¬ (j ≤ 9 ∧ Row g.flatten l)) (last : Str) : outL ls last = .inr j := by
  have e : ls.drop j = l :: ls.drop (j + 1) := by
    obtain ⟨h', rfl⟩ := List.getElem?_eq_some_iff.mp hl
    exact List.drop_eq_getElem_cons h'
  unfold outL
  rw [u.go, e, goL_no h]
theorem Upto.full {ls : List Str} {g : Hs} (u : Upto ls ls.length g) (last : Str) : (last = Str.ofString "" ∧ endsB g.flatten = true → outL ls last = .inl g) ∧ (¬ (last = Str.ofString "" ∧ endsB g.flatten = true) → outL ls last = .inr ls.length) := by
  have e : goL 0 [] ls = .inl g := by rw [u.go, List.drop_length]; rfl
  unfold outL
  rw [e]
  exact ⟨fun h => if_pos h, fun h => if_neg h⟩
/-- lines that are many -/
theorem outL_le (ls : List Str) (last : Str) : (∃ g, outL ls last = .inl g ∧ endsB g.flatten = true ∧ g.length ≤ 10 ∧ ∀ x ∈ g.flatten, 0 ≤ x ∧ x < 40) ∨ ∃ j, outL ls last = .inr j ∧ j ≤ 10 := by
  have key : ∀ m j g, j + m = ls.length → Upto ls j g → (∃ g, outL ls last = .inl g ∧ endsB g.flatten = true ∧ g.length ≤ 10 ∧ ∀ x ∈ g.flatten, 0 ≤ x ∧ x < 40) ∨ ∃ j, outL ls last = .inr j ∧ j ≤ 10 := by
    intro m
    induction m with
    | zero =>
      intro j g hj u
      rw [Nat.add_zero] at hj
      subst hj
      by_cases h : last = Str.ofString "" ∧ endsB g.flatten = true
      · exact .inl ⟨g, (u.full last).1 h, h.2, by rw [u.len]; exact u.ten, u.low⟩
      · exact .inr ⟨_, (u.full last).2 h, u.ten⟩
    | succ m ih =>
      intro j g hj u
      have hl : ls[j]? = some ls[j] := List.getElem?_eq_getElem (by omega)
      by_cases h : j ≤ 9 ∧ Row g.flatten ls[j]
      · exact ih (j + 1) _ (by omega) (u.next hl h.1 h.2)
      · exact .inr ⟨j, u.stop hl h last, u.ten⟩
  exact key ls.length 0 [] (by omega) (.zero ls)
end Lw

set_option Elab.async false
set_option linter.all false
set_option maxRecDepth 100000
set_option maxHeartbeats 2000000
/-! Readings: houses looked at, figures, lines. -/
namespace Lw
open PySem PySem.Spec PyProof.Rows L2 Dl
theorem big {n : Nat} (h : n ≤ 16777216) : n ≤ sizeLine := Nat.le_trans h (by decide)
/-- no whole number: of another type, or a truth -/
def NotInt (d : D) : Prop := ∃ t, tyD d = some t ∧ (kitB t "int" = some false ∨ (kitB t "int" = some true ∧ kitB t "bool" = some true))
def sp_is_whole : DSp := fun ds n X Q => (∃ i : Int, ds = [.int i] ∧ Q (.bl true) n) ∨ ∃ d, ds = [d] ∧ NotInt (vw n d) ∧ Q (.bl false) n
theorem len_is_whole : ∀ ds n X Q, sp_is_whole ds n X Q → ds.length = 1 := by
  rintro ds n X Q (⟨i, rfl, _⟩ | ⟨d, rfl, _⟩) <;> rfl
def rd_is_whole : DTS := (tRetD (tAndVD (tCallV drIsi (tConsD (tVarD 0) (tConsD (tCD (.opq (.ty "int"))) tNilD))) (tNotVD (tCallV drIsi (tConsD (tVarD 0) (tConsD (tCD (.opq (.ty "bool"))) tNilD))))))
def N_is_whole : List Str := ["thing"]
theorem read_is_whole : ∀ ds n Xd Qd, sp_is_whole ds n Xd Qd → rd_is_whole { nx := fun _ n' => Qd .non n', rt := Qd, xr := fun ex _ n' => Xd ex n' } (startD N_is_whole ds) n := by
  rintro ds n Xd Qd (⟨i, rfl, q⟩ | ⟨d, rfl, ⟨t, e1, h⟩, q⟩)
  · exact ⟨"int", true, rfl, by decide +kernel, "int", false, rfl, by decide +kernel, q⟩
  · rcases h with h | ⟨h, h2⟩
    · exact ⟨t, false, e1, h, q⟩
    · exact ⟨t, true, e1, h, t, true, e1, h2, q⟩
def sp_is_within : DSp := fun ds n X Q => (∃ i a b : Int, ds = [.int i, .int a, .int b] ∧ Q (.bl (decide (a ≤ i) && decide (i ≤ b))) n) ∨ ∃ (d : D) (a b : Int), ds = [d, .int a, .int b] ∧ NotInt (vw n d) ∧ Q (.bl false) n
theorem len_is_within : ∀ ds n X Q, sp_is_within ds n X Q → ds.length = 3 := by
  rintro ds n X Q (⟨i, a, b, rfl, _⟩ | ⟨d, a, b, rfl, _⟩) <;> rfl
def rd_is_within : DTS := (tRetD (tAndVD (tCallD sp_is_whole (tConsD (tVarD 0) tNilD)) (tChainD drLe drLe (tVarD 1) (tVarD 0) (tVarD 2))))
def N_is_within : List Str := ["thing", "least", "most"]
theorem read_is_within : ∀ ds n Xd Qd, sp_is_within ds n Xd Qd → rd_is_within { nx := fun _ n' => Qd .non n', rt := Qd, xr := fun ex _ n' => Xd ex n' } (startD N_is_within ds) n := by
  rintro ds n Xd Qd (⟨i, a, b, rfl, q⟩ | ⟨d, a, b, rfl, hd, q⟩)
  · refine .inl ⟨i, rfl, ?_⟩
    by_cases h : a ≤ i
    · rw [decide_eq_true h, Bool.true_and] at q
      exact chain_yes (decide_eq_true h) q
    · rw [decide_eq_false h, Bool.false_and] at q
      exact chain_no (decide_eq_false h) q
  · exact .inr ⟨d, rfl, hd, q⟩
def sp_are_ends : DSp := fun ds n X Q => ∃ xs : List Int, ds = [.lst (xs.map D.int)] ∧ Q (.bl (endsB xs && decide xs.Nodup)) n
theorem len_are_ends : ∀ ds n X Q, sp_are_ends ds n X Q → ds.length = 1 := by
  rintro ds n X Q ⟨xs, rfl, _⟩; rfl
def rd_are_ends : DTS := (tSeqD (tIfSD (tOrD (tNotD (tTestD (tChainD drLe drLe (tCD (.int 2)) (tCallN drLen (tConsD (tVarD 0) tNilD)) (tOpD drMul (tCD (.int 2)) (tCD (.int 20)))))) (tTestD (tOpD drEq (tOpD drMod (tCallN drLen (tConsD (tVarD 0) tNilD)) (tCD (.int 2))) (tCD (.int 1))))) (tRetD (tCD (.bl false))) tNextD)
  (tSeqD (tIfSD (tNotD (tTestD (tCallN drAll (tConsD (tLcD .bor (tWSeq (tVarD 0)) 1 tYesD (tCallD sp_is_within (tConsD (tVarD 1) (tConsD (tCD (.int 0)) (tConsD (tOpD drSub (tCallN drLen (tConsD (tVarD 0) tNilD)) (tCD (.int 1))) tNilD))))) tNilD)))) (tRetD (tCD (.bl false))) tNextD)
  (tRetD (tOpD drEq (tLenSet2D (tVarD 0)) (tCallN drLen (tConsD (tVarD 0) tNilD))))))
def N_are_ends : List Str := ["found", "end"]
theorem endsB_no {xs : List Int} (h : xs.length < 2 ∨ 40 < xs.length ∨ xs.length % 2 = 1) : endsB xs = false := by
  unfold endsB
  by_cases h1 : 2 ≤ xs.length
  · by_cases h2 : xs.length ≤ 40
    · rw [decide_eq_false (show ¬ xs.length % 2 = 0 by omega)]; simp
    · rw [decide_eq_false h2]; simp
  · rw [decide_eq_false h1]; simp
theorem endsB_all {xs : List Int} (h1 : 2 ≤ xs.length) (h2 : xs.length ≤ 40) (h3 : xs.length % 2 = 0) : endsB xs = xs.all fun x => decide (0 ≤ x) && decide (x ≤ (xs.length : Int) - 1) := by
  unfold endsB
  rw [decide_eq_true h1, decide_eq_true h2, decide_eq_true h3]; simp
theorem read_are_ends : ∀ ds n Xd Qd, sp_are_ends ds n Xd Qd → rd_are_ends { nx := fun _ n' => Qd .non n', rt := Qd, xr := fun ex _ n' => Xd ex n' } (startD N_are_ends ds) n := by
  rintro ds n Xd Qd ⟨xs, rfl, q⟩
  have hl : ((xs.map D.int).length : Int) = xs.length := by rw [List.length_map]
  have no : endsB xs = false → Qd (.bl false) n := fun e => by rw [e, Bool.false_and] at q; exact q
  by_cases h1 : 2 ≤ xs.length
  · refine chain_yes (decide_eq_true (show (2 : Int) ≤ ((xs.map D.int).length : Int) by omega)) ?_
    refine ⟨.inl (by decide), ?_⟩
    refine ifX (fun h2 => ?_) (fun h2 => ?_)
    · refine ifT rfl ?_
      have h2 : (!decide (((xs.map D.int).length : Int) ≤ 2 * 20)) = true := h2
      simp only [Bool.not_eq_true', decide_eq_false_iff_not] at h2
      exact no (endsB_no (.inr (.inl (by omega))))
    · have h2 : (!decide (((xs.map D.int).length : Int) ≤ 2 * 20)) = false := h2
      simp only [Bool.not_eq_false', decide_eq_true_eq] at h2
      refine ⟨by show (0 : Int) < 2; decide, ?_⟩
      refine ifX (fun h3 => ?_) (fun h3 => ?_)
      · have h3 : ((xs.map D.int).length : Int) % 2 = 1 := of_decide_eq_true h3
        exact no (endsB_no (.inr (.inr (by omega))))
      · have h3 : ¬ ((xs.map D.int).length : Int) % 2 = 1 := of_decide_eq_false h3
        have ea := endsB_all (xs := xs) h1 (by omega) (by omega)
        refine ⟨trivial, .inl ⟨small100 (by omega), flat_ints xs, ?_⟩⟩
        refine lcW_mapE D.int (fun i => .bl (decide (0 ≤ i) && decide (i ≤ ((xs.map D.int).length : Int) - 1))) rfl xs [] n (by simp; exact small100 (by omega)) (fun i hi n' Q' q' => .inl ⟨i, 0, _, rfl, q'⟩) ?_
        refine ⟨xs.map fun i => decide (0 ≤ i) && decide (i ≤ ((xs.map D.int).length : Int) - 1), by rw [List.nil_append, List.map_map]; rfl, ?_⟩
        have e1 : (xs.map fun i => decide (0 ≤ i) && decide (i ≤ ((xs.map D.int).length : Int) - 1)).all id = endsB xs := by
          rw [ea, List.all_map, hl]; rfl
        refine ifX (fun h4 => ?_) (fun h4 => ?_)
        · have h4 : (!((xs.map fun i => decide (0 ≤ i) && decide (i ≤ ((xs.map D.int).length : Int) - 1)).all id)) = true := h4
          rw [e1] at h4
          exact no (by simpa using h4)
        · have h4 : (!((xs.map fun i => decide (0 ≤ i) && decide (i ≤ ((xs.map D.int).length : Int) - 1)).all id)) = false := h4
          rw [e1] at h4
          have h4 : endsB xs = true := by simpa using h4
          rw [h4, Bool.true_and] at q
          refine ⟨xs, rfl, by omega, fun m hm => ?_⟩
          show Qd (.bl (decide ((m : Int) = ((xs.map D.int).length : Int)))) n
          have em : decide ((m : Int) = ((xs.map D.int).length : Int)) = decide xs.Nodup := by
            rw [Bool.eq_iff_iff, decide_eq_true_eq, decide_eq_true_eq, ← hm, List.length_map]
            omega
          rw [em]
          exact q
  · refine chain_no (decide_eq_false (show ¬ (2 : Int) ≤ ((xs.map D.int).length : Int) by omega)) ?_
    refine ifT rfl (ifT rfl ?_)
    exact no (endsB_no (.inl (by omega)))
def sp_all_in : DSp := fun ds n X Q => ∃ g : Hs, ds = [encH g] ∧ g.length ≤ 1000000 ∧ g.flatten.length ≤ 16000000 ∧ Q (.lst (g.flatten.map D.int)) n
theorem len_all_in : ∀ ds n X Q, sp_all_in ds n X Q → ds.length = 1 := by
  rintro ds n X Q ⟨xs, rfl, _⟩; rfl
def rd_all_in : DTS := (tSeqD (tOwnD 1 (tLstD tNilD))
  (tSeqD (tForD (tWSeq (tVarD 0)) (gNameD 2) (tExtTD 1 (tVarD 2)))
  (tRetD (tVarD 1))))
def N_all_in : List Str := ["rooms", "found", "room"]
theorem read_all_in : ∀ ds n Xd Qd, sp_all_in ds n Xd Qd → rd_all_in { nx := fun _ n' => Qd .non n', rt := Qd, xr := fun ex _ n' => Xd ex n' } (startD N_all_in ds) n := by
  rintro ds n Xd Qd ⟨g, rfl, gl, fl, q⟩
  refine ⟨by show 0 ≤ sizeLine; decide, rfl, .inr ⟨big (by rw [List.length_map]; omega), ?_⟩⟩
  refine ⟨fun j Δ n' => ∃ v2, Δ = [some (.frz (encH g)), some (.own ((g.take j).flatten.map D.int)), v2] ∧ n = n', ⟨none, rfl, rfl⟩, ?_, ?_⟩
  · rintro j e Δ n' hj ⟨v2, rfl, rfl⟩
    rw [List.getElem?_map] at hj
    obtain ⟨r, hr, rfl⟩ : ∃ r, g[j]? = some r ∧ e = encI r := by
      cases e2 : g[j]? with
      | none => rw [e2] at hj; cases hj
      | some x => rw [e2] at hj; cases hj; exact ⟨x, rfl, rfl⟩
    have e1 : (g.take (j + 1)).flatten = (g.take j).flatten ++ r := by
      rw [List.take_add_one, hr, List.flatten_append]; simp
    have e2 : (g.take (j + 1)).flatten.length ≤ g.flatten.length := by
      have e3 : g.flatten = (g.take (j + 1)).flatten ++ (g.drop (j + 1)).flatten := by rw [← List.flatten_append, List.take_append_drop]
      rw [e3, List.length_append]
      omega
    rw [e1, List.length_append] at e2
    refine ⟨big (by rw [List.length_map, List.length_map]; omega), flat_ints r, some (.frz (encI r)), ?_, rfl⟩
    rw [e1, List.map_append]; rfl
  · rintro Δ n' ⟨v2, rfl, rfl⟩
    rw [List.length_map, List.take_length]
    exact ⟨flat_ints _, q⟩
def houseB (g : Hs) : Bool := decide (1 ≤ g.length) && (decide (g.length ≤ 10) && (endsB g.flatten && decide g.flatten.Nodup))
theorem houseB_once {g : Hs} (h : g.length ≤ 10) (nd : g.flatten.Nodup) : houseB g = endsB g.flatten := by
  unfold houseB
  rw [decide_eq_true h, decide_eq_true nd, Bool.true_and, Bool.and_true]
  cases g with
  | nil => rfl
  | cons r g => rw [decide_eq_true (by simp), Bool.true_and]
def sp_is_house : DSp := fun ds n X Q => ∃ g : Hs, ds = [encH g] ∧ g.length ≤ 1000 ∧ g.flatten.length ≤ 16000000 ∧ Q (.bl (houseB g)) n
theorem len_is_house : ∀ ds n X Q, sp_is_house ds n X Q → ds.length = 1 := by
  rintro ds n X Q ⟨xs, rfl, _⟩; rfl
def rd_is_house : DTS := (tSeqD (tIfSD (tOrD (tNotD (tTestD (tCallN drIsi (tConsD (tVarD 0) (tConsD (tCD (.opq (.ty "tuple"))) tNilD))))) (tNotD (tTestD (tChainD drLe drLe (tCD (.int 1)) (tCallN drLen (tConsD (tVarD 0) tNilD)) (tCD (.int 10)))))) (tRetD (tCD (.bl false))) tNextD)
  (tRetD (tAndVD (tCallN drAll (tConsD (tLcD .bor (tWSeq (tVarD 0)) 1 tYesD (tCallN drIsi (tConsD (tVarD 1) (tConsD (tCD (.opq (.ty "tuple"))) tNilD)))) tNilD)) (tCallD sp_are_ends (tConsD (tCallD sp_all_in (tConsD (tVarD 0) tNilD)) tNilD)))))
def N_is_house : List Str := ["thing", "room"]
theorem read_is_house : ∀ ds n Xd Qd, sp_is_house ds n Xd Qd → rd_is_house { nx := fun _ n' => Qd .non n', rt := Qd, xr := fun ex _ n' => Xd ex n' } (startD N_is_house ds) n := by
  rintro ds n Xd Qd ⟨g, rfl, h2, hf, q⟩
  have hl2 : ((g.map encI).length : Int) = g.length := by rw [List.length_map]
  refine ⟨"tuple", true, rfl, by decide +kernel, ?_⟩
  refine ifF rfl ?_
  unfold houseB at q
  by_cases h1 : 1 ≤ g.length
  · rw [decide_eq_true h1, Bool.true_and] at q
    refine chain_yes (decide_eq_true (show (1 : Int) ≤ ((g.map encI).length : Int) by omega)) ?_
    refine ifX (fun h3 => ?_) (fun h3 => ?_)
    · have h3 : (!decide (((g.map encI).length : Int) ≤ 10)) = true := h3
      simp only [Bool.not_eq_true', decide_eq_false_iff_not] at h3
      rw [decide_eq_false (show ¬ g.length ≤ 10 by omega), Bool.false_and] at q
      exact q
    · have h3 : (!decide (((g.map encI).length : Int) ≤ 10)) = false := h3
      simp only [Bool.not_eq_false', decide_eq_true_eq] at h3
      rw [decide_eq_true (show g.length ≤ 10 by omega), Bool.true_and] at q
      refine ⟨trivial, .inr ⟨small100 (by omega), flat_encIs g, ?_⟩⟩
      refine lcW_mapE encI (fun _ => .bl true) rfl g [] n (by simp; exact small100 (by omega)) (fun r hr n' Q' q' => ⟨"tuple", true, rfl, by decide +kernel, q'⟩) ?_
      refine ⟨g.map fun _ => true, by rw [List.nil_append, List.map_map]; rfl, ?_⟩
      exact val_yes (all_const g) ⟨g, rfl, by omega, by omega, g.flatten, rfl, q⟩
  · rw [decide_eq_false h1, Bool.false_and] at q
    refine chain_no (decide_eq_false (show ¬ (1 : Int) ≤ ((g.map encI).length : Int) by omega)) ?_
    exact ifT rfl q
/-! ### figures -/
def sp_number_in : DSp := fun ds n X Q => ∃ w : Str, ds = [.str w] ∧ w.length ≤ 100000 ∧ Q (match num99 w with | some k => .int k | none => .non) n
theorem len_number_in : ∀ ds n X Q, sp_number_in ds n X Q → ds.length = 1 := by
  rintro ds n X Q ⟨w, rfl, _⟩; rfl
def rd_number_in : DTS := (tSeqD (tIfSD (tOrD (tNotD (tTestD (tChainD drLe drLe (tCD (.int 1)) (tCallN drLen (tConsD (tVarD 0) tNilD)) (tCD (.int 2))))) (tNotD (tTestD (tCallN drAll (tConsD (tLcD .bor (tWStr (tVarD 0)) 1 tYesD (tOpD (drInSign false) (tVarD 1) (tCD (.str (Str.ofString "0123456789"))))) tNilD))))) (tRetD (tCD .non)) tNextD)
  (tRetD (tIfD (tTestD (tOpD drEq (tCallN drStrI (tConsD (tCallN drIntS (tConsD (tVarD 0) tNilD)) tNilD)) (tVarD 0))) (tCallN drIntS (tConsD (tVarD 0) tNilD)) (tCD .non))))
def N_number_in : List Str := ["word", "sign"]
theorem read_number_in : ∀ ds n Xd Qd, sp_number_in ds n Xd Qd → rd_number_in { nx := fun _ n' => Qd .non n', rt := Qd, xr := fun ex _ n' => Xd ex n' } (startD N_number_in ds) n := by
  rintro ds n Xd Qd ⟨w, rfl, hw, q⟩
  have no : num99 w = none → Qd .non n := fun e => by rw [e] at q; exact q
  by_cases h1 : 1 ≤ w.length
  · refine ⟨small100 hw, chain_yes (decide_eq_true (show (1 : Int) ≤ w.length by omega)) ?_⟩
    refine ifX (fun h2 => ifT rfl ?_) (fun h2 => ?_)
    · have h2 : (!decide ((w.length : Int) ≤ 2)) = true := h2
      simp only [Bool.not_eq_true', decide_eq_false_iff_not] at h2
      refine no ?_
      cases e : num99 w with
      | none => rfl
      | some k =>
        obtain ⟨e1, k0, k1⟩ := num99_some e
        have := (num100 ⟨k0, k1⟩).1.2
        rw [e1] at this
        omega
    · have h2 : (!decide ((w.length : Int) ≤ 2)) = false := h2
      simp only [Bool.not_eq_false', decide_eq_true_eq] at h2
      refine ⟨trivial, small100 (by omega), flat_signs _, ?_⟩
      refine lcW_mapE (α := Nat) (fun c => .str ⟨#[c]⟩) (fun c => .bl (decide (c ∈ (Str.ofString "0123456789").cps.toList))) rfl _ [] n (by simp; exact small100 (by show w.length ≤ _; omega)) (fun c hc n' Q' q' => ⟨c, rfl, q'⟩) ?_
      refine ⟨w.cps.toList.map fun c => decide (c ∈ (Str.ofString "0123456789").cps.toList), by rw [List.nil_append, List.map_map]; rfl, ?_⟩
      refine ifX (fun h3 => ?_) (fun h3 => ?_)
      · have h3 : (!((w.cps.toList.map fun c => decide (c ∈ (Str.ofString "0123456789").cps.toList)).all id)) = true := h3
        rw [List.all_map] at h3
        have h3 : (w.cps.toList.all fun c => decide (c ∈ (Str.ofString "0123456789").cps.toList)) = false := by simpa using h3
        refine no ?_
        cases e : num99 w with
        | none => rfl
        | some k =>
          obtain ⟨e1, k0, k1⟩ := num99_some e
          have := (num100 ⟨k0, k1⟩).2.1
          rw [e1, h3] at this
          cases this
      · have h3 : (!((w.cps.toList.map fun c => decide (c ∈ (Str.ofString "0123456789").cps.toList)).all id)) = false := h3
        rw [List.all_map] at h3
        have h3 : (w.cps.toList.all fun c => decide (c ∈ (Str.ofString "0123456789").cps.toList)) = true := by simpa using h3
        obtain ⟨z, ez, z0, z1⟩ := word_val h1 (by omega) h3
        rw [num99_val ez ⟨z0, z1⟩] at q
        refine ⟨z, ez, by omega, log_small ⟨z0, z1⟩, ?_⟩
        refine ifX (fun h4 => ?_) (fun h4 => ?_)
        · have h4 : numT z = w := of_decide_eq_true h4
          rw [if_pos h4] at q
          exact ⟨z, ez, by omega, q⟩
        · have h4 : ¬ numT z = w := of_decide_eq_false h4
          rw [if_neg h4] at q
          exact q
  · refine ⟨small100 hw, chain_no (decide_eq_false (show ¬ (1 : Int) ≤ w.length by omega)) ?_⟩
    refine ifT rfl (ifT rfl ?_)
    refine no ?_
    cases e : num99 w with
    | none => rfl
    | some k =>
      obtain ⟨e1, k0, k1⟩ := num99_some e
      have := (num100 ⟨k0, k1⟩).1.1
      rw [e1] at this
      omega
/-- the figures of a line whose first word this is -/
def isNums (l : Str) (w : Str) : Prop := (Txt.split l (Str.ofString " ")).head? = some w ∧ ∀ x ∈ wordsOf l, ∃ k, num99 x = some k
def sp_numbers_in : DSp := fun ds n X Q => ∃ l w : Str, ds = [.str l, .str w] ∧ l.length ≤ 16000 ∧ (isNums l w → Q (.lst ((rowV l).map D.int)) n) ∧ (¬ isNums l w → Q .non n)
theorem len_numbers_in : ∀ ds n X Q, sp_numbers_in ds n X Q → ds.length = 2 := by
  rintro ds n X Q ⟨l, w, rfl, _⟩; rfl
def rd_numbers_in : DTS := (tSeqD (tStar1D 3 4 (tSplitD (tVarD 0) (tCD (.str (Str.ofString " ")))))
  (tSeqD (tOwnD 2 (tLcD .bor (tWSeq (tVarD 4)) 5 tYesD (tCallD sp_number_in (tConsD (tVarD 5) tNilD))))
  (tRetD (tIfD (tOrD (tTestD (tOpD drNe (tVarD 3) (tVarD 1))) (tTestD (tOpD (drIn false) (tCD .non) (tVarD 2)))) (tCD .non) (tVarD 2)))))
def N_numbers_in : List Str := ["line", "word", "found", "first", "words", "one"]
theorem read_numbers_in : ∀ ds n Xd Qd, sp_numbers_in ds n Xd Qd → rd_numbers_in { nx := fun _ n' => Qd .non n', rt := Qd, xr := fun ex _ n' => Xd ex n' } (startD N_numbers_in ds) n := by
  rintro ds n Xd Qd ⟨l, w, rfl, hl, q1, q2⟩
  refine ⟨by decide +kernel, small100 (by omega), ?_⟩
  have e1 := split_pos l (Str.ofString " ")
  have e2 := split_le l (Str.ofString " ")
  have e3 : ∀ a ∈ Txt.split l (Str.ofString " "), a.length ≤ l.length := fun a ha => part_short ha
  unfold isNums at q1 q2
  unfold rowV at q1
  unfold wordsOf at q1 q2
  generalize Txt.split l (Str.ofString " ") = ws at e1 e2 e3 q1 q2
  cases ws with
  | nil => simp at e1
  | cons x xs =>
    rw [List.length_cons] at e2
    rw [List.tail_cons, List.head?_cons] at q1 q2
    refine ⟨by show (xs.map D.str).length < 16384; rw [List.length_map]; omega, trivial, .inl ⟨small100 (by show (xs.map D.str).length ≤ _; rw [List.length_map]; omega), flat_strs _, ?_⟩⟩
    refine lcW_mapE D.str (fun w => match num99 w with | some k => D.int k | none => .non) rfl xs [] n (by simp; exact small100 (by omega)) (fun k hk n' Q' q' => ⟨k, rfl, by have := e3 k (List.mem_cons_of_mem _ hk); omega, q'⟩) ?_
    rw [List.nil_append]
    have sc : (xs.map fun w => match num99 w with | some k => D.int k | none => .non).all scD = true := by
      rw [List.all_map, List.all_eq_true]
      intro a _
      show scD (match num99 a with | some k => D.int k | none => .non) = true
      cases num99 a <;> rfl
    have fl : flatAll (xs.map fun w => match num99 w with | some k => D.int k | none => .non) = true := flatAll_map (fun a => by cases num99 a <;> rfl) xs
    refine ⟨fl, ?_⟩
    refine ifX (fun h => ifT rfl ?_) (fun h => ?_)
    · have h : (!decide (x = w)) = true := h
      refine q2 fun z => ?_
      have := z.1
      simp at this
      rw [this] at h
      simp at h
    · have h : (!decide (x = w)) = false := h
      have h : x = w := by simpa using h
      refine ⟨_, rfl, rfl, sc, ?_⟩
      have iff : inD .non (xs.map fun w => match num99 w with | some k => D.int k | none => .non) = true ↔ ¬ ∀ y ∈ xs, ∃ k, num99 y = some k := by
        unfold inD
        rw [List.any_map, List.any_eq_true]
        constructor
        · rintro ⟨y, hy, e⟩ hall
          obtain ⟨k, ek⟩ := hall y hy
          simp only [Function.comp, ek] at e
          cases e
        · intro hn
          by_cases hh : ∃ y ∈ xs, num99 y = none
          · obtain ⟨y, hy, e⟩ := hh
            exact ⟨y, hy, by simp only [Function.comp, e]; rfl⟩
          · exact absurd (fun y hy => by
              cases e : num99 y with
              | some k => exact ⟨k, rfl⟩
              | none => exact absurd ⟨y, hy, e⟩ hh) hn
      refine ifX (fun h2 => q2 fun z => iff.mp h2 z.2) (fun h2 => ?_)
      have hall : ∀ y ∈ xs, ∃ k, num99 y = some k := by
        refine Classical.not_not.mp fun z => ?_
        have := iff.mpr z
        have h2 : inD .non (xs.map fun w => match num99 w with | some k => D.int k | none => .non) = false := h2
        rw [h2] at this; cases this
      refine ⟨fl, ?_⟩
      have em : (xs.map fun w => match num99 w with | some k => D.int k | none => .non) = (xs.map numV).map D.int := by
        rw [List.map_map]
        refine List.map_congr_left fun y hy => ?_
        obtain ⟨k, ek⟩ := hall y hy
        simp only [Function.comp, numV, ek]; rfl
      have := q1 ⟨by rw [h], hall⟩
      rw [← em] at this
      exact this
/-- no text -/
def NotStr (d : D) : Prop := ∃ t, tyD d = some t ∧ kitB t "str" = some false
def sp_lines_of : DSp := fun ds n X Q => (∃ t : Str, ds = [.str t] ∧ t.length ≤ 16000 ∧ Q (.tup [.lst ((Txt.split t (Str.ofString "\n")).dropLast.map D.str), .str ((Txt.split t (Str.ofString "\n")).getLastD (Str.ofString ""))]) n) ∨ ∃ d, ds = [d] ∧ NotStr d ∧ X (.exc1 "NoText" "line" .non) n
theorem len_lines_of : ∀ ds n X Q, sp_lines_of ds n X Q → ds.length = 1 := by
  rintro ds n X Q (⟨t, rfl, _⟩ | ⟨d, rfl, _⟩) <;> rfl
def rd_lines_of : DTS := (tSeqD (tIfSD (tNotD (tTestD (tCallN drIsi (tConsD (tVarD 0) (tConsD (tCD (.opq (.ty "str"))) tNilD))))) (tRaise1D "NoText" "line" (tCD .non)) tNextD)
  (tSeqD (tStar2D 2 1 (tSplitD (tVarD 0) (tCD (.str (Str.ofString "\n")))))
  (tRetD (tTupD (tConsD (tVarD 2) (tConsD (tVarD 1) tNilD))))))
def N_lines_of : List Str := ["text", "rest", "lines"]
theorem last_split {ws : List Str} (h : 1 ≤ ws.length) (d : Str) : ws = ws.dropLast ++ [ws.getLastD d] := by
  have hne : ws ≠ [] := by intro e; subst e; simp at h
  have e : ws.getLastD d = ws.getLast hne := by
    rw [List.getLastD_eq_getLast?, List.getLast?_eq_some_getLast hne]; rfl
  rw [e]
  exact (List.dropLast_concat_getLast hne).symm
theorem read_lines_of : ∀ ds n Xd Qd, sp_lines_of ds n Xd Qd → rd_lines_of { nx := fun _ n' => Qd .non n', rt := Qd, xr := fun ex _ n' => Xd ex n' } (startD N_lines_of ds) n := by
  rintro ds n Xd Qd (⟨t, rfl, ht, q⟩ | ⟨d, rfl, ⟨T, e1, e2⟩, x⟩)
  · refine ⟨"str", true, rfl, by decide +kernel, ?_⟩
    refine ifF rfl ?_
    refine ⟨by decide +kernel, small100 (by omega), ?_⟩
    have e1 := split_pos t (Str.ofString "\n")
    have e2 := split_le t (Str.ofString "\n")
    generalize Txt.split t (Str.ofString "\n") = ws at e1 e2 q
    refine ⟨by rw [List.length_map]; omega, flat_strs _, ws.dropLast.map D.str, .str (ws.getLastD (Str.ofString "")), ?_, ?_⟩
    · conv => lhs; rw [last_split e1 (Str.ofString "")]
      rw [List.map_append]; rfl
    · exact ⟨flat_strs _, rfl, by show 2 ≤ sizeLine; decide, q⟩
  · refine ⟨T, false, e1, e2, ?_⟩
    refine ifT rfl ⟨rfl, x⟩
end Lw

set_option Elab.async false
set_option linter.all false
set_option maxRecDepth 100000
set_option maxHeartbeats 2000000
/-! Reading: a house read. -/
namespace Lw
open PySem PySem.Spec PyProof.Rows L2 Dl
theorem in_ints (k : Int) (xs : List Int) : inD (.int k) (xs.map D.int) = decide (k ∈ xs) := by
  unfold inD
  rw [List.any_map, Bool.eq_iff_iff, List.any_eq_true, decide_eq_true_iff]
  constructor
  · rintro ⟨x, hx, e⟩
    have : (x == k) = true := e
    rw [← eq_of_beq this]; exact hx
  · exact fun h => ⟨k, h, by show (k == k) = true; simp⟩
theorem sc_ints (xs : List Int) : (xs.map D.int).all scD = true := by rw [List.all_map, List.all_eq_true]; exact fun _ _ => rfl
theorem enum_item {ds : List D} {j : Nat} {d : D} (h : (enumD 0 ds)[j]? = some d) : ∃ e, ds[j]? = some e ∧ d = .tup [.int (j : Nat), e] := by
  rw [enumD_get] at h
  cases q : ds[j]? with
  | none => rw [q] at h; cases h
  | some c => rw [q] at h; cases h; exact ⟨c, rfl, by rw [Nat.zero_add]⟩
theorem map_item {α : Type} {f : α → D} {xs : List α} {j : Nat} {d : D} (h : (xs.map f)[j]? = some d) : ∃ x, xs[j]? = some x ∧ d = f x := by
  rw [List.getElem?_map] at h
  cases e : xs[j]? with
  | none => rw [e] at h; cases h
  | some x => rw [e] at h; cases h; exact ⟨x, rfl, rfl⟩
theorem flat_len {B : Nat} : ∀ {g : Hs}, (∀ r ∈ g, r.length ≤ B) → g.flatten.length ≤ B * g.length
  | [], _ => by simp
  | r :: g, h => by
    have ih := flat_len (g := g) fun q hq => h q (List.mem_cons_of_mem _ hq)
    have := h r (List.mem_cons_self ..)
    rw [List.flatten_cons, List.length_append, List.length_cons, Nat.mul_add]
    omega
theorem row_len (l : Str) : (rowV l).length ≤ l.length + 1 := by
  unfold rowV wordsOf
  have := split_le l (Str.ofString " ")
  rw [List.length_map, List.length_tail]; omega
theorem Upto.flat {ls : List Str} {j : Nat} {g : Hs} (u : Upto ls j g) (h : ∀ l ∈ ls, l.length ≤ 16000) : g.flatten.length ≤ 160010 := by
  have := flat_len (B := 16001) (g := g) fun r hr => by
    rw [u.rows] at hr
    obtain ⟨l, hl, rfl⟩ := List.mem_map.mp hr
    have := row_len l
    have := h l (List.mem_of_mem_take hl)
    omega
  rw [u.len] at this
  have := u.ten
  have : 16001 * j ≤ 16001 * 10 := Nat.mul_le_mul_left _ this
  omega
theorem row_of {met : List Int} {l : Str} (h1 : isNums l (Str.ofString "room")) (h2 : ∀ x ∈ rowV l, x < 40) (h3 : (met ++ rowV l).Nodup) : Row met l :=
  ⟨h1.1, fun w hw => by
    obtain ⟨k, e⟩ := h1.2 w hw
    refine ⟨k, e, ?_⟩
    have := h2 (numV w) (List.mem_map_of_mem hw)
    unfold numV at this
    rw [e] at this
    exact this, h3⟩
theorem Row.isNums {met : List Int} {l : Str} (h : Row met l) : isNums l (Str.ofString "room") := ⟨h.room, fun w hw => by obtain ⟨k, e, _⟩ := h.nums w hw; exact ⟨k, e⟩⟩
theorem Row.fresh {met : List Int} {l : Str} (h : Row met l) {i : Nat} {k : Int} (hk : (rowV l)[i]? = some k) : k ∉ met ++ (rowV l).take i := by
  obtain ⟨hi, rfl⟩ := List.getElem?_eq_some_iff.mp hk
  have e : rowV l = (rowV l).take i ++ (rowV l)[i] :: (rowV l).drop (i + 1) := by rw [← List.drop_eq_getElem_cons, List.take_append_drop]
  have nd := h.nd
  rw [e, ← List.append_assoc] at nd
  exact fun h => (List.nodup_append.mp nd).2.2 _ h _ (List.mem_cons_self ..) rfl
theorem nodup_snoc {xs : List Int} {k : Int} (h : xs.Nodup) (hk : k ∉ xs) : (xs ++ [k]).Nodup := by
  rw [List.nodup_append]
  exact ⟨h, by simp, fun a ha b hb => by rw [List.mem_singleton] at hb; subst hb; rintro rfl; exact hk ha⟩
def sp_read_house : DSp := fun ds n X Q => (∃ t : Str, ds = [.str t] ∧ t.length ≤ 16000 ∧ (∀ g, outF t = .inl g → Q (encH g) n) ∧ ∀ j, outF t = .inr j → X (.exc1 "NoText" "line" (.int j)) n) ∨ ∃ d, ds = [d] ∧ NotStr d ∧ X (.exc1 "NoText" "line" .non) n
theorem len_read_house : ∀ ds n X Q, sp_read_house ds n X Q → ds.length = 1 := by
  rintro ds n X Q (⟨t, rfl, _⟩ | ⟨d, rfl, _⟩) <;> rfl
def rd_read_house : DTS := (tSeqD (tAsgD (tCallD sp_lines_of (tConsD (tVarD 0) tNilD)) (gTupD 2 (gConsD (gNameD 3) (gConsD (gNameD 4) gNilD))))
  (tSeqD (tOwnD 1 (tLstD tNilD))
  (tSeqD (tOwnD 2 (tLstD tNilD))
  (tSeqD (tForD (tWEnum (tVarD 3)) (gTupD 2 (gConsD (gNameD 5) (gConsD (gNameD 6) gNilD))) (tSeqD (tSetD 7 (tCallD sp_numbers_in (tConsD (tVarD 6) (tConsD (tCD (.str (Str.ofString "room"))) tNilD))))
  (tSeqD (tIfSD (tOrD (tTestD (tOpD drIsN (tVarD 7) (tCD .non))) (tTestD (tOpD drGe (tVarD 5) (tCD (.int 10))))) (tRaise1D "NoText" "line" (tVarD 5)) tNextD)
  (tSeqD (tForD (tWSeq (tVarD 7)) (gNameD 8) (tSeqD (tIfSD (tOrD (tTestD (tOpD drGe (tVarD 8) (tOpD drMul (tCD (.int 2)) (tCD (.int 20))))) (tTestD (tOpD (drIn false) (tVarD 8) (tVarD 1)))) (tRaise1D "NoText" "line" (tVarD 5)) tNextD)
  (tAppD 1 (tVarD 8))))
  (tAppD 2 (tCallN drTup (tConsD (tVarD 7) tNilD)))))))
  (tSeqD (tIfSD (tOrD (tTestD (tOpD drNe (tVarD 4) (tCD (.str (Str.ofString ""))))) (tNotD (tTestD (tCallD sp_is_house (tConsD (tCallN drTup (tConsD (tVarD 2) tNilD)) tNilD))))) (tRaise1D "NoText" "line" (tCallN drLen (tConsD (tVarD 3) tNilD))) tNextD)
  (tRetD (tCallN drTup (tConsD (tVarD 2) tNilD))))))))
def N_read_house : List Str := ["text", "met", "rooms", "lines", "rest", "at", "line", "ends", "end"]
theorem read_read_house : ∀ ds n Xd Qd, sp_read_house ds n Xd Qd → rd_read_house { nx := fun _ n' => Qd .non n', rt := Qd, xr := fun ex _ n' => Xd ex n' } (startD N_read_house ds) n := by
  rintro ds n Xd Qd (⟨t, rfl, ht, q, x⟩ | ⟨d, rfl, hd, x⟩)
  · refine .inl ⟨t, rfl, ht, rfl, by show 0 ≤ sizeLine; decide, rfl, by show 0 ≤ sizeLine; decide, rfl, ?_⟩
    unfold outF at q x
    have e1 := split_le t (Str.ofString "\n")
    have e2 : ∀ l ∈ (Txt.split t (Str.ofString "\n")).dropLast, l.length ≤ 16000 := fun l hl => Nat.le_trans (part_short ((List.dropLast_sublist _).subset hl)) ht
    have e3 : (Txt.split t (Str.ofString "\n")).dropLast.length ≤ 16001 := by rw [List.length_dropLast]; omega
    generalize (Txt.split t (Str.ofString "\n")).dropLast = ls at q x e2 e3 ⊢
    generalize (Txt.split t (Str.ofString "\n")).getLastD (Str.ofString "") = last at q x ⊢
    refine ⟨by rw [List.length_map]; exact small100 (by omega), ?_⟩
    refine ⟨fun j Δ n' => ∃ (v5 v6 v7 v8 : Option SV) (g : Hs), Δ = [some (.frz (.str t)), some (.own (g.flatten.map D.int)), some (.own (g.map encI)), some (.frz (.lst (ls.map D.str))), some (.frz (.str last)), v5, v6, v7, v8] ∧ n = n' ∧ Upto ls j g, ⟨none, none, none, none, [], rfl, rfl, .zero ls⟩, ?_, ?_⟩
    · rintro j e Δ n' hj ⟨v5, v6, v7, v8, g, rfl, rfl, u⟩
      obtain ⟨e0, hj0, rfl⟩ := enum_item hj
      obtain ⟨l, hl, rfl⟩ := map_item hj0
      have ll := e2 l (List.mem_of_getElem? hl)
      have gl := u.flat e2
      have rl := row_len l
      have stop : ¬ (j ≤ 9 ∧ Row g.flatten l) → Xd (.exc1 "NoText" "line" (.int j)) n := fun h => x j (u.stop hl h last)
      refine ⟨rfl, l, _, rfl, ll, fun hn => ?_, fun hn => ?_⟩
      · refine ifX (fun h10 => ?_) (fun h10 => ?_)
        · have h10 : (10 : Int) ≤ (j : Int) := of_decide_eq_true h10
          exact ⟨rfl, stop fun z => by have := z.1; omega⟩
        · have h10 : ¬ (10 : Int) ≤ (j : Int) := of_decide_eq_false h10
          refine .inl ⟨by rw [List.length_map]; exact small100 (by omega), ?_⟩
          refine ⟨fun i Δ n' => ∃ v8, Δ = [some (.frz (.str t)), some (.own ((g.flatten ++ (rowV l).take i).map D.int)), some (.own (g.map encI)), some (.frz (.lst (ls.map D.str))), some (.frz (.str last)), some (.frz (.int j)), some (.frz (.str l)), some (.frz (.lst ((rowV l).map D.int))), v8] ∧ n = n' ∧ (∀ x ∈ (rowV l).take i, x < 40) ∧ (g.flatten ++ (rowV l).take i).Nodup, ⟨v8, by rw [List.take_zero, List.append_nil]; rfl, rfl, by simp, by simpa using u.nd⟩, ?_, ?_⟩
          · rintro i e Δ n' hi ⟨v8, rfl, rfl, low, nd⟩
            obtain ⟨k, hk, rfl⟩ := map_item hi
            refine ⟨.inl (by decide), ?_⟩
            refine ifX (fun hb => ?_) (fun hb => ?_)
            · have hb : (2 * 20 : Int) ≤ k := of_decide_eq_true hb
              exact ifT rfl ⟨rfl, stop fun z => by have := z.2.low k (List.mem_of_getElem? hk); omega⟩
            · have hb : ¬ (2 * 20 : Int) ≤ k := of_decide_eq_false hb
              refine ⟨_, rfl, rfl, sc_ints _, ?_⟩
              refine ifX (fun hm => ?_) (fun hm => ?_)
              · have hm : inD (.int k) ((g.flatten ++ (rowV l).take i).map D.int) = true := hm
                rw [in_ints] at hm
                exact ⟨rfl, stop fun z => z.2.fresh hk (of_decide_eq_true hm)⟩
              · have hm : inD (.int k) ((g.flatten ++ (rowV l).take i).map D.int) = false := hm
                rw [in_ints] at hm
                have hm := of_decide_eq_false hm
                refine ⟨by rw [List.length_map, List.length_append, List.length_take]; exact Nat.lt_of_lt_of_le (show _ < 1000000 by omega) (by decide), some (.frz (.int k)), ?_, rfl, ?_, ?_⟩
                · rw [List.take_add_one, hk]
                  simp
                · intro y hy
                  rw [List.take_add_one, hk, List.mem_append] at hy
                  rcases hy with hy | hy
                  · exact low y hy
                  · simp at hy; subst hy; omega
                · rw [List.take_add_one, hk, ← List.append_assoc]
                  exact nodup_snoc nd hm
          · rintro Δ n' ⟨v8, rfl, rfl, low, nd⟩
            rw [List.length_map, List.take_length] at low nd
            rw [List.length_map, List.take_length]
            have row := row_of hn low nd
            have ten := u.ten
            have un := u.next hl (by omega) row
            refine ⟨flat_ints _, by rw [List.length_map, u.len]; exact Nat.lt_of_lt_of_le (show _ < 1000 by omega) (by decide), some (.frz (.int j)), some (.frz (.str l)), some (.frz (.lst ((rowV l).map D.int))), v8, g ++ [rowV l], ?_, rfl, un⟩
            rw [List.flatten_append, List.map_append]
            simp; rfl
      · exact ⟨rfl, stop fun z => hn z.2.isNums⟩
    · rintro Δ n' ⟨v5, v6, v7, v8, g, rfl, rfl, u⟩
      have el : (enumD 0 (ls.map D.str)).length = ls.length := by rw [enumD_length, List.length_map]
      rw [el] at u
      have gl := u.flat e2
      obtain ⟨f1, f2⟩ := u.full last
      have bad : ¬ (last = Str.ofString "" ∧ endsB g.flatten = true) → Xd (.exc1 "NoText" "line" (.int ls.length)) n := fun h => x _ (f2 h)
      have fin : last = Str.ofString "" → endsB g.flatten = true → Qd (encH g) n := fun h1 h2 => q g (f1 ⟨h1, h2⟩)
      refine ifX (fun hr => ?_) (fun hr => ?_)
      · have hr : (!decide (last = Str.ofString "")) = true := hr
        simp only [Bool.not_eq_true', decide_eq_false_iff_not] at hr
        refine ifT rfl ?_
        have := bad fun z => hr z.1
        show flat (.int ((ls.map D.str).length : Int)) = true ∧ Xd (.exc1 "NoText" "line" (.int ((ls.map D.str).length : Int))) n
        rw [List.length_map]
        exact ⟨rfl, this⟩
      · have hr : (!decide (last = Str.ofString "")) = false := hr
        simp only [Bool.not_eq_false', decide_eq_true_eq] at hr
        refine ⟨flat_encIs g, g, rfl, by rw [u.len]; have := u.ten; omega, by omega, ?_⟩
        rw [houseB_once (by rw [u.len]; exact u.ten) u.nd]
        cases he : endsB g.flatten with
        | true =>
          refine ifF rfl ?_
          exact ⟨flat_encIs g, fin hr he⟩
        | false =>
          refine ifT rfl ?_
          have := bad fun z => by rw [he] at z; cases z.2
          show flat (.int ((ls.map D.str).length : Int)) = true ∧ Xd (.exc1 "NoText" "line" (.int ((ls.map D.str).length : Int))) n
          rw [List.length_map]
          exact ⟨rfl, this⟩
  · exact .inr ⟨d, rfl, hd, x⟩
end Lw

set_option Elab.async false
set_option linter.all false
set_option maxRecDepth 100000
set_option maxHeartbeats 2000000
/-! Texts cut and joined: lengths. -/
namespace Lw
open PySem PySem.Spec PyProof.Rows L2 Dl
theorem cutS_len (z : Str) (l u : Option Int) : (cutS z l u).length ≤ z.length := by
  unfold cutS
  show (List.take _ (List.drop _ z.cps.toList)).length ≤ z.cps.toList.length
  rw [List.length_take, List.length_drop]
  omega
/-- lines and their ends -/
def wtS (ws : List Str) : Nat := (ws.map (·.length)).sum + ws.length
theorem wtS_app (a b : List Str) : wtS (a ++ b) = wtS a + wtS b := by
  unfold wtS
  rw [List.map_append, List.sum_append, List.length_append]; omega
theorem wtS_cons (a : Str) (b : List Str) : wtS (a :: b) = a.length + 1 + wtS b := by
  unfold wtS
  simp only [List.map_cons, List.sum_cons, List.length_cons]; omega
theorem wtS_nil : wtS [] = 0 := rfl
theorem wtS_drop (ws : List Str) (k : Nat) : wtS (ws.drop k) ≤ wtS ws := by
  have : wtS ws = wtS (ws.take k) + wtS (ws.drop k) := by rw [← wtS_app, List.take_append_drop]
  omega
theorem wtS_take (ws : List Str) (k : Nat) : wtS (ws.take k) ≤ wtS ws := by
  have : wtS ws = wtS (ws.take k) + wtS (ws.drop k) := by rw [← wtS_app, List.take_append_drop]
  omega
theorem cutL_strs (ws : List Str) (l u : Option Int) : ∃ vs, cutL (ws.map D.str) l u = vs.map D.str ∧ wtS vs ≤ wtS ws := by
  unfold cutL
  refine ⟨(ws.drop (HT.sIx (ws.map D.str).length 0 l)).take (HT.sIx (ws.map D.str).length (ws.map D.str).length u - HT.sIx (ws.map D.str).length 0 l), by rw [List.map_take, List.map_drop], ?_⟩
  exact Nat.le_trans (wtS_take _ _) (wtS_drop _ _)
theorem join_len {y : Str} (hy : y.length ≤ 1) : ∀ ws : List Str, (Str.join y ws).length ≤ wtS ws
  | [] => by show Str.empty.length ≤ _; exact Nat.zero_le _
  | [a] => by show a.length ≤ _; rw [wtS_cons, wtS_nil]; omega
  | a :: b :: r => by
    have ih := join_len hy (b :: r)
    rw [join_cons, Str.length_append, Str.length_append, wtS_cons]
    omega
theorem split_wt (x y : Str) (hy : 1 ≤ y.length) : wtS (Txt.split x y) ≤ x.length + 1 := split_weight x y hy
theorem len_wt (ws : List Str) : ws.length ≤ wtS ws := by unfold wtS; omega
theorem mem_wt {ws : List Str} {a : Str} (h : a ∈ ws) : a.length + 1 ≤ wtS ws := by
  obtain ⟨l, r, rfl⟩ := List.append_of_mem h
  rw [wtS_app, wtS_cons]; omega
theorem at_str {ws : List Str} {i : Int} (h0 : 0 ≤ i) (h1 : i < ws.length) : ∃ x, atI (ws.map D.str) i = some (.str x) ∧ x ∈ ws := by
  obtain ⟨d, e, m, _⟩ := atI_int (xs := ws.map D.str) h0 (by rw [List.length_map]; exact h1)
  obtain ⟨x, hx, rfl⟩ := List.mem_map.mp m
  exact ⟨x, e, hx⟩
theorem drop_sum (ws : List Str) : (ws.map (·.length)).sum + ws.length = wtS ws := rfl
theorem cat2 {Q : D → Prop} {a b : List Str} (h : wtS a + wtS b ≤ 100000) (q : Q (.lst ((a ++ b).map D.str))) : drAdd (.lst (a.map D.str)) (.lst (b.map D.str)) Q := by
  have h1 := len_wt a
  have h2 := len_wt b
  rw [List.map_append] at q
  exact ⟨by rw [List.length_map, List.length_map]; exact small100 (by omega), flat_strs a, flat_strs b, q⟩
theorem jsum {a : Str} {ys : List Str} (ha : a.length ≤ 1) (h : wtS ys ≤ 100000) : (ys.map (·.length)).sum + ys.length * a.length ≤ 16777216 := by
  have h1 := drop_sum ys
  have h2 : ys.length * a.length ≤ ys.length * 1 := Nat.mul_le_mul_left _ ha
  omega
end Lw

set_option Elab.async false
set_option linter.all false
set_option maxRecDepth 100000
set_option maxHeartbeats 2000000
/-! A house written is read again. -/
namespace Lw
open PySem PySem.Spec PyProof.Rows L2 Dl
theorem words_of {r : List Int} (h : ends40 r) : wordsOf (wordsT (Str.ofString "room") r) = r.map numT ∧ isRoom (wordsT (Str.ofString "room") r) ∧ rowV (wordsT (Str.ofString "room") r) = r := by
  have e := split_words h
  have e1 : wordsOf (wordsT (Str.ofString "room") r) = r.map numT := by unfold wordsOf; rw [e]; rfl
  refine ⟨e1, by unfold isRoom; rw [e]; rfl, ?_⟩
  unfold rowV
  rw [e1, List.map_map]
  have : r.map (numV ∘ numT) = r.map id := List.map_congr_left fun k hk => by
    show numV (numT k) = k
    unfold numV
    have := h k hk
    rw [num99_num ⟨this.1, by omega⟩]; rfl
  rw [this, List.map_id]
theorem upto_house {g : Hs} (h10 : g.length ≤ 10) (he : ∀ r ∈ g, ends40 r) (nd : g.flatten.Nodup) : ∀ j, j ≤ g.length → Upto (linesT g) j (g.take j) := by
  intro j
  induction j with
  | zero => intro _; rw [List.take_zero]; exact .zero _
  | succ j ih =>
    intro hj
    have u := ih (by omega)
    have hr : g[j]? = some g[j] := List.getElem?_eq_getElem (by omega)
    generalize g[j] = r at hr
    have hl : (linesT g)[j]? = some (wordsT (Str.ofString "room") r) := by unfold linesT; rw [List.getElem?_map, hr]; rfl
    have er := he r (List.mem_of_getElem? hr)
    obtain ⟨w1, w2, w3⟩ := words_of er
    have e1 : g.take (j + 1) = g.take j ++ [r] := by rw [List.take_add_one, hr]; rfl
    have nd2 : (g.take (j + 1)).flatten.Nodup := by
      have e3 : g.flatten = (g.take (j + 1)).flatten ++ (g.drop (j + 1)).flatten := by rw [← List.flatten_append, List.take_append_drop]
      rw [e3] at nd
      exact (List.nodup_append.mp nd).1
    have row : Row (g.take j).flatten (wordsT (Str.ofString "room") r) := by
      refine ⟨w2, fun w hw => ?_, ?_⟩
      · rw [w1] at hw
        obtain ⟨k, hk, rfl⟩ := List.mem_map.mp hw
        have := er k hk
        exact ⟨k, num99_num ⟨this.1, by omega⟩, this.2⟩
      · rw [w3]
        rw [e1, List.flatten_append] at nd2
        simpa using nd2
    have := u.next hl (by omega) row
    rw [w3, ← e1] at this
    exact this
theorem outF_house {g : Hs} (h10 : g.length ≤ 10) (he : ∀ r ∈ g, ends40 r) (nd : g.flatten.Nodup) (hE : endsB g.flatten = true) : outF (houseT g) = .inl g := by
  unfold outF
  rw [split_lines he, List.dropLast_concat]
  have e1 : (linesT g ++ [Str.ofString ""]).getLastD (Str.ofString "") = Str.ofString "" := by simp
  rw [e1]
  have u := upto_house h10 he nd g.length (Nat.le_refl _)
  rw [List.take_length] at u
  have el : (linesT g).length = g.length := by unfold linesT; rw [List.length_map]
  rw [← el] at u
  exact (u.full _).1 ⟨rfl, hE⟩
/-- a text of a drawn house is short -/
theorem house_len2 : ∀ (h : Hs) (acc : Str), (∀ r ∈ h, small r) → (h.foldl (fun acc r => acc ++ lineT (Str.ofString "room") r) acc).length ≤ acc.length + 5 * h.length + 3 * h.flatten.length
  | [], acc, _ => by simp
  | r :: h, acc, ok => by
    have ih := house_len2 h (acc ++ lineT (Str.ofString "room") r) fun r' hr => ok r' (List.mem_cons_of_mem _ hr)
    have := line_len r (Str.ofString "room") (ok r (List.mem_cons_self ..))
    rw [Str.length_append] at ih
    rw [room_len] at this
    rw [List.foldl_cons, List.length_cons, List.flatten_cons, List.length_append]
    omega
theorem _root_.Dl.IsHs.flen {h : Hs} {rooms wires : Nat} (hh : IsHs h rooms wires) : h.flatten.length = 2 * wires := by
  have := hh.perm.length_eq
  rw [List.length_map, List.length_range] at this
  exact this
theorem _root_.Dl.IsHs.low {h : Hs} {rooms wires : Nat} (hh : IsHs h rooms wires) : ∀ x ∈ h.flatten, 0 ≤ x ∧ x < 2 * wires := fun x hx => by
  have := hh.perm.mem_iff.mp hx
  obtain ⟨k, hk, rfl⟩ := List.mem_map.mp this
  rw [List.mem_range] at hk
  omega
theorem _root_.Dl.IsHs.rows {h : Hs} {rooms wires : Nat} (hh : IsHs h rooms wires) {r : List Int} (hr : r ∈ h) : r.length ≤ 2 * wires ∧ ∀ x ∈ r, 0 ≤ x ∧ x < 2 * wires := by
  have e2 := (List.sublist_flatten_of_mem hr).length_le
  rw [hh.flen] at e2
  exact ⟨e2, fun x hx => hh.low x (List.mem_flatten.mpr ⟨r, hr, hx⟩)⟩
end Lw

set_option Elab.async false
set_option linter.all false
set_option maxRecDepth 100000
set_option maxHeartbeats 2000000
/-! What is heard (an exception caught, or what is told); a text bent: its spec. -/
namespace Lw
open PySem PySem.Spec PyProof.Rows L2 Dl
/-! ### texts whose signs are signs -/
def gS (x : Str) : Prop := ∀ c ∈ TL.tl x, c < 1114112
theorem gS_app {x y : Str} (hx : gS x) (hy : gS y) : gS (x ++ y) := fun c hc => by
  rw [TL.tl_append, List.mem_append] at hc
  exact hc.elim (hx c) (hy c)
theorem gS_ok {x : Str} (h : gS x) : PyData.strOk x = true := by
  unfold PyData.strOk
  rw [Array.all_eq_true']
  intro c hc
  exact decide_eq_true (h c (Array.mem_toList_iff.mpr hc))
theorem join_mem {y : Str} : ∀ {ps : List Str} {p : Str}, p ∈ ps → ∀ c ∈ TL.tl p, c ∈ TL.tl (Str.join y ps)
  | [a], p, hp, c, hc => by rw [List.mem_singleton] at hp; subst hp; exact hc
  | a :: b :: r, p, hp, c, hc => by
    rw [join_cons, TL.tl_append, TL.tl_append, List.mem_append, List.mem_append]
    rcases List.mem_cons.mp hp with rfl | hp
    · exact .inl (.inl hc)
    · exact .inr (join_mem hp c hc)
theorem gS_join {y : Str} (hy : gS y) : ∀ {ps : List Str}, (∀ p ∈ ps, gS p) → gS (Str.join y ps)
  | [], _ => fun c hc => by cases hc
  | [a], h => h a (List.mem_singleton.mpr rfl)
  | a :: b :: r, h => by
    rw [join_cons]
    exact gS_app (gS_app (h a (List.mem_cons_self ..)) hy) (gS_join hy fun p hp => h p (List.mem_cons_of_mem _ hp))
theorem gS_split {x y : Str} (hx : gS x) : ∀ p ∈ Txt.split x y, gS p := fun p hp c hc => by
  have := join_mem (y := y) hp c hc
  rw [StrLaws.join_split] at this
  exact hx c this
theorem gS_cut {z : Str} (h : gS z) (l u : Option Int) : gS (cutS z l u) := fun c hc => by
  unfold cutS at hc
  have hc : c ∈ List.take _ (List.drop _ z.cps.toList) := hc
  exact h c (List.mem_of_mem_drop (List.mem_of_mem_take hc))
theorem gS_num {k : Int} (h : 0 ≤ k ∧ k < 100) : gS (numT k) := fun c hc => by
  have := (num100 h).2.1
  rw [List.all_eq_true] at this
  have := fig_in c (of_decide_eq_true (this c hc))
  omega
def gB (x : Str) : Bool := (TL.tl x).all fun c => decide (c < 1114112)
theorem gS_lit {x : Str} (h : gB x = true) : gS x := fun c hc => by
  unfold gB at h
  rw [List.all_eq_true] at h
  exact of_decide_eq_true (h c hc)
theorem cutL_strs3 (ws : List Str) (l u : Option Int) : ∃ vs, cutL (ws.map D.str) l u = vs.map D.str ∧ wtS vs ≤ wtS ws ∧ ∀ v ∈ vs, v ∈ ws := by
  unfold cutL
  refine ⟨(ws.drop (HT.sIx (ws.map D.str).length 0 l)).take (HT.sIx (ws.map D.str).length (ws.map D.str).length u - HT.sIx (ws.map D.str).length 0 l), by rw [List.map_take, List.map_drop], ?_, fun v hv => List.mem_of_mem_drop (List.mem_of_mem_take hv)⟩
  exact Nat.le_trans (wtS_take _ _) (wtS_drop _ _)
theorem gS_words : ∀ (ns : List Int) (w : Str), small ns → gS w → gS (wordsT w ns)
  | [], w, _, hw => hw
  | k :: ns, w, h, hw => gS_words ns (w ++ Str.ofString " " ++ numT k) (fun n hn => h n (List.mem_cons_of_mem _ hn)) (gS_app (gS_app hw (gS_lit (by decide +kernel))) (gS_num (h k (List.mem_cons_self ..))))
theorem gS_line {ns : List Int} {w : Str} (h : small ns) (hw : gS w) : gS (lineT w ns) := gS_app (gS_words ns w h hw) (gS_lit (by decide +kernel))
abbrev textT : Str := Str.ofString "text"
structure okV (v : D) : Prop where
  fl : flat v = true
  rp : rpOk v
  len : textT.length + (shownD v).length ≤ sizeLine
theorem tm_house {h : Hs} (ok : okH h) : tm 2 (encH h) = true := by
  show tm 2 (.tup (h.map encI)) = true
  simp only [tm]
  exact tms_map fun r hr => tm_encI (ok.rows r hr).2
theorem wt_rows : ∀ (g : Hs), wtDs (g.map encI) ≤ 201 * g.flatten.length + g.length
  | [] => by simp [wtDs]
  | r :: g => by
    have ih := wt_rows g
    have := wt_encI r
    simp only [List.map_cons, wtDs, List.flatten_cons, List.length_append, List.length_cons]
    omega
theorem shp_house {o : Hs} (ok : okH o) : shp (encH o) := shp_of (tm_house ok) (by decide)
theorem eq_house {o : Hs} (ok : okH o) : PyData.eqv (toPy (encH o)) (toPy (encH o)) = true := SeqAt.eqv_refl _ (SeqAt.canLay_of_shaped (shp_house ok).2)
theorem st_ok {wires : Nat} {b : List Int} {a : Int} (hs : IsSt wires b a) (hw : wires ≤ 40) : b.length = 2 * wires ∧ small b := by
  obtain ⟨ps, rfl, hl, hp⟩ := hs.pairs
  refine ⟨by rw [pairsF_len, hl], fun x hx => ?_⟩
  obtain ⟨p, hpm, e⟩ := pairsF_mem hx
  obtain ⟨p1, p2, p3, p4⟩ := hp p hpm
  omega
theorem small_low {g : Hs} (low : ∀ x ∈ g.flatten, 0 ≤ x ∧ x < 40) : ∀ r ∈ g, small r := fun r hr x hx => by
  have := low x (List.mem_flatten.mpr ⟨r, hr, hx⟩)
  omega
/-- a house of few ends shown -/
theorem rp_house {g : Hs} (h1 : g.length ≤ 10) (h2 : g.flatten.length ≤ 40) (low : ∀ x ∈ g.flatten, 0 ≤ x ∧ x < 40) : rpOk (.lst [encH g]) := by
  refine rpOk_of (k := 3) ?_ (by decide) ?_
  · have e : tm 2 (encH g) = true := by
      show tm 2 (.tup (g.map encI)) = true
      simp only [tm]
      exact tms_map fun r hr => tm_encI (small_low low r hr)
    simp only [tm, tms, e, Bool.and_true]
  · have e1 := wt_rows g
    simp only [wtD, wtDs, encH]
    omega
theorem rp_j : ∀ j : Fin 11, rpOk (.str (textT ++ shownD (.int j.val))) ∧ rpOk (.int j.val) ∧ textT.length + (shownD (.int j.val)).length ≤ sizeLine := by
  unfold rpOk shownD
  decide +kernel
theorem rp_non : rpOk .non ∧ textT.length + (shownD .non).length ≤ sizeLine := by
  unfold rpOk shownD
  decide +kernel
theorem ok_j {j : Nat} (h : j ≤ 10) : okV (.int j) := by
  have := rp_j ⟨j, by omega⟩
  exact ⟨rfl, this.2.1, this.2.2⟩
theorem ok_non : okV .non := ⟨rfl, rp_non.1, rp_non.2⟩
def sp_l_bend : DSp := fun ds n X Q => ∃ (p : Addr) (k : Nat) (t : Str), ds = [.loc p, .str t] ∧ t.length ≤ 4000 ∧ gS t ∧ PenL n p k ∧ k + 20 ≤ lim ∧ ∀ (t' : Str) n', t'.length ≤ 4 * t.length + 60 → gS t' → Drew n p (k + 20) n' → Q (.str t') n'
theorem len_l_bend : ∀ ds n X Q, sp_l_bend ds n X Q → ds.length = 2 := by
  rintro ds n X Q ⟨p, k, t, rfl, _⟩; rfl
end Lw

set_option Elab.async false
set_option linter.all false
set_option maxRecDepth 100000
set_option maxHeartbeats 2000000
/-! Ends counted, wires, standings looked at. -/
namespace Lw
open PySem PySem.Spec PyProof.Rows L2 Dl
def wiredL (b : List Int) (w : Nat) : List Int := (List.range w).map fun k => b.getD (2 * k) 0 + b.getD (2 * k + 1) 0
def wiredOk (b : List Int) (w : Nat) : Prop := ∀ x ∈ wiredL b w, 1 ≤ x ∧ x ≤ 9
instance (b : List Int) (w : Nat) : Decidable (wiredOk b w) := by unfold wiredOk; infer_instance
theorem len_sum : ∀ g : Hs, (g.map fun r => (r.length : Int)).sum = (g.flatten.length : Int)
  | [] => rfl
  | r :: g => by
    rw [List.map_cons, List.sum_cons, len_sum g, List.flatten_cons, List.length_append]; omega
theorem rgc (w : Nat) (h : w ≤ 1000) : RgC 0 ((2 * w : Nat) : Int) 2 w := by
  have e : Builtin.Range.rangeSize 0 ((2 * w : Nat) : Int) 2 = w := by
    unfold Builtin.Range.rangeSize
    rw [if_pos (by decide)]
    split
    · omega
    · omega
  refine ⟨by decide, by decide, ?_, e⟩
  unfold Builtin.Range.small
  rw [e]
  have f : ∀ i : Int, -10000 ≤ i → i ≤ 10000 → Builtin.Range.rangeFitsLong i = true := fun i h1 h2 => by
    unfold Builtin.Range.rangeFitsLong
    rw [decide_eq_true (show -(2 ^ 63) ≤ i by omega), decide_eq_true (show i < 2 ^ 63 by omega)]; rfl
  rw [f 0 (by omega) (by omega), f _ (by omega) (by omega), f 2 (by omega) (by omega), f (w : Int) (by omega) (by omega), if_pos (by decide), f _ (by omega) (by omega)]
  simp
def sp_many_ends : DSp := fun ds n X Q => ∃ g : Hs, ds = [encH g] ∧ g.length ≤ 1000 ∧ (∀ r ∈ g, r.length ≤ 1000) ∧ Q (.int g.flatten.length) n
theorem len_many_ends : ∀ ds n X Q, sp_many_ends ds n X Q → ds.length = 1 := by
  rintro ds n X Q ⟨g, rfl, _⟩; rfl
def rd_many_ends : DTS := (tRetD (tCallN drSum (tConsD (tLcD .bor (tWSeq (tVarD 0)) 1 tYesD (tCallN drLen (tConsD (tVarD 1) tNilD))) tNilD)))
def N_many_ends : List Str := ["house", "room"]
theorem read_many_ends : ∀ ds n Xd Qd, sp_many_ends ds n Xd Qd → rd_many_ends { nx := fun _ n' => Qd .non n', rt := Qd, xr := fun ex _ n' => Xd ex n' } (startD N_many_ends ds) n := by
  rintro ds n Xd Qd ⟨g, rfl, gl, hr, q⟩
  refine ⟨trivial, .inr ⟨small100 (by rw [List.length_map]; omega), flat_encIs g, ?_⟩⟩
  refine lcW_mapE encI (fun r => .int r.length) rfl g [] n (by simp; exact small100 (by omega)) (fun r hr' n' Q' q' => ?_) ?_
  · show Q' (.int ((r.map D.int).length : Int)) n'
    rw [List.length_map]; exact q'
  · refine ⟨g.map fun r => (r.length : Int), by rw [List.nil_append, List.map_map]; rfl, ?_⟩
    rw [len_sum]; exact q
/-- beads of so many wires -/
def sp_wired : DSp := fun ds n X Q => ∃ (b : List Int) (w : Nat) (d : D), ds = [d] ∧ isSeq d b ∧ b.length = 2 * w ∧ w ≤ 1000 ∧ Q (.lst ((wiredL b w).map D.int)) n
theorem len_wired : ∀ ds n X Q, sp_wired ds n X Q → ds.length = 1 := by
  rintro ds n X Q ⟨b, w, d, rfl, _⟩; rfl
def rd_wired : DTS := (tRetD (tLcD .bor (tWRng3 (tCD (.int 0)) (tCallN drLen (tConsD (tVarD 0) tNilD)) (tCD (.int 2))) 1 tYesD (tOpD drAdd (tOpD drIx (tVarD 0) (tVarD 1)) (tOpD drIx (tVarD 0) (tOpD drAdd (tVarD 1) (tCD (.int 1)))))))
def N_wired : List Str := ["beads", "end"]
theorem at_nat {b : List Int} {k : Nat} (h : k < b.length) {i : Int} (hi : i = (k : Int)) : atI (b.map D.int) i = some (.int (b.getD k 0)) := by
  subst hi
  refine atI_nat ?_
  rw [List.getElem?_map, List.getElem?_eq_getElem h, List.getD_eq_getElem?_getD, List.getElem?_eq_getElem h]; rfl
theorem read_wired : ∀ ds n Xd Qd, sp_wired ds n Xd Qd → rd_wired { nx := fun _ n' => Qd .non n', rt := Qd, xr := fun ex _ n' => Xd ex n' } (startD N_wired ds) n := by
  rintro ds n Xd Qd ⟨b, w, d, rfl, hd, hb, hw, q⟩
  have hl : ((b.map D.int).length : Int) = ((2 * w : Nat) : Int) := by rw [List.length_map, hb]
  have fl : flatAll (rangeDC 0 2 w) = true := flatAll_map (fun _ => rfl) _
  have e0 : rangeDC 0 2 w = (List.range w).map fun (k : Nat) => D.int (0 + (k : Int) * 2) := rfl
  have e1 : (wiredL b w).map D.int = [] ++ (List.range w).map fun k => D.int (b.getD (2 * k) 0 + b.getD (2 * k + 1) 0) := by unfold wiredL; rw [List.map_map, List.nil_append]; rfl
  rw [e1] at q
  rcases hd with rfl | rfl
  · refine ⟨trivial, w, by rw [hl]; exact rgc w hw, by omega, fl, ?_⟩
    rw [e0]
    refine lcW_mapE (fun k : Nat => D.int (0 + (k : Int) * 2)) (fun k => D.int (b.getD (2 * k) 0 + b.getD (2 * k + 1) 0)) rfl (List.range w) [] n (by simp; exact small100 (by omega)) (fun k hk n' Q' q' => ?_) q
    rw [List.mem_range] at hk
    exact ⟨_, at_nat (k := 2 * k) (by omega) (by omega), rfl, _, at_nat (k := 2 * k + 1) (by omega) (by omega), rfl, q'⟩
  · refine ⟨trivial, w, by rw [hl]; exact rgc w hw, by omega, fl, ?_⟩
    rw [e0]
    refine lcW_mapE (fun k : Nat => D.int (0 + (k : Int) * 2)) (fun k => D.int (b.getD (2 * k) 0 + b.getD (2 * k + 1) 0)) rfl (List.range w) [] n (by simp; exact small100 (by omega)) (fun k hk n' Q' q' => ?_) q
    rw [List.mem_range] at hk
    exact ⟨_, at_nat (k := 2 * k) (by omega) (by omega), rfl, _, at_nat (k := 2 * k + 1) (by omega) (by omega), rfl, q'⟩
/-- beads of a house, of the right many -/
structure GD (g : Hs) (b : List Int) (w : Nat) : Prop where
  gl : g.length ≤ 1000
  gr : ∀ r ∈ g, r.length ≤ 1000
  gf : g.flatten.length = 2 * w
  bl : b.length = 2 * w
  w1 : w ≤ 1000
def low9 (b : List Int) : Bool := b.all fun i => decide (0 ≤ i) && decide (i ≤ 9)
def beadsB (b : List Int) (w : Nat) : Bool := low9 b && decide (wiredOk b w)
def standB (b : List Int) (w : Nat) (a : Int) : Bool := beadsB b w && (decide (a < 2 * w) && decide (0 < b.getD a.toNat 0))
def sp_are_beads : DSp := fun ds n X Q => ∃ (g : Hs) (b : List Int) (w : Nat), ds = [encH g, encI b] ∧ GD g b w ∧ Q (.bl (beadsB b w)) n
theorem len_are_beads : ∀ ds n X Q, sp_are_beads ds n X Q → ds.length = 2 := by
  rintro ds n X Q ⟨g, b, w, rfl, _⟩; rfl
def rd_are_beads : DTS := (tSeqD (tIfSD (tOrD (tNotD (tTestD (tCallN drIsi (tConsD (tVarD 1) (tConsD (tCD (.opq (.ty "tuple"))) tNilD))))) (tTestD (tOpD drNe (tCallN drLen (tConsD (tVarD 1) tNilD)) (tCallD sp_many_ends (tConsD (tVarD 0) tNilD))))) (tRetD (tCD (.bl false))) tNextD)
  (tSeqD (tIfSD (tNotD (tTestD (tCallN drAll (tConsD (tLcD .bor (tWSeq (tVarD 1)) 2 tYesD (tCallD sp_is_within (tConsD (tVarD 2) (tConsD (tCD (.int 0)) (tConsD (tCD (.int 9)) tNilD))))) tNilD)))) (tRetD (tCD (.bl false))) tNextD)
  (tRetD (tCallN drAll (tConsD (tLcD .bor (tWSeq (tCallD sp_wired (tConsD (tVarD 1) tNilD))) 2 tYesD (tChainD drLe drLe (tCD (.int 1)) (tVarD 2) (tCD (.int 9)))) tNilD)))))
def N_are_beads : List Str := ["house", "thing", "many"]
theorem wl_len (b : List Int) (w : Nat) : (wiredL b w).length = w := by unfold wiredL; rw [List.length_map, List.length_range]
/-- all([1 <= many <= 9 for many in ..]) -/
theorem lc_19 {i : Nat} {m : Md} {Δ : DEnv} {xs : List Int} {n : Sto} {Q : D → Sto → Prop} (hl : xs.length ≤ 1000) (hj : ∀ d, (Δ.set i (some (.frz d)))[i]? = some (some (.frz d)))
    (h : Q (.lst ((xs.map fun x => decide (1 ≤ x) && decide (x ≤ 9)).map D.bl)) n) : lcW i tYesD (tChainD drLe drLe (tCD (.int 1)) (tVarD i) (tCD (.int 9))) m Δ Q (xs.map D.int) [] n := by
  refine lcW_mapE D.int (fun x => .bl (decide (1 ≤ x) && decide (x ≤ 9))) rfl xs [] n (by simp; exact small100 (by omega)) (fun x hx n' Q' q' => ?_) (by rw [List.nil_append]; rw [List.map_map] at h; exact h)
  simp only [tChainD, tCD]
  refine var_at (hj _) ?_
  by_cases h1 : 1 ≤ x
  · rw [decide_eq_true h1, Bool.true_and] at q'
    exact chain_yes (decide_eq_true h1) q'
  · rw [decide_eq_false h1, Bool.false_and] at q'
    exact chain_no (decide_eq_false h1) q'
theorem all_19 (b : List Int) (w : Nat) : ((wiredL b w).map fun x => decide (1 ≤ x) && decide (x ≤ 9)).all id = decide (wiredOk b w) := by
  rw [List.all_map, Bool.eq_iff_iff, List.all_eq_true, decide_eq_true_iff]
  unfold wiredOk
  constructor
  · intro h x hx
    have := h x hx
    simp only [Function.comp, id, Bool.and_eq_true, decide_eq_true_eq] at this
    exact this
  · intro h x hx
    have := h x hx
    simp only [Function.comp, id, Bool.and_eq_true, decide_eq_true_eq]
    exact this
theorem read_are_beads : ∀ ds n Xd Qd, sp_are_beads ds n Xd Qd → rd_are_beads { nx := fun _ n' => Qd .non n', rt := Qd, xr := fun ex _ n' => Xd ex n' } (startD N_are_beads ds) n := by
  rintro ds n Xd Qd ⟨g, b, w, rfl, G, q⟩
  have w1 := G.w1
  have bl := G.bl
  have gf := G.gf
  refine ⟨"tuple", true, rfl, by decide +kernel, ?_⟩
  refine ⟨g, rfl, G.gl, G.gr, ?_⟩
  refine ifF (by show (!decide (((b.map D.int).length : Int) = (g.flatten.length : Int))) = false; rw [List.length_map, bl, gf]; simp) ?_
  refine ⟨trivial, .inr ⟨by rw [List.length_map]; exact small100 (by omega), flat_ints b, ?_⟩⟩
  refine lcW_mapE D.int (fun i => .bl (decide (0 ≤ i) && decide (i ≤ 9))) rfl b [] n (by simp; exact small100 (by omega)) (fun i hi n' Q' q' => .inl ⟨i, 0, 9, rfl, q'⟩) ?_
  refine ⟨b.map fun i => decide (0 ≤ i) && decide (i ≤ 9), by rw [List.nil_append, List.map_map]; rfl, ?_⟩
  have e1 : (b.map fun i => decide (0 ≤ i) && decide (i ≤ 9)).all id = low9 b := by rw [List.all_map]; rfl
  unfold beadsB at q
  refine ifX (fun h => ?_) (fun h => ?_)
  · have h : (!((b.map fun i => decide (0 ≤ i) && decide (i ≤ 9)).all id)) = true := h
    rw [e1, Bool.not_eq_true'] at h
    rw [h, Bool.false_and] at q
    exact q
  · have h : (!((b.map fun i => decide (0 ≤ i) && decide (i ≤ 9)).all id)) = false := h
    rw [e1, Bool.not_eq_false'] at h
    rw [h, Bool.true_and] at q
    refine ⟨trivial, .inl ⟨b, w, _, rfl, .inr rfl, bl, w1, by rw [List.length_map, wl_len]; exact small100 (by omega), flat_ints _, lc_19 (by rw [wl_len]; exact w1) (fun _ => rfl) ⟨_, rfl, ?_⟩⟩⟩
    rw [all_19]
    exact q
def sp_is_standing : DSp := fun ds n X Q => ∃ (g : Hs) (b : List Int) (w : Nat) (a : Int), ds = [encH g, encS b a] ∧ GD g b w ∧ 0 ≤ a ∧ Q (.bl (standB b w a)) n
theorem len_is_standing : ∀ ds n X Q, sp_is_standing ds n X Q → ds.length = 2 := by
  rintro ds n X Q ⟨g, b, w, a, rfl, _⟩; rfl
def rd_is_standing : DTS := (tSeqD (tIfSD (tOrD (tNotD (tTestD (tCallN drIsi (tConsD (tVarD 1) (tConsD (tCD (.opq (.ty "tuple"))) tNilD))))) (tOrD (tTestD (tOpD drNe (tCallN drLen (tConsD (tVarD 1) tNilD)) (tCD (.int 2)))) (tNotD (tTestD (tCallD sp_are_beads (tConsD (tVarD 0) (tConsD (tOpD drIx (tVarD 1) (tCD (.int 0))) tNilD))))))) (tRetD (tCD (.bl false))) tNextD)
  (tRetD (tAndVD (tCallD sp_is_within (tConsD (tOpD drIx (tVarD 1) (tCD (.int 1))) (tConsD (tCD (.int 0)) (tConsD (tOpD drSub (tCallD sp_many_ends (tConsD (tVarD 0) tNilD)) (tCD (.int 1))) tNilD)))) (tOpD drGt (tOpD drIx (tOpD drIx (tVarD 1) (tCD (.int 0))) (tOpD drIx (tVarD 1) (tCD (.int 1)))) (tCD (.int 0))))))
def N_is_standing : List Str := ["house", "thing"]
theorem read_is_standing : ∀ ds n Xd Qd, sp_is_standing ds n Xd Qd → rd_is_standing { nx := fun _ n' => Qd .non n', rt := Qd, xr := fun ex _ n' => Xd ex n' } (startD N_is_standing ds) n := by
  rintro ds n Xd Qd ⟨g, b, w, a, rfl, G, a0, q⟩
  have w1 := G.w1
  have bl := G.bl
  have gf := G.gf
  refine ⟨"tuple", true, rfl, by decide +kernel, ?_⟩
  refine ⟨encI b, rfl, flat_encI b, g, b, w, rfl, G, ?_⟩
  unfold standB at q
  cases hb : beadsB b w with
  | false =>
    rw [hb, Bool.false_and] at q
    exact ifT rfl q
  | true =>
    rw [hb, Bool.true_and] at q
    refine ifF rfl ?_
    refine ⟨.int a, rfl, rfl, g, rfl, G.gl, G.gr, .inl ⟨a, 0, _, rfl, ?_⟩⟩
    by_cases h : a < 2 * w
    · rw [decide_eq_true h, Bool.true_and] at q
      refine chain_yes (by rw [decide_eq_true a0, decide_eq_true (show a ≤ (g.flatten.length : Int) - 1 by omega)]; rfl) ?_
      refine ⟨encI b, rfl, flat_encI b, .int a, rfl, rfl, _, at_nat (k := a.toNat) (by omega) (by omega), rfl, q⟩
    · rw [decide_eq_false h, Bool.false_and] at q
      exact chain_no (by rw [decide_eq_true a0, decide_eq_false (show ¬ a ≤ (g.flatten.length : Int) - 1 by omega)]; rfl) q
end Lw

set_option Elab.async false
set_option linter.all false
set_option maxRecDepth 100000
set_option maxHeartbeats 4000000
/-! Ends sorted. -/
namespace Lw
open PySem PySem.Spec PyProof.Rows L2 Dl
theorem lt_len : ∀ (ns : List Int) (a b : Int), a ≤ b → ns.Pairwise (· < ·) → (∀ x ∈ ns, a ≤ x ∧ x < b) → (ns.length : Int) ≤ b - a
  | [], a, b, h, _, _ => by simp; omega
  | x :: xs, a, b, h, hp, hm => by
    obtain ⟨h1, h2⟩ := List.pairwise_cons.mp hp
    have hx := hm x (List.mem_cons_self ..)
    have := lt_len xs (x + 1) b (by omega) h2 fun y hy => ⟨by have := h1 y hy; omega, (hm y (List.mem_cons_of_mem _ hy)).2⟩
    rw [List.length_cons]; omega
theorem lt_eq : ∀ (ns : List Int) (a : Int), ns.Pairwise (· < ·) → (∀ x ∈ ns, a ≤ x ∧ x < a + ns.length) → ns = (List.range ns.length).map fun (k : Nat) => a + (k : Int)
  | [], a, _, _ => rfl
  | x :: xs, a, hp, hm => by
    obtain ⟨h1, h2⟩ := List.pairwise_cons.mp hp
    have hx := hm x (List.mem_cons_self ..)
    rw [List.length_cons] at hm hx
    have hy : ∀ y ∈ xs, x + 1 ≤ y ∧ y < a + (xs.length + 1 : Nat) := fun y hy => ⟨by have := h1 y hy; omega, (hm y (List.mem_cons_of_mem _ hy)).2⟩
    have := lt_len xs (x + 1) (a + (xs.length + 1 : Nat)) (by omega) h2 hy
    have hxa : x = a := by omega
    subst hxa
    have ih := lt_eq xs (x + 1) h2 fun y h => by have := hy y h; omega
    rw [List.length_cons, List.range_succ_eq_map, List.map_cons, List.map_map]
    have e0 : x + ((0 : Nat) : Int) = x := by simp
    rw [e0]
    congr 1
    rw [ih, List.length_map, List.length_range]
    refine List.map_congr_left fun k _ => ?_
    show x + 1 + (k : Int) = x + ((k + 1 : Nat) : Int)
    omega
theorem sorted_all {xs ns : List Int} (hp : ns.Perm xs) (hs : ns.Pairwise (· ≤ ·)) : (endsB xs = true ∧ xs.Nodup) ↔ xs ≠ [] ∧ xs.length ≤ 40 ∧ ns = rangeI xs.length ∧ ¬ ((xs.length : Nat) : Int) % 2 = 1 := by
  have hl := hp.length_eq
  constructor
  · rintro ⟨h, nd⟩
    have nds : ns.Nodup := hp.nodup_iff.mpr nd
    unfold endsB at h
    simp only [Bool.and_eq_true, decide_eq_true_eq, List.all_eq_true] at h
    obtain ⟨⟨⟨h1, h2⟩, h3⟩, h4⟩ := h
    refine ⟨fun e => by rw [e] at h1; simp at h1, h2, ?_, by omega⟩
    have lt : ns.Pairwise (· < ·) := (hs.and nds).imp fun {a b} h => by have := h.1; have := h.2; omega
    have := lt_eq ns 0 lt fun x hx => by have := h4 x (hp.mem_iff.mp hx); omega
    rw [hl] at this
    rw [this]
    unfold rangeI
    exact List.map_congr_left fun k _ => by omega
  · rintro ⟨h1, h2, h3, h4⟩
    have hpos : 0 < xs.length := List.length_pos_iff.mpr h1
    have mem : ∀ x, x ∈ xs ↔ 0 ≤ x ∧ x < (xs.length : Int) := fun x => by rw [← hp.mem_iff, h3, mem_rangeI]
    refine ⟨?_, hp.nodup_iff.mp ?_⟩
    · rw [endsB_all (by omega) (by omega) (by omega), List.all_eq_true]
      intro x hx
      have := (mem x).mp hx
      simp only [Bool.and_eq_true, decide_eq_true_eq]
      omega
    · rw [h3]
      unfold rangeI
      exact List.Pairwise.map _ (fun a b hab z => hab (by omega)) List.nodup_range
theorem cut_mid {α : Type} (xs : List α) {a b : Int} (h0 : 0 ≤ a) (h1 : a ≤ b) : cutL xs (some a) (some b) = (xs.drop a.toNat).take (b - a).toNat := by
  unfold cutL
  obtain ⟨i, rfl⟩ := Int.eq_ofNat_of_zero_le h0
  obtain ⟨j, rfl⟩ := Int.eq_ofNat_of_zero_le (Int.le_trans h0 h1)
  rw [show HT.sIx xs.length 0 (some (i : Int)) = min i xs.length from HT.sIx_nat _ _ i, show HT.sIx xs.length xs.length (some (j : Int)) = min j xs.length from HT.sIx_nat _ _ j, Int.toNat_natCast]
  by_cases h : i ≤ xs.length
  · rw [Nat.min_eq_left h, List.take_eq_take_iff, List.length_drop]; omega
  · rw [Nat.min_eq_right (show xs.length ≤ i by omega), List.drop_of_length_le (Nat.le_refl _), List.drop_of_length_le (show xs.length ≤ i by omega)]; simp
theorem cut_last {α : Type} (xs : List α) {a : Int} (h0 : 0 ≤ a) : cutL xs (some a) (some (-1)) = (xs.drop a.toNat).take (xs.length - 1 - a.toNat) := by
  unfold cutL
  obtain ⟨i, rfl⟩ := Int.eq_ofNat_of_zero_le h0
  have e : HT.sIx xs.length xs.length (some (-1)) = xs.length - 1 := by
    show (if (-1 : Int) < 0 then ((-1 : Int) + (xs.length : Int)).toNat else min (-1 : Int).toNat xs.length) = _
    rw [if_pos (by decide)]; omega
  rw [show HT.sIx xs.length 0 (some (i : Int)) = min i xs.length from HT.sIx_nat _ _ i, e, Int.toNat_natCast]
  by_cases h : i ≤ xs.length
  · rw [Nat.min_eq_left h]
  · rw [Nat.min_eq_right (show xs.length ≤ i by omega), List.drop_of_length_le (Nat.le_refl _), List.drop_of_length_le (show xs.length ≤ i by omega)]; simp
theorem cut_from {α : Type} (xs : List α) {a : Int} (h0 : 0 ≤ a) : cutL xs (some a) none = xs.drop a.toNat := by
  unfold cutL
  obtain ⟨i, rfl⟩ := Int.eq_ofNat_of_zero_le h0
  rw [show HT.sIx xs.length 0 (some (i : Int)) = min i xs.length from HT.sIx_nat _ _ i, HT.sIx_none, Int.toNat_natCast]
  by_cases h : i ≤ xs.length
  · rw [Nat.min_eq_left h, List.take_of_length_le (by rw [List.length_drop]; exact Nat.le_refl _)]
  · rw [Nat.min_eq_right (show xs.length ≤ i by omega), List.drop_of_length_le (Nat.le_refl _), List.drop_of_length_le (show xs.length ≤ i by omega)]; simp
/-- beads that wires have few of are few -/
theorem low_wired {b : List Int} {w : Nat} (hl : b.length = 2 * w) (h0 : ∀ x ∈ b, 0 ≤ x) (ok : wiredOk b w) : low9 b = true := by
  unfold low9
  rw [List.all_eq_true]
  intro x hx
  obtain ⟨i, hi, rfl⟩ := List.getElem_of_mem hx
  have g : ∀ k, 0 ≤ b.getD k 0 := fun k => by
    rw [List.getD_eq_getElem?_getD]
    cases e : b[k]? with
    | none => simp
    | some y => exact h0 y (List.mem_of_getElem? e)
  have := ok _ (List.mem_map.mpr ⟨i / 2, List.mem_range.mpr (by omega), rfl⟩)
  have e : b[i] = b.getD i 0 := by rw [List.getD_eq_getElem?_getD, List.getElem?_eq_getElem hi]; rfl
  have g1 := g (2 * (i / 2))
  have g2 := g (2 * (i / 2) + 1)
  have : b.getD i 0 ≤ 9 := by
    rcases (show i = 2 * (i / 2) ∨ i = 2 * (i / 2) + 1 by omega) with h | h <;> (rw [h]; omega)
  simp only [Bool.and_eq_true, decide_eq_true_eq]
  exact ⟨h0 _ hx, by omega⟩
end Lw

set_option Elab.async false
set_option linter.all false
set_option maxRecDepth 100000
set_option maxHeartbeats 2000000
/-! Readings: a house and a standing as they are shown. -/
namespace Lw
open PySem PySem.Spec PyProof.Rows L2 Dl
def sp_line_of : DSp := fun ds n X Q => ∃ (w : Str) (ns : List Int) (d : D), ds = [.str w, d] ∧ isSeq d ns ∧ w.length ≤ 100 ∧ ns.length ≤ 100 ∧ small ns ∧ Q (.str (lineT w ns)) n
theorem len_line_of : ∀ ds n X Q, sp_line_of ds n X Q → ds.length = 2 := by
  rintro ds n X Q ⟨w, ns, d, rfl, _⟩; rfl
def rd_line_of : DTS := (tRetD (tOpD drAdd (tJoinD (tCD (.str (Str.ofString " "))) (tOpD drAdd (tLstD (tConsD (tVarD 0) tNilD)) (tLcD .bor (tWSeq (tVarD 1)) 2 tYesD (tCallN drStrI (tConsD (tVarD 2) tNilD))))) (tCD (.str (Str.ofString "\n")))))
def N_line_of : List Str := ["word", "numbers", "number"]
theorem read_line_of : ∀ ds n Xd Qd, sp_line_of ds n Xd Qd → rd_line_of { nx := fun _ n' => Qd .non n', rt := Qd, xr := fun ex _ n' => Xd ex n' } (startD N_line_of ds) n := by
  rintro ds n Xd Qd ⟨w, ns, d, rfl, hd, hw, hl, hs, q⟩
  have key : drAdd (.lst [.str w]) (.lst ((ns.map numT).map D.str)) fun z => ∃ ys : List Str, z = .lst (ys.map D.str) ∧ (ys.map (·.length)).sum + ys.length * (Str.ofString " ").length ≤ 16777216 ∧ drAdd (.str (Txt.join (Str.ofString " ") ys)) (.str (Str.ofString "\n")) fun z => Qd z n := by
    refine ⟨small100 (by simp; omega), rfl, flat_strs _, w :: ns.map numT, rfl, ?_, ?_, ?_⟩
    · have := num_sum ns hs
      rw [sp_len]
      simp only [List.map_cons, List.sum_cons, List.length_cons, List.length_map] at this ⊢
      omega
    · rw [TL.join_eq, ← words_join]
      have := words_len ns w hs
      exact small100 (by rw [nl_len]; omega)
    · rw [TL.join_eq, ← words_join]
      exact q
  refine ⟨by show 1 ≤ sizeLine; decide, trivial, ?_⟩
  rcases hd with rfl | rfl
  · exact .inl ⟨small100 (by simp; omega), flat_ints ns, lc_strs hs hl (fun _ => rfl) key⟩
  · exact .inr ⟨small100 (by simp; omega), flat_ints ns, lc_strs hs hl (fun _ => rfl) key⟩
def sp_show_house : DSp := fun ds n X Q => ∃ h : Hs, ds = [encH h] ∧ okH h ∧ Q (.str (houseT h)) n
theorem len_show_house : ∀ ds n X Q, sp_show_house ds n X Q → ds.length = 1 := by
  rintro ds n X Q ⟨h, rfl, _⟩; rfl
def rd_show_house : DTS := (tRetD (tJoinD (tCD (.str (Str.ofString ""))) (tLcD .bor (tWSeq (tVarD 0)) 1 tYesD (tCallD sp_line_of (tConsD (tCD (.str (Str.ofString "room"))) (tConsD (tVarD 1) tNilD))))))
def N_show_house : List Str := ["house", "room"]
theorem read_show_house : ∀ ds n Xd Qd, sp_show_house ds n Xd Qd → rd_show_house { nx := fun _ n' => Qd .non n', rt := Qd, xr := fun ex _ n' => Xd ex n' } (startD N_show_house ds) n := by
  rintro ds n Xd Qd ⟨h, rfl, ok, q⟩
  have hl := ok.len
  refine ⟨trivial, .inr ⟨small100 (by rw [List.length_map]; omega), flat_encIs h, lcW_mapE encI (fun r => .str (lineT (Str.ofString "room") r)) rfl h [] n (by simp; exact small100 (by omega)) (fun r hr n' Q' q' => ?_) ?_⟩⟩
  · obtain ⟨h1, h2⟩ := ok.rows r hr
    exact ⟨_, r, _, rfl, .inr rfl, by rw [room_len]; decide, h1, h2, q'⟩
  · refine ⟨h.map (lineT (Str.ofString "room")), by rw [List.nil_append, List.map_map]; rfl, ?_, ?_⟩
    · have := lines_sum h ok.rows
      rw [empty_len]
      omega
    · rw [TL.join_eq, house_join]; exact q
def sp_show_standing : DSp := fun ds n X Q => ∃ (b : List Int) (a : Int), ds = [encS b a] ∧ b.length ≤ 100 ∧ small b ∧ 0 ≤ a ∧ a < 100 ∧ Q (.str (standT b a)) n
theorem len_show_standing : ∀ ds n X Q, sp_show_standing ds n X Q → ds.length = 1 := by
  rintro ds n X Q ⟨b, a, rfl, _⟩; rfl
def rd_show_standing : DTS := (tSeqD (tAsgD (tVarD 0) (gTupD 2 (gConsD (gNameD 1) (gConsD (gNameD 2) gNilD))))
  (tRetD (tOpD drAdd (tCallD sp_line_of (tConsD (tCD (.str (Str.ofString "beads"))) (tConsD (tVarD 1) tNilD))) (tCallD sp_line_of (tConsD (tCD (.str (Str.ofString "at"))) (tConsD (tLstD (tConsD (tVarD 2) tNilD)) tNilD))))))
def N_show_standing : List Str := ["standing", "beads", "at"]
theorem read_show_standing : ∀ ds n Xd Qd, sp_show_standing ds n Xd Qd → rd_show_standing { nx := fun _ n' => Qd .non n', rt := Qd, xr := fun ex _ n' => Xd ex n' } (startD N_show_standing ds) n := by
  rintro ds n Xd Qd ⟨b, a, rfl, hl, hs, h0, h1, q⟩
  refine ⟨rfl, _, b, _, rfl, .inr rfl, by rw [beads_len]; decide, hl, hs, by show 1 ≤ sizeLine; decide, _, [a], _, rfl, .inl rfl, by rw [at_len]; decide, by simp, small_one h0 h1, ?_, q⟩
  exact small100 (Nat.le_trans (stand_len hl hs h0 h1) (by decide))
end Lw

set_option Elab.async false
set_option linter.all false
set_option maxRecDepth 100000
set_option maxHeartbeats 2000000
/-! Steps, plain: the other end, a room's round, a bead carried along. -/
namespace Lw
open PySem PySem.Spec PyProof.Rows L2 Dl
def otherE (e : Int) : Int := 4 * (e / 2) + 1 - e
theorem otherE_lt {e : Int} {w : Nat} (h0 : 0 ≤ e) (h1 : e < 2 * w) : 0 ≤ otherE e ∧ otherE e < 2 * w := by unfold otherE; omega
theorem otherE_ne (e : Int) : otherE e ≠ e := by unfold otherE; omega
theorem otherE_other (e : Int) : otherE (otherE e) = e := by unfold otherE; omega
/-- the room of an end: the first that has it -/
def roomOf (h : Hs) (e : Int) : Nat := h.findIdx fun r => decide (e ∈ r)
def turnL (r : List Int) (x : Int) : List Int := r.drop (r.idxOf x + 1) ++ r.take (r.idxOf x + 1)
def rowOf (h : Hs) (e : Int) : List Int := h.getD (roomOf h e) []
def behindL (h : Hs) (e : Int) : List Int := turnL (rowOf h e) e
def ladenL (b : List Int) (es : List Int) : List Int := es.filter fun e => decide (0 < b.getD e.toNat 0)
def nextE (h : Hs) (b : List Int) (a : Int) : Int := (ladenL b (behindL h a)).headD 0
def moveL (b : List Int) (e : Int) : List Int :=
  let c := b.set e.toNat (b.getD e.toNat 0 - 1)
  c.set (otherE e).toNat (c.getD (otherE e).toNat 0 + 1)
theorem turn_mem {r : List Int} {x y : Int} : y ∈ turnL r x ↔ y ∈ r := by
  unfold turnL
  rw [List.mem_append]
  conv => rhs; rw [← List.take_append_drop (r.idxOf x + 1) r, List.mem_append]
  exact Or.comm
theorem turn_len (r : List Int) (x : Int) : (turnL r x).length = r.length := by
  unfold turnL
  rw [List.length_append, List.length_drop, List.length_take]; omega
theorem room_facts {h : Hs} {e : Int} (he : e ∈ h.flatten) : roomOf h e < h.length ∧ h[roomOf h e]? = some (rowOf h e) ∧ e ∈ rowOf h e ∧ rowOf h e ∈ h := by
  obtain ⟨r, hr, hx⟩ := List.mem_flatten.mp he
  have lt : roomOf h e < h.length := List.findIdx_lt_length_of_exists ⟨r, hr, by simpa using hx⟩
  have g : h[roomOf h e]? = some h[roomOf h e] := List.getElem?_eq_getElem lt
  have e1 : rowOf h e = h[roomOf h e] := by unfold rowOf; rw [List.getD_eq_getElem?_getD, g]; rfl
  refine ⟨lt, by rw [g, e1], ?_, by rw [e1]; exact List.getElem_mem lt⟩
  rw [e1]
  exact of_decide_eq_true (List.findIdx_getElem (xs := h) (p := fun r => decide (e ∈ r)) (w := lt))
theorem room_find (h : Hs) (e : Int) : ∀ (k : Nat), k ≤ h.length → (∀ j, j < k → ∀ r, h[j]? = some r → e ∉ r) → (∀ r, h[k]? = some r → e ∈ r) → k < h.length → roomOf h e = k := fun k hk h1 h2 lt => by
  refine (List.findIdx_eq lt).mpr ⟨?_, fun j hj => ?_⟩
  · simpa using h2 _ (List.getElem?_eq_getElem lt)
  · simpa using h1 j hj _ (List.getElem?_eq_getElem (by omega))
/-- a house with a standing of it -/
structure Va (h : Hs) (w : Nat) (b : List Int) (a : Int) : Prop where
  r1 : 1 ≤ h.length
  r2 : h.length ≤ 10
  en : EndsOf h.flatten w
  w1 : 1 ≤ w
  w2 : w ≤ 20
  bl : b.length = 2 * w
  b0 : ∀ x ∈ b, 0 ≤ x
  wi : wiredOk b w
  a0 : 0 ≤ a
  a1 : a < 2 * w
  at' : 0 < b.getD a.toNat 0
theorem nonneg_getD {b : List Int} (h : ∀ x ∈ b, 0 ≤ x) (i : Nat) : 0 ≤ b.getD i 0 := by
  rw [List.getD_eq_getElem?_getD]
  cases e : b[i]? with
  | none => simp
  | some x => exact h x (List.mem_of_getElem? e)
theorem Va.mem {h : Hs} {w : Nat} {b : List Int} {a : Int} (v : Va h w b a) {e : Int} : e ∈ h.flatten ↔ 0 ≤ e ∧ e < 2 * w := by
  refine ⟨fun he => v.en.mem he, fun he => v.en.mem_iff.mpr (List.mem_map.mpr ⟨e.toNat, List.mem_range.mpr (by omega), by omega⟩)⟩
theorem Va.next {h : Hs} {w : Nat} {b : List Int} {a : Int} (v : Va h w b a) : ladenL b (behindL h a) ≠ [] ∧ nextE h b a ∈ rowOf h a ∧ 0 < b.getD (nextE h b a).toNat 0 ∧ 0 ≤ nextE h b a ∧ nextE h b a < 2 * w := by
  have ha := v.mem.mpr ⟨v.a0, v.a1⟩
  obtain ⟨f1, f2, f3, f4⟩ := room_facts ha
  have hm : a ∈ ladenL b (behindL h a) := List.mem_filter.mpr ⟨turn_mem.mpr f3, by simpa using v.at'⟩
  have ne : ladenL b (behindL h a) ≠ [] := fun z => by rw [z] at hm; cases hm
  have hn : nextE h b a ∈ ladenL b (behindL h a) := by
    unfold nextE
    cases e : ladenL b (behindL h a) with
    | nil => exact absurd e ne
    | cons x xs => exact List.mem_cons_self ..
  obtain ⟨m1, m2⟩ := List.mem_filter.mp hn
  have m3 := turn_mem.mp m1
  have := v.mem.mp (List.mem_flatten.mpr ⟨_, f4, m3⟩)
  exact ⟨ne, m3, by simpa using m2, this⟩
theorem set_getD {b : List Int} {i j : Nat} {x : Int} (hi : i < b.length) : (b.set i x).getD j 0 = if j = i then x else b.getD j 0 := by
  rw [List.getD_eq_getElem?_getD, List.getD_eq_getElem?_getD, List.getElem?_set]
  by_cases h : i = j
  · subst h; simp [hi]
  · rw [if_neg h, if_neg (fun z => h z.symm)]
theorem move_len (b : List Int) (e : Int) : (moveL b e).length = b.length := by
  unfold moveL; simp only [List.length_set]
theorem move_getD {b : List Int} {w : Nat} {e : Int} (hb : b.length = 2 * w) (h0 : 0 ≤ e) (h1 : e < 2 * w) (j : Nat) :
    (moveL b e).getD j 0 = if j = e.toNat then b.getD j 0 - 1 else if j = (otherE e).toNat then b.getD j 0 + 1 else b.getD j 0 := by
  have ho := otherE_lt h0 h1
  have hne := otherE_ne e
  unfold moveL
  simp only
  rw [set_getD (by rw [List.length_set]; omega), set_getD (by omega), set_getD (by omega)]
  by_cases j1 : j = (otherE e).toNat
  · rw [if_pos j1, if_neg (by omega), if_neg (by omega), if_pos j1, j1]
  · rw [if_neg j1]
    by_cases j2 : j = e.toNat
    · rw [if_pos j2, if_pos j2, j2]
    · rw [if_neg j2, if_neg j2, if_neg j1]
theorem mem_getD {b : List Int} {x : Int} (h : x ∈ b) : ∃ i, i < b.length ∧ b.getD i 0 = x := by
  obtain ⟨i, hi, e⟩ := List.getElem_of_mem h
  exact ⟨i, hi, by rw [List.getD_eq_getElem?_getD, List.getElem?_eq_getElem hi, e]; rfl⟩
/-- a bead carried from a laden end on -/
theorem Va.move {h : Hs} {w : Nat} {b : List Int} {a e : Int} (v : Va h w b a) (h0 : 0 ≤ e) (h1 : e < 2 * w) (he : 0 < b.getD e.toNat 0) : Va h w (moveL b e) (otherE e) := by
  have ho := otherE_lt h0 h1
  have hne := otherE_ne e
  have g := fun j => move_getD v.bl h0 h1 j
  refine ⟨v.r1, v.r2, v.en, v.w1, v.w2, by rw [move_len]; exact v.bl, fun x hx => ?_, fun x hx => ?_, ho.1, ho.2, ?_⟩
  · obtain ⟨i, hi, rfl⟩ := mem_getD hx
    have := nonneg_getD v.b0 i
    rw [g i]
    split
    · rename_i z; rw [z] at this ⊢; omega
    · split <;> omega
  · unfold wiredL at hx
    obtain ⟨k, hk, rfl⟩ := List.mem_map.mp hx
    have := v.wi _ (List.mem_map.mpr ⟨k, hk, rfl⟩)
    rw [List.mem_range] at hk
    rw [g, g]
    unfold otherE at ho hne ⊢
    split <;> split <;> (try split) <;> (try split) <;> omega
  · have := nonneg_getD v.b0 (otherE e).toNat
    rw [g, if_neg (by omega), if_pos rfl]
    omega
def stepB (h : Hs) (b : List Int) (a : Int) : List Int := moveL b (nextE h b a)
def stepA (h : Hs) (b : List Int) (a : Int) : Int := otherE (nextE h b a)
theorem Va.step {h : Hs} {w : Nat} {b : List Int} {a : Int} (v : Va h w b a) : Va h w (stepB h b a) (stepA h b a) := by
  obtain ⟨_, _, n1, n2, n3⟩ := v.next
  exact v.move n2 n3 n1
/-- ends left, standings come to -/
def trailL (h : Hs) : Nat → List Int × Int → List Int
  | 0, _ => []
  | k + 1, s => nextE h s.1 s.2 :: trailL h k (stepB h s.1 s.2, stepA h s.1 s.2)
def afterS (h : Hs) : Nat → List Int × Int → List Int × Int
  | 0, s => s
  | k + 1, s => afterS h k (stepB h s.1 s.2, stepA h s.1 s.2)
theorem after_succ (h : Hs) : ∀ (k : Nat) (s : List Int × Int), afterS h (k + 1) s = (stepB h (afterS h k s).1 (afterS h k s).2, stepA h (afterS h k s).1 (afterS h k s).2)
  | 0, _ => rfl
  | k + 1, s => after_succ h k _
theorem trail_succ (h : Hs) : ∀ (k : Nat) (s : List Int × Int), trailL h (k + 1) s = trailL h k s ++ [nextE h (afterS h k s).1 (afterS h k s).2]
  | 0, _ => rfl
  | k + 1, s => by
    rw [show trailL h (k + 1 + 1) s = nextE h s.1 s.2 :: trailL h (k + 1) (stepB h s.1 s.2, stepA h s.1 s.2) from rfl, trail_succ h k]; rfl
theorem trail_len (h : Hs) : ∀ (k : Nat) (s : List Int × Int), (trailL h k s).length = k
  | 0, _ => rfl
  | k + 1, s => by rw [trailL, List.length_cons, trail_len h k]
theorem Va.after {h : Hs} {w : Nat} {b : List Int} {a : Int} (v : Va h w b a) : ∀ k, Va h w (afterS h k (b, a)).1 (afterS h k (b, a)).2
  | 0 => v
  | k + 1 => by rw [after_succ]; exact (v.after k).step
theorem Va.trail {h : Hs} {w : Nat} {b : List Int} {a : Int} (v : Va h w b a) : ∀ k, ∀ x ∈ trailL h k (b, a), 0 ≤ x ∧ x < 2 * w
  | 0 => by intro x hx; cases hx
  | k + 1 => fun x hx => by
    rw [trail_succ, List.mem_append, List.mem_singleton] at hx
    rcases hx with hx | rfl
    · exact v.trail k x hx
    · exact (v.after k).next.2.2.2
/-- what has been laid is a standing -/
theorem Va.of {h : Hs} {rooms wires : Nat} {b : List Int} {a : Int} (hh : IsHs h rooms wires) (r1 : 1 ≤ rooms) (r2 : rooms ≤ 10) (w1 : 1 ≤ wires) (w2 : wires ≤ 20) (hs : IsSt wires b a) (hb : standB b wires a = true) : Va h wires b a := by
  obtain ⟨⟨ps, rfl, hp, hq⟩, a0, a1, x, ax, x0⟩ := hs
  unfold standB beadsB at hb
  simp only [Bool.and_eq_true, decide_eq_true_iff] at hb
  refine ⟨by rw [hh.len]; exact r1, by rw [hh.len]; exact r2, hh.perm, w1, w2, by rw [pairsF_len, hp], fun y hy => ?_, hb.1.2, a0, a1, hb.2.2⟩
  obtain ⟨p, hp', rfl | rfl⟩ := pairsF_mem hy
  · exact (hq p hp').1
  · exact (hq p hp').2.1
theorem Va.low {h : Hs} {w : Nat} {b : List Int} {a : Int} (v : Va h w b a) : low9 b = true := low_wired v.bl v.b0 v.wi
theorem Va.le9 {h : Hs} {w : Nat} {b : List Int} {a : Int} (v : Va h w b a) : ∀ x ∈ b, 0 ≤ x ∧ x ≤ 9 := fun x hx => by
  have := v.low
  unfold low9 at this
  rw [List.all_eq_true] at this
  simpa using this x hx
theorem Va.stand {h : Hs} {w : Nat} {b : List Int} {a : Int} (v : Va h w b a) : standB b w a = true := by
  unfold standB beadsB
  rw [v.low, decide_eq_true v.wi, decide_eq_true v.a1, decide_eq_true v.at']; rfl
end Lw

set_option Elab.async false
set_option linter.all false
set_option maxRecDepth 100000
set_option maxHeartbeats 2000000
/-! Readings: steps. -/
namespace Lw
open PySem PySem.Spec PyProof.Rows L2 Dl
theorem at_head {α : Type} {xs : List α} {x : α} (h : xs.head? = some x) : atI xs 0 = some x := by
  cases xs with
  | nil => cases h
  | cons y ys => cases h; exact atI_nat (j := 0) rfl
theorem in_ints' (e : Int) (r : List Int) : inD (.int e) (r.map D.int) = decide (e ∈ r) := by
  unfold inD
  rw [List.any_map, Bool.eq_iff_iff, List.any_eq_true, decide_eq_true_iff]
  constructor
  · rintro ⟨x, hx, z⟩
    have : decide (x = e) = true := z
    rw [← of_decide_eq_true this]; exact hx
  · exact fun h => ⟨e, h, by show decide (e = e) = true; simp⟩
theorem sc_intsA (r : List Int) : (r.map D.int).all scD = true := by
  rw [List.all_eq_true]
  intro d hd
  obtain ⟨x, _, rfl⟩ := List.mem_map.mp hd
  rfl
theorem cut_to {α : Type} (xs : List α) {a : Int} (h0 : 0 ≤ a) : cutL xs none (some a) = xs.take a.toNat := by
  unfold cutL
  obtain ⟨i, rfl⟩ := Int.eq_ofNat_of_zero_le h0
  rw [show HT.sIx xs.length xs.length (some (i : Int)) = min i xs.length from HT.sIx_nat _ _ i, show HT.sIx xs.length 0 none = 0 from rfl, Int.toNat_natCast, List.drop_zero, Nat.sub_zero]
  rw [List.take_eq_take_iff]; omega
/-! ### other_end, ends_of, room_of -/
def sp_other_end : DSp := fun ds n X Q => ∃ e : Int, ds = [.int e] ∧ Q (.int (otherE e)) n
theorem len_other_end : ∀ ds n X Q, sp_other_end ds n X Q → ds.length = 1 := by rintro ds n X Q ⟨e, rfl, _⟩; rfl
def rd_other_end : DTS := (tRetD (tOpD drSub (tOpD drAdd (tOpD drMul (tCD (.int 4)) (tOpD drDiv (tVarD 0) (tCD (.int 2)))) (tCD (.int 1))) (tVarD 0)))
def N_other_end : List Str := ["end"]
theorem read_other_end : ∀ ds n Xd Qd, sp_other_end ds n Xd Qd → rd_other_end { nx := fun _ n' => Qd .non n', rt := Qd, xr := fun ex _ n' => Xd ex n' } (startD N_other_end ds) n := by
  rintro ds n Xd Qd ⟨e, rfl, q⟩
  exact ⟨⟨by decide, by decide⟩, .inl ⟨by decide, by decide⟩, q⟩
def sp_ends_of : DSp := fun ds n X Q => ∃ (h : Hs) (i : Nat) (r : List Int), ds = [encH h, .int i] ∧ h[i]? = some r ∧ Q (encI r) n
theorem len_ends_of : ∀ ds n X Q, sp_ends_of ds n X Q → ds.length = 2 := by rintro ds n X Q ⟨h, i, r, rfl, _⟩; rfl
def rd_ends_of : DTS := (tRetD (tOpD drIx (tVarD 0) (tVarD 1)))
def N_ends_of : List Str := ["house", "room"]
theorem read_ends_of : ∀ ds n Xd Qd, sp_ends_of ds n Xd Qd → rd_ends_of { nx := fun _ n' => Qd .non n', rt := Qd, xr := fun ex _ n' => Xd ex n' } (startD N_ends_of ds) n := by
  rintro ds n Xd Qd ⟨h, i, r, rfl, hi, q⟩
  exact ⟨_, atI_nat (xs := h.map encI) (j := i) (v := encI r) (by rw [List.getElem?_map, hi]; rfl), flat_encI r, q⟩
def sp_room_of : DSp := fun ds n X Q => ∃ (h : Hs) (e : Int), ds = [encH h, .int e] ∧ h.length ≤ 1000 ∧ e ∈ h.flatten ∧ Q (.int (roomOf h e : Nat)) n
theorem len_room_of : ∀ ds n X Q, sp_room_of ds n X Q → ds.length = 2 := by rintro ds n X Q ⟨h, e, rfl, _⟩; rfl
def rd_room_of : DTS := (tRetD (tOpD drIx (tLcD .bor (tWRng1 (tCallN drLen (tConsD (tVarD 0) tNilD))) 2 (tTestD (tOpD (drIn false) (tVarD 1) (tOpD drIx (tVarD 0) (tVarD 2)))) (tVarD 2)) (tCD (.int 0))))
def N_room_of : List Str := ["house", "end", "room"]
theorem room_head {h : Hs} {e : Int} (he : e ∈ h.flatten) : ((List.range h.length).filter fun k => decide (e ∈ h.getD k [])).head? = some (roomOf h e) := by
  obtain ⟨f1, f2, f3, f4⟩ := room_facts he
  rw [List.head?_filter, List.find?_range_eq_some]
  refine ⟨decide_eq_true (by show e ∈ rowOf h e; exact f3), List.mem_range.mpr f1, fun j hj => ?_⟩
  have hn := List.not_of_lt_findIdx (p := fun r => decide (e ∈ r)) (xs := h) hj
  rw [show h.getD j [] = h[j]'(by omega) by rw [List.getD_eq_getElem?_getD, List.getElem?_eq_getElem (by omega)]; rfl]
  simpa using hn
theorem read_room_of : ∀ ds n Xd Qd, sp_room_of ds n Xd Qd → rd_room_of { nx := fun _ n' => Qd .non n', rt := Qd, xr := fun ex _ n' => Xd ex n' } (startD N_room_of ds) n := by
  rintro ds n Xd Qd ⟨h, e, rfl, hl, he, q⟩
  have hlen : ((h.map encI).length : Int) = (h.length : Int) := by rw [List.length_map]
  refine ⟨trivial, by rw [hlen]; omega, by rw [hlen]; omega, ?_⟩
  rw [hlen, Int.toNat_natCast, range0_eq]
  refine ⟨flat_ints _, ?_⟩
  unfold rangeI
  rw [List.map_map]
  refine lcW_filterE (fun k : Nat => D.int (k : Int)) (fun k => decide (e ∈ h.getD k [])) (fun k : Nat => D.int (k : Int)) (List.range h.length) [] n (by simp; exact small100 (by omega)) (fun k hk n' Q' q' => ?_) (fun k hk _ n' Q' q' => q') ?_
  · rw [List.mem_range] at hk
    have g : h[k]? = some (h.getD k []) := by rw [List.getD_eq_getElem?_getD, List.getElem?_eq_getElem hk]; rfl
    refine ⟨_, atI_nat (xs := h.map encI) (j := k) (v := encI (h.getD k [])) (by rw [List.getElem?_map, g]; rfl), flat_encI _, _, rfl, rfl, sc_intsA _, ?_⟩
    rw [in_ints']
    exact q'
  · rw [List.nil_append]
    exact ⟨_, at_head (x := D.int (roomOf h e : Nat)) (by rw [List.head?_map, room_head he]; rfl), rfl, q⟩
/-! ### moved, went -/
def sp_moved : DSp := fun ds n X Q => ∃ (b : List Int) (w : Nat) (e : Int), ds = [encI b, .int e] ∧ b.length = 2 * w ∧ w ≤ 1000 ∧ 0 ≤ e ∧ e < 2 * w ∧ Q (encI (moveL b e)) n
theorem len_moved : ∀ ds n X Q, sp_moved ds n X Q → ds.length = 2 := by rintro ds n X Q ⟨b, w, e, rfl, _⟩; rfl
def rd_moved : DTS := (tSeqD (tOwnD 2 (tCallN drList (tConsD (tVarD 0) tNilD)))
  (tSeqD (tAugLD 2 (fun x y => x - y) (tVarD 1) (tCD (.int 1)))
  (tSeqD (tAugLD 2 (fun x y => x + y) (tCallD sp_other_end (tConsD (tVarD 1) tNilD)) (tCD (.int 1)))
  (tRetD (tCallN drTup (tConsD (tVarD 2) tNilD))))))
def N_moved : List Str := ["beads", "end", "found"]
theorem get_int {b : List Int} {i : Nat} (h : i < b.length) : (b.map D.int)[i]? = some (.int (b.getD i 0)) := by
  rw [List.getElem?_map, List.getElem?_eq_getElem h, List.getD_eq_getElem?_getD, List.getElem?_eq_getElem h]; rfl
theorem read_moved : ∀ ds n Xd Qd, sp_moved ds n Xd Qd → rd_moved { nx := fun _ n' => Qd .non n', rt := Qd, xr := fun ex _ n' => Xd ex n' } (startD N_moved ds) n := by
  rintro ds n Xd Qd ⟨b, w, e, rfl, hb, hw, e0, e1, q⟩
  obtain ⟨o0, o1⟩ := otherE_lt e0 e1
  refine ⟨flat_ints b, flat_ints b, e, b.getD e.toNat 0, rfl, e0, by omega, get_int (by omega), 1, rfl, e, rfl, otherE e, (b.set e.toNat (b.getD e.toNat 0 - 1)).getD (otherE e).toNat 0, rfl, o0, by omega, ?_, 1, rfl, ?_⟩
  · rw [← List.map_set]
    exact get_int (by rw [List.length_set]; omega)
  · rw [← List.map_set, ← List.map_set]
    exact ⟨flat_ints _, q⟩
def sp_went : DSp := fun ds n X Q => ∃ (b : List Int) (a : Int) (w : Nat) (e : Int), ds = [encS b a, .int e] ∧ b.length = 2 * w ∧ w ≤ 1000 ∧ 0 ≤ e ∧ e < 2 * w ∧ Q (encS (moveL b e) (otherE e)) n
theorem len_went : ∀ ds n X Q, sp_went ds n X Q → ds.length = 2 := by rintro ds n X Q ⟨b, a, w, e, rfl, _⟩; rfl
def rd_went : DTS := (tRetD (tTupD (tConsD (tCallD sp_moved (tConsD (tOpD drIx (tVarD 0) (tCD (.int 0))) (tConsD (tVarD 1) tNilD))) (tConsD (tCallD sp_other_end (tConsD (tVarD 1) tNilD)) tNilD))))
def N_went : List Str := ["standing", "end"]
theorem read_went : ∀ ds n Xd Qd, sp_went ds n Xd Qd → rd_went { nx := fun _ n' => Qd .non n', rt := Qd, xr := fun ex _ n' => Xd ex n' } (startD N_went ds) n := by
  rintro ds n Xd Qd ⟨b, a, w, e, rfl, hb, hw, e0, e1, q⟩
  exact ⟨encI b, rfl, flat_encI b, b, w, e, rfl, hb, hw, e0, e1, e, rfl, by show 2 ≤ sizeLine; decide, q⟩
/-! ### turned_to, behind -/
def sp_turned_to : DSp := fun ds n X Q => ∃ (r : List Int) (x : Int), ds = [encI r, .int x] ∧ r.length ≤ 100000 ∧ x ∈ r ∧ Q (encI (turnL r x)) n
theorem len_turned_to : ∀ ds n X Q, sp_turned_to ds n X Q → ds.length = 2 := by rintro ds n X Q ⟨r, x, rfl, _⟩; rfl
def rd_turned_to : DTS := (tSeqD (tSetD 2 (tTupIdxD (tVarD 0) (tVarD 1)))
  (tRetD (tOpD drAdd (tSlD (tVarD 0) (tPartD (tOpD drAdd (tVarD 2) (tCD (.int 1)))) tNoPartD) (tSlD (tVarD 0) tNoPartD (tPartD (tOpD drAdd (tVarD 2) (tCD (.int 1))))))))
def N_turned_to : List Str := ["row", "thing", "at"]
theorem read_turned_to : ∀ ds n Xd Qd, sp_turned_to ds n Xd Qd → rd_turned_to { nx := fun _ n' => Qd .non n', rt := Qd, xr := fun ex _ n' => Xd ex n' } (startD N_turned_to ds) n := by
  rintro ds n Xd Qd ⟨r, x, rfl, hl, hx, q⟩
  refine ⟨r, rfl, x, rfl, hx, ?_⟩
  have e1 : (((r.idxOf x : Nat) : Int) + 1).toNat = r.idxOf x + 1 := by omega
  have c1 : cutL (r.map D.int) (some (((r.idxOf x : Nat) : Int) + 1)) none = (r.drop (r.idxOf x + 1)).map D.int := by rw [cut_from _ (by omega), e1, List.map_drop]
  have c2 : cutL (r.map D.int) none (some (((r.idxOf x : Nat) : Int) + 1)) = (r.take (r.idxOf x + 1)).map D.int := by rw [cut_to _ (by omega), e1, List.map_take]
  refine ⟨flat_ints r, flat_ints r, ?_⟩
  rw [c1, c2]
  refine ⟨?_, flat_ints _, flat_ints _, ?_⟩
  · rw [List.length_map, List.length_map, List.length_drop, List.length_take]
    exact small100 (by omega)
  · rw [← List.map_append]; exact q
def sp_behind : DSp := fun ds n X Q => ∃ (h : Hs) (e : Int), ds = [encH h, .int e] ∧ h.length ≤ 1000 ∧ h.flatten.length ≤ 100000 ∧ e ∈ h.flatten ∧ Q (encI (behindL h e)) n
theorem len_behind : ∀ ds n X Q, sp_behind ds n X Q → ds.length = 2 := by rintro ds n X Q ⟨h, e, rfl, _⟩; rfl
def rd_behind : DTS := (tRetD (tCallD sp_turned_to (tConsD (tCallD sp_ends_of (tConsD (tVarD 0) (tConsD (tCallD sp_room_of (tConsD (tVarD 0) (tConsD (tVarD 1) tNilD))) tNilD))) (tConsD (tVarD 1) tNilD))))
def N_behind : List Str := ["house", "end"]
theorem read_behind : ∀ ds n Xd Qd, sp_behind ds n Xd Qd → rd_behind { nx := fun _ n' => Qd .non n', rt := Qd, xr := fun ex _ n' => Xd ex n' } (startD N_behind ds) n := by
  rintro ds n Xd Qd ⟨h, e, rfl, hl, hf, he, q⟩
  obtain ⟨f1, f2, f3, f4⟩ := room_facts he
  have := (List.sublist_flatten_of_mem f4).length_le
  exact ⟨h, e, rfl, hl, he, h, _, _, rfl, f2, _, e, rfl, by omega, f3, q⟩
/-! ### first_laden, next_end, step -/
def sp_first_laden : DSp := fun ds n X Q => ∃ (b es : List Int), ds = [encI b, encI es] ∧ es.length ≤ 100000 ∧ (∀ e ∈ es, 0 ≤ e ∧ e < b.length) ∧ ladenL b es ≠ [] ∧ Q (.int ((ladenL b es).headD 0)) n
theorem len_first_laden : ∀ ds n X Q, sp_first_laden ds n X Q → ds.length = 2 := by rintro ds n X Q ⟨b, es, rfl, _⟩; rfl
def rd_first_laden : DTS := (tRetD (tOpD drIx (tLcD .bor (tWSeq (tVarD 1)) 2 (tTestD (tOpD drGt (tOpD drIx (tVarD 0) (tVarD 2)) (tCD (.int 0)))) (tVarD 2)) (tCD (.int 0))))
def N_first_laden : List Str := ["beads", "ends", "end"]
theorem read_first_laden : ∀ ds n Xd Qd, sp_first_laden ds n Xd Qd → rd_first_laden { nx := fun _ n' => Qd .non n', rt := Qd, xr := fun ex _ n' => Xd ex n' } (startD N_first_laden ds) n := by
  rintro ds n Xd Qd ⟨b, es, rfl, hl, hb, ne, q⟩
  refine ⟨trivial, .inr ⟨small100 (by rw [List.length_map]; omega), flat_ints es, ?_⟩⟩
  refine lcW_filterE D.int (fun e => decide (0 < b.getD e.toNat 0)) D.int es [] n (by simp; exact small100 (by omega)) (fun e he n' Q' q' => ?_) (fun e he _ n' Q' q' => q') ?_
  · obtain ⟨h0, h1⟩ := hb e he
    exact ⟨_, at_nat (b := b) (k := e.toNat) (by omega) (by omega), rfl, q'⟩
  · rw [List.nil_append]
    cases e : ladenL b es with
    | nil => exact absurd e ne
    | cons x xs =>
      rw [e] at q
      have e' : (es.filter fun e => decide (0 < b.getD e.toNat 0)) = x :: xs := e
      rw [e']
      exact ⟨_, at_head (x := D.int x) rfl, rfl, q⟩
def sp_next_end : DSp := fun ds n X Q => ∃ (h : Hs) (w : Nat) (b : List Int) (a : Int), ds = [encH h, encS b a] ∧ Va h w b a ∧ Q (.int (nextE h b a)) n
theorem len_next_end : ∀ ds n X Q, sp_next_end ds n X Q → ds.length = 2 := by rintro ds n X Q ⟨h, w, b, a, rfl, _⟩; rfl
def rd_next_end : DTS := (tRetD (tCallD sp_first_laden (tConsD (tOpD drIx (tVarD 1) (tCD (.int 0))) (tConsD (tCallD sp_behind (tConsD (tVarD 0) (tConsD (tOpD drIx (tVarD 1) (tCD (.int 1))) tNilD))) tNilD))))
def N_next_end : List Str := ["house", "standing"]
theorem read_next_end : ∀ ds n Xd Qd, sp_next_end ds n Xd Qd → rd_next_end { nx := fun _ n' => Qd .non n', rt := Qd, xr := fun ex _ n' => Xd ex n' } (startD N_next_end ds) n := by
  rintro ds n Xd Qd ⟨h, w, b, a, rfl, v, q⟩
  have w2 := v.w2
  have hf := v.en.len
  have r2 := v.r2
  have ha := v.mem.mpr ⟨v.a0, v.a1⟩
  obtain ⟨f1, f2, f3, f4⟩ := room_facts ha
  have hr := (List.sublist_flatten_of_mem f4).length_le
  have hbl : (behindL h a).length ≤ 100000 := by
    unfold behindL
    rw [turn_len]; omega
  refine ⟨encI b, rfl, flat_encI b, .int a, rfl, rfl, h, a, rfl, by omega, by omega, ha, b, behindL h a, rfl, hbl, fun e he => ?_, v.next.1, q⟩
  have := v.mem.mp (List.mem_flatten.mpr ⟨_, f4, turn_mem.mp he⟩)
  rw [v.bl]; omega
def sp_step : DSp := fun ds n X Q => ∃ (h : Hs) (w : Nat) (b : List Int) (a : Int), ds = [encH h, encS b a] ∧ Va h w b a ∧ Q (encS (stepB h b a) (stepA h b a)) n
theorem len_step : ∀ ds n X Q, sp_step ds n X Q → ds.length = 2 := by rintro ds n X Q ⟨h, w, b, a, rfl, _⟩; rfl
def rd_step : DTS := (tRetD (tCallD sp_went (tConsD (tVarD 1) (tConsD (tCallD sp_next_end (tConsD (tVarD 0) (tConsD (tVarD 1) tNilD))) tNilD))))
def N_step : List Str := ["house", "standing"]
theorem read_step : ∀ ds n Xd Qd, sp_step ds n Xd Qd → rd_step { nx := fun _ n' => Qd .non n', rt := Qd, xr := fun ex _ n' => Xd ex n' } (startD N_step ds) n := by
  rintro ds n Xd Qd ⟨h, w, b, a, rfl, v, q⟩
  have w2 := v.w2
  obtain ⟨_, _, _, n2, n3⟩ := v.next
  exact ⟨h, w, b, a, rfl, v, b, a, w, _, rfl, v.bl, by omega, n2, n3, q⟩
end Lw

set_option Elab.async false
set_option linter.all false
set_option maxRecDepth 100000
set_option maxHeartbeats 2000000
/-! A pen that is a dict; a digit taken. -/
namespace Lw
open PySem PySem.Spec PyProof.Rows L2 Dl
def PenK (n : Sto) (p : Addr) (k : Nat) : Prop := ∃ (c : Addr) (t r : Int) (cells : List Int), n p = some (.dK [(.inr "cells", .loc c), (.inr "at", .int t), (.inr "left", .int r)]) ∧ n c = some (.lst (cells.map D.int)) ∧ c ≠ p ∧ 0 ≤ t ∧ t ≤ k ∧ 0 ≤ r
def pKs (c : Addr) (t r : Int) : List (Key × D) := [(.inr "cells", .loc c), (.inr "at", .int t), (.inr "left", .int r)]
/-- c holds the pen's cells -/
def Cel (n : Sto) (p c : Addr) : Prop := ∃ t r : Int, n p = some (.dK (pKs c t r))
structure DrewK (n : Sto) (p : Addr) (k : Nat) (n' : Sto) : Prop where
  pen : PenK n' p k
  only : Only n n' p
  cel : ∀ c, Cel n p c → Cel n' p c
theorem Cel.inj {n : Sto} {p c d : Addr} {t r : Int} (h : Cel n p c) (e : n p = some (.dK (pKs d t r))) : c = d := by
  obtain ⟨t', r', h⟩ := h
  rw [h] at e
  cases e; rfl
theorem PenK.mono {n : Sto} {p : Addr} {k j : Nat} (h : PenK n p k) (l : k ≤ j) : PenK n p j := by
  obtain ⟨c, t, r, cells, h1, h2, h3, h4, h5, h6⟩ := h
  exact ⟨c, t, r, cells, h1, h2, h3, h4, by omega, h6⟩
theorem DrewK.trans {n n1 n2 : Sto} {p : Addr} {k j : Nat} (a : DrewK n p k n1) (b : DrewK n1 p j n2) : DrewK n p j n2 := ⟨b.pen, a.only.trans b.only, fun c h => b.cel c (a.cel c h)⟩
theorem DrewK.mono {n n1 : Sto} {p : Addr} {k j : Nat} (a : DrewK n p k n1) (h : k ≤ j) : DrewK n p j n1 := ⟨a.pen.mono h, a.only, a.cel⟩
theorem DrewK.refl {n : Sto} {p : Addr} {k : Nat} (h : PenK n p k) : DrewK n p k n := ⟨h, Only.refl n p, fun _ h => h⟩
def spTake : DSp := fun ds n X Q => ∃ (p : Addr) (u : Int) (k : Nat), ds = [.loc p, .int u] ∧ 0 < u ∧ u < 1073741824 ∧ PenK n p k ∧ k < lim ∧ ∀ (z : Int) n', 0 ≤ z → z < u → DrewK n p (k + 1) n' → Q (.int z) n'
abbrev sp_l_take : DSp := spTake
theorem len_l_take : ∀ ds n X Q, sp_l_take ds n X Q → ds.length = 2 := by
  rintro ds n X Q ⟨p, u, k, rfl, _⟩; rfl
theorem pk_cells (c : Addr) (t r : Int) : valD (pKs c t r) (.inr "cells") = some (.loc c) := rfl
theorem pk_at (c : Addr) (t r : Int) : valD (pKs c t r) (.inr "at") = some (.int t) := rfl
theorem pk_left (c : Addr) (t r : Int) : valD (pKs c t r) (.inr "left") = some (.int r) := rfl
theorem put_at (c : Addr) (t r t' : Int) : putD (pKs c t r) (.inr "at") (.int t') = pKs c t' r := rfl
theorem put_left (c : Addr) (t r r' : Int) : putD (pKs c t r) (.inr "left") (.int r') = pKs c t r' := rfl
def rd_take_stir : DTS := (tSeqD (tSetD 5 (tOpD drMod (tOpD drPow (tOpD drAdd (tOpD drAdd (tOpD drAdd (tOpD drMod (tVarD 4) (tCD (.int 2147483587))) (tOpD drMul (tOpD drMul (tCD (.int 61027)) (tVarD 3)) (tVarD 3))) (tOpD drMul (tCD (.int 7103)) (tVarD 3))) (tCD (.int 89))) (tCD (.int 3))) (tCD (.int 2147483647))))
  (tSeqD (tSetD 5 (tOpD drMod (tOpD drMul (tOpD drPow (tOpD drAdd (tOpD drAdd (tVarD 5) (tOpD drMul (tCD (.int 3571)) (tVarD 3))) (tCD (.int 13))) (tCD (.int 2))) (tOpD drAdd (tOpD drMul (tCD (.int 2)) (tVarD 3)) (tCD (.int 9)))) (tCD (.int 2147483563))))
  (tRetD (tOpD drMod (tOpD drDiv (tVarD 5) (tCD (.int 32))) (tVarD 1)))))
theorem take_b {t y1 y3 : Int} (t0 : 0 ≤ t) (tl : t < 4000000) (a1 : 0 ≤ y1) (a2 : y1 < 2147483587) (a3 : 0 ≤ y3) (a4 : y3 < 2147483647) : (y1 + 61027 * t * t + 7103 * t + 89).natAbs < 2 ^ 64 ∧ -(2 ^ 64) < 61027 * t ∧ 61027 * t < 2 ^ 64 ∧ (y3 + 3571 * t + 13).natAbs < 2 ^ 64 ∧ -(2 ^ 64) < 2 * t + 9 ∧ 2 * t + 9 < 2 ^ 64 := by
  have m3 : 61027 * t * t ≤ 61027 * 4000000 * 4000000 := by
    have e1 : 61027 * t ≤ 61027 * 4000000 := by omega
    exact Int.le_trans (Int.mul_le_mul_of_nonneg_right e1 t0) (Int.mul_le_mul_of_nonneg_left (by omega) (by omega))
  have m4 : 0 ≤ 61027 * t * t := Int.mul_nonneg (by omega) t0
  refine ⟨by omega, by omega, by omega, by omega, by omega, by omega⟩
theorem read_take_stir (C : DEnds) {p c : Addr} {u t cell : Int} {n : Sto} {v5 v6 : Option SV} (hu0 : 0 < u) (t0 : 0 ≤ t) (tl : t < 4000000) (q : ∀ z, 0 ≤ z → z < u → C.rt (.int z) n) :
    rd_take_stir C [some (.frz (.loc p)), some (.frz (.int u)), some (.frz (.loc c)), some (.frz (.int t)), some (.frz (.int cell)), v5, v6] n := by
  obtain ⟨b1, b2, b3, b4, b5, b6⟩ := take_b (t := t) (y1 := cell % 2147483587) (y3 := (cell % 2147483587 + 61027 * t * t + 7103 * t + 89) ^ 3 % 2147483647) t0 tl (Int.emod_nonneg _ (by decide)) (Int.emod_lt_of_pos _ (by decide)) (Int.emod_nonneg _ (by decide)) (Int.emod_lt_of_pos _ (by decide))
  refine ⟨by show (0 : Int) < 2147483587; decide, .inl ⟨by decide, by decide⟩, .inl ⟨b2, b3⟩, .inl ⟨by decide, by decide⟩, ⟨by decide, by decide, b1⟩, by show (0 : Int) < 2147483647; decide, ?_⟩
  refine ⟨.inl ⟨by decide, by decide⟩, ⟨by decide, by decide, b4⟩, .inl ⟨by decide, by decide⟩, .inr ⟨b5, b6⟩, by show (0 : Int) < 2147483563; decide, ?_⟩
  exact ⟨⟨by decide, by decide⟩, hu0, q _ (Int.emod_nonneg _ (by omega)) (Int.emod_lt_of_pos _ hu0)⟩
theorem lenV_at {i : Nat} {m : Md} {Δ : DEnv} {n : Sto} {X : XC} {Q : D → Sto → Prop} {a : Addr} {xs : List D} (h : Δ[i]? = some (some (.frz (.loc a)))) (h2 : n a = some (.lst xs)) (q : Q (.int xs.length) n) : tCallV drLen (tConsD (tVarD i) tNilD) m Δ n X Q := by
  unfold tCallV tConsD
  refine var_at h ?_
  have ev : vw n (D.loc a) = .lst xs := by simp only [vw, h2]
  simp only [tNilD, List.map_cons, List.map_nil, ev]
  exact q
def rd_take_rest : DTS := (tSeqD (tIfSD (tAndD (tTestD (tOpD drLt (tVarD 3) (tCallV drLen (tConsD (tVarD 2) tNilD)))) (tTestD (tOpD drGe (tCallN drAbs (tConsD (tVarD 4) tNilD)) (tOpD drPow (tCD (.int 10)) (tCD (.int 18)))))) (tSeqD (tStKD (tVarD 0) (tCD (.str (Str.ofString "left"))) (tOpD drDiv (tCallN drAbs (tConsD (tVarD 4) tNilD)) (tVarD 1)))
  (tRetD (tOpD drMod (tCallN drAbs (tConsD (tVarD 4) tNilD)) (tVarD 1)))) tNextD)
  (tSeqD (tSetD 5 (tOpD drMod (tOpD drPow (tOpD drAdd (tOpD drAdd (tOpD drAdd (tOpD drMod (tVarD 4) (tCD (.int 2147483587))) (tOpD drMul (tOpD drMul (tCD (.int 61027)) (tVarD 3)) (tVarD 3))) (tOpD drMul (tCD (.int 7103)) (tVarD 3))) (tCD (.int 89))) (tCD (.int 3))) (tCD (.int 2147483647))))
  (tSeqD (tSetD 5 (tOpD drMod (tOpD drMul (tOpD drPow (tOpD drAdd (tOpD drAdd (tVarD 5) (tOpD drMul (tCD (.int 3571)) (tVarD 3))) (tCD (.int 13))) (tCD (.int 2))) (tOpD drAdd (tOpD drMul (tCD (.int 2)) (tVarD 3)) (tCD (.int 9)))) (tCD (.int 2147483563))))
  (tRetD (tOpD drMod (tOpD drDiv (tVarD 5) (tCD (.int 32))) (tVarD 1))))))
theorem read_take_rest (C : DEnds) {p c : Addr} {u t r cell : Int} {cells : List Int} {n : Sto} {v5 v6 : Option SV} (hu0 : 0 < u) (hu1 : u < 1073741824) (t0 : 0 ≤ t) (tl : t < 4000000) (hP : n p = some (.dK (pKs c (t + 1) r))) (hc : n c = some (.lst (cells.map D.int)))
    (q : ∀ z, 0 ≤ z → z < u → C.rt (.int z) n) (q2 : ∀ z r', 0 ≤ z → z < u → 0 ≤ r' → C.rt (.int z) (updS n p (.dK (pKs c (t + 1) r')))) :
    rd_take_rest C [some (.frz (.loc p)), some (.frz (.int u)), some (.frz (.loc c)), some (.frz (.int t)), some (.frz (.int cell)), v5, v6] n := by
  have ev : vw n (D.loc c) = .lst (cells.map D.int) := by simp only [vw, hc]
  have ab : (0 : Int) ≤ if cell < 0 then -cell else cell := by split <;> omega
  unfold rd_take_rest
  simp only [tSeqD, tIfSD, tAndD, tTestD, tOpD]
  refine var_at (i := 3) (d := .int t) ?_ ?_
  · rfl
  refine lenV_at (i := 2) (a := c) ?_ hc ?_
  · rfl
  refine ifX (fun ht => ?_) (fun ht => ?_)
  · refine ⟨⟨by decide, by decide, by decide⟩, ifX (fun hg => ?_) (fun hg => ?_)⟩
    · refine ⟨⟨hu0, hu1⟩, rfl, p, .inr "left", pKs c (t + 1) r, rfl, rfl, hP, by show 3 < sizeLine; decide, ?_⟩
      rw [put_left]
      exact ⟨hu0, q2 _ _ (Int.emod_nonneg _ (by omega)) (Int.emod_lt_of_pos _ hu0) (Int.ediv_nonneg ab (by omega))⟩
    · exact read_take_stir C hu0 t0 tl q
  · exact ifF rfl (read_take_stir C hu0 t0 tl q)
def rd_l_take : DTS := (tSeqD (tIfSD (tTestD (tOpD drGt (tIxKD (tVarD 0) (tCD (.str (Str.ofString "left")))) (tCD (.int 0)))) (tSeqD (tSetD 6 (tOpD drMod (tIxKD (tVarD 0) (tCD (.str (Str.ofString "left")))) (tVarD 1)))
  (tSeqD (tStKD (tVarD 0) (tCD (.str (Str.ofString "left"))) (tOpD drDiv (tIxKD (tVarD 0) (tCD (.str (Str.ofString "left")))) (tVarD 1)))
  (tRetD (tVarD 6)))) tNextD)
  (tSeqD (tSetD 2 (tIxKD (tVarD 0) (tCD (.str (Str.ofString "cells")))))
  (tSeqD (tSetD 3 (tIxKD (tVarD 0) (tCD (.str (Str.ofString "at")))))
  (tSeqD (tStKD (tVarD 0) (tCD (.str (Str.ofString "at"))) (tOpD drAdd (tVarD 3) (tCD (.int 1))))
  (tSeqD (tSetD 4 (tOpD drAdd (tOpD drMul (tCD (.int 52361)) (tVarD 3)) (tCD (.int 41))))
  (tSeqD (tIfSD (tTestD (tOpV drNe (tVarD 2) (tLstD tNilD))) (tSetD 4 (tIxRD (tVarD 2) (tOpD drMod (tVarD 3) (tCallV drLen (tConsD (tVarD 2) tNilD))))) tNextD)
  (tSeqD (tIfSD (tAndD (tTestD (tOpD drLt (tVarD 3) (tCallV drLen (tConsD (tVarD 2) tNilD)))) (tTestD (tOpD drGe (tCallN drAbs (tConsD (tVarD 4) tNilD)) (tOpD drPow (tCD (.int 10)) (tCD (.int 18)))))) (tSeqD (tStKD (tVarD 0) (tCD (.str (Str.ofString "left"))) (tOpD drDiv (tCallN drAbs (tConsD (tVarD 4) tNilD)) (tVarD 1)))
  (tRetD (tOpD drMod (tCallN drAbs (tConsD (tVarD 4) tNilD)) (tVarD 1)))) tNextD)
  (tSeqD (tSetD 5 (tOpD drMod (tOpD drPow (tOpD drAdd (tOpD drAdd (tOpD drAdd (tOpD drMod (tVarD 4) (tCD (.int 2147483587))) (tOpD drMul (tOpD drMul (tCD (.int 61027)) (tVarD 3)) (tVarD 3))) (tOpD drMul (tCD (.int 7103)) (tVarD 3))) (tCD (.int 89))) (tCD (.int 3))) (tCD (.int 2147483647))))
  (tSeqD (tSetD 5 (tOpD drMod (tOpD drMul (tOpD drPow (tOpD drAdd (tOpD drAdd (tVarD 5) (tOpD drMul (tCD (.int 3571)) (tVarD 3))) (tCD (.int 13))) (tCD (.int 2))) (tOpD drAdd (tOpD drMul (tCD (.int 2)) (tVarD 3)) (tCD (.int 9)))) (tCD (.int 2147483563))))
  (tRetD (tOpD drMod (tOpD drDiv (tVarD 5) (tCD (.int 32))) (tVarD 1))))))))))))
def N_l_take : List Str := ["pen", "many", "cells", "here", "cell", "number", "digit"]
theorem read_l_take : ∀ ds n Xd Qd, sp_l_take ds n Xd Qd → rd_l_take { nx := fun _ n' => Qd .non n', rt := Qd, xr := fun ex _ n' => Xd ex n' } (startD N_l_take ds) n := by
  rintro ds n Xd Qd ⟨p, u, k, rfl, hu0, hu1, ⟨c, t, r, cells, hP, hc, ncp, t0, tk, r0⟩, hk, hz⟩
  replace hk : k < 4000000 := hk
  have tl : t < 4000000 := by omega
  have hP : n p = some (.dK (pKs c t r)) := hP
  have fin : ∀ (t' r' : Int) (n' : Sto), n' p = some (.dK (pKs c t' r')) → (∀ a, a ≠ p → n' a = n a) → 0 ≤ t' → t' ≤ t + 1 → 0 ≤ r' → DrewK n p (k + 1) n' := fun t' r' n' h1 h2 h3 h4 h5 =>
    ⟨⟨c, t', r', cells, h1, (h2 c ncp).trans hc, ncp, h3, by omega, h5⟩, fun a ha _ => h2 a ha, fun d hd => by rw [hd.inj hP]; exact ⟨t', r', h1⟩⟩
  have nrb : ∀ z : Int, 0 ≤ z % u ∧ z % u < u := fun z => ⟨Int.emod_nonneg _ (by omega), Int.emod_lt_of_pos _ hu0⟩
  refine ⟨p, .inr "left", _, _, rfl, rfl, hP, pk_left _ _ _, ifX (fun hr => ?_) (fun hr => ?_)⟩
  · have hr1 : 0 < r := of_decide_eq_true hr
    refine ⟨p, .inr "left", _, _, rfl, rfl, hP, pk_left _ _ _, hu0, ?_⟩
    refine ⟨p, .inr "left", _, _, rfl, rfl, hP, pk_left _ _ _, ⟨hu0, hu1⟩, rfl, p, .inr "left", _, rfl, rfl, hP, by show 3 < sizeLine; decide, ?_⟩
    rw [put_left]
    exact ⟨rfl, hz _ _ (nrb _).1 (nrb _).2 (fin t (r / u) _ updS_same (fun a ha => updS_ne ha) t0 (by omega) (Int.ediv_nonneg r0 (by omega)))⟩
  · refine ⟨p, .inr "cells", _, _, rfl, rfl, hP, pk_cells _ _ _, p, .inr "at", _, _, rfl, rfl, hP, pk_at _ _ _, rfl, p, .inr "at", _, rfl, rfl, hP, by show 3 < sizeLine; decide, ?_⟩
    rw [put_at]
    generalize hn1 : updS n p (.dK (pKs c (t + 1) r)) = n1
    have hP1 : n1 p = some (.dK (pKs c (t + 1) r)) := by rw [← hn1]; exact updS_same
    have hs1 : ∀ a, a ≠ p → n1 a = n a := fun a ha => by rw [← hn1]; exact updS_ne ha
    have hc1 : n1 c = some (.lst (cells.map D.int)) := (hs1 c ncp).trans hc
    have fin2 : ∀ (y : Int), 0 ≤ y → y < u → Qd (.int y) n1 := fun y y0 y1 => hz y n1 y0 y1 (fin (t + 1) r n1 hP1 hs1 (by omega) (by omega) r0)
    have fin3 : ∀ (y r' : Int), 0 ≤ y → y < u → 0 ≤ r' → Qd (.int y) (updS n1 p (.dK (pKs c (t + 1) r'))) := fun y r' y0 y1 r0' => hz y _ y0 y1 (fin (t + 1) r' _ updS_same (fun a ha => (updS_ne ha).trans (hs1 a ha)) (by omega) (by omega) r0')
    refine ⟨.inl ⟨by decide, by decide⟩, by show 0 ≤ sizeLine; decide, ?_⟩
    have ev : vw n1 (D.loc c) = .lst (cells.map D.int) := by simp only [vw, hc1]
    show drNe (vw n1 (D.loc c)) (.lst []) _
    rw [ev]
    have len1 : ((cells.map D.int).length : Int) = cells.length := by rw [List.length_map]
    by_cases hcl : cells = []
    · subst hcl
      refine ⟨shp_nil.1, shp_nil.1, ?_⟩
      exact ifF rfl (read_take_rest _ hu0 hu1 t0 tl hP1 hc1 fin2 fin3)
    · have hpos : 0 < cells.length := List.length_pos_iff.mpr hcl
      refine ⟨shp_ints cells, shp_nil.1, ?_⟩
      refine ifT (by
        have := eqv_lst cells []
        show (!PyData.eqv (toPy (.lst (cells.map D.int))) (toPy (.lst (([] : List Int).map D.int)))) = true
        rw [this, decide_eq_false hcl]; rfl) ?_
      simp only [tSetD, tIxRD, tOpD]
      refine var_at (i := 2) (d := .loc c) ?_ ?_
      · rfl
      refine var_at (i := 3) (d := .int t) ?_ ?_
      · rfl
      refine lenV_at (i := 2) (a := c) ?_ hc1 ?_
      · rfl
      have hm0 : 0 ≤ t % (cells.length : Int) := Int.emod_nonneg _ (by omega)
      have hm1 : t % (cells.length : Int) < cells.length := Int.emod_lt_of_pos _ (by omega)
      obtain ⟨cell, e1, _, _⟩ := at_int hm0 hm1
      exact ⟨by rw [len1]; omega, _, .int cell, hc1, by rw [len1]; exact e1, read_take_rest _ hu0 hu1 t0 tl hP1 hc1 fin2 fin3⟩
end Lw

set_option Elab.async false
set_option linter.all false
set_option maxRecDepth 100000
set_option maxHeartbeats 4000000
namespace Lw
open PySem PySem.Spec PyProof.Rows L2 Dl
def topS (i : Nat) : Stmt := PySem.Challenge.pw_carryround_k78_carriers_do_deeds.main.body.getD i (.Pass ⟨0, 0, 0, 0⟩)
/-- the pen at first -/
def PenAt0 : Sto → D → Prop := fun n d => ∃ p, d = .loc p ∧ PenK n p 0
section
variable [XP] {P : Program} {w : World} {K : PySem.W.Frag} {mg : Str → Option Value} {base : Heap}
theorem ok_pen {f : Addr} {fd : FuncData} {k : Nat} (F : L2.Fun K "_law_pen" "_law_pen" (topS 46) f fd) (ml : mg "list" = none) : FnG P w K mg base (L2.CX P w) (k + 1) f fd ["script"] (spPen K PenAt0) := by
  have sc : FnScope ["script"] ["script"] (defScope (topS 46)) := ⟨rfl, rfl, rfl, by decide +kernel, rfl, by decide +kernel, by decide +kernel⟩
  refine fn_body F sc (fun vs H Q E h => ?_) (fun cdv _ A outer s H vs Q E hr _ h => ?_)
  · obtain ⟨a, ns, rfl, _⟩ := h
    rfl
  · obtain ⟨a, ns, rfl, hS, hlen, k0, q⟩ := h
    refine ⟨_, pss_one (ps_ret (pe_disp (pps_cons pe_str (pe_callTy call_list_of (by rfl) ml (by decide +kernel) (pa_cons (pe_slice sl_list (pv 0) po_none (po_some pe_int)) pa_nil)) (pps_cons pe_str pe_int (pps_cons pe_str pe_int pps_nil))) rfl rfl (by simp) (by show 3 ≤ 15; decide))), ?_⟩
    intro p hp
    have hS2 : SqL K (upd H p (.dK [])) a (ns.map V.int) := hS.elim (fun r => .inl (r.elim (fun e => .inl (by rw [upd_ne (ne_of_none e hp)]; exact e)) fun ⟨o, e⟩ => .inr ⟨o, by rw [upd_ne (ne_of_none e hp)]; exact e⟩)) .inr
    refine ⟨_, rfl, _, rfl, a, _, rfl, hS2, fun c hc => ⟨c, _, rfl, .inl (SqL.of upd_same), fun l hl => ?_⟩⟩
    have npc : p ≠ c := fun e => by rw [← e, upd_same] at hc; cases hc
    have npl : p ≠ l := fun e => by rw [← e, upd_ne npc, upd_same] at hl; cases hl
    have ncl : c ≠ l := fun e => by rw [← e, upd_same] at hl; cases hl
    refine ⟨by rw [upd_ne npl, upd_ne npc, upd_same], [(.inr "cells", .ref l), (.inr "at", .int 0), (.inr "left", .int 0)], rfl, by show 3 ≤ 15; decide, ?_⟩
    have em : mergeK [] [((Sum.inr "cells" : Key), V.ref l), (.inr "at", .int 0), (.inr "left", .int 0)] = [(.inr "cells", .ref l), (.inr "at", .int 0), (.inr "left", .int 0)] := rfl
    rw [em]
    have e : cutV (ns.map V.int) none (some 63) = (ns.take 63).map V.int := by
      unfold cutV
      rw [HT.sIx_none, List.drop_zero, Nat.sub_zero, List.map_take]
      rw [show HT.sIx (ns.map V.int).length (ns.map V.int).length (some 63) = min 63 (ns.map V.int).length from HT.sIx_nat _ _ 63]
      rw [List.take_eq_take_iff]
      rw [List.length_map]
      omega
    rw [e]
    have hcH : H c = none := by rw [upd_ne (Ne.symm npc)] at hc; exact hc
    have hlH : H l = none := by rw [upd_ne (Ne.symm ncl), upd_ne (Ne.symm npl)] at hl; exact hl
    generalize hG : upd (upd (upd (upd H p (.dK [])) c (.lst ((ns.take 63).map V.int))) l (.lst ((ns.take 63).map V.int))) p (.dK [(.inr "cells", .ref l), (.inr "at", .int 0), (.inr "left", .int 0)]) = G
    have gl : G l = some (.lst ((ns.take 63).map V.int)) := by rw [← hG, upd_ne (Ne.symm npl), upd_same]
    have gp : G p = some (.dK [(.inr "cells", .ref l), (.inr "at", .int 0), (.inr "left", .int 0)]) := by rw [← hG, upd_same]
    have sm : Same H G := fun b o hb => by
      rw [← hG, upd_ne (ne_of_none hb hp), upd_ne (ne_of_none hb hlH), upd_ne (ne_of_none hb hcH), upd_ne (ne_of_none hb hp)]; exact hb
    have k1 := k0.same sm
    have k2 := k1.addL (p := l) (es := (ns.take 63).map D.int) rfl gl (RpAll.of_ints _)
    have k3 : SOk (updS (updS _ l (.lst ((ns.take 63).map D.int))) p (.dK (pKs l 0 0))) G := k2.add (by rw [updS_ne npl]) gp (fun _ _ z => nomatch z) nofun nofun nofun ⟨_, gp, rfl, .cons (.loc l) (.cons (.int 0) (.cons (.int 0) .nil))⟩
    exact q _ _ (.loc p) _ sm k3 (.loc p) ⟨p, rfl, l, 0, 0, ns.take 63, updS_same, by rw [updS_ne (Ne.symm npl), updS_same], Ne.symm npl, Int.le_refl _, Int.le_refl _, Int.le_refl _⟩
end
end Lw

set_option Elab.async false
set_option linter.all false
set_option maxRecDepth 100000
set_option maxHeartbeats 4000000
/-! A house drawn (a pen that is a dict). -/
namespace Lw
open PySem PySem.Spec PyProof.Rows L2 Dl
/-- rows under way: new since n, apart, what they hold -/
structure RwK (n n' : Sto) (p : Addr) (as : List Addr) (rs : Hs) (k : Nat) : Prop where
  nd : as.Nodup
  new : ∀ a ∈ as, n a = none
  rows : RowsS n' as rs
  pen : PenK n' p k
  only : ∀ a, n a ≠ none → a ≠ p → n' a = n a
  np : n p ≠ none
  cel : ∀ c, Cel n p c → Cel n' p c
theorem RwK.ne {n n' : Sto} {p : Addr} {as : List Addr} {rs : Hs} {k : Nat} (R : RwK n n' p as rs k) : ∀ a ∈ as, a ≠ p := fun a ha z => R.np (by rw [← z]; exact R.new a ha)
theorem RwK.drew {n n' n2 : Sto} {p : Addr} {as : List Addr} {rs : Hs} {k j : Nat} (R : RwK n n' p as rs k) (d : DrewK n' p j n2) : RwK n n2 p as rs j :=
  ⟨R.nd, R.new, R.rows.same fun b hb => by
      obtain ⟨i, hi⟩ := List.mem_iff_getElem?.mp hb
      obtain ⟨q, _, hq⟩ := R.rows.get hi
      exact d.only b (R.ne b hb) (by rw [hq]; simp), d.pen, fun a ha hp => by rw [d.only a hp (by rw [R.only a ha hp]; exact ha), R.only a ha hp], R.np, fun c h => d.cel c (R.cel c h)⟩
theorem RwK.mono {n n' : Sto} {p : Addr} {as : List Addr} {rs : Hs} {k j : Nat} (R : RwK n n' p as rs k) (h : k ≤ j) : RwK n n' p as rs j := ⟨R.nd, R.new, R.rows, R.pen.mono h, R.only, R.np, R.cel⟩
theorem RwK.set {n n' : Sto} {p a : Addr} {as : List Addr} {rs : Hs} {k j : Nat} {r : List Int} (R : RwK n n' p as rs k) (ea : as[j]? = some a) : RwK n (updS n' a (.lst (r.map D.int))) p as (rs.set j r) k := by
  have am := List.mem_of_getElem? ea
  refine ⟨R.nd, R.new, R.rows.set R.nd ea _, ?_, fun b hb hp => ?_, R.np, fun c h => ?_⟩
  · obtain ⟨c, t, r', cells, k1, k2, k3, k4, k5, k6⟩ := R.pen
    by_cases hca : c = a
    · subst hca
      exact ⟨c, t, r', _, by rw [updS_ne (Ne.symm (R.ne c am))]; exact k1, updS_same, k3, k4, k5, k6⟩
    · exact ⟨c, t, r', cells, by rw [updS_ne (Ne.symm (R.ne a am))]; exact k1, by rw [updS_ne hca]; exact k2, k3, k4, k5, k6⟩
  · rw [updS_ne (fun z => hb (by rw [z]; exact R.new a am))]; exact R.only b hb hp
  · obtain ⟨t, r, h⟩ := R.cel c h
    exact ⟨t, r, by rw [updS_ne (Ne.symm (R.ne a am))]; exact h⟩
def extra (j : Nat) (turn : Int) : Nat → List Int
  | 0 => []
  | 1 => [2 * j + (0 + turn) % 2]
  | _ => [2 * j + (1 + turn) % 2, 2 * j + (0 + turn) % 2]
def rangeN (m : Nat) : List Int := (List.range m).map fun (k : Nat) => (k : Int)
theorem extra_perm {j : Nat} {turn : Int} (h0 : 0 ≤ turn) (h1 : turn < 2) : (extra j turn 2 ++ rangeN (2 * j)).Perm (rangeN (2 * (j + 1))) := by
  have e : rangeN (2 * (j + 1)) = rangeN (2 * j) ++ [((2 * j : Nat) : Int), ((2 * j + 1 : Nat) : Int)] := by
    unfold rangeN
    rw [show 2 * (j + 1) = 2 * j + 1 + 1 by omega, List.range_succ, List.range_succ, List.map_append, List.map_append, List.append_assoc]; rfl
  rw [e]
  refine List.Perm.trans ?_ List.perm_append_comm
  refine List.Perm.append_right _ ?_
  have ht : turn = 0 ∨ turn = 1 := by omega
  unfold extra
  rcases ht with rfl | rfl
  · rw [show (2 * (j : Int) + (1 + 0) % 2) = ((2 * j + 1 : Nat) : Int) by omega, show (2 * (j : Int) + (0 + 0) % 2) = ((2 * j : Nat) : Int) by omega]
    exact List.Perm.swap _ _ _
  · rw [show (2 * (j : Int) + (1 + 1) % 2) = ((2 * j : Nat) : Int) by omega, show (2 * (j : Int) + (0 + 1) % 2) = ((2 * j + 1 : Nat) : Int) by omega]
    exact List.Perm.refl _
def rd_house_in : DTS := (tForD (tWRng1 (tCD (.int 2))) (gNameD 9) (tSeqD (tSetD 11 (tOpD drIx (tVarD 5) (tOpD drIx (tVarD 7) (tVarD 9))))
  (tDropD (tMthRD drIns (tVarD 11) (tConsD (tCallD sp_l_take (tConsD (tVarD 0) (tConsD (tOpD drAdd (tCallV drLen (tConsD (tVarD 11) tNilD)) (tCD (.int 1))) tNilD))) (tConsD (tOpD drAdd (tOpD drMul (tCD (.int 2)) (tVarD 6)) (tOpD drMod (tOpD drAdd (tVarD 9) (tVarD 8)) (tCD (.int 2)))) tNilD))))))
theorem read_house_in (C : DEnds) {n n1 : Sto} {p : Addr} {as : List Addr} {rs : Hs} {k j many : Nat} {tr tw z1 z2 turn : Int} {v4 v9 : Option SV} {v11 : Option D} (R : RwK n n1 p as rs k) (hl : as.length = many) (hp : rs.flatten.Perm (rangeN (2 * j))) (hj : j ≤ 100) (hk : k + 10 ≤ lim)
    (a0 : 0 ≤ z1) (a1 : z1 < many) (b0 : 0 ≤ z2) (b1 : z2 < many) (t0 : 0 ≤ turn) (t1 : turn < 2)
    (q : ∀ rs' (v9 : Option SV) (v11 : Option D) n', RwK n n' p as rs' (k + 2) → rs'.flatten.Perm (rangeN (2 * (j + 1))) → C.nx [some (.frz (.loc p)), some (.frz (.int tr)), some (.frz (.int tw)), some (.frz (.int many)), v4, some (.frz (.lst (as.map D.loc))), some (.frz (.int j)), some (.frz (.tup [.int z1, .int z2])), some (.frz (.int turn)), v9, none, v11.map SV.frz] n') :
    rd_house_in C [some (.frz (.loc p)), some (.frz (.int tr)), some (.frz (.int tw)), some (.frz (.int many)), v4, some (.frz (.lst (as.map D.loc))), some (.frz (.int j)), some (.frz (.tup [.int z1, .int z2])), some (.frz (.int turn)), v9, none, v11.map SV.frz] n1 := by
  have L : lim = 4000000 := rfl
  refine ⟨by show -(2 ^ 62) ≤ (2 : Int); decide, by show (2 : Int) < 2 ^ 62; decide, ?_⟩
  have e2 : (rangeD 0 (2 : Int).toNat).length = 2 := rangeD_length _ _
  refine ⟨fun i Δ n' => ∃ (v9 : Option SV) (v11 : Option D) (rs : Hs), Δ = [some (.frz (.loc p)), some (.frz (.int tr)), some (.frz (.int tw)), some (.frz (.int many)), v4, some (.frz (.lst (as.map D.loc))), some (.frz (.int j)), some (.frz (.tup [.int z1, .int z2])), some (.frz (.int turn)), v9, none, v11.map SV.frz] ∧ RwK n n' p as rs (k + i) ∧ i ≤ 2 ∧ rs.flatten.Perm (extra j turn i ++ rangeN (2 * j)), ⟨v9, v11, rs, rfl, R, by decide, hp⟩, ?_, ?_⟩
  · rintro i d Δ n2 hi ⟨v9, v11, rs, rfl, R2, _, hp2⟩
    obtain ⟨il, rfl⟩ : i < 2 ∧ d = .int i := by
      have hjl := (List.getElem?_eq_some_iff.mp hi).1
      rw [e2] at hjl
      rw [rangeD_get _ _ _ (by show i < 2; exact hjl)] at hi
      cases hi
      exact ⟨hjl, by rw [Int.zero_add]⟩
    obtain ⟨z, ez, z0, zm⟩ : ∃ z : Int, atI [D.int z1, D.int z2] (i : Int) = some (.int z) ∧ 0 ≤ z ∧ z < many := by
      match i, il with
      | 0, _ => exact ⟨z1, atI_nat (j := 0) rfl, a0, a1⟩
      | 1, _ => exact ⟨z2, atI_nat (j := 1) rfl, b0, b1⟩
    obtain ⟨x, ex, _, eg⟩ := atI_int (xs := as.map D.loc) z0 (by rw [List.length_map]; omega)
    rw [List.getElem?_map] at eg
    obtain ⟨a, ea, rfl⟩ : ∃ a, as[z.toNat]? = some a ∧ x = .loc a := by
      cases e : as[z.toNat]? with
      | none => rw [e] at eg; cases eg
      | some a => rw [e] at eg; cases eg; exact ⟨a, rfl, rfl⟩
    obtain ⟨r, er', har⟩ := R2.rows.get ea
    have rl : r.length ≤ 300 := by
      have q1 := (List.sublist_flatten_of_mem (List.mem_of_getElem? er')).length_le
      have q2 := hp2.length_eq
      rw [List.length_append] at q2
      have q3 : (extra j turn i).length ≤ 2 := by unfold extra; split <;> simp
      have q4 : (rangeN (2 * j)).length = 2 * j := by unfold rangeN; rw [List.length_map, List.length_range]
      omega
    refine ⟨_, ez, rfl, _, ex, rfl, ⟨_, har⟩, ?_⟩
    simp only [tConsD, tCallD, tOpD]
    refine var_at (d := .loc p) rfl (len_root (a := a) rfl har ?_)
    refine ⟨p, _, k + i, rfl, by rw [List.length_map]; omega, by rw [List.length_map]; omega, R2.pen, by omega, fun y n3 y0 y1 dr2 => ?_⟩
    have R3 := R2.drew dr2
    have har3 : n3 a = some (.lst (r.map D.int)) := R3.rows.at' _ _ _ ea er'
    rw [List.length_map] at y1
    refine ⟨.inl ⟨by decide, by decide⟩, by show (0 : Int) < 2; decide, _, har3, rfl, by rw [List.length_map]; exact Nat.lt_of_le_of_lt rl (by decide), y0, by omega, ?_⟩
    generalize hnew : (2 * (j : Int) + ((i : Int) + turn) % 2) = w
    have em : (r.map D.int).take y.toNat ++ [D.int w] ++ (r.map D.int).drop y.toNat = (r.take y.toNat ++ [w] ++ r.drop y.toNat).map D.int := by
      rw [List.map_append, List.map_append, List.map_take, List.map_drop]; rfl
    rw [em]
    refine ⟨_, some (.loc a), _, rfl, (R3.set ea).mono (by omega), il, ?_⟩
    refine (flat_set_perm rs _ r y.toNat w er').trans ?_
    refine (List.Perm.cons _ hp2).trans ?_
    rw [← hnew]
    match i, il with
    | 0, _ => exact List.Perm.refl _
    | 1, _ => exact List.Perm.refl _
  · rintro Δ n2 ⟨v9, v11, rs, rfl, R2, _, hp2⟩
    rw [e2] at R2 hp2
    exact q rs v9 v11 n2 R2 (hp2.trans (extra_perm t0 t1))
def rd_house_mid : DTS := (tSeqD (tSetD 8 (tCallD sp_l_take (tConsD (tVarD 0) (tConsD (tCD (.int 2)) tNilD))))
  (tForD (tWRng1 (tCD (.int 2))) (gNameD 9) (tSeqD (tSetD 11 (tOpD drIx (tVarD 5) (tOpD drIx (tVarD 7) (tVarD 9))))
  (tDropD (tMthRD drIns (tVarD 11) (tConsD (tCallD sp_l_take (tConsD (tVarD 0) (tConsD (tOpD drAdd (tCallV drLen (tConsD (tVarD 11) tNilD)) (tCD (.int 1))) tNilD))) (tConsD (tOpD drAdd (tOpD drMul (tCD (.int 2)) (tVarD 6)) (tOpD drMod (tOpD drAdd (tVarD 9) (tVarD 8)) (tCD (.int 2)))) tNilD)))))))
theorem read_house_mid (C : DEnds) {n n1 : Sto} {p : Addr} {as : List Addr} {rs : Hs} {k j many : Nat} {tr tw z1 z2 : Int} {v4 v8 v9 : Option SV} {v11 : Option D} (R : RwK n n1 p as rs k) (hl : as.length = many) (hp : rs.flatten.Perm (rangeN (2 * j))) (hj : j ≤ 100) (hk : k + 20 ≤ lim)
    (a0 : 0 ≤ z1) (a1 : z1 < many) (b0 : 0 ≤ z2) (b1 : z2 < many)
    (q : ∀ rs' (v7 v8 v9 : Option SV) (v11 : Option D) n', RwK n n' p as rs' (k + 3) → rs'.flatten.Perm (rangeN (2 * (j + 1))) → C.nx [some (.frz (.loc p)), some (.frz (.int tr)), some (.frz (.int tw)), some (.frz (.int many)), v4, some (.frz (.lst (as.map D.loc))), some (.frz (.int j)), v7, v8, v9, none, v11.map SV.frz] n') :
    rd_house_mid C [some (.frz (.loc p)), some (.frz (.int tr)), some (.frz (.int tw)), some (.frz (.int many)), v4, some (.frz (.lst (as.map D.loc))), some (.frz (.int j)), some (.frz (.tup [.int z1, .int z2])), v8, v9, none, v11.map SV.frz] n1 := by
  refine ⟨p, 2, k, rfl, by decide, by decide, R.pen, by omega, fun turn n2 t0 t1 dr => ?_⟩
  exact read_house_in C (R.drew dr) hl hp hj (by omega) a0 a1 b0 b1 t0 t1 fun rs' v9 v11 n' R' hp' => q rs' _ _ v9 v11 n' R' hp'
def rd_house_ret : DTS := (tRetD (tCallN drTup (tConsD (tLcD .bor (tWSeq (tVarD 5)) 11 tYesD (tCallV drTup (tConsD (tVarD 11) tNilD))) tNilD)))
theorem read_house_ret (C : DEnds) {n n2 : Sto} {p : Addr} {as : List Addr} {rs : Hs} {k : Nat} {v1 v2 v3 v4 v6 v7 v8 v9 : Option SV} {v11 : Option D} (R : RwK n n2 p as rs k) (hl : as.length ≤ 100)
    (q : C.rt (encH rs) n2) : rd_house_ret C [some (.frz (.loc p)), v1, v2, v3, v4, some (.frz (.lst (as.map D.loc))), v6, v7, v8, v9, none, v11.map SV.frz] n2 := by
  have al : ∀ d ∈ as.map D.loc, flat d = true := fun d hd => by obtain ⟨a, _, rfl⟩ := List.mem_map.mp hd; rfl
  have rl := R.rows.len
  refine ⟨by cases v11 <;> trivial, .inl ⟨by rw [List.length_map]; exact small100 (by omega), flatAll_iff.mpr al, ?_⟩⟩
  refine lcW_idx rfl (fun acc n' => n' = n2 ∧ acc = (rs.take acc.length).map encI) _ [] n2 (by rw [List.length_map]; simp; exact small100 (by omega)) ⟨rfl, rfl⟩ ?_ ?_
  · rintro j d acc n3 Q' hj hjl ⟨rfl, hacc⟩ q
    rw [List.getElem?_map] at hj
    obtain ⟨a, ea, rfl⟩ : ∃ a, as[j]? = some a ∧ d = .loc a := by
      cases e : as[j]? with
      | none => rw [e] at hj; cases hj
      | some a => rw [e] at hj; cases hj; exact ⟨a, rfl, rfl⟩
    obtain ⟨r, er', har⟩ := R.rows.get ea
    unfold tCallV
    refine var_at (d := .loc a) rfl ?_
    have ev : vw n3 (D.loc a) = .lst (r.map D.int) := by simp only [vw, har]
    simp only [tNilD, List.map_cons, List.map_nil, ev]
    refine ⟨flat_ints r, q _ _ ⟨rfl, ?_⟩⟩
    have e2 : acc.length = j := by simpa using hjl
    rw [List.length_append, List.length_singleton, e2, List.take_add_one, er', List.map_append, ← e2, ← hacc]; rfl
  · rintro acc n3 hl3 ⟨rfl, hacc⟩
    rw [List.length_map, List.length_nil, Nat.zero_add] at hl3
    rw [hl3, rl, List.take_length] at hacc
    subst hacc
    exact ⟨flat_encIs rs, q⟩
def sp_l_house : DSp := fun ds n X Q => ∃ (p : Addr) (tr tw : Int) (k : Nat), ds = [.loc p, .int tr, .int tw] ∧ 1 ≤ tr ∧ tr ≤ 20 ∧ 1 ≤ tw ∧ tw ≤ 20 ∧ PenK n p k ∧ k + 200 ≤ lim ∧ ∀ (h : Hs) (rooms wires : Nat) n', IsHs h rooms wires → 1 ≤ rooms → (rooms : Int) ≤ tr → 1 ≤ wires → (wires : Int) ≤ tw → DrewK n p (k + 200) n' → Q (encH h) n'
theorem len_l_house : ∀ ds n X Q, sp_l_house ds n X Q → ds.length = 3 := by
  rintro ds n X Q ⟨p, tr, tw, k, rfl, _⟩; rfl
def rd_l_house : DTS := (tSeqD (tSetD 3 (tOpD drAdd (tCD (.int 1)) (tCallD sp_l_take (tConsD (tVarD 0) (tConsD (tVarD 1) tNilD)))))
  (tSeqD (tSetD 4 (tCallD sp_l_take (tConsD (tVarD 0) (tConsD (tCD (.int 3)) tNilD))))
  (tSeqD (tSetD 5 (tLcD .bor (tWRng1 (tVarD 3)) 10 tYesD (tRootD (tLstD tNilD))))
  (tSeqD (tForD (tWRng1 (tOpD drAdd (tCD (.int 1)) (tCallD sp_l_take (tConsD (tVarD 0) (tConsD (tVarD 2) tNilD))))) (gNameD 6) (tSeqD (tSetD 7 (tTupD (tConsD (tCallD sp_l_take (tConsD (tVarD 0) (tConsD (tVarD 3) tNilD))) (tConsD (tCallD sp_l_take (tConsD (tVarD 0) (tConsD (tVarD 3) tNilD))) tNilD))))
  (tSeqD (tIfSD (tAndD (tTestD (tOpD drGt (tVarD 4) (tCD (.int 0)))) (tTestD (tOpD drLt (tOpD drAdd (tVarD 6) (tCD (.int 1))) (tVarD 3)))) (tSetD 7 (tTupD (tConsD (tOpD drMod (tOpD drIx (tVarD 7) (tCD (.int 0))) (tOpD drAdd (tVarD 6) (tCD (.int 1)))) (tConsD (tOpD drAdd (tVarD 6) (tCD (.int 1))) tNilD)))) tNextD)
  (tSeqD (tSetD 8 (tCallD sp_l_take (tConsD (tVarD 0) (tConsD (tCD (.int 2)) tNilD))))
  (tForD (tWRng1 (tCD (.int 2))) (gNameD 9) (tSeqD (tSetD 11 (tOpD drIx (tVarD 5) (tOpD drIx (tVarD 7) (tVarD 9))))
  (tDropD (tMthRD drIns (tVarD 11) (tConsD (tCallD sp_l_take (tConsD (tVarD 0) (tConsD (tOpD drAdd (tCallV drLen (tConsD (tVarD 11) tNilD)) (tCD (.int 1))) tNilD))) (tConsD (tOpD drAdd (tOpD drMul (tCD (.int 2)) (tVarD 6)) (tOpD drMod (tOpD drAdd (tVarD 9) (tVarD 8)) (tCD (.int 2)))) tNilD))))))))))
  (tRetD (tCallN drTup (tConsD (tLcD .bor (tWSeq (tVarD 5)) 11 tYesD (tCallV drTup (tConsD (tVarD 11) tNilD))) tNilD)))))))
def N_l_house : List Str := ["pen", "top_rooms", "top_wires", "many", "shape", "found", "wire", "pair", "turn", "side", "k", "row"]
theorem read_l_house : ∀ ds n Xd Qd, sp_l_house ds n Xd Qd → rd_l_house { nx := fun _ n' => Qd .non n', rt := Qd, xr := fun ex _ n' => Xd ex n' } (startD N_l_house ds) n := by
  rintro ds n Xd Qd ⟨p, tr, tw, k, rfl, tr1, tr2, tw1, tw2, pen, hk, hz⟩
  have L : lim = 4000000 := rfl
  refine ⟨p, tr, k, rfl, by omega, by omega, pen, by omega, fun x n1 x0 x1 dr1 => ?_⟩
  obtain ⟨xm, rfl⟩ := Int.eq_ofNat_of_zero_le x0
  have em : (1 : Int) + (xm : Int) = ((1 + xm : Nat) : Int) := by omega
  refine ⟨p, 3, k + 1, rfl, by decide, by decide, dr1.pen, by omega, fun shape n2 s0 s1 dr2 => ?_⟩
  rw [em]
  generalize hmany : 1 + xm = many
  have m1 : 1 ≤ many := by omega
  have m2 : (many : Int) ≤ tr := by omega
  have d2 : DrewK n p (k + 2) n2 := dr1.trans dr2
  have er : ((many : Int)).toNat = many := Int.toNat_natCast many
  have nP : n2 p ≠ none := by obtain ⟨c, t, r, cells, h1, _⟩ := dr2.pen; rw [h1]; simp
  refine ⟨trivial, by omega, by omega, by rw [show rangeD 0 ((many : Int)).toNat = (rangeI ((many : Int)).toNat).map D.int from range0_eq _]; exact flat_ints _, ?_⟩
  refine lcW_some rfl many (small100 (by omega)) (fun acc n' => ∃ as : List Addr, acc = as.map D.loc ∧ as.Nodup ∧ (∀ a ∈ as, n2 a = none ∧ n' a = some (.lst [])) ∧ ∀ a, n2 a ≠ none → n' a = n2 a) _ [] n2
    (by rw [rangeD_length, er]; simp) ⟨[], rfl, .nil, by simp, fun _ _ => rfl⟩ ?_ ?_
  · rintro d hd acc n' Q' hl ⟨as, rfl, nd, h1, h2⟩ q
    refine ⟨by show 0 ≤ sizeLine; decide, rfl, fun a ha => q _ _ ⟨as ++ [a], by rw [List.map_append]; rfl, ?_, ?_, ?_⟩⟩
    · rw [List.nodup_append]
      refine ⟨nd, by simp, fun x hx y hy => ?_⟩
      rw [List.mem_singleton] at hy; subst hy
      rintro rfl
      have := (h1 x hx).2
      rw [ha] at this; cases this
    · intro b hb
      rcases List.mem_append.mp hb with hb | hb
      · have ne : b ≠ a := fun z => by have := (h1 b hb).2; rw [z, ha] at this; cases this
        rw [updS_ne ne]
        exact h1 b hb
      · rw [List.mem_singleton] at hb; subst hb
        refine ⟨?_, updS_same⟩
        cases e : n2 b with
        | none => rfl
        | some o => rw [h2 b (by rw [e]; simp), e] at ha; cases ha
    · intro b hb
      have ne : b ≠ a := fun z => by rw [z] at hb; rw [← h2 a hb, ha] at hb; exact hb rfl
      rw [updS_ne ne]
      exact h2 b hb
  · rintro acc n3 hl ⟨as, rfl, nd, h1, h2⟩
    rw [List.length_map] at hl
    have pen3 : PenK n3 p (k + 2) := by
      obtain ⟨pc, pt, pr, pcells, hP, hpc, r⟩ := dr2.pen
      exact ⟨pc, pt, pr, pcells, (h2 p (by rw [hP]; simp)).trans hP, (h2 pc (by rw [hpc]; simp)).trans hpc, r.1, r.2.1, by omega, r.2.2.2⟩
    have R : RwK n2 n3 p as (List.replicate many []) (k + 2) := ⟨nd, fun a ha => (h1 a ha).1, ⟨by rw [hl, List.length_replicate], fun j a r ha hr => by
      obtain rfl : r = [] := List.eq_of_mem_replicate (List.mem_of_getElem? hr)
      exact (h1 a (List.mem_of_getElem? ha)).2⟩, pen3, fun a ha _ => h2 a ha, nP, fun c h => by
      obtain ⟨t, r, h⟩ := h
      exact ⟨t, r, (h2 p nP).trans h⟩⟩
    refine ⟨p, tw, k + 2, rfl, by omega, by omega, pen3, by omega, fun y n4 y0 y1 dr4 => ?_⟩
    obtain ⟨ym, rfl⟩ := Int.eq_ofNat_of_zero_le y0
    have R4 := R.drew dr4
    have ew : (1 + (ym : Int)).toNat = 1 + ym := by omega
    refine ⟨by omega, by omega, fun j Δ n' => ∃ (v6 v7 v8 v9 : Option SV) (v11 : Option D) (rs : Hs), Δ = [some (.frz (.loc p)), some (.frz (.int tr)), some (.frz (.int tw)), some (.frz (.int many)), some (.frz (.int shape)), some (.frz (.lst (as.map D.loc))), v6, v7, v8, v9, none, v11.map SV.frz] ∧ RwK n2 n' p as rs (k + 3 + 5 * j) ∧ rs.flatten.Perm (rangeN (2 * j)),
      ⟨none, none, none, none, none, List.replicate many [], rfl, R4, by rw [List.flatten_replicate_nil]; exact List.Perm.refl _⟩, ?_, ?_⟩
    · rintro j d Δ n5 hj ⟨v6, v7, v8, v9, v11, rs, rfl, R5, hp5⟩
      obtain ⟨jl, rfl⟩ : j < 1 + ym ∧ d = .int j := by
        have hjl := (List.getElem?_eq_some_iff.mp hj).1
        rw [rangeD_length, ew] at hjl
        rw [rangeD_get _ _ _ (by rw [ew]; exact hjl)] at hj
        cases hj
        exact ⟨hjl, by rw [Int.zero_add]⟩
      refine ⟨p, many, _, rfl, by omega, by omega, R5.pen, by omega, fun z1 n6 z10 z11 dr6 => ⟨p, many, _, rfl, by omega, by omega, dr6.pen, by omega, fun z2 n7 z20 z21 dr7 => ⟨by show 2 ≤ sizeLine; decide, ?_⟩⟩⟩
      have R7 := (R5.drew dr6).drew dr7
      have fin : ∀ rs' (v7 v8 v9 : Option SV) (v11 : Option D) n', RwK n2 n' p as rs' (k + 3 + 5 * j + 1 + 1 + 3) → rs'.flatten.Perm (rangeN (2 * (j + 1))) → ∃ (w6 w7 w8 w9 : Option SV) (w11 : Option D) (rs : Hs), [some (.frz (.loc p)), some (.frz (.int tr)), some (.frz (.int tw)), some (.frz (.int many)), some (.frz (.int shape)), some (.frz (.lst (as.map D.loc))), some (.frz (.int j)), v7, v8, v9, none, v11.map SV.frz] = [some (.frz (.loc p)), some (.frz (.int tr)), some (.frz (.int tw)), some (.frz (.int many)), some (.frz (.int shape)), some (.frz (.lst (as.map D.loc))), w6, w7, w8, w9, none, w11.map SV.frz] ∧ RwK n2 n' p as rs (k + 3 + 5 * (j + 1)) ∧ rs.flatten.Perm (rangeN (2 * (j + 1))) :=
        fun rs' v7 v8 v9 v11 n' R' hp' => ⟨_, _, _, _, v11, rs', rfl, R'.mono (by omega), hp'⟩
      refine ifX (fun hs => ?_) (fun hs => ?_)
      · refine ifX (fun hw => ?_) (fun hw => ?_)
        · have hw : (j : Int) + 1 < (many : Int) := of_decide_eq_true hw
          refine ⟨_, atI_nat (j := 0) rfl, rfl, by show (0 : Int) < (j : Int) + 1; omega, by show 2 ≤ sizeLine; decide, ?_⟩
          have g0 : 0 ≤ z1 % ((j : Int) + 1) := Int.emod_nonneg _ (by omega)
          have g1 : z1 % ((j : Int) + 1) < (j : Int) + 1 := Int.emod_lt_of_pos _ (by omega)
          exact read_house_mid _ R7 hl hp5 (by omega) (by omega) g0 (show z1 % ((j : Int) + 1) < (many : Int) from Int.lt_trans g1 hw) (show (0 : Int) ≤ (j : Int) + 1 by omega) hw fin
        · exact read_house_mid _ R7 hl hp5 (by omega) (by omega) z10 z11 z20 z21 fin
      · exact ifF rfl (read_house_mid _ R7 hl hp5 (by omega) (by omega) z10 z11 z20 z21 fin)
    · rintro Δ n5 ⟨v6, v7, v8, v9, v11, rs, rfl, R5, hp5⟩
      rw [rangeD_length, ew] at R5 hp5
      refine read_house_ret (n := n2) _ R5 (by omega) ?_
      have rl := R5.rows.len
      exact hz rs many (1 + ym) n5 ⟨by omega, hp5⟩ m1 m2 (by omega) (by omega) ((d2.trans ⟨R5.pen.mono (j := k + 200) (by omega), fun a ha hn => R5.only a hn ha, R5.cel⟩).mono (Nat.le_refl _))
end Lw

set_option Elab.async false
set_option linter.all false
set_option maxRecDepth 100000
set_option maxHeartbeats 4000000
/-! A standing drawn (a pen that is a dict). -/
namespace Lw
open PySem PySem.Spec PyProof.Rows L2 Dl
theorem pairs_get : ∀ (ps : List (Int × Int)) (k : Nat) (hk : k < ps.length), (pairsF ps).getD (2 * k) 0 = ps[k].1 ∧ (pairsF ps).getD (2 * k + 1) 0 = ps[k].2
  | p :: ps, 0, _ => ⟨rfl, rfl⟩
  | p :: ps, k + 1, hk => by
    have ih := pairs_get ps k (by simpa using hk)
    have e : pairsF (p :: ps) = p.1 :: p.2 :: pairsF ps := rfl
    rw [e, show 2 * (k + 1) = (2 * k + 1) + 1 by omega]
    simp only [List.getD_cons_succ]
    exact ih
theorem pairs_wired {ps : List (Int × Int)} (hp : ∀ p ∈ ps, 0 ≤ p.1 ∧ 0 ≤ p.2 ∧ 1 ≤ p.1 + p.2 ∧ p.1 + p.2 ≤ 9) : wiredOk (pairsF ps) ps.length := by
  intro x hx
  obtain ⟨k, hk, rfl⟩ := List.mem_map.mp hx
  rw [List.mem_range] at hk
  obtain ⟨e1, e2⟩ := pairs_get ps k hk
  rw [e1, e2]
  have := hp _ (List.getElem_mem hk)
  omega
theorem stand_B {b : List Int} {a : Int} {wires : Nat} (hs : IsSt wires b a) : standB b wires a = true := by
  obtain ⟨ps, rfl, hl, hp⟩ := hs.pairs
  subst hl
  have hw := pairs_wired hp
  have h0 : ∀ x ∈ pairsF ps, 0 ≤ x := fun x hx => by
    obtain ⟨p, hpm, e⟩ := pairsF_mem hx
    have := hp p hpm
    omega
  obtain ⟨x, e, x0⟩ := hs.at'
  have a1 := hs.a1
  unfold standB beadsB
  rw [low_wired (pairsF_len ps) h0 hw, decide_eq_true hw, decide_eq_true (show a < 2 * (ps.length : Int) by omega), List.getD_eq_getElem?_getD, e, decide_eq_true (show 0 < (some x).getD 0 from x0)]
  rfl
theorem laden_ne {b : List Int} {w : Nat} (b0 : ∀ x ∈ b, 0 ≤ x) (hw : 1 ≤ w) (hb : b.length = 2 * w) (wi : wiredOk b w) : ladenL b (rangeI (2 * w)) ≠ [] := by
  have := wi _ (List.mem_map.mpr ⟨0, List.mem_range.mpr (by omega), rfl⟩)
  have h0 := nonneg_getD b0 (2 * 0)
  have h1 := nonneg_getD b0 (2 * 0 + 1)
  intro z
  by_cases c : 0 < b.getD 0 0
  · have : (0 : Int) ∈ ladenL b (rangeI (2 * w)) := List.mem_filter.mpr ⟨mem_rangeI.mpr ⟨by decide, by omega⟩, by simpa using c⟩
    rw [z] at this; cases this
  · have : (1 : Int) ∈ ladenL b (rangeI (2 * w)) := List.mem_filter.mpr ⟨mem_rangeI.mpr ⟨by decide, by omega⟩, by
      have : 0 < b.getD 1 0 := by simp only [Nat.mul_zero, Nat.zero_add] at *; omega
      simpa using this⟩
    rw [z] at this; cases this
theorem laden_in {b : List Int} {w : Nat} {e : Int} (h : e ∈ ladenL b (rangeI (2 * w))) : 0 ≤ e ∧ e < 2 * w ∧ 0 < b.getD e.toNat 0 := by
  obtain ⟨m1, m2⟩ := List.mem_filter.mp h
  have := mem_rangeI.mp m1
  exact ⟨this.1, by omega, by simpa using m2⟩
def sp_l_stand : DSp := fun ds n X Q => ∃ (p : Addr) (k : Nat) (h : Hs) (rooms wires : Nat) (top : Int), ds = [.loc p, encH h, .int top] ∧ IsHs h rooms wires ∧ 1 ≤ rooms ∧ rooms ≤ 10 ∧ 1 ≤ wires ∧ wires ≤ 20 ∧ 1 ≤ top ∧ top ≤ 9 ∧ PenK n p k ∧ k + 100 ≤ lim ∧
  ∀ (b : List Int) (a : Int) n', Va h wires b a → (∀ x ∈ wiredL b wires, x ≤ top) → DrewK n p (k + 100) n' → Q (encS b a) n'
theorem len_l_stand : ∀ ds n X Q, sp_l_stand ds n X Q → ds.length = 3 := by
  rintro ds n X Q ⟨p, k, h, r, w, t, rfl, _⟩; rfl
def rd_l_stand : DTS := (tSeqD (tSetD 3 (tLstD tNilD))
  (tSeqD (tForD (tWRng1 (tOpD drDiv (tCallN drSum (tConsD (tLcD .bor (tWSeq (tVarD 1)) 9 tYesD (tCallN drLen (tConsD (tVarD 9) tNilD))) tNilD)) (tCD (.int 2)))) (gNameD 4) (tSeqD (tSetD 6 (tOpD drAdd (tCD (.int 1)) (tCallD sp_l_take (tConsD (tVarD 0) (tConsD (tVarD 2) tNilD)))))
  (tSeqD (tSetD 7 (tOpD drIx (tLstD (tConsD (tCD (.int 0)) (tConsD (tVarD 6) (tConsD (tCallD sp_l_take (tConsD (tVarD 0) (tConsD (tOpD drAdd (tVarD 6) (tCD (.int 1))) tNilD))) tNilD)))) (tCallD sp_l_take (tConsD (tVarD 0) (tConsD (tCD (.int 3)) tNilD)))))
  (tSetD 3 (tOpD drAdd (tVarD 3) (tLstD (tConsD (tVarD 7) (tConsD (tOpD drSub (tVarD 6) (tVarD 7)) tNilD))))))))
  (tSeqD (tSetD 5 (tLcD .bor (tWRng1 (tCallN drLen (tConsD (tVarD 3) tNilD))) 8 (tTestD (tOpD drGt (tOpD drIx (tVarD 3) (tVarD 8)) (tCD (.int 0)))) (tVarD 8)))
  (tRetD (tTupD (tConsD (tCallN drTup (tConsD (tVarD 3) tNilD)) (tConsD (tOpD drIx (tVarD 5) (tCallD sp_l_take (tConsD (tVarD 0) (tConsD (tCallN drLen (tConsD (tVarD 5) tNilD)) tNilD)))) tNilD)))))))
def N_l_stand : List Str := ["pen", "home", "top", "strewn", "wire", "laden", "many", "low", "tip", "row"]
theorem read_l_stand : ∀ ds n Xd Qd, sp_l_stand ds n Xd Qd → rd_l_stand { nx := fun _ n' => Qd .non n', rt := Qd, xr := fun ex _ n' => Xd ex n' } (startD N_l_stand ds) n := by
  rintro ds n Xd Qd ⟨p, k, h, rooms, wires, top, rfl, hh, r1, r2, w1, w2, t1, t9, pen, hk, q⟩
  have L : lim = 4000000 := rfl
  have fl := hh.flen
  have hl := hh.len
  have ew : ((h.flatten.length : Int) / 2).toNat = wires := by rw [fl]; omega
  refine ⟨by show 0 ≤ sizeLine; decide, ?_⟩
  refine ⟨trivial, .inr ⟨by rw [List.length_map]; exact small100 (by omega), flat_encIs h, ?_⟩⟩
  refine lcW_mapE encI (fun r => .int r.length) rfl h [] n (by simp; exact small100 (by omega)) (fun r hr n' Q' q' => ?_) ?_
  · show Q' (.int ((r.map D.int).length : Int)) n'
    rw [List.length_map]; exact q'
  refine ⟨h.map fun r => (r.length : Int), by rw [List.nil_append, List.map_map]; rfl, ?_⟩
  rw [len_sum]
  refine ⟨⟨by decide, by decide⟩, by show -(2 ^ 62) ≤ (h.flatten.length : Int) / 2; omega, by show (h.flatten.length : Int) / 2 < 2 ^ 62; omega, ?_⟩
  have el : (rangeD 0 ((h.flatten.length : Int) / 2).toNat).length = wires := by rw [rangeD_length]; exact ew
  refine ⟨fun j Δ n' => ∃ (v4 v6 v7 : Option SV) (ps : List (Int × Int)), Δ = [some (.frz (.loc p)), some (.frz (encH h)), some (.frz (.int top)), some (.frz (.lst ((pairsF ps).map D.int))), v4, none, v6, v7, none, none] ∧ ps.length = j ∧ (∀ p ∈ ps, 0 ≤ p.1 ∧ 0 ≤ p.2 ∧ 1 ≤ p.1 + p.2 ∧ p.1 + p.2 ≤ top) ∧ DrewK n p (k + 3 * j) n', ⟨none, none, none, [], rfl, rfl, by simp, .refl pen⟩, ?_, ?_⟩
  · rintro j d Δ n1 hj ⟨v4, v6, v7, ps, rfl, pl, hp, dr⟩
    have jl : j < wires := by have := (List.getElem?_eq_some_iff.mp hj).1; rw [el] at this; exact this
    refine ⟨p, top, _, rfl, by omega, by omega, dr.pen, by omega, fun x n2 x0 x1 dr1 => ?_⟩
    refine ⟨p, _, _, rfl, by show 0 < 1 + x + 1; omega, by show 1 + x + 1 < 1073741824; omega, dr1.pen, by omega, fun z n3 z0 z1 dr2 => ⟨by show 3 ≤ sizeLine; decide, p, 3, _, rfl, by decide, by decide, dr2.pen, by omega, fun y n4 y0 y1 dr3 => ?_⟩⟩
    have z1 : z < 1 + x + 1 := z1
    have low : ∃ t : Int, atI [D.int 0, D.int (1 + x), D.int z] y = some (.int t) ∧ 0 ≤ t ∧ t ≤ 1 + x := by
      have h3 : y = 0 ∨ y = 1 ∨ y = 2 := by omega
      rcases h3 with rfl | rfl | rfl
      · exact ⟨0, rfl, by omega, by omega⟩
      · exact ⟨1 + x, rfl, by omega, by omega⟩
      · exact ⟨z, rfl, by omega, by omega⟩
    obtain ⟨t, et, t0, t1'⟩ := low
    refine ⟨_, et, rfl, by show 2 ≤ sizeLine; decide, ?_, flat_ints _, rfl, ?_⟩
    · rw [List.length_map, pairsF_len]; exact small100 (by show 2 * ps.length + 2 ≤ _; omega)
    refine ⟨some (.frz d), some (.frz (.int (1 + x))), some (.frz (.int t)), ps ++ [(t, 1 + x - t)], ?_, by simp [pl], fun q' hq' => ?_, (((dr.trans dr1).trans dr2).trans dr3).mono (by omega)⟩
    · rw [pairsF_app, List.map_append]; rfl
    · rcases List.mem_append.mp hq' with hq' | hq'
      · exact hp q' hq'
      · rw [List.mem_singleton] at hq'; subst hq'
        exact ⟨t0, by show 0 ≤ 1 + x - t; omega, by show 1 ≤ t + (1 + x - t); omega, by show t + (1 + x - t) ≤ top; omega⟩
  · rintro Δ n1 ⟨v4, v6, v7, ps, rfl, pl, hp, dr⟩
    rw [el] at pl dr
    have bl : (pairsF ps).length = 2 * wires := by rw [pairsF_len, pl]
    have b0 : ∀ x ∈ pairsF ps, 0 ≤ x := fun x hx => by
      obtain ⟨p', hp', rfl | rfl⟩ := pairsF_mem hx
      · exact (hp p' hp').1
      · exact (hp p' hp').2.1
    have wi : wiredOk (pairsF ps) wires := by
      have := pairs_wired (ps := ps) fun p' hp' => ⟨(hp p' hp').1, (hp p' hp').2.1, (hp p' hp').2.2.1, by have := (hp p' hp').2.2.2; omega⟩
      rw [pl] at this; exact this
    have wt : ∀ x ∈ wiredL (pairsF ps) wires, x ≤ top := fun x hx => by
      unfold wiredL at hx
      obtain ⟨i, hi, rfl⟩ := List.mem_map.mp hx
      rw [List.mem_range] at hi
      obtain ⟨e1, e2⟩ := pairs_get ps i (by omega)
      rw [e1, e2]
      exact (hp _ (List.getElem_mem (by omega))).2.2.2
    have hbl : ((pairsF ps).map D.int).length = 2 * wires := by rw [List.length_map, bl]
    refine ⟨trivial, by omega, by omega, ?_⟩
    rw [range0_eq]
    refine ⟨flat_ints _, ?_⟩
    have e0 : ((((pairsF ps).map D.int).length : Int)).toNat = 2 * wires := by omega
    rw [e0]
    refine lcW_filterE D.int (fun i => decide (0 < (pairsF ps).getD i.toNat 0)) D.int _ [] _ (by rw [rangeI_length]; simp; exact small100 (by omega)) (fun i hi n'' Q' q' => ?_) (fun i hi _ n'' Q' q' => q') ?_
    · have := mem_rangeI.mp hi
      exact ⟨_, at_nat (b := pairsF ps) (k := i.toNat) (by omega) (by omega), rfl, q'⟩
    rw [List.nil_append]
    have sne := laden_ne b0 w1 bl wi
    have ldm : ∀ e ∈ ladenL (pairsF ps) (rangeI (2 * wires)), 0 ≤ e ∧ e < 2 * wires ∧ 0 < (pairsF ps).getD e.toNat 0 := fun e he => laden_in he
    have ldl : (ladenL (pairsF ps) (rangeI (2 * wires))).length ≤ 2 * wires := by
      have := List.length_filter_le (fun e => decide (0 < (pairsF ps).getD e.toNat 0)) (rangeI (2 * wires))
      rw [rangeI_length] at this
      exact this
    have ldp : 1 ≤ (ladenL (pairsF ps) (rangeI (2 * wires))).length := List.length_pos_iff.mpr sne
    have eld : ((rangeI (2 * wires)).filter fun i => decide (0 < (pairsF ps).getD i.toNat 0)) = ladenL (pairsF ps) (rangeI (2 * wires)) := rfl
    rw [eld]
    generalize ladenL (pairsF ps) (rangeI (2 * wires)) = ld at ldm ldl ldp
    refine ⟨flat_ints _, p, _, _, rfl, by rw [List.length_map]; omega, by rw [List.length_map]; omega, dr.pen, by omega, fun z n2 z0 z1 dr1 => ?_⟩
    rw [List.length_map] at z1
    obtain ⟨e, ee, em, _⟩ := at_int (xs := ld) z0 (by omega)
    obtain ⟨g0, g1, g2⟩ := ldm e em
    refine ⟨_, ee, rfl, by show 2 ≤ sizeLine; decide, q _ _ _ ?_ wt ((dr.trans dr1).mono (by omega))⟩
    exact ⟨by omega, by omega, hh.perm, w1, w2, bl, b0, wi, g0, g1, g2⟩
end Lw

set_option Elab.async false
set_option linter.all false
set_option maxRecDepth 100000
set_option maxHeartbeats 2000000
/-! Deeds of a carrier: going, shifting. -/
namespace Lw
open PySem PySem.Spec PyProof.Rows L2 Dl
def goB (h : Hs) (b : List Int) (a e : Int) : Bool := decide (e ∈ rowOf h a) && decide (0 < b.getD e.toNat 0)
def shB (b : List Int) (a e : Int) : Bool := decide ((if decide (e = a) = true then (1 : Int) else 0) < b.getD e.toNat 0)
theorem Va.flen {h : Hs} {w : Nat} {b : List Int} {a : Int} (v : Va h w b a) : h.length ≤ 1000 ∧ a ∈ h.flatten ∧ h.flatten.length = 2 * w ∧ (rowOf h a).length ≤ 2 * w := by
  have := v.r2
  have ha := v.mem.mpr ⟨v.a0, v.a1⟩
  have := (List.sublist_flatten_of_mem (room_facts ha).2.2.2).length_le
  have := v.en.len
  exact ⟨by omega, ha, v.en.len, by omega⟩
theorem Va.rowIn {h : Hs} {w : Nat} {b : List Int} {a e : Int} (v : Va h w b a) (he : e ∈ rowOf h a) : 0 ≤ e ∧ e < 2 * w :=
  v.mem.mp (List.mem_flatten.mpr ⟨_, (room_facts v.flen.2.1).2.2.2, he⟩)
/-! ### where, may_go, can_go, gone -/
def sp_where : DSp := fun ds n X Q => ∃ (h : Hs) (w : Nat) (b : List Int) (a : Int), ds = [encH h, encS b a] ∧ Va h w b a ∧ Q (.int (roomOf h a : Nat)) n
theorem len_where : ∀ ds n X Q, sp_where ds n X Q → ds.length = 2 := by rintro ds n X Q ⟨h, w, b, a, rfl, _⟩; rfl
def rd_where : DTS := (tRetD (tCallD sp_room_of (tConsD (tVarD 0) (tConsD (tOpD drIx (tVarD 1) (tCD (.int 1))) tNilD))))
def N_where : List Str := ["house", "standing"]
theorem read_where : ∀ ds n Xd Qd, sp_where ds n Xd Qd → rd_where { nx := fun _ n' => Qd .non n', rt := Qd, xr := fun ex _ n' => Xd ex n' } (startD N_where ds) n := by
  rintro ds n Xd Qd ⟨h, w, b, a, rfl, v, q⟩
  obtain ⟨f1, f2, _⟩ := v.flen
  exact ⟨_, atI_nat (j := 1) (v := .int a) rfl, rfl, h, a, rfl, f1, f2, q⟩
def sp_may_go : DSp := fun ds n X Q => ∃ (h : Hs) (w : Nat) (b : List Int) (a : Int), ds = [encH h, encS b a] ∧ Va h w b a ∧ ∀ ns : List Int, (∀ e, e ∈ ns ↔ goB h b a e = true) → Q (.lst (ns.map D.int)) n
theorem len_may_go : ∀ ds n X Q, sp_may_go ds n X Q → ds.length = 2 := by rintro ds n X Q ⟨h, w, b, a, rfl, _⟩; rfl
def rd_may_go : DTS := (tRetD (tCallN drSorted (tConsD (tLcD .bor (tWSeq (tCallD sp_ends_of (tConsD (tVarD 0) (tConsD (tCallD sp_where (tConsD (tVarD 0) (tConsD (tVarD 1) tNilD))) tNilD)))) 2 (tTestD (tOpD drGt (tOpD drIx (tOpD drIx (tVarD 1) (tCD (.int 0))) (tVarD 2)) (tCD (.int 0)))) (tVarD 2)) tNilD)))
def N_may_go : List Str := ["house", "standing", "end"]
theorem read_may_go : ∀ ds n Xd Qd, sp_may_go ds n Xd Qd → rd_may_go { nx := fun _ n' => Qd .non n', rt := Qd, xr := fun ex _ n' => Xd ex n' } (startD N_may_go ds) n := by
  rintro ds n Xd Qd ⟨h, w, b, a, rfl, v, q⟩
  obtain ⟨f1, f2, f3, f4⟩ := v.flen
  have w2 := v.w2
  have bl := v.bl
  refine ⟨trivial, .inr ⟨h, w, b, a, rfl, v, h, _, rowOf h a, rfl, (room_facts f2).2.1, by rw [List.length_map]; exact small100 (by omega), flat_ints _, ?_⟩⟩
  refine lcW_filterE D.int (fun e => decide (0 < b.getD e.toNat 0)) D.int (rowOf h a) [] n (by simp; exact small100 (by omega)) (fun e he n' Q' q' => ?_) (fun e he _ n' Q' q' => q') ?_
  · have := v.rowIn he
    exact ⟨encI b, atI_nat (j := 0) rfl, flat_encI b, _, at_nat (b := b) (k := e.toNat) (by omega) (by omega), rfl, q'⟩
  · rw [List.nil_append]
    refine ⟨_, rfl, fun ns' hp _ => q ns' fun e => ?_⟩
    rw [hp.mem_iff, List.mem_filter]
    unfold goB
    rw [Bool.and_eq_true, decide_eq_true_iff, decide_eq_true_iff]
def sp_can_go : DSp := fun ds n X Q => ∃ (h : Hs) (w : Nat) (b : List Int) (a : Int), Va h w b a ∧ ((∃ e : Int, ds = [encH h, encS b a, .int e] ∧ Q (.bl (goB h b a e)) n) ∨ ∃ d, ds = [encH h, encS b a, d] ∧ NotInt (vw n d) ∧ Q (.bl false) n)
theorem len_can_go : ∀ ds n X Q, sp_can_go ds n X Q → ds.length = 3 := by rintro ds n X Q ⟨h, w, b, a, _, ⟨e, rfl, _⟩ | ⟨d, rfl, _⟩⟩ <;> rfl
def rd_can_go : DTS := (tRetD (tAndVD (tCallD sp_is_whole (tConsD (tVarD 2) tNilD)) (tOpD (drIn false) (tVarD 2) (tCallD sp_may_go (tConsD (tVarD 0) (tConsD (tVarD 1) tNilD))))))
def N_can_go : List Str := ["house", "standing", "thing"]
theorem read_can_go : ∀ ds n Xd Qd, sp_can_go ds n Xd Qd → rd_can_go { nx := fun _ n' => Qd .non n', rt := Qd, xr := fun ex _ n' => Xd ex n' } (startD N_can_go ds) n := by
  rintro ds n Xd Qd ⟨h, w, b, a, v, ⟨e, rfl, q⟩ | ⟨d, rfl, hd, q⟩⟩
  · refine .inl ⟨e, rfl, h, w, b, a, rfl, v, fun ns hns => ⟨_, rfl, rfl, sc_intsA ns, ?_⟩⟩
    rw [in_ints', show decide (e ∈ ns) = goB h b a e by rw [Bool.eq_iff_iff, decide_eq_true_iff]; exact hns e]
    exact q
  · exact .inr ⟨d, rfl, hd, q⟩
def sp_gone : DSp := fun ds n X Q => ∃ (h : Hs) (w : Nat) (b : List Int) (a : Int) (d : D), ds = [encH h, encS b a, d] ∧ Va h w b a ∧
  ((∃ e : Int, d = .int e ∧ (goB h b a e = true → Q (encS (moveL b e) (otherE e)) n) ∧ (goB h b a e = false → X (.exc1 "NoGoing" "at" (.int 0)) n)) ∨ NotInt (vw n d) ∧ X (.exc1 "NoGoing" "at" (.int 0)) n)
theorem len_gone : ∀ ds n X Q, sp_gone ds n X Q → ds.length = 3 := by rintro ds n X Q ⟨h, w, b, a, d, rfl, _⟩; rfl
def rd_gone : DTS := (tSeqD (tIfSD (tNotD (tTestD (tCallD sp_can_go (tConsD (tVarD 0) (tConsD (tVarD 1) (tConsD (tVarD 2) tNilD)))))) (tRaise1D "NoGoing" "at" (tCD (.int 0))) tNextD)
  (tRetD (tCallD sp_went (tConsD (tVarD 1) (tConsD (tVarD 2) tNilD)))))
def N_gone : List Str := ["house", "standing", "end"]
theorem read_gone : ∀ ds n Xd Qd, sp_gone ds n Xd Qd → rd_gone { nx := fun _ n' => Qd .non n', rt := Qd, xr := fun ex _ n' => Xd ex n' } (startD N_gone ds) n := by
  rintro ds n Xd Qd ⟨h, w, b, a, d, rfl, v, ⟨e, rfl, q1, q2⟩ | ⟨hd, q⟩⟩
  · refine ⟨h, w, b, a, v, .inl ⟨e, rfl, ?_⟩⟩
    cases c : goB h b a e with
    | false => exact ⟨rfl, q2 c⟩
    | true =>
      have w2 := v.w2
      have : e ∈ rowOf h a := by
        unfold goB at c
        rw [Bool.and_eq_true, decide_eq_true_iff] at c; exact c.1
      have := v.rowIn this
      exact ⟨b, a, w, e, rfl, v.bl, by omega, this.1, this.2, q1 c⟩
  · exact ⟨h, w, b, a, v, .inr ⟨d, rfl, hd, rfl, q⟩⟩
/-! ### can_shift, shifted -/
def sp_can_shift : DSp := fun ds n X Q => ∃ (b : List Int) (a e : Int), ds = [encS b a, .int e] ∧ 0 ≤ e ∧ e < b.length ∧ Q (.bl (shB b a e)) n
theorem len_can_shift : ∀ ds n X Q, sp_can_shift ds n X Q → ds.length = 2 := by rintro ds n X Q ⟨b, a, e, rfl, _⟩; rfl
def rd_can_shift : DTS := (tSeqD (tAsgD (tVarD 0) (gTupD 2 (gConsD (gNameD 2) (gConsD (gNameD 3) gNilD))))
  (tRetD (tOpD drGt (tOpD drIx (tVarD 2) (tVarD 1)) (tCallN drInt (tConsD (tOpD drEq (tVarD 1) (tVarD 3)) tNilD)))))
def N_can_shift : List Str := ["standing", "end", "beads", "at"]
theorem read_can_shift : ∀ ds n Xd Qd, sp_can_shift ds n Xd Qd → rd_can_shift { nx := fun _ n' => Qd .non n', rt := Qd, xr := fun ex _ n' => Xd ex n' } (startD N_can_shift ds) n := by
  rintro ds n Xd Qd ⟨b, a, e, rfl, e0, e1, q⟩
  exact ⟨rfl, _, at_nat (b := b) (k := e.toNat) (by omega) (by omega), rfl, q⟩
def sp_shifted : DSp := fun ds n X Q => ∃ (x : D) (b : List Int) (w : Nat) (a e : Int), ds = [x, encS b a, .int e] ∧ b.length = 2 * w ∧ w ≤ 1000 ∧ 0 ≤ e ∧ e < 2 * w ∧ (shB b a e = true → Q (encS (moveL b e) a) n) ∧ (shB b a e = false → X (.exc0 "NoShift") n)
theorem len_shifted : ∀ ds n X Q, sp_shifted ds n X Q → ds.length = 3 := by rintro ds n X Q ⟨x, b, w, a, e, rfl, _⟩; rfl
def rd_shifted : DTS := (tSeqD (tIfSD (tNotD (tTestD (tCallD sp_can_shift (tConsD (tVarD 1) (tConsD (tVarD 2) tNilD))))) (tRaiseSD "NoShift") tNextD)
  (tRetD (tTupD (tConsD (tCallD sp_moved (tConsD (tOpD drIx (tVarD 1) (tCD (.int 0))) (tConsD (tVarD 2) tNilD))) (tConsD (tOpD drIx (tVarD 1) (tCD (.int 1))) tNilD)))))
def N_shifted : List Str := ["house", "standing", "end"]
theorem read_shifted : ∀ ds n Xd Qd, sp_shifted ds n Xd Qd → rd_shifted { nx := fun _ n' => Qd .non n', rt := Qd, xr := fun ex _ n' => Xd ex n' } (startD N_shifted ds) n := by
  rintro ds n Xd Qd ⟨x, b, w, a, e, rfl, hb, hw, e0, e1, q1, q2⟩
  refine ⟨b, a, e, rfl, e0, by omega, ?_⟩
  cases c : shB b a e with
  | false => exact q2 c
  | true => exact ⟨encI b, atI_nat (j := 0) rfl, flat_encI b, b, w, e, rfl, hb, hw, e0, e1, .int a, atI_nat (j := 1) rfl, rfl, by show 2 ≤ sizeLine; decide, q1 c⟩
/-! ### the law's own next, went -/
theorem row_head {h : Hs} {e : Int} (he : e ∈ h.flatten) : (h.filter fun r => decide (e ∈ r)).head? = some (rowOf h e) := by
  obtain ⟨f1, f2, f3, f4⟩ := room_facts he
  rw [List.head?_filter, List.find?_eq_some_iff_getElem]
  refine ⟨decide_eq_true f3, roomOf h e, f1, ?_, fun j hj => ?_⟩
  · have := List.getElem?_eq_getElem f1
    rw [this] at f2; exact Option.some.inj f2
  · have hn := List.not_of_lt_findIdx (p := fun r => decide (e ∈ r)) (xs := h) hj
    simpa using hn
theorem turn_get {r : List Int} {x : Int} (hx : x ∈ r) (k : Nat) (hk : k < r.length) : (turnL r x)[k]? = r[(r.idxOf x + 1 + k) % r.length]? := by
  have hi := List.idxOf_lt_length_of_mem hx
  unfold turnL
  by_cases c : r.idxOf x + 1 + k < r.length
  · rw [List.getElem?_append_left (by rw [List.length_drop]; omega), List.getElem?_drop, Nat.mod_eq_of_lt c]
  · rw [List.getElem?_append_right (by rw [List.length_drop]; omega), List.length_drop, List.getElem?_take_of_lt (by omega)]
    congr 1
    rw [Nat.mod_eq_sub_mod (by omega), Nat.mod_eq_of_lt (by omega)]; omega
def sp_l_next : DSp := fun ds n X Q => ∃ (h : Hs) (w : Nat) (b : List Int) (a : Int), ds = [encH h, encS b a] ∧ Va h w b a ∧ Q (.int (nextE h b a)) n
theorem len_l_next : ∀ ds n X Q, sp_l_next ds n X Q → ds.length = 2 := by rintro ds n X Q ⟨h, w, b, a, rfl, _⟩; rfl
def rd_l_next : DTS := (tSeqD (tSetD 2 (tOpD drIx (tLcD .bor (tWSeq (tVarD 0)) 6 (tTestD (tOpD (drIn false) (tOpD drIx (tVarD 1) (tCD (.int 1))) (tVarD 6))) (tVarD 6)) (tCD (.int 0))))
  (tSeqD (tSetD 3 (tTupIdxD (tVarD 2) (tOpD drIx (tVarD 1) (tCD (.int 1)))))
  (tSeqD (tForD (tWRng1 (tCallN drLen (tConsD (tVarD 2) tNilD))) (gNameD 4) (tSeqD (tSetD 5 (tOpD drIx (tVarD 2) (tOpD drMod (tOpD drAdd (tOpD drAdd (tVarD 3) (tCD (.int 1))) (tVarD 4)) (tCallN drLen (tConsD (tVarD 2) tNilD)))))
  (tIfSD (tTestD (tOpD drGt (tOpD drIx (tOpD drIx (tVarD 1) (tCD (.int 0))) (tVarD 5)) (tCD (.int 0)))) (tRetD (tVarD 5)) tNextD)))
  (tRetD (tCD .non)))))
def N_l_next : List Str := ["home", "stand", "row", "spot", "k", "tip", "ends_so"]
theorem first_filter {p : Int → Bool} : ∀ (xs : List Int) (j : Nat) (x : Int), (∀ i y, i < j → xs[i]? = some y → p y = false) → xs[j]? = some x → p x = true → (xs.filter p).headD 0 = x
  | [], j, x, _, h, _ => by simp at h
  | y :: xs, 0, x, _, h, hp => by
    cases h
    rw [List.filter_cons_of_pos hp]; rfl
  | y :: xs, j + 1, x, h1, h, hp => by
    have h0 := h1 0 y (by omega) rfl
    rw [List.filter_cons_of_neg (by rw [h0]; decide)]
    exact first_filter xs j x (fun i z hi hz => h1 (i + 1) z (by omega) (by simpa using hz)) (by simpa using h) hp
theorem none_filter {p : Int → Bool} {xs : List Int} (h : ∀ (i : Nat) y, i < xs.length → xs[i]? = some y → p y = false) : xs.filter p = [] := by
  rw [List.filter_eq_nil_iff]
  intro y hy
  obtain ⟨i, hi⟩ := List.mem_iff_getElem?.mp hy
  have := (List.getElem?_eq_some_iff.mp hi).1
  rw [h i y this hi]; decide
theorem read_l_next : ∀ ds n Xd Qd, sp_l_next ds n Xd Qd → rd_l_next { nx := fun _ n' => Qd .non n', rt := Qd, xr := fun ex _ n' => Xd ex n' } (startD N_l_next ds) n := by
  rintro ds n Xd Qd ⟨h, w, b, a, rfl, v, q⟩
  obtain ⟨f1, f2, f3, f4⟩ := v.flen
  obtain ⟨g1, g2, g3, g4⟩ := room_facts f2
  have w2 := v.w2
  have bl := v.bl
  have rp : 0 < (rowOf h a).length := List.length_pos_of_mem g3
  refine ⟨trivial, .inr ⟨by rw [List.length_map]; exact small100 (by omega), flat_encIs h, ?_⟩⟩
  refine lcW_filterE encI (fun r => decide (a ∈ r)) encI h [] n (by simp; exact small100 (by omega)) (fun r hr n' Q' q' => ?_) (fun r hr _ n' Q' q' => q') ?_
  · refine ⟨.int a, atI_nat (j := 1) rfl, rfl, _, rfl, rfl, sc_intsA _, ?_⟩
    rw [in_ints']
    exact q'
  rw [List.nil_append]
  refine ⟨encI (rowOf h a), at_head (by rw [List.head?_map, row_head f2]; rfl), flat_encI _, ?_⟩
  refine ⟨rowOf h a, rfl, .int a, atI_nat (j := 1) rfl, rfl, a, rfl, g3, ?_⟩
  have hl : ((rowOf h a).map D.int).length = (rowOf h a).length := List.length_map _
  refine ⟨by rw [hl]; omega, by rw [hl]; omega, ?_⟩
  have el : (rangeD 0 (((rowOf h a).map D.int).length : Int).toNat).length = (rowOf h a).length := by rw [rangeD_length, hl]; omega
  refine ⟨fun j Δ n' => ∃ (v4 v5 : Option SV), Δ = [some (.frz (encH h)), some (.frz (encS b a)), some (.frz (encI (rowOf h a))), some (.frz (.int ((rowOf h a).idxOf a : Nat))), v4, v5, none] ∧ n' = n ∧ ∀ i y, i < j → (behindL h a)[i]? = some y → decide (0 < b.getD y.toNat 0) = false, ⟨none, none, rfl, rfl, fun i y z => absurd z (Nat.not_lt_zero _)⟩, ?_, ?_⟩
  · rintro j d Δ n1 hj ⟨v4, v5, rfl, rfl, no⟩
    obtain ⟨jl, rfl⟩ : j < (rowOf h a).length ∧ d = .int j := by
      have hjl := (List.getElem?_eq_some_iff.mp hj).1
      rw [el] at hjl
      rw [rangeD_get _ _ _ (by rw [hl]; omega)] at hj
      cases hj
      exact ⟨hjl, by rw [Int.zero_add]⟩
    have hm : ((rowOf h a).idxOf a + 1 + j) % (rowOf h a).length < (rowOf h a).length := Nat.mod_lt _ rp
    have em : (((rowOf h a).idxOf a : Nat) : Int) + 1 + (j : Int) = (((rowOf h a).idxOf a + 1 + j : Nat) : Int) := by omega
    have tg := turn_get g3 j jl
    rw [List.getElem?_eq_getElem hm] at tg
    have hx : (rowOf h a)[((rowOf h a).idxOf a + 1 + j) % (rowOf h a).length] ∈ rowOf h a := List.getElem_mem hm
    generalize hxx : (rowOf h a)[((rowOf h a).idxOf a + 1 + j) % (rowOf h a).length] = x at tg hx
    have xr := v.rowIn hx
    refine ⟨by rw [hl]; omega, .int x, ?_, rfl, ?_⟩
    · rw [em, hl]
      refine atI_nat (j := ((rowOf h a).idxOf a + 1 + j) % (rowOf h a).length) ?_ |> fun z => (by rw [← z]; rfl)
      exact (by rw [List.getElem?_map, List.getElem?_eq_getElem hm, hxx]; rfl)
    refine ⟨encI b, atI_nat (j := 0) rfl, flat_encI b, _, at_nat (b := b) (k := x.toNat) (by omega) (by omega), rfl, ?_⟩
    refine ifX (fun c => ?_) (fun c => ?_)
    · refine ⟨rfl, ?_⟩
      have : nextE h b a = x := first_filter (behindL h a) j x no tg c
      rw [← this]; exact q
    · refine ⟨_, _, rfl, rfl, fun i y hi hy => ?_⟩
      by_cases e : i = j
      · subst e
        have tg' : (behindL h a)[i]? = some x := tg
        rw [tg'] at hy; cases hy; exact c
      · exact no i y (by omega) hy
  · rintro Δ n1 ⟨v4, v5, rfl, rfl, no⟩
    rw [el] at no
    exact absurd (none_filter (xs := behindL h a) fun i y hi hy => no i y (by unfold behindL at hi; rw [turn_len] at hi; exact hi) hy) v.next.1
def sp_l_went : DSp := fun ds n X Q => ∃ (b : List Int) (a : Int) (w : Nat) (e : Int), ds = [encS b a, .int e] ∧ b.length = 2 * w ∧ w ≤ 1000 ∧ 0 ≤ e ∧ e < 2 * w ∧ Q (encS (moveL b e) (otherE e)) n
theorem len_l_went : ∀ ds n X Q, sp_l_went ds n X Q → ds.length = 2 := by rintro ds n X Q ⟨b, a, w, e, rfl, _⟩; rfl
def rd_l_went : DTS := (tSeqD (tSetD 2 (tIfD (tTestD (tOpD drEq (tOpD drMod (tVarD 1) (tCD (.int 2))) (tCD (.int 0)))) (tOpD drAdd (tVarD 1) (tCD (.int 1))) (tOpD drSub (tVarD 1) (tCD (.int 1)))))
  (tSeqD (tOwnD 3 (tCallN drList (tConsD (tOpD drIx (tVarD 0) (tCD (.int 0))) tNilD)))
  (tSeqD (tStD 3 (tVarD 1) (tOpD drSub (tOpD drIx (tVarD 3) (tVarD 1)) (tCD (.int 1))))
  (tSeqD (tStD 3 (tVarD 2) (tOpD drAdd (tOpD drIx (tVarD 3) (tVarD 2)) (tCD (.int 1))))
  (tRetD (tTupD (tConsD (tCallN drTup (tConsD (tVarD 3) tNilD)) (tConsD (tVarD 2) tNilD))))))))
def N_l_went : List Str := ["stand", "tip", "other", "row"]
def rd_went2 : DTS := (tSeqD (tOwnD 3 (tCallN drList (tConsD (tOpD drIx (tVarD 0) (tCD (.int 0))) tNilD)))
  (tSeqD (tStD 3 (tVarD 1) (tOpD drSub (tOpD drIx (tVarD 3) (tVarD 1)) (tCD (.int 1))))
  (tSeqD (tStD 3 (tVarD 2) (tOpD drAdd (tOpD drIx (tVarD 3) (tVarD 2)) (tCD (.int 1))))
  (tRetD (tTupD (tConsD (tCallN drTup (tConsD (tVarD 3) tNilD)) (tConsD (tVarD 2) tNilD)))))))
theorem ix_nat {l : Nat} {e : Int} (h0 : 0 ≤ e) (h1 : e < l) : ixN l e = some e.toNat := by
  unfold ixN
  rw [if_pos h0, if_pos h1]
theorem read_went2 (C : DEnds) {b : List Int} {a e : Int} {w : Nat} {n : Sto} (hb : b.length = 2 * w) (hw : w ≤ 1000) (e0 : 0 ≤ e) (e1 : e < 2 * w) (q : C.rt (encS (moveL b e) (otherE e)) n) :
    rd_went2 C [some (.frz (encS b a)), some (.frz (.int e)), some (.frz (.int (otherE e))), none] n := by
  obtain ⟨o0, o1⟩ := otherE_lt e0 e1
  refine ⟨encI b, atI_nat (j := 0) rfl, flat_encI b, flat_ints b, flat_ints b, ?_⟩
  refine ⟨_, at_nat (b := b) (k := e.toNat) (by omega) (by omega), rfl, e.toNat, ix_nat e0 (by rw [List.length_map]; omega), ?_⟩
  refine ⟨.int ((b.set e.toNat (b.getD e.toNat 0 - 1)).getD (otherE e).toNat 0), ?_, rfl, (otherE e).toNat, ix_nat o0 (by rw [List.length_set, List.length_map]; omega), ?_⟩
  · rw [← List.map_set]
    exact at_nat (k := (otherE e).toNat) (by rw [List.length_set]; omega) (by omega)
  · rw [← List.map_set, ← List.map_set]
    exact ⟨flat_ints _, rfl, by show 2 ≤ sizeLine; decide, q⟩
theorem read_l_went : ∀ ds n Xd Qd, sp_l_went ds n Xd Qd → rd_l_went { nx := fun _ n' => Qd .non n', rt := Qd, xr := fun ex _ n' => Xd ex n' } (startD N_l_went ds) n := by
  rintro ds n Xd Qd ⟨b, a, w, e, rfl, hb, hw, e0, e1, q⟩
  refine ⟨by show (0 : Int) < 2; decide, ifX (fun c => ?_) (fun c => ?_)⟩
  · have c : e % 2 = 0 := of_decide_eq_true c
    have : e + 1 = otherE e := by unfold otherE; omega
    show rd_went2 _ [some (.frz (encS b a)), some (.frz (.int e)), some (.frz (.int (e + 1))), none] n
    rw [this]
    exact read_went2 _ hb hw e0 e1 q
  · have c : ¬ e % 2 = 0 := of_decide_eq_false c
    have : e - 1 = otherE e := by unfold otherE; omega
    show rd_went2 _ [some (.frz (encS b a)), some (.frz (.int e)), some (.frz (.int (e - 1))), none] n
    rw [this]
    exact read_went2 _ hb hw e0 e1 q
end Lw

set_option Elab.async false
set_option linter.all false
set_option maxRecDepth 100000
set_option maxHeartbeats 2000000
/-! The carrier: what it keeps, its deeds. -/
namespace Lw
open PySem PySem.Spec PyProof.Rows L2 Dl
structure Deed where
  w : Str
  e : Int
  s : D
  l : D
def encD (d : Deed) : D := .tup [.str d.w, .int d.e, d.s, d.l]
def carF (h : Hs) (b : List Int) (a : Int) (q : Addr) (l : D) (k : Int) : List (Str × D) := [("kept_house", encH h), ("now_standing", encS b a), ("now_deeds", .loc q), ("now_lot", l), ("now_looked", .int k)]
structure CarR (n : Sto) (m q : Addr) (h : Hs) (b : List Int) (a : Int) (l : D) (k : Int) (dd : List Deed) : Prop where
  at' : n m = some (.ins "Carrier" (carF h b a q l k))
  dd : n q = some (.lst (dd.map encD))
  fl : flat l = true
def Only2 (n n' : Sto) (m q : Addr) : Prop := ∀ x, x ≠ m → x ≠ q → n' x = n x
theorem Only2.trans {n n1 n2 : Sto} {m q : Addr} (a : Only2 n n1 m q) (b : Only2 n1 n2 m q) : Only2 n n2 m q := fun x h1 h2 => (b x h1 h2).trans (a x h1 h2)
theorem CarR.ne {n : Sto} {m q : Addr} {h : Hs} {b : List Int} {a : Int} {l : D} {k : Int} {dd : List Deed} (c : CarR n m q h b a l k dd) : q ≠ m := fun z => by
  have := c.dd
  rw [z, c.at'] at this; cases this
section
variable (h : Hs) (b : List Int) (a : Int) (q : Addr) (l : D) (k : Int)
theorem car_h : (carF h b a q l k).lookup ("kept_house" : Str) = some (encH h) := rfl
theorem car_s : (carF h b a q l k).lookup ("now_standing" : Str) = some (encS b a) := rfl
theorem car_d : (carF h b a q l k).lookup ("now_deeds" : Str) = some (.loc q) := rfl
theorem car_l : (carF h b a q l k).lookup ("now_lot" : Str) = some l := rfl
theorem car_k : (carF h b a q l k).lookup ("now_looked" : Str) = some (.int k) := rfl
theorem put_s (c : List Int) (d : Int) : putFD "now_standing" (encS c d) (carF h b a q l k) = carF h c d q l k := rfl
theorem put_l (l' : D) : putFD "now_lot" l' (carF h b a q l k) = carF h b a q l' k := rfl
theorem put_k (k' : Int) : putFD "now_looked" (.int k') (carF h b a q l k) = carF h b a q l k' := rfl
end
/-! ### __init__, __len__, deed -/
def sp_Carrier___init__ : DSp := fun ds n X Q => ∃ (m : Addr) (h : Hs) (b : List Int) (a : Int), ds = [.loc m, encH h, encS b a] ∧ n m = some (.ins "Carrier" []) ∧ ∀ q n', n q = none → CarR n' m q h b a .non 0 [] → Only2 n n' m q → Q .non n'
theorem len_Carrier___init__ : ∀ ds n X Q, sp_Carrier___init__ ds n X Q → ds.length = 3 := by rintro ds n X Q ⟨m, h, b, a, rfl, _⟩; rfl
def rd_Carrier___init__ : DTS := (tSeqD (tStFD "Carrier" "kept_house" (tVarD 0) (tVarD 1))
  (tSeqD (tStFD "Carrier" "now_standing" (tVarD 0) (tVarD 2))
  (tSeqD (tStFD "Carrier" "now_deeds" (tVarD 0) (tRootD (tLstD tNilD)))
  (tSeqD (tStFD "Carrier" "now_lot" (tVarD 0) (tCD .non))
  (tStFD "Carrier" "now_looked" (tVarD 0) (tCD (.int 0)))))))
def N_Carrier___init__ : List Str := ["self", "house", "standing"]
theorem read_Carrier___init__ : ∀ ds n Xd Qd, sp_Carrier___init__ ds n Xd Qd → rd_Carrier___init__ { nx := fun _ n' => Qd .non n', rt := Qd, xr := fun ex _ n' => Xd ex n' } (startD N_Carrier___init__ ds) n := by
  rintro ds n Xd Qd ⟨m, h, b, a, rfl, hm, q⟩
  refine ⟨flat_encH h, m, [], rfl, hm, by show 0 < 1000; decide, flat_encS b a, m, [("kept_house", encH h)], rfl, updS_same, by show 1 < 1000; decide, by show 0 ≤ sizeLine; decide, rfl, fun p hp => ⟨rfl, m, [("kept_house", encH h), ("now_standing", encS b a)], rfl, ?_, by show 2 < 1000; decide, rfl, m, [("kept_house", encH h), ("now_standing", encS b a), ("now_deeds", .loc p)], rfl, updS_same, by show 3 < 1000; decide, rfl, m, [("kept_house", encH h), ("now_standing", encS b a), ("now_deeds", .loc p), ("now_lot", .non)], rfl, updS_same, by show 4 < 1000; decide, ?_⟩⟩
  · have : m ≠ p := fun z => by rw [← z, updS_same] at hp; cases hp
    rw [updS_ne this]; exact updS_same
  · have ne : m ≠ p := fun z => by rw [← z, updS_same] at hp; cases hp
    refine q p _ ?_ ⟨updS_same, ?_, rfl⟩ fun x h1 h2 => ?_
    · rw [updS_ne (Ne.symm ne), updS_ne (Ne.symm ne)] at hp; exact hp
    · rw [updS_ne (Ne.symm ne), updS_ne (Ne.symm ne), updS_ne (Ne.symm ne)]; exact updS_same
    · rw [updS_ne h1, updS_ne h1, updS_ne h1, updS_ne h2, updS_ne h1, updS_ne h1]
def sp_Carrier___len__ : DSp := fun ds n X Q => ∃ (m q : Addr) (h : Hs) (b : List Int) (a : Int) (l : D) (k : Int) (dd : List Deed), ds = [.loc m] ∧ CarR n m q h b a l k dd ∧ Q (.int dd.length) n
theorem len_Carrier___len__ : ∀ ds n X Q, sp_Carrier___len__ ds n X Q → ds.length = 1 := by rintro ds n X Q ⟨m, q, h, b, a, l, k, dd, rfl, _⟩; rfl
def rd_Carrier___len__ : DTS := (tRetD (tCallV drLen (tConsD (tFldD "Carrier" "now_deeds" (tVarD 0)) tNilD)))
def N_Carrier___len__ : List Str := ["self"]
theorem read_Carrier___len__ : ∀ ds n Xd Qd, sp_Carrier___len__ ds n Xd Qd → rd_Carrier___len__ { nx := fun _ n' => Qd .non n', rt := Qd, xr := fun ex _ n' => Xd ex n' } (startD N_Carrier___len__ ds) n := by
  rintro ds n Xd Qd ⟨m, q, h, b, a, l, k, dd, rfl, c, q'⟩
  refine ⟨m, _, _, rfl, c.at', car_d .., ?_⟩
  have ev : vw n (D.loc q) = .lst (dd.map encD) := by simp only [vw, c.dd]
  simp only [tNilD, List.map_cons, List.map_nil, ev]
  show Qd (.int ((dd.map encD).length : Nat)) n
  rw [List.length_map]; exact q'
def sp_Carrier_deed : DSp := fun ds n X Q => ∃ (m q : Addr) (h : Hs) (b : List Int) (a : Int) (l : D) (k : Int) (dd : List Deed) (w : Str) (e : Int) (b' : List Int) (a' : Int), ds = [.loc m, .str w, .int e, encS b' a'] ∧ CarR n m q h b a l k dd ∧ dd.length < 1000 ∧
  ∀ n', CarR n' m q h b' a' l k (dd ++ [⟨w, e, encS b a, l⟩]) → Only2 n n' m q → Q .non n'
theorem len_Carrier_deed : ∀ ds n X Q, sp_Carrier_deed ds n X Q → ds.length = 4 := by rintro ds n X Q ⟨m, q, h, b, a, l, k, dd, w, e, b', a', rfl, _⟩; rfl
def rd_Carrier_deed : DTS := (tSeqD (tDropD (tMthRD drApp (tFldD "Carrier" "now_deeds" (tVarD 0)) (tConsD (tTupD (tConsD (tVarD 1) (tConsD (tVarD 2) (tConsD (tFldD "Carrier" "now_standing" (tVarD 0)) (tConsD (tFldD "Carrier" "now_lot" (tVarD 0)) tNilD))))) tNilD)))
  (tStFD "Carrier" "now_standing" (tVarD 0) (tVarD 3)))
def N_Carrier_deed : List Str := ["self", "word", "end", "standing"]
theorem read_Carrier_deed : ∀ ds n Xd Qd, sp_Carrier_deed ds n Xd Qd → rd_Carrier_deed { nx := fun _ n' => Qd .non n', rt := Qd, xr := fun ex _ n' => Xd ex n' } (startD N_Carrier_deed ds) n := by
  rintro ds n Xd Qd ⟨m, q, h, b, a, l, k, dd, w, e, b', a', rfl, c, hl, q'⟩
  refine ⟨m, _, _, rfl, c.at', car_d .., ⟨_, c.dd⟩, m, _, _, rfl, c.at', car_s .., m, _, _, rfl, c.at', car_l .., by show 4 ≤ sizeLine; decide, _, c.dd, ?_, by rw [List.length_map]; exact Nat.lt_of_lt_of_le hl (by decide), ?_⟩
  · show (true && (true && (flat (encS b a) && (flat l && true)))) = true
    rw [flat_encS, c.fl]; rfl
  · refine ⟨flat_encS b' a', m, _, rfl, (updS_ne (Ne.symm c.ne)).trans c.at', by show 5 < 1000; decide, ?_⟩
    rw [put_s]
    refine q' _ ⟨updS_same, ?_, c.fl⟩ fun x h1 h2 => by rw [updS_ne h1, updS_ne h2]
    rw [updS_ne c.ne, updS_same, List.map_append]; rfl
/-! ### step, go, about, shift -/
def sp_Carrier_step : DSp := fun ds n X Q => ∃ (m q : Addr) (h : Hs) (x : Nat) (b : List Int) (a : Int) (l : D) (k : Int) (dd : List Deed), ds = [.loc m] ∧ CarR n m q h b a l k dd ∧ dd.length < 1000 ∧ Va h x b a ∧
  ∀ n', CarR n' m q h (stepB h b a) (stepA h b a) l k (dd ++ [⟨"step", nextE h b a, encS b a, l⟩]) → Only2 n n' m q → Q (.int (nextE h b a)) n'
theorem len_Carrier_step : ∀ ds n X Q, sp_Carrier_step ds n X Q → ds.length = 1 := by rintro ds n X Q ⟨m, q, h, x, b, a, l, k, dd, rfl, _⟩; rfl
def rd_Carrier_step : DTS := (tSeqD (tSetD 1 (tCallD sp_next_end (tConsD (tFldD "Carrier" "kept_house" (tVarD 0)) (tConsD (tFldD "Carrier" "now_standing" (tVarD 0)) tNilD))))
  (tSeqD (tDropD (tMethD "Carrier" "deed" sp_Carrier_deed (tVarD 0) (tConsD (tCD (.str (Str.ofString "step"))) (tConsD (tVarD 1) (tConsD (tCallD sp_went (tConsD (tFldD "Carrier" "now_standing" (tVarD 0)) (tConsD (tVarD 1) tNilD))) tNilD)))))
  (tRetD (tVarD 1))))
def N_Carrier_step : List Str := ["self", "end"]
theorem read_Carrier_step : ∀ ds n Xd Qd, sp_Carrier_step ds n Xd Qd → rd_Carrier_step { nx := fun _ n' => Qd .non n', rt := Qd, xr := fun ex _ n' => Xd ex n' } (startD N_Carrier_step ds) n := by
  rintro ds n Xd Qd ⟨m, q, h, x, b, a, l, k, dd, rfl, c, hl, v, q'⟩
  have w2 := v.w2
  obtain ⟨_, _, _, n2, n3⟩ := v.next
  refine ⟨m, _, _, rfl, c.at', car_h .., m, _, _, rfl, c.at', car_s .., h, x, b, a, rfl, v, m, _, rfl, c.at', rfl, m, _, _, rfl, c.at', car_s .., b, a, x, nextE h b a, rfl, v.bl, by omega, n2, n3, m, q, h, b, a, l, k, dd, _, _, _, _, rfl, c, hl, fun n' c' o => ?_⟩
  exact ⟨rfl, q' n' c' o⟩
def sp_Carrier_go : DSp := fun ds n X Q => ∃ (m q : Addr) (h : Hs) (x : Nat) (b : List Int) (a : Int) (l : D) (k : Int) (dd : List Deed) (d : D), ds = [.loc m, d] ∧ CarR n m q h b a l k dd ∧ dd.length < 1000 ∧ Va h x b a ∧
  ((∃ e : Int, d = .int e ∧ (goB h b a e = true → ∀ n', CarR n' m q h (moveL b e) (otherE e) l k (dd ++ [⟨"go", e, encS b a, l⟩]) → Only2 n n' m q → Q .non n') ∧ (goB h b a e = false → X (.exc1 "NoGoing" "at" (.int 0)) n)) ∨ NotInt (vw n d) ∧ X (.exc1 "NoGoing" "at" (.int 0)) n)
theorem len_Carrier_go : ∀ ds n X Q, sp_Carrier_go ds n X Q → ds.length = 2 := by rintro ds n X Q ⟨m, q, h, x, b, a, l, k, dd, d, rfl, _⟩; rfl
def rd_Carrier_go : DTS := (tDropD (tMethD "Carrier" "deed" sp_Carrier_deed (tVarD 0) (tConsD (tCD (.str (Str.ofString "go"))) (tConsD (tVarD 1) (tConsD (tCallD sp_gone (tConsD (tFldD "Carrier" "kept_house" (tVarD 0)) (tConsD (tFldD "Carrier" "now_standing" (tVarD 0)) (tConsD (tVarD 1) tNilD)))) tNilD)))))
def N_Carrier_go : List Str := ["self", "end"]
theorem read_Carrier_go : ∀ ds n Xd Qd, sp_Carrier_go ds n Xd Qd → rd_Carrier_go { nx := fun _ n' => Qd .non n', rt := Qd, xr := fun ex _ n' => Xd ex n' } (startD N_Carrier_go ds) n := by
  rintro ds n Xd Qd ⟨m, q, h, x, b, a, l, k, dd, d, rfl, c, hl, v, ⟨e, rfl, q1, q2⟩ | ⟨hd, q1⟩⟩
  · refine ⟨m, _, rfl, c.at', rfl, m, _, _, rfl, c.at', car_h .., m, _, _, rfl, c.at', car_s .., h, x, b, a, _, rfl, v, .inl ⟨e, rfl, fun g => ?_, fun g => q2 g⟩⟩
    exact ⟨m, q, h, b, a, l, k, dd, _, _, _, _, rfl, c, hl, fun n' c' o => q1 g n' c' o⟩
  · exact ⟨m, _, rfl, c.at', rfl, m, _, _, rfl, c.at', car_h .., m, _, _, rfl, c.at', car_s .., h, x, b, a, _, rfl, v, .inr ⟨hd, q1⟩⟩
def sp_Carrier_about : DSp := fun ds n X Q => ∃ (m q : Addr) (h : Hs) (x : Nat) (b : List Int) (a : Int) (l : D) (k : Int) (dd : List Deed), ds = [.loc m] ∧ CarR n m q h b a l k dd ∧ dd.length < 1000 ∧ Va h x b a ∧
  ∀ n', CarR n' m q h (moveL b a) (otherE a) l k (dd ++ [⟨"about", a, encS b a, l⟩]) → Only2 n n' m q → Q .non n'
theorem len_Carrier_about : ∀ ds n X Q, sp_Carrier_about ds n X Q → ds.length = 1 := by rintro ds n X Q ⟨m, q, h, x, b, a, l, k, dd, rfl, _⟩; rfl
def rd_Carrier_about : DTS := (tSeqD (tSetD 1 (tOpD drIx (tFldD "Carrier" "now_standing" (tVarD 0)) (tCD (.int 1))))
  (tDropD (tMethD "Carrier" "deed" sp_Carrier_deed (tVarD 0) (tConsD (tCD (.str (Str.ofString "about"))) (tConsD (tVarD 1) (tConsD (tCallD sp_went (tConsD (tFldD "Carrier" "now_standing" (tVarD 0)) (tConsD (tVarD 1) tNilD))) tNilD))))))
def N_Carrier_about : List Str := ["self", "end"]
theorem read_Carrier_about : ∀ ds n Xd Qd, sp_Carrier_about ds n Xd Qd → rd_Carrier_about { nx := fun _ n' => Qd .non n', rt := Qd, xr := fun ex _ n' => Xd ex n' } (startD N_Carrier_about ds) n := by
  rintro ds n Xd Qd ⟨m, q, h, x, b, a, l, k, dd, rfl, c, hl, v, q'⟩
  have w2 := v.w2
  refine ⟨m, _, _, rfl, c.at', car_s .., .int a, atI_nat (j := 1) rfl, rfl, m, _, rfl, c.at', rfl, m, _, _, rfl, c.at', car_s .., b, a, x, a, rfl, v.bl, by omega, v.a0, v.a1, m, q, h, b, a, l, k, dd, _, _, _, _, rfl, c, hl, fun n' c' o => ?_⟩
  exact q' n' c' o
def shiftB (b : List Int) (a e : Int) : Bool := (decide (0 ≤ e) && decide (e ≤ (b.length : Int) - 1)) && shB b a e
def sp_Carrier_shift : DSp := fun ds n X Q => ∃ (m q : Addr) (h : Hs) (x : Nat) (b : List Int) (a : Int) (l : D) (k : Int) (dd : List Deed) (d : D), ds = [.loc m, d] ∧ CarR n m q h b a l k dd ∧ dd.length < 1000 ∧ Va h x b a ∧
  ((∃ e : Int, d = .int e ∧ (shiftB b a e = true → ∀ n', CarR n' m q h (moveL b e) a .non k (dd ++ [⟨"shift", e, encS b a, l⟩]) → Only2 n n' m q → Q .non n') ∧ (shiftB b a e = false → X (.exc0 "NoShift") n)) ∨ NotInt (vw n d) ∧ X (.exc0 "NoShift") n)
theorem len_Carrier_shift : ∀ ds n X Q, sp_Carrier_shift ds n X Q → ds.length = 2 := by rintro ds n X Q ⟨m, q, h, x, b, a, l, k, dd, d, rfl, _⟩; rfl
def rd_Carrier_shift : DTS := (tSeqD (tIfSD (tNotD (tTestD (tCallD sp_is_within (tConsD (tVarD 1) (tConsD (tCD (.int 0)) (tConsD (tOpD drSub (tCallD sp_many_ends (tConsD (tFldD "Carrier" "kept_house" (tVarD 0)) tNilD)) (tCD (.int 1))) tNilD)))))) (tRaiseSD "NoShift") tNextD)
  (tSeqD (tDropD (tMethD "Carrier" "deed" sp_Carrier_deed (tVarD 0) (tConsD (tCD (.str (Str.ofString "shift"))) (tConsD (tVarD 1) (tConsD (tCallD sp_shifted (tConsD (tFldD "Carrier" "kept_house" (tVarD 0)) (tConsD (tFldD "Carrier" "now_standing" (tVarD 0)) (tConsD (tVarD 1) tNilD)))) tNilD)))))
  (tStFD "Carrier" "now_lot" (tVarD 0) (tCD .non))))
def N_Carrier_shift : List Str := ["self", "end"]
theorem read_Carrier_shift : ∀ ds n Xd Qd, sp_Carrier_shift ds n Xd Qd → rd_Carrier_shift { nx := fun _ n' => Qd .non n', rt := Qd, xr := fun ex _ n' => Xd ex n' } (startD N_Carrier_shift ds) n := by
  rintro ds n Xd Qd ⟨m, q, h, x, b, a, l, k, dd, d, rfl, c, hl, v, hd⟩
  have w2 := v.w2
  obtain ⟨f1, f2, f3, f4⟩ := v.flen
  have bl := v.bl
  have rows : ∀ r ∈ h, r.length ≤ 1000 := fun r hr => by have := (List.sublist_flatten_of_mem hr).length_le; omega
  refine ⟨m, _, _, rfl, c.at', car_h .., h, rfl, f1, rows, ?_⟩
  rcases hd with ⟨e, rfl, q1, q2⟩ | ⟨hd, q1⟩
  · refine .inl ⟨e, 0, _, rfl, ?_⟩
    have eb : (decide (0 ≤ e) && decide (e ≤ (h.flatten.length : Int) - 1)) = (decide (0 ≤ e) && decide (e ≤ (b.length : Int) - 1)) := by rw [f3, bl]
    have eb' : (decide (0 ≤ e) && decide (e ≤ (fun i j => i - j) (h.flatten.length : Int) 1)) = (decide (0 ≤ e) && decide (e ≤ (b.length : Int) - 1)) := eb
    rw [eb']
    cases g : decide (0 ≤ e) && decide (e ≤ (b.length : Int) - 1) with
    | false => exact q2 (by unfold shiftB; rw [g]; rfl)
    | true =>
      have g' := g
      rw [Bool.and_eq_true, decide_eq_true_iff, decide_eq_true_iff] at g'
      refine ⟨m, _, rfl, c.at', rfl, m, _, _, rfl, c.at', car_h .., m, _, _, rfl, c.at', car_s .., encH h, b, x, a, e, rfl, bl, by omega, g'.1, by omega, fun s => ?_, fun s => q2 (by unfold shiftB; rw [g, s]; rfl)⟩
      refine ⟨m, q, h, b, a, l, k, dd, _, _, _, _, rfl, c, hl, fun n' c' o => ?_⟩
      refine ⟨rfl, m, _, rfl, c'.at', by show 5 < 1000; decide, ?_⟩
      rw [put_l]
      refine q1 (by unfold shiftB; rw [g, s]; rfl) _ ⟨updS_same, (updS_ne c'.ne).trans c'.dd, rfl⟩ fun x h1 h2 => by rw [updS_ne h1]; exact o x h1 h2
  · exact .inr ⟨d, 0, _, rfl, hd, q1⟩
/-! ### house, standing, trail -/
def sp_Carrier_house : DSp := fun ds n X Q => ∃ (m q : Addr) (h : Hs) (b : List Int) (a : Int) (l : D) (k : Int) (dd : List Deed), ds = [.loc m] ∧ CarR n m q h b a l k dd ∧ Q (encH h) n
theorem len_Carrier_house : ∀ ds n X Q, sp_Carrier_house ds n X Q → ds.length = 1 := by rintro ds n X Q ⟨m, q, h, b, a, l, k, dd, rfl, _⟩; rfl
def rd_Carrier_house : DTS := (tRetD (tFldD "Carrier" "kept_house" (tVarD 0)))
def N_Carrier_house : List Str := ["self"]
theorem read_Carrier_house : ∀ ds n Xd Qd, sp_Carrier_house ds n Xd Qd → rd_Carrier_house { nx := fun _ n' => Qd .non n', rt := Qd, xr := fun ex _ n' => Xd ex n' } (startD N_Carrier_house ds) n := by
  rintro ds n Xd Qd ⟨m, q, h, b, a, l, k, dd, rfl, c, q'⟩
  exact ⟨m, _, _, rfl, c.at', car_h .., q'⟩
def sp_Carrier_standing : DSp := fun ds n X Q => ∃ (m q : Addr) (h : Hs) (b : List Int) (a : Int) (l : D) (k : Int) (dd : List Deed), ds = [.loc m] ∧ CarR n m q h b a l k dd ∧ Q (encS b a) n
theorem len_Carrier_standing : ∀ ds n X Q, sp_Carrier_standing ds n X Q → ds.length = 1 := by rintro ds n X Q ⟨m, q, h, b, a, l, k, dd, rfl, _⟩; rfl
def rd_Carrier_standing : DTS := (tRetD (tFldD "Carrier" "now_standing" (tVarD 0)))
def N_Carrier_standing : List Str := ["self"]
theorem read_Carrier_standing : ∀ ds n Xd Qd, sp_Carrier_standing ds n Xd Qd → rd_Carrier_standing { nx := fun _ n' => Qd .non n', rt := Qd, xr := fun ex _ n' => Xd ex n' } (startD N_Carrier_standing ds) n := by
  rintro ds n Xd Qd ⟨m, q, h, b, a, l, k, dd, rfl, c, q'⟩
  exact ⟨m, _, _, rfl, c.at', car_s .., q'⟩
theorem lcWR_filterE {α : Type} {p : Addr} {all : List D} {i : Nat} {tt : DTT} {te : DTE} {m : Md} {Δ : DEnv} {Q : D → Sto → Prop} {n : Sto} (hp : n p = some (.lst all)) (e : α → D) (g : α → Bool) (f : α → D) : ∀ (xs : List α) (acc : List D), acc.length + xs.length ≤ sizeLine →
    (∀ x ∈ xs, ∀ Q', Q' (g x) n → tt (Δ.set i (some (.frz (e x)))) n noX Q') → (∀ x ∈ xs, g x = true → ∀ Q', Q' (f x) n → te m (Δ.set i (some (.frz (e x)))) n noX Q') → Q (.lst (acc ++ (xs.filter g).map f)) n → lcWR p all i tt te m Δ Q (xs.map e) acc n
  | [], acc, _, _, _, q => by rw [List.filter_nil, List.map_nil, List.append_nil] at q; exact ⟨hp, q⟩
  | x :: xs, acc, hz, h1, h2, q => by
    rw [List.length_cons] at hz
    refine ⟨hp, h1 x (List.mem_cons_self ..) _ ?_⟩
    cases hg : g x with
    | true =>
      rw [if_pos rfl]
      refine h2 x (List.mem_cons_self ..) hg _ ⟨by omega, lcWR_filterE hp e g f xs (acc ++ [f x]) ?_ (fun d' hd' => h1 d' (List.mem_cons_of_mem _ hd')) (fun d' hd' => h2 d' (List.mem_cons_of_mem _ hd')) ?_⟩
      · rw [List.length_append, List.length_singleton]; omega
      · rw [List.filter_cons_of_pos hg, List.map_cons] at q
        rw [List.append_assoc]; exact q
    | false =>
      rw [if_neg Bool.false_ne_true]
      refine lcWR_filterE hp e g f xs acc (by omega) (fun d' hd' => h1 d' (List.mem_cons_of_mem _ hd')) (fun d' hd' => h2 d' (List.mem_cons_of_mem _ hd')) ?_
      rw [List.filter_cons_of_neg (by rw [hg]; exact Bool.false_ne_true)] at q
      exact q
def tipsOf (dd : List Deed) : List Int := (dd.filter fun d => !decide (d.w = Str.ofString "shift")).map (·.e)
def sp_Carrier_trail : DSp := fun ds n X Q => ∃ (m q : Addr) (h : Hs) (b : List Int) (a : Int) (l : D) (k : Int) (dd : List Deed), ds = [.loc m] ∧ CarR n m q h b a l k dd ∧ dd.length ≤ 1000 ∧ Q (.lst ((tipsOf dd).map D.int)) n
theorem len_Carrier_trail : ∀ ds n X Q, sp_Carrier_trail ds n X Q → ds.length = 1 := by rintro ds n X Q ⟨m, q, h, b, a, l, k, dd, rfl, _⟩; rfl
def rd_Carrier_trail : DTS := (tRetD (tLcRD (tFldD "Carrier" "now_deeds" (tVarD 0)) 1 (tTestD (tOpD drNe (tOpD drIx (tVarD 1) (tCD (.int 0))) (tCD (.str (Str.ofString "shift"))))) (tOpD drIx (tVarD 1) (tCD (.int 1)))))
def N_Carrier_trail : List Str := ["self", "deed"]
theorem read_Carrier_trail : ∀ ds n Xd Qd, sp_Carrier_trail ds n Xd Qd → rd_Carrier_trail { nx := fun _ n' => Qd .non n', rt := Qd, xr := fun ex _ n' => Xd ex n' } (startD N_Carrier_trail ds) n := by
  rintro ds n Xd Qd ⟨m, q, h, b, a, l, k, dd, rfl, c, hl, q'⟩
  refine ⟨trivial, m, _, _, rfl, c.at', car_d .., q, _, rfl, c.dd, ?_⟩
  refine lcWR_filterE c.dd encD (fun d => !decide (d.w = Str.ofString "shift")) (fun d => .int d.e) dd [] (by simp; exact small100 (by omega)) (fun d hd Q' q2 => ?_) (fun d hd _ Q' q2 => ?_) ?_
  · exact ⟨.str d.w, atI_nat (j := 0) rfl, rfl, q2⟩
  · exact ⟨.int d.e, atI_nat (j := 1) rfl, rfl, q2⟩
  · rw [List.nil_append]
    unfold tipsOf at q'
    rw [List.map_map] at q'
    exact q'
end Lw

set_option Elab.async false
set_option linter.all false
set_option maxRecDepth 100000
set_option maxHeartbeats 2000000
/-! k78: what is heard; a deed done, drawn, asked. -/
namespace Lw
open PySem PySem.Spec PyProof.Rows L2 Dl
abbrev SUBS : Subs := [("NoGoing", "CarryError", true), ("NoGoing", "NoStanding", false), ("NoGoing", "NoGoing", true), ("NoGoing", "TooMany", false), ("NoGoing", "NoPart", false), ("NoGoing", "Clash", false), ("NoGoing", "NoShift", false), ("NoGoing", "NoBack", false), ("NoGoing", "NoText", false), ("NoShift", "CarryError", true), ("NoShift", "NoStanding", false), ("NoShift", "NoGoing", false), ("NoShift", "TooMany", false), ("NoShift", "NoPart", false), ("NoShift", "Clash", false), ("NoShift", "NoShift", true), ("NoShift", "NoBack", false), ("NoShift", "NoText", false)]
abbrev SUBST : SubsT := [("NoGoing", "ValueError", true), ("NoShift", "ValueError", true)]
abbrev FLDS : List (Str × Str) := [("NoGoing", "at")]
def sp_l_heard : DSpL := fun ask n X Q => ∀ (X1 : XC) (Q1 : D → Sto → Prop), (∀ n', Q (.str (Str.ofString "going0")) n' → X1 (.exc1 "NoGoing" "at" (.int 0)) n') → (∀ n', Q (.str (Str.ofString "shift")) n' → X1 (.exc0 "NoShift") n') → (∀ d n', flat d = true → Q (.lst [d]) n' → Q1 d n') → ask n X1 Q1
def rd_l_heard (v0 : V) (ask : DAsk) : DTS := (tSeqD (tSetD 1 (tCD .non))
  (tSeqD (tSetD 2 (tCD .non))
  (tSeqD (tTryKD SUBS "CarryError" 3 2 (tSetD 1 (tAskD v0 ask)))
  (tSeqD (tIfSD (tTestD (tOpD drIsN (tVarD 2) (tCD .non))) (tRetD (tLstD (tConsD (tVarD 1) tNilD))) tNextD)
  (tSeqD (tSetD 4 (tLstD (tConsD (tCallN (drIsXV SUBS SUBST) (tConsD (tVarD 2) (tConsD (tCD (.cls "NoGoing")) tNilD))) (tConsD (tCallN (drIsXV SUBS SUBST) (tConsD (tVarD 2) (tConsD (tCD (.cls "NoShift")) tNilD))) (tConsD (tCallN (drIsXV SUBS SUBST) (tConsD (tVarD 2) (tConsD (tCD (.cls "NoBack")) tNilD))) tNilD)))))
  (tSeqD (tSetD 4 (tOpD drAdd (tVarD 4) (tLstD (tConsD (tCallN (drIsXV SUBS SUBST) (tConsD (tVarD 2) (tConsD (tCD (.cls "TooMany")) tNilD))) (tConsD (tCallN (drIsXV SUBS SUBST) (tConsD (tVarD 2) (tConsD (tTupD (tConsD (tCD (.cls "NoPart")) (tConsD (tCD (.cls "NoStanding")) (tConsD (tCD (.cls "NoText")) (tConsD (tCD (.cls "Clash")) tNilD))))) tNilD))) tNilD)))))
  (tSeqD (tIfSD (tOrD (tTestD (tOpD drNe (tMthQD drCnt (tVarD 4) (tConsD (tCD (.bl true)) tNilD)) (tCD (.int 1)))) (tNotD (tTestD (tCallN (drIsXV SUBS SUBST) (tConsD (tVarD 2) (tConsD (tCD (.opq (.ty "ValueError"))) tNilD)))))) (tRetD (tCD (.str (Str.ofString "other")))) tNextD)
  (tSeqD (tIfSD (tTestD (tOpD drIx (tVarD 4) (tCD (.int 0)))) (tRetD (tOpD drAdd (tCD (.str (Str.ofString "going"))) (tCallN drRepr (tConsD (tXfldD FLDS "at" (tVarD 2)) tNilD)))) tNextD)
  (tRetD (tOpD drIx (tLstD (tConsD (tCD (.str (Str.ofString "going"))) (tConsD (tCD (.str (Str.ofString "shift"))) (tConsD (tCD (.str (Str.ofString "back"))) (tConsD (tCD (.str (Str.ofString "many"))) (tConsD (tCD (.str (Str.ofString "other"))) tNilD)))))) (tMthQD drIdx (tVarD 4) (tConsD (tCD (.bl true)) tNilD))))))))))))
def N_l_heard : List Str := ["call", "found", "caught", "e", "some"]
theorem going0 : Str.ofString "going" ++ shownD (.int 0) = Str.ofString "going0" ∧ (Str.ofString "going").length + (shownD (.int 0)).length ≤ sizeLine ∧ rpOk (.int 0) := by
  unfold rpOk shownD
  decide +kernel
theorem read_l_heard : ∀ (v0 : V) ask n Xd Qd, sp_l_heard ask n Xd Qd → rd_l_heard v0 ask { nx := fun _ n' => Qd .non n', rt := Qd, xr := fun ex _ n' => Xd ex n' } (startD N_l_heard [.opq v0]) n := by
  intro v0 ask n Xd Qd h
  refine ⟨rfl, h _ _ (fun n' q => ?_) (fun n' q => ?_) (fun d n' fl q => ?_)⟩
  · refine ⟨"NoGoing", true, rfl, by decide +kernel, ifT rfl ⟨rfl, ?_⟩⟩
    refine ⟨"NoGoing", true, rfl, by decide +kernel, "NoGoing", false, rfl, by decide +kernel, "NoGoing", false, rfl, by decide +kernel, by show 3 ≤ sizeLine; decide, ?_⟩
    refine ⟨"NoGoing", false, rfl, by decide +kernel, by show 4 ≤ sizeLine; decide, "NoGoing", _, false, rfl, rfl, by decide +kernel, by show 2 ≤ sizeLine; decide, ?_⟩
    refine ⟨by show 3 + 2 ≤ sizeLine; decide, rfl, rfl, ?_⟩
    refine ⟨rfl, rfl, ?_⟩
    refine ⟨"NoGoing", true, rfl, by decide +kernel, ?_⟩
    refine ⟨.bl true, atI_nat (j := 0) rfl, rfl, ?_⟩
    obtain ⟨g1, g2, g3⟩ := going0
    refine ⟨rfl, by decide +kernel, rfl, g3, g2, ?_⟩
    rw [g1]; exact q
  · refine ⟨"NoShift", true, rfl, by decide +kernel, ifT rfl ⟨rfl, ?_⟩⟩
    refine ⟨"NoShift", false, rfl, by decide +kernel, "NoShift", true, rfl, by decide +kernel, "NoShift", false, rfl, by decide +kernel, by show 3 ≤ sizeLine; decide, ?_⟩
    refine ⟨"NoShift", false, rfl, by decide +kernel, by show 4 ≤ sizeLine; decide, "NoShift", _, false, rfl, rfl, by decide +kernel, by show 2 ≤ sizeLine; decide, ?_⟩
    refine ⟨by show 3 + 2 ≤ sizeLine; decide, rfl, rfl, ?_⟩
    refine ⟨rfl, rfl, ?_⟩
    refine ⟨"NoShift", true, rfl, by decide +kernel, ?_⟩
    refine ⟨.bl false, atI_nat (j := 0) rfl, rfl, ?_⟩
    refine ⟨by show 5 ≤ sizeLine; decide, rfl, rfl, 1, .bl true, rfl, rfl, ?_, ?_⟩
    · intro m z' hm hz
      have : m = 0 := by omega
      subst this
      cases hz; rfl
    · exact ⟨_, atI_nat (j := 1) rfl, rfl, q⟩
  · exact ⟨fl, by show 1 ≤ sizeLine; decide, q⟩
end Lw

set_option Elab.async false
set_option linter.all false
set_option maxRecDepth 100000
set_option maxHeartbeats 2000000
/-! k78: a deed done, drawn, asked. -/
namespace Lw
open PySem PySem.Spec PyProof.Rows L2 Dl
inductive Wd where
  | step | go | about | shift
def Wd.t : Wd → Str
  | .step => Str.ofString "step"
  | .go => Str.ofString "go"
  | .about => Str.ofString "about"
  | .shift => Str.ofString "shift"
/-- what a deed makes of a standing, if it may be done -/
def doneL (h : Hs) (b : List Int) (a : Int) : Wd → Option Int → Option (List Int × Int)
  | .step, _ => some (stepB h b a, stepA h b a)
  | .about, _ => some (moveL b a, otherE a)
  | .go, some e => if goB h b a e = true then some (moveL b e, otherE e) else none
  | .shift, some e => if shiftB b a e = true then some (moveL b e, a) else none
  | _, none => none
def endL (h : Hs) (b : List Int) (a : Int) : Wd → Option Int → Int
  | .step, _ => nextE h b a
  | .about, _ => a
  | _, some e => e
  | _, none => 0
def heardT : Wd → Str
  | .shift => Str.ofString "shift"
  | _ => Str.ofString "going0"
def toldL (h : Hs) (b : List Int) (a : Int) : Wd → D
  | .step => .int (nextE h b a)
  | _ => .non
def TipIs (n : Sto) (t : D) : Option Int → Prop
  | some e => t = .int e
  | none => NotInt (vw n t)
def doneD (wd : Wd) : Option (List Int × Int) → D
  | some s => encS s.1 s.2
  | none => .str (heardT wd)
/-! ### done -/
def sp_l_done : DSp := fun ds n X Q => ∃ (h : Hs) (x : Nat) (b : List Int) (a : Int) (wd : Wd) (t : D) (o : Option Int), ds = [encH h, encS b a, .tup [.str wd.t, t]] ∧ Va h x b a ∧ flat t = true ∧ TipIs n t o ∧ Q (doneD wd (doneL h b a wd o)) n
theorem len_l_done : ∀ ds n X Q, sp_l_done ds n X Q → ds.length = 3 := by rintro ds n X Q ⟨h, x, b, a, wd, t, o, rfl, _⟩; rfl
def rd_l_done : DTS := (tSeqD (tAsgD (tVarD 2) (gTupD 2 (gConsD (gNameD 4) (gConsD (gNameD 5) gNilD))))
  (tSeqD (tSetD 3 (tAndVD (tCallV drIsi (tConsD (tVarD 5) (tConsD (tCD (.opq (.ty "int"))) tNilD))) (tAndVD (tNotVD (tCallV drIsi (tConsD (tVarD 5) (tConsD (tCD (.opq (.ty "bool"))) tNilD)))) (tChainD drLe drLt (tCD (.int 0)) (tVarD 5) (tCallN drLen (tConsD (tOpD drIx (tVarD 1) (tCD (.int 0))) tNilD))))))
  (tSeqD (tIfSD (tTestD (tOpD drEq (tVarD 4) (tCD (.str (Str.ofString "step"))))) (tRetD (tCallD sp_l_went (tConsD (tVarD 1) (tConsD (tCallD sp_l_next (tConsD (tVarD 0) (tConsD (tVarD 1) tNilD))) tNilD)))) tNextD)
  (tSeqD (tIfSD (tTestD (tOpD drEq (tVarD 4) (tCD (.str (Str.ofString "about"))))) (tRetD (tCallD sp_l_went (tConsD (tVarD 1) (tConsD (tOpD drIx (tVarD 1) (tCD (.int 1))) tNilD)))) tNextD)
  (tSeqD (tIfSD (tTestD (tOpD drEq (tVarD 4) (tCD (.str (Str.ofString "go"))))) (tSeqD (tSetD 6 (tOpD drIx (tLcD .bor (tWSeq (tVarD 0)) 7 (tTestD (tOpD (drIn false) (tOpD drIx (tVarD 1) (tCD (.int 1))) (tVarD 7))) (tVarD 7)) (tCD (.int 0))))
  (tRetD (tIfD (tAndD (tTestD (tVarD 3)) (tAndD (tTestD (tOpD (drIn false) (tVarD 5) (tVarD 6))) (tTestD (tOpD drGt (tOpD drIx (tOpD drIx (tVarD 1) (tCD (.int 0))) (tVarD 5)) (tCD (.int 0)))))) (tCallD sp_l_went (tConsD (tVarD 1) (tConsD (tVarD 5) tNilD))) (tCD (.str (Str.ofString "going0")))))) tNextD)
  (tSeqD (tIfSD (tOrD (tNotD (tTestD (tVarD 3))) (tTestD (tOpD drLe (tOpD drIx (tOpD drIx (tVarD 1) (tCD (.int 0))) (tVarD 5)) (tCallN drInt (tConsD (tOpD drEq (tVarD 5) (tOpD drIx (tVarD 1) (tCD (.int 1)))) tNilD))))) (tRetD (tCD (.str (Str.ofString "shift")))) tNextD)
  (tRetD (tTupD (tConsD (tOpD drIx (tCallD sp_l_went (tConsD (tVarD 1) (tConsD (tVarD 5) tNilD))) (tCD (.int 0))) (tConsD (tOpD drIx (tVarD 1) (tCD (.int 1))) tNilD))))))))))
def N_l_done : List Str := ["home", "stand", "deed", "there", "word", "tip", "row", "ends_so"]
def thereB (b : List Int) : Option Int → Bool
  | some e => decide (0 ≤ e) && decide (e < (b.length : Int))
  | none => false
def rd_done_tail : DTS := (tSeqD (tIfSD (tTestD (tOpD drEq (tVarD 4) (tCD (.str (Str.ofString "step"))))) (tRetD (tCallD sp_l_went (tConsD (tVarD 1) (tConsD (tCallD sp_l_next (tConsD (tVarD 0) (tConsD (tVarD 1) tNilD))) tNilD)))) tNextD)
  (tSeqD (tIfSD (tTestD (tOpD drEq (tVarD 4) (tCD (.str (Str.ofString "about"))))) (tRetD (tCallD sp_l_went (tConsD (tVarD 1) (tConsD (tOpD drIx (tVarD 1) (tCD (.int 1))) tNilD)))) tNextD)
  (tSeqD (tIfSD (tTestD (tOpD drEq (tVarD 4) (tCD (.str (Str.ofString "go"))))) (tSeqD (tSetD 6 (tOpD drIx (tLcD .bor (tWSeq (tVarD 0)) 7 (tTestD (tOpD (drIn false) (tOpD drIx (tVarD 1) (tCD (.int 1))) (tVarD 7))) (tVarD 7)) (tCD (.int 0))))
  (tRetD (tIfD (tAndD (tTestD (tVarD 3)) (tAndD (tTestD (tOpD (drIn false) (tVarD 5) (tVarD 6))) (tTestD (tOpD drGt (tOpD drIx (tOpD drIx (tVarD 1) (tCD (.int 0))) (tVarD 5)) (tCD (.int 0)))))) (tCallD sp_l_went (tConsD (tVarD 1) (tConsD (tVarD 5) tNilD))) (tCD (.str (Str.ofString "going0")))))) tNextD)
  (tSeqD (tIfSD (tOrD (tNotD (tTestD (tVarD 3))) (tTestD (tOpD drLe (tOpD drIx (tOpD drIx (tVarD 1) (tCD (.int 0))) (tVarD 5)) (tCallN drInt (tConsD (tOpD drEq (tVarD 5) (tOpD drIx (tVarD 1) (tCD (.int 1)))) tNilD))))) (tRetD (tCD (.str (Str.ofString "shift")))) tNextD)
  (tRetD (tTupD (tConsD (tOpD drIx (tCallD sp_l_went (tConsD (tVarD 1) (tConsD (tVarD 5) tNilD))) (tCD (.int 0))) (tConsD (tOpD drIx (tVarD 1) (tCD (.int 1))) tNilD))))))))
theorem there_go {h : Hs} {x : Nat} {b : List Int} {a e : Int} (v : Va h x b a) : goB h b a e = (thereB b (some e) && goB h b a e) := by
  cases g : goB h b a e with
  | false => rw [Bool.and_false]
  | true =>
    have bl := v.bl
    unfold goB at g
    rw [Bool.and_eq_true, decide_eq_true_iff, decide_eq_true_iff] at g
    have := v.rowIn g.1
    show true = ((decide (0 ≤ e) && decide (e < (b.length : Int))) && true)
    rw [decide_eq_true this.1, decide_eq_true (show e < (b.length : Int) by omega)]; rfl
theorem there_shift {b : List Int} {a e : Int} : shiftB b a e = (thereB b (some e) && shB b a e) := by
  show ((decide (0 ≤ e) && decide (e ≤ (b.length : Int) - 1)) && shB b a e) = ((decide (0 ≤ e) && decide (e < (b.length : Int))) && shB b a e)
  rw [show decide (e ≤ (b.length : Int) - 1) = decide (e < (b.length : Int)) from decide_eq_decide.mpr (by omega)]
theorem read_done_tail (C : DEnds) {h : Hs} {x : Nat} {b : List Int} {a : Int} {wd : Wd} {t : D} {o : Option Int} {n : Sto} {v6 : Option SV} (v : Va h x b a) (ot : TipIs n t o) (q : C.rt (doneD wd (doneL h b a wd o)) n) :
    rd_done_tail C [some (.frz (encH h)), some (.frz (encS b a)), some (.frz (.tup [.str wd.t, t])), some (.frz (.bl (thereB b o))), some (.frz (.str wd.t)), some (.frz t), v6, none] n := by
  have w2 := v.w2
  have bl := v.bl
  obtain ⟨f1, f2, f3, f4⟩ := v.flen
  obtain ⟨_, _, _, n2, n3⟩ := v.next
  cases wd with
  | step =>
    exact ⟨h, x, b, a, rfl, v, b, a, x, _, rfl, bl, by omega, n2, n3, q⟩
  | about =>
    exact ⟨.int a, atI_nat (j := 1) rfl, rfl, b, a, x, a, rfl, bl, by omega, v.a0, v.a1, q⟩
  | go =>
    refine ⟨trivial, .inr ⟨by rw [List.length_map]; exact small100 (by omega), flat_encIs h, ?_⟩⟩
    refine lcW_filterE encI (fun r => decide (a ∈ r)) encI h [] n (by simp; exact small100 (by omega)) (fun r hr n' Q' q' => ?_) (fun r hr _ n' Q' q' => q') ?_
    · refine ⟨.int a, atI_nat (j := 1) rfl, rfl, _, rfl, rfl, sc_intsA _, ?_⟩
      rw [in_ints']
      exact q'
    rw [List.nil_append]
    refine ⟨encI (rowOf h a), at_head (by rw [List.head?_map, row_head f2]; rfl), flat_encI _, ?_⟩
    cases o with
    | none => exact q
    | some e =>
      obtain rfl : t = .int e := ot
      refine ifX (fun c => ?_) (fun c => ?_)
      · have c' := c
        replace c' : (decide (0 ≤ e) && decide (e < (b.length : Int))) = true := c'
        rw [Bool.and_eq_true, decide_eq_true_iff, decide_eq_true_iff] at c'
        refine ⟨_, rfl, rfl, sc_intsA _, ?_⟩
        rw [in_ints']
        refine ifX (fun c2 => ?_) (fun c2 => ?_)
        · refine ⟨encI b, atI_nat (j := 0) rfl, flat_encI b, _, at_nat (b := b) (k := e.toNat) (by omega) (by omega), rfl, ?_⟩
          have c2' : decide (e ∈ rowOf h a) = true := c2
          refine ifX (fun c3 => ?_) (fun c3 => ?_)
          · have c3' : decide (0 < b.getD e.toNat 0) = true := c3
            refine ⟨b, a, x, e, rfl, bl, by omega, c'.1, by omega, ?_⟩
            have : doneL h b a .go (some e) = some (moveL b e, otherE e) := if_pos (by unfold goB; rw [c2', c3']; rfl)
            rw [this] at q; exact q
          · have c3' : decide (0 < b.getD e.toNat 0) = false := c3
            have : doneL h b a .go (some e) = none := if_neg (by unfold goB; rw [c3', Bool.and_false]; decide)
            rw [this] at q; exact q
        · have c2' : decide (e ∈ rowOf h a) = false := c2
          have : doneL h b a .go (some e) = none := if_neg (by unfold goB; rw [c2']; simp)
          rw [this] at q; first | exact q | (refine ifF rfl ?_; exact q)
      · have : doneL h b a .go (some e) = none := if_neg (by rw [there_go v, c, Bool.false_and]; decide)
        rw [this] at q; first | exact q | (refine ifF rfl ?_; exact q)
  | shift =>
    cases o with
    | none => exact q
    | some e =>
      obtain rfl : t = .int e := ot
      refine ifX (fun c => ?_) (fun c => ?_)
      · have c' : thereB b (some e) = false := by
          have c : (!thereB b (some e)) = true := c
          rwa [Bool.not_eq_true'] at c
        have : doneL h b a .shift (some e) = none := if_neg (by rw [there_shift, c', Bool.false_and]; decide)
        rw [this] at q; first | exact q | (refine ifT rfl ?_; exact q)
      · have c' : thereB b (some e) = true := by
          have c : (!thereB b (some e)) = false := c
          rwa [Bool.not_eq_false'] at c
        have c2 := c'
        replace c2 : (decide (0 ≤ e) && decide (e < (b.length : Int))) = true := c2
        rw [Bool.and_eq_true, decide_eq_true_iff, decide_eq_true_iff] at c2
        refine ⟨encI b, atI_nat (j := 0) rfl, flat_encI b, _, at_nat (b := b) (k := e.toNat) (by omega) (by omega), rfl, .int a, atI_nat (j := 1) rfl, rfl, ?_⟩
        refine ifX (fun c3 => ?_) (fun c3 => ?_)
        · have c3' : b.getD e.toNat 0 ≤ (if decide (e = a) = true then (1 : Int) else 0) := of_decide_eq_true c3
          have : doneL h b a .shift (some e) = none := if_neg (by rw [there_shift]; unfold shB; rw [decide_eq_false (show ¬ (if decide (e = a) = true then (1 : Int) else 0) < b.getD e.toNat 0 by omega), Bool.and_false]; decide)
          rw [this] at q; exact q
        · have c3' : ¬ b.getD e.toNat 0 ≤ (if decide (e = a) = true then (1 : Int) else 0) := of_decide_eq_false c3
          have : doneL h b a .shift (some e) = some (moveL b e, a) := if_pos (by rw [there_shift, c']; unfold shB; rw [decide_eq_true (show (if decide (e = a) = true then (1 : Int) else 0) < b.getD e.toNat 0 by omega)]; rfl)
          rw [this] at q
          exact ⟨b, a, x, e, rfl, bl, by omega, c2.1, by omega, encI (moveL b e), atI_nat (j := 0) rfl, flat_encI _, .int a, atI_nat (j := 1) rfl, rfl, by show 2 ≤ sizeLine; decide, q⟩
theorem read_l_done : ∀ ds n Xd Qd, sp_l_done ds n Xd Qd → rd_l_done { nx := fun _ n' => Qd .non n', rt := Qd, xr := fun ex _ n' => Xd ex n' } (startD N_l_done ds) n := by
  rintro ds n Xd Qd ⟨h, x, b, a, wd, t, o, rfl, v, ft, ot, q⟩
  refine ⟨rfl, ?_⟩
  have fin := fun (C : DEnds) (q : C.rt (doneD wd (doneL h b a wd o)) n) => read_done_tail C (v6 := none) v ot q
  cases o with
  | some e =>
    obtain rfl : t = .int e := ot
    refine ⟨"int", true, rfl, by decide +kernel, "int", false, rfl, by decide +kernel, ?_⟩
    have len : ((b.map D.int).length : Int) = b.length := by rw [List.length_map]
    by_cases h0 : 0 ≤ e
    · refine chain_yes (decide_eq_true h0) ⟨encI b, atI_nat (j := 0) rfl, flat_encI b, ?_⟩
      have tb : thereB b (some e) = decide (e < ((b.map D.int).length : Int)) := by show (decide (0 ≤ e) && decide (e < (b.length : Int))) = _; rw [decide_eq_true h0, Bool.true_and, len]
      have := fin { nx := fun _ n' => Qd .non n', rt := Qd, xr := fun ex _ n' => Xd ex n' } q
      rw [tb] at this
      exact this
    · refine chain_no (decide_eq_false h0) ?_
      have tb : thereB b (some e) = false := by show (decide (0 ≤ e) && decide (e < (b.length : Int))) = _; rw [decide_eq_false h0, Bool.false_and]
      have := fin { nx := fun _ n' => Qd .non n', rt := Qd, xr := fun ex _ n' => Xd ex n' } q
      rw [tb] at this
      exact this
  | none =>
    obtain ⟨ty, e1, hh | ⟨h1, h2⟩⟩ := ot
    · exact ⟨ty, false, e1, hh, fin { nx := fun _ n' => Qd .non n', rt := Qd, xr := fun ex _ n' => Xd ex n' } q⟩
    · exact ⟨ty, true, e1, h1, ty, true, e1, h2, fin { nx := fun _ n' => Qd .non n', rt := Qd, xr := fun ex _ n' => Xd ex n' } q⟩
end Lw

set_option Elab.async false
set_option linter.all false
set_option maxRecDepth 100000
set_option maxHeartbeats 2000000
/-! k78: a deed drawn, asked; all right. -/
namespace Lw
open PySem PySem.Spec PyProof.Rows L2 Dl
theorem PenK.np {n : Sto} {p : Addr} {k : Nat} (h : PenK n p k) : n p ≠ none ∧ ∀ ds, n p ≠ some (.lst ds) := by
  obtain ⟨c, t, r, cells, h1, _⟩ := h
  exact ⟨by rw [h1]; simp, fun ds => by rw [h1]; intro z; cases z⟩
/-- a root that is new -/
theorem PenK.add {n : Sto} {p r : Addr} {k : Nat} {x : RO} (h : PenK n p k) (hr : n r = none) : DrewK n p k (updS n r x) := by
  obtain ⟨c, t, r', cells, h1, h2, h3, h4, h5, h6⟩ := h
  have e1 : p ≠ r := fun z => by rw [z, hr] at h1; cases h1
  have e2 : c ≠ r := fun z => by rw [z, hr] at h2; cases h2
  exact ⟨⟨c, t, r', cells, (updS_ne e1).trans h1, (updS_ne e2).trans h2, h3, h4, h5, h6⟩, fun a _ ha => updS_ne fun z => by rw [z] at ha; exact ha hr, fun d hd => by
    obtain ⟨t', r2, hd⟩ := hd
    exact ⟨t', r2, (updS_ne e1).trans hd⟩⟩
theorem TipIs.drew {n n' : Sto} {p : Addr} {k : Nat} {t : D} {o : Option Int} (h : TipIs n t o) (np : ∀ ds, n p ≠ some (.lst ds)) (d : DrewK n p k n') : TipIs n' t o := by
  cases o with
  | some e => exact h
  | none =>
    by_cases hl : ∃ r, t = .loc r
    · obtain ⟨r, rfl⟩ := hl
      obtain ⟨ty, h1, h2⟩ := h
      have hx : ∃ ds, n r = some (.lst ds) := by
        simp only [vw] at h1
        split at h1
        · exact ⟨_, by assumption⟩
        · simp only [tyD] at h1; cases h1
      obtain ⟨ds, hx⟩ := hx
      have hn : r ≠ p := fun z => np ds (by rw [← z]; exact hx)
      have e : n' r = n r := d.only r hn (by rw [hx]; simp)
      refine ⟨ty, ?_, h2⟩
      simp only [vw, e] at h1 ⊢
      exact h1
    · have e : ∀ m : Sto, vw m t = t := fun m => by
        cases t <;> first | rfl | exact absurd ⟨_, rfl⟩ hl
      have h : NotInt (vw n t) := h
      show NotInt (vw n' t)
      rw [e] at h ⊢; exact h
def sp_l_deed : DSp := fun ds n X Q => ∃ (p : Addr) (k : Nat) (h : Hs) (x : Nat) (b : List Int) (a : Int), ds = [.loc p, encS b a] ∧ Va h x b a ∧ PenK n p k ∧ k + 10 ≤ lim ∧
  ∀ (wd : Wd) (t : D) (o : Option Int) n', flat t = true → TipIs n' t o → DrewK n p (k + 10) n' → Q (.tup [.str wd.t, t]) n'
theorem len_l_deed : ∀ ds n X Q, sp_l_deed ds n X Q → ds.length = 2 := by rintro ds n X Q ⟨p, k, h, x, b, a, rfl, _⟩; rfl
def rd_l_deed : DTS := (tSeqD (tSetD 2 (tCallN drLen (tConsD (tOpD drIx (tVarD 1) (tCD (.int 0))) tNilD)))
  (tSeqD (tSetD 3 (tIxMD (tLstD (tConsD (tVarD 2) (tConsD (tUnD drNeg (tCD (.int 1))) (tConsD (tCD (.bl true)) (tConsD (tCD .non) (tConsD (tCD (.str (Str.ofString "0"))) (tConsD (tTupD (tConsD (tCD (.int 0)) tNilD)) (tConsD (tOpD drPow (tCD (.int 10)) (tCD (.int 30))) (tConsD (tRootD (tLstD tNilD)) tNilD))))))))) (tCallD sp_l_take (tConsD (tVarD 0) (tConsD (tCD (.int 8)) tNilD)))))
  (tSeqD (tSetD 4 (tOpD drIx (tLstD (tConsD (tCallD sp_l_take (tConsD (tVarD 0) (tConsD (tVarD 2) tNilD))) (tConsD (tOpD drIx (tVarD 1) (tCD (.int 1))) (tConsD (tCallD sp_l_take (tConsD (tVarD 0) (tConsD (tVarD 2) tNilD))) (tConsD (tVarD 3) tNilD))))) (tCallD sp_l_take (tConsD (tVarD 0) (tConsD (tCD (.int 4)) tNilD)))))
  (tRetD (tTupD (tConsD (tOpD drIx (tLstD (tConsD (tCD (.str (Str.ofString "step"))) (tConsD (tCD (.str (Str.ofString "go"))) (tConsD (tCD (.str (Str.ofString "about"))) (tConsD (tCD (.str (Str.ofString "shift"))) (tConsD (tCD (.str (Str.ofString "step"))) (tConsD (tCD (.str (Str.ofString "go"))) tNilD))))))) (tCallD sp_l_take (tConsD (tVarD 0) (tConsD (tCD (.int 6)) tNilD)))) (tConsD (tVarD 4) tNilD)))))))
def N_l_deed : List Str := ["pen", "stand", "tips", "odd", "tip"]
theorem odd_at {n : Sto} {r : Addr} {len z : Int} (hr : n r = some (.lst [])) (z0 : 0 ≤ z) (z1 : z < 8) :
    ∃ t o, atI [D.int len, .int (-1), .bl true, .non, .str (Str.ofString "0"), .tup [.int 0], .int (10 ^ 30), .loc r] z = some t ∧ flat t = true ∧ TipIs n t o := by
  have h8 : z = 0 ∨ z = 1 ∨ z = 2 ∨ z = 3 ∨ z = 4 ∨ z = 5 ∨ z = 6 ∨ z = 7 := by omega
  rcases h8 with rfl | rfl | rfl | rfl | rfl | rfl | rfl | rfl
  · exact ⟨_, some len, atI_nat (j := 0) rfl, rfl, rfl⟩
  · exact ⟨_, some (-1), atI_nat (j := 1) rfl, rfl, rfl⟩
  · exact ⟨_, none, atI_nat (j := 2) rfl, rfl, "bool", rfl, .inr ⟨by decide +kernel, by decide +kernel⟩⟩
  · exact ⟨_, none, atI_nat (j := 3) rfl, rfl, "NoneType", rfl, .inl (by decide +kernel)⟩
  · exact ⟨_, none, atI_nat (j := 4) rfl, rfl, "str", rfl, .inl (by decide +kernel)⟩
  · exact ⟨_, none, atI_nat (j := 5) rfl, rfl, "tuple", rfl, .inl (by decide +kernel)⟩
  · exact ⟨_, some (10 ^ 30), atI_nat (j := 6) rfl, rfl, rfl⟩
  · refine ⟨_, none, atI_nat (j := 7) rfl, rfl, "list", ?_, .inl (by decide +kernel)⟩
    simp only [vw, hr]; rfl
theorem read_l_deed : ∀ ds n Xd Qd, sp_l_deed ds n Xd Qd → rd_l_deed { nx := fun _ n' => Qd .non n', rt := Qd, xr := fun ex _ n' => Xd ex n' } (startD N_l_deed ds) n := by
  rintro ds n Xd Qd ⟨p, k, h, x, b, a, rfl, v, pen, hk, q⟩
  have L : lim = 4000000 := rfl
  have w1 := v.w1
  have w2 := v.w2
  have bl := v.bl
  have hl : ((b.map D.int).length : Int) = 2 * x := by rw [List.length_map, bl]; omega
  refine ⟨encI b, atI_nat (j := 0) rfl, flat_encI b, ?_⟩
  refine ⟨by show 1 ≤ sizeLine; decide, ⟨by decide, by decide, by decide⟩, by show 0 ≤ sizeLine; decide, rfl, fun r hr => ⟨by show 8 ≤ sizeLine; decide, p, 8, k, rfl, by decide, by decide, (pen.add hr).pen, by omega, fun z n1 z0 z1 dr1 => ?_⟩⟩
  have d1 := (pen.add (x := .lst []) hr).trans dr1
  have hr1 : n1 r = some (.lst []) := by
    have : r ≠ p := fun z => pen.np.1 (by rw [← z]; exact hr)
    rw [dr1.only r this (by rw [updS_same]; simp), updS_same]
  obtain ⟨t, o, et, ft, ot⟩ := odd_at (n := n1) (len := ((b.map D.int).length : Int)) hr1 z0 z1
  refine ⟨t, et, ?_⟩
  refine ⟨p, _, _, rfl, by rw [hl]; omega, by rw [hl]; omega, d1.pen, by omega, fun y1 n2 y10 y11 dr2 => ?_⟩
  refine ⟨.int a, atI_nat (j := 1) rfl, rfl, p, _, _, rfl, by rw [hl]; omega, by rw [hl]; omega, dr2.pen, by omega, fun y2 n3 y20 y21 dr3 => ?_⟩
  refine ⟨by show 4 ≤ sizeLine; decide, p, 4, _, rfl, by decide, by decide, dr3.pen, by omega, fun y n4 y0 y1' dr4 => ?_⟩
  have d24 := (dr2.trans dr3).trans dr4
  have ot4 : TipIs n4 t o := ot.drew d1.pen.np.2 d24
  have d4 := d1.trans d24
  obtain ⟨t', o', et', ft', ot'⟩ : ∃ t' o', atI [D.int y1, .int a, .int y2, t] y = some t' ∧ flat t' = true ∧ TipIs n4 t' o' := by
    have h4 : y = 0 ∨ y = 1 ∨ y = 2 ∨ y = 3 := by omega
    rcases h4 with rfl | rfl | rfl | rfl
    · exact ⟨_, some y1, atI_nat (j := 0) rfl, rfl, rfl⟩
    · exact ⟨_, some a, atI_nat (j := 1) rfl, rfl, rfl⟩
    · exact ⟨_, some y2, atI_nat (j := 2) rfl, rfl, rfl⟩
    · exact ⟨_, o, atI_nat (j := 3) rfl, ft, ot4⟩
  refine ⟨t', et', ft', by show 6 ≤ sizeLine; decide, p, 6, _, rfl, by decide, by decide, d4.pen, by omega, fun u n5 u0 u1 dr5 => ?_⟩
  obtain ⟨wd, ew⟩ : ∃ wd : Wd, atI [D.str (Str.ofString "step"), .str (Str.ofString "go"), .str (Str.ofString "about"), .str (Str.ofString "shift"), .str (Str.ofString "step"), .str (Str.ofString "go")] u = some (.str wd.t) := by
    have h6 : u = 0 ∨ u = 1 ∨ u = 2 ∨ u = 3 ∨ u = 4 ∨ u = 5 := by omega
    rcases h6 with rfl | rfl | rfl | rfl | rfl | rfl
    · exact ⟨.step, atI_nat (j := 0) rfl⟩
    · exact ⟨.go, atI_nat (j := 1) rfl⟩
    · exact ⟨.about, atI_nat (j := 2) rfl⟩
    · exact ⟨.shift, atI_nat (j := 3) rfl⟩
    · exact ⟨.step, atI_nat (j := 4) rfl⟩
    · exact ⟨.go, atI_nat (j := 5) rfl⟩
  refine ⟨_, ew, rfl, ft', by show 2 ≤ sizeLine; decide, ?_⟩
  exact q wd t' o' n5 ft' (ot'.drew d4.pen.np.2 dr5) ((d4.trans dr5).mono (by omega))
/-! ### asked, told -/
def sp_l_asked : DSp := fun ds n X Q => ∃ (m q : Addr) (h : Hs) (x : Nat) (b : List Int) (a : Int) (l : D) (k : Int) (dd : List Deed) (wd : Wd) (t : D) (o : Option Int), ds = [.loc m, .tup [.str wd.t, t]] ∧ CarR n m q h b a l k dd ∧ dd.length < 1000 ∧ Va h x b a ∧ TipIs n t o ∧
  (∀ s, doneL h b a wd o = some s → ∀ n' l', CarR n' m q h s.1 s.2 l' k (dd ++ [⟨wd.t, endL h b a wd o, encS b a, l⟩]) → Only2 n n' m q → Q (toldL h b a wd) n') ∧
  (doneL h b a wd o = none → (heardT wd = Str.ofString "going0" → X (.exc1 "NoGoing" "at" (.int 0)) n) ∧ (heardT wd = Str.ofString "shift" → X (.exc0 "NoShift") n))
theorem len_l_asked : ∀ ds n X Q, sp_l_asked ds n X Q → ds.length = 2 := by rintro ds n X Q ⟨m, q, h, x, b, a, l, k, dd, wd, t, o, rfl, _⟩; rfl
def rd_l_asked : DTS := (tSeqD (tAsgD (tVarD 1) (gTupD 2 (gConsD (gNameD 2) (gConsD (gNameD 3) gNilD))))
  (tSeqD (tIfSD (tTestD (tOpD drEq (tVarD 2) (tCD (.str (Str.ofString "step"))))) (tRetD (tMethD "Carrier" "step" sp_Carrier_step (tVarD 0) tNilD)) tNextD)
  (tSeqD (tIfSD (tTestD (tOpD drEq (tVarD 2) (tCD (.str (Str.ofString "about"))))) (tRetD (tMethD "Carrier" "about" sp_Carrier_about (tVarD 0) tNilD)) tNextD)
  (tSeqD (tIfSD (tTestD (tOpD drEq (tVarD 2) (tCD (.str (Str.ofString "go"))))) (tRetD (tMethKD "Carrier" "go" sp_Carrier_go [0] (tVarD 0) (tConsD (tVarD 3) tNilD))) tNextD)
  (tRetD (tMethKD "Carrier" "shift" sp_Carrier_shift [0] (tVarD 0) (tConsD (tVarD 3) tNilD)))))))
def N_l_asked : List Str := ["made", "deed", "word", "tip"]
theorem read_l_asked : ∀ ds n Xd Qd, sp_l_asked ds n Xd Qd → rd_l_asked { nx := fun _ n' => Qd .non n', rt := Qd, xr := fun ex _ n' => Xd ex n' } (startD N_l_asked ds) n := by
  rintro ds n Xd Qd ⟨m, q, h, x, b, a, l, k, dd, wd, t, o, rfl, c, hl, v, ot, q1, q2⟩
  refine ⟨rfl, ?_⟩
  cases wd with
  | step =>
    exact ⟨m, _, rfl, c.at', rfl, m, q, h, x, b, a, l, k, dd, rfl, c, hl, v, fun n' c' o' => q1 _ rfl n' l c' o'⟩
  | about =>
    exact ⟨m, _, rfl, c.at', rfl, m, q, h, x, b, a, l, k, dd, rfl, c, hl, v, fun n' c' o' => q1 _ rfl n' l c' o'⟩
  | go =>
    refine ⟨m, _, rfl, c.at', rfl, rfl, m, q, h, x, b, a, l, k, dd, t, rfl, c, hl, v, ?_⟩
    cases o with
    | some e =>
      obtain rfl : t = .int e := ot
      refine .inl ⟨e, rfl, fun g n' c' o' => q1 (moveL b e, otherE e) (if_pos g) n' l c' o', fun g => (q2 (if_neg (by rw [g]; decide))).1 rfl⟩
    | none => exact .inr ⟨ot, (q2 rfl).1 rfl⟩
  | shift =>
    refine ⟨m, _, rfl, c.at', rfl, rfl, m, q, h, x, b, a, l, k, dd, t, rfl, c, hl, v, ?_⟩
    cases o with
    | some e =>
      obtain rfl : t = .int e := ot
      refine .inl ⟨e, rfl, fun g n' c' o' => q1 (moveL b e, a) (if_pos g) n' .non c' o', fun g => (q2 (if_neg (by rw [g]; decide))).2 rfl⟩
    | none => exact .inr ⟨ot, (q2 rfl).2 rfl⟩
def sp_l_tells : DSp := fun ds n X Q => ∃ (h : Hs) (x : Nat) (b : List Int) (a : Int) (wd : Wd) (t : D), ds = [encH h, encS b a, .tup [.str wd.t, t]] ∧ Va h x b a ∧ Q (toldL h b a wd) n
theorem len_l_tells : ∀ ds n X Q, sp_l_tells ds n X Q → ds.length = 3 := by rintro ds n X Q ⟨h, x, b, a, wd, t, rfl, _⟩; rfl
def rd_l_tells : DTS := (tSeqD (tIfSD (tTestD (tOpD drEq (tOpD drIx (tVarD 2) (tCD (.int 0))) (tCD (.str (Str.ofString "step"))))) (tRetD (tCallD sp_l_next (tConsD (tVarD 0) (tConsD (tVarD 1) tNilD)))) tNextD)
  (tRetD (tCD .non)))
def N_l_tells : List Str := ["home", "stand", "deed"]
theorem read_l_tells : ∀ ds n Xd Qd, sp_l_tells ds n Xd Qd → rd_l_tells { nx := fun _ n' => Qd .non n', rt := Qd, xr := fun ex _ n' => Xd ex n' } (startD N_l_tells ds) n := by
  rintro ds n Xd Qd ⟨h, x, b, a, wd, t, rfl, v, q⟩
  refine ⟨.str wd.t, atI_nat (j := 0) rfl, rfl, ?_⟩
  cases wd with
  | step => exact ⟨h, x, b, a, rfl, v, q⟩
  | about => exact q
  | go => exact q
  | shift => exact q
/-! ### right -/
theorem rp_ints {ns : List Int} (h1 : ns.length ≤ 200) (h2 : ends40 ns) : rpOk (.lst (ns.map D.int)) := by
  refine rpOk_of (k := 2) ?_ (by decide) ?_
  · simp only [tm]
    exact tms_map fun x hx => tm_int (by have := h2 x hx; omega)
  · have := wt_map (f := D.int) (c := 200) (xs := ns) fun x _ => by simp [wtD]
    simp only [wtD]
    omega
theorem Va.rpS {h : Hs} {w : Nat} {b : List Int} {a : Int} (v : Va h w b a) : rpOk (encS b a) := by
  have w2 := v.w2
  have bl := v.bl
  have a0 := v.a0
  have a1 := v.a1
  refine rpOk_of (k := 3) ?_ (by decide) ?_
  · have e : tm 1 (encI b) = true := tm_encI fun x hx => by have := v.le9 x hx; omega
    have e2 : tm 2 (encI b) = true := by
      show tm 2 (.tup (b.map D.int)) = true
      simp only [tm]
      exact tms_map fun x hx => tm_int (by have := v.le9 x hx; omega)
    show tm 3 (.tup [encI b, .int a]) = true
    simp only [tm, tms, e2, Bool.true_and, Bool.and_true, decide_eq_true_eq]
    omega
  · have := wt_encI b
    show wtD (.tup [encI b, .int a]) ≤ _
    simp only [wtD, wtDs]
    omega
theorem Va.rpH {h : Hs} {w : Nat} {b : List Int} {a : Int} (v : Va h w b a) : rpOk (encH h) := by
  have w2 := v.w2
  have f := v.en.len
  have r2 := v.r2
  have low : ∀ x ∈ h.flatten, 0 ≤ x ∧ x < 40 := fun x hx => by have := v.en.mem hx; omega
  refine rpOk_of (k := 2) ?_ (by decide) ?_
  · show tm 2 (.tup (h.map encI)) = true
    simp only [tm]
    exact tms_map fun r hr => tm_encI (small_low low r hr)
  · have e1 := wt_rows h
    simp only [wtD, encH]
    omega
theorem ne_strF {x : Str} {Q : D → Prop} (q : Q (.bl false)) : drNe (.str x) (.str x) Q := by
  show Q (.bl (!decide (x = x)))
  rw [decide_eq_true rfl]; exact q
theorem tips_len (dd : List Deed) : (tipsOf dd).length ≤ dd.length := by
  unfold tipsOf
  rw [List.length_map]
  exact List.length_filter_le _ _
def sp_l_right : DSp := fun ds n X Q => ∃ (m q : Addr) (h : Hs) (x : Nat) (b : List Int) (a : Int) (l : D) (k : Int) (dd : List Deed), ds = [.loc m, encH h, encS b a, .lst ((tipsOf dd).map D.int), .int dd.length] ∧ CarR n m q h b a l k dd ∧ dd.length ≤ 100 ∧ Va h x b a ∧ ends40 (tipsOf dd) ∧ Q (.bl true) n
theorem len_l_right : ∀ ds n X Q, sp_l_right ds n X Q → ds.length = 5 := by rintro ds n X Q ⟨m, q, h, x, b, a, l, k, dd, rfl, _⟩; rfl
def rd_l_right : DTS := (tSeqD (tIfSD (tOrD (tTestD (tOpD drNe (tCallN drRepr (tConsD (tMethD "Carrier" "standing" sp_Carrier_standing (tVarD 0) tNilD) tNilD)) (tCallN drRepr (tConsD (tVarD 2) tNilD)))) (tOrD (tTestD (tOpD drNe (tCallN drRepr (tConsD (tMethD "Carrier" "house" sp_Carrier_house (tVarD 0) tNilD) tNilD)) (tCallN drRepr (tConsD (tVarD 1) tNilD)))) (tTestD (tOpD drNe (tLenID "Carrier" sp_Carrier___len__ (tVarD 0)) (tVarD 4))))) (tRetD (tCD (.bl false))) tNextD)
  (tSeqD (tOwnD 5 (tMethD "Carrier" "trail" sp_Carrier_trail (tVarD 0) tNilD))
  (tSeqD (tIfSD (tTestD (tOpD drNe (tCallN drRepr (tConsD (tVarD 5) tNilD)) (tCallN drRepr (tConsD (tVarD 3) tNilD)))) (tRetD (tCD (.bl false))) tNextD)
  (tSeqD (tAppD 5 (tCD (.int 0)))
  (tRetD (tOpD drEq (tCallN drRepr (tConsD (tMethD "Carrier" "trail" sp_Carrier_trail (tVarD 0) tNilD) tNilD)) (tCallN drRepr (tConsD (tVarD 3) tNilD))))))))
def N_l_right : List Str := ["made", "home", "stand", "tips", "many", "told"]
theorem read_l_right : ∀ ds n Xd Qd, sp_l_right ds n Xd Qd → rd_l_right { nx := fun _ n' => Qd .non n', rt := Qd, xr := fun ex _ n' => Xd ex n' } (startD N_l_right ds) n := by
  rintro ds n Xd Qd ⟨m, q, h, x, b, a, l, k, dd, rfl, c, hl, v, te, q'⟩
  have tl := tips_len dd
  have rt := rp_ints (ns := tipsOf dd) (by omega) te
  refine ⟨m, _, rfl, c.at', rfl, m, q, h, b, a, l, k, dd, rfl, c, v.rpS, v.rpS, ?_⟩
  refine ne_strF (ifF rfl ?_)
  refine ⟨m, _, rfl, c.at', rfl, m, q, h, b, a, l, k, dd, rfl, c, v.rpH, v.rpH, ?_⟩
  refine ne_strF (ifF rfl ?_)
  refine ⟨m, _, rfl, c.at', m, q, h, b, a, l, k, dd, rfl, c, _, rfl, by omega, by omega, ?_⟩
  refine ifF (by show (!decide ((dd.length : Int) = (dd.length : Int))) = false; rw [decide_eq_true rfl]; rfl) ?_
  refine ⟨m, _, rfl, c.at', rfl, m, q, h, b, a, l, k, dd, rfl, c, by omega, flat_ints _, rt, rt, ?_⟩
  refine ne_strF (ifF rfl ?_)
  refine ⟨by rw [List.length_map]; exact Nat.lt_of_le_of_lt (show (tipsOf dd).length ≤ 100 by omega) (by decide), m, _, rfl, c.at', rfl, m, q, h, b, a, l, k, dd, rfl, c, by omega, rt, rt, ?_⟩
  show Qd (.bl (decide (_ = _))) n
  rw [decide_eq_true rfl]; exact q'
end Lw

set_option Elab.async false
set_option linter.all false
set_option maxRecDepth 100000
set_option maxHeartbeats 4000000
/-! k78: the law. -/
namespace Lw
open PySem PySem.Spec PyProof.Rows L2 Dl
theorem Cel.eq {n : Sto} {p c d : Addr} (h : Cel n p c) (g : Cel n p d) : c = d := by
  obtain ⟨t, r, g⟩ := g
  exact h.inj g
/-- a pen and a carrier, apart -/
structure Both (n : Sto) (p c m q : Addr) (kp : Nat) (h : Hs) (b : List Int) (a : Int) (k : Int) (dd : List Deed) : Prop where
  pen : PenK n p kp
  cel : Cel n p c
  car : ∃ l, CarR n m q h b a l k dd
  pm : p ≠ m
  pq : p ≠ q
  cm : c ≠ m
  cq : c ≠ q
theorem Both.drew {n n' : Sto} {p c m q : Addr} {kp kp' : Nat} {h : Hs} {b : List Int} {a : Int} {k : Int} {dd : List Deed} (B : Both n p c m q kp h b a k dd) (d : DrewK n p kp' n') : Both n' p c m q kp' h b a k dd := by
  obtain ⟨l, r⟩ := B.car
  refine ⟨d.pen, d.cel c B.cel, ⟨l, ?_, ?_, r.fl⟩, B.pm, B.pq, B.cm, B.cq⟩
  · rw [d.only m (Ne.symm B.pm) (by rw [r.at']; simp)]; exact r.at'
  · rw [d.only q (Ne.symm B.pq) (by rw [r.dd]; simp)]; exact r.dd
theorem Both.deed {n n' : Sto} {p c m q : Addr} {kp : Nat} {h : Hs} {b b' : List Int} {a a' : Int} {l' : D} {k : Int} {dd dd' : List Deed} (B : Both n p c m q kp h b a k dd) (o : Only2 n n' m q) (r : CarR n' m q h b' a' l' k dd') : Both n' p c m q kp h b' a' k dd' := by
  have cel' : Cel n' p c := by
    obtain ⟨t, r, e⟩ := B.cel
    exact ⟨t, r, (o p B.pm B.pq).trans e⟩
  refine ⟨?_, cel', ⟨l', r⟩, B.pm, B.pq, B.cm, B.cq⟩
  obtain ⟨c2, t, r2, cells, h1, h2, h3, h4, h5, h6⟩ := B.pen
  obtain rfl : c = c2 := B.cel.inj h1
  exact ⟨c, t, r2, cells, (o p B.pm B.pq).trans h1, (o c B.cm B.cq).trans h2, h3, h4, h5, h6⟩
theorem Both.mono {n : Sto} {p c m q : Addr} {kp kp' : Nat} {h : Hs} {b : List Int} {a : Int} {k : Int} {dd : List Deed} (B : Both n p c m q kp h b a k dd) (l : kp ≤ kp') : Both n p c m q kp' h b a k dd := ⟨B.pen.mono l, B.cel, B.car, B.pm, B.pq, B.cm, B.cq⟩
theorem done_va {h : Hs} {x : Nat} {b : List Int} {a : Int} {wd : Wd} {o : Option Int} {s : List Int × Int} (v : Va h x b a) (e : doneL h b a wd o = some s) : Va h x s.1 s.2 ∧ 0 ≤ endL h b a wd o ∧ endL h b a wd o < 2 * x := by
  have bl := v.bl
  cases wd with
  | step =>
    cases e
    obtain ⟨_, _, _, n2, n3⟩ := v.next
    exact ⟨v.step, n2, n3⟩
  | about =>
    cases e
    exact ⟨v.move v.a0 v.a1 v.at', v.a0, v.a1⟩
  | go =>
    cases o with
    | none => cases e
    | some d =>
      have e : (if goB h b a d = true then some (moveL b d, otherE d) else none) = some s := e
      split at e
      · rename_i g
        cases e
        unfold goB at g
        rw [Bool.and_eq_true, decide_eq_true_iff, decide_eq_true_iff] at g
        have := v.rowIn g.1
        exact ⟨v.move this.1 this.2 g.2, this.1, this.2⟩
      · cases e
  | shift =>
    cases o with
    | none => cases e
    | some d =>
      have e : (if shiftB b a d = true then some (moveL b d, a) else none) = some s := e
      split at e
      · rename_i g
        cases e
        unfold shiftB shB at g
        rw [Bool.and_eq_true, Bool.and_eq_true, decide_eq_true_iff, decide_eq_true_iff, decide_eq_true_iff] at g
        obtain ⟨⟨g1, g2⟩, g3⟩ := g
        have gp : 0 < b.getD d.toNat 0 := by
          split at g3 <;> omega
        have vm := v.move g1 (by omega) gp
        refine ⟨⟨vm.r1, vm.r2, vm.en, vm.w1, vm.w2, vm.bl, vm.b0, vm.wi, v.a0, v.a1, ?_⟩, g1, by show d < 2 * (x : Int); omega⟩
        have at' := v.at'
        show 0 < (moveL b d).getD a.toNat 0
        rw [move_getD bl g1 (by omega)]
        have a0 := v.a0
        have := otherE_ne d
        split
        · rename_i z
          have : d = a := by omega
          subst this
          rw [if_pos (decide_eq_true rfl)] at g3
          omega
        · split <;> omega
      · cases e
theorem tips_snoc (dd : List Deed) (d : Deed) : tipsOf (dd ++ [d]) = if d.w = Str.ofString "shift" then tipsOf dd else tipsOf dd ++ [d.e] := by
  unfold tipsOf
  rw [List.filter_append, List.map_append]
  by_cases h : d.w = Str.ofString "shift"
  · rw [if_pos h, List.filter_cons_of_neg (by rw [decide_eq_true h]; decide)]; simp
  · rw [if_neg h, List.filter_cons_of_pos (by rw [decide_eq_false h]; rfl)]; rfl
theorem rp_told {h : Hs} {x : Nat} {b : List Int} {a : Int} (v : Va h x b a) (wd : Wd) : rpOk (.lst [toldL h b a wd]) := by
  have w2 := v.w2
  obtain ⟨_, _, _, n2, n3⟩ := v.next
  have hn : rpOk (.lst [.non]) := by
    unfold rpOk
    decide +kernel
  cases wd with
  | step => exact rp_ints (ns := [nextE h b a]) (by simp) fun z hz => by rw [List.mem_singleton] at hz; subst hz; exact ⟨n2, by omega⟩
  | about => exact hn
  | go => exact hn
  | shift => exact hn
theorem flat_told (h : Hs) (b : List Int) (a : Int) (wd : Wd) : flat (toldL h b a wd) = true := by cases wd <;> rfl
def rd_law : DTS := (tSeqD (tSetD 2 (tCallD sp_l_house (tConsD (tVarD 1) (tConsD (tCD (.int 6)) (tConsD (tCD (.int 10)) tNilD)))))
  (tSeqD (tSetD 3 (tCallD sp_l_stand (tConsD (tVarD 1) (tConsD (tVarD 2) (tConsD (tCD (.int 4)) tNilD)))))
  (tSeqD (tSetD 4 (tMakeKD "Carrier" sp_Carrier___init__ [1, 0] (tConsD (tVarD 3) (tConsD (tVarD 2) tNilD))))
  (tSeqD (tSetD 5 (tLstD tNilD))
  (tSeqD (tSetD 6 (tCD (.int 0)))
  (tSeqD (tForD (tWRng1 (tOpD drIx (tLstD (tConsD (tCD (.int 30)) (tConsD (tCD (.int 10)) (tConsD (tCallD sp_l_take (tConsD (tVarD 1) (tConsD (tCD (.int 31)) tNilD))) tNilD)))) (tCallD sp_l_take (tConsD (tVarD 1) (tConsD (tCD (.int 3)) tNilD))))) (gNameD 7) (tSeqD (tIfSD (tNotD (tTestD (tCallD sp_l_right (tConsD (tVarD 4) (tConsD (tVarD 2) (tConsD (tVarD 3) (tConsD (tVarD 5) (tConsD (tVarD 6) tNilD)))))))) (tRetD (tCD (.bl false))) tNextD)
  (tSeqD (tSetD 8 (tCallD sp_l_deed (tConsD (tVarD 1) (tConsD (tVarD 3) tNilD))))
  (tSeqD (tSetD 9 (tCallD sp_l_done (tConsD (tVarD 2) (tConsD (tVarD 3) (tConsD (tVarD 8) tNilD)))))
  (tSeqD (tSetD 10 (tLamD sp_l_heard (tCallD sp_l_asked (tConsD (tVarD 4) (tConsD (tVarD 8) tNilD)))))
  (tIfSD (tTestD (tCallN drIsi (tConsD (tVarD 9) (tConsD (tCD (.opq (.ty "str"))) tNilD)))) (tIfSD (tTestD (tOpD drNe (tVarD 10) (tVarD 9))) (tRetD (tCD (.bl false))) tNextD) (tSeqD (tIfSD (tTestD (tOpD drNe (tCallN drRepr (tConsD (tVarD 10) tNilD)) (tCallN drRepr (tConsD (tLstD (tConsD (tCallD sp_l_tells (tConsD (tVarD 2) (tConsD (tVarD 3) (tConsD (tVarD 8) tNilD)))) tNilD)) tNilD)))) (tRetD (tCD (.bl false))) tNextD)
  (tSeqD (tSetD 11 (tDispG2D (Str.ofString "step") (tCallD sp_l_next (tConsD (tVarD 2) (tConsD (tVarD 3) tNilD))) (Str.ofString "about") (tOpD drIx (tVarD 3) (tCD (.int 1))) (tOpD drIx (tVarD 8) (tCD (.int 0))) (tOpD drIx (tVarD 8) (tCD (.int 1)))))
  (tSeqD (tIfSD (tTestD (tOpD drNe (tOpD drIx (tVarD 8) (tCD (.int 0))) (tCD (.str (Str.ofString "shift"))))) (tSetD 5 (tOpD drAdd (tVarD 5) (tLstD (tConsD (tVarD 11) tNilD)))) tNextD)
  (tSeqD (tSetD 6 (tOpD drAdd (tVarD 6) (tCD (.int 1))))
  (tSetD 3 (tVarD 9))))))))))))
  (tRetD (tCallD sp_l_right (tConsD (tVarD 4) (tConsD (tVarD 2) (tConsD (tVarD 3) (tConsD (tVarD 5) (tConsD (tVarD 6) tNilD)))))))))))))
def N_law : List Str := ["script", "pen", "home", "stand", "made", "tips", "many", "time", "deed", "later", "heard", "gone_by_so"]
def rd_step_tail : DTS := (tSeqD (tSetD 9 (tCallD sp_l_done (tConsD (tVarD 2) (tConsD (tVarD 3) (tConsD (tVarD 8) tNilD)))))
  (tSeqD (tSetD 10 (tLamD sp_l_heard (tCallD sp_l_asked (tConsD (tVarD 4) (tConsD (tVarD 8) tNilD)))))
  (tIfSD (tTestD (tCallN drIsi (tConsD (tVarD 9) (tConsD (tCD (.opq (.ty "str"))) tNilD)))) (tIfSD (tTestD (tOpD drNe (tVarD 10) (tVarD 9))) (tRetD (tCD (.bl false))) tNextD) (tSeqD (tIfSD (tTestD (tOpD drNe (tCallN drRepr (tConsD (tVarD 10) tNilD)) (tCallN drRepr (tConsD (tLstD (tConsD (tCallD sp_l_tells (tConsD (tVarD 2) (tConsD (tVarD 3) (tConsD (tVarD 8) tNilD)))) tNilD)) tNilD)))) (tRetD (tCD (.bl false))) tNextD)
  (tSeqD (tSetD 11 (tDispG2D (Str.ofString "step") (tCallD sp_l_next (tConsD (tVarD 2) (tConsD (tVarD 3) tNilD))) (Str.ofString "about") (tOpD drIx (tVarD 3) (tCD (.int 1))) (tOpD drIx (tVarD 8) (tCD (.int 0))) (tOpD drIx (tVarD 8) (tCD (.int 1)))))
  (tSeqD (tIfSD (tTestD (tOpD drNe (tOpD drIx (tVarD 8) (tCD (.int 0))) (tCD (.str (Str.ofString "shift"))))) (tSetD 5 (tOpD drAdd (tVarD 5) (tLstD (tConsD (tVarD 11) tNilD)))) tNextD)
  (tSeqD (tSetD 6 (tOpD drAdd (tVarD 6) (tCD (.int 1))))
  (tSetD 3 (tVarD 9)))))))))
def rd_step_end : DTS := (tSeqD (tIfSD (tTestD (tOpD drNe (tOpD drIx (tVarD 8) (tCD (.int 0))) (tCD (.str (Str.ofString "shift"))))) (tSetD 5 (tOpD drAdd (tVarD 5) (tLstD (tConsD (tVarD 11) tNilD)))) tNextD)
  (tSeqD (tSetD 6 (tOpD drAdd (tVarD 6) (tCD (.int 1))))
  (tSetD 3 (tVarD 9))))
theorem read_step_tail (C : DEnds) {v0 : V} {p c m q : Addr} {kp : Nat} {h : Hs} {x : Nat} {b : List Int} {a : Int} {dd : List Deed} {n : Sto} {v7 v9 v10 v11 : Option SV} {wd : Wd} {t : D} {o : Option Int} (B : Both n p c m q kp h b a 0 dd) (v : Va h x b a) (dl : dd.length ≤ 50) (te : ends40 (tipsOf dd)) (ft : flat t = true) (ot : TipIs n t o)
    (qn : ∀ b' a' dd' n' (v9 v10 v11 : Option SV), Both n' p c m q kp h b' a' 0 dd' → Va h x b' a' → dd'.length ≤ dd.length + 1 → ends40 (tipsOf dd') → C.nx [some (.frz (.opq v0)), some (.frz (.loc p)), some (.frz (encH h)), some (.frz (encS b' a')), some (.frz (.loc m)), some (.frz (.lst ((tipsOf dd').map D.int))), some (.frz (.int dd'.length)), v7, some (.frz (.tup [.str wd.t, t])), v9, v10, v11] n') :
    rd_step_tail C [some (.frz (.opq v0)), some (.frz (.loc p)), some (.frz (encH h)), some (.frz (encS b a)), some (.frz (.loc m)), some (.frz (.lst ((tipsOf dd).map D.int))), some (.frz (.int dd.length)), v7, some (.frz (.tup [.str wd.t, t])), v9, v10, v11] n := by
  obtain ⟨l, car⟩ := B.car
  have tl := tips_len dd
  have bl := v.bl
  have w2 := v.w2
  refine ⟨h, x, b, a, wd, t, o, rfl, v, ft, ot, ?_⟩
  intro X1 Q1 hG hS hQ
  refine ⟨m, q, h, x, b, a, l, 0, dd, wd, t, o, rfl, car, by omega, v, ot, fun s hs n' l' car' only => ?_, fun hs => ⟨fun hw => ?_, fun hw => ?_⟩⟩
  · obtain ⟨va', e0, e1⟩ := done_va v hs
    have B' := B.deed only car'
    refine hQ _ _ (flat_told h b a wd) ?_
    rw [hs]
    refine ⟨"tuple", false, rfl, by decide +kernel, ?_⟩
    refine ifF rfl ?_
    refine ⟨rp_told v wd, h, x, b, a, wd, t, rfl, v, by show 1 ≤ sizeLine; decide, rp_told v wd, ?_⟩
    refine ne_strF (ifF rfl ?_)
    have done : ∀ (g : D) (ge : g = .int (endL h b a wd o)), rd_step_end C [some (.frz (.opq v0)), some (.frz (.loc p)), some (.frz (encH h)), some (.frz (encS b a)), some (.frz (.loc m)), some (.frz (.lst ((tipsOf dd).map D.int))), some (.frz (.int dd.length)), v7, some (.frz (.tup [.str wd.t, t])), some (.frz (encS s.1 s.2)), some (.frz (.lst [toldL h b a wd])), some (.frz g)] n' := fun g ge => by
      subst ge
      have tip2 : ends40 (tipsOf (dd ++ [⟨wd.t, endL h b a wd o, encS b a, l⟩])) := by
        rw [tips_snoc]
        split
        · exact te
        · intro z hz
          rcases List.mem_append.mp hz with hz | hz
          · exact te z hz
          · rw [List.mem_singleton] at hz
            have hz : z = endL h b a wd o := hz
            subst hz; exact ⟨e0, by omega⟩
      have ld : (dd.length : Int) + 1 = ((dd ++ [(⟨wd.t, endL h b a wd o, encS b a, l⟩ : Deed)]).length : Nat) := by rw [List.length_append]; rfl
      have fin : ∀ ns : List Int, ns = tipsOf (dd ++ [⟨wd.t, endL h b a wd o, encS b a, l⟩]) → C.nx [some (.frz (.opq v0)), some (.frz (.loc p)), some (.frz (encH h)), some (.frz (encS s.1 s.2)), some (.frz (.loc m)), some (.frz (.lst (ns.map D.int))), some (.frz (.int ((dd.length : Int) + 1))), v7, some (.frz (.tup [.str wd.t, t])), some (.frz (encS s.1 s.2)), some (.frz (.lst [toldL h b a wd])), some (.frz (.int (endL h b a wd o)))] n' := fun ns hn => by
        rw [hn, ld]
        exact qn _ _ _ _ _ _ _ B' va' (by rw [List.length_append]; exact Nat.le_refl _) tip2
      refine ⟨.str wd.t, atI_nat (j := 0) rfl, rfl, ?_⟩
      have add : ∀ (hw : wd.t ≠ Str.ofString "shift"), tSeqD (tSetD 5 (tOpD drAdd (tVarD 5) (tLstD (tConsD (tVarD 11) tNilD)))) (tSeqD (tSetD 6 (tOpD drAdd (tVarD 6) (tCD (.int 1)))) (tSetD 3 (tVarD 9))) C [some (.frz (.opq v0)), some (.frz (.loc p)), some (.frz (encH h)), some (.frz (encS b a)), some (.frz (.loc m)), some (.frz (.lst ((tipsOf dd).map D.int))), some (.frz (.int dd.length)), v7, some (.frz (.tup [.str wd.t, t])), some (.frz (encS s.1 s.2)), some (.frz (.lst [toldL h b a wd])), some (.frz (.int (endL h b a wd o)))] n' := fun hw => by
        refine ⟨by show 1 ≤ sizeLine; decide, by rw [List.length_map]; exact small100 (by show (tipsOf dd).length + 1 ≤ _; omega), flat_ints _, rfl, ?_⟩
        have := fin (tipsOf dd ++ [endL h b a wd o]) (by rw [tips_snoc, if_neg hw])
        rw [List.map_append] at this
        exact this
      cases wd with
      | step => exact add (by decide +kernel)
      | about => exact add (by decide +kernel)
      | go => exact add (by decide +kernel)
      | shift => exact fin (tipsOf dd) ((tips_snoc dd _).trans (if_pos rfl)).symm
    obtain ⟨_, _, _, n2, n3⟩ := v.next
    refine ⟨h, x, b, a, rfl, v, .int a, atI_nat (j := 1) rfl, rfl, rfl, rfl, .str wd.t, atI_nat (j := 0) rfl, rfl, wd.t, rfl, t, atI_nat (j := 1) rfl, ft, ?_⟩
    cases wd with
    | step => exact ⟨rfl, done _ rfl⟩
    | about => exact ⟨rfl, done _ rfl⟩
    | go =>
      cases o with
      | none => cases hs
      | some e => exact ⟨ft, done _ ot⟩
    | shift =>
      cases o with
      | none => cases hs
      | some e => exact ⟨ft, done _ ot⟩
  · refine hG _ ?_
    rw [hs]
    refine ⟨"str", true, rfl, by decide +kernel, ifT rfl ?_⟩
    simp only [tIfSD, tTestD, tOpD]
    refine var_at (i := 10) (d := .str (Str.ofString "going0")) ?_ ?_
    · rfl
    refine var_at (i := 9) (d := .str (Str.ofString "going0")) ?_ ?_
    · rw [← hw]; rfl
    refine ne_strF ?_
    refine ifF rfl ?_
    exact qn _ _ _ _ _ _ _ B v (by omega) te
  · refine hS _ ?_
    rw [hs]
    refine ⟨"str", true, rfl, by decide +kernel, ifT rfl ?_⟩
    simp only [tIfSD, tTestD, tOpD]
    refine var_at (i := 10) (d := .str (Str.ofString "shift")) ?_ ?_
    · rfl
    refine var_at (i := 9) (d := .str (Str.ofString "shift")) ?_ ?_
    · rw [← hw]; rfl
    refine ne_strF ?_
    refine ifF rfl ?_
    exact qn _ _ _ _ _ _ _ B v (by omega) te
theorem read_law : ∀ (v : V) n d, (∃ p, d = .loc p ∧ PenK n p 0) → rd_law { nx := fun _ _ => False, rt := fun d _ => d = .bl true } ((startD N_law [.opq v]).set 1 (some (.frz d))) n := by
  rintro v0 n d ⟨p, rfl, pen⟩
  have L : lim = 4000000 := rfl
  refine ⟨p, 6, 10, 0, rfl, by decide, by decide, by decide, by decide, pen, by omega, fun h rooms wires n1 hh r1 r2 w1 w2 dr1 => ?_⟩
  refine ⟨p, _, h, rooms, wires, 4, rfl, hh, r1, by omega, w1, by omega, by decide, by decide, dr1.pen, by omega, fun b a n2 va _ dr2 => ?_⟩
  have d2 := dr1.trans dr2
  refine ⟨rfl, fun m hm => ⟨m, h, b, a, rfl, updS_same, fun q n3 hq car only => ⟨rfl, ?_⟩⟩⟩
  have pen2 := d2.pen
  obtain ⟨c, t, r, cells, g1, g2, g3, g4, g5, g6⟩ := pen2
  have pm : p ≠ m := fun z => by rw [← z, g1] at hm; cases hm
  have cm : c ≠ m := fun z => by rw [← z, g2] at hm; cases hm
  have qm := car.ne
  have hq' : n2 q = none := by rw [updS_ne qm] at hq; exact hq
  have pq : p ≠ q := fun z => by rw [← z, g1] at hq'; cases hq'
  have cq : c ≠ q := fun z => by rw [← z, g2] at hq'; cases hq'
  have e1 : n3 p = n2 p := (only p pm pq).trans (updS_ne pm)
  have e2 : n3 c = n2 c := (only c cm cq).trans (updS_ne cm)
  have B3 : Both n3 p c m q 300 h b a 0 [] := ⟨⟨c, t, r, cells, e1.trans g1, e2.trans g2, g3, g4, by omega, g6⟩, ⟨t, r, e1.trans g1⟩, ⟨.non, car⟩, pm, pq, cm, cq⟩
  refine ⟨by show 0 ≤ sizeLine; decide, ?_⟩
  refine ⟨p, 31, _, rfl, by decide, by decide, B3.pen, by omega, fun z n4 z0 z1 dr4 => ⟨by show 3 ≤ sizeLine; decide, p, 3, _, rfl, by decide, by decide, dr4.pen, by omega, fun y n5 y0 y1 dr5 => ?_⟩⟩
  have B5 : Both n5 p c m q 310 h b a 0 [] := ((B3.drew dr4).drew dr5).mono (by omega)
  obtain ⟨u, eu, u0, u1⟩ : ∃ u : Int, atI [D.int 30, .int 10, .int z] y = some (.int u) ∧ 0 ≤ u ∧ u ≤ 30 := by
    have h3 : y = 0 ∨ y = 1 ∨ y = 2 := by omega
    rcases h3 with rfl | rfl | rfl
    · exact ⟨_, atI_nat (j := 0) rfl, by decide, by decide⟩
    · exact ⟨_, atI_nat (j := 1) rfl, by decide, by decide⟩
    · exact ⟨_, atI_nat (j := 2) rfl, z0, by omega⟩
  refine ⟨_, eu, rfl, by omega, by omega, ?_⟩
  have el : (rangeD 0 u.toNat).length = u.toNat := rangeD_length _ _
  refine ⟨fun j Δ n' => ∃ (v7 v8 v9 v10 v11 : Option SV) (b : List Int) (a : Int) (dd : List Deed), Δ = [some (.frz (.opq v0)), some (.frz (.loc p)), some (.frz (encH h)), some (.frz (encS b a)), some (.frz (.loc m)), some (.frz (.lst ((tipsOf dd).map D.int))), some (.frz (.int dd.length)), v7, v8, v9, v10, v11] ∧ Both n' p c m q (310 + 10 * j) h b a 0 dd ∧ Va h wires b a ∧ dd.length ≤ j ∧ ends40 (tipsOf dd),
    ⟨none, none, none, none, none, b, a, [], rfl, B5, va, Nat.le_refl _, fun z hz => by cases hz⟩, ?_, ?_⟩
  · rintro j d Δ n6 hj ⟨v7, v8, v9, v10, v11, b, a, dd, rfl, B6, va6, dl, te⟩
    have jl : j < u.toNat := by have := (List.getElem?_eq_some_iff.mp hj).1; rw [el] at this; exact this
    obtain ⟨l6, car6⟩ := B6.car
    refine ⟨m, q, h, wires, b, a, l6, 0, dd, rfl, car6, by omega, va6, te, ?_⟩
    refine ⟨p, _, h, wires, b, a, rfl, va6, B6.pen, by omega, fun wd t o n7 ft ot dr7 => ?_⟩
    have B7 := B6.drew dr7
    refine read_step_tail _ B7 va6 (by omega) te ft ot fun b' a' dd' n8 v9 v10 v11 B8 va8 dl8 te8 => ?_
    exact ⟨_, _, v9, v10, v11, b', a', dd', rfl, B8.mono (by omega), va8, by omega, te8⟩
  · rintro Δ n6 ⟨v7, v8, v9, v10, v11, b, a, dd, rfl, B6, va6, dl, te⟩
    rw [el] at dl
    obtain ⟨l6, car6⟩ := B6.car
    exact ⟨m, q, h, wires, b, a, l6, 0, dd, rfl, car6, by omega, va6, te, rfl⟩
end Lw

set_option Elab.async false
set_option linter.all false
set_option maxRecDepth 100000
set_option maxHeartbeats 4000000
namespace Lw
open PySem PySem.Spec PyProof.Rows L2 Dl
abbrev TT : List (Addr × Str) := [(517, ("law" : Str) ++ ".<locals>." ++ "<lambda>")]
variable [XP]
structure Txt (P : Program) (w : World) (K : PySem.W.Frag) (mg : Str → Option Value) (base : Heap) : Prop where
  tt : XP.T = TT
  b_ValueError : mg "ValueError" = none
  b_abs : mg "abs" = none
  b_bool : mg "bool" = none
  b_int : mg "int" = none
  b_isinstance : mg "isinstance" = none
  b_len : mg "len" = none
  b_list : mg "list" = none
  b_range : mg "range" = none
  b_repr : mg "repr" = none
  b_sorted : mg "sorted" = none
  b_str : mg "str" = none
  b_sum : mg "sum" = none
  b_tuple : mg "tuple" = none
  g_SHIFT : ∃ t, mg "SHIFT" = some (.str (Str.ofString "shift") t)
  c_CarryError : ∃ C, mg "CarryError" = some (.ref C) ∧ XP.mg "CarryError" = some (.ref C)
  c_NoStanding : ∃ C, mg "NoStanding" = some (.ref C) ∧ XP.mg "NoStanding" = some (.ref C)
  c_NoGoing : ∃ C, mg "NoGoing" = some (.ref C) ∧ XP.mg "NoGoing" = some (.ref C)
  c_TooMany : ∃ C, mg "TooMany" = some (.ref C) ∧ XP.mg "TooMany" = some (.ref C)
  c_NoPart : ∃ C, mg "NoPart" = some (.ref C) ∧ XP.mg "NoPart" = some (.ref C)
  c_Clash : ∃ C, mg "Clash" = some (.ref C) ∧ XP.mg "Clash" = some (.ref C)
  c_NoShift : ∃ C, mg "NoShift" = some (.ref C) ∧ XP.mg "NoShift" = some (.ref C)
  c_NoBack : ∃ C, mg "NoBack" = some (.ref C) ∧ XP.mg "NoBack" = some (.ref C)
  c_NoText : ∃ C, mg "NoText" = some (.ref C) ∧ XP.mg "NoText" = some (.ref C)
  x_NoGoing : ExCls P w K mg base "NoGoing" "at"
  x_NoShift : ExCls0 K mg "NoShift"
  i_Carrier : InsC K "Carrier" ["kept_house", "now_standing", "now_deeds", "now_lot", "now_looked"]
  subs : SubsOk K SUBS
  subsT : SubsTOk K SUBST
  flds : FldsOk K FLDS
abbrev s_is_whole : Stmt := topS 12
def kw_is_whole : List (List Str × List Nat) := []
abbrev s_is_within : Stmt := topS 13
def kw_is_within : List (List Str × List Nat) := []
abbrev s_many_ends : Stmt := topS 14
def kw_many_ends : List (List Str × List Nat) := []
abbrev s_other_end : Stmt := topS 15
def kw_other_end : List (List Str × List Nat) := []
abbrev s_ends_of : Stmt := topS 16
def kw_ends_of : List (List Str × List Nat) := []
abbrev s_room_of : Stmt := topS 17
def kw_room_of : List (List Str × List Nat) := []
abbrev s_where : Stmt := topS 20
def kw_where : List (List Str × List Nat) := []
abbrev s_moved : Stmt := topS 22
def kw_moved : List (List Str × List Nat) := []
abbrev s_may_go : Stmt := topS 23
def kw_may_go : List (List Str × List Nat) := []
abbrev s_went : Stmt := topS 24
def kw_went : List (List Str × List Nat) := []
abbrev s_can_go : Stmt := topS 25
def kw_can_go : List (List Str × List Nat) := []
abbrev s_gone : Stmt := topS 26
def kw_gone : List (List Str × List Nat) := []
abbrev s_can_shift : Stmt := topS 31
def kw_can_shift : List (List Str × List Nat) := []
abbrev s_shifted : Stmt := topS 32
def kw_shifted : List (List Str × List Nat) := []
abbrev s_turned_to : Stmt := topS 34
def kw_turned_to : List (List Str × List Nat) := []
abbrev s_behind : Stmt := topS 35
def kw_behind : List (List Str × List Nat) := []
abbrev s_first_laden : Stmt := topS 37
def kw_first_laden : List (List Str × List Nat) := []
abbrev s_next_end : Stmt := topS 38
def kw_next_end : List (List Str × List Nat) := []
abbrev s_Carrier___init__ : Stmt := inClass (topS 44) 0
def kw_Carrier___init__ : List (List Str × List Nat) := [(["standing", "house"], [1, 0])]
abbrev s_Carrier___len__ : Stmt := inClass (topS 44) 1
def kw_Carrier___len__ : List (List Str × List Nat) := []
abbrev s_Carrier_deed : Stmt := inClass (topS 44) 5
def kw_Carrier_deed : List (List Str × List Nat) := []
abbrev s_Carrier_step : Stmt := inClass (topS 44) 6
def kw_Carrier_step : List (List Str × List Nat) := []
abbrev s_Carrier_go : Stmt := inClass (topS 44) 7
def kw_Carrier_go : List (List Str × List Nat) := [(["end"], [0])]
abbrev s_Carrier_about : Stmt := inClass (topS 44) 8
def kw_Carrier_about : List (List Str × List Nat) := []
abbrev s_Carrier_shift : Stmt := inClass (topS 44) 9
def kw_Carrier_shift : List (List Str × List Nat) := [(["end"], [0])]
abbrev s_Carrier_house : Stmt := inClass (topS 44) 12
def kw_Carrier_house : List (List Str × List Nat) := []
abbrev s_Carrier_standing : Stmt := inClass (topS 44) 13
def kw_Carrier_standing : List (List Str × List Nat) := []
abbrev s_Carrier_trail : Stmt := inClass (topS 44) 14
def kw_Carrier_trail : List (List Str × List Nat) := []
abbrev s_l_pen : Stmt := topS 46
def kw_l_pen : List (List Str × List Nat) := []
abbrev s_l_take : Stmt := topS 47
def kw_l_take : List (List Str × List Nat) := []
abbrev s_l_house : Stmt := topS 48
def kw_l_house : List (List Str × List Nat) := []
abbrev s_l_stand : Stmt := topS 49
def kw_l_stand : List (List Str × List Nat) := []
abbrev s_l_next : Stmt := topS 50
def kw_l_next : List (List Str × List Nat) := []
abbrev s_l_went : Stmt := topS 51
def kw_l_went : List (List Str × List Nat) := []
abbrev s_l_heard : Stmt := topS 52
def kw_l_heard : List (List Str × List Nat) := []
abbrev s_l_done : Stmt := topS 53
def kw_l_done : List (List Str × List Nat) := []
abbrev s_l_deed : Stmt := topS 54
def kw_l_deed : List (List Str × List Nat) := []
abbrev s_l_asked : Stmt := topS 55
def kw_l_asked : List (List Str × List Nat) := []
abbrev s_l_tells : Stmt := topS 56
def kw_l_tells : List (List Str × List Nat) := []
abbrev s_l_right : Stmt := topS 57
def kw_l_right : List (List Str × List Nat) := []
abbrev s_law : Stmt := topS 58
def kw_law : List (List Str × List Nat) := []
section
variable {P : Program} {w : World} {K : PySem.W.Frag} {mg : Str → Option Value} {base : Heap}
theorem sc_is_whole : FnScope ["thing"] ["thing"] (defScope s_is_whole) := ⟨rfl, rfl, rfl, by decide +kernel, rfl, by decide +kernel, by decide +kernel⟩
theorem ok_is_whole {f : Addr} {fd : FuncData} (F : L2.Fun K "is_whole" "is_whole" s_is_whole f fd) (T : Txt P w K mg base) : FnG P w K mg base (L2.CX P w) 3 f fd ["thing"] (liftF sp_is_whole) :=
  Fun_dok (t := rd_is_whole) F sc_is_whole len_is_whole (fun cv hcv A fs s H E hr hgd tk => (dss_one (ds_ret (d_and (d_callBV call_isi sn_isi (by rfl) T.b_isinstance (by decide +kernel) (da_cons (dv 0) (da_cons (d_bltn (by rfl) T.b_int (by decide +kernel)) da_nil))) (d_one (d_not (d_callBV call_isi sn_isi (by rfl) T.b_isinstance (by decide +kernel) (da_cons (dv 0) (da_cons (d_bltn (by rfl) T.b_bool (by decide +kernel)) da_nil))))))))) read_is_whole
theorem sc_is_within : FnScope ["thing", "least", "most"] ["thing", "least", "most"] (defScope s_is_within) := ⟨rfl, rfl, rfl, by decide +kernel, rfl, by decide +kernel, by decide +kernel⟩
theorem ok_is_within {f : Addr} {fd : FuncData} (F : L2.Fun K "is_within" "is_within" s_is_within f fd) (T : Txt P w K mg base) (C_is_whole : Cal P w K mg base "is_whole" 3 ["thing"] kw_is_whole (liftF sp_is_whole)) : FnG P w K mg base (L2.CX P w) 4 f fd ["thing", "least", "most"] (liftF sp_is_within) :=
  Fun_dok (t := rd_is_within) F sc_is_within len_is_within (fun cv hcv A fs s H E hr hgd tk => (dss_one (ds_ret (d_and (d_cal C_is_whole (hr.mono (by decide)) hgd tk (da_cons (dv 0) da_nil)) (d_one (d_chain op_le sn_le op_le sn_le (dv 1) (dv 0) (dv 2))))))) read_is_within
theorem sc_many_ends : FnScope ["house", "room"] ["house"] (defScope s_many_ends) := ⟨rfl, rfl, rfl, by decide +kernel, rfl, by decide +kernel, by decide +kernel⟩
theorem ok_many_ends {f : Addr} {fd : FuncData} (F : L2.Fun K "many_ends" "many_ends" s_many_ends f fd) (T : Txt P w K mg base) : FnG P w K mg base (L2.CX P w) 3 f fd ["house"] (liftF sp_many_ends) :=
  Fun_dok (t := rd_many_ends) F sc_many_ends len_many_ends (fun cv hcv A fs s H E hr hgd tk => (dss_one (ds_ret (d_callB (cr_sum rfl) sn_sum (by rfl) T.b_sum (by decide +kernel) (da_cons (d_lc .bor rfl sc_many_ends.nd (di_seq (dv 0)) (blkOk_by (own := [("room", 1)]) (N := ["house", "room"]) (sc := defScope s_many_ends) (by decide +kernel)) (fun _ _ _ _ _ => pg_name (i := 1) sc_many_ends.nd rfl (Or.inl rfl)) (fun _ _ _ _ _ => letI : Dl.XE := noXE; dts_nil) (fun _ _ _ _ _ => (letI : Dl.XE := noXE; (d_callB call_len sn_len (by rfl) T.b_len PySem.boot_len (da_cons (dv 1) da_nil))))) da_nil))))) read_many_ends
theorem sc_other_end : FnScope ["end"] ["end"] (defScope s_other_end) := ⟨rfl, rfl, rfl, by decide +kernel, rfl, by decide +kernel, by decide +kernel⟩
theorem ok_other_end {f : Addr} {fd : FuncData} (F : L2.Fun K "other_end" "other_end" s_other_end f fd) (T : Txt P w K mg base) : FnG P w K mg base (L2.CX P w) 3 f fd ["end"] (liftF sp_other_end) :=
  Fun_dok (t := rd_other_end) F sc_other_end len_other_end (fun cv hcv A fs s H E hr hgd tk => (dss_one (ds_ret (d_op op_sub sn_sub (d_op op_addU sn_add (d_op op_mulU sn_mul d_int (d_op op_fdiv sn_div (dv 0) d_int)) d_int) (dv 0))))) read_other_end
theorem sc_ends_of : FnScope ["house", "room"] ["house", "room"] (defScope s_ends_of) := ⟨rfl, rfl, rfl, by decide +kernel, rfl, by decide +kernel, by decide +kernel⟩
theorem ok_ends_of {f : Addr} {fd : FuncData} (F : L2.Fun K "ends_of" "ends_of" s_ends_of f fd) (T : Txt P w K mg base) : FnG P w K mg base (L2.CX P w) 3 f fd ["house", "room"] (liftF sp_ends_of) :=
  Fun_dok (t := rd_ends_of) F sc_ends_of len_ends_of (fun cv hcv A fs s H E hr hgd tk => (dss_one (ds_ret (d_ix (dv 0) (dv 1) (fun _ _ => rfl))))) read_ends_of
theorem sc_room_of : FnScope ["house", "end", "room"] ["house", "end"] (defScope s_room_of) := ⟨rfl, rfl, rfl, by decide +kernel, rfl, by decide +kernel, by decide +kernel⟩
theorem ok_room_of {f : Addr} {fd : FuncData} (F : L2.Fun K "room_of" "room_of" s_room_of f fd) (T : Txt P w K mg base) : FnG P w K mg base (L2.CX P w) 3 f fd ["house", "end"] (liftF sp_room_of) :=
  Fun_dok (t := rd_room_of) F sc_room_of len_room_of (fun cv hcv A fs s H E hr hgd tk => (dss_one (ds_ret (d_ix (d_lc .bor rfl sc_room_of.nd (di_rng1 (by rfl) T.b_range (d_callB call_len sn_len (by rfl) T.b_len PySem.boot_len (da_cons (dv 0) da_nil))) (blkOk_by (own := [("room", 2)]) (N := ["house", "end", "room"]) (sc := defScope s_room_of) (by decide +kernel)) (fun _ _ _ _ _ => pg_name (i := 2) sc_room_of.nd rfl (Or.inl rfl)) (fun _ _ _ _ _ => letI : Dl.XE := noXE; dts_one (dt_cmp op_in_seq sn_in (dv 1) (d_ix (dv 0) (dv 2) (fun _ _ => rfl)) (by rfl))) (fun _ _ _ _ _ => (letI : Dl.XE := noXE; (dv 2)))) d_int (fun _ _ => rfl))))) read_room_of
theorem sc_where : FnScope ["house", "standing"] ["house", "standing"] (defScope s_where) := ⟨rfl, rfl, rfl, by decide +kernel, rfl, by decide +kernel, by decide +kernel⟩
theorem ok_where {f : Addr} {fd : FuncData} (F : L2.Fun K "where" "where" s_where f fd) (T : Txt P w K mg base) (C_room_of : Cal P w K mg base "room_of" 3 ["house", "end"] kw_room_of (liftF sp_room_of)) : FnG P w K mg base (L2.CX P w) 4 f fd ["house", "standing"] (liftF sp_where) :=
  Fun_dok (t := rd_where) F sc_where len_where (fun cv hcv A fs s H E hr hgd tk => (dss_one (ds_ret (d_cal C_room_of (hr.mono (by decide)) hgd tk (da_cons (dv 0) (da_cons (d_ix (dv 1) d_int (fun _ _ => rfl)) da_nil)))))) read_where
theorem sc_moved : FnScope ["beads", "end", "found"] ["beads", "end"] (defScope s_moved) := ⟨rfl, rfl, rfl, by decide +kernel, rfl, by decide +kernel, by decide +kernel⟩
theorem ok_moved {f : Addr} {fd : FuncData} (F : L2.Fun K "moved" "moved" s_moved f fd) (T : Txt P w K mg base) (C_other_end : Cal P w K mg base "other_end" 3 ["end"] kw_other_end (liftF sp_other_end)) : FnG P w K mg base (L2.CX P w) 4 f fd ["beads", "end"] (liftF sp_moved) :=
  Fun_dok (t := rd_moved) F sc_moved len_moved (fun cv hcv A fs s H E hr hgd tk => (dss_cons (ds_own 2 sc_moved.nd (d_callTy call_list_of sn_list (by rfl) T.b_list (by decide +kernel) (da_cons (dv 0) da_nil)))
  (dss_cons (ds_augL 2 ip_sub (pv 2) (dv 1) d_int)
  (dss_cons (ds_augL 2 ip_add (pv 2) (d_cal C_other_end (hr.mono (by decide)) hgd tk (da_cons (dv 1) da_nil)) d_int)
  (dss_one (ds_ret (d_callTy call_tupF sn_tup (by rfl) T.b_tuple (by decide +kernel) (da_cons (dv 2) da_nil)))))))) read_moved
theorem sc_may_go : FnScope ["house", "standing", "end"] ["house", "standing"] (defScope s_may_go) := ⟨rfl, rfl, rfl, by decide +kernel, rfl, by decide +kernel, by decide +kernel⟩
theorem ok_may_go {f : Addr} {fd : FuncData} (F : L2.Fun K "may_go" "may_go" s_may_go f fd) (T : Txt P w K mg base) (C_ends_of : Cal P w K mg base "ends_of" 3 ["house", "room"] kw_ends_of (liftF sp_ends_of)) (C_where : Cal P w K mg base "where" 4 ["house", "standing"] kw_where (liftF sp_where)) : FnG P w K mg base (L2.CX P w) 5 f fd ["house", "standing"] (liftF sp_may_go) :=
  Fun_dok (t := rd_may_go) F sc_may_go len_may_go (fun cv hcv A fs s H E hr hgd tk => (dss_one (ds_ret (d_callB cr_sortedI sn_sorted (by rfl) T.b_sorted (by decide +kernel) (da_cons (d_lc .bor rfl sc_may_go.nd (di_seq (d_cal C_ends_of (hr.mono (by decide)) hgd tk (da_cons (dv 0) (da_cons (d_cal C_where (hr.mono (by decide)) hgd tk (da_cons (dv 0) (da_cons (dv 1) da_nil))) da_nil)))) (blkOk_by (own := [("end", 2)]) (N := ["house", "standing", "end"]) (sc := defScope s_may_go) (by decide +kernel)) (fun _ _ _ _ _ => pg_name (i := 2) sc_may_go.nd rfl (Or.inl rfl)) (fun _ _ _ _ _ => letI : Dl.XE := noXE; dts_one (dt_cmp op_gt sn_gt (d_ix (d_ix (dv 1) d_int (fun _ _ => rfl)) (dv 2) (fun _ _ => rfl)) d_int (nomark _))) (fun _ _ _ _ _ => (letI : Dl.XE := noXE; (dv 2)))) da_nil))))) read_may_go
theorem sc_went : FnScope ["standing", "end"] ["standing", "end"] (defScope s_went) := ⟨rfl, rfl, rfl, by decide +kernel, rfl, by decide +kernel, by decide +kernel⟩
theorem ok_went {f : Addr} {fd : FuncData} (F : L2.Fun K "went" "went" s_went f fd) (T : Txt P w K mg base) (C_other_end : Cal P w K mg base "other_end" 3 ["end"] kw_other_end (liftF sp_other_end)) (C_moved : Cal P w K mg base "moved" 4 ["beads", "end"] kw_moved (liftF sp_moved)) : FnG P w K mg base (L2.CX P w) 5 f fd ["standing", "end"] (liftF sp_went) :=
  Fun_dok (t := rd_went) F sc_went len_went (fun cv hcv A fs s H E hr hgd tk => (dss_one (ds_ret (d_tup (da_cons (d_cal C_moved (hr.mono (by decide)) hgd tk (da_cons (d_ix (dv 0) d_int (fun _ _ => rfl)) (da_cons (dv 1) da_nil))) (da_cons (d_cal C_other_end (hr.mono (by decide)) hgd tk (da_cons (dv 1) da_nil)) da_nil)))))) read_went
theorem sc_can_go : FnScope ["house", "standing", "thing"] ["house", "standing", "thing"] (defScope s_can_go) := ⟨rfl, rfl, rfl, by decide +kernel, rfl, by decide +kernel, by decide +kernel⟩
theorem ok_can_go {f : Addr} {fd : FuncData} (F : L2.Fun K "can_go" "can_go" s_can_go f fd) (T : Txt P w K mg base) (C_may_go : Cal P w K mg base "may_go" 5 ["house", "standing"] kw_may_go (liftF sp_may_go)) (C_is_whole : Cal P w K mg base "is_whole" 3 ["thing"] kw_is_whole (liftF sp_is_whole)) : FnG P w K mg base (L2.CX P w) 6 f fd ["house", "standing", "thing"] (liftF sp_can_go) :=
  Fun_dok (t := rd_can_go) F sc_can_go len_can_go (fun cv hcv A fs s H E hr hgd tk => (dss_one (ds_ret (d_and (d_cal C_is_whole (hr.mono (by decide)) hgd tk (da_cons (dv 2) da_nil)) (d_one (d_cmp op_in_seq sn_in (dv 2) (d_cal C_may_go (hr.mono (by decide)) hgd tk (da_cons (dv 0) (da_cons (dv 1) da_nil))) (by rfl))))))) read_can_go
theorem sc_gone : FnScope ["house", "standing", "end"] ["house", "standing", "end"] (defScope s_gone) := ⟨rfl, rfl, rfl, by decide +kernel, rfl, by decide +kernel, by decide +kernel⟩
theorem ok_gone {f : Addr} {fd : FuncData} (F : L2.Fun K "gone" "gone" s_gone f fd) (T : Txt P w K mg base) (C_went : Cal P w K mg base "went" 5 ["standing", "end"] kw_went (liftF sp_went)) (C_can_go : Cal P w K mg base "can_go" 6 ["house", "standing", "thing"] kw_can_go (liftF sp_can_go)) : FnG P w K mg base (L2.CX P w) 7 f fd ["house", "standing", "end"] (liftF sp_gone) :=
  Fun_dok (t := rd_gone) F sc_gone len_gone (fun cv hcv A fs s H E hr hgd tk => (dss_cons (ds_if (dt_not (dt_val (d_cal C_can_go (hr.mono (by decide)) hgd tk (da_cons (dv 0) (da_cons (dv 1) (da_cons (dv 2) da_nil)))))) (dss_one (ds_raise1 (k := 0) T.x_NoGoing rfl tk (hr.mono (by decide)) (by rfl) d_int)) dss_nil)
  (dss_one (ds_ret (d_cal C_went (hr.mono (by decide)) hgd tk (da_cons (dv 1) (da_cons (dv 2) da_nil))))))) read_gone
theorem sc_can_shift : FnScope ["standing", "end", "beads", "at"] ["standing", "end"] (defScope s_can_shift) := ⟨rfl, rfl, rfl, by decide +kernel, rfl, by decide +kernel, by decide +kernel⟩
theorem ok_can_shift {f : Addr} {fd : FuncData} (F : L2.Fun K "can_shift" "can_shift" s_can_shift f fd) (T : Txt P w K mg base) : FnG P w K mg base (L2.CX P w) 3 f fd ["standing", "end"] (liftF sp_can_shift) :=
  Fun_dok (t := rd_can_shift) F sc_can_shift len_can_shift (fun cv hcv A fs s H E hr hgd tk => (dss_cons (ds_asg (dv 0) (dg_tup rfl (dgs_cons (dg_name 2 sc_can_shift.nd) (dgs_cons (dg_name 3 sc_can_shift.nd) dgs_nil))))
  (dss_one (ds_ret (d_cmp op_gt sn_gt (d_ix (dv 2) (dv 1) (fun _ _ => rfl)) (d_callTy call_int1 sn_int (by rfl) T.b_int (by decide +kernel) (da_cons (d_cmp (op_eqU hr.units) sn_eq (dv 1) (dv 3) (nomark _)) da_nil)) (nomark _)))))) read_can_shift
theorem sc_shifted : FnScope ["house", "standing", "end"] ["house", "standing", "end"] (defScope s_shifted) := ⟨rfl, rfl, rfl, by decide +kernel, rfl, by decide +kernel, by decide +kernel⟩
theorem ok_shifted {f : Addr} {fd : FuncData} (F : L2.Fun K "shifted" "shifted" s_shifted f fd) (T : Txt P w K mg base) (C_moved : Cal P w K mg base "moved" 4 ["beads", "end"] kw_moved (liftF sp_moved)) (C_can_shift : Cal P w K mg base "can_shift" 3 ["standing", "end"] kw_can_shift (liftF sp_can_shift)) : FnG P w K mg base (L2.CX P w) 5 f fd ["house", "standing", "end"] (liftF sp_shifted) :=
  Fun_dok (t := rd_shifted) F sc_shifted len_shifted (fun cv hcv A fs s H E hr hgd tk => (dss_cons (ds_if (dt_not (dt_val (d_cal C_can_shift (hr.mono (by decide)) hgd tk (da_cons (dv 1) (da_cons (dv 2) da_nil))))) (dss_one (ds_raise0 T.x_NoShift rfl tk (by rfl))) dss_nil)
  (dss_one (ds_ret (d_tup (da_cons (d_cal C_moved (hr.mono (by decide)) hgd tk (da_cons (d_ix (dv 1) d_int (fun _ _ => rfl)) (da_cons (dv 2) da_nil))) (da_cons (d_ix (dv 1) d_int (fun _ _ => rfl)) da_nil))))))) read_shifted
theorem sc_turned_to : FnScope ["row", "thing", "at"] ["row", "thing"] (defScope s_turned_to) := ⟨rfl, rfl, rfl, by decide +kernel, rfl, by decide +kernel, by decide +kernel⟩
theorem ok_turned_to {f : Addr} {fd : FuncData} (F : L2.Fun K "turned_to" "turned_to" s_turned_to f fd) (T : Txt P w K mg base) : FnG P w K mg base (L2.CX P w) 3 f fd ["row", "thing"] (liftF sp_turned_to) :=
  Fun_dok (t := rd_turned_to) F sc_turned_to len_turned_to (fun cv hcv A fs s H E hr hgd tk => (dss_cons (ds_set 2 sc_turned_to.nd (d_tupIdx (dv 0) (dv 1)))
  (dss_one (ds_ret (d_op op_addU sn_add (d_sl (dv 0) (do_some (d_op op_addU sn_add (dv 2) d_int)) do_none) (d_sl (dv 0) do_none (do_some (d_op op_addU sn_add (dv 2) d_int)))))))) read_turned_to
theorem sc_behind : FnScope ["house", "end"] ["house", "end"] (defScope s_behind) := ⟨rfl, rfl, rfl, by decide +kernel, rfl, by decide +kernel, by decide +kernel⟩
theorem ok_behind {f : Addr} {fd : FuncData} (F : L2.Fun K "behind" "behind" s_behind f fd) (T : Txt P w K mg base) (C_turned_to : Cal P w K mg base "turned_to" 3 ["row", "thing"] kw_turned_to (liftF sp_turned_to)) (C_ends_of : Cal P w K mg base "ends_of" 3 ["house", "room"] kw_ends_of (liftF sp_ends_of)) (C_room_of : Cal P w K mg base "room_of" 3 ["house", "end"] kw_room_of (liftF sp_room_of)) : FnG P w K mg base (L2.CX P w) 4 f fd ["house", "end"] (liftF sp_behind) :=
  Fun_dok (t := rd_behind) F sc_behind len_behind (fun cv hcv A fs s H E hr hgd tk => (dss_one (ds_ret (d_cal C_turned_to (hr.mono (by decide)) hgd tk (da_cons (d_cal C_ends_of (hr.mono (by decide)) hgd tk (da_cons (dv 0) (da_cons (d_cal C_room_of (hr.mono (by decide)) hgd tk (da_cons (dv 0) (da_cons (dv 1) da_nil))) da_nil))) (da_cons (dv 1) da_nil)))))) read_behind
theorem sc_first_laden : FnScope ["beads", "ends", "end"] ["beads", "ends"] (defScope s_first_laden) := ⟨rfl, rfl, rfl, by decide +kernel, rfl, by decide +kernel, by decide +kernel⟩
theorem ok_first_laden {f : Addr} {fd : FuncData} (F : L2.Fun K "first_laden" "first_laden" s_first_laden f fd) (T : Txt P w K mg base) : FnG P w K mg base (L2.CX P w) 3 f fd ["beads", "ends"] (liftF sp_first_laden) :=
  Fun_dok (t := rd_first_laden) F sc_first_laden len_first_laden (fun cv hcv A fs s H E hr hgd tk => (dss_one (ds_ret (d_ix (d_lc .bor rfl sc_first_laden.nd (di_seq (dv 1)) (blkOk_by (own := [("end", 2)]) (N := ["beads", "ends", "end"]) (sc := defScope s_first_laden) (by decide +kernel)) (fun _ _ _ _ _ => pg_name (i := 2) sc_first_laden.nd rfl (Or.inl rfl)) (fun _ _ _ _ _ => letI : Dl.XE := noXE; dts_one (dt_cmp op_gt sn_gt (d_ix (dv 0) (dv 2) (fun _ _ => rfl)) d_int (nomark _))) (fun _ _ _ _ _ => (letI : Dl.XE := noXE; (dv 2)))) d_int (fun _ _ => rfl))))) read_first_laden
theorem sc_next_end : FnScope ["house", "standing"] ["house", "standing"] (defScope s_next_end) := ⟨rfl, rfl, rfl, by decide +kernel, rfl, by decide +kernel, by decide +kernel⟩
theorem ok_next_end {f : Addr} {fd : FuncData} (F : L2.Fun K "next_end" "next_end" s_next_end f fd) (T : Txt P w K mg base) (C_first_laden : Cal P w K mg base "first_laden" 3 ["beads", "ends"] kw_first_laden (liftF sp_first_laden)) (C_behind : Cal P w K mg base "behind" 4 ["house", "end"] kw_behind (liftF sp_behind)) : FnG P w K mg base (L2.CX P w) 5 f fd ["house", "standing"] (liftF sp_next_end) :=
  Fun_dok (t := rd_next_end) F sc_next_end len_next_end (fun cv hcv A fs s H E hr hgd tk => (dss_one (ds_ret (d_cal C_first_laden (hr.mono (by decide)) hgd tk (da_cons (d_ix (dv 1) d_int (fun _ _ => rfl)) (da_cons (d_cal C_behind (hr.mono (by decide)) hgd tk (da_cons (dv 0) (da_cons (d_ix (dv 1) d_int (fun _ _ => rfl)) da_nil))) da_nil)))))) read_next_end
theorem sc_Carrier___init__ : FnScope ["self", "house", "standing"] ["self", "house", "standing"] (defScope s_Carrier___init__) := ⟨rfl, rfl, rfl, by decide +kernel, rfl, by decide +kernel, by decide +kernel⟩
theorem ok_Carrier___init__ {f : Addr} {fd : FuncData} (F : L2.Fun K "__init__" "Carrier.__init__" s_Carrier___init__ f fd) (T : Txt P w K mg base) : FnG P w K mg base (L2.CX P w) 3 f fd ["self", "house", "standing"] (liftF sp_Carrier___init__) :=
  Fun_dok (t := rd_Carrier___init__) F sc_Carrier___init__ len_Carrier___init__ (fun cv hcv A fs s H E hr hgd tk => (dss_cons (ds_stF T.i_Carrier (by decide +kernel) (dv 0) (dv 1))
  (dss_cons (ds_stF T.i_Carrier (by decide +kernel) (dv 0) (dv 2))
  (dss_cons (ds_stF T.i_Carrier (by decide +kernel) (dv 0) (d_root (d_lst da_nil)))
  (dss_cons (ds_stF T.i_Carrier (by decide +kernel) (dv 0) d_non)
  (dss_one (ds_stF T.i_Carrier (by decide +kernel) (dv 0) d_int))))))) read_Carrier___init__
theorem sc_Carrier___len__ : FnScope ["self"] ["self"] (defScope s_Carrier___len__) := ⟨rfl, rfl, rfl, by decide +kernel, rfl, by decide +kernel, by decide +kernel⟩
theorem ok_Carrier___len__ {f : Addr} {fd : FuncData} (F : L2.Fun K "__len__" "Carrier.__len__" s_Carrier___len__ f fd) (T : Txt P w K mg base) : FnG P w K mg base (L2.CX P w) 3 f fd ["self"] (liftF sp_Carrier___len__) :=
  Fun_dok (t := rd_Carrier___len__) F sc_Carrier___len__ len_Carrier___len__ (fun cv hcv A fs s H E hr hgd tk => (dss_one (ds_ret (d_callBV call_len sn_len (by rfl) T.b_len PySem.boot_len (da_cons (d_fld T.i_Carrier (by decide +kernel) (dv 0)) da_nil))))) read_Carrier___len__
theorem sc_Carrier_deed : FnScope ["self", "word", "end", "standing"] ["self", "word", "end", "standing"] (defScope s_Carrier_deed) := ⟨rfl, rfl, rfl, by decide +kernel, rfl, by decide +kernel, by decide +kernel⟩
theorem ok_Carrier_deed {f : Addr} {fd : FuncData} (F : L2.Fun K "deed" "Carrier.deed" s_Carrier_deed f fd) (T : Txt P w K mg base) : FnG P w K mg base (L2.CX P w) 3 f fd ["self", "word", "end", "standing"] (liftF sp_Carrier_deed) :=
  Fun_dok (t := rd_Carrier_deed) F sc_Carrier_deed len_Carrier_deed (fun cv hcv A fs s H E hr hgd tk => (dss_cons (ds_expr (d_mthR sn_app (pe_bm PySem.F.plainAttrs_list PySem.F.slot_list_append PySem.F.type_list_append mt_append (d_fld T.i_Carrier (by decide +kernel) (dv 0)) (da_cons (d_tup (da_cons (dv 1) (da_cons (dv 2) (da_cons (d_fld T.i_Carrier (by decide +kernel) (dv 0)) (da_cons (d_fld T.i_Carrier (by decide +kernel) (dv 0)) da_nil))))) da_nil))))
  (dss_one (ds_stF T.i_Carrier (by decide +kernel) (dv 0) (dv 3))))) read_Carrier_deed
theorem sc_Carrier_step : FnScope ["self", "end"] ["self"] (defScope s_Carrier_step) := ⟨rfl, rfl, rfl, by decide +kernel, rfl, by decide +kernel, by decide +kernel⟩
theorem ok_Carrier_step {f : Addr} {fd : FuncData} (F : L2.Fun K "step" "Carrier.step" s_Carrier_step f fd) (T : Txt P w K mg base) (C_Carrier_deed : MCal P w K mg base "Carrier" "deed" 3 ["self", "word", "end", "standing"] kw_Carrier_deed (liftF sp_Carrier_deed)) (C_went : Cal P w K mg base "went" 5 ["standing", "end"] kw_went (liftF sp_went)) (C_next_end : Cal P w K mg base "next_end" 5 ["house", "standing"] kw_next_end (liftF sp_next_end)) : FnG P w K mg base (L2.CX P w) 6 f fd ["self"] (liftF sp_Carrier_step) :=
  Fun_dok (t := rd_Carrier_step) F sc_Carrier_step len_Carrier_step (fun cv hcv A fs s H E hr hgd tk => (dss_cons (ds_set 1 sc_Carrier_step.nd (d_cal C_next_end (hr.mono (by decide)) hgd tk (da_cons (d_fld T.i_Carrier (by decide +kernel) (dv 0)) (da_cons (d_fld T.i_Carrier (by decide +kernel) (dv 0)) da_nil))))
  (dss_cons (ds_expr (d_meth C_Carrier_deed (hr.mono (by decide)) hgd tk (dv 0) (da_cons d_str (da_cons (dv 1) (da_cons (d_cal C_went (hr.mono (by decide)) hgd tk (da_cons (d_fld T.i_Carrier (by decide +kernel) (dv 0)) (da_cons (dv 1) da_nil))) da_nil)))))
  (dss_one (ds_ret (dv 1)))))) read_Carrier_step
theorem sc_Carrier_go : FnScope ["self", "end"] ["self", "end"] (defScope s_Carrier_go) := ⟨rfl, rfl, rfl, by decide +kernel, rfl, by decide +kernel, by decide +kernel⟩
theorem ok_Carrier_go {f : Addr} {fd : FuncData} (F : L2.Fun K "go" "Carrier.go" s_Carrier_go f fd) (T : Txt P w K mg base) (C_Carrier_deed : MCal P w K mg base "Carrier" "deed" 3 ["self", "word", "end", "standing"] kw_Carrier_deed (liftF sp_Carrier_deed)) (C_gone : Cal P w K mg base "gone" 7 ["house", "standing", "end"] kw_gone (liftF sp_gone)) : FnG P w K mg base (L2.CX P w) 8 f fd ["self", "end"] (liftF sp_Carrier_go) :=
  Fun_dok (t := rd_Carrier_go) F sc_Carrier_go len_Carrier_go (fun cv hcv A fs s H E hr hgd tk => (dss_one (ds_expr (d_meth C_Carrier_deed (hr.mono (by decide)) hgd tk (dv 0) (da_cons d_str (da_cons (dv 1) (da_cons (d_cal C_gone (hr.mono (by decide)) hgd tk (da_cons (d_fld T.i_Carrier (by decide +kernel) (dv 0)) (da_cons (d_fld T.i_Carrier (by decide +kernel) (dv 0)) (da_cons (dv 1) da_nil)))) da_nil))))))) read_Carrier_go
theorem sc_Carrier_about : FnScope ["self", "end"] ["self"] (defScope s_Carrier_about) := ⟨rfl, rfl, rfl, by decide +kernel, rfl, by decide +kernel, by decide +kernel⟩
theorem ok_Carrier_about {f : Addr} {fd : FuncData} (F : L2.Fun K "about" "Carrier.about" s_Carrier_about f fd) (T : Txt P w K mg base) (C_Carrier_deed : MCal P w K mg base "Carrier" "deed" 3 ["self", "word", "end", "standing"] kw_Carrier_deed (liftF sp_Carrier_deed)) (C_went : Cal P w K mg base "went" 5 ["standing", "end"] kw_went (liftF sp_went)) : FnG P w K mg base (L2.CX P w) 6 f fd ["self"] (liftF sp_Carrier_about) :=
  Fun_dok (t := rd_Carrier_about) F sc_Carrier_about len_Carrier_about (fun cv hcv A fs s H E hr hgd tk => (dss_cons (ds_set 1 sc_Carrier_about.nd (d_ix (d_fld T.i_Carrier (by decide +kernel) (dv 0)) d_int (fun _ _ => rfl)))
  (dss_one (ds_expr (d_meth C_Carrier_deed (hr.mono (by decide)) hgd tk (dv 0) (da_cons d_str (da_cons (dv 1) (da_cons (d_cal C_went (hr.mono (by decide)) hgd tk (da_cons (d_fld T.i_Carrier (by decide +kernel) (dv 0)) (da_cons (dv 1) da_nil))) da_nil)))))))) read_Carrier_about
theorem sc_Carrier_shift : FnScope ["self", "end"] ["self", "end"] (defScope s_Carrier_shift) := ⟨rfl, rfl, rfl, by decide +kernel, rfl, by decide +kernel, by decide +kernel⟩
theorem ok_Carrier_shift {f : Addr} {fd : FuncData} (F : L2.Fun K "shift" "Carrier.shift" s_Carrier_shift f fd) (T : Txt P w K mg base) (C_Carrier_deed : MCal P w K mg base "Carrier" "deed" 3 ["self", "word", "end", "standing"] kw_Carrier_deed (liftF sp_Carrier_deed)) (C_shifted : Cal P w K mg base "shifted" 5 ["house", "standing", "end"] kw_shifted (liftF sp_shifted)) (C_is_within : Cal P w K mg base "is_within" 4 ["thing", "least", "most"] kw_is_within (liftF sp_is_within)) (C_many_ends : Cal P w K mg base "many_ends" 3 ["house"] kw_many_ends (liftF sp_many_ends)) : FnG P w K mg base (L2.CX P w) 6 f fd ["self", "end"] (liftF sp_Carrier_shift) :=
  Fun_dok (t := rd_Carrier_shift) F sc_Carrier_shift len_Carrier_shift (fun cv hcv A fs s H E hr hgd tk => (dss_cons (ds_if (dt_not (dt_val (d_cal C_is_within (hr.mono (by decide)) hgd tk (da_cons (dv 1) (da_cons d_int (da_cons (d_op op_sub sn_sub (d_cal C_many_ends (hr.mono (by decide)) hgd tk (da_cons (d_fld T.i_Carrier (by decide +kernel) (dv 0)) da_nil)) d_int) da_nil)))))) (dss_one (ds_raise0 T.x_NoShift rfl tk (by rfl))) dss_nil)
  (dss_cons (ds_expr (d_meth C_Carrier_deed (hr.mono (by decide)) hgd tk (dv 0) (da_cons (d_globS (by rfl) T.g_SHIFT.choose_spec ⟨_, rfl⟩) (da_cons (dv 1) (da_cons (d_cal C_shifted (hr.mono (by decide)) hgd tk (da_cons (d_fld T.i_Carrier (by decide +kernel) (dv 0)) (da_cons (d_fld T.i_Carrier (by decide +kernel) (dv 0)) (da_cons (dv 1) da_nil)))) da_nil)))))
  (dss_one (ds_stF T.i_Carrier (by decide +kernel) (dv 0) d_non))))) read_Carrier_shift
theorem sc_Carrier_house : FnScope ["self"] ["self"] (defScope s_Carrier_house) := ⟨rfl, rfl, rfl, by decide +kernel, rfl, by decide +kernel, by decide +kernel⟩
theorem ok_Carrier_house {f : Addr} {fd : FuncData} (F : L2.Fun K "house" "Carrier.house" s_Carrier_house f fd) (T : Txt P w K mg base) : FnG P w K mg base (L2.CX P w) 3 f fd ["self"] (liftF sp_Carrier_house) :=
  Fun_dok (t := rd_Carrier_house) F sc_Carrier_house len_Carrier_house (fun cv hcv A fs s H E hr hgd tk => (dss_one (ds_ret (d_fld T.i_Carrier (by decide +kernel) (dv 0))))) read_Carrier_house
theorem sc_Carrier_standing : FnScope ["self"] ["self"] (defScope s_Carrier_standing) := ⟨rfl, rfl, rfl, by decide +kernel, rfl, by decide +kernel, by decide +kernel⟩
theorem ok_Carrier_standing {f : Addr} {fd : FuncData} (F : L2.Fun K "standing" "Carrier.standing" s_Carrier_standing f fd) (T : Txt P w K mg base) : FnG P w K mg base (L2.CX P w) 3 f fd ["self"] (liftF sp_Carrier_standing) :=
  Fun_dok (t := rd_Carrier_standing) F sc_Carrier_standing len_Carrier_standing (fun cv hcv A fs s H E hr hgd tk => (dss_one (ds_ret (d_fld T.i_Carrier (by decide +kernel) (dv 0))))) read_Carrier_standing
theorem sc_Carrier_trail : FnScope ["self", "deed"] ["self"] (defScope s_Carrier_trail) := ⟨rfl, rfl, rfl, by decide +kernel, rfl, by decide +kernel, by decide +kernel⟩
theorem ok_Carrier_trail {f : Addr} {fd : FuncData} (F : L2.Fun K "trail" "Carrier.trail" s_Carrier_trail f fd) (T : Txt P w K mg base) : FnG P w K mg base (L2.CX P w) 3 f fd ["self"] (liftF sp_Carrier_trail) :=
  Fun_dok (t := rd_Carrier_trail) F sc_Carrier_trail len_Carrier_trail (fun cv hcv A fs s H E hr hgd tk => (dss_one (ds_ret (d_lcR rfl sc_Carrier_trail.nd (d_fld T.i_Carrier (by decide +kernel) (dv 0)) (blkOk_by (own := [("deed", 1)]) (N := ["self", "deed"]) (sc := defScope s_Carrier_trail) (by decide +kernel)) (fun _ _ _ _ _ => pg_name (i := 1) sc_Carrier_trail.nd rfl (Or.inl rfl)) (fun _ _ _ _ _ => letI : Dl.XE := noXE; dts_one (dt_cmp (op_neU hr.units) sn_ne (d_ix (dv 1) d_int (fun _ _ => rfl)) (d_globS (by rfl) T.g_SHIFT.choose_spec ⟨_, rfl⟩) (nomark _))) (fun _ _ _ _ _ => (letI : Dl.XE := noXE; (d_ix (dv 1) d_int (fun _ _ => rfl)))))))) read_Carrier_trail
theorem sc_l_take : FnScope ["pen", "many", "cells", "here", "cell", "number", "digit"] ["pen", "many"] (defScope s_l_take) := ⟨rfl, rfl, rfl, by decide +kernel, rfl, by decide +kernel, by decide +kernel⟩
theorem ok_l_take {f : Addr} {fd : FuncData} (F : L2.Fun K "_law_take" "_law_take" s_l_take f fd) (T : Txt P w K mg base) : FnG P w K mg base (L2.CX P w) 3 f fd ["pen", "many"] (liftF sp_l_take) :=
  Fun_dok (t := rd_l_take) F sc_l_take len_l_take (fun cv hcv A fs s H E hr hgd tk => (dss_cons (ds_if (dt_cmp op_gt sn_gt (d_ixK (Nat.lt_of_le_of_lt (Nat.add_le_add_left (by decide : 1 ≤ 64) _) hr.units) (dv 0) d_str (fun _ _ => rfl)) d_int (nomark _)) (dss_cons (ds_set 6 sc_l_take.nd (d_op op_mod sn_mod (d_ixK (Nat.lt_of_le_of_lt (Nat.add_le_add_left (by decide : 1 ≤ 64) _) hr.units) (dv 0) d_str (fun _ _ => rfl)) (dv 1)))
  (dss_cons (ds_stK (Nat.lt_of_le_of_lt (Nat.add_le_add_left (by decide : 1 ≤ 64) _) hr.units) (dv 0) d_str (d_op op_fdiv sn_div (d_ixK (Nat.lt_of_le_of_lt (Nat.add_le_add_left (by decide : 1 ≤ 64) _) hr.units) (dv 0) d_str (fun _ _ => rfl)) (dv 1)))
  (dss_one (ds_ret (dv 6))))) dss_nil)
  (dss_cons (ds_set 2 sc_l_take.nd (d_ixK (Nat.lt_of_le_of_lt (Nat.add_le_add_left (by decide : 1 ≤ 64) _) hr.units) (dv 0) d_str (fun _ _ => rfl)))
  (dss_cons (ds_set 3 sc_l_take.nd (d_ixK (Nat.lt_of_le_of_lt (Nat.add_le_add_left (by decide : 1 ≤ 64) _) hr.units) (dv 0) d_str (fun _ _ => rfl)))
  (dss_cons (ds_stK (Nat.lt_of_le_of_lt (Nat.add_le_add_left (by decide : 1 ≤ 64) _) hr.units) (dv 0) d_str (d_op op_addU sn_add (dv 3) d_int))
  (dss_cons (ds_set 4 sc_l_take.nd (d_op op_addU sn_add (d_op op_mulU sn_mul d_int (dv 3)) d_int))
  (dss_cons (ds_if (dt_cmpV (op_neU hr.units) sn_ne (dv 2) (d_lst da_nil) (nomark _)) (dss_one (ds_set 4 sc_l_take.nd (d_ixR (dv 2) (d_op op_mod sn_mod (dv 3) (d_callBV call_len sn_len (by rfl) T.b_len PySem.boot_len (da_cons (dv 2) da_nil))) (fun _ _ => rfl)))) dss_nil)
  (dss_cons (ds_if (PW.pt (dw_and (dt_cmp op_lt sn_lt (dv 3) (d_callBV call_len sn_len (by rfl) T.b_len PySem.boot_len (da_cons (dv 2) da_nil)) (nomark _)) (dw_and1 (dt_cmp op_ge sn_ge (d_callB call_abs sn_abs (by rfl) T.b_abs (by decide +kernel) (da_cons (dv 4) da_nil)) (d_op op_pow sn_pow d_int d_int) (nomark _))))) (dss_cons (ds_stK (Nat.lt_of_le_of_lt (Nat.add_le_add_left (by decide : 1 ≤ 64) _) hr.units) (dv 0) d_str (d_op op_fdiv sn_div (d_callB call_abs sn_abs (by rfl) T.b_abs (by decide +kernel) (da_cons (dv 4) da_nil)) (dv 1)))
  (dss_one (ds_ret (d_op op_mod sn_mod (d_callB call_abs sn_abs (by rfl) T.b_abs (by decide +kernel) (da_cons (dv 4) da_nil)) (dv 1))))) dss_nil)
  (dss_cons (ds_set 5 sc_l_take.nd (d_op op_mod sn_mod (d_op op_pow sn_pow (d_op op_addU sn_add (d_op op_addU sn_add (d_op op_addU sn_add (d_op op_mod sn_mod (dv 4) d_int) (d_op op_mulU sn_mul (d_op op_mulU sn_mul d_int (dv 3)) (dv 3))) (d_op op_mulU sn_mul d_int (dv 3))) d_int) d_int) d_int))
  (dss_cons (ds_set 5 sc_l_take.nd (d_op op_mod sn_mod (d_op op_mulU sn_mul (d_op op_pow sn_pow (d_op op_addU sn_add (d_op op_addU sn_add (dv 5) (d_op op_mulU sn_mul d_int (dv 3))) d_int) d_int) (d_op op_addU sn_add (d_op op_mulU sn_mul d_int (dv 3)) d_int)) d_int))
  (dss_one (ds_ret (d_op op_mod sn_mod (d_op op_fdiv sn_div (dv 5) d_int) (dv 1)))))))))))))) read_l_take
theorem sc_l_house : FnScope ["pen", "top_rooms", "top_wires", "many", "shape", "found", "wire", "pair", "turn", "side", "k", "row"] ["pen", "top_rooms", "top_wires"] (defScope s_l_house) := ⟨rfl, rfl, rfl, by decide +kernel, rfl, by decide +kernel, by decide +kernel⟩
theorem ok_l_house {f : Addr} {fd : FuncData} (F : L2.Fun K "_law_house" "_law_house" s_l_house f fd) (T : Txt P w K mg base) (C_l_take : Cal P w K mg base "_law_take" 3 ["pen", "many"] kw_l_take (liftF sp_l_take)) : FnG P w K mg base (L2.CX P w) 4 f fd ["pen", "top_rooms", "top_wires"] (liftF sp_l_house) :=
  Fun_dok (t := rd_l_house) F sc_l_house len_l_house (fun cv hcv A fs s H E hr hgd tk => (dss_cons (ds_set 3 sc_l_house.nd (d_op op_addU sn_add d_int (d_cal C_l_take (hr.mono (by decide)) hgd tk (da_cons (dv 0) (da_cons (dv 1) da_nil)))))
  (dss_cons (ds_set 4 sc_l_house.nd (d_cal C_l_take (hr.mono (by decide)) hgd tk (da_cons (dv 0) (da_cons d_int da_nil))))
  (dss_cons (ds_lcF .bor (ps_lcW rfl sc_l_house.nd (j := 5) rfl rfl (sw_true rfl rfl rfl (by decide +kernel)) (di_rng1 (by rfl) T.b_range (dv 3)) (blkOk_by (own := [("k", 10)]) (N := ["pen", "top_rooms", "top_wires", "many", "shape", "found", "wire", "pair", "turn", "side", "k", "row"]) (sc := defScope s_l_house) (by decide +kernel)) (fun _ _ _ _ _ => pg_name (i := 10) sc_l_house.nd rfl (Or.inl rfl)) (fun _ _ _ _ _ => letI : Dl.XE := noXE; dts_nil) (fun _ _ _ _ _ => (letI : Dl.XE := noXE; (d_root (d_lst da_nil))))))
  (dss_cons (ds_for own_def rfl (di_rng1 (by rfl) T.b_range (d_op op_addU sn_add d_int (d_cal C_l_take (hr.mono (by decide)) hgd tk (da_cons (dv 0) (da_cons (dv 2) da_nil))))) (dg_name 6 sc_l_house.nd) (dss_cons (ds_set 7 sc_l_house.nd (d_tup (da_cons (d_cal C_l_take (hr.mono (by decide)) hgd tk (da_cons (dv 0) (da_cons (dv 3) da_nil))) (da_cons (d_cal C_l_take (hr.mono (by decide)) hgd tk (da_cons (dv 0) (da_cons (dv 3) da_nil))) da_nil))))
  (dss_cons (ds_if (PW.pt (dw_and (dt_cmp op_gt sn_gt (dv 4) d_int (nomark _)) (dw_and1 (dt_cmp op_lt sn_lt (d_op op_addU sn_add (dv 6) d_int) (dv 3) (nomark _))))) (dss_one (ds_set 7 sc_l_house.nd (d_tup (da_cons (d_op op_mod sn_mod (d_ix (dv 7) d_int (fun _ _ => rfl)) (d_op op_addU sn_add (dv 6) d_int)) (da_cons (d_op op_addU sn_add (dv 6) d_int) da_nil))))) dss_nil)
  (dss_cons (ds_set 8 sc_l_house.nd (d_cal C_l_take (hr.mono (by decide)) hgd tk (da_cons (dv 0) (da_cons d_int da_nil))))
  (dss_one (ds_for own_def rfl (di_rng1 (by rfl) T.b_range d_int) (dg_name 9 sc_l_house.nd) (dss_cons (ds_set 11 sc_l_house.nd (d_ix (dv 5) (d_ix (dv 7) (dv 9) (fun _ _ => rfl)) (fun _ _ => rfl)))
  (dss_one (ds_expr (d_mthR sn_ins (pe_bm PySem.F.plainAttrs_list PySem.F.slot_list_insert PySem.F.type_list_insert mt_insert (dv 11) (da_cons (d_cal C_l_take (hr.mono (by decide)) hgd tk (da_cons (dv 0) (da_cons (d_op op_addU sn_add (d_callBV call_len sn_len (by rfl) T.b_len PySem.boot_len (da_cons (dv 11) da_nil)) d_int) da_nil))) (da_cons (d_op op_addU sn_add (d_op op_mulU sn_mul d_int (dv 6)) (d_op op_mod sn_mod (d_op op_addU sn_add (dv 9) (dv 8)) d_int)) da_nil)))))))))))))
  (dss_one (ds_ret (d_callTy call_tupF sn_tup (by rfl) T.b_tuple (by decide +kernel) (da_cons (d_lc .bor rfl sc_l_house.nd (di_seq (dv 5)) (blkOk_by (own := [("row", 11)]) (N := ["pen", "top_rooms", "top_wires", "many", "shape", "found", "wire", "pair", "turn", "side", "k", "row"]) (sc := defScope s_l_house) (by decide +kernel)) (fun _ _ _ _ _ => pg_name (i := 11) sc_l_house.nd rfl (Or.inl rfl)) (fun _ _ _ _ _ => letI : Dl.XE := noXE; dts_nil) (fun _ _ _ _ _ => (letI : Dl.XE := noXE; (d_callTyV call_tupF sn_tup (by rfl) T.b_tuple (by decide +kernel) (da_cons (dv 11) da_nil))))) da_nil))))))))) read_l_house
theorem sc_l_stand : FnScope ["pen", "home", "top", "strewn", "wire", "laden", "many", "low", "tip", "row"] ["pen", "home", "top"] (defScope s_l_stand) := ⟨rfl, rfl, rfl, by decide +kernel, rfl, by decide +kernel, by decide +kernel⟩
theorem ok_l_stand {f : Addr} {fd : FuncData} (F : L2.Fun K "_law_stand" "_law_stand" s_l_stand f fd) (T : Txt P w K mg base) (C_l_take : Cal P w K mg base "_law_take" 3 ["pen", "many"] kw_l_take (liftF sp_l_take)) : FnG P w K mg base (L2.CX P w) 4 f fd ["pen", "home", "top"] (liftF sp_l_stand) :=
  Fun_dok (t := rd_l_stand) F sc_l_stand len_l_stand (fun cv hcv A fs s H E hr hgd tk => (dss_cons (ds_set 3 sc_l_stand.nd (d_lst da_nil))
  (dss_cons (ds_for own_def rfl (di_rng1 (by rfl) T.b_range (d_op op_fdiv sn_div (d_callB (cr_sum rfl) sn_sum (by rfl) T.b_sum (by decide +kernel) (da_cons (d_lc .bor rfl sc_l_stand.nd (di_seq (dv 1)) (blkOk_by (own := [("row", 9)]) (N := ["pen", "home", "top", "strewn", "wire", "laden", "many", "low", "tip", "row"]) (sc := defScope s_l_stand) (by decide +kernel)) (fun _ _ _ _ _ => pg_name (i := 9) sc_l_stand.nd rfl (Or.inl rfl)) (fun _ _ _ _ _ => letI : Dl.XE := noXE; dts_nil) (fun _ _ _ _ _ => (letI : Dl.XE := noXE; (d_callB call_len sn_len (by rfl) T.b_len PySem.boot_len (da_cons (dv 9) da_nil))))) da_nil)) d_int)) (dg_name 4 sc_l_stand.nd) (dss_cons (ds_set 6 sc_l_stand.nd (d_op op_addU sn_add d_int (d_cal C_l_take (hr.mono (by decide)) hgd tk (da_cons (dv 0) (da_cons (dv 2) da_nil)))))
  (dss_cons (ds_set 7 sc_l_stand.nd (d_ix (d_lst (da_cons d_int (da_cons (dv 6) (da_cons (d_cal C_l_take (hr.mono (by decide)) hgd tk (da_cons (dv 0) (da_cons (d_op op_addU sn_add (dv 6) d_int) da_nil))) da_nil)))) (d_cal C_l_take (hr.mono (by decide)) hgd tk (da_cons (dv 0) (da_cons d_int da_nil))) (fun _ _ => rfl)))
  (dss_one (ds_set 3 sc_l_stand.nd (d_op op_addU sn_add (dv 3) (d_lst (da_cons (dv 7) (da_cons (d_op op_sub sn_sub (dv 6) (dv 7)) da_nil)))))))))
  (dss_cons (ds_lcF .bor (ps_lcW rfl sc_l_stand.nd (j := 5) rfl rfl (sw_true rfl rfl rfl (by decide +kernel)) (di_rng1 (by rfl) T.b_range (d_callB call_len sn_len (by rfl) T.b_len PySem.boot_len (da_cons (dv 3) da_nil))) (blkOk_by (own := [("tip", 8)]) (N := ["pen", "home", "top", "strewn", "wire", "laden", "many", "low", "tip", "row"]) (sc := defScope s_l_stand) (by decide +kernel)) (fun _ _ _ _ _ => pg_name (i := 8) sc_l_stand.nd rfl (Or.inl rfl)) (fun _ _ _ _ _ => letI : Dl.XE := noXE; dts_one (dt_cmp op_gt sn_gt (d_ix (dv 3) (dv 8) (fun _ _ => rfl)) d_int (nomark _))) (fun _ _ _ _ _ => (letI : Dl.XE := noXE; (dv 8)))))
  (dss_one (ds_ret (d_tup (da_cons (d_callTy call_tupF sn_tup (by rfl) T.b_tuple (by decide +kernel) (da_cons (dv 3) da_nil)) (da_cons (d_ix (dv 5) (d_cal C_l_take (hr.mono (by decide)) hgd tk (da_cons (dv 0) (da_cons (d_callB call_len sn_len (by rfl) T.b_len PySem.boot_len (da_cons (dv 5) da_nil)) da_nil))) (fun _ _ => rfl)) da_nil))))))))) read_l_stand
theorem sc_l_next : FnScope ["home", "stand", "row", "spot", "k", "tip", "ends_so"] ["home", "stand"] (defScope s_l_next) := ⟨rfl, rfl, rfl, by decide +kernel, rfl, by decide +kernel, by decide +kernel⟩
theorem ok_l_next {f : Addr} {fd : FuncData} (F : L2.Fun K "_law_next" "_law_next" s_l_next f fd) (T : Txt P w K mg base) : FnG P w K mg base (L2.CX P w) 3 f fd ["home", "stand"] (liftF sp_l_next) :=
  Fun_dok (t := rd_l_next) F sc_l_next len_l_next (fun cv hcv A fs s H E hr hgd tk => (dss_cons (ds_set 2 sc_l_next.nd (d_ix (d_lc .bor rfl sc_l_next.nd (di_seq (dv 0)) (blkOk_by (own := [("ends_so", 6)]) (N := ["home", "stand", "row", "spot", "k", "tip", "ends_so"]) (sc := defScope s_l_next) (by decide +kernel)) (fun _ _ _ _ _ => pg_name (i := 6) sc_l_next.nd rfl (Or.inl rfl)) (fun _ _ _ _ _ => letI : Dl.XE := noXE; dts_one (dt_cmp op_in_seq sn_in (d_ix (dv 1) d_int (fun _ _ => rfl)) (dv 6) (by rfl))) (fun _ _ _ _ _ => (letI : Dl.XE := noXE; (dv 6)))) d_int (fun _ _ => rfl)))
  (dss_cons (ds_set 3 sc_l_next.nd (d_tupIdx (dv 2) (d_ix (dv 1) d_int (fun _ _ => rfl))))
  (dss_cons (ds_for own_def rfl (di_rng1 (by rfl) T.b_range (d_callB call_len sn_len (by rfl) T.b_len PySem.boot_len (da_cons (dv 2) da_nil))) (dg_name 4 sc_l_next.nd) (dss_cons (ds_set 5 sc_l_next.nd (d_ix (dv 2) (d_op op_mod sn_mod (d_op op_addU sn_add (d_op op_addU sn_add (dv 3) d_int) (dv 4)) (d_callB call_len sn_len (by rfl) T.b_len PySem.boot_len (da_cons (dv 2) da_nil))) (fun _ _ => rfl)))
  (dss_one (ds_if (dt_cmp op_gt sn_gt (d_ix (d_ix (dv 1) d_int (fun _ _ => rfl)) (dv 5) (fun _ _ => rfl)) d_int (nomark _)) (dss_one (ds_ret (dv 5))) dss_nil))))
  (dss_one (ds_ret d_non)))))) read_l_next
theorem sc_l_went : FnScope ["stand", "tip", "other", "row"] ["stand", "tip"] (defScope s_l_went) := ⟨rfl, rfl, rfl, by decide +kernel, rfl, by decide +kernel, by decide +kernel⟩
theorem ok_l_went {f : Addr} {fd : FuncData} (F : L2.Fun K "_law_went" "_law_went" s_l_went f fd) (T : Txt P w K mg base) : FnG P w K mg base (L2.CX P w) 3 f fd ["stand", "tip"] (liftF sp_l_went) :=
  Fun_dok (t := rd_l_went) F sc_l_went len_l_went (fun cv hcv A fs s H E hr hgd tk => (dss_cons (ds_set 2 sc_l_went.nd (d_if (dt_cmp (op_eqU hr.units) sn_eq (d_op op_mod sn_mod (dv 1) d_int) d_int (nomark _)) (d_op op_addU sn_add (dv 1) d_int) (d_op op_sub sn_sub (dv 1) d_int)))
  (dss_cons (ds_own 3 sc_l_went.nd (d_callTy call_list_of sn_list (by rfl) T.b_list (by decide +kernel) (da_cons (d_ix (dv 0) d_int (fun _ _ => rfl)) da_nil)))
  (dss_cons (ds_st (ps_asg (d_op op_sub sn_sub (d_ix (dv 3) (dv 1) (fun _ _ => rfl)) d_int) (pg_sub (pv 3) (dv 1) set_list)))
  (dss_cons (ds_st (ps_asg (d_op op_addU sn_add (d_ix (dv 3) (dv 2) (fun _ _ => rfl)) d_int) (pg_sub (pv 3) (dv 2) set_list)))
  (dss_one (ds_ret (d_tup (da_cons (d_callTy call_tupF sn_tup (by rfl) T.b_tuple (by decide +kernel) (da_cons (dv 3) da_nil)) (da_cons (dv 2) da_nil)))))))))) read_l_went
theorem sc_l_heard : FnScope ["call", "found", "caught", "e", "some"] ["call"] (defScope s_l_heard) := ⟨rfl, rfl, rfl, by decide +kernel, rfl, by decide +kernel, by decide +kernel⟩
theorem ok_l_heard {f : Addr} {fd : FuncData} (F : L2.Fun K "_law_heard" "_law_heard" s_l_heard f fd) (T : Txt P w K mg base) (hm : mg "_law_heard" = some (.ref f)) (hb : L2.Binds K fd ["call"] []) : CalL P w K mg base "_law_heard" "call" 3 sp_l_heard :=
  callL_of (t := rd_l_heard) F hm hb sc_l_heard rfl (by first | exact Or.inl rfl | exact Or.inr (Or.inl rfl)) (fun cv hcv A fs s H E v0 ask hr hgd tk hask => (dss_cons (ds_set 1 sc_l_heard.nd d_non)
  (dss_cons (ds_set 2 sc_l_heard.nd d_non)
  (dss_cons (ds_try_keep (i := 3) (j := 2) rfl rfl rfl rfl sc_l_heard.nd rfl (by first | exact .inl rfl | exact .inr rfl) (by first | exact .inl rfl | exact .inr rfl) T.c_CarryError (by rfl) (by decide) T.subs tk rfl (fun W pn xe tk po => letI : Dl.XE := Dl.XE.w W; (dss_one (ds_set 1 sc_l_heard.nd (hask W pn xe _ _ tk)))) (by decide) (by decide) (by decide) rfl)
  (dss_cons (ds_if (dt_cmp op_isN sn_isN (dv 2) d_non (nomark _)) (dss_one (ds_ret (d_lst (da_cons (dv 1) da_nil)))) dss_nil)
  (dss_cons (ds_set 4 sc_l_heard.nd (d_lst (da_cons (d_callB call_isXU (sn_isXV T.subs T.subsT) (by rfl) T.b_isinstance (by decide +kernel) (da_cons (dv 2) (da_cons (d_cls (by rfl) T.c_NoGoing) da_nil))) (da_cons (d_callB call_isXU (sn_isXV T.subs T.subsT) (by rfl) T.b_isinstance (by decide +kernel) (da_cons (dv 2) (da_cons (d_cls (by rfl) T.c_NoShift) da_nil))) (da_cons (d_callB call_isXU (sn_isXV T.subs T.subsT) (by rfl) T.b_isinstance (by decide +kernel) (da_cons (dv 2) (da_cons (d_cls (by rfl) T.c_NoBack) da_nil))) da_nil)))))
  (dss_cons (ds_set 4 sc_l_heard.nd (d_op op_addU sn_add (dv 4) (d_lst (da_cons (d_callB call_isXU (sn_isXV T.subs T.subsT) (by rfl) T.b_isinstance (by decide +kernel) (da_cons (dv 2) (da_cons (d_cls (by rfl) T.c_TooMany) da_nil))) (da_cons (d_callB call_isXU (sn_isXV T.subs T.subsT) (by rfl) T.b_isinstance (by decide +kernel) (da_cons (dv 2) (da_cons (d_tup (da_cons (d_cls (by rfl) T.c_NoPart) (da_cons (d_cls (by rfl) T.c_NoStanding) (da_cons (d_cls (by rfl) T.c_NoText) (da_cons (d_cls (by rfl) T.c_Clash) da_nil))))) da_nil))) da_nil)))))
  (dss_cons (ds_if (PW.pt (dw_or (dt_cmp (op_neU hr.units) sn_ne (d_mthQ sn_cnt (pe_bm PySem.F.plainAttrs_list PySem.F.slot_list_count PySem.F.type_list_count mt_countF (dv 4) (da_cons d_bl da_nil))) d_int (nomark _)) (dw_or1 (dt_not (dt_val (d_callB call_isXU (sn_isXV T.subs T.subsT) (by rfl) T.b_isinstance (by decide +kernel) (da_cons (dv 2) (da_cons (d_bltn (by rfl) T.b_ValueError (by decide +kernel)) da_nil)))))))) (dss_one (ds_ret d_str)) dss_nil)
  (dss_cons (ds_if (dt_val (d_ix (dv 4) d_int (fun _ _ => rfl))) (dss_one (ds_ret (d_op op_addU sn_add d_str (d_callB (call_repr hr.units hgd) sn_repr (by rfl) T.b_repr (by decide +kernel) (da_cons (d_xfld T.flds (dv 2)) da_nil))))) dss_nil)
  (dss_one (ds_ret (d_ix (d_lst (da_cons d_str (da_cons d_str (da_cons d_str (da_cons d_str (da_cons d_str da_nil)))))) (d_mthQ sn_idx (pe_bm PySem.F.plainAttrs_list PySem.F.slot_list_index PySem.F.type_list_index mt_index (dv 4) (da_cons d_bl da_nil))) (fun _ _ => rfl))))))))))))) read_l_heard
theorem sc_l_done : FnScope ["home", "stand", "deed", "there", "word", "tip", "row", "ends_so"] ["home", "stand", "deed"] (defScope s_l_done) := ⟨rfl, rfl, rfl, by decide +kernel, rfl, by decide +kernel, by decide +kernel⟩
theorem ok_l_done {f : Addr} {fd : FuncData} (F : L2.Fun K "_law_done" "_law_done" s_l_done f fd) (T : Txt P w K mg base) (C_l_went : Cal P w K mg base "_law_went" 3 ["stand", "tip"] kw_l_went (liftF sp_l_went)) (C_l_next : Cal P w K mg base "_law_next" 3 ["home", "stand"] kw_l_next (liftF sp_l_next)) : FnG P w K mg base (L2.CX P w) 4 f fd ["home", "stand", "deed"] (liftF sp_l_done) :=
  Fun_dok (t := rd_l_done) F sc_l_done len_l_done (fun cv hcv A fs s H E hr hgd tk => (dss_cons (ds_asg (dv 2) (dg_tup rfl (dgs_cons (dg_name 4 sc_l_done.nd) (dgs_cons (dg_name 5 sc_l_done.nd) dgs_nil))))
  (dss_cons (ds_set 3 sc_l_done.nd (d_and (d_callBV call_isi sn_isi (by rfl) T.b_isinstance (by decide +kernel) (da_cons (dv 5) (da_cons (d_bltn (by rfl) T.b_int (by decide +kernel)) da_nil))) (d_and (d_not (d_callBV call_isi sn_isi (by rfl) T.b_isinstance (by decide +kernel) (da_cons (dv 5) (da_cons (d_bltn (by rfl) T.b_bool (by decide +kernel)) da_nil)))) (d_one (d_chain op_le sn_le op_lt sn_lt d_int (dv 5) (d_callB call_len sn_len (by rfl) T.b_len PySem.boot_len (da_cons (d_ix (dv 1) d_int (fun _ _ => rfl)) da_nil)))))))
  (dss_cons (ds_if (dt_cmp (op_eqU hr.units) sn_eq (dv 4) d_str (nomark _)) (dss_one (ds_ret (d_cal C_l_went (hr.mono (by decide)) hgd tk (da_cons (dv 1) (da_cons (d_cal C_l_next (hr.mono (by decide)) hgd tk (da_cons (dv 0) (da_cons (dv 1) da_nil))) da_nil))))) dss_nil)
  (dss_cons (ds_if (dt_cmp (op_eqU hr.units) sn_eq (dv 4) d_str (nomark _)) (dss_one (ds_ret (d_cal C_l_went (hr.mono (by decide)) hgd tk (da_cons (dv 1) (da_cons (d_ix (dv 1) d_int (fun _ _ => rfl)) da_nil))))) dss_nil)
  (dss_cons (ds_if (dt_cmp (op_eqU hr.units) sn_eq (dv 4) d_str (nomark _)) (dss_cons (ds_set 6 sc_l_done.nd (d_ix (d_lc .bor rfl sc_l_done.nd (di_seq (dv 0)) (blkOk_by (own := [("ends_so", 7)]) (N := ["home", "stand", "deed", "there", "word", "tip", "row", "ends_so"]) (sc := defScope s_l_done) (by decide +kernel)) (fun _ _ _ _ _ => pg_name (i := 7) sc_l_done.nd rfl (Or.inl rfl)) (fun _ _ _ _ _ => letI : Dl.XE := noXE; dts_one (dt_cmp op_in_seq sn_in (d_ix (dv 1) d_int (fun _ _ => rfl)) (dv 7) (by rfl))) (fun _ _ _ _ _ => (letI : Dl.XE := noXE; (dv 7)))) d_int (fun _ _ => rfl)))
  (dss_one (ds_ret (d_if (PW.pt (dw_and (dt_val (dv 3)) (dw_and (dt_cmp op_in_seq sn_in (dv 5) (dv 6) (by rfl)) (dw_and1 (dt_cmp op_gt sn_gt (d_ix (d_ix (dv 1) d_int (fun _ _ => rfl)) (dv 5) (fun _ _ => rfl)) d_int (nomark _)))))) (d_cal C_l_went (hr.mono (by decide)) hgd tk (da_cons (dv 1) (da_cons (dv 5) da_nil))) d_str)))) dss_nil)
  (dss_cons (ds_if (PW.pt (dw_or (dt_not (dt_val (dv 3))) (dw_or1 (dt_cmp op_le sn_le (d_ix (d_ix (dv 1) d_int (fun _ _ => rfl)) (dv 5) (fun _ _ => rfl)) (d_callTy call_int1 sn_int (by rfl) T.b_int (by decide +kernel) (da_cons (d_cmp (op_eqU hr.units) sn_eq (dv 5) (d_ix (dv 1) d_int (fun _ _ => rfl)) (nomark _)) da_nil)) (nomark _))))) (dss_one (ds_ret d_str)) dss_nil)
  (dss_one (ds_ret (d_tup (da_cons (d_ix (d_cal C_l_went (hr.mono (by decide)) hgd tk (da_cons (dv 1) (da_cons (dv 5) da_nil))) d_int (fun _ _ => rfl)) (da_cons (d_ix (dv 1) d_int (fun _ _ => rfl)) da_nil)))))))))))) read_l_done
theorem sc_l_deed : FnScope ["pen", "stand", "tips", "odd", "tip"] ["pen", "stand"] (defScope s_l_deed) := ⟨rfl, rfl, rfl, by decide +kernel, rfl, by decide +kernel, by decide +kernel⟩
theorem ok_l_deed {f : Addr} {fd : FuncData} (F : L2.Fun K "_law_deed" "_law_deed" s_l_deed f fd) (T : Txt P w K mg base) (C_l_take : Cal P w K mg base "_law_take" 3 ["pen", "many"] kw_l_take (liftF sp_l_take)) : FnG P w K mg base (L2.CX P w) 4 f fd ["pen", "stand"] (liftF sp_l_deed) :=
  Fun_dok (t := rd_l_deed) F sc_l_deed len_l_deed (fun cv hcv A fs s H E hr hgd tk => (dss_cons (ds_set 2 sc_l_deed.nd (d_callB call_len sn_len (by rfl) T.b_len PySem.boot_len (da_cons (d_ix (dv 1) d_int (fun _ _ => rfl)) da_nil)))
  (dss_cons (ds_set 3 sc_l_deed.nd (d_ixM (d_lst (da_cons (dv 2) (da_cons (d_un un_neg sn_neg d_int) (da_cons d_bl (da_cons d_non (da_cons d_str (da_cons (d_tup (da_cons d_int da_nil)) (da_cons (d_op op_pow sn_pow d_int d_int) (da_cons (d_root (d_lst da_nil)) da_nil))))))))) (d_cal C_l_take (hr.mono (by decide)) hgd tk (da_cons (dv 0) (da_cons d_int da_nil))) (fun _ _ => rfl)))
  (dss_cons (ds_set 4 sc_l_deed.nd (d_ix (d_lst (da_cons (d_cal C_l_take (hr.mono (by decide)) hgd tk (da_cons (dv 0) (da_cons (dv 2) da_nil))) (da_cons (d_ix (dv 1) d_int (fun _ _ => rfl)) (da_cons (d_cal C_l_take (hr.mono (by decide)) hgd tk (da_cons (dv 0) (da_cons (dv 2) da_nil))) (da_cons (dv 3) da_nil))))) (d_cal C_l_take (hr.mono (by decide)) hgd tk (da_cons (dv 0) (da_cons d_int da_nil))) (fun _ _ => rfl)))
  (dss_one (ds_ret (d_tup (da_cons (d_ix (d_lst (da_cons d_str (da_cons d_str (da_cons d_str (da_cons d_str (da_cons d_str (da_cons d_str da_nil))))))) (d_cal C_l_take (hr.mono (by decide)) hgd tk (da_cons (dv 0) (da_cons d_int da_nil))) (fun _ _ => rfl)) (da_cons (dv 4) da_nil))))))))) read_l_deed
theorem sc_l_asked : FnScope ["made", "deed", "word", "tip"] ["made", "deed"] (defScope s_l_asked) := ⟨rfl, rfl, rfl, by decide +kernel, rfl, by decide +kernel, by decide +kernel⟩
theorem ok_l_asked {f : Addr} {fd : FuncData} (F : L2.Fun K "_law_asked" "_law_asked" s_l_asked f fd) (T : Txt P w K mg base) (C_Carrier_shift : MCal P w K mg base "Carrier" "shift" 6 ["self", "end"] kw_Carrier_shift (liftF sp_Carrier_shift)) (C_Carrier_go : MCal P w K mg base "Carrier" "go" 8 ["self", "end"] kw_Carrier_go (liftF sp_Carrier_go)) (C_Carrier_about : MCal P w K mg base "Carrier" "about" 6 ["self"] kw_Carrier_about (liftF sp_Carrier_about)) (C_Carrier_step : MCal P w K mg base "Carrier" "step" 6 ["self"] kw_Carrier_step (liftF sp_Carrier_step)) : FnG P w K mg base (L2.CX P w) 9 f fd ["made", "deed"] (liftF sp_l_asked) :=
  Fun_dok (t := rd_l_asked) F sc_l_asked len_l_asked (fun cv hcv A fs s H E hr hgd tk => (dss_cons (ds_asg (dv 1) (dg_tup rfl (dgs_cons (dg_name 2 sc_l_asked.nd) (dgs_cons (dg_name 3 sc_l_asked.nd) dgs_nil))))
  (dss_cons (ds_if (dt_cmp (op_eqU hr.units) sn_eq (dv 2) d_str (nomark _)) (dss_one (ds_ret (d_meth0 C_Carrier_step (hr.mono (by decide)) hgd tk (dv 0)))) dss_nil)
  (dss_cons (ds_if (dt_cmp (op_eqU hr.units) sn_eq (dv 2) d_str (nomark _)) (dss_one (ds_ret (d_meth0 C_Carrier_about (hr.mono (by decide)) hgd tk (dv 0)))) dss_nil)
  (dss_cons (ds_if (dt_cmp (op_eqU hr.units) sn_eq (dv 2) d_str (nomark _)) (dss_one (ds_ret (d_methK0 [0] ["end"] (by simp [kw_Carrier_go]) C_Carrier_go (hr.mono (by decide)) hgd tk (dv 0) (dk_cons (dv 3) dk_nil)))) dss_nil)
  (dss_one (ds_ret (d_methK0 [0] ["end"] (by simp [kw_Carrier_shift]) C_Carrier_shift (hr.mono (by decide)) hgd tk (dv 0) (dk_cons (dv 3) dk_nil))))))))) read_l_asked
theorem sc_l_tells : FnScope ["home", "stand", "deed"] ["home", "stand", "deed"] (defScope s_l_tells) := ⟨rfl, rfl, rfl, by decide +kernel, rfl, by decide +kernel, by decide +kernel⟩
theorem ok_l_tells {f : Addr} {fd : FuncData} (F : L2.Fun K "_law_tells" "_law_tells" s_l_tells f fd) (T : Txt P w K mg base) (C_l_next : Cal P w K mg base "_law_next" 3 ["home", "stand"] kw_l_next (liftF sp_l_next)) : FnG P w K mg base (L2.CX P w) 4 f fd ["home", "stand", "deed"] (liftF sp_l_tells) :=
  Fun_dok (t := rd_l_tells) F sc_l_tells len_l_tells (fun cv hcv A fs s H E hr hgd tk => (dss_cons (ds_if (dt_cmp (op_eqU hr.units) sn_eq (d_ix (dv 2) d_int (fun _ _ => rfl)) d_str (nomark _)) (dss_one (ds_ret (d_cal C_l_next (hr.mono (by decide)) hgd tk (da_cons (dv 0) (da_cons (dv 1) da_nil))))) dss_nil)
  (dss_one (ds_ret d_non)))) read_l_tells
theorem sc_l_right : FnScope ["made", "home", "stand", "tips", "many", "told"] ["made", "home", "stand", "tips", "many"] (defScope s_l_right) := ⟨rfl, rfl, rfl, by decide +kernel, rfl, by decide +kernel, by decide +kernel⟩
theorem ok_l_right {f : Addr} {fd : FuncData} (F : L2.Fun K "_law_right" "_law_right" s_l_right f fd) (T : Txt P w K mg base) (C_Carrier_trail : MCal P w K mg base "Carrier" "trail" 3 ["self"] kw_Carrier_trail (liftF sp_Carrier_trail)) (C_Carrier_standing : MCal P w K mg base "Carrier" "standing" 3 ["self"] kw_Carrier_standing (liftF sp_Carrier_standing)) (C_Carrier_house : MCal P w K mg base "Carrier" "house" 3 ["self"] kw_Carrier_house (liftF sp_Carrier_house)) (C_Carrier___len__ : MCal P w K mg base "Carrier" "__len__" 3 ["self"] kw_Carrier___len__ (liftF sp_Carrier___len__)) : FnG P w K mg base (L2.CX P w) 5 f fd ["made", "home", "stand", "tips", "many"] (liftF sp_l_right) :=
  Fun_dok (t := rd_l_right) F sc_l_right len_l_right (fun cv hcv A fs s H E hr hgd tk => (dss_cons (ds_if (PW.pt (dw_or (dt_cmp (op_neU hr.units) sn_ne (d_callB (call_repr hr.units hgd) sn_repr (by rfl) T.b_repr (by decide +kernel) (da_cons (d_meth0 C_Carrier_standing (hr.mono (by decide)) hgd tk (dv 0)) da_nil)) (d_callB (call_repr hr.units hgd) sn_repr (by rfl) T.b_repr (by decide +kernel) (da_cons (dv 2) da_nil)) (nomark _)) (dw_or (dt_cmp (op_neU hr.units) sn_ne (d_callB (call_repr hr.units hgd) sn_repr (by rfl) T.b_repr (by decide +kernel) (da_cons (d_meth0 C_Carrier_house (hr.mono (by decide)) hgd tk (dv 0)) da_nil)) (d_callB (call_repr hr.units hgd) sn_repr (by rfl) T.b_repr (by decide +kernel) (da_cons (dv 1) da_nil)) (nomark _)) (dw_or1 (dt_cmp (op_neU hr.units) sn_ne (d_lenI C_Carrier___len__ (hr.mono (by decide)) hgd T.b_len (dv 0)) (dv 4) (nomark _)))))) (dss_one (ds_ret d_bl)) dss_nil)
  (dss_cons (ds_own 5 sc_l_right.nd (d_meth0 C_Carrier_trail (hr.mono (by decide)) hgd tk (dv 0)))
  (dss_cons (ds_if (dt_cmp (op_neU hr.units) sn_ne (d_callB (call_repr hr.units hgd) sn_repr (by rfl) T.b_repr (by decide +kernel) (da_cons (dv 5) da_nil)) (d_callB (call_repr hr.units hgd) sn_repr (by rfl) T.b_repr (by decide +kernel) (da_cons (dv 3) da_nil)) (nomark _)) (dss_one (ds_ret d_bl)) dss_nil)
  (dss_cons (ds_app (pe_bm PySem.F.plainAttrs_list PySem.F.slot_list_append PySem.F.type_list_append mt_append (pv 5) (pa_cons d_int pa_nil)))
  (dss_one (ds_ret (d_cmp (op_eqU hr.units) sn_eq (d_callB (call_repr hr.units hgd) sn_repr (by rfl) T.b_repr (by decide +kernel) (da_cons (d_meth0 C_Carrier_trail (hr.mono (by decide)) hgd tk (dv 0)) da_nil)) (d_callB (call_repr hr.units hgd) sn_repr (by rfl) T.b_repr (by decide +kernel) (da_cons (dv 3) da_nil)) (nomark _))))))))) read_l_right
theorem sc_law : FnScope ["script", "pen", "home", "stand", "made", "tips", "many", "time", "deed", "later", "heard", "gone_by_so"] ["script"] (defScope s_law) := ⟨rfl, rfl, rfl, by decide +kernel, rfl, by decide +kernel, by decide +kernel⟩
theorem ok_law {f : Addr} {fd : FuncData} (F : L2.Fun K "law" "law" s_law f fd) (T : Txt P w K mg base) {cd : Addr} (TB : LamX.TabB base mg cd 517) (TBc : fd.code = .ref cd) (C_l_pen : Cal P w K mg base "_law_pen" 3 ["script"] kw_l_pen (spPen K PenAt0)) (C_l_right : Cal P w K mg base "_law_right" 5 ["made", "home", "stand", "tips", "many"] kw_l_right (liftF sp_l_right)) (C_l_take : Cal P w K mg base "_law_take" 3 ["pen", "many"] kw_l_take (liftF sp_l_take)) (C_l_next : Cal P w K mg base "_law_next" 3 ["home", "stand"] kw_l_next (liftF sp_l_next)) (C_l_tells : Cal P w K mg base "_law_tells" 4 ["home", "stand", "deed"] kw_l_tells (liftF sp_l_tells)) (C_l_heard : CalL P w K mg base "_law_heard" "call" 3 sp_l_heard) (C_l_asked : Cal P w K mg base "_law_asked" 9 ["made", "deed"] kw_l_asked (liftF sp_l_asked)) (C_l_done : Cal P w K mg base "_law_done" 4 ["home", "stand", "deed"] kw_l_done (liftF sp_l_done)) (C_l_deed : Cal P w K mg base "_law_deed" 4 ["pen", "stand"] kw_l_deed (liftF sp_l_deed)) (C_Carrier___init__ : NCal P w K mg base "Carrier" 3 ["self", "house", "standing"] kw_Carrier___init__ (liftF sp_Carrier___init__)) (C_l_stand : Cal P w K mg base "_law_stand" 4 ["pen", "home", "top"] kw_l_stand (liftF sp_l_stand)) (C_l_house : Cal P w K mg base "_law_house" 4 ["pen", "top_rooms", "top_wires"] kw_l_house (liftF sp_l_house)) : FnG P w K mg base CX0 12 f fd ["script"] (spLaw K (TT.map (·.1))) :=
  law_ok (t := rd_law) F sc_law (by rw [T.tt]) (fun cv hcv A fs s H E hr hgd tk => (pss_cons (ps_set (i := 1) sc_law.nd rfl (by first | exact .inl rfl | exact .inr rfl) (pe_calP C_l_pen (hr.mono (by decide)) hgd tk (pa_cons (pv 0) pa_nil)))
  (dss_cons (ds_set 2 sc_law.nd (d_cal C_l_house (hr.mono (by decide)) hgd tk (da_cons (dv 1) (da_cons d_int (da_cons d_int da_nil)))))
  (dss_cons (ds_set 3 sc_law.nd (d_cal C_l_stand (hr.mono (by decide)) hgd tk (da_cons (dv 1) (da_cons (dv 2) (da_cons d_int da_nil)))))
  (dss_cons (ds_set 4 sc_law.nd (d_makeK [1, 0] ["standing", "house"] (by simp [kw_Carrier___init__]) C_Carrier___init__ (hr.mono (by decide)) hgd tk (dk_cons (dv 3) (dk_cons (dv 2) dk_nil))))
  (dss_cons (ds_set 5 sc_law.nd (d_lst da_nil))
  (dss_cons (ds_set 6 sc_law.nd d_int)
  (dss_cons (ds_for own_def rfl (di_rng1 (by rfl) T.b_range (d_ix (d_lst (da_cons d_int (da_cons d_int (da_cons (d_cal C_l_take (hr.mono (by decide)) hgd tk (da_cons (dv 1) (da_cons d_int da_nil))) da_nil)))) (d_cal C_l_take (hr.mono (by decide)) hgd tk (da_cons (dv 1) (da_cons d_int da_nil))) (fun _ _ => rfl))) (dg_name 7 sc_law.nd) (dss_cons (ds_if (dt_not (dt_val (d_cal C_l_right (hr.mono (by decide)) hgd tk (da_cons (dv 4) (da_cons (dv 2) (da_cons (dv 3) (da_cons (dv 5) (da_cons (dv 6) da_nil)))))))) (dss_one (ds_ret d_bl)) dss_nil)
  (dss_cons (ds_set 8 sc_law.nd (d_cal C_l_deed (hr.mono (by decide)) hgd tk (da_cons (dv 1) (da_cons (dv 3) da_nil))))
  (dss_cons (ds_set 9 sc_law.nd (d_cal C_l_done (hr.mono (by decide)) hgd tk (da_cons (dv 2) (da_cons (dv 3) (da_cons (dv 8) da_nil)))))
  (dss_cons (ds_set 10 sc_law.nd (d_lam (j := 9) C_l_heard (hr.mono (by decide)) (by decide) hgd tk (by rfl) TB (hcv.symm.trans TBc) (by rw [T.tt]; exact .head _) (by rw [T.tt]; exact (fun q hq e => by simp only [TT, List.mem_cons, List.not_mem_nil, or_false] at hq; subst hq; rfl)) (LamX.lamS_by (by kernel_rfl)) rfl (fun _ _ _ _ _ => rfl) (fun A outer s H E f c' hr hgd tk => (d_cal C_l_asked (hr.mono (by decide)) hgd tk (da_cons (dv 4) (da_cons (dv 8) da_nil))))))
  (dss_one (ds_if (dt_val (d_callB call_isi sn_isi (by rfl) T.b_isinstance (by decide +kernel) (da_cons (dv 9) (da_cons (d_bltn (by rfl) T.b_str (by decide +kernel)) da_nil)))) (dss_one (ds_if (dt_cmp (op_neU hr.units) sn_ne (dv 10) (dv 9) (nomark _)) (dss_one (ds_ret d_bl)) dss_nil)) (dss_cons (ds_if (dt_cmp (op_neU hr.units) sn_ne (d_callB (call_repr hr.units hgd) sn_repr (by rfl) T.b_repr (by decide +kernel) (da_cons (dv 10) da_nil)) (d_callB (call_repr hr.units hgd) sn_repr (by rfl) T.b_repr (by decide +kernel) (da_cons (d_lst (da_cons (d_cal C_l_tells (hr.mono (by decide)) hgd tk (da_cons (dv 2) (da_cons (dv 3) (da_cons (dv 8) da_nil)))) da_nil)) da_nil)) (nomark _)) (dss_one (ds_ret d_bl)) dss_nil)
  (dss_cons (ds_set 11 sc_law.nd (d_dispG2 (by decide +kernel) (Nat.lt_of_le_of_lt (Nat.add_le_add_left (by decide : 1 ≤ 64) _) hr.units) (d_cal C_l_next (hr.mono (by decide)) hgd tk (da_cons (dv 2) (da_cons (dv 3) da_nil))) (d_ix (dv 3) d_int (fun _ _ => rfl)) (d_ix (dv 8) d_int (fun _ _ => rfl)) (d_ix (dv 8) d_int (fun _ _ => rfl)) ⟨rfl, rfl, rfl, rfl⟩))
  (dss_cons (ds_if (dt_cmp (op_neU hr.units) sn_ne (d_ix (dv 8) d_int (fun _ _ => rfl)) d_str (nomark _)) (dss_one (ds_set 5 sc_law.nd (d_op op_addU sn_add (dv 5) (d_lst (da_cons (dv 11) da_nil))))) dss_nil)
  (dss_cons (ds_set 6 sc_law.nd (d_op op_addU sn_add (dv 6) d_int))
  (dss_one (ds_set 3 sc_law.nd (dv 9))))))))))))))
  (dss_one (ds_ret (d_cal C_l_right (hr.mono (by decide)) hgd tk (da_cons (dv 4) (da_cons (dv 2) (da_cons (dv 3) (da_cons (dv 5) (da_cons (dv 6) da_nil)))))))))))))))) read_law
end
end Lw

set_option Elab.async false
set_option linter.all false
set_option maxRecDepth 100000
set_option maxHeartbeats 4000000
namespace Lw
open PySem PySem.Spec PyProof.Rows L2 Dl
theorem all_mk {l : PySem.W.OpenLaw} {w : World} {K : PySem.W.Frag} {h : Heap} {mg : Str → Option Value} {fa : Addr} (X : K.In h) (G : h.Ns mainGlobals mg) (hfa : mg "law" = some (.ref fa)) (tb : ∀ p ∈ TT.map (·.1), h.get? p = some (PySem.W.tabObj #[]))
    {f0 f1 f2 f3 f4 f5 f6 f7 f8 f9 f10 f11 f12 f13 f14 f15 f16 f17 f18 f19 f20 f21 f22 f23 f24 f25 f26 f27 f28 f29 f30 f31 f32 f33 f34 f35 f36 f37 f38 f39 f40 : Addr} {od0 an0 od1 an1 od2 an2 od3 an3 od4 an4 od5 an5 od6 an6 od7 an7 od8 an8 od9 an9 od10 an10 od11 an11 od12 an12 od13 an13 od14 an14 od15 an15 od16 an16 od17 an17 od18 an18 od19 an19 od20 an20 od21 an21 od22 an22 od23 an23 od24 an24 od25 an25 od26 an26 od27 an27 od28 an28 od29 an29 od30 an30 od31 an31 od32 an32 od33 an33 od34 an34 od35 an35 od36 an36 od37 an37 od38 an38 od39 an39 od40 an40 : Option Addr} {sl0 sl1 sl2 sl3 sl4 sl5 sl6 sl7 sl8 sl9 sl10 sl11 sl12 sl13 sl14 sl15 sl16 sl17 sl18 sl19 sl20 sl21 sl22 sl23 sl24 sl25 sl26 sl27 sl28 sl29 sl30 sl31 sl32 sl33 sl34 sl35 sl36 sl37 sl38 sl39 sl40 : Array (Option Value)}
    {oc0 kV0 dc0 pm0 ct0 oc1 kV1 dc1 pm1 ct1 oc2 kV2 dc2 pm2 ct2 oc3 kV3 dc3 pm3 ct3 oc4 kV4 dc4 pm4 ct4 oc5 kV5 dc5 pm5 ct5 oc6 kV6 dc6 pm6 ct6 oc7 kV7 dc7 pm7 ct7 oc8 kV8 dc8 pm8 ct8 oc9 kV9 dc9 pm9 ct9 oc10 kV10 dc10 pm10 ct10 oc11 kV11 dc11 pm11 ct11 oc12 kV12 dc12 pm12 ct12 oc13 kV13 dc13 pm13 ct13 oc14 kV14 dc14 pm14 ct14 oc15 kV15 dc15 pm15 ct15 oc16 kV16 dc16 pm16 ct16 oc17 kV17 dc17 pm17 ct17 oc18 kV18 dc18 pm18 ct18 oc19 kV19 dc19 pm19 ct19 oc20 kV20 dc20 pm20 ct20 oc21 kV21 dc21 pm21 ct21 oc22 kV22 dc22 pm22 ct22 oc23 kV23 dc23 pm23 ct23 oc24 kV24 dc24 pm24 ct24 oc25 kV25 dc25 pm25 ct25 oc26 kV26 dc26 pm26 ct26 oc27 kV27 dc27 pm27 ct27 oc28 kV28 dc28 pm28 ct28 oc29 kV29 dc29 pm29 ct29 oc30 kV30 dc30 pm30 ct30 oc31 kV31 dc31 pm31 ct31 oc32 kV32 dc32 pm32 ct32 oc33 kV33 dc33 pm33 ct33 oc34 kV34 dc34 pm34 ct34 oc35 kV35 dc35 pm35 ct35 oc36 kV36 dc36 pm36 ct36 oc37 kV37 dc37 pm37 ct37 oc38 kV38 dc38 pm38 ct38 oc39 kV39 dc39 pm39 ct39 oc40 kV40 dc40 pm40 ct40 : Value} {cd0 cd1 cd2 cd3 cd4 cd5 cd6 cd7 cd8 cd9 cd10 cd11 cd12 cd13 cd14 cd15 cd16 cd17 cd18 cd19 cd20 cd21 cd22 cd23 cd24 cd25 cd26 cd27 cd28 cd29 cd30 cd31 cd32 cd33 cd34 cd35 cd36 cd37 cd38 cd39 : Value}
    {ca40 : Addr}
    {K_Carrier K_CarryError K_NoStanding K_NoGoing K_TooMany K_NoPart K_Clash K_NoShift K_NoBack K_NoText : Addr} (ka_Carrier : PySem.W.nsIn K mainGlobals "Carrier" = some (some (.ref K_Carrier))) (ka_CarryError : PySem.W.nsIn K mainGlobals "CarryError" = some (some (.ref K_CarryError))) (ka_NoStanding : PySem.W.nsIn K mainGlobals "NoStanding" = some (some (.ref K_NoStanding))) (ka_NoGoing : PySem.W.nsIn K mainGlobals "NoGoing" = some (some (.ref K_NoGoing))) (ka_TooMany : PySem.W.nsIn K mainGlobals "TooMany" = some (some (.ref K_TooMany))) (ka_NoPart : PySem.W.nsIn K mainGlobals "NoPart" = some (some (.ref K_NoPart))) (ka_Clash : PySem.W.nsIn K mainGlobals "Clash" = some (some (.ref K_Clash))) (ka_NoShift : PySem.W.nsIn K mainGlobals "NoShift" = some (some (.ref K_NoShift))) (ka_NoBack : PySem.W.nsIn K mainGlobals "NoBack" = some (some (.ref K_NoBack))) (ka_NoText : PySem.W.nsIn K mainGlobals "NoText" = some (some (.ref K_NoText)))
    (j1_Carrier : PySem.W.plainGet K K_Carrier Str.empty = true) (j2_Carrier : PySem.W.hasDictIn K K_Carrier = true) (j3_Carrier : PySem.W.plainOver K K_Carrier = true) (j4_Carrier : PySem.W.findIn K (.ref K_Carrier) "__setattr__" = some (some (.builtin "object.__setattr__"))) (j5_Carrier : PySem.W.makesIn K K_Carrier = true) (j6_Carrier : PySem.W.keepIn K (.ref K_Carrier) = true)
    (na_Carrier_kept_house : PySem.W.findIn K (.ref K_Carrier) "kept_house" = some none)
    (na_Carrier_now_standing : PySem.W.findIn K (.ref K_Carrier) "now_standing" = some none)
    (na_Carrier_now_deeds : PySem.W.findIn K (.ref K_Carrier) "now_deeds" = some none)
    (na_Carrier_now_lot : PySem.W.findIn K (.ref K_Carrier) "now_lot" = some none)
    (na_Carrier_now_looked : PySem.W.findIn K (.ref K_Carrier) "now_looked" = some none)
    (a0 : PySem.W.nsIn K mainGlobals "is_whole" = some (some (.ref f0))) (l0 : K.lookup f0 = some ⟨oc0, od0, .func (PySem.W.fnOf "is_whole" "is_whole" (defArgs s_is_whole) (defBody s_is_whole) (defScope s_is_whole) .none kV0 dc0 pm0 an0 cd0 ct0), sl0⟩) (c0 : PySem.W.codeIn K cd0 "is_whole" = true) (k0 : PySem.W.keepIn K (.ref f0) = true)
    (a1 : PySem.W.nsIn K mainGlobals "is_within" = some (some (.ref f1))) (l1 : K.lookup f1 = some ⟨oc1, od1, .func (PySem.W.fnOf "is_within" "is_within" (defArgs s_is_within) (defBody s_is_within) (defScope s_is_within) .none kV1 dc1 pm1 an1 cd1 ct1), sl1⟩) (c1 : PySem.W.codeIn K cd1 "is_within" = true) (k1 : PySem.W.keepIn K (.ref f1) = true)
    (a2 : PySem.W.nsIn K mainGlobals "many_ends" = some (some (.ref f2))) (l2 : K.lookup f2 = some ⟨oc2, od2, .func (PySem.W.fnOf "many_ends" "many_ends" (defArgs s_many_ends) (defBody s_many_ends) (defScope s_many_ends) .none kV2 dc2 pm2 an2 cd2 ct2), sl2⟩) (c2 : PySem.W.codeIn K cd2 "many_ends" = true) (k2 : PySem.W.keepIn K (.ref f2) = true)
    (a3 : PySem.W.nsIn K mainGlobals "other_end" = some (some (.ref f3))) (l3 : K.lookup f3 = some ⟨oc3, od3, .func (PySem.W.fnOf "other_end" "other_end" (defArgs s_other_end) (defBody s_other_end) (defScope s_other_end) .none kV3 dc3 pm3 an3 cd3 ct3), sl3⟩) (c3 : PySem.W.codeIn K cd3 "other_end" = true) (k3 : PySem.W.keepIn K (.ref f3) = true)
    (a4 : PySem.W.nsIn K mainGlobals "ends_of" = some (some (.ref f4))) (l4 : K.lookup f4 = some ⟨oc4, od4, .func (PySem.W.fnOf "ends_of" "ends_of" (defArgs s_ends_of) (defBody s_ends_of) (defScope s_ends_of) .none kV4 dc4 pm4 an4 cd4 ct4), sl4⟩) (c4 : PySem.W.codeIn K cd4 "ends_of" = true) (k4 : PySem.W.keepIn K (.ref f4) = true)
    (a5 : PySem.W.nsIn K mainGlobals "room_of" = some (some (.ref f5))) (l5 : K.lookup f5 = some ⟨oc5, od5, .func (PySem.W.fnOf "room_of" "room_of" (defArgs s_room_of) (defBody s_room_of) (defScope s_room_of) .none kV5 dc5 pm5 an5 cd5 ct5), sl5⟩) (c5 : PySem.W.codeIn K cd5 "room_of" = true) (k5 : PySem.W.keepIn K (.ref f5) = true)
    (a6 : PySem.W.nsIn K mainGlobals "where" = some (some (.ref f6))) (l6 : K.lookup f6 = some ⟨oc6, od6, .func (PySem.W.fnOf "where" "where" (defArgs s_where) (defBody s_where) (defScope s_where) .none kV6 dc6 pm6 an6 cd6 ct6), sl6⟩) (c6 : PySem.W.codeIn K cd6 "where" = true) (k6 : PySem.W.keepIn K (.ref f6) = true)
    (a7 : PySem.W.nsIn K mainGlobals "moved" = some (some (.ref f7))) (l7 : K.lookup f7 = some ⟨oc7, od7, .func (PySem.W.fnOf "moved" "moved" (defArgs s_moved) (defBody s_moved) (defScope s_moved) .none kV7 dc7 pm7 an7 cd7 ct7), sl7⟩) (c7 : PySem.W.codeIn K cd7 "moved" = true) (k7 : PySem.W.keepIn K (.ref f7) = true)
    (a8 : PySem.W.nsIn K mainGlobals "may_go" = some (some (.ref f8))) (l8 : K.lookup f8 = some ⟨oc8, od8, .func (PySem.W.fnOf "may_go" "may_go" (defArgs s_may_go) (defBody s_may_go) (defScope s_may_go) .none kV8 dc8 pm8 an8 cd8 ct8), sl8⟩) (c8 : PySem.W.codeIn K cd8 "may_go" = true) (k8 : PySem.W.keepIn K (.ref f8) = true)
    (a9 : PySem.W.nsIn K mainGlobals "went" = some (some (.ref f9))) (l9 : K.lookup f9 = some ⟨oc9, od9, .func (PySem.W.fnOf "went" "went" (defArgs s_went) (defBody s_went) (defScope s_went) .none kV9 dc9 pm9 an9 cd9 ct9), sl9⟩) (c9 : PySem.W.codeIn K cd9 "went" = true) (k9 : PySem.W.keepIn K (.ref f9) = true)
    (a10 : PySem.W.nsIn K mainGlobals "can_go" = some (some (.ref f10))) (l10 : K.lookup f10 = some ⟨oc10, od10, .func (PySem.W.fnOf "can_go" "can_go" (defArgs s_can_go) (defBody s_can_go) (defScope s_can_go) .none kV10 dc10 pm10 an10 cd10 ct10), sl10⟩) (c10 : PySem.W.codeIn K cd10 "can_go" = true) (k10 : PySem.W.keepIn K (.ref f10) = true)
    (a11 : PySem.W.nsIn K mainGlobals "gone" = some (some (.ref f11))) (l11 : K.lookup f11 = some ⟨oc11, od11, .func (PySem.W.fnOf "gone" "gone" (defArgs s_gone) (defBody s_gone) (defScope s_gone) .none kV11 dc11 pm11 an11 cd11 ct11), sl11⟩) (c11 : PySem.W.codeIn K cd11 "gone" = true) (k11 : PySem.W.keepIn K (.ref f11) = true)
    (a12 : PySem.W.nsIn K mainGlobals "can_shift" = some (some (.ref f12))) (l12 : K.lookup f12 = some ⟨oc12, od12, .func (PySem.W.fnOf "can_shift" "can_shift" (defArgs s_can_shift) (defBody s_can_shift) (defScope s_can_shift) .none kV12 dc12 pm12 an12 cd12 ct12), sl12⟩) (c12 : PySem.W.codeIn K cd12 "can_shift" = true) (k12 : PySem.W.keepIn K (.ref f12) = true)
    (a13 : PySem.W.nsIn K mainGlobals "shifted" = some (some (.ref f13))) (l13 : K.lookup f13 = some ⟨oc13, od13, .func (PySem.W.fnOf "shifted" "shifted" (defArgs s_shifted) (defBody s_shifted) (defScope s_shifted) .none kV13 dc13 pm13 an13 cd13 ct13), sl13⟩) (c13 : PySem.W.codeIn K cd13 "shifted" = true) (k13 : PySem.W.keepIn K (.ref f13) = true)
    (a14 : PySem.W.nsIn K mainGlobals "turned_to" = some (some (.ref f14))) (l14 : K.lookup f14 = some ⟨oc14, od14, .func (PySem.W.fnOf "turned_to" "turned_to" (defArgs s_turned_to) (defBody s_turned_to) (defScope s_turned_to) .none kV14 dc14 pm14 an14 cd14 ct14), sl14⟩) (c14 : PySem.W.codeIn K cd14 "turned_to" = true) (k14 : PySem.W.keepIn K (.ref f14) = true)
    (a15 : PySem.W.nsIn K mainGlobals "behind" = some (some (.ref f15))) (l15 : K.lookup f15 = some ⟨oc15, od15, .func (PySem.W.fnOf "behind" "behind" (defArgs s_behind) (defBody s_behind) (defScope s_behind) .none kV15 dc15 pm15 an15 cd15 ct15), sl15⟩) (c15 : PySem.W.codeIn K cd15 "behind" = true) (k15 : PySem.W.keepIn K (.ref f15) = true)
    (a16 : PySem.W.nsIn K mainGlobals "first_laden" = some (some (.ref f16))) (l16 : K.lookup f16 = some ⟨oc16, od16, .func (PySem.W.fnOf "first_laden" "first_laden" (defArgs s_first_laden) (defBody s_first_laden) (defScope s_first_laden) .none kV16 dc16 pm16 an16 cd16 ct16), sl16⟩) (c16 : PySem.W.codeIn K cd16 "first_laden" = true) (k16 : PySem.W.keepIn K (.ref f16) = true)
    (a17 : PySem.W.nsIn K mainGlobals "next_end" = some (some (.ref f17))) (l17 : K.lookup f17 = some ⟨oc17, od17, .func (PySem.W.fnOf "next_end" "next_end" (defArgs s_next_end) (defBody s_next_end) (defScope s_next_end) .none kV17 dc17 pm17 an17 cd17 ct17), sl17⟩) (c17 : PySem.W.codeIn K cd17 "next_end" = true) (k17 : PySem.W.keepIn K (.ref f17) = true)
    (a18 : PySem.W.findIn K (.ref K_Carrier) "__init__" = some (some (.ref f18))) (l18 : K.lookup f18 = some ⟨oc18, od18, .func (PySem.W.fnOf "__init__" "Carrier.__init__" (defArgs s_Carrier___init__) (defBody s_Carrier___init__) (defScope s_Carrier___init__) .none kV18 dc18 pm18 an18 cd18 ct18), sl18⟩) (c18 : PySem.W.codeIn K cd18 "Carrier.__init__" = true) (k18 : PySem.W.keepIn K (.ref f18) = true) (q18 : PySem.W.isFn K (.ref f18) = true)
    (a19 : PySem.W.findIn K (.ref K_Carrier) "__len__" = some (some (.ref f19))) (l19 : K.lookup f19 = some ⟨oc19, od19, .func (PySem.W.fnOf "__len__" "Carrier.__len__" (defArgs s_Carrier___len__) (defBody s_Carrier___len__) (defScope s_Carrier___len__) .none kV19 dc19 pm19 an19 cd19 ct19), sl19⟩) (c19 : PySem.W.codeIn K cd19 "Carrier.__len__" = true) (k19 : PySem.W.keepIn K (.ref f19) = true) (q19 : PySem.W.isFn K (.ref f19) = true)
    (a20 : PySem.W.findIn K (.ref K_Carrier) "deed" = some (some (.ref f20))) (l20 : K.lookup f20 = some ⟨oc20, od20, .func (PySem.W.fnOf "deed" "Carrier.deed" (defArgs s_Carrier_deed) (defBody s_Carrier_deed) (defScope s_Carrier_deed) .none kV20 dc20 pm20 an20 cd20 ct20), sl20⟩) (c20 : PySem.W.codeIn K cd20 "Carrier.deed" = true) (k20 : PySem.W.keepIn K (.ref f20) = true) (q20 : PySem.W.isFn K (.ref f20) = true)
    (a21 : PySem.W.findIn K (.ref K_Carrier) "step" = some (some (.ref f21))) (l21 : K.lookup f21 = some ⟨oc21, od21, .func (PySem.W.fnOf "step" "Carrier.step" (defArgs s_Carrier_step) (defBody s_Carrier_step) (defScope s_Carrier_step) .none kV21 dc21 pm21 an21 cd21 ct21), sl21⟩) (c21 : PySem.W.codeIn K cd21 "Carrier.step" = true) (k21 : PySem.W.keepIn K (.ref f21) = true) (q21 : PySem.W.isFn K (.ref f21) = true)
    (a22 : PySem.W.findIn K (.ref K_Carrier) "go" = some (some (.ref f22))) (l22 : K.lookup f22 = some ⟨oc22, od22, .func (PySem.W.fnOf "go" "Carrier.go" (defArgs s_Carrier_go) (defBody s_Carrier_go) (defScope s_Carrier_go) .none kV22 dc22 pm22 an22 cd22 ct22), sl22⟩) (c22 : PySem.W.codeIn K cd22 "Carrier.go" = true) (k22 : PySem.W.keepIn K (.ref f22) = true) (q22 : PySem.W.isFn K (.ref f22) = true)
    (a23 : PySem.W.findIn K (.ref K_Carrier) "about" = some (some (.ref f23))) (l23 : K.lookup f23 = some ⟨oc23, od23, .func (PySem.W.fnOf "about" "Carrier.about" (defArgs s_Carrier_about) (defBody s_Carrier_about) (defScope s_Carrier_about) .none kV23 dc23 pm23 an23 cd23 ct23), sl23⟩) (c23 : PySem.W.codeIn K cd23 "Carrier.about" = true) (k23 : PySem.W.keepIn K (.ref f23) = true) (q23 : PySem.W.isFn K (.ref f23) = true)
    (a24 : PySem.W.findIn K (.ref K_Carrier) "shift" = some (some (.ref f24))) (l24 : K.lookup f24 = some ⟨oc24, od24, .func (PySem.W.fnOf "shift" "Carrier.shift" (defArgs s_Carrier_shift) (defBody s_Carrier_shift) (defScope s_Carrier_shift) .none kV24 dc24 pm24 an24 cd24 ct24), sl24⟩) (c24 : PySem.W.codeIn K cd24 "Carrier.shift" = true) (k24 : PySem.W.keepIn K (.ref f24) = true) (q24 : PySem.W.isFn K (.ref f24) = true)
    (a25 : PySem.W.findIn K (.ref K_Carrier) "house" = some (some (.ref f25))) (l25 : K.lookup f25 = some ⟨oc25, od25, .func (PySem.W.fnOf "house" "Carrier.house" (defArgs s_Carrier_house) (defBody s_Carrier_house) (defScope s_Carrier_house) .none kV25 dc25 pm25 an25 cd25 ct25), sl25⟩) (c25 : PySem.W.codeIn K cd25 "Carrier.house" = true) (k25 : PySem.W.keepIn K (.ref f25) = true) (q25 : PySem.W.isFn K (.ref f25) = true)
    (a26 : PySem.W.findIn K (.ref K_Carrier) "standing" = some (some (.ref f26))) (l26 : K.lookup f26 = some ⟨oc26, od26, .func (PySem.W.fnOf "standing" "Carrier.standing" (defArgs s_Carrier_standing) (defBody s_Carrier_standing) (defScope s_Carrier_standing) .none kV26 dc26 pm26 an26 cd26 ct26), sl26⟩) (c26 : PySem.W.codeIn K cd26 "Carrier.standing" = true) (k26 : PySem.W.keepIn K (.ref f26) = true) (q26 : PySem.W.isFn K (.ref f26) = true)
    (a27 : PySem.W.findIn K (.ref K_Carrier) "trail" = some (some (.ref f27))) (l27 : K.lookup f27 = some ⟨oc27, od27, .func (PySem.W.fnOf "trail" "Carrier.trail" (defArgs s_Carrier_trail) (defBody s_Carrier_trail) (defScope s_Carrier_trail) .none kV27 dc27 pm27 an27 cd27 ct27), sl27⟩) (c27 : PySem.W.codeIn K cd27 "Carrier.trail" = true) (k27 : PySem.W.keepIn K (.ref f27) = true) (q27 : PySem.W.isFn K (.ref f27) = true)
    (a28 : PySem.W.nsIn K mainGlobals "_law_pen" = some (some (.ref f28))) (l28 : K.lookup f28 = some ⟨oc28, od28, .func (PySem.W.fnOf "_law_pen" "_law_pen" (defArgs s_l_pen) (defBody s_l_pen) (defScope s_l_pen) .none kV28 dc28 pm28 an28 cd28 ct28), sl28⟩) (c28 : PySem.W.codeIn K cd28 "_law_pen" = true) (k28 : PySem.W.keepIn K (.ref f28) = true)
    (a29 : PySem.W.nsIn K mainGlobals "_law_take" = some (some (.ref f29))) (l29 : K.lookup f29 = some ⟨oc29, od29, .func (PySem.W.fnOf "_law_take" "_law_take" (defArgs s_l_take) (defBody s_l_take) (defScope s_l_take) .none kV29 dc29 pm29 an29 cd29 ct29), sl29⟩) (c29 : PySem.W.codeIn K cd29 "_law_take" = true) (k29 : PySem.W.keepIn K (.ref f29) = true)
    (a30 : PySem.W.nsIn K mainGlobals "_law_house" = some (some (.ref f30))) (l30 : K.lookup f30 = some ⟨oc30, od30, .func (PySem.W.fnOf "_law_house" "_law_house" (defArgs s_l_house) (defBody s_l_house) (defScope s_l_house) .none kV30 dc30 pm30 an30 cd30 ct30), sl30⟩) (c30 : PySem.W.codeIn K cd30 "_law_house" = true) (k30 : PySem.W.keepIn K (.ref f30) = true)
    (a31 : PySem.W.nsIn K mainGlobals "_law_stand" = some (some (.ref f31))) (l31 : K.lookup f31 = some ⟨oc31, od31, .func (PySem.W.fnOf "_law_stand" "_law_stand" (defArgs s_l_stand) (defBody s_l_stand) (defScope s_l_stand) .none kV31 dc31 pm31 an31 cd31 ct31), sl31⟩) (c31 : PySem.W.codeIn K cd31 "_law_stand" = true) (k31 : PySem.W.keepIn K (.ref f31) = true)
    (a32 : PySem.W.nsIn K mainGlobals "_law_next" = some (some (.ref f32))) (l32 : K.lookup f32 = some ⟨oc32, od32, .func (PySem.W.fnOf "_law_next" "_law_next" (defArgs s_l_next) (defBody s_l_next) (defScope s_l_next) .none kV32 dc32 pm32 an32 cd32 ct32), sl32⟩) (c32 : PySem.W.codeIn K cd32 "_law_next" = true) (k32 : PySem.W.keepIn K (.ref f32) = true)
    (a33 : PySem.W.nsIn K mainGlobals "_law_went" = some (some (.ref f33))) (l33 : K.lookup f33 = some ⟨oc33, od33, .func (PySem.W.fnOf "_law_went" "_law_went" (defArgs s_l_went) (defBody s_l_went) (defScope s_l_went) .none kV33 dc33 pm33 an33 cd33 ct33), sl33⟩) (c33 : PySem.W.codeIn K cd33 "_law_went" = true) (k33 : PySem.W.keepIn K (.ref f33) = true)
    (a34 : PySem.W.nsIn K mainGlobals "_law_heard" = some (some (.ref f34))) (l34 : K.lookup f34 = some ⟨oc34, od34, .func (PySem.W.fnOf "_law_heard" "_law_heard" (defArgs s_l_heard) (defBody s_l_heard) (defScope s_l_heard) .none kV34 dc34 pm34 an34 cd34 ct34), sl34⟩) (c34 : PySem.W.codeIn K cd34 "_law_heard" = true) (k34 : PySem.W.keepIn K (.ref f34) = true)
    (a35 : PySem.W.nsIn K mainGlobals "_law_done" = some (some (.ref f35))) (l35 : K.lookup f35 = some ⟨oc35, od35, .func (PySem.W.fnOf "_law_done" "_law_done" (defArgs s_l_done) (defBody s_l_done) (defScope s_l_done) .none kV35 dc35 pm35 an35 cd35 ct35), sl35⟩) (c35 : PySem.W.codeIn K cd35 "_law_done" = true) (k35 : PySem.W.keepIn K (.ref f35) = true)
    (a36 : PySem.W.nsIn K mainGlobals "_law_deed" = some (some (.ref f36))) (l36 : K.lookup f36 = some ⟨oc36, od36, .func (PySem.W.fnOf "_law_deed" "_law_deed" (defArgs s_l_deed) (defBody s_l_deed) (defScope s_l_deed) .none kV36 dc36 pm36 an36 cd36 ct36), sl36⟩) (c36 : PySem.W.codeIn K cd36 "_law_deed" = true) (k36 : PySem.W.keepIn K (.ref f36) = true)
    (a37 : PySem.W.nsIn K mainGlobals "_law_asked" = some (some (.ref f37))) (l37 : K.lookup f37 = some ⟨oc37, od37, .func (PySem.W.fnOf "_law_asked" "_law_asked" (defArgs s_l_asked) (defBody s_l_asked) (defScope s_l_asked) .none kV37 dc37 pm37 an37 cd37 ct37), sl37⟩) (c37 : PySem.W.codeIn K cd37 "_law_asked" = true) (k37 : PySem.W.keepIn K (.ref f37) = true)
    (a38 : PySem.W.nsIn K mainGlobals "_law_tells" = some (some (.ref f38))) (l38 : K.lookup f38 = some ⟨oc38, od38, .func (PySem.W.fnOf "_law_tells" "_law_tells" (defArgs s_l_tells) (defBody s_l_tells) (defScope s_l_tells) .none kV38 dc38 pm38 an38 cd38 ct38), sl38⟩) (c38 : PySem.W.codeIn K cd38 "_law_tells" = true) (k38 : PySem.W.keepIn K (.ref f38) = true)
    (a39 : PySem.W.nsIn K mainGlobals "_law_right" = some (some (.ref f39))) (l39 : K.lookup f39 = some ⟨oc39, od39, .func (PySem.W.fnOf "_law_right" "_law_right" (defArgs s_l_right) (defBody s_l_right) (defScope s_l_right) .none kV39 dc39 pm39 an39 cd39 ct39), sl39⟩) (c39 : PySem.W.codeIn K cd39 "_law_right" = true) (k39 : PySem.W.keepIn K (.ref f39) = true)
    (a40 : PySem.W.nsIn K mainGlobals "law" = some (some (.ref f40))) (l40 : K.lookup f40 = some ⟨oc40, od40, .func (PySem.W.fnOf "law" "law" (defArgs s_law) (defBody s_law) (defScope s_law) .none kV40 dc40 pm40 an40 (.ref ca40) ct40), sl40⟩) (c40 : PySem.W.codeIn K (.ref ca40) "law" = true) (k40 : PySem.W.keepIn K (.ref f40) = true)
    (tc40 : PySem.W.codeHdIn K ca40 517 = true) (tn40 : K.lookup 517 = none)
    (z_ValueError : PySem.W.nsIn K mainGlobals "ValueError" = some none)
    (z_abs : PySem.W.nsIn K mainGlobals "abs" = some none)
    (z_bool : PySem.W.nsIn K mainGlobals "bool" = some none)
    (z_int : PySem.W.nsIn K mainGlobals "int" = some none)
    (z_isinstance : PySem.W.nsIn K mainGlobals "isinstance" = some none)
    (z_len : PySem.W.nsIn K mainGlobals "len" = some none)
    (z_list : PySem.W.nsIn K mainGlobals "list" = some none)
    (z_range : PySem.W.nsIn K mainGlobals "range" = some none)
    (z_repr : PySem.W.nsIn K mainGlobals "repr" = some none)
    (z_sorted : PySem.W.nsIn K mainGlobals "sorted" = some none)
    (z_str : PySem.W.nsIn K mainGlobals "str" = some none)
    (z_sum : PySem.W.nsIn K mainGlobals "sum" = some none)
    (z_tuple : PySem.W.nsIn K mainGlobals "tuple" = some none)
    {t_SHIFT : Tok} (y_SHIFT : PySem.W.nsIn K mainGlobals "SHIFT" = some (some (.str (Str.ofString "shift") t_SHIFT)))
    (e1_NoGoing : PySem.W.findIn K (.ref K_NoGoing) "__getattribute__" = some (some (.builtin "BaseException.__getattribute__"))) (e2_NoGoing : PySem.W.findIn K (.ref K_NoGoing) "__getattr__" = some none) (e3_NoGoing : PySem.W.subIn K (.ref K_NoGoing) (.type "BaseException") = some true) (e4_NoGoing : PySem.W.hasDictIn K K_NoGoing = true) (e5_NoGoing : PySem.W.findIn K (.ref K_NoGoing) "__class__" = some (some (.builtin "object.__class__"))) (e6_NoGoing : PySem.W.specialIn K (.builtin "object.__class__") "__get__" = some (some (.builtin "getset_descriptor.__get__"))) (e7_NoGoing : PySem.W.takesIn K (.builtin "object.__class__") = some true) (e8_NoGoing : PySem.W.mroIn K K_NoGoing (.type "object") = some true)
    (e1_NoShift : PySem.W.findIn K (.ref K_NoShift) "__getattribute__" = some (some (.builtin "BaseException.__getattribute__"))) (e2_NoShift : PySem.W.findIn K (.ref K_NoShift) "__getattr__" = some none) (e3_NoShift : PySem.W.subIn K (.ref K_NoShift) (.type "BaseException") = some true) (e4_NoShift : PySem.W.hasDictIn K K_NoShift = true) (e5_NoShift : PySem.W.findIn K (.ref K_NoShift) "__class__" = some (some (.builtin "object.__class__"))) (e6_NoShift : PySem.W.specialIn K (.builtin "object.__class__") "__get__" = some (some (.builtin "getset_descriptor.__get__"))) (e7_NoShift : PySem.W.takesIn K (.builtin "object.__class__") = some true) (e8_NoShift : PySem.W.mroIn K K_NoShift (.type "object") = some true)
    (u0 : PySem.W.kitOne K (.ref K_NoGoing) (.ref K_CarryError) = some true) (v0 : PySem.W.exmOne K (.ref K_NoGoing) (.ref K_CarryError) = some true)
    (u1 : PySem.W.kitOne K (.ref K_NoGoing) (.ref K_NoStanding) = some false) (v1 : PySem.W.exmOne K (.ref K_NoGoing) (.ref K_NoStanding) = some false)
    (u2 : PySem.W.kitOne K (.ref K_NoGoing) (.ref K_NoGoing) = some true) (v2 : PySem.W.exmOne K (.ref K_NoGoing) (.ref K_NoGoing) = some true)
    (u3 : PySem.W.kitOne K (.ref K_NoGoing) (.ref K_TooMany) = some false) (v3 : PySem.W.exmOne K (.ref K_NoGoing) (.ref K_TooMany) = some false)
    (u4 : PySem.W.kitOne K (.ref K_NoGoing) (.ref K_NoPart) = some false) (v4 : PySem.W.exmOne K (.ref K_NoGoing) (.ref K_NoPart) = some false)
    (u5 : PySem.W.kitOne K (.ref K_NoGoing) (.ref K_Clash) = some false) (v5 : PySem.W.exmOne K (.ref K_NoGoing) (.ref K_Clash) = some false)
    (u6 : PySem.W.kitOne K (.ref K_NoGoing) (.ref K_NoShift) = some false) (v6 : PySem.W.exmOne K (.ref K_NoGoing) (.ref K_NoShift) = some false)
    (u7 : PySem.W.kitOne K (.ref K_NoGoing) (.ref K_NoBack) = some false) (v7 : PySem.W.exmOne K (.ref K_NoGoing) (.ref K_NoBack) = some false)
    (u8 : PySem.W.kitOne K (.ref K_NoGoing) (.ref K_NoText) = some false) (v8 : PySem.W.exmOne K (.ref K_NoGoing) (.ref K_NoText) = some false)
    (u9 : PySem.W.kitOne K (.ref K_NoShift) (.ref K_CarryError) = some true) (v9 : PySem.W.exmOne K (.ref K_NoShift) (.ref K_CarryError) = some true)
    (u10 : PySem.W.kitOne K (.ref K_NoShift) (.ref K_NoStanding) = some false) (v10 : PySem.W.exmOne K (.ref K_NoShift) (.ref K_NoStanding) = some false)
    (u11 : PySem.W.kitOne K (.ref K_NoShift) (.ref K_NoGoing) = some false) (v11 : PySem.W.exmOne K (.ref K_NoShift) (.ref K_NoGoing) = some false)
    (u12 : PySem.W.kitOne K (.ref K_NoShift) (.ref K_TooMany) = some false) (v12 : PySem.W.exmOne K (.ref K_NoShift) (.ref K_TooMany) = some false)
    (u13 : PySem.W.kitOne K (.ref K_NoShift) (.ref K_NoPart) = some false) (v13 : PySem.W.exmOne K (.ref K_NoShift) (.ref K_NoPart) = some false)
    (u14 : PySem.W.kitOne K (.ref K_NoShift) (.ref K_Clash) = some false) (v14 : PySem.W.exmOne K (.ref K_NoShift) (.ref K_Clash) = some false)
    (u15 : PySem.W.kitOne K (.ref K_NoShift) (.ref K_NoShift) = some true) (v15 : PySem.W.exmOne K (.ref K_NoShift) (.ref K_NoShift) = some true)
    (u16 : PySem.W.kitOne K (.ref K_NoShift) (.ref K_NoBack) = some false) (v16 : PySem.W.exmOne K (.ref K_NoShift) (.ref K_NoBack) = some false)
    (u17 : PySem.W.kitOne K (.ref K_NoShift) (.ref K_NoText) = some false) (v17 : PySem.W.exmOne K (.ref K_NoShift) (.ref K_NoText) = some false)
    (us0 : PySem.W.kitOne K (.ref K_NoGoing) (.type "ValueError") = some true)
    (us1 : PySem.W.kitOne K (.ref K_NoShift) (.type "ValueError") = some true)
    {nm_NoGoing q_NoGoing : Str} {N_NoGoing : Addr} {bs_NoGoing bm_NoGoing sub_NoGoing : List Value} {sn_NoGoing : List Str} {ab_NoGoing : Bool} {col_NoGoing : Option Bool} {dd_NoGoing : Option Addr} {m0_NoGoing m1_NoGoing m2_NoGoing m3_NoGoing m5_NoGoing : Option Value} {fI_NoGoing : Addr} {odI_NoGoing anI_NoGoing : Option Addr} {slI_NoGoing : Array (Option Value)} {ocI_NoGoing kVI_NoGoing dcI_NoGoing pmI_NoGoing cdI_NoGoing ctI_NoGoing : Value}
    (o1_NoGoing : K.lookup K_NoGoing = some (excClassObj nm_NoGoing q_NoGoing K_NoGoing N_NoGoing bs_NoGoing bm_NoGoing true sn_NoGoing sub_NoGoing ab_NoGoing col_NoGoing dd_NoGoing m0_NoGoing m1_NoGoing m2_NoGoing m3_NoGoing m5_NoGoing "ValueError.__new__")) (o2_NoGoing : PySem.HandSPX.refsVE bm_NoGoing = true) (o3_NoGoing : PySem.W.findIn K (.ref K_NoGoing) "__setattr__" = some (some (.builtin "object.__setattr__"))) (o4_NoGoing : PySem.W.typeIn K (.ref K_NoGoing) = some (.type "type")) (o5_NoGoing : PySem.W.keepIn K (.ref K_NoGoing) = true) (o6_NoGoing : PySem.W.findIn K (.ref K_NoGoing) "at" = some none) (o7_NoGoing : PySem.W.findIn K (.ref K_NoGoing) "__init__" = some (some (.ref fI_NoGoing))) (o8_NoGoing : PySem.W.typeIn K (.ref fI_NoGoing) = some (.type "function"))
    (o9_NoGoing : K.lookup fI_NoGoing = some ⟨ocI_NoGoing, odI_NoGoing, .func (PySem.W.fnOf "__init__" "NoGoing.__init__" (defArgs (inClass (topS 4) 0)) (defBody (inClass (topS 4) 0)) (defScope (inClass (topS 4) 0)) .none kVI_NoGoing dcI_NoGoing pmI_NoGoing anI_NoGoing cdI_NoGoing ctI_NoGoing), slI_NoGoing⟩) (o10_NoGoing : PySem.W.codeIn K cdI_NoGoing "NoGoing.__init__" = true) (o11_NoGoing : PySem.W.keepIn K (.ref fI_NoGoing) = true)
    (p1_NoShift : PySem.W.excIn K K_NoShift [.type "ValueError", .type "Exception", .type "BaseException", .type "object"] "ValueError.__new__" = true) (p2_NoShift : PySem.W.keepIn K (.ref K_NoShift) = true) (p3_NoShift : PySem.W.subIn K (.ref K_NoShift) (.type "BaseException") = some true) (p4_NoShift : PySem.W.typeIn K (.ref K_NoShift) = some (.type "type"))
    : ∃ (fd : FuncData) (cs : List (Addr × Addr)), (∀ (s : Shared) (v : Value), BindsTo s fd ⟨[v], []⟩ [("script", v)]) ∧ (∀ q ∈ cs, h.get? q.2 = some (PySem.W.tabObj #[])) ∧ (∀ q ∈ cs, K.lookup q.2 = none) ∧ (∀ q ∈ cs, PySem.W.CodeHd h q.1 q.2) ∧ ∀ base : Heap, K.In base → base.Ns mainGlobals mg → (∀ q ∈ cs, LamX.TabB base mg q.1 q.2) → FnG l.prog w K mg base CX0 12 fa fd ["script"] (spLaw K (cs.map (·.2))) := by
  have e := hfa.symm.trans (PySem.W.mg_of X G a40)
  cases e
  letI : XP := ⟨TT, mg⟩
  have F0 := fun_mk (st := s_is_whole) l0 c0 k0
  have F1 := fun_mk (st := s_is_within) l1 c1 k1
  have F2 := fun_mk (st := s_many_ends) l2 c2 k2
  have F3 := fun_mk (st := s_other_end) l3 c3 k3
  have F4 := fun_mk (st := s_ends_of) l4 c4 k4
  have F5 := fun_mk (st := s_room_of) l5 c5 k5
  have F6 := fun_mk (st := s_where) l6 c6 k6
  have F7 := fun_mk (st := s_moved) l7 c7 k7
  have F8 := fun_mk (st := s_may_go) l8 c8 k8
  have F9 := fun_mk (st := s_went) l9 c9 k9
  have F10 := fun_mk (st := s_can_go) l10 c10 k10
  have F11 := fun_mk (st := s_gone) l11 c11 k11
  have F12 := fun_mk (st := s_can_shift) l12 c12 k12
  have F13 := fun_mk (st := s_shifted) l13 c13 k13
  have F14 := fun_mk (st := s_turned_to) l14 c14 k14
  have F15 := fun_mk (st := s_behind) l15 c15 k15
  have F16 := fun_mk (st := s_first_laden) l16 c16 k16
  have F17 := fun_mk (st := s_next_end) l17 c17 k17
  have F18 := fun_mk (st := s_Carrier___init__) l18 c18 k18
  have F19 := fun_mk (st := s_Carrier___len__) l19 c19 k19
  have F20 := fun_mk (st := s_Carrier_deed) l20 c20 k20
  have F21 := fun_mk (st := s_Carrier_step) l21 c21 k21
  have F22 := fun_mk (st := s_Carrier_go) l22 c22 k22
  have F23 := fun_mk (st := s_Carrier_about) l23 c23 k23
  have F24 := fun_mk (st := s_Carrier_shift) l24 c24 k24
  have F25 := fun_mk (st := s_Carrier_house) l25 c25 k25
  have F26 := fun_mk (st := s_Carrier_standing) l26 c26 k26
  have F27 := fun_mk (st := s_Carrier_trail) l27 c27 k27
  have F28 := fun_mk (st := s_l_pen) l28 c28 k28
  have F29 := fun_mk (st := s_l_take) l29 c29 k29
  have F30 := fun_mk (st := s_l_house) l30 c30 k30
  have F31 := fun_mk (st := s_l_stand) l31 c31 k31
  have F32 := fun_mk (st := s_l_next) l32 c32 k32
  have F33 := fun_mk (st := s_l_went) l33 c33 k33
  have F34 := fun_mk (st := s_l_heard) l34 c34 k34
  have F35 := fun_mk (st := s_l_done) l35 c35 k35
  have F36 := fun_mk (st := s_l_deed) l36 c36 k36
  have F37 := fun_mk (st := s_l_asked) l37 c37 k37
  have F38 := fun_mk (st := s_l_tells) l38 c38 k38
  have F39 := fun_mk (st := s_l_right) l39 c39 k39
  have F40 := fun_mk (st := s_law) l40 c40 k40
  refine ⟨PySem.W.fnOf "law" "law" (defArgs s_law) (defBody s_law) (defScope s_law) .none kV40 dc40 pm40 an40 (.ref ca40) ct40, [(ca40, 517)], fun s v => .of_eq rfl, (fun q hq => by cases List.mem_singleton.mp hq; exact tb 517 (by decide)), (fun q hq => by cases List.mem_singleton.mp hq; exact tn40), (fun q hq => by cases List.mem_singleton.mp hq; exact PySem.W.codeHd_of_K X tc40), fun base kb nsb TBs => ?_⟩
  have OX_NoGoing : OexC K K_NoGoing := ⟨⟨_, _, _, _, _, _, _, _, _, _, _, _, _, _, _, o1_NoGoing, o2_NoGoing⟩, o3_NoGoing, e3_NoGoing, o4_NoGoing, o5_NoGoing⟩
  have FI_NoGoing := fun_mk (st := (inClass (topS 4) 0)) o9_NoGoing o10_NoGoing o11_NoGoing
  have XC_NoGoing : ExCls l.prog w K mg base "NoGoing" "at" := ⟨K_NoGoing, fI_NoGoing, _, ["self", "at"], PySem.W.mg_of X G ka_NoGoing, PySem.W.mg_of X G ka_NoGoing, OX_NoGoing, o7_NoGoing, o8_NoGoing, ok_init (kk := 0) FI_NoGoing ⟨rfl, rfl, rfl, by decide +kernel, rfl, by decide +kernel, by decide +kernel⟩ rfl OX_NoGoing o6_NoGoing (fun cv A fs s H E => pss_one (ps_ost (pv 0) (pv 1))), FI_NoGoing.binds (ps := ["self", "at"]) fun _ _ _ _ _ _ us hl => match us, hl with | [_, _], _ => rfl⟩
  have CLS_Carrier : Cls K K_Carrier := ⟨j1_Carrier, j2_Carrier, j3_Carrier, j4_Carrier⟩
  have IC_Carrier : InsC K "Carrier" ["kept_house", "now_standing", "now_deeds", "now_lot", "now_looked"] := ⟨K_Carrier, PySem.W.mg_of X G ka_Carrier, CLS_Carrier, by
    intro f hf
    simp only [List.mem_cons, List.not_mem_nil, or_false] at hf
    rcases hf with rfl | rfl | rfl | rfl | rfl
    · exact na_Carrier_kept_house
    · exact na_Carrier_now_standing
    · exact na_Carrier_now_deeds
    · exact na_Carrier_now_lot
    · exact na_Carrier_now_looked⟩
  have EC_NoGoing : ExcC K K_NoGoing := ⟨e1_NoGoing, e2_NoGoing, e3_NoGoing, e4_NoGoing, e5_NoGoing, e6_NoGoing, e7_NoGoing, e8_NoGoing⟩
  have EC_NoShift : ExcC K K_NoShift := ⟨e1_NoShift, e2_NoShift, e3_NoShift, e4_NoShift, e5_NoShift, e6_NoShift, e7_NoShift, e8_NoShift⟩
  have SB : SubsOk K SUBS := by
    intro t ht
    simp only [SUBS, List.mem_cons, List.not_mem_nil, or_false] at ht
    rcases ht with rfl | rfl | rfl | rfl | rfl | rfl | rfl | rfl | rfl | rfl | rfl | rfl | rfl | rfl | rfl | rfl | rfl | rfl
    · exact ⟨K_NoGoing, K_CarryError, PySem.W.mg_of X G ka_NoGoing, PySem.W.mg_of X G ka_CarryError, EC_NoGoing, u0, v0⟩
    · exact ⟨K_NoGoing, K_NoStanding, PySem.W.mg_of X G ka_NoGoing, PySem.W.mg_of X G ka_NoStanding, EC_NoGoing, u1, v1⟩
    · exact ⟨K_NoGoing, K_NoGoing, PySem.W.mg_of X G ka_NoGoing, PySem.W.mg_of X G ka_NoGoing, EC_NoGoing, u2, v2⟩
    · exact ⟨K_NoGoing, K_TooMany, PySem.W.mg_of X G ka_NoGoing, PySem.W.mg_of X G ka_TooMany, EC_NoGoing, u3, v3⟩
    · exact ⟨K_NoGoing, K_NoPart, PySem.W.mg_of X G ka_NoGoing, PySem.W.mg_of X G ka_NoPart, EC_NoGoing, u4, v4⟩
    · exact ⟨K_NoGoing, K_Clash, PySem.W.mg_of X G ka_NoGoing, PySem.W.mg_of X G ka_Clash, EC_NoGoing, u5, v5⟩
    · exact ⟨K_NoGoing, K_NoShift, PySem.W.mg_of X G ka_NoGoing, PySem.W.mg_of X G ka_NoShift, EC_NoGoing, u6, v6⟩
    · exact ⟨K_NoGoing, K_NoBack, PySem.W.mg_of X G ka_NoGoing, PySem.W.mg_of X G ka_NoBack, EC_NoGoing, u7, v7⟩
    · exact ⟨K_NoGoing, K_NoText, PySem.W.mg_of X G ka_NoGoing, PySem.W.mg_of X G ka_NoText, EC_NoGoing, u8, v8⟩
    · exact ⟨K_NoShift, K_CarryError, PySem.W.mg_of X G ka_NoShift, PySem.W.mg_of X G ka_CarryError, EC_NoShift, u9, v9⟩
    · exact ⟨K_NoShift, K_NoStanding, PySem.W.mg_of X G ka_NoShift, PySem.W.mg_of X G ka_NoStanding, EC_NoShift, u10, v10⟩
    · exact ⟨K_NoShift, K_NoGoing, PySem.W.mg_of X G ka_NoShift, PySem.W.mg_of X G ka_NoGoing, EC_NoShift, u11, v11⟩
    · exact ⟨K_NoShift, K_TooMany, PySem.W.mg_of X G ka_NoShift, PySem.W.mg_of X G ka_TooMany, EC_NoShift, u12, v12⟩
    · exact ⟨K_NoShift, K_NoPart, PySem.W.mg_of X G ka_NoShift, PySem.W.mg_of X G ka_NoPart, EC_NoShift, u13, v13⟩
    · exact ⟨K_NoShift, K_Clash, PySem.W.mg_of X G ka_NoShift, PySem.W.mg_of X G ka_Clash, EC_NoShift, u14, v14⟩
    · exact ⟨K_NoShift, K_NoShift, PySem.W.mg_of X G ka_NoShift, PySem.W.mg_of X G ka_NoShift, EC_NoShift, u15, v15⟩
    · exact ⟨K_NoShift, K_NoBack, PySem.W.mg_of X G ka_NoShift, PySem.W.mg_of X G ka_NoBack, EC_NoShift, u16, v16⟩
    · exact ⟨K_NoShift, K_NoText, PySem.W.mg_of X G ka_NoShift, PySem.W.mg_of X G ka_NoText, EC_NoShift, u17, v17⟩
  have SBT : SubsTOk K SUBST := by
    intro t ht
    simp only [SUBST, List.mem_cons, List.not_mem_nil, or_false] at ht
    rcases ht with rfl | rfl
    · exact ⟨K_NoGoing, PySem.W.mg_of X G ka_NoGoing, EC_NoGoing, us0⟩
    · exact ⟨K_NoShift, PySem.W.mg_of X G ka_NoShift, EC_NoShift, us1⟩
  have FL : FldsOk K FLDS := by
    intro t ht
    simp only [FLDS, List.mem_cons, List.not_mem_nil, or_false] at ht
    subst ht
    · exact ⟨K_NoGoing, PySem.W.mg_of X G ka_NoGoing, ⟨e1_NoGoing, e2_NoGoing, e3_NoGoing, e4_NoGoing⟩, o6_NoGoing⟩
  have T : Txt l.prog w K mg base := ⟨rfl, PySem.W.mg_none_of X G z_ValueError, PySem.W.mg_none_of X G z_abs, PySem.W.mg_none_of X G z_bool, PySem.W.mg_none_of X G z_int, PySem.W.mg_none_of X G z_isinstance, PySem.W.mg_none_of X G z_len, PySem.W.mg_none_of X G z_list, PySem.W.mg_none_of X G z_range, PySem.W.mg_none_of X G z_repr, PySem.W.mg_none_of X G z_sorted, PySem.W.mg_none_of X G z_str, PySem.W.mg_none_of X G z_sum, PySem.W.mg_none_of X G z_tuple, ⟨_, PySem.W.mg_of X G y_SHIFT⟩, ⟨_, PySem.W.mg_of X G ka_CarryError, PySem.W.mg_of X G ka_CarryError⟩, ⟨_, PySem.W.mg_of X G ka_NoStanding, PySem.W.mg_of X G ka_NoStanding⟩, ⟨_, PySem.W.mg_of X G ka_NoGoing, PySem.W.mg_of X G ka_NoGoing⟩, ⟨_, PySem.W.mg_of X G ka_TooMany, PySem.W.mg_of X G ka_TooMany⟩, ⟨_, PySem.W.mg_of X G ka_NoPart, PySem.W.mg_of X G ka_NoPart⟩, ⟨_, PySem.W.mg_of X G ka_Clash, PySem.W.mg_of X G ka_Clash⟩, ⟨_, PySem.W.mg_of X G ka_NoShift, PySem.W.mg_of X G ka_NoShift⟩, ⟨_, PySem.W.mg_of X G ka_NoBack, PySem.W.mg_of X G ka_NoBack⟩, ⟨_, PySem.W.mg_of X G ka_NoText, PySem.W.mg_of X G ka_NoText⟩, XC_NoGoing, ⟨K_NoShift, PySem.W.mg_of X G ka_NoShift, PySem.W.mg_of X G ka_NoShift, p1_NoShift, p2_NoShift, p3_NoShift, p4_NoShift⟩, IC_Carrier, SB, SBT, FL⟩
  have B28 := F28.binds (ps := ["script"]) fun _ _ _ _ _ _ us hl => match us, hl with | [_], _ => rfl
  have C_l_pen : Cal l.prog w K mg base "_law_pen" 3 ["script"] kw_l_pen (spPen K PenAt0) := ⟨f28, _, PySem.W.mg_of X G a28, F28.kp, B28, fun q hq => by simp only [kw_l_pen, List.not_mem_nil] at hq, (ok_pen F28 T.b_list )⟩
  have B27 := F27.binds (ps := ["self"]) fun _ _ _ _ _ _ us hl => match us, hl with | [_], _ => rfl
  have C_Carrier_trail : MCal l.prog w K mg base "Carrier" "trail" 3 ["self"] kw_Carrier_trail (liftF sp_Carrier_trail) := ⟨K_Carrier, f27, _, PySem.W.mg_of X G ka_Carrier, CLS_Carrier, ⟨a27, q27, F27.kp⟩, B27, fun q hq => by simp only [kw_Carrier_trail, List.not_mem_nil] at hq, ok_Carrier_trail F27 T ⟩
  have B26 := F26.binds (ps := ["self"]) fun _ _ _ _ _ _ us hl => match us, hl with | [_], _ => rfl
  have C_Carrier_standing : MCal l.prog w K mg base "Carrier" "standing" 3 ["self"] kw_Carrier_standing (liftF sp_Carrier_standing) := ⟨K_Carrier, f26, _, PySem.W.mg_of X G ka_Carrier, CLS_Carrier, ⟨a26, q26, F26.kp⟩, B26, fun q hq => by simp only [kw_Carrier_standing, List.not_mem_nil] at hq, ok_Carrier_standing F26 T ⟩
  have B25 := F25.binds (ps := ["self"]) fun _ _ _ _ _ _ us hl => match us, hl with | [_], _ => rfl
  have C_Carrier_house : MCal l.prog w K mg base "Carrier" "house" 3 ["self"] kw_Carrier_house (liftF sp_Carrier_house) := ⟨K_Carrier, f25, _, PySem.W.mg_of X G ka_Carrier, CLS_Carrier, ⟨a25, q25, F25.kp⟩, B25, fun q hq => by simp only [kw_Carrier_house, List.not_mem_nil] at hq, ok_Carrier_house F25 T ⟩
  have B19 := F19.binds (ps := ["self"]) fun _ _ _ _ _ _ us hl => match us, hl with | [_], _ => rfl
  have C_Carrier___len__ : MCal l.prog w K mg base "Carrier" "__len__" 3 ["self"] kw_Carrier___len__ (liftF sp_Carrier___len__) := ⟨K_Carrier, f19, _, PySem.W.mg_of X G ka_Carrier, CLS_Carrier, ⟨a19, q19, F19.kp⟩, B19, fun q hq => by simp only [kw_Carrier___len__, List.not_mem_nil] at hq, ok_Carrier___len__ F19 T ⟩
  have B39 := F39.binds (ps := ["made", "home", "stand", "tips", "many"]) fun _ _ _ _ _ _ us hl => match us, hl with | [_, _, _, _, _], _ => rfl
  have C_l_right : Cal l.prog w K mg base "_law_right" 5 ["made", "home", "stand", "tips", "many"] kw_l_right (liftF sp_l_right) := ⟨f39, _, PySem.W.mg_of X G a39, F39.kp, B39, fun q hq => by simp only [kw_l_right, List.not_mem_nil] at hq, ok_l_right F39 T C_Carrier_trail C_Carrier_standing C_Carrier_house C_Carrier___len__⟩
  have B29 := F29.binds (ps := ["pen", "many"]) fun _ _ _ _ _ _ us hl => match us, hl with | [_, _], _ => rfl
  have C_l_take : Cal l.prog w K mg base "_law_take" 3 ["pen", "many"] kw_l_take (liftF sp_l_take) := ⟨f29, _, PySem.W.mg_of X G a29, F29.kp, B29, fun q hq => by simp only [kw_l_take, List.not_mem_nil] at hq, ok_l_take F29 T ⟩
  have B32 := F32.binds (ps := ["home", "stand"]) fun _ _ _ _ _ _ us hl => match us, hl with | [_, _], _ => rfl
  have C_l_next : Cal l.prog w K mg base "_law_next" 3 ["home", "stand"] kw_l_next (liftF sp_l_next) := ⟨f32, _, PySem.W.mg_of X G a32, F32.kp, B32, fun q hq => by simp only [kw_l_next, List.not_mem_nil] at hq, ok_l_next F32 T ⟩
  have B38 := F38.binds (ps := ["home", "stand", "deed"]) fun _ _ _ _ _ _ us hl => match us, hl with | [_, _, _], _ => rfl
  have C_l_tells : Cal l.prog w K mg base "_law_tells" 4 ["home", "stand", "deed"] kw_l_tells (liftF sp_l_tells) := ⟨f38, _, PySem.W.mg_of X G a38, F38.kp, B38, fun q hq => by simp only [kw_l_tells, List.not_mem_nil] at hq, ok_l_tells F38 T C_l_next⟩
  have B34 := F34.binds (ps := ["call"]) fun _ _ _ _ _ _ us hl => match us, hl with | [_], _ => rfl
  have C_l_heard := ok_l_heard F34 T (PySem.W.mg_of X G a34) B34 
  have B20 := F20.binds (ps := ["self", "word", "end", "standing"]) fun _ _ _ _ _ _ us hl => match us, hl with | [_, _, _, _], _ => rfl
  have C_Carrier_deed : MCal l.prog w K mg base "Carrier" "deed" 3 ["self", "word", "end", "standing"] kw_Carrier_deed (liftF sp_Carrier_deed) := ⟨K_Carrier, f20, _, PySem.W.mg_of X G ka_Carrier, CLS_Carrier, ⟨a20, q20, F20.kp⟩, B20, fun q hq => by simp only [kw_Carrier_deed, List.not_mem_nil] at hq, ok_Carrier_deed F20 T ⟩
  have B3 := F3.binds (ps := ["end"]) fun _ _ _ _ _ _ us hl => match us, hl with | [_], _ => rfl
  have C_other_end : Cal l.prog w K mg base "other_end" 3 ["end"] kw_other_end (liftF sp_other_end) := ⟨f3, _, PySem.W.mg_of X G a3, F3.kp, B3, fun q hq => by simp only [kw_other_end, List.not_mem_nil] at hq, ok_other_end F3 T ⟩
  have B7 := F7.binds (ps := ["beads", "end"]) fun _ _ _ _ _ _ us hl => match us, hl with | [_, _], _ => rfl
  have C_moved : Cal l.prog w K mg base "moved" 4 ["beads", "end"] kw_moved (liftF sp_moved) := ⟨f7, _, PySem.W.mg_of X G a7, F7.kp, B7, fun q hq => by simp only [kw_moved, List.not_mem_nil] at hq, ok_moved F7 T C_other_end⟩
  have B12 := F12.binds (ps := ["standing", "end"]) fun _ _ _ _ _ _ us hl => match us, hl with | [_, _], _ => rfl
  have C_can_shift : Cal l.prog w K mg base "can_shift" 3 ["standing", "end"] kw_can_shift (liftF sp_can_shift) := ⟨f12, _, PySem.W.mg_of X G a12, F12.kp, B12, fun q hq => by simp only [kw_can_shift, List.not_mem_nil] at hq, ok_can_shift F12 T ⟩
  have B13 := F13.binds (ps := ["house", "standing", "end"]) fun _ _ _ _ _ _ us hl => match us, hl with | [_, _, _], _ => rfl
  have C_shifted : Cal l.prog w K mg base "shifted" 5 ["house", "standing", "end"] kw_shifted (liftF sp_shifted) := ⟨f13, _, PySem.W.mg_of X G a13, F13.kp, B13, fun q hq => by simp only [kw_shifted, List.not_mem_nil] at hq, ok_shifted F13 T C_moved C_can_shift⟩
  have B0 := F0.binds (ps := ["thing"]) fun _ _ _ _ _ _ us hl => match us, hl with | [_], _ => rfl
  have C_is_whole : Cal l.prog w K mg base "is_whole" 3 ["thing"] kw_is_whole (liftF sp_is_whole) := ⟨f0, _, PySem.W.mg_of X G a0, F0.kp, B0, fun q hq => by simp only [kw_is_whole, List.not_mem_nil] at hq, ok_is_whole F0 T ⟩
  have B1 := F1.binds (ps := ["thing", "least", "most"]) fun _ _ _ _ _ _ us hl => match us, hl with | [_, _, _], _ => rfl
  have C_is_within : Cal l.prog w K mg base "is_within" 4 ["thing", "least", "most"] kw_is_within (liftF sp_is_within) := ⟨f1, _, PySem.W.mg_of X G a1, F1.kp, B1, fun q hq => by simp only [kw_is_within, List.not_mem_nil] at hq, ok_is_within F1 T C_is_whole⟩
  have B2 := F2.binds (ps := ["house"]) fun _ _ _ _ _ _ us hl => match us, hl with | [_], _ => rfl
  have C_many_ends : Cal l.prog w K mg base "many_ends" 3 ["house"] kw_many_ends (liftF sp_many_ends) := ⟨f2, _, PySem.W.mg_of X G a2, F2.kp, B2, fun q hq => by simp only [kw_many_ends, List.not_mem_nil] at hq, ok_many_ends F2 T ⟩
  have B24 := F24.binds (ps := ["self", "end"]) fun _ _ _ _ _ _ us hl => match us, hl with | [_, _], _ => rfl
  have C_Carrier_shift : MCal l.prog w K mg base "Carrier" "shift" 6 ["self", "end"] kw_Carrier_shift (liftF sp_Carrier_shift) := ⟨K_Carrier, f24, _, PySem.W.mg_of X G ka_Carrier, CLS_Carrier, ⟨a24, q24, F24.kp⟩, B24, (by intro q hq; simp only [kw_Carrier_shift, List.mem_cons, List.not_mem_nil, or_false] at hq; subst hq;  exact kwb_of 1 F24 rfl (by decide) rfl (fun _ _ _ _ _ _ us ws h1 h2 => match us, ws, h1, h2 with | [_], [_], _, _ => rfl)), ok_Carrier_shift F24 T C_Carrier_deed C_shifted C_is_within C_many_ends⟩
  have B9 := F9.binds (ps := ["standing", "end"]) fun _ _ _ _ _ _ us hl => match us, hl with | [_, _], _ => rfl
  have C_went : Cal l.prog w K mg base "went" 5 ["standing", "end"] kw_went (liftF sp_went) := ⟨f9, _, PySem.W.mg_of X G a9, F9.kp, B9, fun q hq => by simp only [kw_went, List.not_mem_nil] at hq, ok_went F9 T C_other_end C_moved⟩
  have B4 := F4.binds (ps := ["house", "room"]) fun _ _ _ _ _ _ us hl => match us, hl with | [_, _], _ => rfl
  have C_ends_of : Cal l.prog w K mg base "ends_of" 3 ["house", "room"] kw_ends_of (liftF sp_ends_of) := ⟨f4, _, PySem.W.mg_of X G a4, F4.kp, B4, fun q hq => by simp only [kw_ends_of, List.not_mem_nil] at hq, ok_ends_of F4 T ⟩
  have B5 := F5.binds (ps := ["house", "end"]) fun _ _ _ _ _ _ us hl => match us, hl with | [_, _], _ => rfl
  have C_room_of : Cal l.prog w K mg base "room_of" 3 ["house", "end"] kw_room_of (liftF sp_room_of) := ⟨f5, _, PySem.W.mg_of X G a5, F5.kp, B5, fun q hq => by simp only [kw_room_of, List.not_mem_nil] at hq, ok_room_of F5 T ⟩
  have B6 := F6.binds (ps := ["house", "standing"]) fun _ _ _ _ _ _ us hl => match us, hl with | [_, _], _ => rfl
  have C_where : Cal l.prog w K mg base "where" 4 ["house", "standing"] kw_where (liftF sp_where) := ⟨f6, _, PySem.W.mg_of X G a6, F6.kp, B6, fun q hq => by simp only [kw_where, List.not_mem_nil] at hq, ok_where F6 T C_room_of⟩
  have B8 := F8.binds (ps := ["house", "standing"]) fun _ _ _ _ _ _ us hl => match us, hl with | [_, _], _ => rfl
  have C_may_go : Cal l.prog w K mg base "may_go" 5 ["house", "standing"] kw_may_go (liftF sp_may_go) := ⟨f8, _, PySem.W.mg_of X G a8, F8.kp, B8, fun q hq => by simp only [kw_may_go, List.not_mem_nil] at hq, ok_may_go F8 T C_ends_of C_where⟩
  have B10 := F10.binds (ps := ["house", "standing", "thing"]) fun _ _ _ _ _ _ us hl => match us, hl with | [_, _, _], _ => rfl
  have C_can_go : Cal l.prog w K mg base "can_go" 6 ["house", "standing", "thing"] kw_can_go (liftF sp_can_go) := ⟨f10, _, PySem.W.mg_of X G a10, F10.kp, B10, fun q hq => by simp only [kw_can_go, List.not_mem_nil] at hq, ok_can_go F10 T C_may_go C_is_whole⟩
  have B11 := F11.binds (ps := ["house", "standing", "end"]) fun _ _ _ _ _ _ us hl => match us, hl with | [_, _, _], _ => rfl
  have C_gone : Cal l.prog w K mg base "gone" 7 ["house", "standing", "end"] kw_gone (liftF sp_gone) := ⟨f11, _, PySem.W.mg_of X G a11, F11.kp, B11, fun q hq => by simp only [kw_gone, List.not_mem_nil] at hq, ok_gone F11 T C_went C_can_go⟩
  have B22 := F22.binds (ps := ["self", "end"]) fun _ _ _ _ _ _ us hl => match us, hl with | [_, _], _ => rfl
  have C_Carrier_go : MCal l.prog w K mg base "Carrier" "go" 8 ["self", "end"] kw_Carrier_go (liftF sp_Carrier_go) := ⟨K_Carrier, f22, _, PySem.W.mg_of X G ka_Carrier, CLS_Carrier, ⟨a22, q22, F22.kp⟩, B22, (by intro q hq; simp only [kw_Carrier_go, List.mem_cons, List.not_mem_nil, or_false] at hq; subst hq;  exact kwb_of 1 F22 rfl (by decide) rfl (fun _ _ _ _ _ _ us ws h1 h2 => match us, ws, h1, h2 with | [_], [_], _, _ => rfl)), ok_Carrier_go F22 T C_Carrier_deed C_gone⟩
  have B23 := F23.binds (ps := ["self"]) fun _ _ _ _ _ _ us hl => match us, hl with | [_], _ => rfl
  have C_Carrier_about : MCal l.prog w K mg base "Carrier" "about" 6 ["self"] kw_Carrier_about (liftF sp_Carrier_about) := ⟨K_Carrier, f23, _, PySem.W.mg_of X G ka_Carrier, CLS_Carrier, ⟨a23, q23, F23.kp⟩, B23, fun q hq => by simp only [kw_Carrier_about, List.not_mem_nil] at hq, ok_Carrier_about F23 T C_Carrier_deed C_went⟩
  have B16 := F16.binds (ps := ["beads", "ends"]) fun _ _ _ _ _ _ us hl => match us, hl with | [_, _], _ => rfl
  have C_first_laden : Cal l.prog w K mg base "first_laden" 3 ["beads", "ends"] kw_first_laden (liftF sp_first_laden) := ⟨f16, _, PySem.W.mg_of X G a16, F16.kp, B16, fun q hq => by simp only [kw_first_laden, List.not_mem_nil] at hq, ok_first_laden F16 T ⟩
  have B14 := F14.binds (ps := ["row", "thing"]) fun _ _ _ _ _ _ us hl => match us, hl with | [_, _], _ => rfl
  have C_turned_to : Cal l.prog w K mg base "turned_to" 3 ["row", "thing"] kw_turned_to (liftF sp_turned_to) := ⟨f14, _, PySem.W.mg_of X G a14, F14.kp, B14, fun q hq => by simp only [kw_turned_to, List.not_mem_nil] at hq, ok_turned_to F14 T ⟩
  have B15 := F15.binds (ps := ["house", "end"]) fun _ _ _ _ _ _ us hl => match us, hl with | [_, _], _ => rfl
  have C_behind : Cal l.prog w K mg base "behind" 4 ["house", "end"] kw_behind (liftF sp_behind) := ⟨f15, _, PySem.W.mg_of X G a15, F15.kp, B15, fun q hq => by simp only [kw_behind, List.not_mem_nil] at hq, ok_behind F15 T C_turned_to C_ends_of C_room_of⟩
  have B17 := F17.binds (ps := ["house", "standing"]) fun _ _ _ _ _ _ us hl => match us, hl with | [_, _], _ => rfl
  have C_next_end : Cal l.prog w K mg base "next_end" 5 ["house", "standing"] kw_next_end (liftF sp_next_end) := ⟨f17, _, PySem.W.mg_of X G a17, F17.kp, B17, fun q hq => by simp only [kw_next_end, List.not_mem_nil] at hq, ok_next_end F17 T C_first_laden C_behind⟩
  have B21 := F21.binds (ps := ["self"]) fun _ _ _ _ _ _ us hl => match us, hl with | [_], _ => rfl
  have C_Carrier_step : MCal l.prog w K mg base "Carrier" "step" 6 ["self"] kw_Carrier_step (liftF sp_Carrier_step) := ⟨K_Carrier, f21, _, PySem.W.mg_of X G ka_Carrier, CLS_Carrier, ⟨a21, q21, F21.kp⟩, B21, fun q hq => by simp only [kw_Carrier_step, List.not_mem_nil] at hq, ok_Carrier_step F21 T C_Carrier_deed C_went C_next_end⟩
  have B37 := F37.binds (ps := ["made", "deed"]) fun _ _ _ _ _ _ us hl => match us, hl with | [_, _], _ => rfl
  have C_l_asked : Cal l.prog w K mg base "_law_asked" 9 ["made", "deed"] kw_l_asked (liftF sp_l_asked) := ⟨f37, _, PySem.W.mg_of X G a37, F37.kp, B37, fun q hq => by simp only [kw_l_asked, List.not_mem_nil] at hq, ok_l_asked F37 T C_Carrier_shift C_Carrier_go C_Carrier_about C_Carrier_step⟩
  have B33 := F33.binds (ps := ["stand", "tip"]) fun _ _ _ _ _ _ us hl => match us, hl with | [_, _], _ => rfl
  have C_l_went : Cal l.prog w K mg base "_law_went" 3 ["stand", "tip"] kw_l_went (liftF sp_l_went) := ⟨f33, _, PySem.W.mg_of X G a33, F33.kp, B33, fun q hq => by simp only [kw_l_went, List.not_mem_nil] at hq, ok_l_went F33 T ⟩
  have B35 := F35.binds (ps := ["home", "stand", "deed"]) fun _ _ _ _ _ _ us hl => match us, hl with | [_, _, _], _ => rfl
  have C_l_done : Cal l.prog w K mg base "_law_done" 4 ["home", "stand", "deed"] kw_l_done (liftF sp_l_done) := ⟨f35, _, PySem.W.mg_of X G a35, F35.kp, B35, fun q hq => by simp only [kw_l_done, List.not_mem_nil] at hq, ok_l_done F35 T C_l_went C_l_next⟩
  have B36 := F36.binds (ps := ["pen", "stand"]) fun _ _ _ _ _ _ us hl => match us, hl with | [_, _], _ => rfl
  have C_l_deed : Cal l.prog w K mg base "_law_deed" 4 ["pen", "stand"] kw_l_deed (liftF sp_l_deed) := ⟨f36, _, PySem.W.mg_of X G a36, F36.kp, B36, fun q hq => by simp only [kw_l_deed, List.not_mem_nil] at hq, ok_l_deed F36 T C_l_take⟩
  have B18 := F18.binds (ps := ["self", "house", "standing"]) fun _ _ _ _ _ _ us hl => match us, hl with | [_, _, _], _ => rfl
  have C_Carrier___init__ : NCal l.prog w K mg base "Carrier" 3 ["self", "house", "standing"] kw_Carrier___init__ (liftF sp_Carrier___init__) := ⟨K_Carrier, f18, _, PySem.W.mg_of X G ka_Carrier, PySem.W.mg_of X G ka_Carrier, ⟨j5_Carrier, a18, q18, j6_Carrier⟩, B18, (by intro q hq; simp only [kw_Carrier___init__, List.mem_cons, List.not_mem_nil, or_false] at hq; subst hq;  exact kwb_of 1 F18 rfl (by decide) rfl (fun _ _ _ _ _ _ us ws h1 h2 => match us, ws, h1, h2 with | [_], [_, _], _, _ => rfl)), ok_Carrier___init__ F18 T ⟩
  have B31 := F31.binds (ps := ["pen", "home", "top"]) fun _ _ _ _ _ _ us hl => match us, hl with | [_, _, _], _ => rfl
  have C_l_stand : Cal l.prog w K mg base "_law_stand" 4 ["pen", "home", "top"] kw_l_stand (liftF sp_l_stand) := ⟨f31, _, PySem.W.mg_of X G a31, F31.kp, B31, fun q hq => by simp only [kw_l_stand, List.not_mem_nil] at hq, ok_l_stand F31 T C_l_take⟩
  have B30 := F30.binds (ps := ["pen", "top_rooms", "top_wires"]) fun _ _ _ _ _ _ us hl => match us, hl with | [_, _, _], _ => rfl
  have C_l_house : Cal l.prog w K mg base "_law_house" 4 ["pen", "top_rooms", "top_wires"] kw_l_house (liftF sp_l_house) := ⟨f30, _, PySem.W.mg_of X G a30, F30.kp, B30, fun q hq => by simp only [kw_l_house, List.not_mem_nil] at hq, ok_l_house F30 T C_l_take⟩
  exact ok_law F40 T (TBs _ (.head _)) rfl C_l_pen C_l_right C_l_take C_l_next C_l_tells C_l_heard C_l_asked C_l_done C_l_deed C_Carrier___init__ C_l_stand C_l_house
end Lw
open PySem PySem.W PyProof.Rows
set_option maxRecDepth 100000 in
set_option maxHeartbeats 0 in
theorem PySem.Challenge.cw_carryround_k78_carriers_do_deeds_holds : PySem.Challenge.rw_carryround_k78_carriers_do_deeds.Holds := by
  w_on; o_law; k_head; (case hw => w_witness2)
  k_fill
  refine Dl.walkT (l := PySem.Challenge.rw_carryround_k78_carriers_do_deeds) (k := 12) rfl rfl ⟨rfl, by decide, by decide⟩ (fun w h Y => PySem.W.km_in_of Y) ?F
  case F =>
    intro w mg fa h Y KX G hmg
    refine' Lw.all_mk KX G hmg (fun p hp => PySem.W.km_tabs_of Y p hp) ?ka_Carrier ?ka_CarryError ?ka_NoStanding ?ka_NoGoing ?ka_TooMany ?ka_NoPart ?ka_Clash ?ka_NoShift ?ka_NoBack ?ka_NoText ?j1_Carrier ?j2_Carrier ?j3_Carrier ?j4_Carrier ?j5_Carrier ?j6_Carrier ?na_Carrier_kept_house ?na_Carrier_now_standing ?na_Carrier_now_deeds ?na_Carrier_now_lot ?na_Carrier_now_looked ?a0 ?l0 ?c0 ?k0 ?a1 ?l1 ?c1 ?k1 ?a2 ?l2 ?c2 ?k2 ?a3 ?l3 ?c3 ?k3 ?a4 ?l4 ?c4 ?k4 ?a5 ?l5 ?c5 ?k5 ?a6 ?l6 ?c6 ?k6 ?a7 ?l7 ?c7 ?k7 ?a8 ?l8 ?c8 ?k8 ?a9 ?l9 ?c9 ?k9 ?a10 ?l10 ?c10 ?k10 ?a11 ?l11 ?c11 ?k11 ?a12 ?l12 ?c12 ?k12 ?a13 ?l13 ?c13 ?k13 ?a14 ?l14 ?c14 ?k14 ?a15 ?l15 ?c15 ?k15 ?a16 ?l16 ?c16 ?k16 ?a17 ?l17 ?c17 ?k17 ?a18 ?l18 ?c18 ?k18 ?q18 ?a19 ?l19 ?c19 ?k19 ?q19 ?a20 ?l20 ?c20 ?k20 ?q20 ?a21 ?l21 ?c21 ?k21 ?q21 ?a22 ?l22 ?c22 ?k22 ?q22 ?a23 ?l23 ?c23 ?k23 ?q23 ?a24 ?l24 ?c24 ?k24 ?q24 ?a25 ?l25 ?c25 ?k25 ?q25 ?a26 ?l26 ?c26 ?k26 ?q26 ?a27 ?l27 ?c27 ?k27 ?q27 ?a28 ?l28 ?c28 ?k28 ?a29 ?l29 ?c29 ?k29 ?a30 ?l30 ?c30 ?k30 ?a31 ?l31 ?c31 ?k31 ?a32 ?l32 ?c32 ?k32 ?a33 ?l33 ?c33 ?k33 ?a34 ?l34 ?c34 ?k34 ?a35 ?l35 ?c35 ?k35 ?a36 ?l36 ?c36 ?k36 ?a37 ?l37 ?c37 ?k37 ?a38 ?l38 ?c38 ?k38 ?a39 ?l39 ?c39 ?k39 ?a40 ?l40 ?c40 ?k40 ?tc40 ?tn40 ?z_ValueError ?z_abs ?z_bool ?z_int ?z_isinstance ?z_len ?z_list ?z_range ?z_repr ?z_sorted ?z_str ?z_sum ?z_tuple ?y_SHIFT ?e1_NoGoing ?e2_NoGoing ?e3_NoGoing ?e4_NoGoing ?e5_NoGoing ?e6_NoGoing ?e7_NoGoing ?e8_NoGoing ?e1_NoShift ?e2_NoShift ?e3_NoShift ?e4_NoShift ?e5_NoShift ?e6_NoShift ?e7_NoShift ?e8_NoShift ?u0 ?v0 ?u1 ?v1 ?u2 ?v2 ?u3 ?v3 ?u4 ?v4 ?u5 ?v5 ?u6 ?v6 ?u7 ?v7 ?u8 ?v8 ?u9 ?v9 ?u10 ?v10 ?u11 ?v11 ?u12 ?v12 ?u13 ?v13 ?u14 ?v14 ?u15 ?v15 ?u16 ?v16 ?u17 ?v17 ?us0 ?us1 ?o1_NoGoing ?o2_NoGoing ?o3_NoGoing ?o4_NoGoing ?o5_NoGoing ?o6_NoGoing ?o7_NoGoing ?o8_NoGoing ?o9_NoGoing ?o10_NoGoing ?o11_NoGoing ?p1_NoShift ?p2_NoShift ?p3_NoShift ?p4_NoShift
    (case ka_Carrier => k_is)
    (case ka_CarryError => k_is)
    (case ka_NoStanding => k_is)
    (case ka_NoGoing => k_is)
    (case ka_TooMany => k_is)
    (case ka_NoPart => k_is)
    (case ka_Clash => k_is)
    (case ka_NoShift => k_is)
    (case ka_NoBack => k_is)
    (case ka_NoText => k_is)
    (case j1_Carrier => k_is)
    (case j2_Carrier => k_is)
    (case j3_Carrier => k_is)
    (case j4_Carrier => k_is)
    (case j5_Carrier => k_is)
    (case j6_Carrier => k_is)
    (case na_Carrier_kept_house => k_is)
    (case na_Carrier_now_standing => k_is)
    (case na_Carrier_now_deeds => k_is)
    (case na_Carrier_now_lot => k_is)
    (case na_Carrier_now_looked => k_is)
    (case a0 => k_is)
    (case l0 => k_is)
    (case c0 => k_is)
    (case k0 => k_is)
    (case a1 => k_is)
    (case l1 => k_is)
    (case c1 => k_is)
    (case k1 => k_is)
    (case a2 => k_is)
    (case l2 => k_is)
    (case c2 => k_is)
    (case k2 => k_is)
    (case a3 => k_is)
    (case l3 => k_is)
    (case c3 => k_is)
    (case k3 => k_is)
    (case a4 => k_is)
    (case l4 => k_is)
    (case c4 => k_is)
    (case k4 => k_is)
    (case a5 => k_is)
    (case l5 => k_is)
    (case c5 => k_is)
    (case k5 => k_is)
    (case a6 => k_is)
    (case l6 => k_is)
    (case c6 => k_is)
    (case k6 => k_is)
    (case a7 => k_is)
    (case l7 => k_is)
    (case c7 => k_is)
    (case k7 => k_is)
    (case a8 => k_is)
    (case l8 => k_is)
    (case c8 => k_is)
    (case k8 => k_is)
    (case a9 => k_is)
    (case l9 => k_is)
    (case c9 => k_is)
    (case k9 => k_is)
    (case a10 => k_is)
    (case l10 => k_is)
    (case c10 => k_is)
    (case k10 => k_is)
    (case a11 => k_is)
    (case l11 => k_is)
    (case c11 => k_is)
    (case k11 => k_is)
    (case a12 => k_is)
    (case l12 => k_is)
    (case c12 => k_is)
    (case k12 => k_is)
    (case a13 => k_is)
    (case l13 => k_is)
    (case c13 => k_is)
    (case k13 => k_is)
    (case a14 => k_is)
    (case l14 => k_is)
    (case c14 => k_is)
    (case k14 => k_is)
    (case a15 => k_is)
    (case l15 => k_is)
    (case c15 => k_is)
    (case k15 => k_is)
    (case a16 => k_is)
    (case l16 => k_is)
    (case c16 => k_is)
    (case k16 => k_is)
    (case a17 => k_is)
    (case l17 => k_is)
    (case c17 => k_is)
    (case k17 => k_is)
    (case a18 => k_is)
    (case l18 => k_is)
    (case c18 => k_is)
    (case k18 => k_is)
    (case q18 => k_is)
    (case a19 => k_is)
    (case l19 => k_is)
    (case c19 => k_is)
    (case k19 => k_is)
    (case q19 => k_is)
    (case a20 => k_is)
    (case l20 => k_is)
    (case c20 => k_is)
    (case k20 => k_is)
    (case q20 => k_is)
    (case a21 => k_is)
    (case l21 => k_is)
    (case c21 => k_is)
    (case k21 => k_is)
    (case q21 => k_is)
    (case a22 => k_is)
    (case l22 => k_is)
    (case c22 => k_is)
    (case k22 => k_is)
    (case q22 => k_is)
    (case a23 => k_is)
    (case l23 => k_is)
    (case c23 => k_is)
    (case k23 => k_is)
    (case q23 => k_is)
    (case a24 => k_is)
    (case l24 => k_is)
    (case c24 => k_is)
    (case k24 => k_is)
    (case q24 => k_is)
    (case a25 => k_is)
    (case l25 => k_is)
    (case c25 => k_is)
    (case k25 => k_is)
    (case q25 => k_is)
    (case a26 => k_is)
    (case l26 => k_is)
    (case c26 => k_is)
    (case k26 => k_is)
    (case q26 => k_is)
    (case a27 => k_is)
    (case l27 => k_is)
    (case c27 => k_is)
    (case k27 => k_is)
    (case q27 => k_is)
    (case a28 => k_is)
    (case l28 => k_is)
    (case c28 => k_is)
    (case k28 => k_is)
    (case a29 => k_is)
    (case l29 => k_is)
    (case c29 => k_is)
    (case k29 => k_is)
    (case a30 => k_is)
    (case l30 => k_is)
    (case c30 => k_is)
    (case k30 => k_is)
    (case a31 => k_is)
    (case l31 => k_is)
    (case c31 => k_is)
    (case k31 => k_is)
    (case a32 => k_is)
    (case l32 => k_is)
    (case c32 => k_is)
    (case k32 => k_is)
    (case a33 => k_is)
    (case l33 => k_is)
    (case c33 => k_is)
    (case k33 => k_is)
    (case a34 => k_is)
    (case l34 => k_is)
    (case c34 => k_is)
    (case k34 => k_is)
    (case a35 => k_is)
    (case l35 => k_is)
    (case c35 => k_is)
    (case k35 => k_is)
    (case a36 => k_is)
    (case l36 => k_is)
    (case c36 => k_is)
    (case k36 => k_is)
    (case a37 => k_is)
    (case l37 => k_is)
    (case c37 => k_is)
    (case k37 => k_is)
    (case a38 => k_is)
    (case l38 => k_is)
    (case c38 => k_is)
    (case k38 => k_is)
    (case a39 => k_is)
    (case l39 => k_is)
    (case c39 => k_is)
    (case k39 => k_is)
    (case a40 => k_is)
    (case l40 => k_is)
    (case c40 => k_is)
    (case k40 => k_is)
    (case tc40 => kernel_rfl)
    (case tn40 => kernel_rfl)
    (case z_ValueError => k_is)
    (case z_abs => k_is)
    (case z_bool => k_is)
    (case z_int => k_is)
    (case z_isinstance => k_is)
    (case z_len => k_is)
    (case z_list => k_is)
    (case z_range => k_is)
    (case z_repr => k_is)
    (case z_sorted => k_is)
    (case z_str => k_is)
    (case z_sum => k_is)
    (case z_tuple => k_is)
    (case y_SHIFT => k_is)
    (case e1_NoGoing => k_is)
    (case e2_NoGoing => k_is)
    (case e3_NoGoing => k_is)
    (case e4_NoGoing => k_is)
    (case e5_NoGoing => k_is)
    (case e6_NoGoing => k_is)
    (case e7_NoGoing => k_is)
    (case e8_NoGoing => k_is)
    (case e1_NoShift => k_is)
    (case e2_NoShift => k_is)
    (case e3_NoShift => k_is)
    (case e4_NoShift => k_is)
    (case e5_NoShift => k_is)
    (case e6_NoShift => k_is)
    (case e7_NoShift => k_is)
    (case e8_NoShift => k_is)
    (case u0 => kernel_rfl)
    (case v0 => kernel_rfl)
    (case u1 => kernel_rfl)
    (case v1 => kernel_rfl)
    (case u2 => kernel_rfl)
    (case v2 => kernel_rfl)
    (case u3 => kernel_rfl)
    (case v3 => kernel_rfl)
    (case u4 => kernel_rfl)
    (case v4 => kernel_rfl)
    (case u5 => kernel_rfl)
    (case v5 => kernel_rfl)
    (case u6 => kernel_rfl)
    (case v6 => kernel_rfl)
    (case u7 => kernel_rfl)
    (case v7 => kernel_rfl)
    (case u8 => kernel_rfl)
    (case v8 => kernel_rfl)
    (case u9 => kernel_rfl)
    (case v9 => kernel_rfl)
    (case u10 => kernel_rfl)
    (case v10 => kernel_rfl)
    (case u11 => kernel_rfl)
    (case v11 => kernel_rfl)
    (case u12 => kernel_rfl)
    (case v12 => kernel_rfl)
    (case u13 => kernel_rfl)
    (case v13 => kernel_rfl)
    (case u14 => kernel_rfl)
    (case v14 => kernel_rfl)
    (case u15 => kernel_rfl)
    (case v15 => kernel_rfl)
    (case u16 => kernel_rfl)
    (case v16 => kernel_rfl)
    (case u17 => kernel_rfl)
    (case v17 => kernel_rfl)
    (case us0 => kernel_rfl)
    (case us1 => kernel_rfl)
    (case o1_NoGoing => k_is)
    (case o2_NoGoing => first | decide +kernel | k_is)
    (case o3_NoGoing => k_is)
    (case o4_NoGoing => k_is)
    (case o5_NoGoing => k_is)
    (case o6_NoGoing => k_is)
    (case o7_NoGoing => k_is)
    (case o8_NoGoing => k_is)
    (case o9_NoGoing => k_is)
    (case o10_NoGoing => k_is)
    (case o11_NoGoing => k_is)
    (case p1_NoShift => kernel_rfl)
    (case p2_NoShift => k_is)
    (case p3_NoShift => k_is)
    (case p4_NoShift => k_is)

