import PyProof.Rows.All
import Wide.All
import OpenK.AllK
import Wide.FinOn
import HandS.ForMost
import HandS.Style
import HandS.Flow
import HandS.Wide
import HandS.IsInst
import HandS.OwnEq
import HandS.Walk
import HandS.Conv
import HandS.Deep
import HandS.Zip
import KE.GoesEnum
import KE.KOpsOwn
import HandS.TupAny
import HandS.MakeKwOnly
import PySem.Challenge.RW_seenmarks_k02_fields_told
import HandS.Evl
import HandS.More
import HandS.TupLe
set_option Elab.async false
set_option linter.all false
set_option maxRecDepth 100000
set_option maxHeartbeats 4000000
namespace Sm
open PySem PySem.Spec PyProof.Rows L2
/-! ### enumerate(tuple) -/
def IteT (K : PySem.W.Frag) (a : Addr) : It :=
  ⟨fun i H => ∃ (xs : List V) (x : V), SqT K H a xs ∧ xs[i]? = some x, fun i H v H' => ∃ T x, v = .ref T ∧ H T = none ∧ H' = upd H T (.tup [.int (i : Nat), x]) ∧ ∀ xs, SqT K H a xs → xs[i]? = some x, fun i H => ∃ xs : List V, SqT K H a xs ∧ xs.length = i⟩
theorem turn_enumT {P : Program} {w : World} {K : PySem.W.Frag} {elts : List Expr} {kk : Nat} {tpos : Pos} (a e it : Addr) :
    Turn P w K (.Tuple elts kk tpos) (IteT K a) [e, it] e (fun i h => (∃ old, IsEnum h e it ((i : Nat) : Int) old) ∧ h.IsTupleIter it a i ∧ e ≠ it) where
  mem := by simp
  obj := fun i h st b hb => by
    obtain ⟨⟨old, he⟩, ⟨o, ho, hc, hd⟩, _⟩ := st
    have e' : b = e ∨ b = it := by simpa using hb
    rcases e' with z | z
    · rw [z]; exact ⟨_, he, fun v q => nomatch q⟩
    · rw [z]; exact ⟨o, ho, fun v q => by rw [hd] at q; cases q⟩
  keep := fun i h h' st k => let ⟨⟨old, he⟩, hi, hne⟩ := st; ⟨⟨old, k e (by simp) _ he⟩, hi.at fun o q => k it (by simp) o q, hne⟩
  item := by
    intro X hP hw hK hc i pins s σ H E I hf st hg
    subst hP hw hK
    obtain ⟨⟨old, he⟩, hit, hne⟩ := st
    obtain ⟨xs, x, hq, hx⟩ := hg
    obtain ⟨its, rv, p, hz⟩ := I.tuple hq
    obtain ⟨u, hu, ru⟩ := rv.get hx
    have hel : e < s.heap.objs.size := Heap.lt_size he
    have hil : it < s.heap.objs.size := by obtain ⟨_, q, _⟩ := hit; exact Heap.lt_size q
    have tup : s.heap.IsTuple a its.toArray := p
    have hai : a ≠ it := fun z => by
      obtain ⟨o1, e1, c1, n1, d1⟩ := tup
      obtain ⟨o2, e2, c2, d2⟩ := hit
      rw [z, e2] at e1; cases e1; rw [d1] at d2; cases d2
    have hea : e ≠ a := fun z => by
      obtain ⟨o1, e1, c1, n1, d1⟩ := tup
      rw [← z, he] at e1; cases e1; cases d1
    have D := Draws.tuple (prog := X.prog) (w := X.w) (A := X.A.in1) (I.ok.hd hc) it a hai its.toArray
    refine wpAny_pyNext_enum_itemC D (c := ((i : Nat) : Int)) (i := i) he ⟨hit, tup⟩ (by
      obtain ⟨hlt, _⟩ := List.getElem?_eq_some_iff.mp hu
      simpa using hlt) hne (by simp [hne, hea]) fun x' h' tk hP ho hst hT hsz hk => ?_
    have ex : x' = u := by
      have q : its.toArray[i]? = some x' := hP
      rw [List.getElem?_toArray, hu] at q
      exact (Option.some.inj q).symm
    subst ex
    refine ⟨_, rfl, wpAny_letOwnedTupleGo_enum (s := { s with heap := h', toks := tk + 1 }) ho fun h'' he' sb => ?_⟩
    have hT2 : h''.get? s.heap.objs.size = some { cls := .type "tuple", data := .seq #[.int i tk, x'] } := (sb.2 _ (Nat.ne_of_gt hel)).trans hT
    have new : ObjOk X.prog X.w (upd H s.heap.objs.size (.tup [.int (i : Nat), x])) h'' s.heap.objs.size (.tup [.int (i : Nat), x]) :=
      ⟨by show 2 ≤ sizeLine; decide, [.int i tk, x'], .cons ⟨_, rfl⟩ (.cons ru .nil), ⟨_, hT2, rfl, _, rfl⟩⟩
    have I1 : Inv X pins σ (upd H s.heap.objs.size (.tup [.int (i : Nat), x])) { s with heap := h'', toks := tk + 1 } :=
      I.turnedNew (ch := [e, it]) (fun b ob hb q => (sb.2 b (fun z => hb (by simp [z]))).trans (hk b ob (fun z => hb (by simp [z])) (fun z => hb (by simp [z])) q)) hf (Nat.le_refl _) new
    refine ⟨.ref s.heap.objs.size, _, I1, rfl, ⟨_, x, rfl, I.hok.fresh (Nat.le_refl _), rfl, fun ys hy => by rw [I.tuple_inj hy hq]; exact hx⟩, ⟨⟨x', ?_⟩, hst.1.at fun o q => (sb.2 it (Ne.symm hne)).trans q, hne⟩, fun b hb => ?_⟩
    · have e1 : ((i + 1 : Nat) : Int) = (i : Int) + 1 := by omega
      rw [e1]; exact he'
    · have hb' : b < s.heap.objs.size := by
        have e' : b = e ∨ b = it := by simpa using hb
        rcases e' with z | z
        · rw [z]; exact hel
        · rw [z]; exact hil
      rw [upd_ne (Nat.ne_of_lt hb')]
      exact (hf b hb).1
  done := by
    intro X hP hw hK hc i pins s σ H E I hf st hg
    subst hP hw hK
    obtain ⟨⟨old, he⟩, hit, hne⟩ := st
    obtain ⟨xs, hq, hx⟩ := hg
    obtain ⟨its, rv, p, hz⟩ := I.tuple hq
    obtain ⟨f0, f1, f2, f3, f4, f5⟩ := hf it (by simp)
    have hl := rv.length
    have tup : s.heap.IsTuple a its.toArray := p
    have hai : a ≠ it := fun z => by
      obtain ⟨o1, e1, c1, n1, d1⟩ := tup
      obtain ⟨o2, e2, c2, d2⟩ := hit
      rw [z, e2] at e1; cases e1; rw [d1] at d2; cases d2
    have D := Draws.tuple (prog := X.prog) (w := X.w) (A := X.A.in1) (I.ok.hd hc) it a hai its.toArray
    have en : its.toArray.size = i := by rw [List.size_toArray, ← hl]; exact hx
    refine wpAny_pyNext_enum_endD D he (by rw [en]; exact ⟨hit, tup⟩) fun h' eb => ⟨rfl, I.turned (t' := s.toks) (fun b o hb q => eb b o hb q) f0 f1 f3 f4 f5⟩
  self := fun A i s Q E st h => let ⟨⟨_, he⟩, _⟩ := st; wpAny_pyIter_enum he h
def iEnumT (K : PySem.W.Frag) (ta : TA) : TI := fun σ H R => ta σ H fun vs H1 => ∃ a xs, vs = [.ref a] ∧ SqT K H1 a xs ∧ R (IteT K a) H1
/-! enumerate(v), v whatever begins: the one-argument form -/
theorem meets_enumerate_new1 {v : Value} {o : Obj} {H : Heap → Prop} (B : Begins v o H) :
    Meets (Builtin.«enumerate.__new__» ⟨[.type "enumerate", v], []⟩) (fun _ R s => H s.heap ∧
      R (.ok (.ret (.ref (s.heap.push o).objs.size))) { s with heap := (s.heap.push o).push { cls := .type "enumerate", data := .fields #[.none, .bool false, .ref s.heap.objs.size, rawInt 0, .none, .none] } }) :=
  .of_wp fun prog w A R s h => by
    obtain ⟨hp, g, d, tk, os⟩ := s; obtain ⟨h1, h⟩ := h
    have hsub := sub_enumerate
    have q1 : ∀ {A' : Around} {E : Value → Shared → Prop} {Q : Value → Shared → Prop}, Q (.ref hp.objs.size) ⟨hp.push o, g, d, tk, os⟩ → wpAny (model prog w) A' (pyIter v) Q E ⟨hp, g, d, tk, os⟩ :=
      fun q => B.iter prog w _ _ ⟨hp, g, d, tk, os⟩ _ h1 q
    wp_walk using q1
    refine wpAny_stack_any fun st => wpAny_pure ?_
    split
    · rename_i c _ _ _ _ _
      cases (c == Value.type "enumerate")
      · wp_walk using q1
        exact ⟨_, rfl, h⟩
      · wp_walk using q1
        exact ⟨_, rfl, h⟩
    · wp_walk using q1
      exact ⟨_, rfl, h⟩
theorem enum_begins1 {prog : Program} {w : World} {A : Around} {E : Value → Shared → Prop} {s : Shared} {v : Value} {o : Obj} {H : Heap → Prop} {Q : Value → Shared → Prop} (B : Begins v o H) (h1 : H s.heap)
    (h : ∀ h', IsEnum h' (s.heap.objs.size + 1) s.heap.objs.size 0 .none → h'.get? s.heap.objs.size = some o → h'.objs.size = s.heap.objs.size + 2 →
      (∀ b o, s.heap.get? b = some o → h'.get? b = some o) → Q (.ref (s.heap.objs.size + 1)) { s with heap := h' }) :
    wpAny (model prog w) A (call (.type "enumerate") [v]) Q E s := by
  refine callType_new F.called_enumerate (by decide) (F.typeCall_enumerate_1 _) (F.newCall_enumerate_1 _) (fun obj => F.args_object_init_2 obj _) F.entry_enumerate_new
    (meets_enumerate_new1 B) ⟨h1, ?_⟩
  have hz : (s.heap.push o).objs.size = s.heap.objs.size + 1 := Heap.size_push ..
  show _ ∧ _
  rw [hz]
  have he : IsEnum ((s.heap.push o).push { cls := .type "enumerate", data := .fields #[.none, .bool false, .ref s.heap.objs.size, rawInt 0, .none, .none] }) (s.heap.objs.size + 1) s.heap.objs.size 0 .none := by
    have := Heap.get?_push_size (s.heap.push o) (o := { cls := .type "enumerate", data := .fields #[.none, .bool false, .ref s.heap.objs.size, rawInt 0, .none, .none] }) rfl
    rw [hz] at this; exact this
  refine ⟨⟨_, he, rfl⟩, h _ he (Heap.get?_push_of_some _ (Heap.get?_push_size _ B.free)) (by rw [Heap.size_push, hz]) fun b o x => Heap.get?_push_of_some _ (Heap.get?_push_of_some _ x)⟩
theorem pi_enumT {X : Cx} {e : Expr} {ta : TA} {p pos tpos : Pos} {elts : List Expr} {kk : Nat} (hg : Gl X "enumerate") (hm : X.mg "enumerate" = none) (ha : PA X [e] ta) (hs : starEach [e] X.env = [(false, eval e X.env)] := by rfl) :
    PI X (.Tuple elts kk tpos) (.Call (.Name "enumerate" p) [e] [] pos) (iEnumT X.K ta) := by
  refine ⟨fun pins s σ H R I h => ?_⟩
  refine Call_ (ld_blt I hg hm boot_enumerate (PyProof.Rows.callWith_type1 (thn (ha.run pos pins s σ H _ I h) fun us s1 ⟨vs, H1, I1, r1, q1⟩ => ?_) hs rfl))
  obtain ⟨a, xs, ex, hq, q⟩ := q1
  subst ex
  cases r1 with
  | cons r rr =>
    cases rr
    cases r
    obtain ⟨its, rv, p', hz⟩ := I1.tuple hq
    refine enum_begins1 (begins_tuple a its.toArray) p' fun h' he hit hsz hk => wpAny_pyIter_enum he ?_
    have I2 : Inv X pins σ H1 { s1 with heap := h' } := I1.kept (t' := s1.toks) hk
    refine ⟨s1.heap.objs.size + 1, [s1.heap.objs.size + 1, s1.heap.objs.size], _, _, H1, rfl, I2, turn_enumT a (s1.heap.objs.size + 1) s1.heap.objs.size, ⟨⟨.none, he⟩, ⟨_, hit, rfl, rfl⟩, Nat.succ_ne_self _⟩, fun b hb => ?_, q⟩
    have e' : b = s1.heap.objs.size + 1 ∨ b = s1.heap.objs.size := by simpa using hb
    have hle : s1.heap.objs.size ≤ b := by
      rcases e' with z | z
      · rw [z]; exact Nat.le_add_right _ _
      · rw [z]; exact Nat.le_refl _
    exact I1.fpOk hle (I1.hok.fresh hle)
theorem walk_enumT {K : PySem.W.Frag} {a : Addr} {xs : List V} : Walk (IteT K a) xs.length (fun H => SqT K H a xs) (YPair (fun i => some (.int (i : Nat))) (fun i => xs[i]?)) := by
  refine ⟨fun i _ hi q => ⟨xs, xs[i], q, by simp [hi]⟩, fun _ q => ⟨xs, q, rfl⟩, fun i H v H' _ q y => ?_⟩
  obtain ⟨T, x, h1, h2, h3, h4⟩ := y
  exact ⟨T, .int (i : Nat), x, h1, h2, h3, rfl, h4 xs q⟩
/-! one of two readings -/
theorem pi_or {X : Cx} {tg e : Expr} {w1 w2 : TI} (h1 : PI X tg e w1) (h2 : PI X tg e w2) : PI X tg e (fun σ H R => w1 σ H R ∨ w2 σ H R) :=
  ⟨fun pins s σ H R I h => h.elim (h1.run pins s σ H R I) (h2.run pins s σ H R I)⟩
theorem pe_or2 {X : Cx} {e : Expr} {w1 w2 : TE} (h1 : PE X e w1) (h2 : PE X e w2) : PE X e (fun σ H R => w1 σ H R ∨ w2 σ H R) :=
  ⟨fun pins s σ H R I h => h.elim (h1.run pins s σ H R I) (h2.run pins s σ H R I)⟩
end Sm

namespace Sm
open PySem PySem.Spec PyProof.Rows L2
/-- a word that the readings' steps leave shut -/
structure Stp (p : Prop) : Prop where
  out : p
/-! ### heaps -/
/-- all but what stands at st is as it was -/
def Fr1 (st : Addr) (H H' : Hp) : Prop := ∀ b o, b ≠ st → H b = some o → H' b = some o
theorem Fr1.refl {st : Addr} {H : Hp} : Fr1 st H H := fun _ _ _ h => h
theorem Fr1.trans {st : Addr} {H H1 H2 : Hp} (a : Fr1 st H H1) (b : Fr1 st H1 H2) : Fr1 st H H2 := fun c o n h => b c o n (a c o n h)
theorem Fr1.new {st : Addr} {H H1 : Hp} {p : Addr} {o : HO} (a : Fr1 st H H1) (h : H1 p = none) : Fr1 st H (upd H1 p o) := fun b u n e => by
  have e1 := a b u n e
  rw [upd_ne (ne_of_none e1 h)]; exact e1
theorem Fr1.mut {st : Addr} {H H1 : Hp} {o : HO} (a : Fr1 st H H1) : Fr1 st H (upd H1 st o) := fun b u n e => by rw [upd_ne n]; exact a b u n e
theorem Fr1.mutNew {st : Addr} {H H1 : Hp} {p : Addr} {o : HO} (a : Fr1 st H H1) (h : H p = none) : Fr1 st H (upd H1 p o) := fun b u n e => by rw [upd_ne (ne_of_none e h)]; exact a b u n e
theorem Fr1.at {st : Addr} {H H1 : Hp} (a : Fr1 st H H1) {b : Addr} {o : HO} (n : b ≠ st) (h : H b = some o) : H1 b = some o := a b o n h
theorem Fr1.ofSame {st : Addr} {H H1 H2 : Hp} (a : Fr1 st H H1) (b : Same H1 H2) : Fr1 st H H2 := fun c o n h => b c o (a c o n h)
theorem same_at {H H1 : Hp} (a : Same H H1) {b : Addr} {o : HO} (h : H b = some o) : H1 b = some o := a b o h
theorem same_new {H H1 : Hp} {p : Addr} {o : HO} (a : Same H H1) (h : H1 p = none) : Same H (upd H1 p o) := fun b u e => by
  have e1 := a b u e
  rw [upd_ne (ne_of_none e1 h)]; exact e1
theorem same_mut {H H1 : Hp} {p : Addr} {o : HO} (a : Same H H1) (h : H p = none) : Same H (upd H1 p o) := fun b u e => by rw [upd_ne (ne_of_none e h)]; exact a b u e
theorem ne_non {H : Hp} {a b : Addr} {o : HO} (h' : H b = none) (h : H a = some o) : a ≠ b := ne_of_none h h'
theorem non_ne {H : Hp} {a b : Addr} {o : HO} (h' : H b = none) (h : H a = some o) : b ≠ a := (ne_of_none h h').symm
/-- the law's state of draws -/
def StOk (c : Addr) (H : Hp) (st : Addr) : Prop := ∃ (ns : List Int) (n v : Int) (b : Bool), H st = some (.lst [.ref c, .int n, .int v, .bl b]) ∧ H c = some (.lst (ns.map V.int)) ∧ c ≠ st ∧ ns.length ≤ 63
theorem StOk.mk {H : Hp} {st c : Addr} {ns : List Int} {n v : Int} {b : Bool} (h1 : H st = some (.lst [.ref c, .int n, .int v, .bl b])) (h2 : H c = some (.lst (ns.map V.int))) (h3 : c ≠ st) (h4 : ns.length ≤ 63) : StOk c H st := ⟨ns, n, v, b, h1, h2, h3, h4⟩
theorem StOk.some {H : Hp} {st c : Addr} (h : StOk c H st) : ∃ o, H st = some o := let ⟨_, _, _, _, h, _⟩ := h; ⟨_, h⟩
theorem StOk.someC {H : Hp} {st c : Addr} (h : StOk c H st) : ∃ o, H c = Option.some o := let ⟨_, _, _, _, _, h, _⟩ := h; ⟨_, h⟩
theorem StOk.ne {H : Hp} {st c p : Addr} (h : StOk c H st) (n : H p = none) : p ≠ st := fun e => by
  obtain ⟨o, q⟩ := h.some
  rw [← e, n] at q; cases q
theorem StOk.neC {H : Hp} {st c p : Addr} (h : StOk c H st) (n : H p = none) : p ≠ c := fun e => by
  obtain ⟨o, q⟩ := h.someC
  rw [← e, n] at q; cases q
theorem StOk.same {H H1 : Hp} {st c : Addr} (h : StOk c H st) (s : Same H H1) : StOk c H1 st := by
  obtain ⟨ns, n, v, b, h1, h2, h3, h4⟩ := h
  exact ⟨ns, n, v, b, s _ _ h1, s _ _ h2, h3, h4⟩
theorem StOk.new {H : Hp} {st c p : Addr} {o : HO} (h : StOk c H st) (n : H p = none) : StOk c (upd H p o) st := h.same (same_new (Same.refl H) n)
theorem StOk.upd {H : Hp} {st c p : Addr} {o : HO} (h : StOk c H st) (n : p ≠ st) (nc : p ≠ c) : StOk c (L2.upd H p o) st := by
  obtain ⟨ns, m, v, b, h1, h2, h3, h4⟩ := h
  exact ⟨ns, m, v, b, by rw [upd_ne n.symm]; exact h1, by rw [upd_ne nc.symm]; exact h2, h3, h4⟩
/-- nothing was free that is not -/
theorem Fr1.free {st c : Addr} {H H1 : Hp} {p : Addr} (f : Fr1 st H H1) (h : StOk c H1 st) (n : H1 p = none) : H p = none := by
  cases e : H p with
  | none => rfl
  | some o => rw [f p o (h.ne n) e] at n; cases n
theorem map_int_get {ns : List Int} {i : Nat} (h : i < ns.length) : (ns.map V.int)[i]? = some (.int ns[i]) := by
  rw [List.getElem?_map, List.getElem?_eq_getElem h]; rfl
theorem getD_mem {xs : List V} {i : Nat} {d : V} (h : i < xs.length) : xs.getD i d ∈ xs := by
  rw [List.getD_eq_getElem?_getD, List.getElem?_eq_getElem h]
  exact List.getElem_mem h
theorem sz_le {n : Nat} (h : n ≤ 100000) : n ≤ sizeLine := Nat.le_trans h (by decide)
theorem sz_lt {n : Nat} (h : n < 100000) : n < sizeLine := Nat.lt_of_lt_of_le h (by decide)
theorem iteD {p A B : Prop} [Decidable p] (h1 : p → A) (h2 : ¬ p → B) : if decide p = true then A else B := by
  by_cases h : p
  · rw [decide_eq_true h]; exact iteT (h1 h)
  · rw [decide_eq_false h]; exact iteF (h2 h)
theorem iteND {p A B : Prop} [Decidable p] (h1 : ¬ p → A) (h2 : p → B) : if (!decide p) = true then A else B := by
  by_cases h : p
  · rw [decide_eq_true h]; exact iteF (h2 h)
  · rw [decide_eq_false h]; exact iteT (h1 h)
theorem iteB {b : Bool} {A B : Prop} (h1 : b = true → A) (h2 : b = false → B) : if b = true then A else B := by
  cases b with
  | true => exact iteT (h1 rfl)
  | false => exact iteF (h2 rfl)
theorem atI_ints {ns : List Int} {i : Int} (h0 : 0 ≤ i) (h1 : i < (ns.length : Int)) : atI (ns.map V.int) i = some (.int (ns.getD i.toNat 0)) := by
  have e : i = ((i.toNat : Nat) : Int) := by omega
  have hl : i.toNat < ns.length := by omega
  rw [e]
  refine atI_nat ?_
  rw [Int.toNat_natCast, List.getElem?_map, List.getElem?_eq_getElem hl, List.getD_eq_getElem?_getD, List.getElem?_eq_getElem hl]; rfl
theorem atI_strs {ns : List Str} {i : Int} (h0 : 0 ≤ i) (h1 : i < (ns.length : Int)) : atI (ns.map V.str) i = some (.str (ns.getD i.toNat "")) := by
  have e : i = ((i.toNat : Nat) : Int) := by omega
  have hl : i.toNat < ns.length := by omega
  rw [e]
  refine atI_nat ?_
  rw [Int.toNat_natCast, List.getElem?_map, List.getElem?_eq_getElem hl, List.getD_eq_getElem?_getD, List.getElem?_eq_getElem hl]; rfl
theorem atI_of {xs : List V} {i : Int} (h0 : 0 ≤ i) (h1 : i < (xs.length : Int)) : atI xs i = some (xs.getD i.toNat .non) := by
  have e : i = ((i.toNat : Nat) : Int) := by omega
  have hl : i.toNat < xs.length := by omega
  rw [e]
  refine atI_nat ?_
  rw [Int.toNat_natCast, List.getElem?_eq_getElem hl, List.getD_eq_getElem?_getD, List.getElem?_eq_getElem hl]; rfl
def CDivS (_ j : Int) : Prop := 0 < j ∧ j < 10 ^ 60
theorem CDivS.ok {i j : Int} (h : CDivS i j) : CDivW i j := by
  refine wide_div (b := 300) h.1 ?_ (by decide) (by decide)
  have h2 := h.2
  have h1 := h.1
  have e : (10 : Int) ^ 60 < 2 ^ 300 := by decide
  have e2 : ((2 : Int) ^ 300) = (((2 : Nat) ^ 300 : Nat) : Int) := by norm_cast
  omega
theorem emod_natAbs {x m : Int} (h : 0 < m) (h2 : m < 2 ^ 64) : (x % m).natAbs < 2 ^ 64 := by
  have h3 := Int.emod_nonneg x (show m ≠ 0 by omega)
  have h4 := Int.emod_lt_of_pos x h
  omega
theorem primes_get {i : Nat} {y : V} (h : [V.int 2147483647, V.int 2147483629, V.int 2147483587, V.int 2147483579, V.int 2147483563][i]? = some y) : ∃ z, y = .int z ∧ 0 < z ∧ z < 4294967296 := by
  match i, h with
  | 0, h => exact ⟨_, (Option.some.inj h).symm, by decide, by decide⟩
  | 1, h => exact ⟨_, (Option.some.inj h).symm, by decide, by decide⟩
  | 2, h => exact ⟨_, (Option.some.inj h).symm, by decide, by decide⟩
  | 3, h => exact ⟨_, (Option.some.inj h).symm, by decide, by decide⟩
  | 4, h => exact ⟨_, (Option.some.inj h).symm, by decide, by decide⟩
  | i + 5, h => exact absurd h (by simp)
theorem tt_cut {t : TT} {σ : L2.St} {H : Hp} {Qt : Bool → Hp → Prop} (P : Bool → Hp → Prop) (h : ∀ Q : Bool → Hp → Prop, (∀ b H', P b H' → Q b H') → t σ H Q) (k : ∀ b H', P b H' → Qt b H') : t σ H Qt := h Qt k
theorem te_cut {t : TE} {σ : L2.St} {H : Hp} {Qt : VK} (P : V → Hp → Prop) (h : ∀ Q : VK, (∀ b H', P b H' → Q b H') → t σ H Q) (k : ∀ b H', P b H' → Qt b H') : t σ H Qt := h Qt k
theorem cut63 (ns : List Int) : cutV (ns.map V.int) none (some 63) = (ns.take 63).map V.int := by
  unfold cutV
  rw [HT.sIx_none, show HT.sIx (ns.map V.int).length (ns.map V.int).length (some 63) = min 63 (ns.map V.int).length from HT.sIx_nat _ _ 63]
  rw [List.drop_zero, Nat.sub_zero, ← List.map_take]
  congr 1
  rw [List.length_map]
  by_cases h : 63 ≤ ns.length
  · rw [Nat.min_eq_left h]
  · rw [Nat.min_eq_right (by omega), List.take_length, List.take_of_length_le (by omega)]
section
variable {X : Cx}
theorem op_fdivS : OpR X (binaryOp .FloorDiv) (rI CDivS fun i j => .int (i / j)) := fun pins s σ H x y v u Q I rx ry h => by
  obtain ⟨i, j, e1, e2, c, q⟩ := h
  exact op_fdivW pins s σ H x y v u Q I rx ry ⟨i, j, e1, e2, c.ok, q⟩
theorem call_intI : CallR X (.type "int") (fun xs H Q => ∃ i, xs = [.int i] ∧ Q (.int i) H) := fun pins s σ H xs us Q I r h => call_int1 pins s σ H xs us Q I r (.inl h)
end
end Sm

namespace Sm
open PySem PySem.W PySem.Calls PyProof.Rows
section
variable {prog : Program} {w : World} {M : Model} {A : Around} {E : Value → Shared → Prop} {s : Shared} {K : Frag} {x C L f : Addr} {h₀ : Heap} {m : Str → Option Value} {ox : Obj} {od : Option Obj} {nm T : String}
/-- own op builtin -/
theorem binL_K {op : Operator} {b : Value} {fo ro rc : Option Value} {Q : Value → Shared → Prop} (F : Fr h₀ L s.heap m) (X₀ : K.In h₀) (I : InstAt s.heap x ox C od) (hb : Looks (model prog w) s.heap (typeOf b) (.type T)) (hc : selfFirst K C = true)
    (hs : findIn K (.ref C) (PySem.dunder op.info.2) = some (some (.ref f))) (hf : isFn K (.ref f) = true) (hr : findIn K (.ref C) (dunderR op.info.2) = some rc) (hp : rc = none ∨ ∃ g : Addr, rc = some (.ref g))
    (h1 : findIn K (.type T) (PySem.dunder op.info.2) = some fo) (h2 : findIn K (.type T) (dunderR op.info.2) = some ro) (hsub : subIn K (.type T) (.ref C) = some false)
    (h : wpAny (model prog w) A (call (.ref f) [.ref x, b]) (PySem.W.CmpBack Q) E s) : wpAny (model prog w) A (binaryOp op (.ref x) b) Q E s := by
  have X := X₀.keeps F.keep
  obtain ⟨cd, rest, hcd, hm⟩ := ksp_first hc
  rcases hi : op.info with ⟨sym, nm'⟩
  rw [hi] at hs hr h1 h2
  dsimp only at hs hr h1 h2
  have one := ksp_try X I hs hf h
  obtain ⟨hh, g, d, tt, os⟩ := s
  have L1 : Looks (model prog w) hh (typeOf (.ref x)) (.ref C) := I.type
  have L2 : Looks (model prog w) hh (typeOf b) (.type T) := hb
  have L3 : Looks (model prog w) hh (fillsNumberSlot (.ref C) nm') true := fills_K X hcd hm hs
  have L4 : Looks (model prog w) hh (fillsNumberSlot (.type T) nm') ((fo.isSome && !isSeqSlot fo) || (ro.isSome && !isSeqSlot ro)) := ksp_fillsT X h1 h2
  have L5 : Looks (model prog w) hh (isSubtype (.type T) (.ref C)) false := looks_subIn X hsub
  have L6 : Looks (model prog w) hh (numberSlotInPython (.ref C) nm') true := ksp_inPy X hs hr hp
  have L7 : Looks (model prog w) hh (numberSlotInPython (.type T) nm') false := Looks.of_pure rfl
  have L8 : Looks (model prog w) hh (typeLookup (.type T) (dunderR nm')) ro := looks_findIn X h2
  generalize ((fo.isSome && !isSeqSlot fo) || (ro.isSome && !isSeqSlot ro)) = right at L4
  have hne : (Value.ref C == Value.type T) = false := Bool.eq_false_iff.mpr fun q => by cases beq_iff_eq.mp q
  simp only [binaryOp, hi]
  refine wpAny_holding (wpAny_bind ?_)
  unfold binaryOp1
  refine wpAny_bind (L1.at (wpAny_bind (L2.at (wpAny_bind (L3.at ?_)))))
  simp only [hne, Bool.false_eq_true, if_false]
  cases right with
  | false =>
    ksp_lk
    refine wpAny_mono one (fun r s' hr' => ?_) fun _ _ e => e
    obtain ⟨v, rfl, hq⟩ := hr'
    ksp_lk
    exact hq
  | true =>
    ksp_lk
    refine wpAny_mono one (fun r s' hr' => ?_) fun _ _ e => e
    obtain ⟨v, rfl, hq⟩ := hr'
    ksp_lk
    exact hq
/-- builtin op own, the builtin's type has no such slot -/
theorem binR_K {op : Operator} {a : Value} {g : Addr} {Q : Value → Shared → Prop} (F : Fr h₀ L s.heap m) (X₀ : K.In h₀) (I : InstAt s.heap x ox C od) (ha : Looks (model prog w) s.heap (typeOf a) (.type T)) (hc : selfFirst K C = true)
    (hs : findIn K (.ref C) (PySem.dunder op.info.2) = some (some (.ref f))) (hr : findIn K (.ref C) (dunderR op.info.2) = some (some (.ref g))) (hg : isFn K (.ref g) = true)
    (h1 : findIn K (.type T) (PySem.dunder op.info.2) = some none) (h2 : findIn K (.type T) (dunderR op.info.2) = some none)
    (h : wpAny (model prog w) A (call (.ref g) [.ref x, a]) (PySem.W.CmpBack Q) E s) : wpAny (model prog w) A (binaryOp op a (.ref x)) Q E s := by
  have X := X₀.keeps F.keep
  obtain ⟨cd, rest, hcd, hm⟩ := ksp_first hc
  rcases hi : op.info with ⟨sym, nm'⟩
  rw [hi] at hs hr h1 h2
  dsimp only at hs hr h1 h2
  have one := ksp_try X I hr hg h
  obtain ⟨hh, gg, d, tt, os⟩ := s
  have L1 : Looks (model prog w) hh (typeOf (.ref x)) (.ref C) := I.type
  have L2 : Looks (model prog w) hh (typeOf a) (.type T) := ha
  have L3 : Looks (model prog w) hh (fillsNumberSlot (.ref C) nm') true := fills_K X hcd hm hs
  have L4 : Looks (model prog w) hh (fillsNumberSlot (.type T) nm') false := ksp_fillsT X h1 h2
  have hne : (Value.type T == Value.ref C) = false := Bool.eq_false_iff.mpr fun q => by cases beq_iff_eq.mp q
  simp only [binaryOp, hi]
  refine wpAny_holding (wpAny_bind ?_)
  unfold binaryOp1
  refine wpAny_bind (L2.at (wpAny_bind (L1.at (wpAny_bind (L4.at ?_)))))
  simp only [hne, Bool.false_eq_true, if_false]
  ksp_lk
  refine wpAny_mono one (fun r s' hr' => ?_) fun _ _ e => e
  obtain ⟨v, rfl, hq⟩ := hr'
  ksp_lk
  exact hq
/-! ### == with a built-in thing on the left -/
theorem isInst_own {T : String} (X : K.In s.heap) (I : InstAt s.heap x ox C od) (hsub : subIn K (.ref C) (.type T) = some false) {Q : Bool → Shared → Prop} (h : Q false s) : wpAny M A (isInstance (.ref x) (.type T)) Q E s := by
  unfold isInstance
  exact wpAny_bind (I.type.here ((looks_subIn X hsub).here h))
theorem list_declines {l : Addr} {ol : Obj} (hl : s.heap.get? l = some ol) (hlc : ol.cls = .type "list") (X : K.In s.heap) (I : InstAt s.heap x ox C od) (hsub : subIn K (.ref C) (.type "list") = some false) {Q : Value → Shared → Prop} (h : Q .notImplemented s) :
    wpAny (model prog w) A (call (.builtin "list.__eq__") [.ref l, .ref x]) Q E s := by
  refine GQ.call_here PySem.F.slot_list_eq ⟨ol, hl, hlc⟩ PySem.F.entry_list_eq (PySem.F.args_list_eq_2 _ _) ?_
  refine wpAny_bind (wpAny_pure ?_)
  refine wpAny_bind (isInst_own X I hsub ?_)
  exact wpAny_pure h
theorem tuple_declines {l : Addr} {ol : Obj} (hl : s.heap.get? l = some ol) (hlc : ol.cls = .type "tuple") (X : K.In s.heap) (I : InstAt s.heap x ox C od) (hsub : subIn K (.ref C) (.type "tuple") = some false) {Q : Value → Shared → Prop} (h : Q .notImplemented s) :
    wpAny (model prog w) A (call (.builtin "tuple.__eq__") [.ref l, .ref x]) Q E s := by
  refine GQ.call_here PySem.F.slot_tuple_eq ⟨ol, hl, hlc⟩ PySem.F.entry_tuple_eq (PySem.F.args_tuple_eq_2 _ _) ?_
  refine wpAny_bind (wpAny_pure ?_)
  refine wpAny_bind (isInst_own X I hsub ?_)
  exact wpAny_pure h
theorem int_declines_own (b : Int) (u : Tok) (l C dx : Addr) :
    Meets (Builtin.«int.__eq__» ⟨[.int b u, .ref l], []⟩) (fun _ R s => s.heap.get? l = some (instObj C dx) ∧ R (.ok (.ret .notImplemented)) s) :=
  .of_wp fun prog w A R s h => by obtain ⟨hp, g, d, tk, os⟩ := s; obtain ⟨hl, h⟩ := h; unfold instObj at hl; wp_walk using AutoSeq1.wpAny_loadPart' hl, wpAny_load hl; exact ⟨_, rfl, h⟩
theorem bool_declines_own (b : Bool) (l C dx : Addr) :
    Meets (Builtin.«int.__eq__» ⟨[.bool b, .ref l], []⟩) (fun _ R s => s.heap.get? l = some (instObj C dx) ∧ R (.ok (.ret .notImplemented)) s) :=
  .of_wp fun prog w A R s h => by obtain ⟨hp, g, d, tk, os⟩ := s; obtain ⟨hl, h⟩ := h; unfold instObj at hl; wp_walk using AutoSeq1.wpAny_loadPart' hl, wpAny_load hl; exact ⟨_, rfl, h⟩
theorem str_declines_own (b : Str) (u : Tok) (l C dx : Addr) :
    Meets (Builtin.«str.__eq__» ⟨[.str b u, .ref l], []⟩) (fun _ R s => s.heap.get? l = some (instObj C dx) ∧ R (.ok (.ret .notImplemented)) s) :=
  .of_wp fun prog w A R s h => by obtain ⟨hp, g, d, tk, os⟩ := s; obtain ⟨hl, h⟩ := h; unfold instObj at hl; wp_walk using AutoSeq1.wpAny_loadPart' hl, wpAny_load hl; exact ⟨_, rfl, h⟩
/-- builtin == own: the builtin declines, the own __eq__ is asked -/
theorem eqR_K {a : Value} {T id : String} {Q : Value → Shared → Prop} (hu : A.units < cLine) (F : Fr h₀ L s.heap m) (X₀ : K.In h₀) (I : InstAt s.heap x ox C od) (ha : s.TypeIs a T) (h1 : Slot T (cmpInfo .Eq).2.1 id)
    (hsub : subIn K (.ref C) (.type T) = some false) (hs : findIn K (.ref C) "__eq__" = some (some (.ref f))) (hf : isFn K (.ref f) = true)
    (hd : ∀ Q' : Value → Shared → Prop, Q' .notImplemented s → wpAny (model prog w) A (call (.builtin id) [a, .ref x]) Q' E s)
    (h : wpAny (model prog w) A (call (.ref f) [.ref x, a]) (PySem.W.CmpBack Q) E s) : wpAny (model prog w) A (richCompare .Eq a (.ref x)) Q E s := by
  have X := X₀.keeps F.keep
  have one : wpAny (model prog w) A (tryCompare (.ref x) "__eq__" a) (fun r s' => ∃ v, r = some v ∧ Q v s') E s := by
    unfold tryCompare
    refine wpAny_bind (ifBound_K X I hs hf (wpAny_mono h (fun v s' hv => ?_) fun _ _ e => e))
    cases v <;> first | exact hv.elim | exact wpAny_pure ⟨_, rfl, hv⟩
  have hne : (Value.type T != Value.ref C) = true := by
    rw [bne_iff_ne]; intro q; cases q
  simp only [richCompare, cmpInfo, ha.oneThing_none]
  refine wpAny_holding (wpAny_bind (wpAny_cRoomFor hu ?_))
  refine wpAny_bind (wpAny_typeOf ha (wpAny_bind (I.type.here ?_)))
  simp only [hne, if_true]
  refine wpAny_bind ((looks_subIn X hsub).here ?_)
  simp only [Bool.false_eq_true, if_false, Bool.not_false, if_true]
  refine wpAny_bind (m := tryCompare a _ _) (wpAny_tryCompare_declines ha h1 (hd _ ⟨rfl, ?_⟩))
  refine wpAny_bind (m := tryCompare (.ref x) _ _) (wpAny_mono one (fun r s' z => ?_) fun _ _ e => e)
  obtain ⟨v, rfl, hq⟩ := z
  exact wpAny_pure hq
/-- a built-in's own special method of an own instance, where the binding may be asked -/
theorem ifBound_B {name : Str} {id : String} {args : List Value} {Q : Option Value → Shared → Prop} (X : K.In s.heap) (I : InstAt s.heap x ox C od) (hs : findIn K (.ref C) name = some (some (.builtin id))) (hb : ∀ self, bindSpecial (.builtin id) self = pure (.builtin id, [self]))
    (h : wpAny M A (call (.builtin id) (.ref x :: args)) (fun v => Q (some v)) E s) : wpAny M A (callSpecialIfBound? (.ref x) name args) Q E s := by
  simp only [callSpecialIfBound?, bindSpecialIfBound?]
  refine wpAny_holding (wpAny_bind (wpAny_bind (wpAny_bind (I.type.here ((looks_findIn X hs).here ?_)))))
  refine wpAny_bind (wpAny_askSetting (wpAny_ite ?_))
  have fin : wpAny M A (call (.builtin id) ([.ref x] ++ args) >>= fun v => pure (some v)) Q E s := wpAny_bind (wpAny_mono h (fun v s' h' => wpAny_pure h') fun _ _ h' => h')
  split
  · exact wpAny_bind ((Looks.of_pure (hb _)).here (wpAny_pure (by exact fin)))
  · exact wpAny_tryCatch (wpAny_bind ((Looks.of_pure (hb _)).here (wpAny_pure (by exact fin))))
/-- own != b by object.__ne__ -/
theorem neL_K {b tb : Value} {Q : Value → Shared → Prop} (hu : A.units + 8 < cLine) (F : Fr h₀ L s.heap m) (X₀ : K.In h₀) (I : InstAt s.heap x ox C od) (hb : Looks (model prog w) s.heap (typeOf b) tb) (hn : notFirst K C tb = true) (hm : mroIn K C (.type "object") = some true)
    (hne : findIn K (.ref C) "__ne__" = some (some (.builtin "object.__ne__"))) (hs : findIn K (.ref C) "__eq__" = some (some (.ref f))) (hf : isFn K (.ref f) = true)
    (h : wpAny (model prog w) A.in1 (call (.ref f) [.ref x, b]) (PySem.W.BoolBack fun c s' => Q (.bool (!c)) s') E s) : wpAny (model prog w) A (richCompare .NotEq (.ref x) b) Q E s := by
  have X := X₀.keeps F.keep
  have hu0 : A.units < cLine := by omega
  have hu1 : A.in1.units < cLine := by show A.units + 1 < cLine; omega
  have one : wpAny (model prog w) A (tryCompare (.ref x) "__ne__" b) (fun r s' => ∃ v, r = some v ∧ Q v s') E s := by
    unfold tryCompare
    refine wpAny_bind (ifBound_B X I hne PySem.F.slot_object_ne.bind ?_)
    refine wpAny_call (codeAny_call_builtin PySem.F.slot_object_ne.plain PySem.F.cmpEntry_ne (check_slot (i := "object.__ne__") (owner := "object") (n := "__ne__") (by decide +kernel) (by decide +kernel) (I.type.andThen (looks_mroIn X hm)) (PySem.F.cmpArgs_ne _ _) ?_))
    unfold Builtin.«object.__ne__»
    refine wpAny_bind (m := slotArgs "__ne__" 1 _) (wpAny_pure ?_)
    refine wpAny_bind (m := cRoomFor _ _) (wpAny_cRoomFor hu1 ?_)
    refine wpAny_bind (m := callSpecialIfBound? (.ref x) (Str.ofString "__eq__") _) (ifBound_K X I hs hf (wpAny_mono h (fun r s' hq => ?_) fun _ _ y => y))
    cases r <;> first | exact hq.elim | skip
    exact wpAny_bind (wpAny_truthy_bool (wpAny_pure (wpAny_pure ⟨_, rfl, hq⟩)))
  unfold richCompare
  simp only [oneThing_ref]
  refine wpAny_holding (wpAny_bind (wpAny_cRoomFor hu0 ?_))
  refine wpAny_bind (I.type.here (wpAny_bind (hb.here ?_)))
  split
  · rename_i q
    have e : subIn K tb (.ref C) = some false := by
      rcases Bool.or_eq_true_iff.mp hn with e | e
      · rw [beq_iff_eq.mp e] at q; simp at q
      · exact beq_iff_eq.mp e
    refine wpAny_bind ((looks_subIn X e).here ?_)
    simp only [Bool.false_eq_true, if_false]
    refine wpAny_bind (wpAny_mono one (fun r s' z => ?_) fun _ _ e => e)
    obtain ⟨v, rfl, hq⟩ := z
    exact wpAny_pure hq
  · refine wpAny_bind (wpAny_pure ?_)
    simp only [Bool.false_eq_true, if_false]
    refine wpAny_bind (wpAny_mono one (fun r s' z => ?_) fun _ _ e => e)
    obtain ⟨v, rfl, hq⟩ := z
    exact wpAny_pure hq
/-- truth by an own __len__ -/
theorem truthyLen_K {Q : Bool → Shared → Prop} (F : Fr h₀ L s.heap m) (X₀ : K.In h₀) (I : InstAt s.heap x ox C od) (hs : findIn K (.ref C) "__bool__" = some none) (hl : findIn K (.ref C) "__len__" = some (some (.ref f))) (hf : isFn K (.ref f) = true)
    (h : wpAny (model prog w) A.in1 (call (.ref f) [.ref x]) (PySem.W.LenBack fun v s' => ∃ n t, v = .int n t ∧ Q (n != 0) s') E s) : wpAny (model prog w) A (truthy (.ref x)) Q E s := by
  have X := X₀.keeps F.keep
  unfold truthy
  refine wpAny_bind (m := callSpecial? (.ref x) (Str.ofString "__bool__")) (wpAny_bind (wpAny_bind (I.type.here ((looks_findIn X hs).here (wpAny_pure ?_)))))
  refine wpAny_bind (wpAny_bind (I.type.here ((looks_findIn X hl).here ?_)))
  refine wpAny_bind (wpAny_runValue (codeAny_builtin entry_len ?_))
  unfold Builtin.«len»
  refine wpAny_bind (m := oneArg "len" _) (wpAny_pure ?_)
  refine wpAny_bind (m := callSpecial? (.ref x) (Str.ofString "__len__")) (special_fn X I hl (beq_iff_eq.mp hf) (wpAny_mono h (fun r s' hr => ?_) fun _ _ y => y))
  cases r <;> first | exact hr.elim | skip
  rename_i n u
  obtain ⟨⟨h0, h1⟩, n', t', e', hq⟩ := hr
  cases e'
  refine wpAny_bind (wpAny_holding (wpAny_pure ?_))
  refine wpAny_bind (wpAny_letGo ?_)
  show wpAny _ _ (if n < 0 then _ else _) _ _ _
  rw [if_neg (by omega)]
  show wpAny _ _ (if n ≥ 2 ^ 63 then _ else _) _ _ _
  rw [if_neg (by omega)]
  exact wpAny_bind (wpAny_mkInt (wpAny_pure (wpAny_pure hq)))
end
end Sm

namespace Sm
open PySem PySem.Spec PyProof.Rows L2
/-- what an own class answers to the operators -/
structure OwnC (K : PySem.W.Frag) (C : Addr) : Prop where
  sf : PySem.W.selfFirst K C = true
  ob : PySem.W.mroIn K C (.type "object") = some true
  nl : PySem.W.subIn K (.ref C) (.type "list") = some false
  nt : PySem.W.subIn K (.ref C) (.type "tuple") = some false
  ni : PySem.W.subIn K (.ref C) (.type "int") = some false
  nb : PySem.W.subIn K (.ref C) (.type "bool") = some false
  ns : PySem.W.subIn K (.ref C) (.type "str") = some false
  nn : PySem.W.subIn K (.ref C) (.type "NoneType") = some false
  nd : PySem.W.subIn K (.ref C) (.type "dict") = some false
  ne : PySem.W.findIn K (.ref C) "__ne__" = some (some (.builtin "object.__ne__"))
  bo : PySem.W.findIn K (.ref C) "__bool__" = some none
/-- the type of a value that is met -/
inductive TyV (K : PySem.W.Frag) (H : Hp) : V → String → Prop where
  | non : TyV K H .non "NoneType"
  | bl (b : Bool) : TyV K H (.bl b) "bool"
  | int (i : Int) : TyV K H (.int i) "int"
  | str (z : Str) : TyV K H (.str z) "str"
  | lst {a : Addr} {xs : List V} (h : SqL K H a xs) : TyV K H (.ref a) "list"
  | tup {a : Addr} {xs : List V} (h : SqT K H a xs) : TyV K H (.ref a) "tuple"
  | dK {a : Addr} {kvs : List (Key × V)} (h : H a = some (.dK kvs)) : TyV K H (.ref a) "dict"
section
variable {X : Cx} {CX : CXT} {k : Nat} {f C : Addr} {fd : FuncData} {ps : List Str} {sp : Sp} {E : XK} {pins : List (Addr × Obj)} {σ : L2.St} {H : Hp} {s : Shared}
theorem TyV.looks {x : V} {u : Value} {T : String} {M : Model} (I : Inv X pins σ H s) (r : RelV x u) (t : TyV X.K H x T) : PySem.W.Looks M s.heap (typeOf u) (.type T) := by
  cases t with
  | non => cases (show u = Value.none from r); exact PySem.W.Looks.of_pure rfl
  | bl b => cases (show u = Value.bool b from r); exact PySem.W.Looks.of_pure rfl
  | int i => obtain ⟨t, q⟩ := (show ∃ t, u = Value.int i t from r); subst q; exact PySem.W.Looks.of_pure rfl
  | str z => obtain ⟨t, q⟩ := (show ∃ t, u = Value.str z t from r); subst q; exact PySem.W.Looks.of_pure rfl
  | @lst a xs h =>
    cases (show u = Value.ref a from r)
    obtain ⟨its, rv, ⟨o, n, e, c, _⟩, _⟩ := I.list h
    exact c ▸ (PySem.W.Looks.ld e).andThen .now
  | @tup a xs h =>
    cases (show u = Value.ref a from r)
    obtain ⟨its, rv, ⟨o, e, c, _⟩, _⟩ := I.tuple h
    exact c ▸ (PySem.W.Looks.ld e).andThen .now
  | @dK a kvs h =>
    cases (show u = Value.ref a from r)
    obtain ⟨_, _, vs, _, o, es, ep, h1, h2, _⟩ := (show ObjOk X.prog X.w H s.heap a (.dK kvs) from I.hok a _ h)
    exact h2.1 ▸ (PySem.W.Looks.ld h1).andThen .now
/-- the callee runs somewhere below -/
theorem run_at {A' : Around} {Q : VK} {us : List Value} {vs : List V} (F : FnOk X.prog X.w X.K X.mg X.base CX k f fd ps sp) (hr : Room k A') (hfr : A'.frames = X.A.frames) (hb : Binds X.K fd ps []) (hx : Passes CX X E)
    (I : Inv X pins σ H s) (r : Vals vs us) (h : sp vs H Q E) : wpAny (model X.prog X.w) A' (call (.ref f) us) (EP X pins σ Q) X.xe s := by
  have e0 : Env0 X.prog X.w X.K X.mg X.base A' X.stack s H := by
    have e := I.env0
    exact ⟨by rw [hfr]; exact e.frames, e.mod, e.bs, e.bsz, e.funs, e.frf, e.hok, e.bare⟩
  have hl : us.length = ps.length := by rw [← r.length]; exact F.len _ _ _ _ h
  refine wpAny_call (codeAny_mono (F.run A' X.stack s H ⟨us, []⟩ us vs Q E hr e0 (by
    have := hb s us I.kIn (by simpa using hl)
    simpa using this) r h) fun r s' hq => ?_)
  cases r with
  | error e => exact hx pins σ H s e s' I hq
  | ok fl =>
    cases fl with
    | ret u => exact I.after hq
    | next => exact False.elim hq
    | brk => exact False.elim hq
    | cont => exact False.elim hq
theorem rel_ni {v : V} {u : Value} (r : RelV v u) : u ≠ .notImplemented := by
  intro e; subst e
  cases v <;> first | (cases r; done) | (obtain ⟨t, q⟩ := r; cases q)
theorem back_of {Q : VK} {u : Value} {s' : Shared} (h : EP X pins σ Q u s') : PySem.W.CmpBack (EP X pins σ Q) u s' := by
  obtain ⟨v, H', I', r, q⟩ := id h
  have n := rel_ni r
  cases u <;> first | exact h | exact absurd rfl n
theorem inst_of {a dx : Addr} {fs : List (Str × V)} (I : Inv X pins σ H s) (e : H a = some (.ins C dx fs)) : ∃ od, PySem.W.InstAt s.heap a (PySem.W.instObj C dx) C (some od) := by
  obtain ⟨mA, J, _⟩ := ins_get I.hok e
  obtain ⟨od, J, _⟩ := J.look
  exact ⟨od, J⟩
/-- own op y, y of a built-in type or of the same class -/
def rOwnL (K : PySem.W.Frag) (C : Addr) (nm : String) (sp : Sp) (E : XK) : R2 := fun x y H Q => ∃ a dx fs, x = .ref a ∧ H a = some (.ins C dx fs) ∧
  ((∃ T fo ro, TyV K H y T ∧ PySem.W.findIn K (.type T) (PySem.dunder nm) = some fo ∧ PySem.W.findIn K (.type T) (dunderR nm) = some ro ∧ PySem.W.subIn K (.type T) (.ref C) = some false) ∨ ∃ b dy gs, y = .ref b ∧ H b = some (.ins C dy gs)) ∧ sp [x, y] H Q E
theorem op_ownL {op : Operator} {g : Addr} (F : FnOk X.prog X.w X.K X.mg X.base CX k f fd ps sp) (hr : Room k X.A) (hb : Binds X.K fd ps []) (hx : Passes CX X E) (O : OwnC X.K C) (m : Meth X.K C (PySem.dunder op.info.2) f) (m' : Meth X.K C (dunderR op.info.2) g) :
    OpR X (binaryOp op) (rOwnL X.K C op.info.2 sp E) := by
  intro pins s σ H x y v u Q I rx ry h
  obtain ⟨a, dx, fs, rfl, ea, ty, q⟩ := h
  obtain rfl : v = Value.ref a := rx
  obtain ⟨od, J⟩ := inst_of I ea
  obtain ⟨mm, hF⟩ := I.fr
  have run := run_at F hr rfl hb hx I (.cons (show RelV (.ref a) (Value.ref a) from rfl) (.cons ry .nil)) q
  rcases ty with ⟨T, fo, ro, ty, h1, h2, h3⟩ | ⟨b, dy, gs, rfl, eb⟩
  · exact binL_K hF I.ok.mod.kin J (ty.looks I ry) O.sf m.at_ m.fn m'.at_ (.inr ⟨_, rfl⟩) h1 h2 h3 (thn run fun u s' h => back_of h)
  · obtain rfl : u = Value.ref b := ry
    obtain ⟨od', J'⟩ := inst_of I eb
    exact PySem.W.binop_K hF I.ok.mod.kin J J'.type O.sf m.at_ m.fn (thn run fun u s' h => back_of h)
/-- y op own, y of a built-in type without that slot -/
def rOwnR (K : PySem.W.Frag) (C : Addr) (nm : String) (sp : Sp) (E : XK) : R2 := fun x y H Q => ∃ a dx fs T, y = .ref a ∧ H a = some (.ins C dx fs) ∧ TyV K H x T ∧ PySem.W.findIn K (.type T) (PySem.dunder nm) = some none ∧ PySem.W.findIn K (.type T) (dunderR nm) = some none ∧ sp [y, x] H Q E
theorem op_ownR {op : Operator} {g : Addr} (F : FnOk X.prog X.w X.K X.mg X.base CX k f fd ps sp) (hr : Room k X.A) (hb : Binds X.K fd ps []) (hx : Passes CX X E) (O : OwnC X.K C) (m : Meth X.K C (dunderR op.info.2) f) (m' : Meth X.K C (PySem.dunder op.info.2) g) :
    OpR X (binaryOp op) (rOwnR X.K C op.info.2 sp E) := by
  intro pins s σ H x y v u Q I rx ry h
  obtain ⟨a, dx, fs, T, rfl, ea, ty, h1, h2, q⟩ := h
  obtain rfl : u = Value.ref a := ry
  obtain ⟨od, J⟩ := inst_of I ea
  obtain ⟨mm, hF⟩ := I.fr
  have run := run_at F hr rfl hb hx I (.cons (show RelV (.ref a) (Value.ref a) from rfl) (.cons rx .nil)) q
  exact binR_K hF I.ok.mod.kin J (ty.looks I rx) O.sf m'.at_ m.at_ m.fn h1 h2 (thn run fun u s' h => back_of h)
/-- own == y, own != y -/
def rOwnEq (K : PySem.W.Frag) (C : Addr) (sp : Sp) (E : XK) : R2 := fun x y H Q => ∃ a dx fs, x = .ref a ∧ H a = some (.ins C dx fs) ∧ ((∃ T, TyV K H y T ∧ PySem.W.subIn K (.type T) (.ref C) = some false) ∨ ∃ b dy gs, y = .ref b ∧ H b = some (.ins C dy gs)) ∧ sp [x, y] H Q E
def rOwnNe (K : PySem.W.Frag) (C : Addr) (sp : Sp) (E : XK) : R2 := fun x y H Q => rOwnEq K C sp E x y H fun v H' => ∃ c, v = .bl c ∧ Q (.bl (!c)) H'
theorem op_ownEq (F : FnOk X.prog X.w X.K X.mg X.base CX k f fd ps sp) (hr : Room k X.A) (hb : Binds X.K fd ps []) (hx : Passes CX X E) (m : Meth X.K C "__eq__" f) : OpR X (compareOp .Eq) (rOwnEq X.K C sp E) := by
  intro pins s σ H x y v u Q I rx ry h
  obtain ⟨a, dx, fs, rfl, ea, ty, q⟩ := h
  obtain rfl : v = Value.ref a := rx
  obtain ⟨od, J⟩ := inst_of I ea
  obtain ⟨mm, hF⟩ := I.fr
  have run := run_at F hr rfl hb hx I (.cons (show RelV (.ref a) (Value.ref a) from rfl) (.cons ry .nil)) q
  rcases ty with ⟨T, ty, h3⟩ | ⟨b, dy, gs, rfl, eb⟩
  · exact PySem.W.cmp_K (op := .Eq) hr.units0 hF I.ok.mod.kin J (ty.looks I ry) (by unfold PySem.W.notFirst; rw [h3]; simp) m.at_ m.fn (thn run fun u s' h => back_of h)
  · obtain rfl : u = Value.ref b := ry
    obtain ⟨od', J'⟩ := inst_of I eb
    exact PySem.W.cmp_K (op := .Eq) hr.units0 hF I.ok.mod.kin J J'.type (by simp [PySem.W.notFirst]) m.at_ m.fn (thn run fun u s' h => back_of h)
theorem bool_back {Q : VK} {u : Value} {s' : Shared} (h : EP X pins σ (fun v H' => ∃ c, v = .bl c ∧ Q (.bl (!c)) H') u s') : PySem.W.BoolBack (fun c s' => EP X pins σ Q (.bool (!c)) s') u s' := by
  obtain ⟨v, H', I', r, c, rfl, q⟩ := h
  cases (show u = Value.bool c from r)
  exact ⟨.bl (!c), H', I', rfl, q⟩
theorem op_ownNe (F : FnOk X.prog X.w X.K X.mg X.base CX k f fd ps sp) (hr : Room (k + 1) X.A) (hb : Binds X.K fd ps []) (hx : Passes CX X E) (O : OwnC X.K C) (m : Meth X.K C "__eq__" f) : OpR X (compareOp .NotEq) (rOwnNe X.K C sp E) := by
  intro pins s σ H x y v u Q I rx ry h
  obtain ⟨a, dx, fs, rfl, ea, ty, q⟩ := h
  obtain rfl : v = Value.ref a := rx
  obtain ⟨od, J⟩ := inst_of I ea
  obtain ⟨mm, hF⟩ := I.fr
  have hu8 : X.A.units + 8 < cLine := by have := hr.un; omega
  have run := run_at (A' := X.A.in1) F hr.in1 rfl hb hx I (.cons (show RelV (.ref a) (Value.ref a) from rfl) (.cons ry .nil)) q
  rcases ty with ⟨T, ty, h3⟩ | ⟨b, dy, gs, rfl, eb⟩
  · exact neL_K hu8 hF I.ok.mod.kin J (ty.looks I ry) (by unfold PySem.W.notFirst; rw [h3]; simp) O.ob O.ne m.at_ m.fn (thn run fun u s' h => bool_back h)
  · obtain rfl : u = Value.ref b := ry
    obtain ⟨od', J'⟩ := inst_of I eb
    exact neL_K hu8 hF I.ok.mod.kin J J'.type (by simp [PySem.W.notFirst]) O.ob O.ne m.at_ m.fn (thn run fun u s' h => bool_back h)
/-- y == own, y of a built-in type -/
def rEqOwn (K : PySem.W.Frag) (C : Addr) (sp : Sp) (E : XK) : R2 := fun x y H Q => ∃ a dx fs T, y = .ref a ∧ H a = some (.ins C dx fs) ∧ TyV K H x T ∧ T ≠ "dict" ∧ sp [y, x] H Q E
theorem op_eqOwn (F : FnOk X.prog X.w X.K X.mg X.base CX k f fd ps sp) (hr : Room k X.A) (hb : Binds X.K fd ps []) (hx : Passes CX X E) (O : OwnC X.K C) (m : Meth X.K C "__eq__" f) : OpR X (compareOp .Eq) (rEqOwn X.K C sp E) := by
  intro pins s σ H x y v u Q I rx ry h
  obtain ⟨a, dx, fs, T, rfl, ea, ty, nd, q⟩ := h
  obtain rfl : u = Value.ref a := ry
  obtain ⟨od, J⟩ := inst_of I ea
  obtain ⟨mm, hF⟩ := I.fr
  have run := run_at F hr rfl hb hx I (.cons (show RelV (.ref a) (Value.ref a) from rfl) (.cons rx .nil)) q
  have run' := thn run fun u s' h => back_of h
  have hat := J.at_
  cases ty with
  | non =>
    cases (show v = Value.none from rx)
    exact eqR_K hr.units0 hF I.ok.mod.kin J (typeIs_none _) PySem.F.slot_NoneType_eq O.nn m.at_ m.fn (fun Q' h' => call_gives PySem.F.slot_NoneType_eq (typeIs_none _) PySem.F.entry_NoneType_eq (PySem.F.args_NoneType_eq_2 _ _) (PySem.SeqAt.NoneType___eq___none_ref_0 a) h') run'
  | bl b =>
    cases (show v = Value.bool b from rx)
    exact eqR_K hr.units0 hF I.ok.mod.kin J (PySem.typeIs_bool _ _) PySem.F.slot_bool_eq O.nb m.at_ m.fn (fun Q' h' => call_meets PySem.F.slot_bool_eq (PySem.typeIs_bool _ _) PySem.F.entry_int_eq (PySem.F.args_int_eq_2 _ _) (bool_declines_own b a C dx) ⟨hat, h'⟩) run'
  | int i =>
    obtain ⟨t, e⟩ := (show ∃ t, v = Value.int i t from rx); subst e
    exact eqR_K hr.units0 hF I.ok.mod.kin J (typeIs_int _ _ _) PySem.F.slot_int_eq O.ni m.at_ m.fn (fun Q' h' => call_meets PySem.F.slot_int_eq (typeIs_int _ _ _) PySem.F.entry_int_eq (PySem.F.args_int_eq_2 _ _) (int_declines_own i t a C dx) ⟨hat, h'⟩) run'
  | str z =>
    obtain ⟨t, e⟩ := (show ∃ t, v = Value.str z t from rx); subst e
    exact eqR_K hr.units0 hF I.ok.mod.kin J (typeIs_str _ _ _) PySem.F.slot_str_eq O.ns m.at_ m.fn (fun Q' h' => call_meets PySem.F.slot_str_eq (typeIs_str _ _ _) PySem.F.entry_str_eq (PySem.F.args_str_eq_2 _ _) (str_declines_own z t a C dx) ⟨hat, h'⟩) run'
  | @lst l xs hl =>
    cases (show v = Value.ref l from rx)
    obtain ⟨its, rv, ⟨o, n, e, c, _⟩, _⟩ := I.list hl
    exact eqR_K hr.units0 hF I.ok.mod.kin J ⟨o, e, c⟩ PySem.F.slot_list_eq O.nl m.at_ m.fn (fun Q' h' => list_declines e c I.kIn J O.nl h') run'
  | @tup l xs hl =>
    cases (show v = Value.ref l from rx)
    obtain ⟨its, rv, ⟨o, e, c, _⟩, _⟩ := I.tuple hl
    exact eqR_K hr.units0 hF I.ok.mod.kin J ⟨o, e, c⟩ PySem.F.slot_tuple_eq O.nt m.at_ m.fn (fun Q' h' => tuple_declines e c I.kIn J O.nt h') run'
  | dK h => exact absurd rfl nd
/-- y in own, y not in own -/
def rOwnIn (C : Addr) (neg : Bool) (sp : Sp) (E : XK) : R2 := fun x y H Q => ∃ a dx fs, y = .ref a ∧ H a = some (.ins C dx fs) ∧ sp [y, x] H (fun v H' => ∃ c, v = .bl c ∧ Q (.bl (if neg then !c else c)) H') E
theorem op_ownIn (F : FnOk X.prog X.w X.K X.mg X.base CX k f fd ps sp) (hr : Room k X.A) (hb : Binds X.K fd ps []) (hx : Passes CX X E) (m : Meth X.K C "__contains__" f) : OpR X (compareOp .In) (rOwnIn C false sp E) := by
  intro pins s σ H x y v u Q I rx ry h
  obtain ⟨a, dx, fs, rfl, ea, q⟩ := h
  obtain rfl : u = Value.ref a := ry
  obtain ⟨od, J⟩ := inst_of I ea
  obtain ⟨mm, hF⟩ := I.fr
  have run := run_at F hr rfl hb hx I (.cons (show RelV (.ref a) (Value.ref a) from rfl) (.cons rx .nil)) q
  refine PySem.W.in_K hF I.ok.mod.kin J m.at_ m.fn (thn run fun u s' h => ?_)
  obtain ⟨w, H', I', r, c, rfl, q⟩ := h
  cases (show u = Value.bool c from r)
  exact wpAny_truthy_bool ⟨.bl c, H', I', rfl, q⟩
theorem op_ownNotIn (F : FnOk X.prog X.w X.K X.mg X.base CX k f fd ps sp) (hr : Room k X.A) (hb : Binds X.K fd ps []) (hx : Passes CX X E) (m : Meth X.K C "__contains__" f) : OpR X (compareOp .NotIn) (rOwnIn C true sp E) := by
  intro pins s σ H x y v u Q I rx ry h
  obtain ⟨a, dx, fs, rfl, ea, q⟩ := h
  obtain rfl : u = Value.ref a := ry
  obtain ⟨od, J⟩ := inst_of I ea
  obtain ⟨mm, hF⟩ := I.fr
  have run := run_at F hr rfl hb hx I (.cons (show RelV (.ref a) (Value.ref a) from rfl) (.cons rx .nil)) q
  refine PySem.W.notIn_K hF I.ok.mod.kin J m.at_ m.fn (thn run fun u s' h => ?_)
  obtain ⟨w, H', I', r, c, rfl, q⟩ := h
  cases (show u = Value.bool c from r)
  exact wpAny_truthy_bool ⟨.bl (!c), H', I', rfl, q⟩
/-- len(own) -/
def rOwnLen (C : Addr) (sp : Sp) (E : XK) : List V → Hp → VK → Prop := fun xs H Q => ∃ a dx fs, xs = [.ref a] ∧ H a = some (.ins C dx fs) ∧ sp [.ref a] H (fun v H' => ∃ n : Nat, v = .int n ∧ n ≤ sizeLine ∧ Q (.int n) H') E
theorem call_ownLen (F : FnOk X.prog X.w X.K X.mg X.base CX k f fd ps sp) (hr : Room (k + 1) X.A) (hb : Binds X.K fd ps []) (hx : Passes CX X E) (m : Meth X.K C "__len__" f) : CallR X (.builtin "len") (rOwnLen C sp E) := by
  intro pins s σ H xs us Q I r h
  obtain ⟨a, dx, fs, rfl, ea, q⟩ := h
  have hus := Vals.ref1 r
  subst hus
  obtain ⟨od, J⟩ := inst_of I ea
  obtain ⟨mm, hF⟩ := I.fr
  have run := run_at (A' := X.A.in1) F hr.in1 rfl hb hx I (.cons (show RelV (.ref a) (Value.ref a) from rfl) .nil) q
  refine PySem.W.len_K hF I.ok.mod.kin J m.at_ m.fn (thn run fun u s' h => ?_)
  obtain ⟨w, H', I', r, n, rfl, hn, q⟩ := h
  obtain ⟨t, e⟩ := (show ∃ t, u = Value.int n t from r); subst e
  have hl := line63
  exact ⟨⟨by omega, by omega⟩, .int n, H', I'.tok _, ⟨_, rfl⟩, q⟩
/-- truth of own by its __len__ -/
def rOwnTru (C : Addr) (sp : Sp) (E : XK) : V → Hp → (Bool → Hp → Prop) → Prop := fun x H Q => ∃ a dx fs, x = .ref a ∧ H a = some (.ins C dx fs) ∧ sp [.ref a] H (fun v H' => ∃ n : Nat, v = .int n ∧ n ≤ sizeLine ∧ Q (decide (n ≠ 0)) H') E
theorem tru_own (F : FnOk X.prog X.w X.K X.mg X.base CX k f fd ps sp) (hr : Room (k + 1) X.A) (hb : Binds X.K fd ps []) (hx : Passes CX X E) (O : OwnC X.K C) (m : Meth X.K C "__len__" f) : TruR X (rOwnTru C sp E) := by
  intro pins s σ H x v Q I rx h
  obtain ⟨a, dx, fs, rfl, ea, q⟩ := h
  obtain rfl : v = Value.ref a := rx
  obtain ⟨od, J⟩ := inst_of I ea
  obtain ⟨mm, hF⟩ := I.fr
  have run := run_at (A' := X.A.in1) F hr.in1 rfl hb hx I (.cons (show RelV (.ref a) (Value.ref a) from rfl) .nil) q
  refine truthyLen_K hF I.ok.mod.kin J O.bo m.at_ m.fn (thn run fun u s' h => ?_)
  obtain ⟨w, H', I', r, n, rfl, hn, q⟩ := h
  obtain ⟨t, e⟩ := (show ∃ t, u = Value.int n t from r); subst e
  have hl := line63
  refine ⟨⟨by omega, by omega⟩, n, _, rfl, H', I'.tok _, ?_⟩
  have e : ((n : Int) != 0) = decide (n ≠ 0) := by
    by_cases z : n = 0
    · subst z; rfl
    · have z' : (n : Int) ≠ 0 := by omega
      rw [bne_iff_ne.mpr z', decide_eq_true z]
  rw [e]; exact q
/-- not own -/
def tNotTru (r : V → Hp → (Bool → Hp → Prop) → Prop) (ta : TE) : TE := fun σ H Q => ta σ H fun x H1 => r x H1 fun c H2 => Q (.bl (!c)) H2
theorem pe_notTru {r : V → Hp → (Bool → Hp → Prop) → Prop} {a : Expr} {ta : TE} {pos : Pos} (hr : TruR X r) (ha : PE X a ta) : PE X (.UnaryOp .Not a pos) (tNotTru r ta) := by
  refine ⟨fun pins s σ H Q I h => ?_⟩
  refine UnaryOp_ (thn (ha.run pins s σ H _ I h) fun v s1 ⟨x, H1, I1, r1, q1⟩ => ?_)
  exact not_of (thn (hr pins s1 σ H1 x v _ I1 r1 q1) fun c s2 ⟨H2, I2, q2⟩ => ⟨.bl (!c), H2, I2, rfl, q2⟩)
end
end Sm

namespace Sm
open PySem PySem.Spec PyProof.Rows L2
/-! ### words -/
def lettersL : List Nat := ("abcdefghijklmnopqrstuvwxyz" : Str).cps.toList
def isW (x : Str) : Bool := decide (1 ≤ x.length ∧ x.length ≤ 8) && x.cps.toList.all fun c => decide (c ∈ lettersL)
def isWV : V → Bool
  | .str x => isW x
  | _ => false
abbrev LtS (x y : Str) : Prop := x.cps.toList < y.cps.toList
def Asc (ws : List Str) : Prop := ws.Pairwise LtS
theorem ltS_irrefl (x : Str) : ¬ LtS x x := List.lt_irrefl _
theorem ltS_trans {x y z : Str} (a : LtS x y) (b : LtS y z) : LtS x z := List.lt_trans a b
theorem ltS_asymm {x y : Str} (a : LtS x y) : ¬ LtS y x := List.lt_asymm a
theorem str_ext {x y : Str} (h : x.cps.toList = y.cps.toList) : x = y := by
  cases x; cases y; congr 1; exact Array.toList_inj.mp h
theorem ltS_tri (x y : Str) : LtS x y ∨ x = y ∨ LtS y x := by
  by_cases h : LtS x y
  · exact .inl h
  · by_cases h2 : LtS y x
    · exact .inr (.inr h2)
    · refine .inr (.inl (str_ext ?_))
      exact List.le_antisymm (List.not_lt.mp h2) (List.not_lt.mp h)
theorem Asc.nodup {ws : List Str} (h : Asc ws) : ws.Nodup := h.imp fun {a b} l e => by subst e; exact ltS_irrefl _ l
theorem asc_ext : ∀ {a b : List Str}, Asc a → Asc b → (∀ x, x ∈ a ↔ x ∈ b) → a = b
  | [], [], _, _, _ => rfl
  | [], y :: b, _, _, h => by have := (h y).mpr List.mem_cons_self; cases this
  | x :: a, [], _, _, h => by have := (h x).mp List.mem_cons_self; cases this
  | x :: a, y :: b, ha, hb, h => by
    have ha' := List.pairwise_cons.mp ha
    have hb' := List.pairwise_cons.mp hb
    have e : x = y := by
      rcases List.mem_cons.mp ((h x).mp List.mem_cons_self) with e | e
      · exact e
      · rcases List.mem_cons.mp ((h y).mpr List.mem_cons_self) with e2 | e2
        · exact e2.symm
        · exact absurd (ltS_trans (ha'.1 _ e2) (hb'.1 _ e)) (ltS_irrefl _)
    subst e
    congr 1
    refine asc_ext ha'.2 hb'.2 fun z => ?_
    constructor
    · intro hz
      rcases List.mem_cons.mp ((h z).mp (List.mem_cons_of_mem _ hz)) with e | e
      · subst e; exact absurd (ha'.1 _ hz) (ltS_irrefl _)
      · exact e
    · intro hz
      rcases List.mem_cons.mp ((h z).mpr (List.mem_cons_of_mem _ hz)) with e | e
      · subst e; exact absurd (hb'.1 _ hz) (ltS_irrefl _)
      · exact e
theorem eqV_str (x y : Str) : eqV (.str x) (.str y) = decide (x = y) := by
  unfold eqV; exact (Bool.beq_eq_decide_eq x y)
theorem inV_str (x : Str) (ws : List Str) : inV (.str x) (ws.map V.str) = decide (x ∈ ws) := by
  induction ws with
  | nil => rfl
  | cons w r ih =>
    show (eqV (.str w) (.str x) || inV (.str x) (r.map V.str)) = _
    rw [ih, eqV_str]
    by_cases e : w = x
    · subst e; simp
    · have e' : ¬ x = w := fun z => e z.symm
      simp [e, e']
theorem flat_strs (ws : List Str) : (ws.map V.str).all flatV = true := by
  rw [List.all_eq_true]
  intro v hv
  obtain ⟨w, _, rfl⟩ := List.mem_map.mp hv
  rfl
theorem risingS_pair : ∀ (x : Str) (r : List Str), risingS x r = true → (x :: r).Pairwise fun a b => ¬ LtS b a
  | x, [], _ => List.pairwise_singleton _ _
  | x, y :: r, h => by
    unfold risingS at h
    rw [Bool.and_eq_true] at h
    have ih := risingS_pair y r h.2
    have hxy : ¬ LtS y x := by
      have := h.1
      rw [ltCps_eq] at this
      intro z
      rw [decide_eq_true z] at this
      cases this
    refine List.pairwise_cons.mpr ⟨fun z hz => ?_, ih⟩
    rcases List.mem_cons.mp hz with e | e
    · subst e; exact hxy
    · intro l
      have hyz := (List.pairwise_cons.mp ih).1 z e
      rcases ltS_tri y z with q | q | q
      · exact hxy (ltS_trans q l)
      · subst q; exact hxy l
      · exact hyz q
theorem sortedS_asc {ys : List Str} (h : sortedS ys = true) (nd : ys.Nodup) : Asc ys := by
  cases ys with
  | nil => exact List.Pairwise.nil
  | cons x r =>
    have p := risingS_pair x r h
    have q : (x :: r).Pairwise fun a b => a ≠ b := nd
    exact (p.and q).imp fun {a b} ⟨l, n⟩ => by
      rcases ltS_tri a b with z | z | z
      · exact z
      · exact absurd z n
      · exact absurd z l
/-! ### types that are told -/
theorem TyV.tyx {K : PySem.W.Frag} {H : Hp} {v : V} {T : String} (t : TyV K H v T) : TyX K H v (.type T) := by
  cases t with
  | non => exact .base .non
  | bl b => exact .base (.bl b)
  | int i => exact .base (.int i)
  | str z => exact .base (.str z)
  | lst h =>
    rcases h with (h | ⟨o, h⟩) | ⟨o, its, n, h, c, _⟩
    · exact .base (.lst h)
    · exact .base (.frz h)
    · exact .kList h c
  | tup h =>
    rcases h with (h | ⟨o, h⟩) | ⟨o, its, n, h, c, _⟩
    · exact .base (.tup h)
    · exact .fTuple h
    · exact .kTuple h c
  | dK h => exact .base (.dK h)
/-- isinstance against an own class -/
structure OwnI (K : PySem.W.Frag) (C : Addr) : Prop where
  cl : Cls K C
  ha : PySem.W.findIn K (.ref C) "__class__" = some (some (.builtin "object.__class__"))
  hn : PySem.W.specialIn K (.builtin "object.__class__") "__get__" = some (some (.builtin "getset_descriptor.__get__"))
  htk : PySem.W.takesIn K (.builtin "object.__class__") = some true
  hm : PySem.W.mroIn K C (.type "object") = some true
  ty : PySem.W.typeIn K (.ref C) = some (.type "type")
  ic : PySem.W.isClsIn K C = true
  sn : PySem.W.subIn K (.type "NoneType") (.ref C) = some false
  sb : PySem.W.subIn K (.type "bool") (.ref C) = some false
  si : PySem.W.subIn K (.type "int") (.ref C) = some false
  ss : PySem.W.subIn K (.type "str") (.ref C) = some false
  sl : PySem.W.subIn K (.type "list") (.ref C) = some false
  st : PySem.W.subIn K (.type "tuple") (.ref C) = some false
  sd : PySem.W.subIn K (.type "dict") (.ref C) = some false
theorem OwnI.tyx {K : PySem.W.Frag} {C a dx : Addr} {H : Hp} {fs : List (Str × V)} (o : OwnI K C) (h : H a = some (.ins C dx fs)) : TyX K H (.ref a) (.ref C) := .base (.ins h o.cl o.ha o.hn o.htk o.hm)
theorem OwnI.some {K : PySem.W.Frag} {C : Addr} (o : OwnI K C) : ((PySem.W.clsIn K C).isSome && PySem.W.typeIn K (.ref C) == Option.some (.type "type")) = true := by
  have h := o.ic
  unfold PySem.W.isClsIn at h
  rw [o.ty]
  first
    | (rw [h]; rfl)
    | (simp at h ⊢; exact h)
theorem OwnI.sub {K : PySem.W.Frag} {C : Addr} {H : Hp} {v : V} {T : String} (o : OwnI K C) (t : TyV K H v T) : PySem.W.subIn K (.type T) (.ref C) = Option.some false := by
  cases t with
  | non => exact o.sn
  | bl b => exact o.sb
  | int i => exact o.si
  | str z => exact o.ss
  | lst h => exact o.sl
  | tup h => exact o.st
  | dK h => exact o.sd
theorem OwnI.no {K : PySem.W.Frag} {C : Addr} {H : Hp} {v : V} {T : String} (o : OwnI K C) (t : TyV K H v T) : PySem.W.kitOne K (.type T) (.ref C) = Option.some false := by
  unfold PySem.W.kitOne
  rw [if_neg (by intro e; cases (beq_iff_eq.mp e))]
  show (if _ then _ else _) = _
  rw [if_pos o.some]
  exact o.sub t
theorem OwnI.yes {K : PySem.W.Frag} {C : Addr} : PySem.W.kitOne K (.ref C) (.ref C) = Option.some true := by
  unfold PySem.W.kitOne
  rw [if_pos (by simp)]
theorem kit_own {K : PySem.W.Frag} {C : Addr} {T : String} (hm : PySem.W.kitMeta T = true) (h : PySem.W.subIn K (.ref C) (.type T) = Option.some false) : PySem.W.kitOne K (.ref C) (.type T) = Option.some false := by
  unfold PySem.W.kitOne
  rw [if_neg (by intro e; cases (beq_iff_eq.mp e))]
  show (if _ then _ else _) = _
  rw [if_pos hm]
  exact h
theorem kit_true {K : PySem.W.Frag} {a b : String} (h : kitB a b = some true) : PySem.W.kitOne K (.type a) (.type b) = some true := h
theorem kit_false {K : PySem.W.Frag} {a b : String} (h : kitB a b = some false) : PySem.W.kitOne K (.type a) (.type b) = some false := h
end Sm
namespace Sm
open PySem PySem.Spec PyProof.Rows L2
/-- what a comprehension over n turns has made after i of them -/
def made (f : Nat → Option V) (i : Nat) : List V := (List.range i).filterMap f
theorem made_zero (f : Nat → Option V) : made f 0 = [] := rfl
theorem made_succ (f : Nat → Option V) (i : Nat) : made f (i + 1) = made f i ++ (f i).toList := by
  unfold made
  rw [List.range_succ, List.filterMap_append]
  have e : List.filterMap f [i] = (f i).toList := by
    cases h : f i <;> simp [h]
  rw [e]
theorem made_len (f : Nat → Option V) (i : Nat) : (made f i).length ≤ i := by
  unfold made
  have h := List.length_filterMap_le f (List.range i)
  rw [List.length_range] at h
  exact h
/-- a comprehension whose turns only make things -/
def LcP (H1 : Hp) (D : Addr) (f : Nat → Option V) (i : Nat) (H : Hp) : Prop := H1 D = none ∧ Same H1 H ∧ H D = some (.lst (made f i)) ∧ i ≤ 90000
theorem lc_put {H1 H H4 : Hp} {D : Addr} {f : Nat → Option V} {i : Nat} {y : V} (p : LcP H1 D f i H) (hi : i < 90000) (s : Same H H4) (e : f i = some y) :
    ∃ acc, H4 D = some (.lst acc) ∧ acc.length < sizeLine ∧ LcP H1 D f (i + 1) (upd H4 D (.lst (acc ++ [y]))) := by
  refine ⟨made f i, s _ _ p.2.2.1, sz_lt (by have := made_len f i; omega), p.1, same_mut (p.2.1.trans s) p.1, ?_, hi⟩
  rw [upd_same, made_succ, e]; rfl
theorem lc_skip {H1 H H4 : Hp} {D : Addr} {f : Nat → Option V} {i : Nat} (p : LcP H1 D f i H) (hi : i < 90000) (s : Same H H4) (e : f i = none) : LcP H1 D f (i + 1) H4 := by
  refine ⟨p.1, p.2.1.trans s, ?_, hi⟩
  rw [made_succ, e, s _ _ p.2.2.1]; simp
theorem lc_fm {J : It} {n : Nat} {G : Hp → Prop} {Y : Nat → Hp → V → Hp → Prop} (w : Walk J n G Y) {g : TG} {tt : TT} {te : TE} {vs : List Nat} {σ : L2.St} {H1 : Hp} {D : Addr} {Qd : Hp → Prop} (nD : H1 D = none) (f : Nat → Option V)
    (hG : ∀ H, Same H1 H → G H)
    (hs : ∀ i x H H', i < n → LcP H1 D f i H → Y i H x H' → g x (wipe σ vs) H' fun σ2 H2 => wipe σ2 vs = wipe σ vs ∧ tt σ2 H2 fun b H3 =>
      if b = true then te σ2 H3 fun y H4 => ∃ acc, H4 D = some (.lst acc) ∧ acc.length < sizeLine ∧ LcP H1 D f (i + 1) (upd H4 D (.lst (acc ++ [y]))) else LcP H1 D f (i + 1) H3)
    (hd : ∀ H, Same H1 H → H D = some (.lst (made f n)) → Qd H) :
    ∃ W : Nat → Nat → Hp → Prop, (∃ m, W 0 m (upd H1 D (.lst []))) ∧ ∀ i m H, W i m H →
      (J.stop i H ∧ Qd H) ∨ (J.go i H ∧ ∃ Nx : Hp → Prop, (∀ H', Nx H' → ∃ m', m' < m ∧ W (i + 1) m' H') ∧ ∀ x H', J.yld i H x H' → g x (wipe σ vs) H' fun σ2 H2 => wipe σ2 vs = wipe σ vs ∧ tt σ2 H2 fun b H3 =>
        if b = true then te σ2 H3 fun y H4 => ∃ acc, H4 D = some (.lst acc) ∧ acc.length < sizeLine ∧ Nx (upd H4 D (.lst (acc ++ [y]))) else Nx H3) :=
  lc_it w (LcP H1 D f) ⟨nD, same_new (Same.refl _) nD, upd_same, Nat.zero_le _⟩ (fun i H _ p => hG H p.2.1) hs (fun H p => hd H p.2.1 p.2.2.1)
theorem made_all {f : Nat → V} (n : Nat) : made (fun i => some (f i)) n = (List.range n).map f := by
  unfold made; rw [← List.filterMap_eq_map]; rfl
/-- over the items of a list -/
theorem made_items {α : Type} (xs : List α) (h : α → Option V) : made (fun i => xs[i]?.bind h) xs.length = xs.filterMap h := by
  induction xs with
  | nil => rfl
  | cons x r ih =>
    unfold made
    rw [List.length_cons, List.range_succ_eq_map, List.filterMap_cons, List.filterMap_map]
    have e : (fun i => ((x :: r)[i]?.bind h)) ∘ Nat.succ = fun i => r[i]?.bind h := by
      funext i; simp
    have e0 : (x :: r)[0]?.bind h = h x := rfl
    rw [e, e0, List.filterMap_cons]
    unfold made at ih
    rw [ih]
end Sm
namespace Sm
open PySem PySem.Spec PyProof.Rows L2
/-! ### lists and tuples alike -/
def Row (K : PySem.W.Frag) (H : Hp) (a : Addr) (xs : List V) : Prop := SqL K H a xs ∨ SqT K H a xs
def Kp (a : Addr) (H H' : Hp) : Prop := ∀ o, H a = some o → H' a = some o
theorem Kp.refl {a : Addr} {H : Hp} : Kp a H H := fun _ h => h
theorem Kp.ofSame {a : Addr} {H H' : Hp} (s : Same H H') : Kp a H H' := fun o h => s a o h
theorem Kp.ofFr1 {a st : Addr} {H H' : Hp} (s : Fr1 st H H') (n : a ≠ st) : Kp a H H' := fun o h => s a o n h
theorem sqL_kp {K : PySem.W.Frag} {H H' : Hp} {a : Addr} {xs : List V} (h : SqL K H a xs) (k : Kp a H H') : SqL K H' a xs := by
  rcases h with (h | ⟨o, h⟩) | h
  · exact .inl (.inl (k _ h))
  · exact .inl (.inr ⟨o, k _ h⟩)
  · exact .inr h
theorem sqT_kp {K : PySem.W.Frag} {H H' : Hp} {a : Addr} {xs : List V} (h : SqT K H a xs) (k : Kp a H H') : SqT K H' a xs := by
  rcases h with (h | ⟨o, h⟩) | h
  · exact .inl (.inl (k _ h))
  · exact .inl (.inr ⟨o, k _ h⟩)
  · exact .inr h
theorem sqL_same {K : PySem.W.Frag} {H H' : Hp} {a : Addr} {xs : List V} (s : Same H H') (h : SqL K H a xs) : SqL K H' a xs := sqL_kp h (.ofSame s)
theorem sqT_same {K : PySem.W.Frag} {H H' : Hp} {a : Addr} {xs : List V} (s : Same H H') (h : SqT K H a xs) : SqT K H' a xs := sqT_kp h (.ofSame s)
theorem Row.kp {K : PySem.W.Frag} {H H' : Hp} {a : Addr} {xs : List V} (h : Row K H a xs) (k : Kp a H H') : Row K H' a xs := h.elim (fun h => .inl (sqL_kp h k)) fun h => .inr (sqT_kp h k)
theorem Row.same {K : PySem.W.Frag} {H H' : Hp} {a : Addr} {xs : List V} (s : Same H H') (h : Row K H a xs) : Row K H' a xs := h.kp (.ofSame s)
theorem TyV.same {K : PySem.W.Frag} {H H' : Hp} {v : V} {T : String} (t : TyV K H v T) (s : Same H H') : TyV K H' v T := by
  cases t with
  | non => exact .non
  | bl b => exact .bl b
  | int i => exact .int i
  | str z => exact .str z
  | lst h => exact .lst (sqL_same s h)
  | tup h => exact .tup (sqT_same s h)
  | dK h => exact .dK (s _ _ h)
section
variable {X : Cx} {tg : Expr}
def iRow (K : PySem.W.Frag) (tl : TE) : TI := fun σ H R => tl σ H fun x H1 => ∃ a xs, x = .ref a ∧ Row K H1 a xs ∧ ∀ J G, Walk J xs.length G (YAt xs) → (∀ H', Kp a H1 H' → G H') → R J H1
theorem pi_row {l : Expr} {tl : TE} (hl : PE X l tl) : PI X tg l (iRow X.K tl) := by
  refine ⟨fun pins s σ H R I h => ?_⟩
  refine thn (hl.run pins s σ H _ I h) fun v s1 ⟨x, H1, I1, r1, q1⟩ => ?_
  obtain ⟨a, xs, e, hq, q⟩ := q1
  subst e
  have hv : v = Value.ref a := r1
  subst hv
  have hone : PE X l (fun _ _ Q => False) → True := fun _ => trivial
  rcases hq with hq | hq
  · have hL := q (Itl X.K a) (fun H => SqL X.K H a xs) walk_list fun H' k => sqL_kp hq k
    obtain ⟨its, rv, p, hz⟩ := I1.list hq
    refine wpAny_pyIter_list p.isList ?_
    refine ⟨s1.heap.objs.size, [s1.heap.objs.size], _, _, H1, rfl, I1.kept (t' := s1.toks) fun b o e => Heap.get?_push_of_some _ e, turn_list a _, ⟨_, Heap.get?_push_size _ rfl, rfl, rfl⟩, fun b hb => ?_, hL⟩
    have e : b = s1.heap.objs.size := by simpa using hb
    subst e
    exact I1.fpOk (Nat.le_refl _) (I1.hok.fresh (Nat.le_refl _))
  · have hL := q (Itt X.K a) (fun H => SqT X.K H a xs) walk_tup fun H' k => sqT_kp hq k
    obtain ⟨its, rv, p, hz⟩ := I1.tuple hq
    refine wpAny_pyIter_tuple (show s1.heap.IsTuple a its.toArray from p) ?_
    refine ⟨s1.heap.objs.size, [s1.heap.objs.size], _, _, H1, rfl, I1.kept (t' := s1.toks) fun b o e => Heap.get?_push_of_some _ e, turn_tuple a _, ⟨_, Heap.get?_push_size _ rfl, rfl, rfl⟩, fun b hb => ?_, hL⟩
    have e : b = s1.heap.objs.size := by simpa using hb
    subst e
    exact I1.fpOk (Nat.le_refl _) (I1.hok.fresh (Nat.le_refl _))
def iEnumR (K : PySem.W.Frag) (ta : TA) : TI := fun σ H R => ta σ H fun vs H1 => ∃ a xs, vs = [.ref a] ∧ Row K H1 a xs ∧ ∀ J G, Walk J xs.length G (YPair (fun i => some (.int (i : Nat))) (fun i => xs[i]?)) → (∀ H', Kp a H1 H' → G H') → R J H1
theorem pi_enumR {e : Expr} {ta : TA} {p pos tpos : Pos} {elts : List Expr} {kk : Nat} (hg : Gl X "enumerate") (hm : X.mg "enumerate" = none) (ha : PA X [e] ta) (hs : starEach [e] X.env = [(false, eval e X.env)] := by rfl) :
    PI X (.Tuple elts kk tpos) (.Call (.Name "enumerate" p) [e] [] pos) (iEnumR X.K ta) := by
  refine ⟨fun pins s σ H R I h => ?_⟩
  refine Call_ (ld_blt I hg hm boot_enumerate (PyProof.Rows.callWith_type1 (thn (ha.run pos pins s σ H _ I h) fun us s1 ⟨vs, H1, I1, r1, q1⟩ => ?_) hs rfl))
  obtain ⟨a, xs, ex, hq, q⟩ := q1
  subst ex
  cases r1 with
  | cons r rr =>
    cases rr
    cases r
    have fin : ∀ (h' : Heap) (tn : Nat → Heap → Prop) (J : It), (∀ b o, s1.heap.get? b = some o → h'.get? b = some o) → Turn X.prog X.w X.K (.Tuple elts kk tpos) J [s1.heap.objs.size + 1, s1.heap.objs.size] (s1.heap.objs.size + 1) tn → tn 0 h' → R J H1 →
        PIE X pins σ (.Tuple elts kk tpos) R (.ref (s1.heap.objs.size + 1)) { s1 with heap := h' } := fun h' tn J hk T t0 rj => by
      have I2 : Inv X pins σ H1 { s1 with heap := h' } := I1.kept (t' := s1.toks) hk
      refine ⟨s1.heap.objs.size + 1, [s1.heap.objs.size + 1, s1.heap.objs.size], _, _, H1, rfl, I2, T, t0, fun b hb => ?_, rj⟩
      have e' : b = s1.heap.objs.size + 1 ∨ b = s1.heap.objs.size := by simpa using hb
      have hle : s1.heap.objs.size ≤ b := by
        rcases e' with z | z
        · rw [z]; exact Nat.le_add_right _ _
        · rw [z]; exact Nat.le_refl _
      exact I1.fpOk hle (I1.hok.fresh hle)
    rcases hq with hq | hq
    · obtain ⟨its, rv, p', hz⟩ := I1.list hq
      refine call_enumerate_list p'.isList fun h' he hit hsz hk => wpAny_pyIter_enum he ?_
      exact fin h' _ _ hk (turn_enum a _ _) ⟨⟨.none, he⟩, hit, Nat.succ_ne_self _⟩ (q _ _ walk_enum fun H' k => sqL_kp hq k)
    · obtain ⟨its, rv, p', hz⟩ := I1.tuple hq
      refine enum_begins1 (begins_tuple a its.toArray) p' fun h' he hit hsz hk => wpAny_pyIter_enum he ?_
      exact fin h' _ _ hk (turn_enumT a _ _) ⟨⟨.none, he⟩, ⟨_, hit, rfl, rfl⟩, Nat.succ_ne_self _⟩ (q _ _ walk_enumT fun H' k => sqT_kp hq k)
/-- tuple(list) -/
theorem call_tupleL : CallR X (.type "tuple") (fun xs H Q => ∃ p ys, xs = [.ref p] ∧ SqL X.K H p ys ∧ ∀ l, H l = none → Q (.ref l) (upd H l (.tup ys))) := by
  intro pins s σ H xs us Q I r h
  obtain ⟨p, ys, e, hq, h1⟩ := h
  exact call_tuple_of pins s σ H xs us Q I r ⟨p, ys, e, .inl ⟨hq, h1⟩⟩
/-- tuple(list or tuple): some tuple of the same items -/
theorem call_tupleR : CallR X (.type "tuple") (fun xs H Q => ∃ p ys, xs = [.ref p] ∧ Row X.K H p ys ∧ (∀ l, H l = none → Q (.ref l) (upd H l (.tup ys))) ∧ (SqT X.K H p ys → Q (.ref p) H)) := by
  intro pins s σ H xs us Q I r h
  obtain ⟨p, ys, e, hq, h1, h2⟩ := h
  refine call_tuple_of pins s σ H xs us Q I r ⟨p, ys, e, ?_⟩
  rcases hq with hq | hq
  · exact .inl ⟨hq, h1⟩
  · exact .inr ⟨hq, h2 hq⟩
end
theorem kitA2 {K : PySem.W.Frag} {T a b : String} {r1 r2 : Bool} (h1 : kitB T a = some r1) (h2 : kitB T b = some r2) : PySem.W.kitAny K (.type T) [.type a, .type b] = some (r1 || r2) := by
  refine kitAny_cons (kit_ty h1) (fun e => ?_) fun e => by rw [e]; rfl
  rw [e, Bool.false_or]
  refine kitAny_cons (kit_ty h2) (fun e => ?_) fun e => e
  rw [e]; exact kitAny_nil
end Sm
namespace Sm
open PySem PySem.Spec PyProof.Rows L2
/-- a tracked list or tuple -/
def RwT (H : Hp) (l : Addr) (xs : List V) : Prop := ∃ o, H l = some o ∧ (o = .lst xs ∨ o = .tup xs)
theorem RwT.row {K : PySem.W.Frag} {H : Hp} {l : Addr} {xs : List V} (h : RwT H l xs) : Row K H l xs := by
  obtain ⟨o, h, e | e⟩ := h
  · subst e; exact .inl (.inl (.inl h))
  · subst e; exact .inr (.inl (.inl h))
theorem RwT.same {H H' : Hp} {l : Addr} {xs : List V} (h : RwT H l xs) (s : Same H H') : RwT H' l xs := let ⟨o, h, e⟩ := h; ⟨o, s _ _ h, e⟩
theorem Kp.mk {a : Addr} {H H' : Hp} {o : HO} (h : H a = some o) (h' : H' a = some o) : Kp a H H' := fun u e => by rw [h] at e; cases e; exact h'
theorem take_succ_mem {α : Type} {ws : List α} {i : Nat} (hi : i < ws.length) (x : α) : x ∈ ws.take (i + 1) ↔ x ∈ ws.take i ∨ x = ws[i] := by
  rw [List.take_succ_eq_append_getElem hi, List.mem_append, List.mem_singleton]
end Sm
namespace Sm
open PySem PySem.Spec PyProof.Rows L2
section
variable {X : Cx}
/-- a text in a list or tuple of texts -/
def rInSs (K : PySem.W.Frag) (neg : Bool) : R2 := fun x y H Q => ∃ (z : Str) (p : Addr) (ws : List Str), x = .str z ∧ y = .ref p ∧ Row K H p (ws.map V.str) ∧ Q (.bl (if neg then !decide (z ∈ ws) else decide (z ∈ ws))) H
theorem op_inSs : OpR X (compareOp .In) (rInSs X.K false) := fun pins s σ H x y v u Q I rx ry h => by
  obtain ⟨z, p, ws, rfl, rfl, hr, q⟩ := h
  refine op_in_seq pins s σ H _ _ v u Q I rx ry ⟨p, ws.map V.str, rfl, hr, rfl, flat_strs ws, ?_⟩
  rw [inV_str]; exact q
theorem op_notInSs : OpR X (compareOp .NotIn) (rInSs X.K true) := fun pins s σ H x y v u Q I rx ry h => by
  obtain ⟨z, p, ws, rfl, rfl, hr, q⟩ := h
  refine op_notIn_seq pins s σ H _ _ v u Q I rx ry ⟨p, ws.map V.str, rfl, hr, rfl, flat_strs ws, ?_⟩
  rw [inV_str]; exact q
end
theorem get_map_str {ws : List Str} {i : Nat} {x : V} (hi : i < ws.length) (e : (ws.map V.str)[i]? = some x) : x = .str ws[i] := by
  rw [List.getElem?_map, List.getElem?_eq_getElem hi] at e
  exact (Option.some.inj e).symm
theorem isW_len {x : Str} (h : isW x = true) : x.length ≤ 8 := by
  unfold isW at h
  rw [Bool.and_eq_true, decide_eq_true_eq] at h
  omega
end Sm
namespace Sm
open PySem PySem.Spec PyProof.Rows L2
section
variable {X : Cx}
/-- t + u of two tracked tuples: some tuple of both -/
def rCatR : R2 := fun x y H Q => ∃ a b xs ys, x = .ref a ∧ y = .ref b ∧ H a = some (.tup xs) ∧ H b = some (.tup ys) ∧ xs.length + ys.length ≤ sizeLine ∧ ∀ t H', Same H H' → H' t = some (.tup (xs ++ ys)) → Q (.ref t) H'
theorem op_catR : OpR X (binaryOp .Add) rCatR := fun pins s σ H x y v u Q I rx ry h => by
  obtain ⟨a, b, xs, ys, e1, e2, ha, hb, hz, q⟩ := h
  refine op_catA pins s σ H _ _ v u Q I rx ry ⟨a, b, xs, ys, e1, e2, SqT.of ha, SqT.of hb, hz, fun e => ?_, fun _ e => ?_, fun _ _ p np => ?_⟩
  · subst e; exact q b H (Same.refl _) hb
  · subst e; exact q a H (Same.refl _) (by rw [List.append_nil]; exact ha)
  · exact q p _ (same_new (Same.refl _) np) upd_same
end
/-- a comprehension over texts -/
theorem lcs_put {H1 H H4 : Hp} {D : Addr} {xs : List Str} {h : Str → Option V} {i : Nat} {x : Str} {y : V} (p : LcP H1 D (fun i => xs[i]?.bind h) i H) (hx : xs[i]? = some x) (hl : xs.length ≤ 90000) (s : Same H H4) (e : h x = some y) :
    ∃ acc, H4 D = some (.lst acc) ∧ acc.length < sizeLine ∧ LcP H1 D (fun i => xs[i]?.bind h) (i + 1) (upd H4 D (.lst (acc ++ [y]))) :=
  lc_put p (by have := (List.getElem?_eq_some_iff.mp hx).1; omega) s (by rw [hx]; exact e)
theorem lcs_skip {H1 H H4 : Hp} {D : Addr} {xs : List Str} {h : Str → Option V} {i : Nat} {x : Str} (p : LcP H1 D (fun i => xs[i]?.bind h) i H) (hx : xs[i]? = some x) (hl : xs.length ≤ 90000) (s : Same H H4) (e : h x = none) :
    LcP H1 D (fun i => xs[i]?.bind h) (i + 1) H4 :=
  lc_skip p (by have := (List.getElem?_eq_some_iff.mp hx).1; omega) s (by rw [hx]; exact e)
theorem lc_strs {J : It} {G : Hp → Prop} {xs : List Str} (w : Walk J (xs.map V.str).length G (YAt (xs.map V.str))) {g : TG} {tt : TT} {te : TE} {vs : List Nat} {σ : L2.St} {H1 : Hp} {D : Addr} {Qd : Hp → Prop} (nD : H1 D = none) (h : Str → Option V)
    (hG : ∀ H, Same H1 H → G H)
    (hs : ∀ i x H, xs[i]? = some x → LcP H1 D (fun i => xs[i]?.bind h) i H → g (.str x) (wipe σ vs) H fun σ2 H2 => wipe σ2 vs = wipe σ vs ∧ tt σ2 H2 fun b H3 =>
      if b = true then te σ2 H3 fun y H4 => ∃ acc, H4 D = some (.lst acc) ∧ acc.length < sizeLine ∧ LcP H1 D (fun i => xs[i]?.bind h) (i + 1) (upd H4 D (.lst (acc ++ [y]))) else LcP H1 D (fun i => xs[i]?.bind h) (i + 1) H3)
    (hd : ∀ H, Same H1 H → H D = some (.lst (xs.filterMap h)) → Qd H) :
    ∃ W : Nat → Nat → Hp → Prop, (∃ m, W 0 m (upd H1 D (.lst []))) ∧ ∀ i m H, W i m H →
      (J.stop i H ∧ Qd H) ∨ (J.go i H ∧ ∃ Nx : Hp → Prop, (∀ H', Nx H' → ∃ m', m' < m ∧ W (i + 1) m' H') ∧ ∀ x H', J.yld i H x H' → g x (wipe σ vs) H' fun σ2 H2 => wipe σ2 vs = wipe σ vs ∧ tt σ2 H2 fun b H3 =>
        if b = true then te σ2 H3 fun y H4 => ∃ acc, H4 D = some (.lst acc) ∧ acc.length < sizeLine ∧ Nx (upd H4 D (.lst (acc ++ [y]))) else Nx H3) := by
  refine lc_fm w nD (fun i => xs[i]?.bind h) hG (fun i x H H' hi p y => ?_) (fun H s e => hd H s ?_)
  · obtain ⟨rfl, e⟩ := y
    have hi' : i < xs.length := by simpa using hi
    have ex := get_map_str hi' e
    subst ex
    exact hs i xs[i] _ (List.getElem?_eq_getElem hi') p
  · rw [e, List.length_map, made_items]
theorem fm_some (xs : List Str) (p : Str → Bool) : xs.filterMap (fun x => some (V.bl (p x))) = (xs.map p).map V.bl := by
  rw [List.map_map, ← List.filterMap_eq_map]; rfl
theorem fm_if (xs : List Str) (p : Str → Bool) : xs.filterMap (fun x => if p x = true then some (V.str x) else none) = (xs.filter p).map V.str := by
  induction xs with
  | nil => rfl
  | cons x r ih =>
    rw [List.filterMap_cons, List.filter_cons]
    by_cases h : p x = true
    · rw [if_pos h, if_pos h, List.map_cons, ih]
    · rw [if_neg h, if_neg h, ih]
end Sm
namespace Sm
open PySem PySem.Spec PyProof.Rows L2
theorem letters_lt : ∀ c ∈ lettersL, 97 ≤ c ∧ c < 123 := by decide +kernel
theorem isW_ok {x : Str} (h : isW x = true) : PyData.strOk x = true := by
  unfold isW at h
  rw [Bool.and_eq_true, List.all_eq_true] at h
  unfold PyData.strOk
  first
    | (rw [Array.all_eq_true_iff_forall_mem]
       intro c hc
       have := letters_lt c (of_decide_eq_true (h.2 c (by simpa using hc)))
       simp; omega)
    | (rw [← Array.all_toList, List.all_eq_true]
       intro c hc
       have := letters_lt c (of_decide_eq_true (h.2 c hc))
       simp; omega)
theorem eqvAll_strs : ∀ (ws us : List Str), PyData.eqvAll (ws.map PyData.str) (us.map PyData.str) = decide (ws = us)
  | [], [] => by simp [PyData.eqvAll]
  | [], u :: us => by simp [PyData.eqvAll]
  | w :: ws, [] => by simp [PyData.eqvAll]
  | w :: ws, u :: us => by
    rw [List.map_cons, List.map_cons, PyData.eqvAll, eqvAll_strs ws us, PyData.eqv, Bool.beq_eq_decide_eq]
    by_cases h : w = u
    · subst h; simp
    · simp [h]
theorem shaped_strs {ws : List Str} (h : ∀ x ∈ ws, PyData.strOk x = true) : PyData.canLayAll0 (ws.map PyData.str) = true ∧ PyData.depthAll (ws.map PyData.str) = 0 := by
  induction ws with
  | nil => exact ⟨by simp [PyData.canLayAll0], by simp [PyData.depthAll]⟩
  | cons w ws ih =>
    have ih := ih fun x hx => h x (List.mem_cons_of_mem _ hx)
    refine ⟨?_, ?_⟩
    · rw [List.map_cons, PyData.canLayAll0, PyData.canLay0, h w List.mem_cons_self, ih.1]; rfl
    · rw [List.map_cons, PyData.depthAll, ih.2, PyData.depth]; rfl
theorem shaped_tup {ws : List Str} (h : ∀ x ∈ ws, PyData.strOk x = true) : SeqAt.shaped (.tuple (ws.map PyData.str)) = true := by
  obtain ⟨a, b⟩ := shaped_strs h
  unfold SeqAt.shaped
  rw [PyData.canLay0, a, PyData.depth, b]; decide
theorem shaped_lst {ws : List Str} (h : ∀ x ∈ ws, PyData.strOk x = true) : SeqAt.shaped (.list (ws.map PyData.str)) = true := by
  obtain ⟨a, b⟩ := shaped_strs h
  unfold SeqAt.shaped
  rw [PyData.canLay0, a, PyData.depth, b]; decide
theorem dpAll_strs {K : PySem.W.Frag} {H : Hp} : ∀ ws : List Str, DpAll K H (ws.map V.str) (ws.map PyData.str)
  | [] => .nil
  | w :: ws => .cons (.str w) (dpAll_strs ws)
section
variable {X : Cx}
/-- two tuples of texts, two lists of texts: ==, != -/
def rEqSs (K : PySem.W.Frag) (neg : Bool) : R2 := fun x y H Q => ∃ (a b : Addr) (ws us : List Str), x = .ref a ∧ y = .ref b ∧ ((SqT K H a (ws.map V.str) ∧ SqT K H b (us.map V.str)) ∨ (SqL K H a (ws.map V.str) ∧ SqL K H b (us.map V.str))) ∧
  (∀ x ∈ ws, PyData.strOk x = true) ∧ (∀ x ∈ us, PyData.strOk x = true) ∧ Q (.bl (if neg then !decide (ws = us) else decide (ws = us))) H
theorem op_eqSs (hu : X.A.units + 64 < cLine) : OpR X (compareOp .Eq) (rEqSs X.K false) := fun pins s σ H x y v u Q I rx ry h => by
  obtain ⟨a, b, ws, us, rfl, rfl, hh, h1, h2, q⟩ := h
  rcases hh with ⟨ha, hb⟩ | ⟨ha, hb⟩
  · refine op_eqD hu pins s σ H _ _ v u Q I rx ry ⟨_, _, .tup ha (dpAll_strs ws), .tup hb (dpAll_strs us), shaped_tup h1, shaped_tup h2, ?_⟩
    rw [PyData.eqv, eqvAll_strs]; exact q
  · refine op_eqD hu pins s σ H _ _ v u Q I rx ry ⟨_, _, .lst ha (dpAll_strs ws), .lst hb (dpAll_strs us), shaped_lst h1, shaped_lst h2, ?_⟩
    rw [PyData.eqv, eqvAll_strs]; exact q
theorem op_neSs (hu : X.A.units + 64 < cLine) : OpR X (compareOp .NotEq) (rEqSs X.K true) := fun pins s σ H x y v u Q I rx ry h => by
  obtain ⟨a, b, ws, us, rfl, rfl, hh, h1, h2, q⟩ := h
  rcases hh with ⟨ha, hb⟩ | ⟨ha, hb⟩
  · refine op_neD hu pins s σ H _ _ v u Q I rx ry ⟨_, _, .tup ha (dpAll_strs ws), .tup hb (dpAll_strs us), shaped_tup h1, shaped_tup h2, ?_⟩
    rw [PyData.eqv, eqvAll_strs]; exact q
  · refine op_neD hu pins s σ H _ _ v u Q I rx ry ⟨_, _, .lst ha (dpAll_strs ws), .lst hb (dpAll_strs us), shaped_lst h1, shaped_lst h2, ?_⟩
    rw [PyData.eqv, eqvAll_strs]; exact q
/-! the same with the written part told (within comprehensions) -/
variable {K : PySem.W.Frag}
theorem op_inSsK (hK : X.K = K) : OpR X (compareOp .In) (rInSs K false) := hK ▸ op_inSs
theorem op_notInSsK (hK : X.K = K) : OpR X (compareOp .NotIn) (rInSs K true) := hK ▸ op_notInSs
theorem ix_listK (hK : X.K = K) : IxR X (rIxL K) := hK ▸ ix_list
theorem ix_tupK (hK : X.K = K) : IxR X (rIxT K) := hK ▸ ix_tup
theorem op_in_seqK (hK : X.K = K) : OpR X (compareOp .In) (rIn K false) := hK ▸ op_in_seq
theorem op_notIn_seqK (hK : X.K = K) : OpR X (compareOp .NotIn) (rIn K true) := hK ▸ op_notIn_seq
theorem call_isiK' (hK : X.K = K) : CallR X (.builtin "isinstance") (rIsi K) := hK ▸ call_isi
theorem pe_fldK {e : Expr} {ta : TE} {f : Str} {pos : Pos} (hK : X.K = K) (he : PE X e ta) (hb : attributeBase e f X.env (eval e X.env) = eval e X.env) : PE X (.Attribute e f pos) (tFld K ta f) := hK ▸ pe_fld he hb
end
end Sm

namespace Sm
open PySem PySem.Spec PyProof.Rows L2
theorem erase_map {α β : Type} (f : α → β) : ∀ {xs : List α} {i : Nat}, (xs.map f).eraseIdx i = (xs.eraseIdx i).map f
  | [], _ => rfl
  | _ :: _, 0 => rfl
  | x :: r, i + 1 => by rw [List.map_cons, List.eraseIdx_cons_succ, List.eraseIdx_cons_succ, erase_map f, List.map_cons]
theorem erase_perm {α : Type} : ∀ {xs : List α} {i : Nat} (h : i < xs.length), (xs[i] :: xs.eraseIdx i).Perm xs
  | [], _, h => absurd h (Nat.not_lt_zero _)
  | _ :: _, 0, _ => List.Perm.refl _
  | x :: r, i + 1, h => by
    rw [List.eraseIdx_cons_succ, List.getElem_cons_succ]
    exact (List.Perm.swap _ _ _).trans ((erase_perm (Nat.lt_of_succ_lt_succ h)).cons x)
section
variable {X : Cx}
/-- l.pop(i) of a list of texts -/
def rPopS : V → List V → Hp → VK → Prop := fun x vs H Q => ∃ (l : Addr) (xs : List Str) (i : Int), x = .ref l ∧ vs = [.int i] ∧ H l = some (.lst (xs.map V.str)) ∧ 0 ≤ i ∧ i < xs.length ∧ xs.length ≤ 1000 ∧
  ∀ z ys, (z :: ys).Perm xs → Q (.str z) (upd H l (.lst (ys.map V.str)))
theorem mt_popS : MtM X "list.pop" rPopS := by
  intro pins s σ H x vs v us Q I rx rv h
  obtain ⟨l, xs, i, rfl, rfl, hH, h0, h1, h2, q⟩ := h
  have hk : i.toNat < xs.length := by omega
  refine mt_popAt pins s σ H _ _ v us Q I rx rv ⟨l, _, i, i.toNat, .str xs[i.toNat], rfl, rfl, hH, by omega, by omega, ?_, ?_, ?_⟩
  · unfold seqIndex?
    simp only [List.length_map]
    first
      | (rw [if_neg (by omega)]; rw [if_pos (by omega)])
      | (split <;> simp <;> omega)
      | (simp; omega)
  · rw [List.getElem?_map, List.getElem?_eq_getElem hk]; rfl
  · rw [erase_map V.str]
    exact q _ _ (erase_perm hk)
end
section
variable {X : Cx}
/-- a list of texts against the empty list -/
def rNil (K : PySem.W.Frag) (neg : Bool) : R2 := fun x y H Q => ∃ (a b : Addr) (ws : List Str), x = .ref a ∧ y = .ref b ∧ SqL K H a (ws.map V.str) ∧ SqL K H b [] ∧ (∀ x ∈ ws, PyData.strOk x = true) ∧ Q (.bl (if neg then !decide (ws = []) else decide (ws = []))) H
theorem op_eqNil (hu : X.A.units + 64 < cLine) : OpR X (compareOp .Eq) (rNil X.K false) := fun pins s σ H x y v u Q I rx ry h => by
  obtain ⟨a, b, ws, e1, e2, h1, h2, h3, q⟩ := h
  exact op_eqSs hu pins s σ H _ _ v u Q I rx ry ⟨a, b, ws, [], e1, e2, .inr ⟨h1, h2⟩, h3, (fun x hx => by cases hx), q⟩
theorem op_neNil (hu : X.A.units + 64 < cLine) : OpR X (compareOp .NotEq) (rNil X.K true) := fun pins s σ H x y v u Q I rx ry h => by
  obtain ⟨a, b, ws, e1, e2, h1, h2, h3, q⟩ := h
  exact op_neSs hu pins s σ H _ _ v u Q I rx ry ⟨a, b, ws, [], e1, e2, .inr ⟨h1, h2⟩, h3, (fun x hx => by cases hx), q⟩
end
/-! ### a comprehension that draws for each text whether it stays -/
def PkP (c st D : Addr) (H1 : Hp) (xs : List Str) (i : Nat) (H : Hp) : Prop := H1 D = none ∧ StOk c H1 st ∧ StOk c H st ∧ Fr1 st H1 H ∧ xs.length ≤ 1000 ∧ ∃ ys : List Str, H D = some (.lst (ys.map V.str)) ∧ ys.Sublist (xs.take i)
theorem pk_put {c st D : Addr} {H1 H H4 : Hp} {xs : List Str} {i : Nat} {x : Str} (p : PkP c st D H1 xs i H) (hx : xs[i]? = some x) (f : Fr1 st H H4) (s : StOk c H4 st) :
    ∃ acc, H4 D = some (.lst acc) ∧ acc.length < sizeLine ∧ PkP c st D H1 xs (i + 1) (upd H4 D (.lst (acc ++ [.str x]))) := by
  obtain ⟨nD, s1, s2, f1, hl, ys, hD, sub⟩ := p
  have n1 := s1.ne nD
  have n2 := s1.neC nD
  have hi := (List.getElem?_eq_some_iff.mp hx).1
  have hx' := (List.getElem?_eq_some_iff.mp hx).2
  have yl := sub.length_le
  rw [List.length_take] at yl
  refine ⟨ys.map V.str, f _ _ n1 hD, sz_lt (by rw [List.length_map]; omega), nD, s1, s.upd n1 n2, (f1.trans f).mutNew nD, hl, ys ++ [x], ?_, ?_⟩
  · rw [upd_same, List.map_append]; rfl
  · rw [List.take_succ_eq_append_getElem hi, hx']
    exact sub.append (List.Sublist.refl _)
theorem pk_skip {c st D : Addr} {H1 H H4 : Hp} {xs : List Str} {i : Nat} {x : Str} (p : PkP c st D H1 xs i H) (hx : xs[i]? = some x) (f : Fr1 st H H4) (s : StOk c H4 st) : PkP c st D H1 xs (i + 1) H4 := by
  obtain ⟨nD, s1, s2, f1, hl, ys, hD, sub⟩ := p
  have n1 := s1.ne nD
  have hi := (List.getElem?_eq_some_iff.mp hx).1
  refine ⟨nD, s1, s, f1.trans f, hl, ys, f _ _ n1 hD, ?_⟩
  rw [List.take_succ_eq_append_getElem hi]
  exact sub.trans (List.sublist_append_left _ _)
theorem lc_pick {J : It} {G : Hp → Prop} {xs : List Str} (w : Walk J (xs.map V.str).length G (YAt (xs.map V.str))) {g : TG} {tt : TT} {te : TE} {vs : List Nat} {σ : L2.St} {H1 : Hp} {D : Addr} {Qd : Hp → Prop} {c st : Addr} (nD : H1 D = none) (hst : StOk c H1 st) (hl : xs.length ≤ 1000)
    (hG : ∀ H, Fr1 st H1 H → G H)
    (hs : ∀ i x H, xs[i]? = some x → PkP c st D H1 xs i H → g (.str x) (wipe σ vs) H fun σ2 H2 => wipe σ2 vs = wipe σ vs ∧ tt σ2 H2 fun b H3 =>
      if b = true then te σ2 H3 fun y H4 => ∃ acc, H4 D = some (.lst acc) ∧ acc.length < sizeLine ∧ PkP c st D H1 xs (i + 1) (upd H4 D (.lst (acc ++ [y]))) else PkP c st D H1 xs (i + 1) H3)
    (hd : ∀ (H : Hp) (ys : List Str), Fr1 st H1 H → StOk c H st → H D = some (.lst (ys.map V.str)) → ys.Sublist xs → Qd H) :
    ∃ W : Nat → Nat → Hp → Prop, (∃ m, W 0 m (upd H1 D (.lst []))) ∧ ∀ i m H, W i m H →
      (J.stop i H ∧ Qd H) ∨ (J.go i H ∧ ∃ Nx : Hp → Prop, (∀ H', Nx H' → ∃ m', m' < m ∧ W (i + 1) m' H') ∧ ∀ x H', J.yld i H x H' → g x (wipe σ vs) H' fun σ2 H2 => wipe σ2 vs = wipe σ vs ∧ tt σ2 H2 fun b H3 =>
        if b = true then te σ2 H3 fun y H4 => ∃ acc, H4 D = some (.lst acc) ∧ acc.length < sizeLine ∧ Nx (upd H4 D (.lst (acc ++ [y]))) else Nx H3) := by
  refine lc_it w (PkP c st D H1 xs) ⟨nD, hst, hst.new nD, Fr1.refl.new nD, hl, [], upd_same, List.nil_sublist _⟩ (fun i H _ p => hG H p.2.2.2.1) (fun i x H H' hi p y => ?_) (fun H p => ?_)
  · obtain ⟨rfl, e⟩ := y
    have hi' : i < xs.length := by simpa using hi
    have ex := get_map_str hi' e
    subst ex
    exact hs i xs[i] _ (List.getElem?_eq_getElem hi') p
  · obtain ⟨_, _, s2, f1, _, ys, hD, sub⟩ := p
    rw [List.length_map, List.take_length] at sub
    exact hd H ys f1 s2 hD sub
/-! ### ordered lists -/
theorem asc_ins {ws : List Str} {x : Str} (h : Asc ws) (hx : x ∉ ws) : Asc (ws.take (ws.filter fun y => decide (LtS y x)).length ++ [x] ++ ws.drop (ws.filter fun y => decide (LtS y x)).length) ∧
    ∀ z, z ∈ (ws.take (ws.filter fun y => decide (LtS y x)).length ++ [x] ++ ws.drop (ws.filter fun y => decide (LtS y x)).length) ↔ z ∈ ws ∨ z = x := by
  induction ws with
  | nil => exact ⟨List.pairwise_singleton _ _, fun z => by simp⟩
  | cons w r ih =>
    have hw := List.pairwise_cons.mp h
    have hx1 : x ≠ w := fun e => hx (e ▸ List.mem_cons_self)
    have hx2 : x ∉ r := fun e => hx (List.mem_cons_of_mem _ e)
    obtain ⟨i1, i2⟩ := ih hw.2 hx2
    by_cases l : LtS w x
    · rw [List.filter_cons, if_pos (decide_eq_true l), List.length_cons, List.take_succ_cons, List.drop_succ_cons]
      refine ⟨?_, fun z => ?_⟩
      · show Asc (w :: (_ ++ [x] ++ _))
        refine List.pairwise_cons.mpr ⟨fun z hz => ?_, i1⟩
        rcases (i2 z).mp hz with e | e
        · exact hw.1 z e
        · rw [e]; exact l
      · show z ∈ w :: (_ ++ [x] ++ _) ↔ _
        rw [List.mem_cons, i2, List.mem_cons, or_assoc]
    · have lx : LtS x w := by
        rcases ltS_tri x w with q | q | q
        · exact q
        · exact absurd q hx1
        · exact absurd q l
      have e : (List.filter (fun y => decide (LtS y x)) (w :: r)).length = 0 := by
        rw [List.length_eq_zero_iff, List.filter_eq_nil_iff]
        intro y hy
        rcases List.mem_cons.mp hy with q | q
        · subst q; simp [l]
        · have := ltS_asymm (ltS_trans lx (hw.1 y q))
          simp [this]
      rw [e]
      refine ⟨?_, fun z => ?_⟩
      · show Asc (x :: w :: r)
        refine List.pairwise_cons.mpr ⟨fun z hz => ?_, h⟩
        rcases List.mem_cons.mp hz with q | q
        · subst q; exact lx
        · exact ltS_trans lx (hw.1 z q)
      · show z ∈ x :: w :: r ↔ _
        rw [List.mem_cons, or_comm]
end Sm

namespace Sm
open PySem PySem.Spec PyProof.Rows L2
section
variable {X : Cx}
/-- a value told by what holds of it -/
def tCutE (t : TE) : TE := fun σ H Q => Stp (∃ M : V → Hp → Prop, (∀ Q1 : VK, (∀ v H', M v H' → Q1 v H') → t σ H Q1) ∧ ∀ v H', M v H' → Q v H')
theorem pe_cut {e : Expr} {t : TE} (h : PE X e t) : PE X e (tCutE t) := ⟨fun pins s σ H Q I ⟨M, a, b⟩ => h.run pins s σ H Q I (a Q b)⟩
/-- a test told by what holds of its answer -/
def tCutT (t : TT) : TT := fun σ H Q => Stp (∃ M : Bool → Hp → Prop, (∀ Q1 : Bool → Hp → Prop, (∀ v H', M v H' → Q1 v H') → t σ H Q1) ∧ ∀ v H', M v H' → Q v H')
theorem pt_cut {e : Expr} {t : TT} (h : PT X e t) : PT X e (tCutT t) := ⟨fun pins s σ H Q I ⟨M, a, b⟩ => h.run pins s σ H Q I (a Q b)⟩
end
end Sm

namespace Sm
open PySem PySem.Spec PyProof.Rows L2
/-- how the keywords of a call bind behind the first n arguments (in their order, no defaults) -/
theorem fun_kbn {K : PySem.W.Frag} {x qual : Str} {st : Stmt} {f : Addr} {fd : FuncData} {ps : List Str} (F : Fun K x qual st f fd) (n : Nat) (ks : List Str)
    (h : ∀ (kV doc pm : Value) (an : Option Addr) (cdv ct : Value) (us ws : List Value), us.length = n → ws.length = ks.length → bindArgs (PySem.W.fnOf x qual (defArgs st) (defBody st) (defScope st) .none kV doc pm an cdv ct) ⟨us, ks.zip ws⟩ = pure (ps.zip (us ++ ws))) :
    KBn K fd ps n ks (fun us ws => us ++ ws) (fun vs zs => vs ++ zs) := by
  obtain ⟨oc, od, kV, doc, pm, an, cdv, ct, osl, rfl, lk, hcd⟩ := F.ex
  exact ⟨fun s us ws _ l1 l2 => .of_eq (h kV doc pm an cdv ct us ws l1 l2), fun r1 r2 => r1.append r2⟩
/-- o.m(k = v, ..) of an own class -/
def tMethK (C : Addr) (m : Str) (n : Nat) (sp : Sp) (gV : List V → List V → List V) (E : XK) (ta : TE) (tk : TA) : TE := fun σ H Q => ta σ H fun x H1 => ∃ a dx fs, x = .ref a ∧ H1 a = some (.ins C dx fs) ∧ fs.lookup m = none ∧
  tk σ H1 fun zs H2 => zs.length = n ∧ sp (gV [.ref a] zs) H2 Q E
section
variable {X : Cx} {CX : CXT} {k : Nat} {f C : Addr} {fd : FuncData} {ps ks : List Str} {sp : Sp} {E : XK} {m : Str} {pos apos : Pos} {o : Expr} {ta : TE} {kws : List Keyword} {tk : TA} {g : List Value → List Value → List Value} {gV : List V → List V → List V}
theorem pe_methK0 {pl : Sem Bool} (he : PE X o ta) (c : Cls X.K C) (hm : Meth X.K C m f) (F : FnOk X.prog X.w X.K X.mg X.base CX k f fd ps sp) (hr : Room k X.A) (hb : KBn X.K fd ps 1 ks g gV) (hx : Passes CX X E) (hkw : PK X kws tk)
    (hall : (backToKw pos (keywordEach kws X.env)).all (·.1.isSome) = true := by rfl) (hks : (backToKw pos (keywordEach kws X.env)).filterMap (·.1) = ks := by rfl)
    (hpl : ((backTo pos (starEach [] X.env)).any (·.1) || (backToKw pos (keywordEach kws X.env)).any (·.1.isNone)) = false := by rfl)
    (ht : eval (.Call (.Attribute o m apos) [] kws pos) X.env = (do
      let ov ← eval o X.env
      standAt apos.atName
      let (f, first) ← holding [ov] (getMethod ov m pl)
      callWith pos f first (backTo pos (starEach [] X.env)) (backToKw pos (keywordEach kws X.env))) := by rfl) :
    PE X (.Call (.Attribute o m apos) [] kws pos) (tMethK C m ks.length sp gV E ta tk) := by
  refine ⟨fun pins s σ H Q I h => ?_⟩
  refine PySem.W.methodCall_KW (pl := pl) (thn (he.run pins s σ H _ I h) fun u s1 ⟨x, H1, I1, rx, a, dx, fs, ex, ea, l, q⟩ => ?_) ht
  subst ex
  obtain rfl : u = Value.ref a := rx
  refine getmeth_ok I1 ea c hm l ?_
  refine PySem.W.callWith_KW0 (first := [.ref a]) (h₀ := X.base) I.ok.mod.kin hm.kp hall ?_ hpl
  refine thn (hkw.run pos pins s1 σ H1 _ I1 q) fun ws s2 ⟨zs, H2, I2, rz, l2, q2⟩ => ⟨I2.kIn, ?_⟩
  rw [hks]
  exact run_fnN (us := [.ref a]) (vs := [.ref a]) F hr hb hx I2 (.cons rfl .nil) rz rfl l2 q2
end
end Sm

namespace Sm
open PySem PySem.Spec PyProof.Rows L2
theorem kb_NoneType_list {K : PySem.W.Frag} : PySem.W.kitOne K (.type "NoneType") (.type "list") = some false := kit_ty (by decide +kernel)
theorem kb_NoneType_tuple {K : PySem.W.Frag} : PySem.W.kitOne K (.type "NoneType") (.type "tuple") = some false := kit_ty (by decide +kernel)
theorem kb_NoneType_int {K : PySem.W.Frag} : PySem.W.kitOne K (.type "NoneType") (.type "int") = some false := kit_ty (by decide +kernel)
theorem kb_NoneType_bool {K : PySem.W.Frag} : PySem.W.kitOne K (.type "NoneType") (.type "bool") = some false := kit_ty (by decide +kernel)
theorem kb_NoneType_str {K : PySem.W.Frag} : PySem.W.kitOne K (.type "NoneType") (.type "str") = some false := kit_ty (by decide +kernel)
theorem kb_bool_list {K : PySem.W.Frag} : PySem.W.kitOne K (.type "bool") (.type "list") = some false := kit_ty (by decide +kernel)
theorem kb_bool_tuple {K : PySem.W.Frag} : PySem.W.kitOne K (.type "bool") (.type "tuple") = some false := kit_ty (by decide +kernel)
theorem kb_bool_int {K : PySem.W.Frag} : PySem.W.kitOne K (.type "bool") (.type "int") = some true := kit_ty (by decide +kernel)
theorem kb_bool_bool {K : PySem.W.Frag} : PySem.W.kitOne K (.type "bool") (.type "bool") = some true := kit_ty (by decide +kernel)
theorem kb_bool_str {K : PySem.W.Frag} : PySem.W.kitOne K (.type "bool") (.type "str") = some false := kit_ty (by decide +kernel)
theorem kb_int_list {K : PySem.W.Frag} : PySem.W.kitOne K (.type "int") (.type "list") = some false := kit_ty (by decide +kernel)
theorem kb_int_tuple {K : PySem.W.Frag} : PySem.W.kitOne K (.type "int") (.type "tuple") = some false := kit_ty (by decide +kernel)
theorem kb_int_int {K : PySem.W.Frag} : PySem.W.kitOne K (.type "int") (.type "int") = some true := kit_ty (by decide +kernel)
theorem kb_int_bool {K : PySem.W.Frag} : PySem.W.kitOne K (.type "int") (.type "bool") = some false := kit_ty (by decide +kernel)
theorem kb_int_str {K : PySem.W.Frag} : PySem.W.kitOne K (.type "int") (.type "str") = some false := kit_ty (by decide +kernel)
theorem kb_str_list {K : PySem.W.Frag} : PySem.W.kitOne K (.type "str") (.type "list") = some false := kit_ty (by decide +kernel)
theorem kb_str_tuple {K : PySem.W.Frag} : PySem.W.kitOne K (.type "str") (.type "tuple") = some false := kit_ty (by decide +kernel)
theorem kb_str_int {K : PySem.W.Frag} : PySem.W.kitOne K (.type "str") (.type "int") = some false := kit_ty (by decide +kernel)
theorem kb_str_bool {K : PySem.W.Frag} : PySem.W.kitOne K (.type "str") (.type "bool") = some false := kit_ty (by decide +kernel)
theorem kb_str_str {K : PySem.W.Frag} : PySem.W.kitOne K (.type "str") (.type "str") = some true := kit_ty (by decide +kernel)
theorem kb_list_list {K : PySem.W.Frag} : PySem.W.kitOne K (.type "list") (.type "list") = some true := kit_ty (by decide +kernel)
theorem kb_list_tuple {K : PySem.W.Frag} : PySem.W.kitOne K (.type "list") (.type "tuple") = some false := kit_ty (by decide +kernel)
theorem kb_list_int {K : PySem.W.Frag} : PySem.W.kitOne K (.type "list") (.type "int") = some false := kit_ty (by decide +kernel)
theorem kb_list_bool {K : PySem.W.Frag} : PySem.W.kitOne K (.type "list") (.type "bool") = some false := kit_ty (by decide +kernel)
theorem kb_list_str {K : PySem.W.Frag} : PySem.W.kitOne K (.type "list") (.type "str") = some false := kit_ty (by decide +kernel)
theorem kb_tuple_list {K : PySem.W.Frag} : PySem.W.kitOne K (.type "tuple") (.type "list") = some false := kit_ty (by decide +kernel)
theorem kb_tuple_tuple {K : PySem.W.Frag} : PySem.W.kitOne K (.type "tuple") (.type "tuple") = some true := kit_ty (by decide +kernel)
theorem kb_tuple_int {K : PySem.W.Frag} : PySem.W.kitOne K (.type "tuple") (.type "int") = some false := kit_ty (by decide +kernel)
theorem kb_tuple_bool {K : PySem.W.Frag} : PySem.W.kitOne K (.type "tuple") (.type "bool") = some false := kit_ty (by decide +kernel)
theorem kb_tuple_str {K : PySem.W.Frag} : PySem.W.kitOne K (.type "tuple") (.type "str") = some false := kit_ty (by decide +kernel)
theorem kb_dict_list {K : PySem.W.Frag} : PySem.W.kitOne K (.type "dict") (.type "list") = some false := kit_ty (by decide +kernel)
theorem kb_dict_tuple {K : PySem.W.Frag} : PySem.W.kitOne K (.type "dict") (.type "tuple") = some false := kit_ty (by decide +kernel)
theorem kb_dict_int {K : PySem.W.Frag} : PySem.W.kitOne K (.type "dict") (.type "int") = some false := kit_ty (by decide +kernel)
theorem kb_dict_bool {K : PySem.W.Frag} : PySem.W.kitOne K (.type "dict") (.type "bool") = some false := kit_ty (by decide +kernel)
theorem kb_dict_str {K : PySem.W.Frag} : PySem.W.kitOne K (.type "dict") (.type "str") = some false := kit_ty (by decide +kernel)
theorem ka_lt_NoneType {K : PySem.W.Frag} : PySem.W.kitAny K (.type "NoneType") [.type "list", .type "tuple"] = some false := (kitAny_cons kb_NoneType_list (fun _ => (kitAny_cons kb_NoneType_tuple (fun _ => kitAny_nil) (fun e => nomatch e))) (fun e => nomatch e))
theorem ka_lt_bool {K : PySem.W.Frag} : PySem.W.kitAny K (.type "bool") [.type "list", .type "tuple"] = some false := (kitAny_cons kb_bool_list (fun _ => (kitAny_cons kb_bool_tuple (fun _ => kitAny_nil) (fun e => nomatch e))) (fun e => nomatch e))
theorem ka_lt_int {K : PySem.W.Frag} : PySem.W.kitAny K (.type "int") [.type "list", .type "tuple"] = some false := (kitAny_cons kb_int_list (fun _ => (kitAny_cons kb_int_tuple (fun _ => kitAny_nil) (fun e => nomatch e))) (fun e => nomatch e))
theorem ka_lt_str {K : PySem.W.Frag} : PySem.W.kitAny K (.type "str") [.type "list", .type "tuple"] = some false := (kitAny_cons kb_str_list (fun _ => (kitAny_cons kb_str_tuple (fun _ => kitAny_nil) (fun e => nomatch e))) (fun e => nomatch e))
theorem ka_lt_list {K : PySem.W.Frag} : PySem.W.kitAny K (.type "list") [.type "list", .type "tuple"] = some true := (kitAny_cons kb_list_list (fun e => nomatch e) (fun _ => rfl))
theorem ka_lt_tuple {K : PySem.W.Frag} : PySem.W.kitAny K (.type "tuple") [.type "list", .type "tuple"] = some true := (kitAny_cons kb_tuple_list (fun _ => (kitAny_cons kb_tuple_tuple (fun e => nomatch e) (fun _ => rfl))) (fun e => nomatch e))
theorem ka_lt_dict {K : PySem.W.Frag} : PySem.W.kitAny K (.type "dict") [.type "list", .type "tuple"] = some false := (kitAny_cons kb_dict_list (fun _ => (kitAny_cons kb_dict_tuple (fun _ => kitAny_nil) (fun e => nomatch e))) (fun e => nomatch e))
theorem ka_bilt_NoneType {K : PySem.W.Frag} : PySem.W.kitAny K (.type "NoneType") [.type "bool", .type "int", .type "list", .type "tuple"] = some false := (kitAny_cons kb_NoneType_bool (fun _ => (kitAny_cons kb_NoneType_int (fun _ => (kitAny_cons kb_NoneType_list (fun _ => (kitAny_cons kb_NoneType_tuple (fun _ => kitAny_nil) (fun e => nomatch e))) (fun e => nomatch e))) (fun e => nomatch e))) (fun e => nomatch e))
theorem ka_bilt_bool {K : PySem.W.Frag} : PySem.W.kitAny K (.type "bool") [.type "bool", .type "int", .type "list", .type "tuple"] = some true := (kitAny_cons kb_bool_bool (fun e => nomatch e) (fun _ => rfl))
theorem ka_bilt_int {K : PySem.W.Frag} : PySem.W.kitAny K (.type "int") [.type "bool", .type "int", .type "list", .type "tuple"] = some true := (kitAny_cons kb_int_bool (fun _ => (kitAny_cons kb_int_int (fun e => nomatch e) (fun _ => rfl))) (fun e => nomatch e))
theorem ka_bilt_str {K : PySem.W.Frag} : PySem.W.kitAny K (.type "str") [.type "bool", .type "int", .type "list", .type "tuple"] = some false := (kitAny_cons kb_str_bool (fun _ => (kitAny_cons kb_str_int (fun _ => (kitAny_cons kb_str_list (fun _ => (kitAny_cons kb_str_tuple (fun _ => kitAny_nil) (fun e => nomatch e))) (fun e => nomatch e))) (fun e => nomatch e))) (fun e => nomatch e))
theorem ka_bilt_list {K : PySem.W.Frag} : PySem.W.kitAny K (.type "list") [.type "bool", .type "int", .type "list", .type "tuple"] = some true := (kitAny_cons kb_list_bool (fun _ => (kitAny_cons kb_list_int (fun _ => (kitAny_cons kb_list_list (fun e => nomatch e) (fun _ => rfl))) (fun e => nomatch e))) (fun e => nomatch e))
theorem ka_bilt_tuple {K : PySem.W.Frag} : PySem.W.kitAny K (.type "tuple") [.type "bool", .type "int", .type "list", .type "tuple"] = some true := (kitAny_cons kb_tuple_bool (fun _ => (kitAny_cons kb_tuple_int (fun _ => (kitAny_cons kb_tuple_list (fun _ => (kitAny_cons kb_tuple_tuple (fun e => nomatch e) (fun _ => rfl))) (fun e => nomatch e))) (fun e => nomatch e))) (fun e => nomatch e))
theorem ka_bilt_dict {K : PySem.W.Frag} : PySem.W.kitAny K (.type "dict") [.type "bool", .type "int", .type "list", .type "tuple"] = some false := (kitAny_cons kb_dict_bool (fun _ => (kitAny_cons kb_dict_int (fun _ => (kitAny_cons kb_dict_list (fun _ => (kitAny_cons kb_dict_tuple (fun _ => kitAny_nil) (fun e => nomatch e))) (fun e => nomatch e))) (fun e => nomatch e))) (fun e => nomatch e))
end Sm

namespace K02
open PySem PySem.Spec PyProof.Rows L2 Sm
def topS (i : Nat) : Stmt := PySem.Challenge.pw_seenmarks_k02_fields_told.main.body.getD i (.Pass ⟨0, 0, 0, 0⟩)
structure Ad where
  f_is_word : Addr
  d_is_word : FuncData
  f_is_row : Addr
  d_is_row : FuncData
  f_words_in : Addr
  d_words_in : FuncData
  f_do_meet : Addr
  d_do_meet : FuncData
  f_either : Addr
  d_either : FuncData
  f_both : Addr
  d_both : FuncData
  f_without : Addr
  d_without : FuncData
  f_one_only : Addr
  d_one_only : FuncData
  f__law_fresh : Addr
  d__law_fresh : FuncData
  f__law_fill : Addr
  d__law_fill : FuncData
  f__law_take : Addr
  d__law_take : FuncData
  f__law_one : Addr
  d__law_one : FuncData
  f__law_mix : Addr
  d__law_mix : FuncData
  f__law_same : Addr
  d__law_same : FuncData
  f__law_all_words : Addr
  d__law_all_words : FuncData
  f__law_some_words : Addr
  d__law_some_words : FuncData
  f__law_some : Addr
  d__law_some : FuncData
  f__law_rising : Addr
  d__law_rising : FuncData
  f__law_doubled : Addr
  d__law_doubled : FuncData
  f__law_passed : Addr
  d__law_passed : FuncData
  f__law_due : Addr
  d__law_due : FuncData
  f__law_joined : Addr
  d__law_joined : FuncData
  f__law_right : Addr
  d__law_right : FuncData
  f_law : Addr
  d_law : FuncData
  f_Fields___init__ : Addr
  d_Fields___init__ : FuncData
  f_Fields___eq__ : Addr
  d_Fields___eq__ : FuncData
  f_Fields___len__ : Addr
  d_Fields___len__ : FuncData
  f_Fields___contains__ : Addr
  d_Fields___contains__ : FuncData
  f_Fields_words : Addr
  d_Fields_words : FuncData
  f_Fields_meets : Addr
  d_Fields_meets : FuncData
  f_Fields_within : Addr
  d_Fields_within : FuncData
  f_Fields___or__ : Addr
  d_Fields___or__ : FuncData
  f_Fields___ror__ : Addr
  d_Fields___ror__ : FuncData
  f_Fields___and__ : Addr
  d_Fields___and__ : FuncData
  f_Fields___rand__ : Addr
  d_Fields___rand__ : FuncData
  f_Fields___sub__ : Addr
  d_Fields___sub__ : FuncData
  f_Fields___rsub__ : Addr
  d_Fields___rsub__ : FuncData
  f_Fields___xor__ : Addr
  d_Fields___xor__ : FuncData
  f_Fields___rxor__ : Addr
  d_Fields___rxor__ : FuncData
  C_Fields : Addr
structure Txt (K : PySem.W.Frag) (mg : Str → Option Value) (a : Ad) : Prop where
  F_is_word : Fun K "is_word" "is_word" (topS 6) a.f_is_word a.d_is_word
  B_is_word : Binds K a.d_is_word ["thing"] []
  m_is_word : mg "is_word" = some (.ref a.f_is_word)
  F_is_row : Fun K "is_row" "is_row" (topS 7) a.f_is_row a.d_is_row
  B_is_row : Binds K a.d_is_row ["thing"] []
  m_is_row : mg "is_row" = some (.ref a.f_is_row)
  F_words_in : Fun K "words_in" "words_in" (topS 9) a.f_words_in a.d_words_in
  B_words_in : Binds K a.d_words_in ["thing"] []
  m_words_in : mg "words_in" = some (.ref a.f_words_in)
  F_do_meet : Fun K "do_meet" "do_meet" (topS 10) a.f_do_meet a.d_do_meet
  B_do_meet : Binds K a.d_do_meet ["ones", "others"] []
  m_do_meet : mg "do_meet" = some (.ref a.f_do_meet)
  F_either : Fun K "either" "either" (topS 12) a.f_either a.d_either
  B_either : Binds K a.d_either ["ones", "others"] []
  m_either : mg "either" = some (.ref a.f_either)
  F_both : Fun K "both" "both" (topS 13) a.f_both a.d_both
  B_both : Binds K a.d_both ["ones", "others"] []
  m_both : mg "both" = some (.ref a.f_both)
  F_without : Fun K "without" "without" (topS 14) a.f_without a.d_without
  B_without : Binds K a.d_without ["ones", "others"] []
  m_without : mg "without" = some (.ref a.f_without)
  F_one_only : Fun K "one_only" "one_only" (topS 15) a.f_one_only a.d_one_only
  B_one_only : Binds K a.d_one_only ["ones", "others"] []
  m_one_only : mg "one_only" = some (.ref a.f_one_only)
  F__law_fresh : Fun K "_law_fresh" "_law_fresh" (topS 17) a.f__law_fresh a.d__law_fresh
  B__law_fresh : Binds K a.d__law_fresh ["_law_script"] []
  m__law_fresh : mg "_law_fresh" = some (.ref a.f__law_fresh)
  F__law_fill : Fun K "_law_fill" "_law_fill" (topS 18) a.f__law_fill a.d__law_fill
  B__law_fill : Binds K a.d__law_fill ["_law_state"] []
  m__law_fill : mg "_law_fill" = some (.ref a.f__law_fill)
  F__law_take : Fun K "_law_take" "_law_take" (topS 19) a.f__law_take a.d__law_take
  B__law_take : Binds K a.d__law_take ["_law_state", "_law_many"] []
  m__law_take : mg "_law_take" = some (.ref a.f__law_take)
  F__law_one : Fun K "_law_one" "_law_one" (topS 20) a.f__law_one a.d__law_one
  B__law_one : Binds K a.d__law_one ["_law_state", "_law_things"] []
  m__law_one : mg "_law_one" = some (.ref a.f__law_one)
  F__law_mix : Fun K "_law_mix" "_law_mix" (topS 21) a.f__law_mix a.d__law_mix
  B__law_mix : Binds K a.d__law_mix ["_law_state", "_law_things"] []
  m__law_mix : mg "_law_mix" = some (.ref a.f__law_mix)
  F__law_same : Fun K "_law_same" "_law_same" (topS 22) a.f__law_same a.d__law_same
  B__law_same : Binds K a.d__law_same ["_law_found", "_law_due_here"] []
  m__law_same : mg "_law_same" = some (.ref a.f__law_same)
  F__law_all_words : Fun K "_law_all_words" "_law_all_words" (topS 23) a.f__law_all_words a.d__law_all_words
  B__law_all_words : Binds K a.d__law_all_words [] []
  m__law_all_words : mg "_law_all_words" = some (.ref a.f__law_all_words)
  F__law_some_words : Fun K "_law_some_words" "_law_some_words" (topS 24) a.f__law_some_words a.d__law_some_words
  B__law_some_words : Binds K a.d__law_some_words ["_law_state", "_law_many"] []
  m__law_some_words : mg "_law_some_words" = some (.ref a.f__law_some_words)
  F__law_some : Fun K "_law_some" "_law_some" (topS 25) a.f__law_some a.d__law_some
  B__law_some : Binds K a.d__law_some ["_law_state", "_law_things"] []
  m__law_some : mg "_law_some" = some (.ref a.f__law_some)
  F__law_rising : Fun K "_law_rising" "_law_rising" (topS 26) a.f__law_rising a.d__law_rising
  B__law_rising : Binds K a.d__law_rising ["_law_some_here"] []
  m__law_rising : mg "_law_rising" = some (.ref a.f__law_rising)
  F__law_doubled : Fun K "_law_doubled" "_law_doubled" (topS 27) a.f__law_doubled a.d__law_doubled
  B__law_doubled : Binds K a.d__law_doubled ["_law_state", "_law_some_here"] []
  m__law_doubled : mg "_law_doubled" = some (.ref a.f__law_doubled)
  F__law_passed : Fun K "_law_passed" "_law_passed" (topS 28) a.f__law_passed a.d__law_passed
  B__law_passed : Binds K a.d__law_passed ["_law_state", "_law_some_here"] []
  m__law_passed : mg "_law_passed" = some (.ref a.f__law_passed)
  F__law_due : Fun K "_law_due" "_law_due" (topS 29) a.f__law_due a.d__law_due
  B__law_due : Binds K a.d__law_due ["_law_way", "_law_ones", "_law_others"] []
  m__law_due : mg "_law_due" = some (.ref a.f__law_due)
  F__law_joined : Fun K "_law_joined" "_law_joined" (topS 30) a.f__law_joined a.d__law_joined
  B__law_joined : Binds K a.d__law_joined ["_law_way", "_law_x", "_law_y"] []
  m__law_joined : mg "_law_joined" = some (.ref a.f__law_joined)
  F__law_right : Fun K "_law_right" "_law_right" (topS 31) a.f__law_right a.d__law_right
  B__law_right : Binds K a.d__law_right ["_law_made", "_law_some_here"] []
  m__law_right : mg "_law_right" = some (.ref a.f__law_right)
  F_law : Fun K "law" "law" (topS 32) a.f_law a.d_law
  B_law : Binds K a.d_law ["_law_script"] []
  m_law : mg "law" = some (.ref a.f_law)
  F_Fields___init__ : Fun K "__init__" "Fields.__init__" (inClass (topS 11) 0) a.f_Fields___init__ a.d_Fields___init__
  B_Fields___init__ : Binds K a.d_Fields___init__ ["self", "words"] []
  F_Fields___eq__ : Fun K "__eq__" "Fields.__eq__" (inClass (topS 11) 1) a.f_Fields___eq__ a.d_Fields___eq__
  B_Fields___eq__ : Binds K a.d_Fields___eq__ ["self", "other"] []
  F_Fields___len__ : Fun K "__len__" "Fields.__len__" (inClass (topS 11) 2) a.f_Fields___len__ a.d_Fields___len__
  B_Fields___len__ : Binds K a.d_Fields___len__ ["self"] []
  F_Fields___contains__ : Fun K "__contains__" "Fields.__contains__" (inClass (topS 11) 3) a.f_Fields___contains__ a.d_Fields___contains__
  B_Fields___contains__ : Binds K a.d_Fields___contains__ ["self", "word"] []
  F_Fields_words : Fun K "words" "Fields.words" (inClass (topS 11) 4) a.f_Fields_words a.d_Fields_words
  B_Fields_words : Binds K a.d_Fields_words ["self"] []
  F_Fields_meets : Fun K "meets" "Fields.meets" (inClass (topS 11) 5) a.f_Fields_meets a.d_Fields_meets
  B_Fields_meets : Binds K a.d_Fields_meets ["self", "other"] []
  F_Fields_within : Fun K "within" "Fields.within" (inClass (topS 11) 6) a.f_Fields_within a.d_Fields_within
  B_Fields_within : Binds K a.d_Fields_within ["self", "other"] []
  F_Fields___or__ : Fun K "__or__" "Fields.__or__" (inClass (topS 11) 7) a.f_Fields___or__ a.d_Fields___or__
  B_Fields___or__ : Binds K a.d_Fields___or__ ["self", "other"] []
  F_Fields___ror__ : Fun K "__ror__" "Fields.__ror__" (inClass (topS 11) 8) a.f_Fields___ror__ a.d_Fields___ror__
  B_Fields___ror__ : Binds K a.d_Fields___ror__ ["self", "other"] []
  F_Fields___and__ : Fun K "__and__" "Fields.__and__" (inClass (topS 11) 9) a.f_Fields___and__ a.d_Fields___and__
  B_Fields___and__ : Binds K a.d_Fields___and__ ["self", "other"] []
  F_Fields___rand__ : Fun K "__rand__" "Fields.__rand__" (inClass (topS 11) 10) a.f_Fields___rand__ a.d_Fields___rand__
  B_Fields___rand__ : Binds K a.d_Fields___rand__ ["self", "other"] []
  F_Fields___sub__ : Fun K "__sub__" "Fields.__sub__" (inClass (topS 11) 11) a.f_Fields___sub__ a.d_Fields___sub__
  B_Fields___sub__ : Binds K a.d_Fields___sub__ ["self", "other"] []
  F_Fields___rsub__ : Fun K "__rsub__" "Fields.__rsub__" (inClass (topS 11) 12) a.f_Fields___rsub__ a.d_Fields___rsub__
  B_Fields___rsub__ : Binds K a.d_Fields___rsub__ ["self", "other"] []
  F_Fields___xor__ : Fun K "__xor__" "Fields.__xor__" (inClass (topS 11) 13) a.f_Fields___xor__ a.d_Fields___xor__
  B_Fields___xor__ : Binds K a.d_Fields___xor__ ["self", "other"] []
  F_Fields___rxor__ : Fun K "__rxor__" "Fields.__rxor__" (inClass (topS 11) 14) a.f_Fields___rxor__ a.d_Fields___rxor__
  B_Fields___rxor__ : Binds K a.d_Fields___rxor__ ["self", "other"] []
  g_Fields : mg "Fields" = some (.ref a.C_Fields)
  C_Fields : Cls K a.C_Fields
  K_Fields : Mk K a.C_Fields a.f_Fields___init__
  O_Fields : OwnC K a.C_Fields
  I_Fields : OwnI K a.C_Fields
  D_Fields___eq__ : Meth K a.C_Fields "__eq__" a.f_Fields___eq__
  D_Fields___len__ : Meth K a.C_Fields "__len__" a.f_Fields___len__
  D_Fields___contains__ : Meth K a.C_Fields "__contains__" a.f_Fields___contains__
  D_Fields_words : Meth K a.C_Fields "words" a.f_Fields_words
  D_Fields_meets : Meth K a.C_Fields "meets" a.f_Fields_meets
  D_Fields_within : Meth K a.C_Fields "within" a.f_Fields_within
  D_Fields___or__ : Meth K a.C_Fields "__or__" a.f_Fields___or__
  D_Fields___ror__ : Meth K a.C_Fields "__ror__" a.f_Fields___ror__
  D_Fields___and__ : Meth K a.C_Fields "__and__" a.f_Fields___and__
  D_Fields___rand__ : Meth K a.C_Fields "__rand__" a.f_Fields___rand__
  D_Fields___sub__ : Meth K a.C_Fields "__sub__" a.f_Fields___sub__
  D_Fields___rsub__ : Meth K a.C_Fields "__rsub__" a.f_Fields___rsub__
  D_Fields___xor__ : Meth K a.C_Fields "__xor__" a.f_Fields___xor__
  D_Fields___rxor__ : Meth K a.C_Fields "__rxor__" a.f_Fields___rxor__
  n_Fields_cells : NoAttr K a.C_Fields "cells"
  g_LETTERS : ∃ t, mg "LETTERS" = some (.str "abcdefghijklmnopqrstuvwxyz" t)
  g_LONGEST : ∃ t, mg "LONGEST" = some (.int 8 t)
  b_len : mg "len" = none
  b_int : mg "int" = none
  b_list : mg "list" = none
  b_tuple : mg "tuple" = none
  b_str : mg "str" = none
  b_all : mg "all" = none
  b_any : mg "any" = none
  b_sorted : mg "sorted" = none
  b_isinstance : mg "isinstance" = none
  b_range : mg "range" = none
  b_enumerate : mg "enumerate" = none
  b_zip : mg "zip" = none
  b_bool : mg "bool" = none
  x_list_or : PySem.W.findIn K (.type "list") "__or__" = some none
  y_list_or : PySem.W.findIn K (.type "list") "__ror__" = some none
  x_list_and : PySem.W.findIn K (.type "list") "__and__" = some none
  y_list_and : PySem.W.findIn K (.type "list") "__rand__" = some none
  x_list_sub : PySem.W.findIn K (.type "list") "__sub__" = some none
  y_list_sub : PySem.W.findIn K (.type "list") "__rsub__" = some none
  x_list_xor : PySem.W.findIn K (.type "list") "__xor__" = some none
  y_list_xor : PySem.W.findIn K (.type "list") "__rxor__" = some none
  x_tuple_or : PySem.W.findIn K (.type "tuple") "__or__" = some none
  y_tuple_or : PySem.W.findIn K (.type "tuple") "__ror__" = some none
  x_tuple_and : PySem.W.findIn K (.type "tuple") "__and__" = some none
  y_tuple_and : PySem.W.findIn K (.type "tuple") "__rand__" = some none
  x_tuple_sub : PySem.W.findIn K (.type "tuple") "__sub__" = some none
  y_tuple_sub : PySem.W.findIn K (.type "tuple") "__rsub__" = some none
  x_tuple_xor : PySem.W.findIn K (.type "tuple") "__xor__" = some none
  y_tuple_xor : PySem.W.findIn K (.type "tuple") "__rxor__" = some none
abbrev N_is_word : List Str := ["thing", "letter"]
theorem S_is_word : FnScope N_is_word ["thing"] (defScope (topS 6)) := ⟨rfl, rfl, rfl, by decide +kernel, rfl, by decide +kernel, by decide +kernel⟩
abbrev N_is_row : List Str := ["thing"]
theorem S_is_row : FnScope N_is_row ["thing"] (defScope (topS 7)) := ⟨rfl, rfl, rfl, by decide +kernel, rfl, by decide +kernel, by decide +kernel⟩
abbrev N_words_in : List Str := ["thing", "found", "index", "word"]
theorem S_words_in : FnScope N_words_in ["thing"] (defScope (topS 9)) := ⟨rfl, rfl, rfl, by decide +kernel, rfl, by decide +kernel, by decide +kernel⟩
abbrev N_do_meet : List Str := ["ones", "others", "word"]
theorem S_do_meet : FnScope N_do_meet ["ones", "others"] (defScope (topS 10)) := ⟨rfl, rfl, rfl, by decide +kernel, rfl, by decide +kernel, by decide +kernel⟩
abbrev N_either : List Str := ["ones", "others"]
theorem S_either : FnScope N_either ["ones", "others"] (defScope (topS 12)) := ⟨rfl, rfl, rfl, by decide +kernel, rfl, by decide +kernel, by decide +kernel⟩
abbrev N_both : List Str := ["ones", "others", "word"]
theorem S_both : FnScope N_both ["ones", "others"] (defScope (topS 13)) := ⟨rfl, rfl, rfl, by decide +kernel, rfl, by decide +kernel, by decide +kernel⟩
abbrev N_without : List Str := ["ones", "others", "word"]
theorem S_without : FnScope N_without ["ones", "others"] (defScope (topS 14)) := ⟨rfl, rfl, rfl, by decide +kernel, rfl, by decide +kernel, by decide +kernel⟩
abbrev N_one_only : List Str := ["ones", "others", "word"]
theorem S_one_only : FnScope N_one_only ["ones", "others"] (defScope (topS 15)) := ⟨rfl, rfl, rfl, by decide +kernel, rfl, by decide +kernel, by decide +kernel⟩
abbrev N__law_fresh : List Str := ["_law_script"]
theorem S__law_fresh : FnScope N__law_fresh ["_law_script"] (defScope (topS 17)) := ⟨rfl, rfl, rfl, by decide +kernel, rfl, by decide +kernel, by decide +kernel⟩
abbrev N__law_fill : List Str := ["_law_state", "_law_cells", "_law_nth", "_law_seed", "_law_k", "_law_prime", "_law_far"]
theorem S__law_fill : FnScope N__law_fill ["_law_state"] (defScope (topS 18)) := ⟨rfl, rfl, rfl, by decide +kernel, rfl, by decide +kernel, by decide +kernel⟩
abbrev N__law_take : List Str := ["_law_state", "_law_many", "_law_laps", "_law_digit"]
theorem S__law_take : FnScope N__law_take ["_law_state", "_law_many"] (defScope (topS 19)) := ⟨rfl, rfl, rfl, by decide +kernel, rfl, by decide +kernel, by decide +kernel⟩
abbrev N__law_one : List Str := ["_law_state", "_law_things"]
theorem S__law_one : FnScope N__law_one ["_law_state", "_law_things"] (defScope (topS 20)) := ⟨rfl, rfl, rfl, by decide +kernel, rfl, by decide +kernel, by decide +kernel⟩
abbrev N__law_mix : List Str := ["_law_state", "_law_things", "_law_left", "_law_found"]
theorem S__law_mix : FnScope N__law_mix ["_law_state", "_law_things"] (defScope (topS 21)) := ⟨rfl, rfl, rfl, by decide +kernel, rfl, by decide +kernel, by decide +kernel⟩
abbrev N__law_same : List Str := ["_law_found", "_law_due_here", "_law_a", "_law_b"]
theorem S__law_same : FnScope N__law_same ["_law_found", "_law_due_here"] (defScope (topS 22)) := ⟨rfl, rfl, rfl, by decide +kernel, rfl, by decide +kernel, by decide +kernel⟩
abbrev N__law_all_words : List Str := ["_law_found", "_law_x", "_law_y"]
theorem S__law_all_words : FnScope N__law_all_words [] (defScope (topS 23)) := ⟨rfl, rfl, rfl, by decide +kernel, rfl, by decide +kernel, by decide +kernel⟩
abbrev N__law_some_words : List Str := ["_law_state", "_law_many", "_law_left", "_law_found", "_law_k"]
theorem S__law_some_words : FnScope N__law_some_words ["_law_state", "_law_many"] (defScope (topS 24)) := ⟨rfl, rfl, rfl, by decide +kernel, rfl, by decide +kernel, by decide +kernel⟩
abbrev N__law_some : List Str := ["_law_state", "_law_things", "_law_way", "_law_x"]
theorem S__law_some : FnScope N__law_some ["_law_state", "_law_things"] (defScope (topS 25)) := ⟨rfl, rfl, rfl, by decide +kernel, rfl, by decide +kernel, by decide +kernel⟩
abbrev N__law_rising : List Str := ["_law_some_here", "_law_found", "_law_x", "_law_at", "_law_y"]
theorem S__law_rising : FnScope N__law_rising ["_law_some_here"] (defScope (topS 26)) := ⟨rfl, rfl, rfl, by decide +kernel, rfl, by decide +kernel, by decide +kernel⟩
abbrev N__law_doubled : List Str := ["_law_state", "_law_some_here", "_law_found", "_law_k"]
theorem S__law_doubled : FnScope N__law_doubled ["_law_state", "_law_some_here"] (defScope (topS 27)) := ⟨rfl, rfl, rfl, by decide +kernel, rfl, by decide +kernel, by decide +kernel⟩
abbrev N__law_passed : List Str := ["_law_state", "_law_some_here", "_law_way", "_law_row"]
theorem S__law_passed : FnScope N__law_passed ["_law_state", "_law_some_here"] (defScope (topS 28)) := ⟨rfl, rfl, rfl, by decide +kernel, rfl, by decide +kernel, by decide +kernel⟩
abbrev N__law_due : List Str := ["_law_way", "_law_ones", "_law_others", "_law_x"]
theorem S__law_due : FnScope N__law_due ["_law_way", "_law_ones", "_law_others"] (defScope (topS 29)) := ⟨rfl, rfl, rfl, by decide +kernel, rfl, by decide +kernel, by decide +kernel⟩
abbrev N__law_joined : List Str := ["_law_way", "_law_x", "_law_y"]
theorem S__law_joined : FnScope N__law_joined ["_law_way", "_law_x", "_law_y"] (defScope (topS 30)) := ⟨rfl, rfl, rfl, by decide +kernel, rfl, by decide +kernel, by decide +kernel⟩
abbrev N__law_right : List Str := ["_law_made", "_law_some_here", "_law_told", "_law_strange", "_law_x"]
theorem S__law_right : FnScope N__law_right ["_law_made", "_law_some_here"] (defScope (topS 31)) := ⟨rfl, rfl, rfl, by decide +kernel, rfl, by decide +kernel, by decide +kernel⟩
abbrev N_law : List Str := ["_law_script", "_law_state", "_law_turn", "_law_pool", "_law_ones", "_law_others", "_law_x", "_law_handed", "_law_y", "_law_z", "_law_way", "_law_due_here", "_law_found", "_law_made", "_law_inside", "_law_shared"]
theorem S_law : FnScope N_law ["_law_script"] (defScope (topS 32)) := ⟨rfl, rfl, rfl, by decide +kernel, rfl, by decide +kernel, by decide +kernel⟩
abbrev N_Fields___init__ : List Str := ["self", "words"]
theorem S_Fields___init__ : FnScope N_Fields___init__ ["self", "words"] (defScope (inClass (topS 11) 0)) := ⟨rfl, rfl, rfl, by decide +kernel, rfl, by decide +kernel, by decide +kernel⟩
abbrev N_Fields___eq__ : List Str := ["self", "other"]
theorem S_Fields___eq__ : FnScope N_Fields___eq__ ["self", "other"] (defScope (inClass (topS 11) 1)) := ⟨rfl, rfl, rfl, by decide +kernel, rfl, by decide +kernel, by decide +kernel⟩
abbrev N_Fields___len__ : List Str := ["self"]
theorem S_Fields___len__ : FnScope N_Fields___len__ ["self"] (defScope (inClass (topS 11) 2)) := ⟨rfl, rfl, rfl, by decide +kernel, rfl, by decide +kernel, by decide +kernel⟩
abbrev N_Fields___contains__ : List Str := ["self", "word"]
theorem S_Fields___contains__ : FnScope N_Fields___contains__ ["self", "word"] (defScope (inClass (topS 11) 3)) := ⟨rfl, rfl, rfl, by decide +kernel, rfl, by decide +kernel, by decide +kernel⟩
abbrev N_Fields_words : List Str := ["self"]
theorem S_Fields_words : FnScope N_Fields_words ["self"] (defScope (inClass (topS 11) 4)) := ⟨rfl, rfl, rfl, by decide +kernel, rfl, by decide +kernel, by decide +kernel⟩
abbrev N_Fields_meets : List Str := ["self", "other"]
theorem S_Fields_meets : FnScope N_Fields_meets ["self", "other"] (defScope (inClass (topS 11) 5)) := ⟨rfl, rfl, rfl, by decide +kernel, rfl, by decide +kernel, by decide +kernel⟩
abbrev N_Fields_within : List Str := ["self", "other", "more", "word"]
theorem S_Fields_within : FnScope N_Fields_within ["self", "other"] (defScope (inClass (topS 11) 6)) := ⟨rfl, rfl, rfl, by decide +kernel, rfl, by decide +kernel, by decide +kernel⟩
abbrev N_Fields___or__ : List Str := ["self", "other"]
theorem S_Fields___or__ : FnScope N_Fields___or__ ["self", "other"] (defScope (inClass (topS 11) 7)) := ⟨rfl, rfl, rfl, by decide +kernel, rfl, by decide +kernel, by decide +kernel⟩
abbrev N_Fields___ror__ : List Str := ["self", "other"]
theorem S_Fields___ror__ : FnScope N_Fields___ror__ ["self", "other"] (defScope (inClass (topS 11) 8)) := ⟨rfl, rfl, rfl, by decide +kernel, rfl, by decide +kernel, by decide +kernel⟩
abbrev N_Fields___and__ : List Str := ["self", "other"]
theorem S_Fields___and__ : FnScope N_Fields___and__ ["self", "other"] (defScope (inClass (topS 11) 9)) := ⟨rfl, rfl, rfl, by decide +kernel, rfl, by decide +kernel, by decide +kernel⟩
abbrev N_Fields___rand__ : List Str := ["self", "other"]
theorem S_Fields___rand__ : FnScope N_Fields___rand__ ["self", "other"] (defScope (inClass (topS 11) 10)) := ⟨rfl, rfl, rfl, by decide +kernel, rfl, by decide +kernel, by decide +kernel⟩
abbrev N_Fields___sub__ : List Str := ["self", "other"]
theorem S_Fields___sub__ : FnScope N_Fields___sub__ ["self", "other"] (defScope (inClass (topS 11) 11)) := ⟨rfl, rfl, rfl, by decide +kernel, rfl, by decide +kernel, by decide +kernel⟩
abbrev N_Fields___rsub__ : List Str := ["self", "other"]
theorem S_Fields___rsub__ : FnScope N_Fields___rsub__ ["self", "other"] (defScope (inClass (topS 11) 12)) := ⟨rfl, rfl, rfl, by decide +kernel, rfl, by decide +kernel, by decide +kernel⟩
abbrev N_Fields___xor__ : List Str := ["self", "other"]
theorem S_Fields___xor__ : FnScope N_Fields___xor__ ["self", "other"] (defScope (inClass (topS 11) 13)) := ⟨rfl, rfl, rfl, by decide +kernel, rfl, by decide +kernel, by decide +kernel⟩
abbrev N_Fields___rxor__ : List Str := ["self", "other"]
theorem S_Fields___rxor__ : FnScope N_Fields___rxor__ ["self", "other"] (defScope (inClass (topS 11) 14)) := ⟨rfl, rfl, rfl, by decide +kernel, rfl, by decide +kernel, by decide +kernel⟩
end K02

/-! the readings' own words -/
local macro_rules | `(tactic| tm_at "ne") => `(tactic| first
  | assumption
  | (apply Ne.symm; assumption)
  | exact Sm.ne_non (by assumption) (by tm_at "hp")
  | exact Sm.non_ne (by assumption) (by tm_at "hp"))
local macro_rules | `(tactic| tm_at "hp") => `(tactic| first
  | assumption
  | (with_reducible show L2.upd _ _ _ _ = some _); (first | exact L2.upd_same | exact (L2.upd_ne (by tm_at "ne")).trans (by tm_at "hp"))
  | exact Sm.same_at (by assumption) (by tm_at "hp")
  | exact Sm.Fr1.at (by assumption) (by tm_at "ne") (by tm_at "hp"))
local macro_rules | `(tactic| tm_at "sq") => `(tactic| first
  | assumption
  | (refine Or.inl (Or.inl ?_); (tm_at "hp"; done))
  | ((with_reducible show L2.SqL _ (L2.upd _ _ _) _ _); exact Sm.sqL_same (Sm.same_new (L2.Same.refl _) (by assumption)) (by tm_at "sq"))
  | ((with_reducible show L2.SqT _ (L2.upd _ _ _) _ _); exact Sm.sqT_same (Sm.same_new (L2.Same.refl _) (by assumption)) (by tm_at "sq"))
  | ((with_reducible show L2.SqL _ _ _ _); exact Sm.sqL_same (by assumption) (by tm_at "sq"))
  | ((with_reducible show L2.SqT _ _ _ _); exact Sm.sqT_same (by assumption) (by tm_at "sq")))
local macro_rules | `(tactic| tm_at "row") => `(tactic| first
  | assumption
  | (refine Or.inl ?_; (tm_at "sq"; done))
  | (refine Or.inr ?_; (tm_at "sq"; done))
  | ((with_reducible show Sm.Row _ (L2.upd _ _ _) _ _); exact Sm.Row.same (Sm.same_new (L2.Same.refl _) (by assumption)) (by tm_at "row"))
  | exact Sm.Row.same (by assumption) (by tm_at "row"))
local macro_rules | `(tactic| tm_at "tyv") => `(tactic| first
  | assumption
  | exact .non
  | exact .bl _
  | exact .int _
  | exact .str _
  | ((with_reducible show Sm.TyV _ (L2.upd _ _ _) _ _); exact Sm.TyV.same (by assumption) (Sm.same_new (L2.Same.refl _) (by assumption)))
  | exact Sm.TyV.same (by assumption) (by assumption)
  | ((with_reducible show Sm.TyV _ _ (L2.V.ref _) _); (first | exact .lst (by tm_at "sq") | exact .tup (by tm_at "sq") | exact .dK (by tm_at "hp"))))
local macro_rules | `(tactic| tm_at "fr") => `(tactic| first
  | assumption
  | exact Sm.Fr1.refl
  | exact L2.Same.refl _
  | (refine Sm.Fr1.mut ?_; tm_at "fr")
  | (refine Sm.Fr1.new ?_ (by assumption); tm_at "fr")
  | (refine Sm.Fr1.mutNew ?_ (by assumption); tm_at "fr")
  | (refine Sm.same_new ?_ (by assumption); tm_at "fr")
  | (refine Sm.same_mut ?_ (by assumption); tm_at "fr")
  | (refine Sm.Fr1.trans (by assumption) ?_; tm_at "fr")
  | (refine Sm.Fr1.trans ?_ (by assumption); tm_at "fr")
  | (refine Sm.Fr1.ofSame ?_ (by assumption); tm_at "fr")
  | (refine L2.Same.trans ?_ (by assumption); tm_at "fr"))
local macro_rules | `(tactic| tm_at "om") => `(tactic| first
  | omega
  | (simp only [List.length_map, List.length_append, List.length_cons, List.length_nil, List.length_set] at *; (first | omega | exact Int.emod_nonneg _ (by omega) | exact Int.emod_lt_of_pos _ (by omega)))
  | exact Int.emod_nonneg _ (by omega)
  | exact Int.emod_lt_of_pos _ (by omega))
local macro_rules | `(tactic| tm_at "at") => `(tactic| first
  | exact rfl
  | exact Sm.atI_ints (by tm_at "om") (by tm_at "om")
  | exact Sm.atI_strs (by tm_at "om") (by tm_at "om")
  | exact Sm.atI_of (by tm_at "om") (by tm_at "om"))
local macro_rules | `(tactic| tm_at "tyx") => `(tactic| first
  | assumption
  | ((with_reducible show L2.TyX _ _ (L2.V.ref _) _); exact Sm.OwnI.tyx (by assumption) (by tm_at "hp"))
  | exact Sm.TyV.tyx (by tm_at "tyv"))
local macro_rules | `(tactic| tm_at "kit") => `(tactic| first
  | exact Sm.kb_NoneType_list
  | exact Sm.kb_NoneType_tuple
  | exact Sm.kb_NoneType_int
  | exact Sm.kb_NoneType_bool
  | exact Sm.kb_NoneType_str
  | exact Sm.kb_bool_list
  | exact Sm.kb_bool_tuple
  | exact Sm.kb_bool_int
  | exact Sm.kb_bool_bool
  | exact Sm.kb_bool_str
  | exact Sm.kb_int_list
  | exact Sm.kb_int_tuple
  | exact Sm.kb_int_int
  | exact Sm.kb_int_bool
  | exact Sm.kb_int_str
  | exact Sm.kb_str_list
  | exact Sm.kb_str_tuple
  | exact Sm.kb_str_int
  | exact Sm.kb_str_bool
  | exact Sm.kb_str_str
  | exact Sm.kb_list_list
  | exact Sm.kb_list_tuple
  | exact Sm.kb_list_int
  | exact Sm.kb_list_bool
  | exact Sm.kb_list_str
  | exact Sm.kb_tuple_list
  | exact Sm.kb_tuple_tuple
  | exact Sm.kb_tuple_int
  | exact Sm.kb_tuple_bool
  | exact Sm.kb_tuple_str
  | exact Sm.kb_dict_list
  | exact Sm.kb_dict_tuple
  | exact Sm.kb_dict_int
  | exact Sm.kb_dict_bool
  | exact Sm.kb_dict_str
  | exact Sm.OwnI.yes
  | exact Sm.OwnI.no (by assumption) (by tm_at "tyv"))
local macro_rules | `(tactic| tm_at "kita") => `(tactic| first
  | exact Sm.ka_lt_NoneType
  | exact Sm.ka_lt_bool
  | exact Sm.ka_lt_int
  | exact Sm.ka_lt_str
  | exact Sm.ka_lt_list
  | exact Sm.ka_lt_tuple
  | exact Sm.ka_lt_dict
  | exact Sm.ka_bilt_NoneType
  | exact Sm.ka_bilt_bool
  | exact Sm.ka_bilt_int
  | exact Sm.ka_bilt_str
  | exact Sm.ka_bilt_list
  | exact Sm.ka_bilt_tuple
  | exact Sm.ka_bilt_dict)
local macro_rules | `(tactic| tm_at "cl") => `(tactic| first
  | (with_reducible show PySem.W.kitOne _ _ _ = some _); tm_at "kit"
  | (with_reducible show PySem.W.kitAny _ _ _ = some _); tm_at "kita"
  | (with_reducible show L2.atI _ _ = some _); tm_at "at"
  | (with_reducible show _ = _); (first | exact rfl | assumption | tm_at "hp" | tm_at "om" | decide)
  | (with_reducible show _ ≤ PySem.sizeLine); exact Sm.sz_le (by tm_at "om")
  | (with_reducible show _ < PySem.sizeLine); exact Sm.sz_lt (by tm_at "om")
  | (with_reducible show L2.SqL _ _ _ _); tm_at "sq"
  | (with_reducible show L2.SqT _ _ _ _); tm_at "sq"
  | (with_reducible show L2.SqL _ _ _ _ ∨ L2.SqT _ _ _ _); (first | (refine Or.inl ?_; tm_at "sq") | (refine Or.inr ?_; tm_at "sq"))
  | (with_reducible show L2.CMul _ _); (first | exact Or.inl ⟨by tm_at "om", by tm_at "om"⟩ | exact Or.inr ⟨by tm_at "om", by tm_at "om"⟩)
  | (with_reducible show L2.CPow _ _); exact ⟨by tm_at "om", by tm_at "om", by first | tm_at "om" | exact Sm.emod_natAbs (by tm_at "om") (by tm_at "om")⟩
  | (with_reducible show Sm.CDivS _ _); exact ⟨by tm_at "om", by tm_at "om"⟩
  | (with_reducible show Sm.Fr1 _ _ _); tm_at "fr"
  | (with_reducible show L2.Same _ _); tm_at "fr"
  | (with_reducible show Sm.StOk _ _ _); tm_at "stok"
  | (with_reducible show _ ≠ _); tm_at "ne"
  | (with_reducible show L2.ClsV _ _); (first | exact L2.ClsV.ty _ | exact L2.ClsV.own _)
  | (with_reducible show L2.TyX _ _ _ _); tm_at "tyx"
  | (with_reducible show Sm.TyV _ _ _ _); tm_at "tyv"
  | (with_reducible show Sm.Row _ _ _ _); tm_at "row"
  | (with_reducible show PySem.Paired L2.ClsV _ _); (repeat (first | exact PySem.Paired.nil | apply PySem.Paired.cons (L2.ClsV.ty _) | apply PySem.Paired.cons (L2.ClsV.own _)))
  | (with_reducible show L2.tyV _ _ _ _); exact Or.inl ⟨rfl, _, by tm_at "sq"⟩
  | assumption
  | tm_at "om"
  | decide)
local macro_rules | `(tactic| tm_at "stok") => `(tactic| first
  | assumption
  | exact Sm.StOk.mk L2.upd_same (by tm_at "hp") (by tm_at "ne") (by assumption)
  | ((with_reducible show Sm.StOk _ (L2.upd _ _ _) _); exact Sm.StOk.new (by tm_at "stok") (by assumption))
  | ((with_reducible show Sm.StOk _ (L2.upd _ _ _) _); exact Sm.StOk.upd (by tm_at "stok") (by tm_at "ne") (by tm_at "ne"))
  | exact Sm.StOk.same (by assumption) (by assumption))
local macro_rules | `(tactic| tm_at "rd1") => `(tactic| first
  | ((with_reducible refine And.intro ?_ ?_); (focus (tm_at "cl"; done)))
  | ((fail_if_success show ∃ W : Nat → Nat → L2.St → L2.Hp → Prop, _); (fail_if_success show ∃ W : Nat → Nat → L2.Hp → Prop, _); (fail_if_success show ∃ W : Nat → L2.St → L2.Hp → Prop, _); (fail_if_success show ∃ W : L2.St → L2.Hp → Prop, _); (fail_if_success show ∃ acc : List L2.V, _ ∧ acc.length < PySem.sizeLine ∧ _); apply Exists.intro)
  | refine L2.iteT ?_
  | refine L2.iteF ?_
  | ((refine And.intro ?_ ?_); (focus (tm_at "cl"; done))))
local macro_rules | `(tactic| tm_at "rd") => `(tactic| repeat tm_at "rd1")
local macro_rules | `(tactic| tm_at "go") => `(tactic| ((tm_at "rd"); (try (focus (tm_at "cl"; done)))))

namespace K02
open PySem PySem.Spec PyProof.Rows L2 Sm
open Evl (pss_cut)
section
variable {P : Program} {w : World} {K : PySem.W.Frag} {mg : Str → Option Value} {base : Heap} {a : Ad}
def spFresh (K : PySem.W.Frag) : Sp := fun vs H Q _ => ∃ (sc : Addr) (ns : List Int), vs = [.ref sc] ∧ SqL K H sc (ns.map V.int) ∧ ∀ st c H', Same H H' → H st = none → H c = none → StOk c H' st → Q (.ref st) H'

theorem ok__law_fresh (T : Txt K mg a) {k : Nat} : FnOk P w K mg base CX0 (k + 1) a.f__law_fresh a.d__law_fresh ["_law_script"] (spFresh K) := by
  refine T.F__law_fresh.ok S__law_fresh (fun vs H Q E h => ?_) (fun cdv A outer s H vs Q E hr h => ?_)
  · obtain ⟨_, _, rfl, _⟩ := h
    rfl
  · obtain ⟨sc, ns, rfl, hsc, q⟩ := h
    refine ⟨_, (pss_one (ps_ret (pe_lst (pa_cons (pe_slice sl_list (pv 0) po_none (po_some pe_int)) (pa_cons pe_int (pa_cons pe_int (pa_cons pe_bl pa_nil))))))), ?_⟩
    try dsimp only [cxOf, Cx.nox, Cx.wish]
    tm_at "rd"
    intro p np
    tm_at "rd"
    intro st nst
    rw [cut63 ns] at nst ⊢
    have n1 : p ≠ st := by tm_at "ne"
    have n2 : H st = none := by rw [← nst]; exact (upd_ne n1.symm).symm
    refine q st p _ (by tm_at "cl") n2 np (.mk (c := p) (ns := ns.take 63) upd_same (by tm_at "hp") n1 (List.length_take_le _ _))

def spFill : Sp := fun vs H Q _ => ∃ st c, vs = [.ref st] ∧ StOk c H st ∧ ∀ H', Fr1 st H H' → StOk c H' st → Q .non H'

theorem ok__law_fill (T : Txt K mg a) {k : Nat} : FnOk P w K mg base CX0 (k + 1) a.f__law_fill a.d__law_fill ["_law_state"] spFill := by
  refine T.F__law_fill.ok S__law_fill (fun vs H Q E h => ?_) (fun cdv A outer s H vs Q E hr h => ?_)
  · obtain ⟨_, _, rfl, _⟩ := h
    rfl
  · obtain ⟨st, c, rfl, ⟨ns, n, v, b, hst, hc, hne, hlen⟩, q⟩ := h
    refine ⟨_, (pss_cons (ps_par (i := 1) (j := 2) rfl S__law_fill.nd rfl rfl (by decide) rfl rfl (pa_cons (pe_ix ix_list (pv 0) pe_int (fun _ _ => rfl)) (pa_cons (pe_ix ix_list (pv 0) pe_int (fun _ _ => rfl)) pa_nil)) (by rfl))
 (pss_cons (ps_set (i := 3) S__law_fill.nd rfl (Or.inl rfl) (pe_op op_add (pe_op op_mul pe_int (pv 2)) pe_int))
 (pss_cut (ps_if (pt_cmpR op_gt (pe_callB call_len_seq (by rfl) T.b_len PySem.boot_len (pa_cons (pv 1) pa_nil)) pe_int (nomark _))
 (pss_one (ps_set (i := 3) S__law_fill.nd rfl (Or.inl rfl) (pe_op op_add (pe_op op_mul pe_int (pe_op op_fdivS (pv 2) (pe_callB call_len_seq (by rfl) T.b_len PySem.boot_len (pa_cons (pv 1) pa_nil)))) (pe_ix ix_list (pv 1) (pe_op op_mod (pe_callTy call_intI (by rfl) T.b_int (by decide +kernel) (pa_cons (pv 2) pa_nil)) (pe_callB call_len_seq (by rfl) T.b_len PySem.boot_len (pa_cons (pv 1) pa_nil))) (fun _ _ => rfl))))) pss_nil)
 (pss_cons (ps_asg (pe_op op_add (pv 2) pe_int) (pg_sub (pv 0) pe_int set_list))
 (pss_cut (ps_asg (pe_or (pe_cmpR op_ge (pv 2) (pe_callB call_len_seq (by rfl) T.b_len PySem.boot_len (pa_cons (pv 1) pa_nil)) (nomark _)) (pe_one (pe_cmpR op_lt (pv 3) (pe_op op_pow pe_int pe_int) (nomark _)))) (pg_sub (pv 0) pe_int set_list))
 (pss_cons (ps_asg (pe_op op_sub (pv 3) (pe_op op_pow pe_int pe_int)) (pg_sub (pv 0) pe_int set_list))
 (pss_one (ps_if (pt_val (pe_ix ix_list (pv 0) pe_int (fun _ _ => rfl)))
 (pss_cons (ps_asg pe_int (pg_sub (pv 0) pe_int set_list))
 (pss_one (ps_for PassesOwn.never rfl (pi_enumT (by rfl) T.b_enumerate (pa_cons (pe_tup (pa_cons pe_int (pa_cons pe_int (pa_cons pe_int (pa_cons pe_int (pa_cons pe_int pa_nil)))))) pa_nil)) (pg_tup rfl (pgs_cons (pg_name (i := 4) S__law_fill.nd rfl (Or.inl rfl)) (pgs_cons (pg_name (i := 5) S__law_fill.nd rfl (Or.inl rfl)) pgs_nil)))
 (pss_cons (ps_set (i := 6) S__law_fill.nd rfl (Or.inl rfl) (pe_op op_mod (pe_callTy call_intI (by rfl) T.b_int (by decide +kernel) (pa_cons (pe_op op_mul (pe_op op_add (pe_op op_add (pv 3) (pe_op op_mul (pe_op op_mul pe_int (pv 4)) (pv 4))) (pe_op op_mul pe_int (pv 4))) (pe_op op_add pe_int (pe_op op_mul pe_int (pv 4)))) pa_nil)) (pv 5)))
 (pss_one (ps_asg (pe_op op_add (pe_op op_mul (pe_ix ix_list (pv 0) pe_int (fun _ _ => rfl)) (pv 5)) (pe_op op_mod (pe_callTy call_intI (by rfl) T.b_int (by decide +kernel) (pa_cons (pe_op op_pow (pv 6) pe_int) pa_nil)) (pv 5))) (pg_sub (pv 0) pe_int set_list))))))) pss_nil)))))))), ?_⟩
    try dsimp only [cxOf, Cx.nox, Cx.wish]
    tm_at "rd"
    let M : L2.St → Hp → Prop := fun σ H1 => ∃ seed n' v' f, σ = [some (.ref st), some (.ref c), some (.int n), some (.int seed), none, none, none] ∧ H1 st = some (.lst [.ref c, .int n', .int v', .bl f]) ∧ Fr1 st H H1
    refine Exists.intro M (And.intro ?_ ?_)
    · tm_at "rd"
      refine iteD (fun h => ?_) (fun h => ?_)
      · tm_at "go"
      · tm_at "go"
    · rintro σ H1 ⟨seed, n', v', f, rfl, h1, f1⟩
      tm_at "rd"
      refine Exists.intro M (And.intro ?_ ?_)
      · tm_at "rd"
        refine iteD (fun h => ?_) (fun h => ?_)
        · tm_at "go"
        · tm_at "go"
      · rintro σ H2 ⟨seed, n', v', f, rfl, h2, f2⟩
        tm_at "rd"
        refine iteB (fun h => ?_) (fun h => ?_)
        · tm_at "rd"
          intro p np
          tm_at "rd"
          refine for_it (walk_enumT (xs := [V.int 2147483647, V.int 2147483629, V.int 2147483587, V.int 2147483579, V.int 2147483563])) (fun i σ H' => ∃ y4 y5 y6 n' v' f, σ = [some (.ref st), some (.ref c), some (.int n), some (.int seed), y4, y5, y6] ∧ H' st = some (.lst [.ref c, .int n', .int v', .bl f]) ∧ Fr1 st H H' ∧ H' p = some (.tup [V.int 2147483647, V.int 2147483629, V.int 2147483587, V.int 2147483579, V.int 2147483563])) ?_ ?_ ?_ ?_
          · tm_at "go"
          · rintro i σ H' _ ⟨y4, y5, y6, n', v', f, rfl, h3, f3, h4⟩
            exact .inl (.inl h4)
          · rintro i x σ H3 H4 hi ⟨y4, y5, y6, n', v', f, rfl, h3, f3, h4⟩ ⟨T', x1, x2, rfl, nT, rfl, e1, e2⟩
            obtain ⟨z, rfl, z0, z1⟩ := primes_get e2
            cases e1
            tm_at "go"
          · rintro σ H' ⟨y4, y5, y6, n', v', f, rfl, h3, f3, h4⟩
            exact q _ f3 (.mk h3 (f3.at hne hc) hne hlen)
        · exact q _ f2.mut (.mk upd_same (f2.mut.at hne hc) hne hlen)

def spTake : Sp := fun vs H Q _ => ∃ st c m, vs = [.ref st, .int m] ∧ StOk c H st ∧ 0 < m ∧ m < 10 ^ 60 ∧ ∀ d H', 0 ≤ d → d < m → Fr1 st H H' → StOk c H' st → Q (.int d) H'

theorem ok__law_take (T : Txt K mg a) {k : Nat} : FnOk P w K mg base CX0 (k + 2) a.f__law_take a.d__law_take ["_law_state", "_law_many"] spTake := by
  have G_fill := ok__law_fill (P := P) (w := w) (base := base) T (k := k)
  refine T.F__law_take.ok S__law_take (fun vs H Q E h => ?_) (fun cdv A outer s H vs Q E hr h => ?_)
  · obtain ⟨_, _, _, rfl, _⟩ := h
    rfl
  · obtain ⟨st, c, m, rfl, hst, m0, m1, q⟩ := h
    refine ⟨_, (pss_cons (ps_set (i := 2) S__law_take.nd rfl (Or.inl rfl) pe_int)
 (pss_cons (ps_while PassesOwn.never (pw_and (pt_cmpR op_lt (pv 2) pe_int (nomark _)) (pw_and1 (pw_or (pt_cmpR op_eq (pe_ix ix_list (pv 0) pe_int (fun _ _ => rfl)) pe_int (nomark _)) (pw_or1 (pw_and (pt_val (pe_ix ix_list (pv 0) pe_int (fun _ _ => rfl))) (pw_and1 (pt_cmpR op_lt (pe_ix ix_list (pv 0) pe_int (fun _ _ => rfl)) (pe_op op_mul (pv 1) pe_int) (nomark _)))).pt)).pt)).pt
 (pss_cons (ps_expr (pe_call G_fill hr (by rfl) T.m__law_fill T.F__law_fill.kp T.B__law_fill .nil pass0 (pa_cons (pv 0) pa_nil)))
 (pss_cons (ps_aug (i := 2) S__law_take.nd rfl (Or.inl rfl) pe_int ip_add)
 (pss_one (ps_if (pw_and (pt_val (pe_ix ix_list (pv 0) pe_int (fun _ _ => rfl))) (pw_and1 (pt_cmpR op_lt (pe_ix ix_list (pv 0) pe_int (fun _ _ => rfl)) (pe_op op_mul (pv 1) pe_int) (nomark _)))).pt
 (pss_one (ps_asg (pe_op op_add (pe_ix ix_list (pv 0) pe_int (fun _ _ => rfl)) (pe_op op_mul (pe_op op_mul (pv 1) pe_int) (pe_op op_add pe_int (pe_op op_mod (pe_callTy call_intI (by rfl) T.b_int (by decide +kernel) (pa_cons (pe_ix ix_list (pv 0) pe_int (fun _ _ => rfl)) pa_nil)) pe_int)))) (pg_sub (pv 0) pe_int set_list))) pss_nil)))))
 (pss_cons (ps_set (i := 3) S__law_take.nd rfl (Or.inl rfl) (pe_op op_mod (pe_callTy call_intI (by rfl) T.b_int (by decide +kernel) (pa_cons (pe_ix ix_list (pv 0) pe_int (fun _ _ => rfl)) pa_nil)) (pv 1)))
 (pss_cons (ps_asg (pe_op op_fdivS (pe_ix ix_list (pv 0) pe_int (fun _ _ => rfl)) (pv 1)) (pg_sub (pv 0) pe_int set_list))
 (pss_one (ps_ret (pv 3))))))), ?_⟩
    try dsimp only [cxOf, Cx.nox, Cx.wish]
    tm_at "rd"
    refine Exists.intro (fun mm σ H1 => ∃ l : Int, σ = [some (.ref st), some (.int m), some (.int l), none] ∧ StOk c H1 st ∧ Fr1 st H H1 ∧ 0 ≤ l ∧ l ≤ 64 ∧ mm = (64 - l).toNat) (And.intro ⟨64, 0, rfl, hst, Fr1.refl, by omega, by omega, rfl⟩ ?_)
    rintro mm σ H1 ⟨l, rfl, hs, f1, l0, l1, rfl⟩
    obtain ⟨ns, n, v, b, hst1, hc, hne, hlen⟩ := id hs
    refine tt_cut (fun b H' => H' = H1 ∧ (b = true → l < 64)) (fun Qt hq => ?_) ?_
    · tm_at "rd"
      refine iteD (fun h => ?_) (fun h => ?_)
      · tm_at "rd"
        refine iteD (fun h2 => ?_) (fun h2 => ?_)
        · exact hq _ _ ⟨rfl, fun _ => h⟩
        · tm_at "rd"
          refine iteB (fun h => ?_) (fun h => ?_)
          · tm_at "rd"
            exact hq _ _ ⟨rfl, fun _ => by assumption⟩
          · exact hq _ _ ⟨rfl, fun z => nomatch z⟩
      · exact hq _ _ ⟨rfl, fun z => nomatch z⟩
    · rintro bb H' ⟨rfl, hb⟩
      refine iteB (fun h => ?_) (fun h => ?_)
      · have l2 := hb h
        refine ⟨fun σ' H2 => ∃ l' : Int, σ' = [some (.ref st), some (.int m), some (.int l'), none] ∧ StOk c H2 st ∧ Fr1 st H H2 ∧ l' = l + 1, ?_, ?_⟩
        · rintro σ' H2 ⟨l', rfl, h1, h2, rfl⟩
          exact ⟨(64 - (l + 1)).toNat, by omega, l + 1, rfl, h1, h2, by omega, by omega, rfl⟩
        · tm_at "rd"
          intro H2 f2 s2
          obtain ⟨ns, n, v, b, hst2, hc, hne, hlen⟩ := id s2
          tm_at "rd"
          refine iteB (fun h => ?_) (fun h => ?_)
          · tm_at "rd"
            refine iteD (fun h => ?_) (fun h => ?_) <;> tm_at "go"
          · refine iteF ?_
            tm_at "go"
      · tm_at "rd"
        refine q _ _ ?_ ?_ ?_ ?_ <;> tm_at "cl"

def spOne : Sp := fun vs H Q _ => ∃ st c l xs, vs = [.ref st, .ref l] ∧ StOk c H st ∧ l ≠ st ∧ H l = some (.lst xs) ∧ xs ≠ [] ∧ xs.length ≤ 100000 ∧ ∀ v H', v ∈ xs → Fr1 st H H' → StOk c H' st → Q v H'

theorem ok__law_one (T : Txt K mg a) {k : Nat} : FnOk P w K mg base CX0 (k + 3) a.f__law_one a.d__law_one ["_law_state", "_law_things"] spOne := by
  have G_take := ok__law_take (P := P) (w := w) (base := base) T (k := k)
  refine T.F__law_one.ok S__law_one (fun vs H Q E h => ?_) (fun cdv A outer s H vs Q E hr h => ?_)
  · obtain ⟨_, _, _, _, rfl, _⟩ := h
    rfl
  · obtain ⟨st, c, l, xs, rfl, hst, hls, hx, hx0, hxl, q⟩ := h
    refine ⟨_, (pss_one (ps_ret (pe_ix ix_list (pv 1) (pe_call G_take hr (by rfl) T.m__law_take T.F__law_take.kp T.B__law_take .nil pass0 (pa_cons (pv 0) (pa_cons (pe_callB call_len_seq (by rfl) T.b_len PySem.boot_len (pa_cons (pv 1) pa_nil)) pa_nil))) (fun _ _ => rfl)))), ?_⟩
    try dsimp only [cxOf, Cx.nox, Cx.wish]
    have hl : 0 < xs.length := List.length_pos_iff.mpr hx0
    tm_at "rd"
    intro d H1 d0 d1 f1 s1
    tm_at "rd"
    refine q _ _ (getD_mem (by omega)) f1 s1

end
end K02



namespace K02
open PySem PySem.Spec PyProof.Rows L2 Sm
open Evl (pss_cut)
section
variable {P : Program} {w : World} {K : PySem.W.Frag} {mg : Str → Option Value} {base : Heap} {a : Ad}
def spIsWord (K : PySem.W.Frag) : Sp := fun vs H Q _ => ∃ v T, vs = [v] ∧ TyV K H v T ∧ (∀ z, v = .str z → z.length ≤ 1000) ∧ ∀ H', Same H H' → Q (.bl (isWV v)) H'
theorem ok_is_word (T : Txt K mg a) {k : Nat} : FnOk P w K mg base CX0 (k + 1) a.f_is_word a.d_is_word ["thing"] (spIsWord K) := by
  refine T.F_is_word.ok S_is_word (fun vs H Q E h => ?_) (fun cdv A outer s H vs Q E hr h => ?_)
  · obtain ⟨_, _, rfl, _⟩ := h
    rfl
  · obtain ⟨v, T2, rfl, ty, hz, q⟩ := h
    obtain ⟨_, g_LONGEST⟩ := T.g_LONGEST
    obtain ⟨_, g_LETTERS⟩ := T.g_LETTERS
    refine ⟨_, (pss_cons (ps_if (pw_or (pt_not (pt_val (pe_callB call_isi (by rfl) T.b_isinstance (by decide +kernel) (pa_cons (pv 0) (pa_cons (pe_bltn (v := .ty "str") (by rfl) T.b_str (by decide +kernel) rfl) pa_nil))))) (pw_or1 (pt_not (pt_chain op_le op_le pe_int (pe_callB call_len_str (by rfl) T.b_len PySem.boot_len (pa_cons (pv 0) pa_nil)) (pe_glob (v := .int 8) (by rfl) g_LONGEST ⟨_, rfl⟩))))).pt
 (pss_one (ps_ret pe_bl)) pss_nil)
 (pss_one (ps_ret (pe_callB (cr_all rfl) (by rfl) T.b_all (by decide +kernel) (pa_cons (pe_lc (own := [("letter", 1)]) rfl S_is_word.nd (pi_str (pv 0)) (blkOk_by (own := [("letter", 1)]) (N := N_is_word) (sc := (defScope (topS 6))) (by decide +kernel)) (fun _ _ _ _ _ => (pg_name (i := 1) S_is_word.nd rfl (Or.inl rfl))) (fun _ _ _ _ _ => pts_nil) (fun _ _ _ _ _ => (pe_cmpR op_in_sign (pv 1) (pe_glob (v := .str "abcdefghijklmnopqrstuvwxyz") (by rfl) g_LETTERS ⟨_, rfl⟩) (by rfl)))) pa_nil))))), ?_⟩
    try dsimp only [cxOf, Cx.nox, Cx.wish]
    cases ty with
    | str z =>
      have hz := hz z rfl
      have end1 : ∀ H' b, Same H H' → b = isW z → Q (.bl b) H' := fun H' b s e => by rw [e]; exact q H' s
      have out : ¬ (1 ≤ z.length ∧ z.length ≤ 8) → isW z = false := fun h => by unfold isW; rw [decide_eq_false h]; rfl
      tm_at "rd"
      refine iteD (fun h1 => ?_) (fun h1 => ?_)
      · tm_at "rd"
        refine iteND (fun h2 => ?_) (fun h2 => ?_)
        · exact end1 _ _ (Same.refl _) (out (by omega)).symm
        · tm_at "rd"
          intro D nD
          refine lc_fm walk_str nD (fun i => z.cps.toList[i]?.bind fun c => some (.bl (decide (c ∈ lettersL)))) (fun _ _ => trivial) ?_ ?_
          · rintro i x H1 H2 hi p ⟨rfl, c, hc, rfl⟩
            tm_at "rd"
            refine lc_put p (by have : i < z.length := hi; omega) (Same.refl _) ?_
            rw [Array.getElem?_toList, hc]
            rfl
          · intro H1 s1 hD
            have e : made (fun i => z.cps.toList[i]?.bind fun c => some (.bl (decide (c ∈ lettersL)))) z.cps.size = (z.cps.toList.map fun c => decide (c ∈ lettersL)).map V.bl := by
              rw [← Array.length_toList, made_items, List.map_map, ← List.filterMap_eq_map]; rfl
            rw [e] at hD
            tm_at "rd"
            refine end1 _ _ s1 ?_
            unfold isW
            rw [decide_eq_true (show 1 ≤ z.length ∧ z.length ≤ 8 by omega), Bool.true_and, List.all_map]
            rfl
      · tm_at "rd"
        exact end1 _ _ (Same.refl _) (out (by omega)).symm
    | _ =>
      tm_at "rd"
      exact q _ (Same.refl _)

def isRowT (T : String) : Bool := T == "list" || T == "tuple"
def spIsRow (K : PySem.W.Frag) : Sp := fun vs H Q _ => ∃ v T, vs = [v] ∧ TyV K H v T ∧ ∀ H', Same H H' → Q (.bl (isRowT T)) H'
theorem ok_is_row (T : Txt K mg a) {k : Nat} : FnOk P w K mg base CX0 (k + 1) a.f_is_row a.d_is_row ["thing"] (spIsRow K) := by
  refine T.F_is_row.ok S_is_row (fun vs H Q E h => ?_) (fun cdv A outer s H vs Q E hr h => ?_)
  · obtain ⟨_, _, rfl, _⟩ := h
    rfl
  · obtain ⟨v, T2, rfl, ty, q⟩ := h
    refine ⟨_, (pss_one (ps_ret (pe_callB call_isiT (by rfl) T.b_isinstance (by decide +kernel) (pa_cons (pv 0) (pa_cons (pe_tup (pa_cons (pe_bltn (v := .ty "list") (by rfl) T.b_list (by decide +kernel) rfl) (pa_cons (pe_bltn (v := .ty "tuple") (by rfl) T.b_tuple (by decide +kernel) rfl) pa_nil))) pa_nil))))), ?_⟩
    try dsimp only [cxOf, Cx.nox, Cx.wish]
    cases ty <;>
      (tm_at "rd"
       intro p np
       tm_at "rd"
       exact q _ (same_new (Same.refl _) np))

def FO (C : Addr) (H : Hp) (f : Addr) (ws : List Str) : Prop := ∃ dx t, H f = some (.ins C dx [("cells", .ref t)]) ∧ H t = some (.tup (ws.map V.str)) ∧ Asc ws ∧ (∀ x ∈ ws, isW x = true)
def FSet (K : PySem.W.Frag) (C : Addr) (H : Hp) (v : V) (ws : List Str) : Prop := (∃ f, v = .ref f ∧ FO C H f ws) ∨ (∃ l, v = .ref l ∧ RwT H l (ws.map V.str) ∧ (∀ x ∈ ws, isW x = true) ∧ ws.length ≤ 60)
def spWordsIn (K : PySem.W.Frag) (C : Addr) : Sp := fun vs H Q _ => ∃ v ws, vs = [v] ∧ FSet K C H v ws ∧ ∀ t ys H', Same H H' → H' t = some (.tup (ys.map V.str)) → Asc ys → (∀ x, x ∈ ys ↔ x ∈ ws) → Q (.ref t) H'
theorem ok_words_in (T : Txt K mg a) {k : Nat} : FnOk P w K mg base CX0 (k + 2) a.f_words_in a.d_words_in ["thing"] (spWordsIn K a.C_Fields) := by
  have G_is_row := ok_is_row (P := P) (w := w) (base := base) T (k := k)
  have G_is_word := ok_is_word (P := P) (w := w) (base := base) T (k := k)
  refine T.F_words_in.ok S_words_in (fun vs H Q E h => ?_) (fun cdv A outer s H vs Q E hr h => ?_)
  · obtain ⟨_, _, rfl, _⟩ := h
    rfl
  · obtain ⟨v, ws, rfl, fs, q⟩ := h
    have I_F := T.I_Fields
    have C_F := T.C_Fields
    have n_F := T.n_Fields_cells
    refine ⟨_, (pss_cons (ps_if (pt_val (pe_callB call_isi (by rfl) T.b_isinstance (by decide +kernel) (pa_cons (pv 0) (pa_cons (pe_glob (v := .ref a.C_Fields) (by rfl) T.g_Fields rfl) pa_nil))))
 (pss_one (ps_ret (pe_fld (pv 0) rfl))) pss_nil)
 (pss_cons (ps_if (pt_not (pt_val (pe_call G_is_row hr (by rfl) T.m_is_row T.F_is_row.kp T.B_is_row .nil pass0 (pa_cons (pv 0) pa_nil))))
 (pss_one ps_never) pss_nil)
 (pss_cons (ps_set (i := 1) S_words_in.nd rfl (Or.inl rfl) (pe_lst pa_nil))
 (pss_cons (ps_for PassesOwn.never rfl (pi_enumR (by rfl) T.b_enumerate (pa_cons (pv 0) pa_nil)) (pg_tup rfl (pgs_cons (pg_name (i := 2) S_words_in.nd rfl (Or.inl rfl)) (pgs_cons (pg_name (i := 3) S_words_in.nd rfl (Or.inl rfl)) pgs_nil)))
 (pss_cons (ps_if (pt_not (pt_val (pe_call G_is_word hr (by rfl) T.m_is_word T.F_is_word.kp T.B_is_word .nil pass0 (pa_cons (pv 3) pa_nil))))
 (pss_one ps_never) pss_nil)
 (pss_one (ps_if (pt_cmpR op_notInSs (pv 3) (pv 1) (by rfl))
 (pss_one (ps_expr (pe_bm PySem.F.plainAttrs_list PySem.F.slot_list_append PySem.F.type_list_append mt_append (pv 1) (pa_cons (pv 3) pa_nil)))) pss_nil))))
 (pss_one (ps_ret (pe_callTy call_tupleL (by rfl) T.b_tuple (by decide +kernel) (pa_cons (pe_callB cr_sortedS (by rfl) T.b_sorted (by decide +kernel) (pa_cons (pv 1) pa_nil)) pa_nil)))))))), ?_⟩
    try dsimp only [cxOf, Cx.nox, Cx.wish]
    rcases fs with ⟨f, rfl, dx, t, hf, ht, hasc, hw⟩ | ⟨l, rfl, hrow, hw, hlen⟩
    · tm_at "rd"
      exact q _ _ _ (Same.refl _) ht hasc (fun _ => Iff.rfl)
    · have hrow' : Row K H l (ws.map V.str) := hrow.row
      have ty : ∃ T2, TyV K H (.ref l) T2 ∧ isRowT T2 = true := hrow'.elim (fun h => ⟨_, .lst h, rfl⟩) fun h => ⟨_, .tup h, rfl⟩
      obtain ⟨T2, ty, ty2⟩ := ty
      obtain ⟨o, ho, hoo⟩ := hrow
      tm_at "rd"
      intro H1 s1
      rw [ty2]
      tm_at "rd"
      intro fo nfo
      tm_at "rd"
      intro J G wk kG
      have nl : l ≠ fo := by tm_at "ne"
      have nfo0 : H fo = none := s1.free nfo
      refine for_it wk (fun i σ H' => Stp (∃ (y2 y3 : Option V) (us : List Str), σ = [some (.ref l), some (.ref fo), y2, y3] ∧ Same H H' ∧ H' fo = some (.lst (us.map V.str)) ∧ us.Nodup ∧ us.length ≤ i ∧ (∀ x, x ∈ us ↔ x ∈ ws.take i))) ?_ ?_ ?_ ?_
      · exact ⟨none, none, [], rfl, by tm_at "fr", upd_same, List.nodup_nil, Nat.le_refl _, fun x => by simp⟩
      · rintro i σ H' _ ⟨y2, y3, us, rfl, s2, h2, nd, ul, um⟩
        exact kG _ (.mk (o := o) (by tm_at "hp") (s2 _ _ ho))
      · rintro i x σ H2 H3 hi ⟨y2, y3, us, rfl, s2, h2, nd, ul, um⟩ ⟨T', x1, x2, rfl, nT, rfl, e1, e2⟩
        cases e1
        have hi' : i < ws.length := by simpa using hi
        have e2' := get_map_str hi' e2
        subst e2'
        have hwi := hw _ (List.getElem_mem hi')
        tm_at "rd"
        refine ⟨fun z e => ?_, ?_⟩
        · cases e
          have := isW_len hwi
          omega
        · intro H3 s3
          rw [show isWV (.str ws[i]) = true from hwi]
          tm_at "rd"
          refine iteND (fun hn => ?_) (fun hn => ?_)
          · tm_at "rd"
            refine ⟨_, _, us ++ [ws[i]], rfl, by tm_at "fr", ?_, ?_, ?_, ?_⟩
            · rw [upd_same, List.map_append]; rfl
            · exact List.nodup_append.mpr ⟨nd, by simp, fun a ha b hb => by rw [List.mem_singleton.mp hb]; intro e; exact hn (e ▸ ha)⟩
            · rw [List.length_append, List.length_singleton]; omega
            · intro x; rw [List.mem_append, um, take_succ_mem hi', List.mem_singleton]
          · refine ⟨_, _, us, rfl, by tm_at "fr", by tm_at "hp", nd, by omega, fun x => ?_⟩
            rw [take_succ_mem hi', um]
            constructor
            · exact Or.inl
            · rintro (h | h)
              · exact h
              · rw [h]; exact (um _).mp hn
      · rintro σ H' ⟨y2, y3, us, rfl, s2, h2, nd, ul, um⟩
        rw [List.length_map] at ul um
        rw [List.take_length] at um
        tm_at "rd"
        intro ys p perm srt np
        tm_at "rd"
        intro t nt
        · refine q t ys _ (by tm_at "fr") upd_same (sortedS_asc srt (perm.nodup_iff.mpr nd)) fun x => ?_
          rw [perm.mem_iff, um]

end
end K02



namespace K02
open PySem PySem.Spec PyProof.Rows L2 Sm
open Evl (pss_cut)
section
variable {P : Program} {w : World} {K : PySem.W.Frag} {mg : Str → Option Value} {base : Heap} {a : Ad}
theorem FO.same {C : Addr} {H H' : Hp} {f : Addr} {ws : List Str} (h : FO C H f ws) (s : Same H H') : FO C H' f ws := by
  obtain ⟨dx, t, h1, h2, h3⟩ := h
  exact ⟨dx, t, s _ _ h1, s _ _ h2, h3⟩
theorem FSet.same {C : Addr} {H H' : Hp} {v : V} {ws : List Str} (h : FSet K C H v ws) (s : Same H H') : FSet K C H' v ws := by
  rcases h with ⟨f, e, h⟩ | ⟨l, e, h, r⟩
  · exact .inl ⟨f, e, h.same s⟩
  · exact .inr ⟨l, e, h.same s, r⟩
theorem FSet.ws {C : Addr} {H : Hp} {v : V} {ws : List Str} (h : FSet K C H v ws) : ∀ x ∈ ws, isW x = true := by
  rcases h with ⟨f, e, _, _, _, _, _, h⟩ | ⟨l, e, _, h, _⟩ <;> exact h
theorem asc_len {ys ws : List Str} (h : Asc ys) (m : ∀ x, x ∈ ys ↔ x ∈ ws) : ys.length ≤ ws.length := h.nodup.length_le_of_subset fun x hx => (m x).mp hx

def spDoMeet : Sp := fun vs H Q _ => ∃ (l m : Addr) (xs ys : List Str), vs = [.ref l, .ref m] ∧ RwT H l (xs.map V.str) ∧ RwT H m (ys.map V.str) ∧ xs.length ≤ 1000 ∧ ∀ H', Same H H' → Q (.bl (xs.any fun x => decide (x ∈ ys))) H'
theorem ok_do_meet (T : Txt K mg a) {k : Nat} : FnOk P w K mg base CX0 (k + 1) a.f_do_meet a.d_do_meet ["ones", "others"] spDoMeet := by
  refine T.F_do_meet.ok S_do_meet (fun vs H Q E h => ?_) (fun cdv A outer s H vs Q E hr h => ?_)
  · obtain ⟨_, _, _, _, rfl, _⟩ := h
    rfl
  · obtain ⟨l, m, xs, ys, rfl, hl, hm, hlen, q⟩ := h
    refine ⟨_, (pss_one (ps_ret (pe_callB (cr_any rfl) (by rfl) T.b_any (by decide +kernel) (pa_cons (pe_lc (own := [("word", 2)]) rfl S_do_meet.nd (pi_row (pv 0)) (blkOk_by (own := [("word", 2)]) (N := N_do_meet) (sc := (defScope (topS 10))) (by decide +kernel)) (fun _ _ _ _ _ => (pg_name (i := 2) S_do_meet.nd rfl (Or.inl rfl))) (fun _ _ _ _ _ => pts_nil) (fun _ _ _ _ _ => (pe_cmpR (op_inSsK (K := K) rfl) (pv 2) (pv 1) (by rfl)))) pa_nil)))), ?_⟩
    try dsimp only [cxOf, Cx.nox, Cx.wish]
    have rl : Row K H l (xs.map V.str) := hl.row
    have rm : Row K H m (ys.map V.str) := hm.row
    tm_at "rd"
    intro J G wk kG D nD
    refine lc_strs wk nD (fun x => some (.bl (decide (x ∈ ys)))) (fun H' s => kG H' (.ofSame s)) ?_ ?_
    · intro i x H1 hx p
      have s1 := p.2.1
      tm_at "rd"
      exact lcs_put p hx (by omega) (Same.refl _) rfl
    · intro H1 s1 hD
      rw [fm_some] at hD
      tm_at "rd"
      rw [List.any_map]
      exact q _ s1

def spInit (K : PySem.W.Frag) (C : Addr) : Sp := fun vs H Q _ => ∃ x dx v ws, vs = [.ref x, v] ∧ H x = some (.ins C dx []) ∧ v ≠ .ref x ∧ FSet K C H v ws ∧ ∀ t ys H', Fr1 x H H' → H' x = some (.ins C dx [("cells", .ref t)]) → H' t = some (.tup (ys.map V.str)) → Asc ys → (∀ z, z ∈ ys ↔ z ∈ ws) → Q .non H'
theorem ok_Fields___init__ (T : Txt K mg a) {k : Nat} : FnOk P w K mg base CX0 (k + 3) a.f_Fields___init__ a.d_Fields___init__ ["self", "words"] (spInit K a.C_Fields) := by
  have G_words_in := ok_words_in (P := P) (w := w) (base := base) T (k := k)
  refine T.F_Fields___init__.ok S_Fields___init__ (fun vs H Q E h => ?_) (fun cdv A outer s H vs Q E hr h => ?_)
  · obtain ⟨_, _, _, _, rfl, _⟩ := h
    rfl
  · obtain ⟨x, dx, v, ws, rfl, hx, hvx, hfs, q⟩ := h
    have I_F := T.I_Fields
    have C_F := T.C_Fields
    have n_F := T.n_Fields_cells
    refine ⟨_, (pss_one (ps_fld (pv 0) (pe_call G_words_in hr (by rfl) T.m_words_in T.F_words_in.kp T.B_words_in .nil pass0 (pa_cons (pv 1) pa_nil)) rfl)), ?_⟩
    try dsimp only [cxOf, Cx.nox, Cx.wish]
    tm_at "rd"
    intro t ys H1 s1 ht hasc hm
    have ntx : t ≠ x := ne_of ht (s1 _ _ hx) (by intro e; cases e)
    tm_at "rd"
    exact q t ys _ (Fr1.mut (fun b o _ h => s1 b o h)) upd_same (by tm_at "hp") hasc hm

/-- Fields(v) -/
theorem mkF {C : Addr} {H : Hp} {v : V} {ws : List Str} {Q : VK} {E : XK} (h : FSet K C H v ws) (q : ∀ f ys H', Same H H' → H f = none → FO C H' f ys → (∀ z, z ∈ ys ↔ z ∈ ws) → Q (.ref f) H') :
    ∀ x dx, H x = none → H dx = none → dx ≠ x → spInit K C ([.ref x] ++ [v]) (upd (upd H dx (.own x)) x (.ins C dx [])) (fun u H2 => u = .non ∧ Q (.ref x) H2) E := by
  intro x dx nx ndx ne
  have s0 : Same H (upd (upd H dx (.own x)) x (.ins C dx [])) := by
    refine same_mut (same_new (Same.refl _) ndx) nx
  have hvx : v ≠ .ref x := by
    rcases h with ⟨f, rfl, _, _, hf, _⟩ | ⟨l, rfl, ⟨o, hl, _⟩, _⟩
    · intro e; cases e; rw [hf] at nx; cases nx
    · intro e; cases e; rw [hl] at nx; cases nx
  refine ⟨x, dx, v, ws, rfl, upd_same, hvx, h.same s0, fun t ys H' f1 hx ht hasc hm => ?_⟩
  refine ⟨rfl, q x ys H' (fun b o e => f1 b o (ne_of_none e nx) (s0 b o e)) nx ⟨dx, t, hx, ht, hasc, fun z hz => h.ws z ((hm z).mp hz)⟩ hm⟩

def spWords (C : Addr) : Sp := fun vs H Q _ => ∃ f ws, vs = [.ref f] ∧ FO C H f ws ∧ ∀ p H', Same H H' → H p = none → H' p = some (.lst (ws.map V.str)) → Q (.ref p) H'
theorem ok_Fields_words (T : Txt K mg a) {k : Nat} : FnOk P w K mg base CX0 (k + 1) a.f_Fields_words a.d_Fields_words ["self"] (spWords a.C_Fields) := by
  refine T.F_Fields_words.ok S_Fields_words (fun vs H Q E h => ?_) (fun cdv A outer s H vs Q E hr h => ?_)
  · obtain ⟨_, _, rfl, _⟩ := h
    rfl
  · obtain ⟨f, ws, rfl, ⟨dx, t, hf, ht, hasc, hw⟩, q⟩ := h
    have I_F := T.I_Fields
    have C_F := T.C_Fields
    have n_F := T.n_Fields_cells
    refine ⟨_, (pss_one (ps_ret (pe_callTy call_list_of (by rfl) T.b_list (by decide +kernel) (pa_cons (pe_fld (pv 0) rfl) pa_nil)))), ?_⟩
    try dsimp only [cxOf, Cx.nox, Cx.wish]
    tm_at "rd"
    intro p np
    exact q p _ (by tm_at "fr") np upd_same

def spLen (C : Addr) : Sp := fun vs H Q _ => ∃ f ws, vs = [.ref f] ∧ FO C H f ws ∧ Q (.int (ws.length : Nat)) H
theorem ok_Fields___len__ (T : Txt K mg a) {k : Nat} : FnOk P w K mg base CX0 (k + 1) a.f_Fields___len__ a.d_Fields___len__ ["self"] (spLen a.C_Fields) := by
  refine T.F_Fields___len__.ok S_Fields___len__ (fun vs H Q E h => ?_) (fun cdv A outer s H vs Q E hr h => ?_)
  · obtain ⟨_, _, rfl, _⟩ := h
    rfl
  · obtain ⟨f, ws, rfl, ⟨dx, t, hf, ht, hasc, hw⟩, q⟩ := h
    have I_F := T.I_Fields
    have C_F := T.C_Fields
    have n_F := T.n_Fields_cells
    refine ⟨_, (pss_one (ps_ret (pe_callB call_len_seq (by rfl) T.b_len PySem.boot_len (pa_cons (pe_fld (pv 0) rfl) pa_nil)))), ?_⟩
    try dsimp only [cxOf, Cx.nox, Cx.wish]
    tm_at "rd"
    rw [List.length_map]
    exact q

def isIn (v : V) (ws : List Str) : Bool := match v with
  | .str z => decide (z ∈ ws)
  | _ => false
def spContains (K : PySem.W.Frag) (C : Addr) : Sp := fun vs H Q _ => ∃ f ws v T, vs = [.ref f, v] ∧ FO C H f ws ∧ TyV K H v T ∧ (∀ z, v = .str z → z.length ≤ 1000) ∧ ∀ H', Same H H' → Q (.bl (isIn v ws)) H'
theorem ok_Fields___contains__ (T : Txt K mg a) {k : Nat} : FnOk P w K mg base CX0 (k + 2) a.f_Fields___contains__ a.d_Fields___contains__ ["self", "word"] (spContains K a.C_Fields) := by
  have G_is_word := ok_is_word (P := P) (w := w) (base := base) T (k := k)
  refine T.F_Fields___contains__.ok S_Fields___contains__ (fun vs H Q E h => ?_) (fun cdv A outer s H vs Q E hr h => ?_)
  · obtain ⟨_, _, _, _, rfl, _⟩ := h
    rfl
  · obtain ⟨f, ws, v, T2, rfl, ⟨dx, t, hf, ht, hasc, hw⟩, ty, hz, q⟩ := h
    have I_F := T.I_Fields
    have C_F := T.C_Fields
    have n_F := T.n_Fields_cells
    refine ⟨_, (pss_one (ps_ret (pe_and (pe_call G_is_word hr (by rfl) T.m_is_word T.F_is_word.kp T.B_is_word .nil pass0 (pa_cons (pv 1) pa_nil)) (pe_one (pe_cmpR op_inSs (pv 1) (pe_fld (pv 0) rfl) (by rfl)))))), ?_⟩
    try dsimp only [cxOf, Cx.nox, Cx.wish]
    tm_at "rd"
    intro H1 s1
    cases ty with
    | str z =>
      have e : isWV (.str z) = isW z := rfl
      rw [e]
      tm_at "rd"
      refine iteB (fun h => ?_) (fun h => ?_)
      · tm_at "rd"
        exact q _ s1
      · have hn : decide (z ∈ ws) = false := decide_eq_false fun hz => by rw [hw z hz] at h; cases h
        have := q _ s1
        rw [show isIn (V.str z) ws = decide (z ∈ ws) from rfl, hn] at this
        exact this
    | _ =>
      tm_at "rd"
      exact q _ s1

def spEq (K : PySem.W.Frag) (C : Addr) : Sp := fun vs H Q _ => ∃ f ws v, vs = [.ref f, v] ∧ FO C H f ws ∧ ((∃ T, TyV K H v T ∧ Q (.bl false) H) ∨ (∃ g us, v = .ref g ∧ FO C H g us ∧ Q (.bl (decide (ws = us))) H))
theorem ok_Fields___eq__ (T : Txt K mg a) {k : Nat} : FnOk P w K mg base CX0 (k + 1) a.f_Fields___eq__ a.d_Fields___eq__ ["self", "other"] (spEq K a.C_Fields) := by
  refine T.F_Fields___eq__.ok S_Fields___eq__ (fun vs H Q E h => ?_) (fun cdv A outer s H vs Q E hr h => ?_)
  · obtain ⟨_, _, _, rfl, _⟩ := h
    rfl
  · obtain ⟨f, ws, v, rfl, ⟨dx, t, hf, ht, hasc, hw⟩, qq⟩ := h
    have I_F := T.I_Fields
    have C_F := T.C_Fields
    have n_F := T.n_Fields_cells
    refine ⟨_, (pss_one (ps_ret (pe_and (pe_callB call_isi (by rfl) T.b_isinstance (by decide +kernel) (pa_cons (pv 1) (pa_cons (pe_glob (v := .ref a.C_Fields) (by rfl) T.g_Fields rfl) pa_nil))) (pe_one (pe_cmpR (op_eqSs hr.units) (pe_fld (pv 0) rfl) (pe_fld (pv 1) rfl) (nomark _)))))), ?_⟩
    try dsimp only [cxOf, Cx.nox, Cx.wish]
    rcases qq with ⟨T2, ty, q⟩ | ⟨g, us, rfl, ⟨dy, t2, hg, ht2, hasc2, hw2⟩, q⟩
    · tm_at "rd"
      exact q
    · tm_at "rd"
    
      exact ⟨.inl ⟨SqT.of ht, SqT.of ht2⟩, fun x hx => isW_ok (hw x hx), fun x hx => isW_ok (hw2 x hx), q⟩

end
end K02



namespace K02
open PySem PySem.Spec PyProof.Rows L2 Sm
open Evl (pss_cut)
section
variable {P : Program} {w : World} {K : PySem.W.Frag} {mg : Str → Option Value} {base : Heap} {a : Ad}
theorem any_cg {xs ys zs : List Str} (h : ∀ x, x ∈ ys ↔ x ∈ zs) : (xs.any fun x => decide (x ∈ ys)) = xs.any fun x => decide (x ∈ zs) := by
  congr 1; funext x; exact decide_eq_decide.mpr (h x)
theorem all_cg {xs ys zs : List Str} (h : ∀ x, x ∈ ys ↔ x ∈ zs) : (xs.all fun x => decide (x ∈ ys)) = xs.all fun x => decide (x ∈ zs) := by
  congr 1; funext x; exact decide_eq_decide.mpr (h x)
def spMeets (K : PySem.W.Frag) (C : Addr) : Sp := fun vs H Q _ => ∃ f ws v us, vs = [.ref f, v] ∧ FO C H f ws ∧ ws.length ≤ 1000 ∧ FSet K C H v us ∧ ∀ H', Same H H' → Q (.bl (ws.any fun x => decide (x ∈ us))) H'
theorem ok_Fields_meets (T : Txt K mg a) {k : Nat} : FnOk P w K mg base CX0 (k + 3) a.f_Fields_meets a.d_Fields_meets ["self", "other"] (spMeets K a.C_Fields) := by
  have G_words_in := ok_words_in (P := P) (w := w) (base := base) T (k := k)
  have G_do_meet := ok_do_meet (P := P) (w := w) (base := base) T (k := k+1)
  refine T.F_Fields_meets.ok S_Fields_meets (fun vs H Q E h => ?_) (fun cdv A outer s H vs Q E hr h => ?_)
  · obtain ⟨_, _, _, _, rfl, _⟩ := h
    rfl
  · obtain ⟨f, ws, v, us, rfl, ⟨dx, t, hf, ht, hasc, hw⟩, hlen, hfs, q⟩ := h
    have I_F := T.I_Fields
    have C_F := T.C_Fields
    have n_F := T.n_Fields_cells
    refine ⟨_, (pss_one (ps_ret (pe_call G_do_meet hr (by rfl) T.m_do_meet T.F_do_meet.kp T.B_do_meet .nil pass0 (pa_cons (pe_fld (pv 0) rfl) (pa_cons (pe_call G_words_in hr (by rfl) T.m_words_in T.F_words_in.kp T.B_words_in .nil pass0 (pa_cons (pv 1) pa_nil)) pa_nil))))), ?_⟩
    try dsimp only [cxOf, Cx.nox, Cx.wish]
    tm_at "rd"
    intro t2 ys H1 s1 ht2 hasc2 hm
    tm_at "rd"
    refine ⟨⟨_, s1 _ _ ht, .inr rfl⟩, ⟨_, ht2, .inr rfl⟩, hlen, fun H2 s2 => ?_⟩
    rw [any_cg hm]
    exact q _ (s1.trans s2)

def spWithin (K : PySem.W.Frag) (C : Addr) : Sp := fun vs H Q _ => ∃ f ws v us, vs = [.ref f, v] ∧ FO C H f ws ∧ ws.length ≤ 1000 ∧ FSet K C H v us ∧ ∀ H', Same H H' → Q (.bl (ws.all fun x => decide (x ∈ us))) H'
theorem ok_Fields_within (T : Txt K mg a) {k : Nat} : FnOk P w K mg base CX0 (k + 3) a.f_Fields_within a.d_Fields_within ["self", "other"] (spWithin K a.C_Fields) := by
  have G_words_in := ok_words_in (P := P) (w := w) (base := base) T (k := k)
  refine T.F_Fields_within.ok S_Fields_within (fun vs H Q E h => ?_) (fun cdv A outer s H vs Q E hr h => ?_)
  · obtain ⟨_, _, _, _, rfl, _⟩ := h
    rfl
  · obtain ⟨f, ws, v, us, rfl, ⟨dx, t, hf, ht, hasc, hw⟩, hlen, hfs, q⟩ := h
    have I_F := T.I_Fields
    have C_F := T.C_Fields
    have n_F := T.n_Fields_cells
    refine ⟨_, (pss_cons (ps_set (i := 2) S_Fields_within.nd rfl (Or.inr rfl) (pe_call G_words_in hr (by rfl) T.m_words_in T.F_words_in.kp T.B_words_in .nil pass0 (pa_cons (pv 1) pa_nil)))
 (pss_one (ps_ret (pe_callB (cr_all rfl) (by rfl) T.b_all (by decide +kernel) (pa_cons (pe_lc (own := [("word", 3)]) rfl S_Fields_within.nd (pi_row (pe_fld (pv 0) rfl)) (blkOk_by (own := [("word", 3)]) (N := N_Fields_within) (sc := (defScope (inClass (topS 11) 6))) (by decide +kernel)) (fun _ _ _ _ _ => (pg_name (i := 3) S_Fields_within.nd rfl (Or.inl rfl))) (fun _ _ _ _ _ => pts_nil) (fun _ _ _ _ _ => (pe_cmpR (op_inSsK (K := K) rfl) (pv 3) (pv 2) (by rfl)))) pa_nil))))), ?_⟩
    try dsimp only [cxOf, Cx.nox, Cx.wish]
    tm_at "rd"
    intro t2 ys H1 s1 ht2 hasc2 hm
    tm_at "rd"
    intro J G wk kG D nD
    have ry : Row K H1 t2 (ys.map V.str) := .inr (SqT.of ht2)
    refine lc_strs wk nD (fun x => some (.bl (decide (x ∈ ys)))) (fun H' s => kG H' (.ofSame s)) ?_ ?_
    · intro i x H2 hx p
      have s2 := p.2.1
      tm_at "rd"
      exact lcs_put p hx (by omega) (Same.refl _) rfl
    · intro H2 s2 hD
      rw [fm_some] at hD
      tm_at "rd"
      rw [List.all_map]
      have e : (ws.all (id ∘ fun x => decide (x ∈ ys))) = ws.all fun x => decide (x ∈ us) := all_cg hm
      rw [e]
      exact q _ (s1.trans s2)

def spJoin (K : PySem.W.Frag) (C : Addr) (c : Prop → Prop → Prop) : Sp := fun vs H Q _ => ∃ (l m : Addr) (xs ys : List Str), vs = [.ref l, .ref m] ∧ H l = some (.tup (xs.map V.str)) ∧ H m = some (.tup (ys.map V.str)) ∧ (∀ x ∈ xs, isW x = true) ∧ (∀ x ∈ ys, isW x = true) ∧ xs.length + ys.length ≤ 60 ∧
  ∀ f zs H', Same H H' → H f = none → FO C H' f zs → (∀ x, x ∈ zs ↔ c (x ∈ xs) (x ∈ ys)) → Q (.ref f) H'
def cOr (p q : Prop) : Prop := p ∨ q
def cAnd (p q : Prop) : Prop := p ∧ q
def cSub (p q : Prop) : Prop := p ∧ ¬ q
def cXor (p q : Prop) : Prop := (p ∧ ¬ q) ∨ (q ∧ ¬ p)

theorem ok_either (T : Txt K mg a) {k : Nat} : FnOk P w K mg base CX0 (k + 5) a.f_either a.d_either ["ones", "others"] (spJoin K a.C_Fields cOr) := by
  have G_Fields := ok_Fields___init__ (P := P) (w := w) (base := base) T (k := k)
  refine T.F_either.ok S_either (fun vs H Q E h => ?_) (fun cdv A outer s H vs Q E hr h => ?_)
  · obtain ⟨_, _, _, _, rfl, _⟩ := h
    rfl
  · obtain ⟨l, m, xs, ys, rfl, hl, hm, hw1, hw2, hlen, q⟩ := h
    have I_F := T.I_Fields
    have C_F := T.C_Fields
    have n_F := T.n_Fields_cells
    refine ⟨_, (pss_one (ps_ret (pe_make T.K_Fields G_Fields hr (by rfl) T.g_Fields T.B_Fields___init__ .nil pass0 (pa_cons (pe_op op_catR (pv 0) (pv 1)) pa_nil)))), ?_⟩
    try dsimp only [cxOf, Cx.nox, Cx.wish]
    tm_at "rd"
    intro t H1 s1 ht
    rw [← List.map_append] at ht
    tm_at "rd"
    refine mkF (.inr ⟨t, rfl, ⟨_, ht, .inr rfl⟩, ?_, ?_⟩) fun f zs H2 s2 nf hf hz => ?_
    · intro x hx
      rcases List.mem_append.mp hx with h | h
      · exact hw1 x h
      · exact hw2 x h
    · rw [List.length_append]; exact hlen
    · exact q f zs H2 (s1.trans s2) (s1.free nf) hf fun x => by rw [hz, List.mem_append]; rfl

theorem ok_both (T : Txt K mg a) {k : Nat} : FnOk P w K mg base CX0 (k + 5) a.f_both a.d_both ["ones", "others"] (spJoin K a.C_Fields cAnd) := by
  have G_Fields := ok_Fields___init__ (P := P) (w := w) (base := base) T (k := k)
  refine T.F_both.ok S_both (fun vs H Q E h => ?_) (fun cdv A outer s H vs Q E hr h => ?_)
  · obtain ⟨_, _, _, _, rfl, _⟩ := h
    rfl
  · obtain ⟨l, m, xs, ys, rfl, hl, hm, hw1, hw2, hlen, q⟩ := h
    have I_F := T.I_Fields
    have C_F := T.C_Fields
    have n_F := T.n_Fields_cells
    refine ⟨_, (pss_one (ps_ret (pe_make T.K_Fields G_Fields hr (by rfl) T.g_Fields T.B_Fields___init__ .nil pass0 (pa_cons (pe_lc (own := [("word", 2)]) rfl S_both.nd (pi_row (pv 0)) (blkOk_by (own := [("word", 2)]) (N := N_both) (sc := (defScope (topS 13))) (by decide +kernel)) (fun _ _ _ _ _ => (pg_name (i := 2) S_both.nd rfl (Or.inl rfl))) (fun _ _ _ _ _ => pts_one (pt_cmpR (op_inSsK (K := K) rfl) (pv 2) (pv 1) (by rfl))) (fun _ _ _ _ _ => (pv 2))) pa_nil)))), ?_⟩
    try dsimp only [cxOf, Cx.nox, Cx.wish]
    have rl : Row K H l (xs.map V.str) := .inr (SqT.of hl)
    have rm : Row K H m (ys.map V.str) := .inr (SqT.of hm)
    tm_at "rd"
    intro J G wk kG D nD
    refine lc_strs wk nD (fun x => if decide (x ∈ ys) = true then some (.str x) else none) (fun H' s => kG H' (.ofSame s)) ?_ ?_
    · intro i x H2 hx p
      have s2 := p.2.1
      tm_at "rd"
      refine iteB (fun h => ?_) (fun h => ?_)
      · tm_at "rd"
        exact lcs_put p hx (by omega) (Same.refl _) (if_pos h)
      · exact lcs_skip p hx (by omega) (Same.refl _) (if_neg (by rw [show decide (x ∈ ys) = false from h]; decide))
    · intro H2 s2 hD
      rw [fm_if xs (fun x => decide (x ∈ ys))] at hD
      tm_at "rd"
      refine mkF (.inr ⟨D, rfl, ⟨_, hD, .inl rfl⟩, ?_, ?_⟩) fun f zs H3 s3 nf hf hz => ?_
      · intro x hx
        exact hw1 x (List.mem_filter.mp hx).1
      · have := List.length_filter_le (fun x => decide (x ∈ ys)) xs
        omega
      · exact q f zs H3 (s2.trans s3) (s2.free nf) hf fun x => by rw [hz, List.mem_filter]; simp [cAnd]

theorem ok_without (T : Txt K mg a) {k : Nat} : FnOk P w K mg base CX0 (k + 5) a.f_without a.d_without ["ones", "others"] (spJoin K a.C_Fields cSub) := by
  have G_Fields := ok_Fields___init__ (P := P) (w := w) (base := base) T (k := k)
  refine T.F_without.ok S_without (fun vs H Q E h => ?_) (fun cdv A outer s H vs Q E hr h => ?_)
  · obtain ⟨_, _, _, _, rfl, _⟩ := h
    rfl
  · obtain ⟨l, m, xs, ys, rfl, hl, hm, hw1, hw2, hlen, q⟩ := h
    have I_F := T.I_Fields
    have C_F := T.C_Fields
    have n_F := T.n_Fields_cells
    refine ⟨_, (pss_one (ps_ret (pe_make T.K_Fields G_Fields hr (by rfl) T.g_Fields T.B_Fields___init__ .nil pass0 (pa_cons (pe_lc (own := [("word", 2)]) rfl S_without.nd (pi_row (pv 0)) (blkOk_by (own := [("word", 2)]) (N := N_without) (sc := (defScope (topS 14))) (by decide +kernel)) (fun _ _ _ _ _ => (pg_name (i := 2) S_without.nd rfl (Or.inl rfl))) (fun _ _ _ _ _ => pts_one (pt_cmpR (op_notInSsK (K := K) rfl) (pv 2) (pv 1) (by rfl))) (fun _ _ _ _ _ => (pv 2))) pa_nil)))), ?_⟩
    try dsimp only [cxOf, Cx.nox, Cx.wish]
    have rl : Row K H l (xs.map V.str) := .inr (SqT.of hl)
    have rm : Row K H m (ys.map V.str) := .inr (SqT.of hm)
    tm_at "rd"
    intro J G wk kG D nD
    refine lc_strs wk nD (fun x => if (!decide (x ∈ ys)) = true then some (.str x) else none) (fun H' s => kG H' (.ofSame s)) ?_ ?_
    · intro i x H2 hx p
      have s2 := p.2.1
      tm_at "rd"
      refine iteB (fun h => ?_) (fun h => ?_)
      · tm_at "rd"
        exact lcs_put p hx (by omega) (Same.refl _) (if_pos h)
      · exact lcs_skip p hx (by omega) (Same.refl _) (if_neg (by rw [show (!decide (x ∈ ys)) = false from h]; decide))
    · intro H2 s2 hD
      rw [fm_if xs (fun x => (!decide (x ∈ ys)))] at hD
      tm_at "rd"
      refine mkF (.inr ⟨D, rfl, ⟨_, hD, .inl rfl⟩, ?_, ?_⟩) fun f zs H3 s3 nf hf hz => ?_
      · intro x hx
        exact hw1 x (List.mem_filter.mp hx).1
      · have := List.length_filter_le (fun x => (!decide (x ∈ ys))) xs
        omega
      · exact q f zs H3 (s2.trans s3) (s2.free nf) hf fun x => by rw [hz, List.mem_filter]; simp [cSub]

theorem ok_one_only (T : Txt K mg a) {k : Nat} : FnOk P w K mg base CX0 (k + 5) a.f_one_only a.d_one_only ["ones", "others"] (spJoin K a.C_Fields cXor) := by
  have G_Fields := ok_Fields___init__ (P := P) (w := w) (base := base) T (k := k)
  refine T.F_one_only.ok S_one_only (fun vs H Q E h => ?_) (fun cdv A outer s H vs Q E hr h => ?_)
  · obtain ⟨_, _, _, _, rfl, _⟩ := h
    rfl
  · obtain ⟨l, m, xs, ys, rfl, hl, hm, hw1, hw2, hlen, q⟩ := h
    have I_F := T.I_Fields
    have C_F := T.C_Fields
    have n_F := T.n_Fields_cells
    refine ⟨_, (pss_one (ps_ret (pe_make T.K_Fields G_Fields hr (by rfl) T.g_Fields T.B_Fields___init__ .nil pass0 (pa_cons (pe_lc (own := [("word", 2)]) rfl S_one_only.nd (pi_row (pe_op op_catR (pv 0) (pv 1))) (blkOk_by (own := [("word", 2)]) (N := N_one_only) (sc := (defScope (topS 15))) (by decide +kernel)) (fun _ _ _ _ _ => (pg_name (i := 2) S_one_only.nd rfl (Or.inl rfl))) (fun _ _ _ _ _ => pts_one (pw_or (pt_cmpR (op_notInSsK (K := K) rfl) (pv 2) (pv 0) (by rfl)) (pw_or1 (pt_cmpR (op_notInSsK (K := K) rfl) (pv 2) (pv 1) (by rfl)))).pt) (fun _ _ _ _ _ => (pv 2))) pa_nil)))), ?_⟩
    try dsimp only [cxOf, Cx.nox, Cx.wish]
    have rl : Row K H l (xs.map V.str) := .inr (SqT.of hl)
    have rm : Row K H m (ys.map V.str) := .inr (SqT.of hm)
    tm_at "rd"
    intro t H1 s1 ht
    rw [← List.map_append] at ht
    have rt : Row K H1 t ((xs ++ ys).map V.str) := .inr (SqT.of ht)
    have len : (xs ++ ys).length ≤ 60 := by rw [List.length_append]; exact hlen
    tm_at "rd"
    intro J G wk kG D nD
    refine lc_strs wk nD (fun x => if (!decide (x ∈ xs) || !decide (x ∈ ys)) = true then some (.str x) else none) (fun H' s => kG H' (.ofSame s)) ?_ ?_
    · intro i x H2 hx p
      have s2 := s1.trans p.2.1
      tm_at "rd"
      refine iteB (fun h => ?_) (fun h => ?_)
      · tm_at "rd"
        exact lcs_put p hx (by omega) (Same.refl _) (if_pos (by rw [show (!decide (x ∈ xs)) = true from h]; rfl))
      · tm_at "rd"
        refine iteB (fun h2 => ?_) (fun h2 => ?_)
        · tm_at "rd"
          exact lcs_put p hx (by omega) (Same.refl _) (if_pos (by rw [show (!decide (x ∈ xs)) = false from h, show (!decide (x ∈ ys)) = true from h2]; rfl))
        · exact lcs_skip p hx (by omega) (Same.refl _) (if_neg (by rw [show (!decide (x ∈ xs)) = false from h, show (!decide (x ∈ ys)) = false from h2]; decide))
    · intro H2 s2 hD
      rw [fm_if (xs ++ ys) (fun x => (!decide (x ∈ xs) || !decide (x ∈ ys)))] at hD
      tm_at "rd"
      refine mkF (.inr ⟨D, rfl, ⟨_, hD, .inl rfl⟩, ?_, ?_⟩) fun f zs H3 s3 nf hf hz => ?_
      · intro x hx
        rcases List.mem_append.mp (List.mem_filter.mp hx).1 with h | h
        · exact hw1 x h
        · exact hw2 x h
      · have := List.length_filter_le (fun x => (!decide (x ∈ xs) || !decide (x ∈ ys))) (xs ++ ys)
        omega
      · exact q f zs H3 ((s1.trans s2).trans s3) (s1.free (s2.free nf)) hf fun x => by
          rw [hz, List.mem_filter, List.mem_append]
          by_cases h1 : x ∈ xs <;> by_cases h2 : x ∈ ys <;> simp [cXor, h1, h2]

def spOp (K : PySem.W.Frag) (C : Addr) (c : Prop → Prop → Prop) : Sp := fun vs H Q _ => ∃ (f : Addr) (ws : List Str) (v : V) (us : List Str), vs = [.ref f, v] ∧ FO C H f ws ∧ FSet K C H v us ∧ ws.length + us.length ≤ 60 ∧
  ∀ g zs H', Same H H' → FO C H' g zs → (∀ x, x ∈ zs ↔ c (x ∈ ws) (x ∈ us)) → Q (.ref g) H'

theorem ok_Fields___or__ (T : Txt K mg a) {k : Nat} : FnOk P w K mg base CX0 (k + 6) a.f_Fields___or__ a.d_Fields___or__ ["self", "other"] (spOp K a.C_Fields cOr) := by
  have G_words_in := ok_words_in (P := P) (w := w) (base := base) T (k := k+3)
  have G_either := ok_either (P := P) (w := w) (base := base) T (k := k)
  refine T.F_Fields___or__.ok S_Fields___or__ (fun vs H Q E h => ?_) (fun cdv A outer s H vs Q E hr h => ?_)
  · obtain ⟨_, _, _, _, rfl, _⟩ := h
    rfl
  · obtain ⟨f, ws, v, us, rfl, ⟨dx, t, hf, ht, hasc, hw⟩, hfs, hlen, q⟩ := h
    have I_F := T.I_Fields
    have C_F := T.C_Fields
    have n_F := T.n_Fields_cells
    refine ⟨_, (pss_one (ps_ret (pe_call G_either hr (by rfl) T.m_either T.F_either.kp T.B_either .nil pass0 (pa_cons (pe_fld (pv 0) rfl) (pa_cons (pe_call G_words_in hr (by rfl) T.m_words_in T.F_words_in.kp T.B_words_in .nil pass0 (pa_cons (pv 1) pa_nil)) pa_nil))))), ?_⟩
    try dsimp only [cxOf, Cx.nox, Cx.wish]
    tm_at "rd"
    intro t2 ys H1 s1 ht2 hasc2 hm
    have yl := asc_len hasc2 hm
    have fin : spJoin K a.C_Fields cOr [.ref t, .ref t2] H1 Q E := ⟨_, _, ws, ys, rfl, s1 _ _ ht, ht2, hw, fun x hx => hfs.ws x ((hm x).mp hx), by omega, fun g zs H2 s2 ng hg hz => q g zs H2 (s1.trans s2) hg fun x => by rw [hz, hm]⟩
    first
      | exact fin
      | (tm_at "rd"
         exact ⟨fun x hx => hfs.ws x ((hm x).mp hx), hw, by omega, fun g zs H2 s2 ng hg hz => q g zs H2 (s1.trans s2) hg fun x => by rw [hz, hm]⟩)

theorem ok_Fields___ror__ (T : Txt K mg a) {k : Nat} : FnOk P w K mg base CX0 (k + 6) a.f_Fields___ror__ a.d_Fields___ror__ ["self", "other"] (spOp K a.C_Fields (fun p q => cOr q p)) := by
  have G_words_in := ok_words_in (P := P) (w := w) (base := base) T (k := k+3)
  have G_either := ok_either (P := P) (w := w) (base := base) T (k := k)
  refine T.F_Fields___ror__.ok S_Fields___ror__ (fun vs H Q E h => ?_) (fun cdv A outer s H vs Q E hr h => ?_)
  · obtain ⟨_, _, _, _, rfl, _⟩ := h
    rfl
  · obtain ⟨f, ws, v, us, rfl, ⟨dx, t, hf, ht, hasc, hw⟩, hfs, hlen, q⟩ := h
    have I_F := T.I_Fields
    have C_F := T.C_Fields
    have n_F := T.n_Fields_cells
    refine ⟨_, (pss_one (ps_ret (pe_call G_either hr (by rfl) T.m_either T.F_either.kp T.B_either .nil pass0 (pa_cons (pe_call G_words_in hr (by rfl) T.m_words_in T.F_words_in.kp T.B_words_in .nil pass0 (pa_cons (pv 1) pa_nil)) (pa_cons (pe_fld (pv 0) rfl) pa_nil))))), ?_⟩
    try dsimp only [cxOf, Cx.nox, Cx.wish]
    tm_at "rd"
    intro t2 ys H1 s1 ht2 hasc2 hm
    have yl := asc_len hasc2 hm
    have fin : spJoin K a.C_Fields cOr [.ref t2, .ref t] H1 Q E := ⟨_, _, ys, ws, rfl, ht2, s1 _ _ ht, fun x hx => hfs.ws x ((hm x).mp hx), hw, by omega, fun g zs H2 s2 ng hg hz => q g zs H2 (s1.trans s2) hg fun x => by rw [hz, hm]⟩
    first
      | exact fin
      | (tm_at "rd"
         exact ⟨fun x hx => hfs.ws x ((hm x).mp hx), hw, by omega, fun g zs H2 s2 ng hg hz => q g zs H2 (s1.trans s2) hg fun x => by rw [hz, hm]⟩)

theorem ok_Fields___and__ (T : Txt K mg a) {k : Nat} : FnOk P w K mg base CX0 (k + 6) a.f_Fields___and__ a.d_Fields___and__ ["self", "other"] (spOp K a.C_Fields cAnd) := by
  have G_words_in := ok_words_in (P := P) (w := w) (base := base) T (k := k+3)
  have G_both := ok_both (P := P) (w := w) (base := base) T (k := k)
  refine T.F_Fields___and__.ok S_Fields___and__ (fun vs H Q E h => ?_) (fun cdv A outer s H vs Q E hr h => ?_)
  · obtain ⟨_, _, _, _, rfl, _⟩ := h
    rfl
  · obtain ⟨f, ws, v, us, rfl, ⟨dx, t, hf, ht, hasc, hw⟩, hfs, hlen, q⟩ := h
    have I_F := T.I_Fields
    have C_F := T.C_Fields
    have n_F := T.n_Fields_cells
    refine ⟨_, (pss_one (ps_ret (pe_call G_both hr (by rfl) T.m_both T.F_both.kp T.B_both .nil pass0 (pa_cons (pe_fld (pv 0) rfl) (pa_cons (pe_call G_words_in hr (by rfl) T.m_words_in T.F_words_in.kp T.B_words_in .nil pass0 (pa_cons (pv 1) pa_nil)) pa_nil))))), ?_⟩
    try dsimp only [cxOf, Cx.nox, Cx.wish]
    tm_at "rd"
    intro t2 ys H1 s1 ht2 hasc2 hm
    have yl := asc_len hasc2 hm
    have fin : spJoin K a.C_Fields cAnd [.ref t, .ref t2] H1 Q E := ⟨_, _, ws, ys, rfl, s1 _ _ ht, ht2, hw, fun x hx => hfs.ws x ((hm x).mp hx), by omega, fun g zs H2 s2 ng hg hz => q g zs H2 (s1.trans s2) hg fun x => by rw [hz, hm]⟩
    first
      | exact fin
      | (tm_at "rd"
         exact ⟨fun x hx => hfs.ws x ((hm x).mp hx), hw, by omega, fun g zs H2 s2 ng hg hz => q g zs H2 (s1.trans s2) hg fun x => by rw [hz, hm]⟩)

theorem ok_Fields___rand__ (T : Txt K mg a) {k : Nat} : FnOk P w K mg base CX0 (k + 6) a.f_Fields___rand__ a.d_Fields___rand__ ["self", "other"] (spOp K a.C_Fields (fun p q => cAnd q p)) := by
  have G_words_in := ok_words_in (P := P) (w := w) (base := base) T (k := k+3)
  have G_both := ok_both (P := P) (w := w) (base := base) T (k := k)
  refine T.F_Fields___rand__.ok S_Fields___rand__ (fun vs H Q E h => ?_) (fun cdv A outer s H vs Q E hr h => ?_)
  · obtain ⟨_, _, _, _, rfl, _⟩ := h
    rfl
  · obtain ⟨f, ws, v, us, rfl, ⟨dx, t, hf, ht, hasc, hw⟩, hfs, hlen, q⟩ := h
    have I_F := T.I_Fields
    have C_F := T.C_Fields
    have n_F := T.n_Fields_cells
    refine ⟨_, (pss_one (ps_ret (pe_call G_both hr (by rfl) T.m_both T.F_both.kp T.B_both .nil pass0 (pa_cons (pe_call G_words_in hr (by rfl) T.m_words_in T.F_words_in.kp T.B_words_in .nil pass0 (pa_cons (pv 1) pa_nil)) (pa_cons (pe_fld (pv 0) rfl) pa_nil))))), ?_⟩
    try dsimp only [cxOf, Cx.nox, Cx.wish]
    tm_at "rd"
    intro t2 ys H1 s1 ht2 hasc2 hm
    have yl := asc_len hasc2 hm
    have fin : spJoin K a.C_Fields cAnd [.ref t2, .ref t] H1 Q E := ⟨_, _, ys, ws, rfl, ht2, s1 _ _ ht, fun x hx => hfs.ws x ((hm x).mp hx), hw, by omega, fun g zs H2 s2 ng hg hz => q g zs H2 (s1.trans s2) hg fun x => by rw [hz, hm]⟩
    first
      | exact fin
      | (tm_at "rd"
         exact ⟨fun x hx => hfs.ws x ((hm x).mp hx), hw, by omega, fun g zs H2 s2 ng hg hz => q g zs H2 (s1.trans s2) hg fun x => by rw [hz, hm]⟩)

theorem ok_Fields___sub__ (T : Txt K mg a) {k : Nat} : FnOk P w K mg base CX0 (k + 6) a.f_Fields___sub__ a.d_Fields___sub__ ["self", "other"] (spOp K a.C_Fields cSub) := by
  have G_words_in := ok_words_in (P := P) (w := w) (base := base) T (k := k+3)
  have G_without := ok_without (P := P) (w := w) (base := base) T (k := k)
  refine T.F_Fields___sub__.ok S_Fields___sub__ (fun vs H Q E h => ?_) (fun cdv A outer s H vs Q E hr h => ?_)
  · obtain ⟨_, _, _, _, rfl, _⟩ := h
    rfl
  · obtain ⟨f, ws, v, us, rfl, ⟨dx, t, hf, ht, hasc, hw⟩, hfs, hlen, q⟩ := h
    have I_F := T.I_Fields
    have C_F := T.C_Fields
    have n_F := T.n_Fields_cells
    refine ⟨_, (pss_one (ps_ret (pe_call G_without hr (by rfl) T.m_without T.F_without.kp T.B_without .nil pass0 (pa_cons (pe_fld (pv 0) rfl) (pa_cons (pe_call G_words_in hr (by rfl) T.m_words_in T.F_words_in.kp T.B_words_in .nil pass0 (pa_cons (pv 1) pa_nil)) pa_nil))))), ?_⟩
    try dsimp only [cxOf, Cx.nox, Cx.wish]
    tm_at "rd"
    intro t2 ys H1 s1 ht2 hasc2 hm
    have yl := asc_len hasc2 hm
    have fin : spJoin K a.C_Fields cSub [.ref t, .ref t2] H1 Q E := ⟨_, _, ws, ys, rfl, s1 _ _ ht, ht2, hw, fun x hx => hfs.ws x ((hm x).mp hx), by omega, fun g zs H2 s2 ng hg hz => q g zs H2 (s1.trans s2) hg fun x => by rw [hz, hm]⟩
    first
      | exact fin
      | (tm_at "rd"
         exact ⟨fun x hx => hfs.ws x ((hm x).mp hx), hw, by omega, fun g zs H2 s2 ng hg hz => q g zs H2 (s1.trans s2) hg fun x => by rw [hz, hm]⟩)

theorem ok_Fields___rsub__ (T : Txt K mg a) {k : Nat} : FnOk P w K mg base CX0 (k + 6) a.f_Fields___rsub__ a.d_Fields___rsub__ ["self", "other"] (spOp K a.C_Fields (fun p q => cSub q p)) := by
  have G_words_in := ok_words_in (P := P) (w := w) (base := base) T (k := k+3)
  have G_without := ok_without (P := P) (w := w) (base := base) T (k := k)
  refine T.F_Fields___rsub__.ok S_Fields___rsub__ (fun vs H Q E h => ?_) (fun cdv A outer s H vs Q E hr h => ?_)
  · obtain ⟨_, _, _, _, rfl, _⟩ := h
    rfl
  · obtain ⟨f, ws, v, us, rfl, ⟨dx, t, hf, ht, hasc, hw⟩, hfs, hlen, q⟩ := h
    have I_F := T.I_Fields
    have C_F := T.C_Fields
    have n_F := T.n_Fields_cells
    refine ⟨_, (pss_one (ps_ret (pe_call G_without hr (by rfl) T.m_without T.F_without.kp T.B_without .nil pass0 (pa_cons (pe_call G_words_in hr (by rfl) T.m_words_in T.F_words_in.kp T.B_words_in .nil pass0 (pa_cons (pv 1) pa_nil)) (pa_cons (pe_fld (pv 0) rfl) pa_nil))))), ?_⟩
    try dsimp only [cxOf, Cx.nox, Cx.wish]
    tm_at "rd"
    intro t2 ys H1 s1 ht2 hasc2 hm
    have yl := asc_len hasc2 hm
    have fin : spJoin K a.C_Fields cSub [.ref t2, .ref t] H1 Q E := ⟨_, _, ys, ws, rfl, ht2, s1 _ _ ht, fun x hx => hfs.ws x ((hm x).mp hx), hw, by omega, fun g zs H2 s2 ng hg hz => q g zs H2 (s1.trans s2) hg fun x => by rw [hz, hm]⟩
    first
      | exact fin
      | (tm_at "rd"
         exact ⟨fun x hx => hfs.ws x ((hm x).mp hx), hw, by omega, fun g zs H2 s2 ng hg hz => q g zs H2 (s1.trans s2) hg fun x => by rw [hz, hm]⟩)

theorem ok_Fields___xor__ (T : Txt K mg a) {k : Nat} : FnOk P w K mg base CX0 (k + 6) a.f_Fields___xor__ a.d_Fields___xor__ ["self", "other"] (spOp K a.C_Fields cXor) := by
  have G_words_in := ok_words_in (P := P) (w := w) (base := base) T (k := k+3)
  have G_one_only := ok_one_only (P := P) (w := w) (base := base) T (k := k)
  refine T.F_Fields___xor__.ok S_Fields___xor__ (fun vs H Q E h => ?_) (fun cdv A outer s H vs Q E hr h => ?_)
  · obtain ⟨_, _, _, _, rfl, _⟩ := h
    rfl
  · obtain ⟨f, ws, v, us, rfl, ⟨dx, t, hf, ht, hasc, hw⟩, hfs, hlen, q⟩ := h
    have I_F := T.I_Fields
    have C_F := T.C_Fields
    have n_F := T.n_Fields_cells
    refine ⟨_, (pss_one (ps_ret (pe_call G_one_only hr (by rfl) T.m_one_only T.F_one_only.kp T.B_one_only .nil pass0 (pa_cons (pe_fld (pv 0) rfl) (pa_cons (pe_call G_words_in hr (by rfl) T.m_words_in T.F_words_in.kp T.B_words_in .nil pass0 (pa_cons (pv 1) pa_nil)) pa_nil))))), ?_⟩
    try dsimp only [cxOf, Cx.nox, Cx.wish]
    tm_at "rd"
    intro t2 ys H1 s1 ht2 hasc2 hm
    have yl := asc_len hasc2 hm
    have fin : spJoin K a.C_Fields cXor [.ref t, .ref t2] H1 Q E := ⟨_, _, ws, ys, rfl, s1 _ _ ht, ht2, hw, fun x hx => hfs.ws x ((hm x).mp hx), by omega, fun g zs H2 s2 ng hg hz => q g zs H2 (s1.trans s2) hg fun x => by rw [hz, hm]⟩
    first
      | exact fin
      | (tm_at "rd"
         exact ⟨fun x hx => hfs.ws x ((hm x).mp hx), hw, by omega, fun g zs H2 s2 ng hg hz => q g zs H2 (s1.trans s2) hg fun x => by rw [hz, hm]⟩)

theorem ok_Fields___rxor__ (T : Txt K mg a) {k : Nat} : FnOk P w K mg base CX0 (k + 6) a.f_Fields___rxor__ a.d_Fields___rxor__ ["self", "other"] (spOp K a.C_Fields (fun p q => cXor q p)) := by
  have G_words_in := ok_words_in (P := P) (w := w) (base := base) T (k := k+3)
  have G_one_only := ok_one_only (P := P) (w := w) (base := base) T (k := k)
  refine T.F_Fields___rxor__.ok S_Fields___rxor__ (fun vs H Q E h => ?_) (fun cdv A outer s H vs Q E hr h => ?_)
  · obtain ⟨_, _, _, _, rfl, _⟩ := h
    rfl
  · obtain ⟨f, ws, v, us, rfl, ⟨dx, t, hf, ht, hasc, hw⟩, hfs, hlen, q⟩ := h
    have I_F := T.I_Fields
    have C_F := T.C_Fields
    have n_F := T.n_Fields_cells
    refine ⟨_, (pss_one (ps_ret (pe_call G_one_only hr (by rfl) T.m_one_only T.F_one_only.kp T.B_one_only .nil pass0 (pa_cons (pe_call G_words_in hr (by rfl) T.m_words_in T.F_words_in.kp T.B_words_in .nil pass0 (pa_cons (pv 1) pa_nil)) (pa_cons (pe_fld (pv 0) rfl) pa_nil))))), ?_⟩
    try dsimp only [cxOf, Cx.nox, Cx.wish]
    tm_at "rd"
    intro t2 ys H1 s1 ht2 hasc2 hm
    have yl := asc_len hasc2 hm
    have fin : spJoin K a.C_Fields cXor [.ref t2, .ref t] H1 Q E := ⟨_, _, ys, ws, rfl, ht2, s1 _ _ ht, fun x hx => hfs.ws x ((hm x).mp hx), hw, by omega, fun g zs H2 s2 ng hg hz => q g zs H2 (s1.trans s2) hg fun x => by rw [hz, hm]⟩
    first
      | exact fin
      | (tm_at "rd"
         exact ⟨fun x hx => hfs.ws x ((hm x).mp hx), hw, by omega, fun g zs H2 s2 ng hg hz => q g zs H2 (s1.trans s2) hg fun x => by rw [hz, hm]⟩)

end
end K02



namespace K02
open PySem PySem.Spec PyProof.Rows L2 Sm
open Evl (pss_cut)
section
variable {P : Program} {w : World} {K : PySem.W.Frag} {mg : Str → Option Value} {base : Heap} {a : Ad}
def spMix : Sp := fun vs H Q _ => ∃ (st c l : Addr) (xs : List Str), vs = [.ref st, .ref l] ∧ StOk c H st ∧ H l = some (.lst (xs.map V.str)) ∧ l ≠ st ∧ (∀ x ∈ xs, PyData.strOk x = true) ∧ xs.length ≤ 1000 ∧
  ∀ (p : Addr) (ys : List Str) (H' : Hp), Fr1 st H H' → StOk c H' st → H p = none → H' p = some (.lst (ys.map V.str)) → ys.Perm xs → Q (.ref p) H'
theorem ok__law_mix (T : Txt K mg a) {k : Nat} : FnOk P w K mg base CX0 (k + 3) a.f__law_mix a.d__law_mix ["_law_state", "_law_things"] spMix := by
  have G_take := ok__law_take (P := P) (w := w) (base := base) T (k := k)
  refine T.F__law_mix.ok S__law_mix (fun vs H Q E h => ?_) (fun cdv A outer s H vs Q E hr h => ?_)
  · obtain ⟨_, _, _, _, rfl, _⟩ := h
    rfl
  · obtain ⟨st, c, l, xs, rfl, hst, hl, hls, hok, hlen, q⟩ := h
    refine ⟨_, (pss_cons (ps_par (i := 2) (j := 3) rfl S__law_mix.nd rfl rfl (by decide) rfl rfl (pa_cons (pe_callTy call_list_of (by rfl) T.b_list (by decide +kernel) (pa_cons (pv 1) pa_nil)) (pa_cons (pe_lst pa_nil) pa_nil)) (by rfl))
 (pss_cons (ps_while PassesOwn.never (pt_cmpR (op_neNil hr.units) (pv 2) (pe_lst pa_nil) (nomark _))
 (pss_one (ps_expr (pe_bm PySem.F.plainAttrs_list PySem.F.slot_list_append PySem.F.type_list_append mt_append (pv 3) (pa_cons (pe_bm PySem.F.plainAttrs_list PySem.F.slot_list_pop PySem.F.type_list_pop mt_popS (pv 2) (pa_cons (pe_call G_take hr (by rfl) T.m__law_take T.F__law_take.kp T.B__law_take .nil pass0 (pa_cons (pv 0) (pa_cons (pe_callB call_len_seq (by rfl) T.b_len PySem.boot_len (pa_cons (pv 2) pa_nil)) pa_nil))) pa_nil)) pa_nil)))))
 (pss_one (ps_ret (pv 3))))), ?_⟩
    try dsimp only [cxOf, Cx.nox, Cx.wish]
    tm_at "rd"
    intro le nle
    tm_at "rd"
    intro fo nfo0
    have lfo : fo ≠ le := by tm_at "ne"
    have nfo : H fo = none := by rw [← nfo0]; exact (upd_ne lfo).symm
    have hs1 := hst.ne nle
    have hs2 := hst.neC nle
    have hs3 := hst.ne nfo
    have hs4 := hst.neC nfo
    tm_at "rd"
    refine Exists.intro (fun mm σ H1 => ∃ left found : List Str, σ = [some (.ref st), some (.ref l), some (.ref le), some (.ref fo)] ∧ StOk c H1 st ∧ Fr1 st H H1 ∧ H1 le = some (.lst (left.map V.str)) ∧ H1 fo = some (.lst (found.map V.str)) ∧ (found ++ left).Perm xs ∧ mm = left.length) (And.intro ⟨xs.length, xs, [], rfl, by tm_at "stok", by tm_at "fr", by tm_at "hp", upd_same, List.Perm.refl _, rfl⟩ ?_)
    rintro mm σ H1 ⟨left, found, rfl, hs, f1, hle, hfo, pm, rfl⟩
    have lok : ∀ x ∈ left, PyData.strOk x = true := fun x hx => hok x (pm.mem_iff.mp (List.mem_append_right _ hx))
    have len := pm.length_eq
    rw [List.length_append] at len
    tm_at "rd"
    intro p np
    tm_at "rd"
    refine iteB (fun h => ?_) (fun h => ?_)
    · have hl : left ≠ [] := of_decide_eq_false (by simpa using h)
      have hl2 : 0 < left.length := List.length_pos_iff.mpr hl
      refine ⟨fun σ' H2 => Stp (∃ left' found' : List Str, σ' = [some (.ref st), some (.ref l), some (.ref le), some (.ref fo)] ∧ StOk c H2 st ∧ Fr1 st H H2 ∧ H2 le = some (.lst (left'.map V.str)) ∧ H2 fo = some (.lst (found'.map V.str)) ∧ (found' ++ left').Perm xs ∧ left'.length < left.length), ?_, ?_⟩
      · rintro σ' H2 ⟨left', found', rfl, a1, a2, a3, a4, a5, a6⟩
        exact ⟨left'.length, a6, left', found', rfl, a1, a2, a3, a4, a5, rfl⟩
      · tm_at "rd"
        intro d H2 d0 d1 f2 s2
        tm_at "rd"
        intro z ys pz
        have zl := pz.length_eq
        rw [List.length_cons] at zl
        tm_at "rd"
        refine ⟨ys, found ++ [z], rfl, by tm_at "stok", ?_, by tm_at "hp", by rw [upd_same, List.map_append]; rfl, ?_, by omega⟩
        · tm_at "fr"
        · refine List.Perm.trans ?_ pm
          rw [List.append_assoc]
          exact List.Perm.append_left _ pz
    · have hl : left = [] := of_decide_eq_true (by simpa using h)
      subst hl
      rw [List.append_nil] at pm
      tm_at "rd"
      exact q fo found _ (by tm_at "fr") (by tm_at "stok") nfo (by tm_at "hp") pm

def w10 : List Str := ["a", "b", "k", "q", "zz", "xyz", "abcdefgh", "qrstuvwx", "yzyzyzyz", "w"]
def rowW (x : Nat) : List Str := ("ghijklmnop" : Str).cps.toList.map fun y => (⟨#[x, y]⟩ : Str)
def allW : List Str := w10 ++ ("abcdef" : Str).cps.toList.flatMap rowW
theorem allW_nd : allW.Nodup := by decide +kernel
theorem allW_w : ∀ x ∈ allW, isW x = true := by decide +kernel
theorem allW_len : allW.length = 70 := by decide +kernel
def spAllW : Sp := fun vs H Q _ => vs = [] ∧ ∀ (p : Addr) (H' : Hp), Same H H' → H p = none → H' p = some (.lst (allW.map V.str)) → Q (.ref p) H'
theorem ok__law_all_words (T : Txt K mg a) {k : Nat} : FnOk P w K mg base CX0 (k + 1) a.f__law_all_words a.d__law_all_words [] spAllW := by
  refine T.F__law_all_words.ok S__law_all_words (fun vs H Q E h => ?_) (fun cdv A outer s H vs Q E hr h => ?_)
  · obtain ⟨rfl, _⟩ := h
    rfl
  · obtain ⟨rfl, q⟩ := h
    refine ⟨_, (pss_cons (ps_set (i := 0) S__law_all_words.nd rfl (Or.inl rfl) (pe_lst (pa_cons pe_str (pa_cons pe_str (pa_cons pe_str (pa_cons pe_str (pa_cons pe_str (pa_cons pe_str (pa_cons pe_str (pa_cons pe_str (pa_cons pe_str (pa_cons pe_str pa_nil))))))))))))
 (pss_cons (ps_for PassesOwn.never rfl (pi_str pe_str) (pg_name (i := 1) S__law_all_words.nd rfl (Or.inr rfl))
 (pss_one (ps_expr (pe_bm PySem.F.plainAttrs_list PySem.F.slot_list_extend PySem.F.type_list_extend mt_extend (pv 0) (pa_cons (pe_lc (own := [("_law_y", 2)]) rfl S__law_all_words.nd (pi_str pe_str) (blkOk_by (own := [("_law_y", 2)]) (N := N__law_all_words) (sc := (defScope (topS 23))) (by decide +kernel)) (fun _ _ _ _ _ => (pg_name (i := 2) S__law_all_words.nd rfl (Or.inl rfl))) (fun _ _ _ _ _ => pts_nil) (fun _ _ _ _ _ => (pe_op op_add_str (pv 1) (pv 2)))) pa_nil)))))
 (pss_one (ps_ret (pv 0))))), ?_⟩
    try dsimp only [cxOf, Cx.nox, Cx.wish]
    tm_at "rd"
    intro fo nfo
    tm_at "rd"
    refine for_it walk_str (fun i σ H' => Stp (∃ (y1 : Option V), σ = [some (.ref fo), y1, none] ∧ Same H H' ∧ H' fo = some (.lst ((w10 ++ (("abcdef" : Str).cps.toList.take i).flatMap rowW).map V.str)))) ?_ ?_ ?_ ?_
    · exact ⟨none, rfl, by tm_at "fr", upd_same⟩
    · intro i σ H' _ _; trivial
    · rintro i x σ H2 H3 hi ⟨y1, rfl, s2, h2⟩ ⟨rfl, c, hc, rfl⟩
      tm_at "rd"
      intro D nD
      have lfo : fo ≠ D := by tm_at "ne"
      refine lc_fm walk_str nD (fun i => ("ghijklmnop" : Str).cps.toList[i]?.bind fun y => some (.str ⟨#[c, y]⟩)) (fun _ _ => trivial) ?_ ?_
      · rintro j x H1 H2 hj p ⟨rfl, y, hy, rfl⟩
        tm_at "rd"
        refine ⟨(show 2 ≤ sizeLine by decide), ?_⟩
        refine lc_put p (by have : j < ("ghijklmnop" : Str).cps.size := hj; have : ("ghijklmnop" : Str).cps.size = 10 := by decide +kernel
                            omega) (Same.refl _) ?_
        rw [Array.getElem?_toList, hy]
        rfl
      · intro H1 s1 hD
        have e : made (fun i => ("ghijklmnop" : Str).cps.toList[i]?.bind fun y => some (.str ⟨#[c, y]⟩)) ("ghijklmnop" : Str).cps.size = (rowW c).map V.str := by
          rw [← Array.length_toList, made_items, rowW, List.map_map, ← List.filterMap_eq_map]; rfl
        rw [e] at hD
        have h2' := s1 _ _ h2
        have l6 : ("abcdef" : Str).cps.size = 6 := by decide +kernel
        have len : (w10 ++ (("abcdef" : Str).cps.toList.take i).flatMap rowW).length ≤ 100 := by
          have : ∀ i, i < 6 → (w10 ++ (("abcdef" : Str).cps.toList.take i).flatMap rowW).length ≤ 100 := by decide +kernel
          exact this i (by rw [← l6]; exact hi)
        have len2 : (rowW c).length ≤ 100 := by rw [rowW, List.length_map]; decide +kernel
        tm_at "rd"
        refine ⟨_, rfl, by tm_at "fr", ?_⟩
        rw [upd_same]
        have hc' : ("abcdef" : Str).cps.toList[i]? = some c := by rw [Array.getElem?_toList]; exact hc
        have hi' := (List.getElem?_eq_some_iff.mp hc').1
        have hc2 := (List.getElem?_eq_some_iff.mp hc').2
        rw [List.take_succ_eq_append_getElem hi', List.flatMap_append, hc2, List.flatMap_singleton, ← List.append_assoc, List.map_append (l₂ := rowW c)]
    · rintro σ H' ⟨y1, rfl, s2, h2⟩
      tm_at "rd"
      rw [← Array.length_toList, List.take_length] at h2
      exact q fo _ s2 nfo h2

def spSomeWords : Sp := fun vs H Q _ => ∃ (st c : Addr), vs = [.ref st, .int 7] ∧ StOk c H st ∧
  ∀ (p : Addr) (ys : List Str) (H' : Hp), Fr1 st H H' → StOk c H' st → H p = none → H' p = some (.lst (ys.map V.str)) → ys.Nodup → (∀ x ∈ ys, x ∈ allW) → ys.length = 7 → Q (.ref p) H'
theorem ok__law_some_words (T : Txt K mg a) {k : Nat} : FnOk P w K mg base CX0 (k + 3) a.f__law_some_words a.d__law_some_words ["_law_state", "_law_many"] spSomeWords := by
  have G_take := ok__law_take (P := P) (w := w) (base := base) T (k := k)
  have G_all := ok__law_all_words (P := P) (w := w) (base := base) T (k := k+1)
  refine T.F__law_some_words.ok S__law_some_words (fun vs H Q E h => ?_) (fun cdv A outer s H vs Q E hr h => ?_)
  · obtain ⟨_, _, rfl, _⟩ := h
    rfl
  · obtain ⟨st, c, rfl, hst, q⟩ := h
    refine ⟨_, (pss_cons (ps_par (i := 2) (j := 3) rfl S__law_some_words.nd rfl rfl (by decide) rfl rfl (pa_cons (pe_call0 G_all hr (by rfl) T.m__law_all_words T.F__law_all_words.kp T.B__law_all_words .nil pass0) (pa_cons (pe_lst pa_nil) pa_nil)) (by rfl))
 (pss_cons (ps_for PassesOwn.never rfl (pi_range1 rfl T.b_range (pa_cons (pv 1) pa_nil)) (pg_name (i := 4) S__law_some_words.nd rfl (Or.inl rfl))
 (pss_one (ps_expr (pe_bm PySem.F.plainAttrs_list PySem.F.slot_list_append PySem.F.type_list_append mt_append (pv 3) (pa_cons (pe_bm PySem.F.plainAttrs_list PySem.F.slot_list_pop PySem.F.type_list_pop mt_popS (pv 2) (pa_cons (pe_call G_take hr (by rfl) T.m__law_take T.F__law_take.kp T.B__law_take .nil pass0 (pa_cons (pv 0) (pa_cons (pe_callB call_len_seq (by rfl) T.b_len PySem.boot_len (pa_cons (pv 2) pa_nil)) pa_nil))) pa_nil)) pa_nil)))))
 (pss_one (ps_ret (pv 3))))), ?_⟩
    try dsimp only [cxOf, Cx.nox, Cx.wish]
    tm_at "rd"
    intro le H1 s1 nle0 hle
    tm_at "rd"
    intro fo nfo1
    have hst1 := hst.same s1
    have nle := nle0
    have nfo : H fo = none := s1.free nfo1
    have lfo : le ≠ fo := ne_non nfo1 hle
    have hs1 := hst.ne nle
    have hs2 := hst.neC nle
    have hs3 := hst.ne nfo
    have hs4 := hst.neC nfo
    tm_at "rd"
    refine for_it walk_range (fun i σ H' => Stp (∃ (y1 : Option V) (left found : List Str), σ = [some (.ref st), some (.int 7), some (.ref le), some (.ref fo), y1] ∧ StOk c H' st ∧ Fr1 st H H' ∧ H' le = some (.lst (left.map V.str)) ∧ H' fo = some (.lst (found.map V.str)) ∧ (found ++ left).Perm allW ∧ found.length = i)) ?_ ?_ ?_ ?_
    · exact ⟨none, allW, [], rfl, by tm_at "stok", by tm_at "fr", by tm_at "hp", upd_same, List.Perm.refl _, rfl⟩
    · intro i σ H' _ _; trivial
    · rintro i x σ H2 H3 hi ⟨y1, left, found, rfl, hs, f2, h2, h3, pm, e⟩ ⟨rfl, rfl⟩
      have len := pm.length_eq
      have hi' : i < 7 := hi
      rw [List.length_append, allW_len] at len
      tm_at "rd"
      intro d H4 d0 d1 f4 s4
      tm_at "rd"
      intro z ys pz
      have zl := pz.length_eq
      rw [List.length_cons] at zl
      tm_at "rd"
      refine ⟨_, ys, found ++ [z], rfl, by tm_at "stok", by tm_at "fr", by tm_at "hp", by rw [upd_same, List.map_append]; rfl, ?_, by rw [List.length_append, e]; rfl⟩
      refine List.Perm.trans ?_ pm
      rw [List.append_assoc]
      exact List.Perm.append_left _ pz
    · rintro σ H' ⟨y1, left, found, rfl, hs, f2, h2, h3, pm, e⟩
      tm_at "rd"
      refine q fo found _ f2 hs nfo h3 ?_ ?_ ?_
      · exact (List.nodup_append.mp (pm.nodup_iff.mpr allW_nd)).1
      · intro x hx; exact pm.mem_iff.mp (List.mem_append_left _ hx)
      · rw [e]; rfl

def spSome : Sp := fun vs H Q _ => ∃ (st c l : Addr) (xs : List Str), vs = [.ref st, .ref l] ∧ StOk c H st ∧ H l = some (.lst (xs.map V.str)) ∧ l ≠ st ∧ xs.length ≤ 1000 ∧
  ∀ (p : Addr) (ys : List Str) (H' : Hp), Fr1 st H H' → StOk c H' st → H p = none → H' p = some (.lst (ys.map V.str)) → ys.Sublist xs → Q (.ref p) H'
theorem ok__law_some (T : Txt K mg a) {k : Nat} : FnOk P w K mg base CX0 (k + 3) a.f__law_some a.d__law_some ["_law_state", "_law_things"] spSome := by
  have G_take := ok__law_take (P := P) (w := w) (base := base) T (k := k)
  refine T.F__law_some.ok S__law_some (fun vs H Q E h => ?_) (fun cdv A outer s H vs Q E hr h => ?_)
  · obtain ⟨_, _, _, _, rfl, _⟩ := h
    rfl
  · obtain ⟨st, c, l, xs, rfl, hst, hl, hls, hlen, q⟩ := h
    refine ⟨_, (pss_cons (ps_set (i := 2) S__law_some.nd rfl (Or.inl rfl) (pe_call G_take hr (by rfl) T.m__law_take T.F__law_take.kp T.B__law_take .nil pass0 (pa_cons (pv 0) (pa_cons pe_int pa_nil))))
 (pss_cons (ps_if (pt_cmpR op_eq (pv 2) pe_int (nomark _))
 (pss_one (ps_ret (pe_lst pa_nil))) pss_nil)
 (pss_cons (ps_if (pt_cmpR op_eq (pv 2) pe_int (nomark _))
 (pss_one (ps_ret (pe_callTy call_list_of (by rfl) T.b_list (by decide +kernel) (pa_cons (pv 1) pa_nil)))) pss_nil)
 (pss_one (ps_ret (pe_lc (own := [("_law_x", 3)]) rfl S__law_some.nd (pi_row (pv 1)) (blkOk_by (own := [("_law_x", 3)]) (N := N__law_some) (sc := (defScope (topS 25))) (by decide +kernel)) (fun _ _ _ _ _ => (pg_name (i := 3) S__law_some.nd rfl (Or.inl rfl))) (fun _ _ _ _ _ => pts_one (pt_cmpR op_eq (pe_call G_take hr (by rfl) T.m__law_take T.F__law_take.kp T.B__law_take .nil pass0 (pa_cons (pv 0) (pa_cons pe_int pa_nil))) pe_int (nomark _))) (fun _ _ _ _ _ => (pv 3)))))))), ?_⟩
    try dsimp only [cxOf, Cx.nox, Cx.wish]
    tm_at "rd"
    intro d H1 d0 d1 f1 s1
    have hl1 := f1.at hls hl
    tm_at "rd"
    refine iteD (fun h => ?_) (fun h => ?_)
    · tm_at "rd"
      intro p np
      exact q p [] _ (by tm_at "fr") (by tm_at "stok") (f1.free s1 np) upd_same (List.nil_sublist _)
    tm_at "rd"
    refine iteD (fun h => ?_) (fun h => ?_)
    · tm_at "rd"
      intro p np
      exact q p xs _ (by tm_at "fr") (by tm_at "stok") (f1.free s1 np) upd_same (List.Sublist.refl _)
    tm_at "rd"
    intro J G wk kG D nD
    refine lc_pick wk nD s1 hlen (fun H' f => kG H' (.ofFr1 f hls)) ?_ ?_
    · intro i x H2 hx p
      have s2 := p.2.2.1
      tm_at "rd"
      intro d2 H3 _ _ f3 s3
      tm_at "rd"
      refine iteD (fun h => ?_) (fun h => ?_)
      · tm_at "rd"
        exact pk_put p hx f3 s3
      · exact pk_skip p hx f3 s3
    · intro H2 ys f2 s2 hD sub
      tm_at "rd"
      exact q D ys _ (f1.trans f2) s2 (f1.free s1 nD) hD sub

def spRising : Sp := fun vs H Q _ => ∃ (l : Addr) (xs : List Str), vs = [.ref l] ∧ H l = some (.lst (xs.map V.str)) ∧ xs.Nodup ∧ xs.length ≤ 1000 ∧
  ∀ (p : Addr) (ys : List Str) (H' : Hp), Same H H' → H p = none → H' p = some (.lst (ys.map V.str)) → Asc ys → (∀ z, z ∈ ys ↔ z ∈ xs) → Q (.ref p) H'
theorem ok__law_rising (T : Txt K mg a) {k : Nat} : FnOk P w K mg base CX0 (k + 1) a.f__law_rising a.d__law_rising ["_law_some_here"] spRising := by
  refine T.F__law_rising.ok S__law_rising (fun vs H Q E h => ?_) (fun cdv A outer s H vs Q E hr h => ?_)
  · obtain ⟨_, _, rfl, _⟩ := h
    rfl
  · obtain ⟨l, xs, rfl, hl, nd, hlen, q⟩ := h
    refine ⟨_, (pss_cons (ps_set (i := 1) S__law_rising.nd rfl (Or.inl rfl) (pe_lst pa_nil))
 (pss_cons (ps_for PassesOwn.never rfl (pi_row (pv 0)) (pg_name (i := 2) S__law_rising.nd rfl (Or.inr rfl))
 (pss_cons (ps_set (i := 3) S__law_rising.nd rfl (Or.inl rfl) (pe_callB call_len_seq (by rfl) T.b_len PySem.boot_len (pa_cons (pe_lc (own := [("_law_y", 4)]) rfl S__law_rising.nd (pi_row (pv 1)) (blkOk_by (own := [("_law_y", 4)]) (N := N__law_rising) (sc := (defScope (topS 26))) (by decide +kernel)) (fun _ _ _ _ _ => (pg_name (i := 4) S__law_rising.nd rfl (Or.inl rfl))) (fun _ _ _ _ _ => pts_one (pt_cmpR op_lt_str (pv 4) (pv 2) (nomark _))) (fun _ _ _ _ _ => (pv 4))) pa_nil)))
 (pss_one (ps_expr (pe_bm PySem.F.plainAttrs_list PySem.F.slot_list_insert PySem.F.type_list_insert mt_insert (pv 1) (pa_cons (pv 3) (pa_cons (pv 2) pa_nil)))))))
 (pss_one (ps_ret (pv 1))))), ?_⟩
    try dsimp only [cxOf, Cx.nox, Cx.wish]
    tm_at "rd"
    intro fo nfo
    tm_at "rd"
    intro J G wk kG
    have lfo : l ≠ fo := by tm_at "ne"
    refine for_it wk (fun i σ H' => Stp (∃ (y1 y2 y3 : Option V) (us : List Str), σ = [some (.ref l), some (.ref fo), y1, y2, y3] ∧ Same H H' ∧ H' fo = some (.lst (us.map V.str)) ∧ Asc us ∧ (∀ z, z ∈ us ↔ z ∈ xs.take i) ∧ us.length ≤ i)) ?_ ?_ ?_ ?_
    · exact ⟨none, none, none, [], rfl, by tm_at "fr", upd_same, List.Pairwise.nil, fun z => by simp, Nat.le_refl _⟩
    · rintro i σ H' _ ⟨y1, y2, y3, us, rfl, s2, h2, asc, um, ul⟩
      exact kG _ (.mk (o := .lst (xs.map V.str)) (by tm_at "hp") (s2 _ _ hl))
    · rintro i x σ H2 H3 hi ⟨y1, y2, y3, us, rfl, s2, h2, asc, um, ul⟩ ⟨rfl, e⟩
      have hi' : i < xs.length := by simpa using hi
      have ex := get_map_str hi' e
      subst ex
      have hnot : xs[i] ∉ us := fun hm => by
        have hm := (um _).mp hm
        obtain ⟨j, hj, ej⟩ := List.mem_iff_getElem.mp hm
        rw [List.length_take] at hj
        rw [List.getElem_take] at ej
        have := (List.getElem_inj (h₀ := by omega) (h₁ := hi') nd).mp ej
        omega
      tm_at "rd"
      intro J2 G2 wk2 kG2 D nD
      have rfo : fo ≠ D := by tm_at "ne"
      refine lc_strs wk2 nD (fun y => if decide (LtS y xs[i]) = true then some (.str y) else none) (fun H' s => kG2 H' (.ofSame s)) ?_ ?_
      · intro j y H4 hy p
        tm_at "rd"
        refine iteD (fun h => ?_) (fun h => ?_)
        · tm_at "rd"
          exact lcs_put p hy (by omega) (Same.refl _) (if_pos (decide_eq_true h))
        · exact lcs_skip p hy (by omega) (Same.refl _) (if_neg (by rw [decide_eq_false h]; decide))
      · intro H4 s4 hD
        rw [fm_if us (fun y => decide (LtS y xs[i]))] at hD
        have fl := List.length_filter_le (fun y => decide (LtS y xs[i])) us
        obtain ⟨i1, i2⟩ := asc_ins asc hnot
        have hfo4 := s4 _ _ h2
        tm_at "rd"
        refine ⟨_, _, _, us.take (us.filter fun y => decide (LtS y xs[i])).length ++ [xs[i]] ++ us.drop (us.filter fun y => decide (LtS y xs[i])).length, rfl, by tm_at "fr", ?_, i1, fun z => ?_, ?_⟩
        · rw [upd_same, List.length_map, Int.toNat_natCast, List.map_append, List.map_append, List.map_take, List.map_drop]; rfl
        · rw [i2, um, take_succ_mem hi']
        · simp only [List.length_append, List.length_take, List.length_drop, List.length_singleton]; omega
    · rintro σ H' ⟨y1, y2, y3, us, rfl, s2, h2, asc, um, ul⟩
      tm_at "rd"
      refine q fo us _ s2 nfo h2 asc fun z => ?_
      rw [um, List.length_map, List.take_length]

end
end K02



namespace K02
open PySem PySem.Spec PyProof.Rows L2 Sm
open Evl (pss_cut)
section
variable {P : Program} {w : World} {K : PySem.W.Frag} {mg : Str → Option Value} {base : Heap} {a : Ad}
def spDoubled : Sp := fun vs H Q _ => ∃ (st c l : Addr) (xs : List Str), vs = [.ref st, .ref l] ∧ StOk c H st ∧ H l = some (.lst (xs.map V.str)) ∧ l ≠ st ∧ (∀ x ∈ xs, PyData.strOk x = true) ∧ xs.length ≤ 40 ∧
  ∀ (p : Addr) (ys : List Str) (H' : Hp), Fr1 st H H' → StOk c H' st → H p = none → H' p = some (.lst (ys.map V.str)) → (∀ z, z ∈ ys ↔ z ∈ xs) → ys.length ≤ xs.length + 2 → Q (.ref p) H'
theorem ok__law_doubled (T : Txt K mg a) {k : Nat} : FnOk P w K mg base CX0 (k + 4) a.f__law_doubled a.d__law_doubled ["_law_state", "_law_some_here"] spDoubled := by
  have G_take := ok__law_take (P := P) (w := w) (base := base) T (k := k+1)
  have G_one := ok__law_one (P := P) (w := w) (base := base) T (k := k)
  have G_mix := ok__law_mix (P := P) (w := w) (base := base) T (k := k)
  refine T.F__law_doubled.ok S__law_doubled (fun vs H Q E h => ?_) (fun cdv A outer s H vs Q E hr h => ?_)
  · obtain ⟨_, _, _, _, rfl, _⟩ := h
    rfl
  · obtain ⟨st, c, l, xs, rfl, hst, hl, hls, hok, hlen, q⟩ := h
    refine ⟨_, (pss_cons (ps_set (i := 2) S__law_doubled.nd rfl (Or.inl rfl) (pe_callTy call_list_of (by rfl) T.b_list (by decide +kernel) (pa_cons (pv 1) pa_nil)))
 (pss_cons (ps_for PassesOwn.never rfl (pi_range1 rfl T.b_range (pa_cons (pe_cut (pe_ifExp (pt_cmpR (op_neNil hr.units) (pv 1) (pe_lst pa_nil) (nomark _)) (pe_call G_take hr (by rfl) T.m__law_take T.F__law_take.kp T.B__law_take .nil pass0 (pa_cons (pv 0) (pa_cons pe_int pa_nil))) pe_int)) pa_nil)) (pg_name (i := 3) S__law_doubled.nd rfl (Or.inl rfl))
 (pss_one (ps_expr (pe_bm PySem.F.plainAttrs_list PySem.F.slot_list_append PySem.F.type_list_append mt_append (pv 2) (pa_cons (pe_call G_one hr (by rfl) T.m__law_one T.F__law_one.kp T.B__law_one .nil pass0 (pa_cons (pv 0) (pa_cons (pv 1) pa_nil))) pa_nil)))))
 (pss_one (ps_ret (pe_call G_mix hr (by rfl) T.m__law_mix T.F__law_mix.kp T.B__law_mix .nil pass0 (pa_cons (pv 0) (pa_cons (pv 2) pa_nil))))))), ?_⟩
    try dsimp only [cxOf, Cx.nox, Cx.wish]
    tm_at "rd"
    intro fo nfo
    have lfo : l ≠ fo := by tm_at "ne"
    have hs3 := hst.ne nfo
    have hs4 := hst.neC nfo
    have hok' := hok
    tm_at "rd"
    refine Stp.mk ⟨fun v H' => ∃ n : Int, v = .int n ∧ 0 ≤ n ∧ n < 3 ∧ (xs = [] → n = 0) ∧ StOk c H' st ∧ Fr1 st H H' ∧ H' fo = some (.lst (xs.map V.str)), fun Q1 hq => ?_, ?_⟩
    · tm_at "rd"
      intro e ne
      tm_at "rd"
      refine iteB (fun h => ?_) (fun h => ?_)
      · have hx : xs ≠ [] := of_decide_eq_false (by simpa using h)
        tm_at "rd"
        intro d H1 d0 d1 f1 s1
        exact hq _ _ ⟨d, rfl, d0, d1, fun e => absurd e hx, s1, by tm_at "fr", by tm_at "hp"⟩
      · tm_at "rd"
        exact hq _ _ ⟨0, rfl, by omega, by omega, fun _ => rfl, by tm_at "stok", by tm_at "fr", by tm_at "hp"⟩
    · rintro v H1 ⟨n, rfl, n0, n1, nx, s1, f1, hfo⟩
      tm_at "rd"
      refine for_it walk_range (fun i σ H' => Stp (∃ (y1 : Option V) (us : List Str), σ = [some (.ref st), some (.ref l), some (.ref fo), y1] ∧ StOk c H' st ∧ Fr1 st H H' ∧ H' fo = some (.lst (us.map V.str)) ∧ (∀ z, z ∈ us ↔ z ∈ xs) ∧ us.length = xs.length + i)) ?_ ?_ ?_ ?_
      · exact ⟨none, xs, rfl, s1, f1, hfo, fun _ => Iff.rfl, rfl⟩
      · intro i σ H' _ _; trivial
      · rintro i x σ H2 H3 hi ⟨y1, us, rfl, s2, f2, h2, um, ul⟩ ⟨rfl, rfl⟩
        have hx : xs ≠ [] := fun e => by rw [nx e] at hi; cases hi
        have hx2 : xs.map V.str ≠ [] := fun e => hx (List.map_eq_nil_iff.mp e)
        have hi' : i < 3 := by omega
        tm_at "rd"
        intro v H4 hv f4 s4
        obtain ⟨z, hz, rfl⟩ := List.mem_map.mp hv
        tm_at "rd"
        refine ⟨_, us ++ [z], rfl, by tm_at "stok", by tm_at "fr", by rw [upd_same, List.map_append]; rfl, fun y => ?_, by rw [List.length_append, ul]; rfl⟩
        rw [List.mem_append, um, List.mem_singleton]
        exact ⟨fun h => h.elim id fun e => e ▸ hz, Or.inl⟩
      · rintro σ H2 ⟨y1, us, rfl, s2, f2, h2, um, ul⟩
        have uok : ∀ x ∈ us, PyData.strOk x = true := fun x hx => hok x ((um x).mp hx)
        tm_at "rd"
        intro p ys H3 f3 s3 np hp pm
        have np0 : H p = none := by
          cases e : H p with
          | none => rfl
          | some o => rw [f2 p o (s2.ne np) e] at np; cases np
        have pl := pm.length_eq
        refine q p ys _ (by tm_at "fr") s3 np0 hp (fun z => by rw [pm.mem_iff, um]) (by omega)

def spPassed (K : PySem.W.Frag) (C : Addr) : Sp := fun vs H Q _ => ∃ (st c l : Addr) (xs : List Str), vs = [.ref st, .ref l] ∧ StOk c H st ∧ H l = some (.lst (xs.map V.str)) ∧ l ≠ st ∧ (∀ x ∈ xs, isW x = true) ∧ xs.length ≤ 20 ∧
  ∀ (v : V) (us : List Str) (H' : Hp), Fr1 st H H' → StOk c H' st → FSet K C H' v us → (∀ z, z ∈ us ↔ z ∈ xs) → us.length ≤ xs.length + 2 → Q v H'
theorem ok__law_passed (T : Txt K mg a) {k : Nat} : FnOk P w K mg base CX0 (k + 5) a.f__law_passed a.d__law_passed ["_law_state", "_law_some_here"] (spPassed K a.C_Fields) := by
  have G_take := ok__law_take (P := P) (w := w) (base := base) T (k := k+2)
  have G_doubled := ok__law_doubled (P := P) (w := w) (base := base) T (k := k)
  have G_Fields := ok_Fields___init__ (P := P) (w := w) (base := base) T (k := k)
  refine T.F__law_passed.ok S__law_passed (fun vs H Q E h => ?_) (fun cdv A outer s H vs Q E hr h => ?_)
  · obtain ⟨_, _, _, _, rfl, _⟩ := h
    rfl
  · obtain ⟨st, c, l, xs, rfl, hst, hl, hls, hw, hlen, q⟩ := h
    have I_F := T.I_Fields
    have C_F := T.C_Fields
    have n_F := T.n_Fields_cells
    refine ⟨_, (pss_cons (ps_set (i := 2) S__law_passed.nd rfl (Or.inl rfl) (pe_call G_take hr (by rfl) T.m__law_take T.F__law_take.kp T.B__law_take .nil pass0 (pa_cons (pv 0) (pa_cons pe_int pa_nil))))
 (pss_cons (ps_set (i := 3) S__law_passed.nd rfl (Or.inl rfl) (pe_call G_doubled hr (by rfl) T.m__law_doubled T.F__law_doubled.kp T.B__law_doubled .nil pass0 (pa_cons (pv 0) (pa_cons (pv 1) pa_nil))))
 (pss_one (ps_ret (pe_ifExp (pt_cmpR op_eq (pv 2) pe_int (nomark _)) (pe_make T.K_Fields G_Fields hr (by rfl) T.g_Fields T.B_Fields___init__ .nil pass0 (pa_cons (pv 3) pa_nil)) (pe_ifExp (pt_cmpR op_eq (pv 2) pe_int (nomark _)) (pe_callTy call_tupleL (by rfl) T.b_tuple (by decide +kernel) (pa_cons (pv 3) pa_nil)) (pv 3))))))), ?_⟩
    try dsimp only [cxOf, Cx.nox, Cx.wish]
    have hok : ∀ x ∈ xs, PyData.strOk x = true := fun x hx => isW_ok (hw x hx)
    tm_at "rd"
    intro d H1 d0 d1 f1 s1
    tm_at "rd"
    intro p us H2 f2 s2 np hp um ul
    have uw : ∀ x ∈ us, isW x = true := fun x hx => hw x ((um x).mp hx)
    tm_at "rd"
    refine iteD (fun h => ?_) (fun h => ?_)
    · tm_at "rd"
      refine mkF (.inr ⟨p, rfl, ⟨_, hp, .inl rfl⟩, uw, by omega⟩) fun f zs H3 s3 nf hf hz => ?_
      have zl := asc_len (show Asc zs from by obtain ⟨_, _, _, _, h, _⟩ := hf; exact h) hz
      exact q _ zs _ (by tm_at "fr") (by tm_at "stok") (.inl ⟨f, rfl, hf⟩) (fun z => by rw [hz, um]) (by omega)
    tm_at "rd"
    refine iteD (fun h => ?_) (fun h => ?_)
    · tm_at "rd"
      intro t nt
      exact q _ us _ (by tm_at "fr") (by tm_at "stok") (.inr ⟨t, rfl, ⟨_, upd_same, .inr rfl⟩, uw, by omega⟩) um ul
    tm_at "rd"
    exact q _ us _ (by tm_at "fr") (by tm_at "stok") (.inr ⟨p, rfl, ⟨_, hp, .inl rfl⟩, uw, by omega⟩) um ul

end
end K02



namespace K02
open PySem PySem.Spec PyProof.Rows L2 Sm
open Evl (pss_cut)
section
variable {P : Program} {w : World} {K : PySem.W.Frag} {mg : Str → Option Value} {base : Heap} {a : Ad}
def dueC (way : Int) : Prop → Prop → Prop := if way = 0 then cOr else if way = 1 then cAnd else if way = 2 then cSub else cXor
theorem dueC0 : dueC 0 = cOr := rfl
theorem dueC1 : dueC 1 = cAnd := rfl
theorem dueC2 : dueC 2 = cSub := rfl
theorem dueC3 : dueC 3 = cXor := rfl
theorem joinAny {C : Addr} {H : Hp} {v u : V} {ws us : List Str} {nm : String} {c : Prop → Prop → Prop} {Q : VK} {E : XK} (I : OwnI K C)
    (xl : PySem.W.findIn K (.type "list") (PySem.dunder nm) = some none) (yl : PySem.W.findIn K (.type "list") (dunderR nm) = some none) (xt : PySem.W.findIn K (.type "tuple") (PySem.dunder nm) = some none) (yt : PySem.W.findIn K (.type "tuple") (dunderR nm) = some none)
    (hh : (∃ f, v = .ref f ∧ FO C H f ws ∧ FSet K C H u us) ∨ (∃ g, u = .ref g ∧ FO C H g us ∧ FSet K C H v ws)) (len : ws.length + us.length ≤ 60)
    (q : ∀ (g : Addr) (zs : List Str) (H' : Hp), Same H H' → FO C H' g zs → (∀ x, x ∈ zs ↔ c (x ∈ ws) (x ∈ us)) → Q (.ref g) H') :
    rOwnL K C nm (spOp K C c) E v u H Q ∨ rOwnR K C nm (spOp K C fun p q => c q p) E v u H Q := by
  have left : ∀ f, v = .ref f → FO C H f ws → FSet K C H u us → rOwnL K C nm (spOp K C c) E v u H Q := by
    rintro f rfl hf hu
    obtain ⟨dx, t, h1, h2, h3⟩ := id hf
    refine ⟨f, dx, _, rfl, h1, ?_, f, ws, u, us, rfl, hf, hu, len, q⟩
    rcases hu with ⟨g, rfl, dy, t2, g1, _⟩ | ⟨l, rfl, ⟨o, ho, e | e⟩, _⟩
    · exact .inr ⟨g, dy, _, rfl, g1⟩
    · subst e; exact .inl ⟨_, _, _, .lst (SqL.of ho), xl, yl, I.sl⟩
    · subst e; exact .inl ⟨_, _, _, .tup (SqT.of ho), xt, yt, I.st⟩
  rcases hh with ⟨f, e, hf, hu⟩ | ⟨g, rfl, hg, hv⟩
  · exact .inl (left f e hf hu)
  · rcases id hv with ⟨f, rfl, hf⟩ | ⟨l, rfl, ⟨o, ho, e | e⟩, _⟩
    · exact .inl (left f rfl hf (.inl ⟨g, rfl, hg⟩))
    · subst e
      obtain ⟨dx, t, h1, h2, h3⟩ := id hg
      exact .inr ⟨g, dx, _, _, rfl, h1, .lst (SqL.of ho), xl, yl, g, us, _, ws, rfl, hg, hv, by omega, q⟩
    · subst e
      obtain ⟨dx, t, h1, h2, h3⟩ := id hg
      exact .inr ⟨g, dx, _, _, rfl, h1, .tup (SqT.of ho), xt, yt, g, us, _, ws, rfl, hg, hv, by omega, q⟩
theorem op_or2 {X : Cx} {op : Value → Value → Sem Value} {r1 r2 : R2} (h1 : OpR X op r1) (h2 : OpR X op r2) : OpR X op (fun x y H Q => Stp (r1 x y H Q ∨ r2 x y H Q)) := fun pins s σ H x y v u Q I rx ry h =>
  h.out.elim (h1 pins s σ H x y v u Q I rx ry) (h2 pins s σ H x y v u Q I rx ry)
def spJoined (K : PySem.W.Frag) (C : Addr) : Sp := fun vs H Q _ => ∃ (way : Int) (v u : V) (ws us : List Str), vs = [.int way, v, u] ∧ 0 ≤ way ∧ way < 4 ∧ ((∃ f, v = .ref f ∧ FO C H f ws ∧ FSet K C H u us) ∨ (∃ g, u = .ref g ∧ FO C H g us ∧ FSet K C H v ws)) ∧ ws.length + us.length ≤ 60 ∧
  ∀ (g : Addr) (zs : List Str) (H' : Hp), Same H H' → FO C H' g zs → (∀ x, x ∈ zs ↔ dueC way (x ∈ ws) (x ∈ us)) → Q (.ref g) H'

theorem ok__law_joined (T : Txt K mg a) {k : Nat} : FnOk P w K mg base CX0 (k + 7) a.f__law_joined a.d__law_joined ["_law_way", "_law_x", "_law_y"] (spJoined K a.C_Fields) := by
  have G_or := ok_Fields___or__ (P := P) (w := w) (base := base) T (k := k)
  have G_ror := ok_Fields___ror__ (P := P) (w := w) (base := base) T (k := k)
  have G_and := ok_Fields___and__ (P := P) (w := w) (base := base) T (k := k)
  have G_rand := ok_Fields___rand__ (P := P) (w := w) (base := base) T (k := k)
  have G_sub := ok_Fields___sub__ (P := P) (w := w) (base := base) T (k := k)
  have G_rsub := ok_Fields___rsub__ (P := P) (w := w) (base := base) T (k := k)
  have G_xor := ok_Fields___xor__ (P := P) (w := w) (base := base) T (k := k)
  have G_rxor := ok_Fields___rxor__ (P := P) (w := w) (base := base) T (k := k)
  refine T.F__law_joined.ok S__law_joined (fun vs H Q E h => ?_) (fun cdv A outer s H vs Q E hr h => ?_)
  · obtain ⟨_, _, _, _, _, rfl, _⟩ := h
    rfl
  · obtain ⟨way, v, u, ws, us, rfl, w0, w1, hh, len, q⟩ := h
    have I_F := T.I_Fields
    have C_F := T.C_Fields
    have n_F := T.n_Fields_cells
    refine ⟨_, (pss_cons (ps_if (pt_cmpR op_lt (pv 0) pe_int (nomark _))
 (pss_one (ps_ret (pe_ifExp (pt_cmpR op_eq (pv 0) pe_int (nomark _)) (pe_op (op_or2 (op_ownL G_or hr T.B_Fields___or__ pass0 T.O_Fields T.D_Fields___or__ T.D_Fields___ror__) (op_ownR G_ror hr T.B_Fields___ror__ pass0 T.O_Fields T.D_Fields___ror__ T.D_Fields___or__)) (pv 1) (pv 2)) (pe_op (op_or2 (op_ownL G_and hr T.B_Fields___and__ pass0 T.O_Fields T.D_Fields___and__ T.D_Fields___rand__) (op_ownR G_rand hr T.B_Fields___rand__ pass0 T.O_Fields T.D_Fields___rand__ T.D_Fields___and__)) (pv 1) (pv 2))))) pss_nil)
 (pss_one (ps_ret (pe_ifExp (pt_cmpR op_eq (pv 0) pe_int (nomark _)) (pe_op (op_or2 (op_ownL G_sub hr T.B_Fields___sub__ pass0 T.O_Fields T.D_Fields___sub__ T.D_Fields___rsub__) (op_ownR G_rsub hr T.B_Fields___rsub__ pass0 T.O_Fields T.D_Fields___rsub__ T.D_Fields___sub__)) (pv 1) (pv 2)) (pe_op (op_or2 (op_ownL G_xor hr T.B_Fields___xor__ pass0 T.O_Fields T.D_Fields___xor__ T.D_Fields___rxor__) (op_ownR G_rxor hr T.B_Fields___rxor__ pass0 T.O_Fields T.D_Fields___rxor__ T.D_Fields___xor__)) (pv 1) (pv 2)))))), ?_⟩
    try dsimp only [cxOf, Cx.nox, Cx.wish]
    tm_at "rd"
    refine iteD (fun h => ?_) (fun h => ?_)
    · tm_at "rd"
      refine iteD (fun h => ?_) (fun h => ?_)
      · tm_at "rd"
        have e : way = 0 := by simp only [V.int.injEq] at *; omega
        subst e
        exact ⟨joinAny T.I_Fields T.x_list_or T.y_list_or T.x_tuple_or T.y_tuple_or hh len q⟩
      · tm_at "rd"
        have e : way = 1 := by simp only [V.int.injEq] at *; omega
        subst e
        exact ⟨joinAny T.I_Fields T.x_list_and T.y_list_and T.x_tuple_and T.y_tuple_and hh len q⟩
    · tm_at "rd"
      refine iteD (fun h => ?_) (fun h => ?_)
      · tm_at "rd"
        have e : way = 2 := by simp only [V.int.injEq] at *; omega
        subst e
        exact ⟨joinAny T.I_Fields T.x_list_sub T.y_list_sub T.x_tuple_sub T.y_tuple_sub hh len q⟩
      · tm_at "rd"
        have e : way = 3 := by simp only [V.int.injEq] at *; omega
        subst e
        exact ⟨joinAny T.I_Fields T.x_list_xor T.y_list_xor T.x_tuple_xor T.y_tuple_xor hh len q⟩

def spDue : Sp := fun vs H Q _ => ∃ (way : Int) (l m : Addr) (ws us : List Str), vs = [.int way, .ref l, .ref m] ∧ 0 ≤ way ∧ way < 4 ∧ H l = some (.lst (ws.map V.str)) ∧ H m = some (.lst (us.map V.str)) ∧ Asc ws ∧ Asc us ∧ ws.length + us.length ≤ 60 ∧
  ∀ (p : Addr) (ys : List Str) (H' : Hp), Same H H' → H p = none → H' p = some (.lst (ys.map V.str)) → Asc ys → (∀ x, x ∈ ys ↔ dueC way (x ∈ ws) (x ∈ us)) → Q (.ref p) H'
theorem ok__law_due (T : Txt K mg a) {k : Nat} : FnOk P w K mg base CX0 (k + 2) a.f__law_due a.d__law_due ["_law_way", "_law_ones", "_law_others"] spDue := by
  have G_rising := ok__law_rising (P := P) (w := w) (base := base) T (k := k)
  refine T.F__law_due.ok S__law_due (fun vs H Q E h => ?_) (fun cdv A outer s H vs Q E hr h => ?_)
  · obtain ⟨_, _, _, _, _, rfl, _⟩ := h
    rfl
  · obtain ⟨way, l, m, ws, us, rfl, w0, w1, hl, hm, ha, hb, len, q⟩ := h
    refine ⟨_, (pss_cons (ps_if (pt_cmpR op_eq (pv 0) pe_int (nomark _))
 (pss_one (ps_ret (pe_call G_rising hr (by rfl) T.m__law_rising T.F__law_rising.kp T.B__law_rising .nil pass0 (pa_cons (pe_op op_cat (pe_lc (own := [("_law_x", 3)]) rfl S__law_due.nd (pi_row (pv 1)) (blkOk_by (own := [("_law_x", 3)]) (N := N__law_due) (sc := (defScope (topS 29))) (by decide +kernel)) (fun _ _ _ _ _ => (pg_name (i := 3) S__law_due.nd rfl (Or.inl rfl))) (fun _ _ _ _ _ => pts_one (pt_cmpR (op_notInSsK (K := K) rfl) (pv 3) (pv 2) (by rfl))) (fun _ _ _ _ _ => (pv 3))) (pv 2)) pa_nil)))) pss_nil)
 (pss_cons (ps_if (pt_cmpR op_eq (pv 0) pe_int (nomark _))
 (pss_one (ps_ret (pe_lc (own := [("_law_x", 3)]) rfl S__law_due.nd (pi_row (pv 1)) (blkOk_by (own := [("_law_x", 3)]) (N := N__law_due) (sc := (defScope (topS 29))) (by decide +kernel)) (fun _ _ _ _ _ => (pg_name (i := 3) S__law_due.nd rfl (Or.inl rfl))) (fun _ _ _ _ _ => pts_one (pt_cmpR (op_inSsK (K := K) rfl) (pv 3) (pv 2) (by rfl))) (fun _ _ _ _ _ => (pv 3))))) pss_nil)
 (pss_cons (ps_if (pt_cmpR op_eq (pv 0) pe_int (nomark _))
 (pss_one (ps_ret (pe_lc (own := [("_law_x", 3)]) rfl S__law_due.nd (pi_row (pv 1)) (blkOk_by (own := [("_law_x", 3)]) (N := N__law_due) (sc := (defScope (topS 29))) (by decide +kernel)) (fun _ _ _ _ _ => (pg_name (i := 3) S__law_due.nd rfl (Or.inl rfl))) (fun _ _ _ _ _ => pts_one (pt_cmpR (op_notInSsK (K := K) rfl) (pv 3) (pv 2) (by rfl))) (fun _ _ _ _ _ => (pv 3))))) pss_nil)
 (pss_one (ps_ret (pe_call G_rising hr (by rfl) T.m__law_rising T.F__law_rising.kp T.B__law_rising .nil pass0 (pa_cons (pe_op op_cat (pe_lc (own := [("_law_x", 3)]) rfl S__law_due.nd (pi_row (pv 1)) (blkOk_by (own := [("_law_x", 3)]) (N := N__law_due) (sc := (defScope (topS 29))) (by decide +kernel)) (fun _ _ _ _ _ => (pg_name (i := 3) S__law_due.nd rfl (Or.inl rfl))) (fun _ _ _ _ _ => pts_one (pt_cmpR (op_notInSsK (K := K) rfl) (pv 3) (pv 2) (by rfl))) (fun _ _ _ _ _ => (pv 3))) (pe_lc (own := [("_law_x", 3)]) rfl S__law_due.nd (pi_row (pv 2)) (blkOk_by (own := [("_law_x", 3)]) (N := N__law_due) (sc := (defScope (topS 29))) (by decide +kernel)) (fun _ _ _ _ _ => (pg_name (i := 3) S__law_due.nd rfl (Or.inl rfl))) (fun _ _ _ _ _ => pts_one (pt_cmpR (op_notInSsK (K := K) rfl) (pv 3) (pv 1) (by rfl))) (fun _ _ _ _ _ => (pv 3)))) pa_nil))))))), ?_⟩
    try dsimp only [cxOf, Cx.nox, Cx.wish]
    have rl : Row K H l (ws.map V.str) := .inl (SqL.of hl)
    have rm : Row K H m (us.map V.str) := .inl (SqL.of hm)
    tm_at "rd"
    refine iteD (fun h => ?_) (fun h => ?_)
    · have e : way = 0 := by simp only [V.int.injEq] at *; omega
      subst e
      tm_at "rd"
      intro J1 G1 wk1 kG1 D1 nD1
      refine lc_strs wk1 nD1 (fun x => if (!decide (x ∈ us)) = true then some (.str x) else none) (fun H' s => kG1 H' (.ofSame s)) ?_ ?_
      · intro i x H2 hx p
        have s2 := p.2.1
        tm_at "rd"
        refine iteB (fun h => ?_) (fun h => ?_)
        · tm_at "rd"
          exact lcs_put p hx (by omega) (Same.refl _) (if_pos h)
        · exact lcs_skip p hx (by omega) (Same.refl _) (if_neg (by rw [show (!decide (x ∈ us)) = false from h]; decide))
      · intro K1 t1 hD1
        rw [fm_if ws (fun x => (!decide (x ∈ us)))] at hD1
        have fl1 := List.length_filter_le (fun x => (!decide (x ∈ us))) ws
        have hm2 := t1 _ _ hm
        tm_at "rd"
        intro p np
        rw [← List.map_append]
        have len2 : ((ws.filter fun x => (!decide (x ∈ us))) ++ us).length ≤ 60 := by rw [List.length_append]; omega
        tm_at "rd"
        refine ⟨?_, by omega, fun p2 ys H3 s3 np2 hp2 asc hz => ?_⟩
        · refine List.nodup_append.mpr ⟨(ha.nodup.filter _), hb.nodup, fun x hx y hy e => ?_⟩
          subst e
          have := (List.mem_filter.mp hx).2
          simp [hy] at this
        · refine q p2 ys _ (by tm_at "fr") (t1.free (same_new (Same.refl _) np |>.free np2)) hp2 asc fun x => ?_
          rw [hz, List.mem_append, List.mem_filter, dueC0]
          by_cases h1 : x ∈ ws <;> by_cases h2 : x ∈ us <;> simp [cOr, h1, h2]
    tm_at "rd"
    refine iteD (fun h => ?_) (fun h => ?_)
    · have e : way = 1 := by simp only [V.int.injEq] at *; omega
      subst e
      tm_at "rd"
      intro J1 G1 wk1 kG1 D1 nD1
      refine lc_strs wk1 nD1 (fun x => if decide (x ∈ us) = true then some (.str x) else none) (fun H' s => kG1 H' (.ofSame s)) ?_ ?_
      · intro i x H2 hx p
        have s2 := p.2.1
        tm_at "rd"
        refine iteB (fun h => ?_) (fun h => ?_)
        · tm_at "rd"
          exact lcs_put p hx (by omega) (Same.refl _) (if_pos h)
        · exact lcs_skip p hx (by omega) (Same.refl _) (if_neg (by rw [show decide (x ∈ us) = false from h]; decide))
      · intro K1 t1 hD1
        rw [fm_if ws (fun x => decide (x ∈ us))] at hD1
        have fl1 := List.length_filter_le (fun x => decide (x ∈ us)) ws
        tm_at "rd"
        refine q D1 _ _ t1 nD1 hD1 (List.Pairwise.filter _ ha) fun x => ?_
        rw [List.mem_filter, dueC1]
        simp [cAnd]
    tm_at "rd"
    refine iteD (fun h => ?_) (fun h => ?_)
    · have e : way = 2 := by simp only [V.int.injEq] at *; omega
      subst e
      tm_at "rd"
      intro J1 G1 wk1 kG1 D1 nD1
      refine lc_strs wk1 nD1 (fun x => if (!decide (x ∈ us)) = true then some (.str x) else none) (fun H' s => kG1 H' (.ofSame s)) ?_ ?_
      · intro i x H2 hx p
        have s2 := p.2.1
        tm_at "rd"
        refine iteB (fun h => ?_) (fun h => ?_)
        · tm_at "rd"
          exact lcs_put p hx (by omega) (Same.refl _) (if_pos h)
        · exact lcs_skip p hx (by omega) (Same.refl _) (if_neg (by rw [show (!decide (x ∈ us)) = false from h]; decide))
      · intro K1 t1 hD1
        rw [fm_if ws (fun x => (!decide (x ∈ us)))] at hD1
        have fl1 := List.length_filter_le (fun x => (!decide (x ∈ us))) ws
        tm_at "rd"
        refine q D1 _ _ t1 nD1 hD1 (List.Pairwise.filter _ ha) fun x => ?_
        rw [List.mem_filter, dueC2]
        simp [cSub]
    have e : way = 3 := by simp only [V.int.injEq] at *; omega
    subst e
    tm_at "rd"
    intro J1 G1 wk1 kG1 D1 nD1
    refine lc_strs wk1 nD1 (fun x => if (!decide (x ∈ us)) = true then some (.str x) else none) (fun H' s => kG1 H' (.ofSame s)) ?_ ?_
    · intro i x H2 hx p
      have s2 := p.2.1
      tm_at "rd"
      refine iteB (fun h => ?_) (fun h => ?_)
      · tm_at "rd"
        exact lcs_put p hx (by omega) (Same.refl _) (if_pos h)
      · exact lcs_skip p hx (by omega) (Same.refl _) (if_neg (by rw [show (!decide (x ∈ us)) = false from h]; decide))
    · intro K1 t1 hD1
      rw [fm_if ws (fun x => (!decide (x ∈ us)))] at hD1
      have fl1 := List.length_filter_le (fun x => (!decide (x ∈ us))) ws
      have hm2 := t1 _ _ hm
      have rl2 : Row K K1 l (ws.map V.str) := rl.same t1
      have rm2 : Row K K1 m (us.map V.str) := rm.same t1
      tm_at "rd"
      intro J2 G2 wk2 kG2 D2 nD2
      refine lc_strs wk2 nD2 (fun x => if (!decide (x ∈ ws)) = true then some (.str x) else none) (fun H' s => kG2 H' (.ofSame s)) ?_ ?_
      · intro i x H2 hx p
        have s2 := p.2.1
        tm_at "rd"
        refine iteB (fun h => ?_) (fun h => ?_)
        · tm_at "rd"
          exact lcs_put p hx (by omega) (Same.refl _) (if_pos h)
        · exact lcs_skip p hx (by omega) (Same.refl _) (if_neg (by rw [show (!decide (x ∈ ws)) = false from h]; decide))
      · intro K2 t2 hD2
        rw [fm_if us (fun x => (!decide (x ∈ ws)))] at hD2
        have fl2 := List.length_filter_le (fun x => (!decide (x ∈ ws))) us
        have hD1' := t2 _ _ hD1
        tm_at "rd"
        intro p np
        rw [← List.map_append]
        have len2 : ((ws.filter fun x => (!decide (x ∈ us))) ++ (us.filter fun x => (!decide (x ∈ ws)))).length ≤ 60 := by rw [List.length_append]; omega
        tm_at "rd"
        refine ⟨?_, by omega, fun p2 ys H3 s3 np2 hp2 asc hz => ?_⟩
        · refine List.nodup_append.mpr ⟨(ha.nodup.filter _), hb.nodup.filter _, fun x hx y hy e => ?_⟩
          subst e
          have h1 := (List.mem_filter.mp hx).2
          have h2 := (List.mem_filter.mp hy).1
          simp [h2] at h1
        · refine q p2 ys _ (by tm_at "fr") (t1.free (t2.free (same_new (Same.refl _) np |>.free np2))) hp2 asc fun x => ?_
          rw [hz, List.mem_append, List.mem_filter, List.mem_filter, dueC3]
          by_cases h1 : x ∈ ws <;> by_cases h2 : x ∈ us <;> simp [cXor, h1, h2]

end
end K02



namespace K02
open PySem PySem.Spec PyProof.Rows L2 Sm
open Evl (pss_cut)
section
variable {P : Program} {w : World} {K : PySem.W.Frag} {mg : Str → Option Value} {base : Heap} {a : Ad}
inductive SD (H : Hp) : Nat → V → V → Prop where
  | str {d : Nat} (z : Str) : SD H d (.str z) (.str z)
  | int {d : Nat} (i : Int) : SD H d (.int i) (.int i)
  | bl {d : Nat} (b : Bool) : SD H d (.bl b) (.bl b)
  | lst {d : Nat} {a b : Addr} {xs ys : List V} (ha : H a = some (.lst xs)) (hb : H b = some (.lst ys)) (hl : xs.length = ys.length) (hm : xs.length ≤ 1000) (he : ∀ (i : Nat) (x y : V), xs[i]? = some x → ys[i]? = some y → SD H d x y) : SD H (d + 1) (.ref a) (.ref b)
theorem SD.same {H H' : Hp} (s : Same H H') {d : Nat} {v u : V} (h : SD H d v u) : SD H' d v u := by
  induction h with
  | str z => exact .str z
  | int z => exact .int z
  | bl z => exact .bl z
  | lst ha hb hl hm he ih => exact .lst (s _ _ ha) (s _ _ hb) hl hm ih
theorem SD.strs {H : Hp} {d : Nat} {a b : Addr} {ws : List Str} (ha : H a = some (.lst (ws.map V.str))) (hb : H b = some (.lst (ws.map V.str))) (hl : ws.length ≤ 1000) : SD H (d + 1) (.ref a) (.ref b) := by
  refine .lst ha hb rfl (by rw [List.length_map]; exact hl) fun i x y hx hy => ?_
  rw [hx] at hy
  cases hy
  rw [List.getElem?_map] at hx
  cases e : ws[i]? with
  | none => rw [e] at hx; cases hx
  | some z => rw [e] at hx; cases hx; exact .str z
theorem pg_tupK {X : Cx} {K : PySem.W.Frag} {es : List Expr} {k : Nat} {t : TGs} {n : Nat} {pos : Pos} (hK : X.K = K) (hc : X.calm = true) (h : PGs X es t)
    (hn : (assignEach es X.env).length = n := by rfl) (hst : (assignEach es X.env).findIdx? (·.1) = none := by rfl) : PG X (.Tuple es k pos) (gTup K n t) := hK ▸ pg_tup hc h hn hst
def spSame (d : Nat) : Sp := match d with
  | 0 => fun _ _ _ _ => False
  | d + 1 => fun vs H Q _ => ∃ v u, vs = [v, u] ∧ SD H d v u ∧ ∀ H', Same H H' → Q (.bl true) H'

theorem ok_same_step (T : Txt K mg a) {d : Nat} (G_same : ∀ {k : Nat}, FnOk P w K mg base CX0 (k + d + 1) a.f__law_same a.d__law_same ["_law_found", "_law_due_here"] (spSame d)) {k : Nat} : FnOk P w K mg base CX0 (k + (d + 1) + 1) a.f__law_same a.d__law_same ["_law_found", "_law_due_here"] (spSame (d + 1)) := by
  refine T.F__law_same.ok S__law_same (fun vs H Q E h => ?_) (fun cdv A outer s H vs Q E hr h => ?_)
  · obtain ⟨_, _, rfl, _⟩ := h
    rfl
  · obtain ⟨v, u, rfl, sd, q⟩ := h
    refine ⟨_, (pss_cons (ps_if (pt_val (pe_callB call_isiT (by rfl) T.b_isinstance (by decide +kernel) (pa_cons (pv 1) (pa_cons (pe_tup (pa_cons (pe_bltn (v := .ty "list") (by rfl) T.b_list (by decide +kernel) rfl) (pa_cons (pe_bltn (v := .ty "tuple") (by rfl) T.b_tuple (by decide +kernel) rfl) pa_nil))) pa_nil))))
 (pss_cons (ps_if (pw_or (pt_cmpR op_ne (pe_callB call_isi (by rfl) T.b_isinstance (by decide +kernel) (pa_cons (pv 0) (pa_cons (pe_bltn (v := .ty "list") (by rfl) T.b_list (by decide +kernel) rfl) pa_nil))) (pe_callB call_isi (by rfl) T.b_isinstance (by decide +kernel) (pa_cons (pv 1) (pa_cons (pe_bltn (v := .ty "list") (by rfl) T.b_list (by decide +kernel) rfl) pa_nil))) (nomark _)) (pw_or1 (pt_cmpR op_ne (pe_callB call_isi (by rfl) T.b_isinstance (by decide +kernel) (pa_cons (pv 0) (pa_cons (pe_bltn (v := .ty "tuple") (by rfl) T.b_tuple (by decide +kernel) rfl) pa_nil))) (pe_callB call_isi (by rfl) T.b_isinstance (by decide +kernel) (pa_cons (pv 1) (pa_cons (pe_bltn (v := .ty "tuple") (by rfl) T.b_tuple (by decide +kernel) rfl) pa_nil))) (nomark _)))).pt
 (pss_one (ps_ret pe_bl)) pss_nil)
 (pss_one (ps_ret (pe_and (pe_cmpR op_eq (pe_callB call_len_seq (by rfl) T.b_len PySem.boot_len (pa_cons (pv 0) pa_nil)) (pe_callB call_len_seq (by rfl) T.b_len PySem.boot_len (pa_cons (pv 1) pa_nil)) (nomark _)) (pe_one (pe_callB (cr_all rfl) (by rfl) T.b_all (by decide +kernel) (pa_cons (pe_lc (own := [("_law_a", 2), ("_law_b", 3)]) rfl S__law_same.nd (pi_zip (by rfl) T.b_zip (pa_cons (pv 0) (pa_cons (pv 1) pa_nil))) (blkOk_by (own := [("_law_a", 2), ("_law_b", 3)]) (N := N__law_same) (sc := (defScope (topS 22))) (by decide +kernel)) (fun _ _ _ _ _ => (pg_tupK (K := K) (n := 2) rfl rfl (pgs_cons (pg_name (i := 2) S__law_same.nd rfl (Or.inl rfl)) (pgs_cons (pg_name (i := 3) S__law_same.nd rfl (Or.inl rfl)) pgs_nil)))) (fun _ _ _ _ _ => pts_nil) (fun _ _ _ _ _ => (pe_call (G_same (k := k)) hr (by rfl) T.m__law_same T.F__law_same.kp T.B__law_same .nil pass0 (pa_cons (pv 2) (pa_cons (pv 3) pa_nil))))) pa_nil))))))) pss_nil)
 (pss_cons (ps_if (pt_val (pe_callB call_isi (by rfl) T.b_isinstance (by decide +kernel) (pa_cons (pv 1) (pa_cons (pe_bltn (v := .ty "int") (by rfl) T.b_int (by decide +kernel) rfl) pa_nil))))
 (pss_one (ps_ret (pe_and (pe_callB call_isi (by rfl) T.b_isinstance (by decide +kernel) (pa_cons (pv 0) (pa_cons (pe_bltn (v := .ty "int") (by rfl) T.b_int (by decide +kernel) rfl) pa_nil))) (pe_and (pe_cmpR op_eq (pe_callB call_isi (by rfl) T.b_isinstance (by decide +kernel) (pa_cons (pv 0) (pa_cons (pe_bltn (v := .ty "bool") (by rfl) T.b_bool (by decide +kernel) rfl) pa_nil))) (pe_callB call_isi (by rfl) T.b_isinstance (by decide +kernel) (pa_cons (pv 1) (pa_cons (pe_bltn (v := .ty "bool") (by rfl) T.b_bool (by decide +kernel) rfl) pa_nil))) (nomark _)) (pe_one (pe_cmpR op_eq (pv 0) (pv 1) (nomark _))))))) pss_nil)
 (pss_one (ps_ret (pe_and (pe_cmpR op_is_bl (pe_callB call_isiT (by rfl) T.b_isinstance (by decide +kernel) (pa_cons (pv 0) (pa_cons (pe_tup (pa_cons (pe_bltn (v := .ty "bool") (by rfl) T.b_bool (by decide +kernel) rfl) (pa_cons (pe_bltn (v := .ty "int") (by rfl) T.b_int (by decide +kernel) rfl) (pa_cons (pe_bltn (v := .ty "list") (by rfl) T.b_list (by decide +kernel) rfl) (pa_cons (pe_bltn (v := .ty "tuple") (by rfl) T.b_tuple (by decide +kernel) rfl) pa_nil))))) pa_nil))) pe_bl (nomark _)) (pe_one (pe_cmpR op_eq (pv 0) (pv 1) (nomark _)))))))), ?_⟩
    try dsimp only [cxOf, Cx.nox, Cx.wish]
    cases sd with
    | str z =>
      tm_at "rd"
      intro p np
      tm_at "rd"
      intro p2 np2
      tm_at "rd"
      rw [decide_eq_true rfl]
      exact q _ (by tm_at "fr")
    | int z =>
      tm_at "rd"
      intro p np
      tm_at "rd"
      rw [decide_eq_true rfl]
      exact q _ (by tm_at "fr")
    | bl z =>
      tm_at "rd"
      intro p np
      tm_at "rd"
      rw [decide_eq_true rfl]
      exact q _ (by tm_at "fr")
    | @lst d l m xs ys ha hb hl hm he =>
      tm_at "rd"
      intro p np
      tm_at "rd"
      rw [hl, if_pos (decide_eq_true rfl)]
      tm_at "rd"
      intro D nD
      refine lc_fm (walk_zip (n := ys.length) (xs := xs) (ys := ys) (by omega)) nD (fun _ => some (.bl true)) (fun H' s => ⟨SqL.of (s _ _ (by tm_at "hp")), SqL.of (s _ _ (by tm_at "hp"))⟩) ?_ ?_
      · rintro i x H1 H2 hi pp ⟨T', x1, x2, rfl, nT, rfl, e1, e2⟩
        have sdx := he i x1 x2 e1 e2
        have s1 := pp.2.1
        have s0 : Same H (upd H1 T' (.tup [x1, x2])) := by tm_at "fr"
        tm_at "rd"
        refine ⟨sdx.same s0, fun H3 s3 => ?_⟩
        refine lc_put pp (by omega) (same_new (Same.refl _) nT |>.trans s3) rfl
      · intro H1 s1 hD
        rw [made_all] at hD
        have e : (List.range ys.length).map (fun _ => V.bl true) = (List.replicate ys.length true).map V.bl := by
          rw [List.map_const', List.map_replicate, List.length_range]
        rw [e] at hD
        tm_at "rd"
        have e2 : ((List.replicate ys.length true).all id) = true := by simp
        rw [e2]
        exact q _ (by tm_at "fr")

theorem ok__law_same (T : Txt K mg a) : ∀ (d : Nat) {k : Nat}, FnOk P w K mg base CX0 (k + d + 1) a.f__law_same a.d__law_same ["_law_found", "_law_due_here"] (spSame d)
  | 0, k => T.F__law_same.ok S__law_same (fun vs H Q E h => h.elim) (fun cdv A outer s H vs Q E hr h => h.elim)
  | d + 1, k => ok_same_step T (fun {k} => ok__law_same T d)

end
end K02


local macro_rules | `(tactic| tm_at "cl") => `(tactic| ((with_reducible show K02.FO _ _ _ _); first
  | assumption
  | exact K02.FO.same (by assumption) (by assumption)
  | exact K02.FO.same (by assumption) (by tm_at "fr")))

namespace K02
open PySem PySem.Spec PyProof.Rows L2 Sm
open Evl (pss_cut)
section
variable {P : Program} {w : World} {K : PySem.W.Frag} {mg : Str → Option Value} {base : Heap} {a : Ad}
def SDs (H : Hp) (d : Nat) : List V → List V → Prop
  | [], [] => True
  | x :: xs, y :: ys => SD H d x y ∧ SDs H d xs ys
  | _, _ => False
theorem SDs.len {H : Hp} {d : Nat} : ∀ {xs ys : List V}, SDs H d xs ys → xs.length = ys.length
  | [], [], _ => rfl
  | x :: xs, y :: ys, h => by rw [List.length_cons, List.length_cons, SDs.len h.2]
  | [], _ :: _, h => h.elim
  | _ :: _, [], h => h.elim
theorem SDs.get {H : Hp} {d : Nat} : ∀ {xs ys : List V}, SDs H d xs ys → ∀ (i : Nat) (x y : V), xs[i]? = some x → ys[i]? = some y → SD H d x y
  | [], [], _, i, x, y, hx, _ => by simp at hx
  | x :: xs, y :: ys, h, 0, u, v, hx, hy => by
    rw [List.getElem?_cons_zero] at hx hy
    cases hx; cases hy
    exact h.1
  | x :: xs, y :: ys, h, i + 1, u, v, hx, hy => by
    rw [List.getElem?_cons_succ] at hx hy
    exact SDs.get h.2 i u v hx hy
  | [], _ :: _, h, _, _, _, _, _ => h.elim
  | _ :: _, [], h, _, _, _, _, _ => h.elim
theorem SD.of {H : Hp} {d : Nat} {a b : Addr} {xs ys : List V} (ha : H a = some (.lst xs)) (hb : H b = some (.lst ys)) (h : SDs H d xs ys) (hl : xs.length ≤ 1000) : SD H (d + 1) (.ref a) (.ref b) := .lst ha hb h.len hl h.get
theorem isIn_no (x : V) (ws : List Str) : (∀ z ∈ ws, isW z = true) → (∀ z, x = .str z → isW z = false) → isIn x ws = false := by
  intro hw hz
  cases x with
  | str z => exact decide_eq_false fun hzz => by have := hz z rfl; rw [hw z hzz] at this; cases this
  | _ => rfl
def spRight (K : PySem.W.Frag) (C : Addr) : Sp := fun vs H Q _ => ∃ (f l : Addr) (ws : List Str), vs = [.ref f, .ref l] ∧ FO C H f ws ∧ H l = some (.lst (ws.map V.str)) ∧ ws.length ≤ 100 ∧ ∀ H', Same H H' → Q (.bl true) H'
theorem ok__law_right (T : Txt K mg a) {k : Nat} : FnOk P w K mg base CX0 (k + 5) a.f__law_right a.d__law_right ["_law_made", "_law_some_here"] (spRight K a.C_Fields) := by
  have G_words := ok_Fields_words (P := P) (w := w) (base := base) T (k := k+3)
  have G_len := ok_Fields___len__ (P := P) (w := w) (base := base) T (k := k+2)
  have G_contains := ok_Fields___contains__ (P := P) (w := w) (base := base) T (k := k+2)
  have G_all := ok__law_all_words (P := P) (w := w) (base := base) T (k := k+3)
  have G_same := ok__law_same (P := P) (w := w) (base := base) T 3 (k := k)
  refine T.F__law_right.ok S__law_right (fun vs H Q E h => ?_) (fun cdv A outer s H vs Q E hr h => ?_)
  · obtain ⟨_, _, _, rfl, _⟩ := h
    rfl
  · obtain ⟨f, l, ws, rfl, fo, hl, hlen, q⟩ := h
    obtain ⟨dx, t, hf, ht, hasc, hw⟩ := id fo
    have I_F := T.I_Fields
    have C_F := T.C_Fields
    have n_F := T.n_Fields_cells
    refine ⟨_, (pss_cons (ps_set (i := 2) S__law_right.nd rfl (Or.inl rfl) (pe_meth0 (pv 0) T.C_Fields T.D_Fields_words G_words hr T.B_Fields_words .nil pass0))
 (pss_cons (ps_if (pw_or (pt_not (pt_val (pe_callB call_isi (by rfl) T.b_isinstance (by decide +kernel) (pa_cons (pv 0) (pa_cons (pe_glob (v := .ref a.C_Fields) (by rfl) T.g_Fields rfl) pa_nil))))) (pw_or1 (pt_not (pt_val (pe_call G_same hr (by rfl) T.m__law_same T.F__law_same.kp T.B__law_same .nil pass0 (pa_cons (pe_lst (pa_cons (pv 2) (pa_cons (pe_callB (call_ownLen G_len hr T.B_Fields___len__ pass0 T.D_Fields___len__) (by rfl) T.b_len PySem.boot_len (pa_cons (pv 0) pa_nil)) pa_nil))) (pa_cons (pe_lst (pa_cons (pv 1) (pa_cons (pe_callB call_len_seq (by rfl) T.b_len PySem.boot_len (pa_cons (pv 1) pa_nil)) pa_nil))) pa_nil))))))).pt
 (pss_one (ps_ret pe_bl)) pss_nil)
 (pss_cons (ps_set (i := 3) S__law_right.nd rfl (Or.inl rfl) (pe_lst (pa_cons pe_str (pa_cons pe_str (pa_cons pe_str (pa_cons pe_int (pa_cons pe_non (pa_cons pe_bl (pa_cons (pe_lst pa_nil) (pa_cons (pv 1) (pa_cons (pe_tup (pa_cons pe_str pa_nil)) (pa_cons pe_dnewK pa_nil))))))))))))
 (pss_cons (ps_if (pw_or (pt_val (pe_callB (cr_any rfl) (by rfl) T.b_any (by decide +kernel) (pa_cons (pe_lc (own := [("_law_x", 4)]) rfl S__law_right.nd (pi_list (pv 3)) (blkOk_by (own := [("_law_x", 4)]) (N := N__law_right) (sc := (defScope (topS 31))) (by decide +kernel)) (fun _ _ _ _ _ => (pg_name (i := 4) S__law_right.nd rfl (Or.inl rfl))) (fun _ _ _ _ _ => pts_nil) (fun _ _ _ _ _ => (pe_cmpR (op_ownIn G_contains hr T.B_Fields___contains__ pass0 T.D_Fields___contains__) (pv 4) (pv 0) (by rfl)))) pa_nil))) (pw_or1 (pt_cmpR op_ne (pe_notTru (tru_own G_len hr T.B_Fields___len__ pass0 T.O_Fields T.D_Fields___len__) (pv 0)) (pe_cmpR (op_eqNil hr.units) (pv 1) (pe_lst pa_nil) (nomark _)) (nomark _)))).pt
 (pss_one (ps_ret pe_bl)) pss_nil)
 (pss_cons (ps_expr (pe_bm PySem.F.plainAttrs_list PySem.F.slot_list_append PySem.F.type_list_append mt_append (pv 2) (pa_cons pe_str pa_nil)))
 (pss_one (ps_ret (pe_and (pe_call G_same hr (by rfl) T.m__law_same T.F__law_same.kp T.B__law_same .nil pass0 (pa_cons (pe_meth0 (pv 0) T.C_Fields T.D_Fields_words G_words hr T.B_Fields_words .nil pass0) (pa_cons (pv 1) pa_nil))) (pe_one (pe_callB (cr_all rfl) (by rfl) T.b_all (by decide +kernel) (pa_cons (pe_lc (own := [("_law_x", 4)]) rfl S__law_right.nd (pi_row (pe_call0 G_all hr (by rfl) T.m__law_all_words T.F__law_all_words.kp T.B__law_all_words .nil pass0)) (blkOk_by (own := [("_law_x", 4)]) (N := N__law_right) (sc := (defScope (topS 31))) (by decide +kernel)) (fun _ _ _ _ _ => (pg_name (i := 4) S__law_right.nd rfl (Or.inl rfl))) (fun _ _ _ _ _ => pts_nil) (fun _ _ _ _ _ => (pe_cmpR op_eq (pe_cmpR (op_ownIn G_contains hr T.B_Fields___contains__ pass0 T.D_Fields___contains__) (pv 4) (pv 0) (by rfl)) (pe_cmpR (op_inSsK (K := K) rfl) (pv 4) (pv 1) (by rfl)) (nomark _)))) pa_nil))))))))))), ?_⟩
    try dsimp only [cxOf, Cx.nox, Cx.wish]
    have hok : ∀ x ∈ ws, PyData.strOk x = true := fun x hx => isW_ok (hw x hx)
    tm_at "rd"
    intro p H1 s1 np hp
    tm_at "rd"
    intro a1 n1
    tm_at "rd"
    intro a2 n2
    have m1 : a1 ≠ a2 := by tm_at "ne"
    tm_at "rd"
    refine ⟨SD.of (xs := [.ref p, .int (ws.length : Nat)]) (ys := [.ref l, .int (ws.length : Nat)]) (by tm_at "hp") (by rw [upd_same, List.length_map]) ⟨.strs (ws := ws) (by tm_at "hp") (by tm_at "hp") (by omega), .int _, trivial⟩ (show 2 ≤ 1000 by omega), fun H2 s2 => ?_⟩
    have s02 : Same H1 H2 := (same_new (same_new (Same.refl _) n1) n2).trans s2
    tm_at "rd"
    intro e0 ne0
    tm_at "rd"
    intro t1 nt1
    tm_at "rd"
    intro d1 nd1
    tm_at "rd"
    intro sl nsl
    have w1 : e0 ≠ t1 := by tm_at "ne"
    have w2 : e0 ≠ d1 := by tm_at "ne"
    have w3 : e0 ≠ sl := by tm_at "ne"
    have w4 : t1 ≠ d1 := by tm_at "ne"
    have w5 : t1 ≠ sl := by tm_at "ne"
    have w6 : d1 ≠ sl := by tm_at "ne"
    obtain ⟨H3, eH3⟩ : ∃ H3, H3 = upd (upd (upd (upd H2 e0 (.lst [])) t1 (.tup [.str "a"])) d1 (.dK [])) sl (.lst [.str "", .str "A", .str "ninelette", .int 5, .non, .bl true, .ref e0, .ref l, .ref t1, .ref d1]) := ⟨_, rfl⟩
    have hs3 : Same H2 H3 := by rw [eH3]; exact same_new (same_new (same_new (same_new (Same.refl H2) ne0) nt1) nd1) nsl
    have hsl : H3 sl = some (.lst [.str "", .str "A", .str "ninelette", .int 5, .non, .bl true, .ref e0, .ref l, .ref t1, .ref d1]) := by rw [eH3]; exact upd_same
    have key : ∀ x ∈ [V.str "", V.str "A", V.str "ninelette", V.int 5, V.non, V.bl true, V.ref e0, V.ref l, V.ref t1, V.ref d1], (∃ T2, TyV K H3 x T2) ∧ ∀ z, x = .str z → z.length ≤ 1000 ∧ isW z = false := by
      intro x hx
      simp only [List.mem_cons, List.not_mem_nil, or_false] at hx
      rcases hx with rfl | rfl | rfl | rfl | rfl | rfl | rfl | rfl | rfl | rfl
      · exact ⟨⟨_, .str _⟩, fun z e => by cases e; decide +kernel⟩
      · exact ⟨⟨_, .str _⟩, fun z e => by cases e; decide +kernel⟩
      · exact ⟨⟨_, .str _⟩, fun z e => by cases e; decide +kernel⟩
      · exact ⟨⟨_, .int _⟩, fun z e => by cases e⟩
      · exact ⟨⟨_, .non⟩, fun z e => by cases e⟩
      · exact ⟨⟨_, .bl _⟩, fun z e => by cases e⟩
      · exact ⟨⟨_, .lst (SqL.of (xs := []) (by rw [eH3]; tm_at "hp"))⟩, fun z e => by cases e⟩
      · exact ⟨⟨_, .lst (SqL.of (xs := ws.map V.str) (hs3 _ _ (s02 _ _ (s1 _ _ hl))))⟩, fun z e => by cases e⟩
      · exact ⟨⟨_, .tup (SqT.of (xs := [.str "a"]) (by rw [eH3]; tm_at "hp"))⟩, fun z e => by cases e⟩
      · exact ⟨⟨_, .dK (kvs := []) (by rw [eH3]; tm_at "hp")⟩, fun z e => by cases e⟩
    have s03 := (s1.trans s02).trans hs3
    rw [← eH3]
    clear eH3 nsl nd1 nt1 ne0
    tm_at "rd"
    refine ⟨⟨_, SqL.of hsl⟩, ?_⟩
    intro D nD
    refine lc_fm walk_list nD (fun _ => some (.bl false)) (fun H' s => SqL.of (s _ _ hsl)) ?_ ?_
    · rintro i x H4 H5 hi pp ⟨rfl, e⟩
      have s4 := pp.2.1
      have hx := List.mem_of_getElem? e
      obtain ⟨⟨T2, ty⟩, hz⟩ := key x hx
      have ty := ty.same s4
      have s04 := s03.trans s4
      tm_at "rd"
      refine ⟨fun z e => (hz z e).1, fun H6 s6 => ?_⟩
      have e2 := isIn_no x ws hw fun z e => (hz z e).2
      rw [e2]
      tm_at "rd"
      exact lc_put pp (by have : i < 10 := hi; omega) s6 rfl
    · intro H4 s4 hD
      have s04 := s03.trans s4
      have hD : H4 D = some (.lst ((List.replicate 10 false).map V.bl)) := hD
      have el : (!decide (ws.length ≠ 0)) = decide (ws = []) := by cases ws <;> simp
      have s4' := hs3.trans s4
      have hp4 : H4 p = some (.lst (ws.map V.str)) := s4' _ _ (s02 _ _ hp)
      have npl : p ≠ l := by tm_at "ne"
      have npf : p ≠ f := by tm_at "ne"
      have npt : p ≠ t := by tm_at "ne"
      have hf4 := s04 _ _ hf
      have hl4 := s04 _ _ hl
      have ht4 := s04 _ _ ht
      tm_at "rd"
      intro b nb
      tm_at "rd"
      rw [el]
      tm_at "rd"
      have ez : (!decide (V.bl (decide (ws = [])) = V.bl (if false = true then !decide (ws = []) else decide (ws = [])))) = false := by simp
      rw [ez]
      tm_at "rd"
      intro p2 H5 s5 np2 hp2
      have s05 : Same H H5 := Same.trans (by tm_at "fr") s5
      have hl5 := s05 _ _ hl
      have row5 : Row K H5 l (ws.map V.str) := .inl (SqL.of hl5)
      tm_at "rd"
      refine ⟨.strs hp2 hl5 (by omega), fun H6 s6 => ?_⟩
      have s06 : Same H H6 := s05.trans s6
      tm_at "rd"
      intro p3 H7 s7 np3 hp3
      have s07 : Same H H7 := s06.trans s7
      have row7 : Row K H7 l (ws.map V.str) := .inl (SqL.of (s07 _ _ hl))
      have row7b : Row K H7 p3 (allW.map V.str) := .inl (SqL.of hp3)
      tm_at "rd"
      intro J G wk kG D2 nD2
      refine lc_strs wk nD2 (fun x => some (.bl true)) (fun H' s => kG H' (.ofSame s)) ?_ ?_
      · intro i x H8 hx pp
        have s8 := pp.2.1
        have s08 := s07.trans s8
        have al : x.length ≤ 1000 := by have := isW_len (allW_w x (List.mem_of_getElem? hx)); omega
        tm_at "rd"
        refine ⟨fun z e => by cases e; exact al, fun H9 s9 => ?_⟩
        have row9 : Row K H9 l (ws.map V.str) := .inl (SqL.of (s9 _ _ (s08 _ _ hl)))
        tm_at "rd"
        have e3 : decide (V.bl (if false = true then !isIn (V.str x) ws else isIn (V.str x) ws) = V.bl (if false = true then !decide (x ∈ ws) else decide (x ∈ ws))) = true := decide_eq_true rfl
        rw [e3]
        exact lcs_put pp hx (by rw [allW_len]; omega) s9 rfl
      · intro H8 s8 hD8
        rw [fm_some] at hD8
        tm_at "rd"
        have e4 : ((allW.map fun _ => true).all id) = true := by rw [List.all_map]; simp
        rw [e4]
        exact q _ (s07.trans s8)

end
end K02


local macro_rules | `(tactic| tm_at "oq") => `(tactic| first
  | omega
  | (simp only [List.length_map, List.length_append, List.length_cons, List.length_nil, List.length_set]; omega))
local macro_rules | `(tactic| tm_at "cq") => `(tactic| first
  | ((with_reducible show _ ≤ PySem.sizeLine); exact Sm.sz_le (by tm_at "oq"))
  | ((with_reducible show _ < PySem.sizeLine); exact Sm.sz_lt (by tm_at "oq"))
  | ((with_reducible show @LE.le Nat _ _ _); tm_at "oq")
  | ((with_reducible show @LT.lt Nat _ _ _); tm_at "oq")
  | ((with_reducible show @LE.le Int _ _ _); tm_at "oq")
  | ((with_reducible show @LT.lt Int _ _ _); tm_at "oq")
  | ((with_reducible show _ = _); (first | exact rfl | assumption | tm_at "hp"))
  | ((with_reducible show L2.SqL _ _ _ _); tm_at "sq")
  | ((with_reducible show L2.SqT _ _ _ _); tm_at "sq")
  | ((with_reducible show L2.SqL _ _ _ _ ∨ L2.SqT _ _ _ _); (first | (refine Or.inl ?_; tm_at "sq") | (refine Or.inr ?_; tm_at "sq")))
  | ((with_reducible show K02.FO _ _ _ _); (first | assumption | exact K02.FO.same (by assumption) (by assumption)))
  | ((with_reducible show Sm.StOk _ _ _); tm_at "stok")
  | ((with_reducible show _ ≠ _); tm_at "ne")
  | ((with_reducible show Sm.Row _ _ _ _); tm_at "row")
  | ((with_reducible show Sm.TyV _ _ _ _); tm_at "tyv")
  | ((with_reducible show L2.tyV _ _ _ _); exact Or.inl ⟨rfl, _, by tm_at "sq"⟩)
  | ((with_reducible show ∀ x ∈ _, _); assumption))
local macro_rules | `(tactic| tm_at "rq1") => `(tactic| first
  | ((with_reducible refine And.intro ?_ ?_); (focus (tm_at "cq"; done)))
  | ((show Exists _); (fail_if_success (with_reducible show ∃ W : Nat → Nat → L2.St → L2.Hp → Prop, _)); (fail_if_success (with_reducible show ∃ W : Nat → Nat → L2.Hp → Prop, _)); (fail_if_success (with_reducible show ∃ W : Nat → L2.St → L2.Hp → Prop, _)); (fail_if_success (with_reducible show ∃ W : L2.St → L2.Hp → Prop, _)); (fail_if_success (with_reducible show ∃ acc : List L2.V, _ ∧ acc.length < PySem.sizeLine ∧ _)); apply Exists.intro)
  | ((show And _ _); (refine And.intro ?_ ?_); (focus (tm_at "cq"; done)))
  | ((fail_if_success (with_reducible show And _ _)); (fail_if_success (with_reducible show Or _ _)); (fail_if_success (with_reducible show Sm.Stp _)); (fail_if_success intro _); (first | refine L2.iteT ?_ | refine L2.iteF ?_)))
local macro_rules | `(tactic| tm_at "rq") => `(tactic| repeat tm_at "rq1")
local macro_rules | `(tactic| tm_at "rg1") => `(tactic| first
  | ((with_reducible refine And.intro ?_ ?_); (focus (tm_at "cl"; done)))
  | ((show Exists _); (fail_if_success (with_reducible show ∃ W : Nat → Nat → L2.St → L2.Hp → Prop, _)); (fail_if_success (with_reducible show ∃ W : Nat → Nat → L2.Hp → Prop, _)); (fail_if_success (with_reducible show ∃ W : Nat → L2.St → L2.Hp → Prop, _)); (fail_if_success (with_reducible show ∃ W : L2.St → L2.Hp → Prop, _)); (fail_if_success (with_reducible show ∃ acc : List L2.V, _ ∧ acc.length < PySem.sizeLine ∧ _)); apply Exists.intro)
  | ((show And _ _); (refine And.intro ?_ ?_); (focus (tm_at "cl"; done)))
  | ((fail_if_success (with_reducible show And _ _)); (fail_if_success (with_reducible show Or _ _)); (fail_if_success (with_reducible show Sm.Stp _)); (fail_if_success intro _); (first | refine L2.iteT ?_ | refine L2.iteF ?_)))
local macro_rules | `(tactic| tm_at "rg") => `(tactic| repeat tm_at "rg1")

namespace K02
open PySem PySem.Spec PyProof.Rows L2 Sm
open Evl (pss_cut)
section
variable {P : Program} {w : World} {K : PySem.W.Frag} {mg : Str → Option Value} {base : Heap} {a : Ad}
theorem FO.fr {C c st : Addr} {H H' : Hp} {f : Addr} {ws : List Str} (h : FO C H f ws) (s : StOk c H st) (r : Fr1 st H H') : FO C H' f ws := by
  obtain ⟨dx, t, h1, h2, h3⟩ := h
  obtain ⟨ns, n, v, b, g1, _⟩ := s
  have n1 : f ≠ st := ne_of h1 g1 (by intro e; cases e)
  have n2 : t ≠ st := ne_of h2 g1 (by intro e; cases e)
  exact ⟨dx, t, r _ _ n1 h1, r _ _ n2 h2, h3⟩
theorem mkF2 {C : Addr} {H : Hp} {v : V} {ws : List Str} {R : Addr → Hp → Prop} {E : XK} (h : FSet K C H v ws) (q : ∀ f ys H', Same H H' → H f = none → FO C H' f ys → (∀ z, z ∈ ys ↔ z ∈ ws) → R f H') :
    ∀ x dx, H x = none → H dx = none → dx ≠ x → spInit K C ([.ref x] ++ [v]) (upd (upd H dx (.own x)) x (.ins C dx [])) (fun u H2 => u = .non ∧ R x H2) E := fun x dx nx ndx ne =>
  mkF (Q := fun v H2 => match v with | .ref g => R g H2 | _ => True) h (fun f ys H' a b c d => q f ys H' a b c d) x dx nx ndx ne
/-- what stands through a turn of the law -/
structure LawO (c st lo lt : Addr) (ws us : List Str) (H : Hp) : Prop where
  hs : StOk c H st
  hlo : H lo = some (.lst (ws.map V.str))
  hlt : H lt = some (.lst (us.map V.str))
  nlo : lo ≠ st
  nlt : lt ≠ st
  aw : Asc ws
  au : Asc us
  ww : ∀ x ∈ ws, isW x = true
  wu : ∀ x ∈ us, isW x = true
  lw : ws.length ≤ 7
  lu : us.length ≤ 7
theorem LawO.fr {c st lo lt : Addr} {ws us : List Str} {H H' : Hp} (h : LawO c st lo lt ws us H) (r : Fr1 st H H') (s : StOk c H' st) : LawO c st lo lt ws us H' :=
  { h with hs := s, hlo := r _ _ h.nlo h.hlo, hlt := r _ _ h.nlt h.hlt }
theorem LawO.same {c st lo lt : Addr} {ws us : List Str} {H H' : Hp} (h : LawO c st lo lt ws us H) (r : Same H H') : LawO c st lo lt ws us H' := h.fr (fun b o _ e => r b o e) (h.hs.same r)
structure LawI (C c st lo lt fx fy : Addr) (ws us : List Str) (H : Hp) : Prop where
  o : LawO c st lo lt ws us H
  x : FO C H fx ws
  y : FO C H fy us
theorem LawI.fr {C c st lo lt fx fy : Addr} {ws us : List Str} {H H' : Hp} (h : LawI C c st lo lt fx fy ws us H) (r : Fr1 st H H') (s : StOk c H' st) : LawI C c st lo lt fx fy ws us H' :=
  ⟨h.o.fr r s, h.x.fr h.o.hs r, h.y.fr h.o.hs r⟩
theorem LawI.same {C c st lo lt fx fy : Addr} {ws us : List Str} {H H' : Hp} (h : LawI C c st lo lt fx fy ws us H) (r : Same H H') : LawI C c st lo lt fx fy ws us H' := h.fr (fun b o _ e => r b o e) (h.o.hs.same r)
theorem op_ownEqK {X : Cx} {K : PySem.W.Frag} {CX : CXT} {k : Nat} {f C : Addr} {fd : FuncData} {ps : List Str} {sp : Sp} {E : XK} (hK : X.K = K) (F : FnOk X.prog X.w X.K X.mg X.base CX k f fd ps sp) (hr : Room k X.A) (hb : Binds X.K fd ps []) (hx : Passes CX X E) (m : Meth X.K C "__eq__" f) : OpR X (compareOp .Eq) (rOwnEq K C sp E) := by
  subst hK; exact op_ownEq F hr hb hx m
theorem op_eqOwnK {X : Cx} {K : PySem.W.Frag} {CX : CXT} {k : Nat} {f C : Addr} {fd : FuncData} {ps : List Str} {sp : Sp} {E : XK} (hK : X.K = K) (F : FnOk X.prog X.w X.K X.mg X.base CX k f fd ps sp) (hr : Room k X.A) (hb : Binds X.K fd ps []) (hx : Passes CX X E) (O : OwnC X.K C) (m : Meth X.K C "__eq__" f) : OpR X (compareOp .Eq) (rEqOwn K C sp E) := by
  subst hK; exact op_eqOwn F hr hb hx O m
theorem FO.mutL {C : Addr} {H : Hp} {f l : Addr} {ws : List Str} {xs : List V} {o : HO} (h : FO C H f ws) (hl : H l = some (.lst xs)) : FO C (upd H l o) f ws := by
  obtain ⟨dx, t, g1, g2, g3⟩ := h
  have e1 : f ≠ l := ne_of g1 hl (by intro e; cases e)
  have e2 : t ≠ l := ne_of g2 hl (by intro e; cases e)
  exact ⟨dx, t, by rw [upd_ne e1]; exact g1, by rw [upd_ne e2]; exact g2, g3⟩
theorem LawI.mutL {C c st lo lt fx fy l : Addr} {ws us : List Str} {H : Hp} {xs : List V} {o : HO} (h : LawI C c st lo lt fx fy ws us H) (hl : H l = some (.lst xs)) (n1 : l ≠ st) (n2 : l ≠ c) (n3 : l ≠ lo) (n4 : l ≠ lt) : LawI C c st lo lt fx fy ws us (upd H l o) :=
  ⟨⟨h.o.hs.upd n1 n2, by rw [upd_ne n3.symm]; exact h.o.hlo, by rw [upd_ne n4.symm]; exact h.o.hlt, h.o.nlo, h.o.nlt, h.o.aw, h.o.au, h.o.ww, h.o.wu, h.o.lw, h.o.lu⟩, h.x.mutL hl, h.y.mutL hl⟩
theorem dueC_or {way : Int} {p q : Prop} (h : dueC way p q) : p ∨ q := by
  unfold dueC at h
  split at h
  · exact h
  · split at h
    · exact .inl h.1
    · split at h
      · exact .inl h.1
      · exact h.elim (fun h => .inl h.1) fun h => .inr h.1
theorem any_comm (us ws : List Str) : (us.any fun x => decide (x ∈ ws)) = ws.any fun x => decide (x ∈ us) := by
  rw [Bool.eq_iff_iff, List.any_eq_true, List.any_eq_true]
  constructor
  · rintro ⟨x, h1, h2⟩; exact ⟨x, of_decide_eq_true h2, decide_eq_true h1⟩
  · rintro ⟨x, h1, h2⟩; exact ⟨x, of_decide_eq_true h2, decide_eq_true h1⟩
def spLaw (K : PySem.W.Frag) : Sp := fun vs H Q _ => ∃ (sc : Addr) (ns : List Int), vs = [.ref sc] ∧ SqL K H sc (ns.map V.int) ∧ ∀ H', Q (.bl true) H'

theorem ok_law (T : Txt K mg a) {k : Nat} : FnOk P w K mg base CX0 (k + 8) a.f_law a.d_law ["_law_script"] (spLaw K) := by
  have G__law_fresh := ok__law_fresh (P := P) (w := w) (base := base) T (k := k+6)
  have G__law_some_words := ok__law_some_words (P := P) (w := w) (base := base) T (k := k+4)
  have G__law_some := ok__law_some (P := P) (w := w) (base := base) T (k := k+4)
  have G__law_rising := ok__law_rising (P := P) (w := w) (base := base) T (k := k+6)
  have G__law_take := ok__law_take (P := P) (w := w) (base := base) T (k := k+5)
  have G__law_doubled := ok__law_doubled (P := P) (w := w) (base := base) T (k := k+3)
  have G_Fields := ok_Fields___init__ (P := P) (w := w) (base := base) T (k := k+3)
  have G__law_right := ok__law_right (P := P) (w := w) (base := base) T (k := k+2)
  have G_eq := ok_Fields___eq__ (P := P) (w := w) (base := base) T (k := k+6)
  have G_eq1 := ok_Fields___eq__ (P := P) (w := w) (base := base) T (k := k+5)
  have G__law_due := ok__law_due (P := P) (w := w) (base := base) T (k := k+5)
  have G__law_joined := ok__law_joined (P := P) (w := w) (base := base) T (k := k)
  have G__law_passed := ok__law_passed (P := P) (w := w) (base := base) T (k := k+2)
  have G_Fields_within := ok_Fields_within (P := P) (w := w) (base := base) T (k := k+4)
  have G_Fields_meets := ok_Fields_meets (P := P) (w := w) (base := base) T (k := k+4)
  have G__law_same := ok__law_same (P := P) (w := w) (base := base) T 3 (k := k+3)
  refine T.F_law.ok S_law (fun vs H Q E h => ?_) (fun cdv A outer s H vs Q E hr h => ?_)
  · obtain ⟨_, _, rfl, _⟩ := h
    rfl
  · obtain ⟨sc, ns, rfl, hsc, q⟩ := h
    have I_F := T.I_Fields
    have C_F := T.C_Fields
    have n_F := T.n_Fields_cells
    refine ⟨_, (pss_cons (ps_set (i := 1) S_law.nd rfl (Or.inr rfl) (pe_call G__law_fresh hr (by rfl) T.m__law_fresh T.F__law_fresh.kp T.B__law_fresh .nil pass0 (pa_cons (pv 0) pa_nil)))
 (pss_cons (ps_for PassesOwn.never rfl (pi_range1 rfl T.b_range (pa_cons pe_int pa_nil)) (pg_name (i := 2) S_law.nd rfl (Or.inl rfl))
 (pss_cut (ps_set (i := 3) S_law.nd rfl (Or.inl rfl) (pe_call G__law_some_words hr (by rfl) T.m__law_some_words T.F__law_some_words.kp T.B__law_some_words .nil pass0 (pa_cons (pv 1) (pa_cons pe_int pa_nil))))
 (pss_cut (ps_asg (pe_tup (pa_cons (pe_call G__law_rising hr (by rfl) T.m__law_rising T.F__law_rising.kp T.B__law_rising .nil pass0 (pa_cons (pe_call G__law_some hr (by rfl) T.m__law_some T.F__law_some.kp T.B__law_some .nil pass0 (pa_cons (pv 1) (pa_cons (pv 3) pa_nil))) pa_nil)) (pa_cons (pe_call G__law_rising hr (by rfl) T.m__law_rising T.F__law_rising.kp T.B__law_rising .nil pass0 (pa_cons (pe_call G__law_some hr (by rfl) T.m__law_some T.F__law_some.kp T.B__law_some .nil pass0 (pa_cons (pv 1) (pa_cons (pv 3) pa_nil))) pa_nil)) pa_nil))) (pg_tup rfl (pgs_cons (pg_name (i := 4) S_law.nd rfl (Or.inl rfl)) (pgs_cons (pg_name (i := 5) S_law.nd rfl (Or.inr rfl)) pgs_nil))))
 (pss_cut (ps_if (pt_cmpR op_eq (pe_call G__law_take hr (by rfl) T.m__law_take T.F__law_take.kp T.B__law_take .nil pass0 (pa_cons (pv 1) (pa_cons pe_int pa_nil))) pe_int (nomark _))
 (pss_one (ps_set (i := 5) S_law.nd rfl (Or.inr rfl) (pe_lc (own := [("_law_x", 6)]) rfl S_law.nd (pi_row (pv 4)) (blkOk_by (own := [("_law_x", 6)]) (N := N_law) (sc := (defScope (topS 32))) (by decide +kernel)) (fun _ _ _ _ _ => (pg_name (i := 6) S_law.nd rfl (Or.inl rfl))) (fun _ _ _ _ _ => pts_one (pt_cmpR op_eq (pe_call G__law_take hr (by rfl) T.m__law_take T.F__law_take.kp T.B__law_take .nil pass0 (pa_cons (pv 1) (pa_cons pe_int pa_nil))) pe_int (nomark _))) (fun _ _ _ _ _ => (pv 6))))) pss_nil)
 (pss_cut (ps_set (i := 7) S_law.nd rfl (Or.inl rfl) (pe_call G__law_doubled hr (by rfl) T.m__law_doubled T.F__law_doubled.kp T.B__law_doubled .nil pass0 (pa_cons (pv 1) (pa_cons (pv 4) pa_nil))))
 (pss_cut (ps_asg (pe_tup (pa_cons (pe_make T.K_Fields G_Fields hr (by rfl) T.g_Fields T.B_Fields___init__ .nil pass0 (pa_cons (pv 7) pa_nil)) (pa_cons (pe_makeK0 T.K_Fields G_Fields hr (by rfl) T.g_Fields (fun_kbn (ps := ["self", "words"]) T.F_Fields___init__ 1 ["words"] (fun _ _ _ _ _ _ us ws l1 l2 => match us, ws, l1, l2 with | [_], [_], _, _ => rfl)) pass0 (pk_cons (pe_callTy call_tupleL (by rfl) T.b_tuple (by decide +kernel) (pa_cons (pe_call G__law_doubled hr (by rfl) T.m__law_doubled T.F__law_doubled.kp T.B__law_doubled .nil pass0 (pa_cons (pv 1) (pa_cons (pv 5) pa_nil))) pa_nil)) pk_nil)) pa_nil))) (pg_tup rfl (pgs_cons (pg_name (i := 6) S_law.nd rfl (Or.inr rfl)) (pgs_cons (pg_name (i := 8) S_law.nd rfl (Or.inl rfl)) pgs_nil))))
 (pss_cut (ps_expr (pe_bm PySem.F.plainAttrs_list PySem.F.slot_list_append PySem.F.type_list_append mt_append (pv 7) (pa_cons pe_str pa_nil)))
 (pss_cut (ps_if (pw_or (pt_not (pt_val (pe_call G__law_right hr (by rfl) T.m__law_right T.F__law_right.kp T.B__law_right .nil pass0 (pa_cons (pv 6) (pa_cons (pv 4) pa_nil))))) (pw_or (pt_not (pt_val (pe_call G__law_right hr (by rfl) T.m__law_right T.F__law_right.kp T.B__law_right .nil pass0 (pa_cons (pv 8) (pa_cons (pv 5) pa_nil))))) (pw_or1 (pt_not (pt_val (pe_call G__law_right hr (by rfl) T.m__law_right T.F__law_right.kp T.B__law_right .nil pass0 (pa_cons (pe_make T.K_Fields G_Fields hr (by rfl) T.g_Fields T.B_Fields___init__ .nil pass0 (pa_cons (pv 6) pa_nil)) (pa_cons (pv 4) pa_nil)))))))).pt
 (pss_one (ps_ret pe_bl)) pss_nil)
 (pss_cut (ps_if (pt_not (pt_val (pe_call G__law_same hr (by rfl) T.m__law_same T.F__law_same.kp T.B__law_same .nil pass0 (pa_cons (pe_lst (pa_cons (pe_cmpR (op_ownEq G_eq hr T.B_Fields___eq__ pass0 T.D_Fields___eq__) (pv 6) (pv 8) (nomark _)) (pa_cons (pe_cmpR (op_ownNe G_eq1 hr T.B_Fields___eq__ pass0 T.O_Fields T.D_Fields___eq__) (pv 6) (pv 8) (nomark _)) (pa_cons (pe_cmpR (op_ownEq G_eq hr T.B_Fields___eq__ pass0 T.D_Fields___eq__) (pv 6) (pe_make T.K_Fields G_Fields hr (by rfl) T.g_Fields T.B_Fields___init__ .nil pass0 (pa_cons (pv 6) pa_nil)) (nomark _)) pa_nil)))) (pa_cons (pe_lst (pa_cons (pe_cmpR (op_eqSs hr.units) (pv 4) (pv 5) (nomark _)) (pa_cons (pe_cmpR (op_neSs hr.units) (pv 4) (pv 5) (nomark _)) (pa_cons pe_bl pa_nil)))) pa_nil)))))
 (pss_one (ps_ret pe_bl)) pss_nil)
 (pss_cut (ps_if (pt_val (pe_callB (cr_any rfl) (by rfl) T.b_any (by decide +kernel) (pa_cons (pe_lc (own := [("_law_z", 9)]) rfl S_law.nd (pi_list (pe_lst (pa_cons (pv 4) (pa_cons (pe_callTy call_tupleL (by rfl) T.b_tuple (by decide +kernel) (pa_cons (pv 4) pa_nil)) (pa_cons pe_non (pa_cons pe_int (pa_cons pe_str pa_nil))))))) (blkOk_by (own := [("_law_z", 9)]) (N := N_law) (sc := (defScope (topS 32))) (by decide +kernel)) (fun _ _ _ _ _ => (pg_name (i := 9) S_law.nd rfl (Or.inl rfl))) (fun _ _ _ _ _ => pts_nil) (fun _ _ _ _ _ => (pe_or (pe_cmpR (op_ownEqK (K := K) rfl G_eq hr T.B_Fields___eq__ pass0 T.D_Fields___eq__) (pv 6) (pv 9) (nomark _)) (pe_one (pe_cmpR (op_eqOwnK (K := K) rfl G_eq hr T.B_Fields___eq__ pass0 T.O_Fields T.D_Fields___eq__) (pv 9) (pv 6) (nomark _)))))) pa_nil)))
 (pss_one (ps_ret pe_bl)) pss_nil)
 (pss_cut (ps_for PassesOwn.never rfl (pi_range1 rfl T.b_range (pa_cons pe_int pa_nil)) (pg_name (i := 10) S_law.nd rfl (Or.inl rfl))
 (pss_cut (ps_set (i := 11) S_law.nd rfl (Or.inr rfl) (pe_call G__law_due hr (by rfl) T.m__law_due T.F__law_due.kp T.B__law_due .nil pass0 (pa_cons (pv 10) (pa_cons (pv 4) (pa_cons (pv 5) pa_nil)))))
 (pss_cut (ps_set (i := 12) S_law.nd rfl (Or.inl rfl) (pe_lst (pa_cons (pe_call G__law_joined hr (by rfl) T.m__law_joined T.F__law_joined.kp T.B__law_joined .nil pass0 (pa_cons (pv 10) (pa_cons (pv 6) (pa_cons (pv 8) pa_nil)))) (pa_cons (pe_call G__law_joined hr (by rfl) T.m__law_joined T.F__law_joined.kp T.B__law_joined .nil pass0 (pa_cons (pv 10) (pa_cons (pv 6) (pa_cons (pe_call G__law_passed hr (by rfl) T.m__law_passed T.F__law_passed.kp T.B__law_passed .nil pass0 (pa_cons (pv 1) (pa_cons (pv 5) pa_nil))) pa_nil)))) pa_nil))))
 (pss_cut (ps_expr (pe_bm PySem.F.plainAttrs_list PySem.F.slot_list_append PySem.F.type_list_append mt_append (pv 12) (pa_cons (pe_call G__law_joined hr (by rfl) T.m__law_joined T.F__law_joined.kp T.B__law_joined .nil pass0 (pa_cons (pv 10) (pa_cons (pe_call G__law_passed hr (by rfl) T.m__law_passed T.F__law_passed.kp T.B__law_passed .nil pass0 (pa_cons (pv 1) (pa_cons (pv 4) pa_nil))) (pa_cons (pv 8) pa_nil)))) pa_nil)))
 (pss_one (ps_if (pt_not (pt_val (pe_callB (cr_all rfl) (by rfl) T.b_all (by decide +kernel) (pa_cons (pe_lc (own := [("_law_made", 13)]) rfl S_law.nd (pi_list (pv 12)) (blkOk_by (own := [("_law_made", 13)]) (N := N_law) (sc := (defScope (topS 32))) (by decide +kernel)) (fun _ _ _ _ _ => (pg_name (i := 13) S_law.nd rfl (Or.inl rfl))) (fun _ _ _ _ _ => pts_nil) (fun _ _ _ _ _ => (pe_call G__law_right hr (by rfl) T.m__law_right T.F__law_right.kp T.B__law_right .nil pass0 (pa_cons (pv 13) (pa_cons (pv 11) pa_nil))))) pa_nil))))
 (pss_one (ps_ret pe_bl)) pss_nil))))))
 (pss_cut (ps_par (i := 14) (j := 15) rfl S_law.nd rfl rfl (by decide) rfl rfl (pa_cons (pe_callB (cr_all rfl) (by rfl) T.b_all (by decide +kernel) (pa_cons (pe_lc (own := [("_law_z", 9)]) rfl S_law.nd (pi_row (pv 4)) (blkOk_by (own := [("_law_z", 9)]) (N := N_law) (sc := (defScope (topS 32))) (by decide +kernel)) (fun _ _ _ _ _ => (pg_name (i := 9) S_law.nd rfl (Or.inl rfl))) (fun _ _ _ _ _ => pts_nil) (fun _ _ _ _ _ => (pe_cmpR (op_inSsK (K := K) rfl) (pv 9) (pv 5) (by rfl)))) pa_nil)) (pa_cons (pe_callB (cr_any rfl) (by rfl) T.b_any (by decide +kernel) (pa_cons (pe_lc (own := [("_law_z", 9)]) rfl S_law.nd (pi_row (pv 4)) (blkOk_by (own := [("_law_z", 9)]) (N := N_law) (sc := (defScope (topS 32))) (by decide +kernel)) (fun _ _ _ _ _ => (pg_name (i := 9) S_law.nd rfl (Or.inl rfl))) (fun _ _ _ _ _ => pts_nil) (fun _ _ _ _ _ => (pe_cmpR (op_inSsK (K := K) rfl) (pv 9) (pv 5) (by rfl)))) pa_nil)) pa_nil)) (by rfl))
 (pss_cut (ps_set (i := 12) S_law.nd rfl (Or.inl rfl) (pe_lst (pa_cons (pe_meth (pv 6) T.C_Fields T.D_Fields_within G_Fields_within hr T.B_Fields_within .nil pass0 (pa_cons (pv 8) pa_nil)) (pa_cons (pe_methK0 (pv 6) T.C_Fields T.D_Fields_within G_Fields_within hr (fun_kbn (ps := ["self", "other"]) T.F_Fields_within 1 ["other"] (fun _ _ _ _ _ _ us ws l1 l2 => match us, ws, l1, l2 with | [_], [_], _, _ => rfl)) pass0 (pk_cons (pe_call G__law_passed hr (by rfl) T.m__law_passed T.F__law_passed.kp T.B__law_passed .nil pass0 (pa_cons (pv 1) (pa_cons (pv 5) pa_nil))) pk_nil)) (pa_cons (pe_meth (pv 6) T.C_Fields T.D_Fields_meets G_Fields_meets hr T.B_Fields_meets .nil pass0 (pa_cons (pe_call G__law_passed hr (by rfl) T.m__law_passed T.F__law_passed.kp T.B__law_passed .nil pass0 (pa_cons (pv 1) (pa_cons (pv 5) pa_nil))) pa_nil)) pa_nil)))))
 (pss_cut (ps_if (pt_not (pt_val (pe_call G__law_same hr (by rfl) T.m__law_same T.F__law_same.kp T.B__law_same .nil pass0 (pa_cons (pe_op op_cat (pv 12) (pe_lst (pa_cons (pe_methK0 (pv 8) T.C_Fields T.D_Fields_meets G_Fields_meets hr (fun_kbn (ps := ["self", "other"]) T.F_Fields_meets 1 ["other"] (fun _ _ _ _ _ _ us ws l1 l2 => match us, ws, l1, l2 with | [_], [_], _, _ => rfl)) pass0 (pk_cons (pv 6) pk_nil)) pa_nil))) (pa_cons (pe_lst (pa_cons (pv 14) (pa_cons (pv 14) (pa_cons (pv 15) (pa_cons (pv 15) pa_nil))))) pa_nil)))))
 (pss_one (ps_ret pe_bl)) pss_nil)
 (pss_one (ps_if (pw_or (pt_not (pt_val (pe_call G__law_right hr (by rfl) T.m__law_right T.F__law_right.kp T.B__law_right .nil pass0 (pa_cons (pv 6) (pa_cons (pv 4) pa_nil))))) (pw_or1 (pt_not (pt_val (pe_call G__law_right hr (by rfl) T.m__law_right T.F__law_right.kp T.B__law_right .nil pass0 (pa_cons (pv 8) (pa_cons (pv 5) pa_nil))))))).pt
 (pss_one (ps_ret pe_bl)) pss_nil))))))))))))))))
 (pss_one (ps_ret pe_bl)))), ?_⟩
    try dsimp only [cxOf, Cx.nox, Cx.wish]
    tm_at "rd"
    intro st c H0 s0 nst nc hst
    tm_at "rd"
    refine for_it walk_range (fun i σ H' => Stp (∃ (y2 y3 y4 y5 y6 y7 y8 y9 y10 y11 y12 y13 y14 y15 : Option V), σ = [some (.ref sc), some (.ref st), y2, y3, y4, y5, y6, y7, y8, y9, y10, y11, y12, y13, y14, y15] ∧ StOk c H' st)) ?_ ?_ ?_ ?_
    · exact ⟨none, none, none, none, none, none, none, none, none, none, none, none, none, none, rfl, hst⟩
    · intro i σ H' _ _; trivial
    · rintro i x σ H1 H2 hi ⟨y2, y3, y4, y5, y6, y7, y8, y9, y10, y11, y12, y13, y14, y15, rfl, hs⟩ ⟨rfl, rfl⟩
      refine Exists.intro (fun σ H' => Stp (∃ (lp : Addr) (ps : List Str), ∃ (y2 y4 y5 y6 y7 y8 y9 y10 y11 y12 y13 y14 y15 : Option V), σ = [some (.ref sc), some (.ref st), y2, some (.ref lp), y4, y5, y6, y7, y8, y9, y10, y11, y12, y13, y14, y15] ∧ StOk c H' st ∧ H' lp = some (.lst (ps.map V.str)) ∧ lp ≠ st ∧ ps.Nodup ∧ (∀ x ∈ ps, x ∈ allW) ∧ ps.length = 7)) (And.intro ?_ ?_)
      · tm_at "rg"
        intro p ys H3 f3 s3 np hp nd hall hlen
        tm_at "rg"
        exact ⟨p, ys, _, _, _, _, _, _, _, _, _, _, _, _, _, rfl, s3, hp, hs.ne np, nd, hall, hlen⟩
      clear y2 y3 y4 y5 y6 y7 y8 y9 y10 y11 y12 y13 y14 y15 hs
      rintro σ H' ⟨lp, pl, y2, y4, y5, y6, y7, y8, y9, y10, y11, y12, y13, y14, y15, rfl, hs1, hlp, nlp, nd, hall, hlen⟩
      refine Exists.intro (fun σ H' => Stp (∃ (lo lt : Addr) (ws us : List Str), ∃ (y2 y3 y6 y7 y8 y9 y10 y11 y12 y13 y14 y15 : Option V), σ = [some (.ref sc), some (.ref st), y2, y3, some (.ref lo), some (.ref lt), y6, y7, y8, y9, y10, y11, y12, y13, y14, y15] ∧ LawO c st lo lt ws us H')) (And.intro ?_ ?_)
      · tm_at "rg"
        intro p1 ys1 H3 f3 s3 np1 hp1 sub1
        have nd1 := sub1.nodup nd
        have l1 := sub1.length_le
        have hlp3 := f3.at nlp hlp
        have n1 := hs1.ne np1
        tm_at "rg"
        intro lo ws H4 s4 nlo hlo aw mw
        have hs4 := s3.same s4
        have nlo' := s3.ne nlo
        have hlp4 := s4 _ _ hlp3
        tm_at "rg"
        intro p2 ys2 H5 f5 s5 np2 hp2 sub2
        have nd2 := sub2.nodup nd
        have l2 := sub2.length_le
        have n2 := hs4.ne np2
        have hlo5 := f5.at nlo' hlo
        tm_at "rg"
        intro lt us H6 s6 nlt hlt au mu
        have hs6 := s5.same s6
        have nlt' := s5.ne nlt
        have hlo6 := s6 _ _ hlo5
        tm_at "rg"
        intro tp ntp
        tm_at "rg"
        have lw := asc_len aw mw
        have lu := asc_len au mu
        exact ⟨lo, lt, ws, us, _, _, _, _, _, _, _, _, _, _, _, _, rfl, LawO.same ⟨hs6, hlo6, hlt, nlo', nlt', aw, au, fun x hx => allW_w x (hall x (sub1.mem ((mw x).mp hx))), fun x hx => allW_w x (hall x (sub2.mem ((mu x).mp hx))), by omega, by omega⟩ (same_new (Same.refl _) ntp)⟩
      clear y2 y4 y5 y6 y7 y8 y9 y10 y11 y12 y13 y14 y15 hs1 hlp H'
      rintro σ H' ⟨lo, lt, ws, us, y2, y3, y6, y7, y8, y9, y10, y11, y12, y13, y14, y15, rfl, lw⟩
      refine Exists.intro (fun σ H' => Stp (∃ (lo lt : Addr) (ws us : List Str), ∃ (y2 y3 y6 y7 y8 y9 y10 y11 y12 y13 y14 y15 : Option V), σ = [some (.ref sc), some (.ref st), y2, y3, some (.ref lo), some (.ref lt), y6, y7, y8, y9, y10, y11, y12, y13, y14, y15] ∧ LawO c st lo lt ws us H')) (And.intro ?_ ?_)
      · have hs1 := lw.hs
        tm_at "rg"
        intro d H3 d0 d1 f3 s3
        have lw3 := lw.fr f3 s3
        have hlo3 := lw3.hlo
        tm_at "rg"
        refine iteD (fun h => ?_) (fun h => ?_)
        · tm_at "rg"
          intro J G wk kG D nD
          have lw7 := lw.lw
          refine lc_pick wk nD s3 (by omega) (fun H' f => kG H' (.ofFr1 f lw.nlo)) ?_ ?_
          · intro i x H4 hx p
            have s4 := p.2.2.1
            tm_at "rg"
            intro d2 H5 _ _ f5 s5
            tm_at "rg"
            refine iteD (fun h => ?_) (fun h => ?_)
            · tm_at "rg"
              exact pk_put p hx f5 s5
            · exact pk_skip p hx f5 s5
          · intro H4 ys f4 s4 hD sub
            tm_at "rg"
            have lw4 := lw3.fr f4 s4
            have l1 := sub.length_le
            exact ⟨lo, D, ws, ys, _, _, _, _, _, _, _, _, _, _, _, _, rfl, ⟨s4, lw4.hlo, hD, lw.nlo, s3.ne nD, lw.aw, List.Pairwise.sublist sub lw.aw, lw.ww, fun x hx => lw.ww x (sub.mem hx), lw.lw, by omega⟩⟩
        · tm_at "rg"
          exact ⟨lo, lt, ws, us, _, _, _, _, _, _, _, _, _, _, _, _, rfl, lw3⟩
      clear y2 y3 y6 y7 y8 y9 y10 y11 y12 y13 y14 y15 lw H'
      rintro σ H' ⟨lo, lt, ws, us, y2, y3, y6, y7, y8, y9, y10, y11, y12, y13, y14, y15, rfl, lw⟩
      refine Exists.intro (fun σ H' => Stp (∃ (lh : Addr) (hs : List Str), ∃ (y2 y3 y6 y8 y9 y10 y11 y12 y13 y14 y15 : Option V), σ = [some (.ref sc), some (.ref st), y2, y3, some (.ref lo), some (.ref lt), y6, some (.ref lh), y8, y9, y10, y11, y12, y13, y14, y15] ∧ LawO c st lo lt ws us H' ∧ H' lh = some (.lst (hs.map V.str)) ∧ lh ≠ st ∧ lh ≠ c ∧ lh ≠ lo ∧ lh ≠ lt ∧ (∀ x, x ∈ hs ↔ x ∈ ws) ∧ hs.length ≤ 20)) (And.intro ?_ ?_)
      · have hs1 := lw.hs
        have hlo1 := lw.hlo
        have hok : ∀ x ∈ ws, PyData.strOk x = true := fun x hx => isW_ok (lw.ww x hx)
        have lw7 := lw.lw
        have nlo := lw.nlo
        tm_at "rg"
        intro p ys H3 f3 s3 np hp mem len
        tm_at "rg"
        exact ⟨p, ys, _, _, _, _, _, _, _, _, _, _, _, rfl, lw.fr f3 s3, hp, hs1.ne np, hs1.neC np, non_ne np lw.hlo, non_ne np lw.hlt, mem, by omega⟩
      clear y2 y3 y6 y7 y8 y9 y10 y11 y12 y13 y14 y15 lw H'
      rintro σ H' ⟨lh, hs, y2, y3, y6, y8, y9, y10, y11, y12, y13, y14, y15, rfl, lw, hlh, n1, n2, n3, n4, hm, hlen⟩
      refine Exists.intro (fun σ H' => Stp (∃ (fx fy : Addr), ∃ (y2 y3 y9 y10 y11 y12 y13 y14 y15 : Option V), σ = [some (.ref sc), some (.ref st), y2, y3, some (.ref lo), some (.ref lt), some (.ref fx), some (.ref lh), some (.ref fy), y9, y10, y11, y12, y13, y14, y15] ∧ LawI a.C_Fields c st lo lt fx fy ws us H' ∧ H' lh = some (.lst (hs.map V.str)))) (And.intro ?_ ?_)
      · have hs1 := lw.hs
        have hlt1 := lw.hlt
        have nlt := lw.nlt
        have lu7 := lw.lu
        have hok : ∀ x ∈ us, PyData.strOk x = true := fun x hx => isW_ok (lw.wu x hx)
        tm_at "rg"
        refine mkF2 (.inr ⟨lh, rfl, ⟨_, hlh, .inl rfl⟩, fun x hx => lw.ww x ((hm x).mp hx), by omega⟩) fun fx zs H3 s3 nf hf hz => ?_
        have ez : zs = ws := asc_ext (by obtain ⟨_, _, _, _, h, _⟩ := hf; exact h) lw.aw fun x => by rw [hz, hm]
        subst ez
        have hs3 := hs1.same s3
        have hlt3 := s3 _ _ hlt1
        tm_at "rg"
        intro p ys H4 f4 s4 np hp mem len
        have sqp := SqL.of (K := K) hp
        tm_at "rg"
        intro tp ntp
        tm_at "rg"
        refine mkF2 (ws := ys) (.inr ⟨tp, rfl, ⟨_, upd_same, .inr rfl⟩, fun x hx => lw.wu x ((mem x).mp hx), by omega⟩) fun fy zs2 H5 s5 nf2 hf2 hz2 => ?_
        have ez : zs2 = us := asc_ext (by obtain ⟨_, _, _, _, h, _⟩ := hf2; exact h) lw.au fun x => by rw [hz2, mem]
        subst ez
        have s45 : Same H4 H5 := (same_new (Same.refl _) ntp).trans s5
        tm_at "rg"
        intro q1 nq1
        have s56 := same_new (o := .tup [.ref fx, .ref fy]) (Same.refl H5) nq1
        tm_at "rg"
        exact ⟨fx, fy, _, _, _, _, _, _, _, _, _, rfl, ⟨(((lw.same s3).fr f4 s4).same s45).same s56, ((hf.fr hs3 f4).same s45).same s56, hf2.same s56⟩, s56 _ _ (s45 _ _ (f4 _ _ n1 (s3 _ _ hlh)))⟩
      clear y2 y3 y6 y8 y9 y10 y11 y12 y13 y14 y15 lw hlh H'
      rintro σ H' ⟨fx, fy, y2, y3, y9, y10, y11, y12, y13, y14, y15, rfl, li, hlh⟩
      refine Exists.intro (fun σ H' => Stp (∃ (y2 y3 y7 y9 y10 y11 y12 y13 y14 y15 : Option V), σ = [some (.ref sc), some (.ref st), y2, y3, some (.ref lo), some (.ref lt), some (.ref fx), y7, some (.ref fy), y9, y10, y11, y12, y13, y14, y15] ∧ LawI a.C_Fields c st lo lt fx fy ws us H')) (And.intro ?_ ?_)
      · have lh20 := hlen
        tm_at "rg"
        refine ⟨_, _, _, _, _, _, _, _, _, _, rfl, ?_⟩
        obtain ⟨dx, t, g1, g2, g3⟩ := li.x
        obtain ⟨dy, u, k1, k2, k3⟩ := li.y
        have e1 : fx ≠ lh := ne_of g1 hlh (by intro e; cases e)
        have e2 : t ≠ lh := ne_of g2 hlh (by intro e; cases e)
        have e3 : fy ≠ lh := ne_of k1 hlh (by intro e; cases e)
        have e4 : u ≠ lh := ne_of k2 hlh (by intro e; cases e)
        exact ⟨⟨li.o.hs.upd n1 n2, by rw [upd_ne n3.symm]; exact li.o.hlo, by rw [upd_ne n4.symm]; exact li.o.hlt, li.o.nlo, li.o.nlt, li.o.aw, li.o.au, li.o.ww, li.o.wu, li.o.lw, li.o.lu⟩, ⟨dx, t, by rw [upd_ne e1]; exact g1, by rw [upd_ne e2]; exact g2, g3⟩, ⟨dy, u, by rw [upd_ne e3]; exact k1, by rw [upd_ne e4]; exact k2, k3⟩⟩
      clear y2 y3 y9 y10 y11 y12 y13 y14 y15 li hlh H'
      rintro σ H' ⟨y2, y3, y7, y9, y10, y11, y12, y13, y14, y15, rfl, li⟩
      refine Exists.intro (fun σ H' => Stp (∃ (y2 y3 y7 y9 y10 y11 y12 y13 y14 y15 : Option V), σ = [some (.ref sc), some (.ref st), y2, y3, some (.ref lo), some (.ref lt), some (.ref fx), y7, some (.ref fy), y9, y10, y11, y12, y13, y14, y15] ∧ LawI a.C_Fields c st lo lt fx fy ws us H')) (And.intro ?_ ?_)
      · have hs1 := li.o.hs
        have fxo := li.x
        have fyo := li.y
        have hlo := li.o.hlo
        have hlt := li.o.hlt
        have nlo := li.o.nlo
        have nlt := li.o.nlt
        have lw7 := li.o.lw
        have lu7 := li.o.lu
        have okw : ∀ x ∈ ws, PyData.strOk x = true := fun x hx => isW_ok (li.o.ww x hx)
        have oku : ∀ x ∈ us, PyData.strOk x = true := fun x hx => isW_ok (li.o.wu x hx)
        obtain ⟨dx, tx, gx1, gx2, gx3⟩ := id li.x
        obtain ⟨dy, ty, gy1, gy2, gy3⟩ := id li.y
        tm_at "rg"
        intro H3 s3
        tm_at "rg"
        intro H4 s4
        have s04 := s3.trans s4
        tm_at "rg"
        refine mkF2 (ws := ws) (.inl ⟨fx, rfl, fxo.same s04⟩) fun f zs H5 s5 nf hf hz => ?_
        have ez : zs = ws := asc_ext (by obtain ⟨_, _, _, _, h, _⟩ := hf; exact h) li.o.aw hz
        subst ez
        have s05 := s04.trans s5
        tm_at "rg"
        intro H6 s6
        tm_at "rg"
        exact ⟨_, _, _, _, _, _, _, _, _, _, rfl, li.same (s05.trans s6)⟩
      clear y2 y3 y7 y9 y10 y11 y12 y13 y14 y15 li H'
      rintro σ H' ⟨y2, y3, y7, y9, y10, y11, y12, y13, y14, y15, rfl, li⟩
      refine Exists.intro (fun σ H' => Stp (∃ (y2 y3 y7 y9 y10 y11 y12 y13 y14 y15 : Option V), σ = [some (.ref sc), some (.ref st), y2, y3, some (.ref lo), some (.ref lt), some (.ref fx), y7, some (.ref fy), y9, y10, y11, y12, y13, y14, y15] ∧ LawI a.C_Fields c st lo lt fx fy ws us H')) (And.intro ?_ ?_)
      · have hs1 := li.o.hs
        have fxo := li.x
        have fyo := li.y
        have hlo := li.o.hlo
        have hlt := li.o.hlt
        have nlo := li.o.nlo
        have nlt := li.o.nlt
        have lw7 := li.o.lw
        have lu7 := li.o.lu
        have okw : ∀ x ∈ ws, PyData.strOk x = true := fun x hx => isW_ok (li.o.ww x hx)
        have oku : ∀ x ∈ us, PyData.strOk x = true := fun x hx => isW_ok (li.o.wu x hx)
        obtain ⟨dx, tx, gx1, gx2, gx3⟩ := id li.x
        obtain ⟨dy, ty, gy1, gy2, gy3⟩ := id li.y
        tm_at "rq"
        refine ⟨.inr ⟨_, _, _, rfl, gy1⟩, ?_⟩
        tm_at "rq"
        refine Or.inr ⟨_, _, rfl, fyo, ?_⟩
        tm_at "rq"
        refine ⟨.inr ⟨_, _, _, rfl, gy1⟩, ?_⟩
        tm_at "rq"
        refine Or.inr ⟨_, _, rfl, fyo, ?_⟩
        tm_at "rq"
        refine mkF2 (ws := ws) (.inl ⟨fx, rfl, fxo⟩) fun f zs H5 s5 nf hf hz => ?_
        have ez : zs = ws := asc_ext (by obtain ⟨_, _, _, _, h, _⟩ := hf; exact h) li.o.aw hz
        have hf : FO a.C_Fields H5 f ws := ez ▸ hf
        obtain ⟨dz, tz, gz1, gz2, gz3⟩ := id hf
        have fx5 := fxo.same s5
        have hlo5 := s5 _ _ hlo
        have hlt5 := s5 _ _ hlt
        tm_at "rq"
        refine ⟨.inr ⟨_, _, _, rfl, gz1⟩, ?_⟩
        tm_at "rq"
        refine Or.inr ⟨_, _, rfl, hf, ?_⟩
        tm_at "rq"
        intro p np
        tm_at "rq"
        refine ⟨.inr ⟨SqL.of (by tm_at "hp"), SqL.of (by tm_at "hp")⟩, okw, oku, ?_⟩
        tm_at "rq"
        refine ⟨.inr ⟨SqL.of (by tm_at "hp"), SqL.of (by tm_at "hp")⟩, okw, oku, ?_⟩
        tm_at "rq"
        intro p2 np2
        have mp : p ≠ p2 := by tm_at "ne"
        tm_at "rq"
        refine ⟨SD.of (xs := [.bl (decide (ws = us)), .bl (!decide (ws = us)), .bl (decide (ws = ws))]) (ys := [.bl (decide (ws = us)), .bl (!decide (ws = us)), .bl true]) (by tm_at "hp") upd_same ⟨.bl _, .bl _, by rw [decide_eq_true rfl]; exact .bl _, trivial⟩ (show 3 ≤ 1000 by omega), fun H6 s6 => ?_⟩
        tm_at "rq"
        exact ⟨_, _, _, _, _, _, _, _, _, _, rfl, ((li.same s5).same (same_new (same_new (Same.refl _) np) np2)).same s6⟩
      clear y2 y3 y7 y9 y10 y11 y12 y13 y14 y15 li H'
      rintro σ H' ⟨y2, y3, y7, y9, y10, y11, y12, y13, y14, y15, rfl, li⟩
      refine Exists.intro (fun σ H' => Stp (∃ (y2 y3 y7 y9 y10 y11 y12 y13 y14 y15 : Option V), σ = [some (.ref sc), some (.ref st), y2, y3, some (.ref lo), some (.ref lt), some (.ref fx), y7, some (.ref fy), y9, y10, y11, y12, y13, y14, y15] ∧ LawI a.C_Fields c st lo lt fx fy ws us H')) (And.intro ?_ ?_)
      · have hs1 := li.o.hs
        have fxo := li.x
        have fyo := li.y
        have hlo := li.o.hlo
        have hlt := li.o.hlt
        have nlo := li.o.nlo
        have nlt := li.o.nlt
        have lw7 := li.o.lw
        have lu7 := li.o.lu
        have okw : ∀ x ∈ ws, PyData.strOk x = true := fun x hx => isW_ok (li.o.ww x hx)
        have oku : ∀ x ∈ us, PyData.strOk x = true := fun x hx => isW_ok (li.o.wu x hx)
        obtain ⟨dx, tx, gx1, gx2, gx3⟩ := id li.x
        obtain ⟨dy, ty, gy1, gy2, gy3⟩ := id li.y
        have sqlo := SqL.of (K := K) hlo
        tm_at "rq"
        intro tq ntq
        tm_at "rq"
        intro sl nsl
        have w1 : tq ≠ sl := by tm_at "ne"
        obtain ⟨H3, eH3⟩ : ∃ H3, H3 = upd (upd H' tq (.tup (ws.map V.str))) sl (.lst [.ref lo, .ref tq, .non, .int 5, .str "a"]) := ⟨_, rfl⟩
        have s03 : Same H' H3 := by rw [eH3]; exact same_new (same_new (Same.refl H') ntq) nsl
        have hsl : H3 sl = some (.lst [.ref lo, .ref tq, .non, .int 5, .str "a"]) := by rw [eH3]; exact upd_same
        have key : ∀ x ∈ [V.ref lo, V.ref tq, V.non, V.int 5, V.str "a"], ∃ T2, TyV K H3 x T2 ∧ T2 ≠ "dict" := by
          intro x hx
          simp only [List.mem_cons, List.not_mem_nil, or_false] at hx
          rcases hx with rfl | rfl | rfl | rfl | rfl
          · exact ⟨_, .lst (SqL.of (s03 _ _ hlo)), by decide⟩
          · exact ⟨_, .tup (SqT.of (xs := ws.map V.str) (by rw [eH3]; tm_at "hp")), by decide⟩
          · exact ⟨_, .non, by decide⟩
          · exact ⟨_, .int _, by decide⟩
          · exact ⟨_, .str _, by decide⟩
        rw [← eH3]
        clear eH3 nsl ntq
        tm_at "rq"
        refine ⟨⟨_, SqL.of hsl⟩, ?_⟩
        intro D nD
        refine lc_fm walk_list nD (fun _ => some (.bl false)) (fun H' s => SqL.of (s _ _ hsl)) ?_ ?_
        · rintro i x H4 H5 hi pp ⟨rfl, e⟩
          have s4 := pp.2.1
          obtain ⟨T2, ty, nd⟩ := key x (List.mem_of_getElem? e)
          have ty := ty.same s4
          have s04 := s03.trans s4
          have fx4 := fxo.same s04
          have gx4 := s04 _ _ gx1
          tm_at "rq"
          refine ⟨.inl ⟨T2, ty, I_F.sub ty⟩, ?_⟩
          tm_at "rq"
          refine Or.inl ⟨T2, ty, ?_⟩
          tm_at "rq"
          refine Or.inl ⟨T2, ty, ?_⟩
          tm_at "rq"
          exact lc_put pp (by have : i < 5 := hi; omega) (Same.refl _) rfl
        · intro H4 s4 hD
          have hD : H4 D = some (.lst ((List.replicate 5 false).map V.bl)) := hD
          tm_at "rq"
          exact ⟨_, _, _, _, _, _, _, _, _, _, rfl, (li.same s03).same s4⟩
      clear y2 y3 y7 y9 y10 y11 y12 y13 y14 y15 li H'
      rintro σ H' ⟨y2, y3, y7, y9, y10, y11, y12, y13, y14, y15, rfl, li⟩
      refine Exists.intro (fun σ H' => Stp (∃ (y2 y3 y7 y9 y10 y11 y12 y13 y14 y15 : Option V), σ = [some (.ref sc), some (.ref st), y2, y3, some (.ref lo), some (.ref lt), some (.ref fx), y7, some (.ref fy), y9, y10, y11, y12, y13, y14, y15] ∧ LawI a.C_Fields c st lo lt fx fy ws us H')) (And.intro ?_ ?_)
      · tm_at "rq"
        refine for_it walk_range (fun (i : Nat) σ H' => Stp (∃ (y2 y3 y7 y9 y10 y11 y12 y13 y14 y15 : Option V), σ = [some (.ref sc), some (.ref st), y2, y3, some (.ref lo), some (.ref lt), some (.ref fx), y7, some (.ref fy), y9, y10, y11, y12, y13, y14, y15] ∧ LawI a.C_Fields c st lo lt fx fy ws us H')) ?_ ?_ ?_ ?_
        · exact ⟨_, _, _, _, _, _, _, _, _, _, rfl, li⟩
        · intro i σ H' _ _; trivial
        · rintro i x σ H1 H3 hi ⟨y2, y3, y7, y9, y10, y11, y12, y13, y14, y15, rfl, li⟩ ⟨rfl, rfl⟩
          obtain ⟨w0, ew⟩ : ∃ w0 : Int, w0 = 0 + (i : Int) := ⟨_, rfl⟩
          have wlt : w0 < 4 := by have : i < 4 := hi; omega
          have wge : 0 ≤ w0 := by omega
          have ev : (fun i : Nat => V.int (0 + (i : Int))) i = .int w0 := by rw [ew]
          rw [ev]
          tm_at "rq"
          refine Exists.intro (fun σ H' => Stp (∃ (ld : Addr) (ds : List Str), ∃ (y2 y3 y7 y9 y12 y13 y14 y15 : Option V), σ = [some (.ref sc), some (.ref st), y2, y3, some (.ref lo), some (.ref lt), some (.ref fx), y7, some (.ref fy), y9, some (.int w0), some (.ref ld), y12, y13, y14, y15] ∧ LawI a.C_Fields c st lo lt fx fy ws us H' ∧ H' ld = some (.lst (ds.map V.str)) ∧ ld ≠ st ∧ Asc ds ∧ (∀ x, x ∈ ds ↔ dueC w0 (x ∈ ws) (x ∈ us)) ∧ ds.length ≤ 14)) (And.intro ?_ ?_)
          · have hs1 := li.o.hs
            have fxo := li.x
            have fyo := li.y
            have hlo := li.o.hlo
            have hlt := li.o.hlt
            have nlo := li.o.nlo
            have nlt := li.o.nlt
            have lw7 := li.o.lw
            have lu7 := li.o.lu
            have okw : ∀ x ∈ ws, PyData.strOk x = true := fun x hx => isW_ok (li.o.ww x hx)
            have oku : ∀ x ∈ us, PyData.strOk x = true := fun x hx => isW_ok (li.o.wu x hx)
            obtain ⟨dx, tx, gx1, gx2, gx3⟩ := id li.x
            obtain ⟨dy, ty, gy1, gy2, gy3⟩ := id li.y
            tm_at "rq"
            refine ⟨li.o.aw, li.o.au, by omega, fun p ys H3 s3 np hp asc mem => ?_⟩
            tm_at "rq"
            refine ⟨p, ys, _, _, _, _, _, _, _, _, rfl, li.same s3, hp, hs1.ne np, asc, mem, ?_⟩
            have hsub := asc.nodup.length_le_of_subset (l₂ := ws ++ us) fun x hx => List.mem_append.mpr (dueC_or ((mem x).mp hx))
            rw [List.length_append] at hsub
            omega
          clear y2 y3 y7 y9 y10 y11 y12 y13 y14 y15 li H3
          rintro σ H' ⟨ld, ds, y2, y3, y7, y9, y12, y13, y14, y15, rfl, li, hld, nld, asd, md, ldl⟩
          refine Exists.intro (fun σ H' => Stp (∃ (lf g1 g2 : Addr), ∃ (y2 y3 y7 y9 y13 y14 y15 : Option V), σ = [some (.ref sc), some (.ref st), y2, y3, some (.ref lo), some (.ref lt), some (.ref fx), y7, some (.ref fy), y9, some (.int w0), some (.ref ld), some (.ref lf), y13, y14, y15] ∧ LawI a.C_Fields c st lo lt fx fy ws us H' ∧ H' ld = some (.lst (ds.map V.str)) ∧ H' lf = some (.lst [.ref g1, .ref g2]) ∧ lf ≠ st ∧ lf ≠ c ∧ lf ≠ lo ∧ lf ≠ lt ∧ lf ≠ ld ∧ FO a.C_Fields H' g1 ds ∧ FO a.C_Fields H' g2 ds)) (And.intro ?_ ?_)
          · have hs1 := li.o.hs
            have fxo := li.x
            have fyo := li.y
            have hlo := li.o.hlo
            have hlt := li.o.hlt
            have nlo := li.o.nlo
            have nlt := li.o.nlt
            have lw7 := li.o.lw
            have lu7 := li.o.lu
            have okw : ∀ x ∈ ws, PyData.strOk x = true := fun x hx => isW_ok (li.o.ww x hx)
            have oku : ∀ x ∈ us, PyData.strOk x = true := fun x hx => isW_ok (li.o.wu x hx)
            obtain ⟨dx, tx, gx1, gx2, gx3⟩ := id li.x
            obtain ⟨dy, ty, gy1, gy2, gy3⟩ := id li.y
            tm_at "rq"
            refine ⟨.inl ⟨fx, rfl, fxo, .inl ⟨fy, rfl, fyo⟩⟩, by omega, fun g1 zs H3 s3 hg hz => ?_⟩
            have ez : zs = ds := asc_ext (by obtain ⟨_, _, _, _, h, _⟩ := hg; exact h) asd fun x => by rw [hz, md]
            have hg : FO a.C_Fields H3 g1 ds := ez ▸ hg
            have li3 := li.same s3
            have hst3 := li3.o.hs
            have hlt3 := li3.o.hlt
            have wu := li.o.wu
            tm_at "rq"
            intro v vs H4 f4 s4 hv mv lv
            have li4 := li3.fr f4 s4
            have fx4 := li4.x
            tm_at "rq"
            refine ⟨.inl ⟨fx, rfl, fx4, hv⟩, by omega, fun g2 zs2 H5 s5 hg2 hz2 => ?_⟩
            have ez2 : zs2 = ds := asc_ext (by obtain ⟨_, _, _, _, h, _⟩ := hg2; exact h) asd fun x => by rw [hz2, md, mv]
            have hg2 : FO a.C_Fields H5 g2 ds := ez2 ▸ hg2
            have li5 := li4.same s5
            have hg5 := (hg.fr hst3 f4).same s5
            have hld5 := s5 _ _ (f4 _ _ nld (s3 _ _ hld))
            tm_at "rq"
            intro lf nlf
            tm_at "rq"
            have s56 := same_new (o := .lst [.ref g1, .ref g2]) (Same.refl H5) nlf
            exact ⟨lf, g1, g2, _, _, _, _, _, _, _, rfl, li5.same s56, s56 _ _ hld5, upd_same, li5.o.hs.ne nlf, li5.o.hs.neC nlf, non_ne nlf li5.o.hlo, non_ne nlf li5.o.hlt, non_ne nlf hld5, hg5.same s56, hg2.same s56⟩
          clear y2 y3 y7 y9 y12 y13 y14 y15 li hld H'
          rintro σ H' ⟨lf, g1, g2, y2, y3, y7, y9, y13, y14, y15, rfl, li, hld, hlf, m1, m2, m3, m4, m5, hg1, hg2⟩
          refine Exists.intro (fun σ H' => Stp (∃ (lf g1 g2 g3 : Addr), ∃ (y2 y3 y7 y9 y13 y14 y15 : Option V), σ = [some (.ref sc), some (.ref st), y2, y3, some (.ref lo), some (.ref lt), some (.ref fx), y7, some (.ref fy), y9, some (.int w0), some (.ref ld), some (.ref lf), y13, y14, y15] ∧ LawI a.C_Fields c st lo lt fx fy ws us H' ∧ H' ld = some (.lst (ds.map V.str)) ∧ H' lf = some (.lst [.ref g1, .ref g2, .ref g3]) ∧ FO a.C_Fields H' g1 ds ∧ FO a.C_Fields H' g2 ds ∧ FO a.C_Fields H' g3 ds)) (And.intro ?_ ?_)
          · have hs1 := li.o.hs
            have fxo := li.x
            have fyo := li.y
            have hlo := li.o.hlo
            have hlt := li.o.hlt
            have nlo := li.o.nlo
            have nlt := li.o.nlt
            have lw7 := li.o.lw
            have lu7 := li.o.lu
            have okw : ∀ x ∈ ws, PyData.strOk x = true := fun x hx => isW_ok (li.o.ww x hx)
            have oku : ∀ x ∈ us, PyData.strOk x = true := fun x hx => isW_ok (li.o.wu x hx)
            obtain ⟨dx, tx, gx1, gx2, gx3⟩ := id li.x
            obtain ⟨dy, ty, gy1, gy2, gy3⟩ := id li.y
            have ww := li.o.ww
            tm_at "rq"
            intro v vs H4 f4 s4 hv mv lv
            have li4 := li.fr f4 s4
            have fy4 := li4.y
            tm_at "rq"
            refine ⟨.inr ⟨fy, rfl, fy4, hv⟩, by omega, fun g3 zs2 H5 s5 hg3 hz2 => ?_⟩
            have ez2 : zs2 = ds := asc_ext (by obtain ⟨_, _, _, _, h, _⟩ := hg3; exact h) asd fun x => by rw [hz2, md, mv]
            have hg3 : FO a.C_Fields H5 g3 ds := ez2 ▸ hg3
            have li5 := li4.same s5
            have hg15 := (hg1.fr hs1 f4).same s5
            have hg25 := (hg2.fr hs1 f4).same s5
            have hld5 := s5 _ _ (f4 _ _ nld hld)
            have hlf5 := s5 _ _ (f4 _ _ m1 hlf)
            tm_at "rq"
            refine ⟨lf, g1, g2, g3, _, _, _, _, _, _, _, rfl, li5.mutL hlf5 m1 m2 m3 m4, by rw [upd_ne m5.symm]; exact hld5, upd_same, hg15.mutL hlf5, hg25.mutL hlf5, hg3.mutL hlf5⟩
          clear y2 y3 y7 y9 y13 y14 y15 li hld hlf hg1 hg2 H'
          rintro σ H' ⟨lf, g1, g2, g3, y2, y3, y7, y9, y13, y14, y15, rfl, li, hld, hlf, hg1, hg2, hg3⟩
          have hs1 := li.o.hs
          have fxo := li.x
          have fyo := li.y
          have hlo := li.o.hlo
          have hlt := li.o.hlt
          have nlo := li.o.nlo
          have nlt := li.o.nlt
          have lw7 := li.o.lw
          have lu7 := li.o.lu
          have okw : ∀ x ∈ ws, PyData.strOk x = true := fun x hx => isW_ok (li.o.ww x hx)
          have oku : ∀ x ∈ us, PyData.strOk x = true := fun x hx => isW_ok (li.o.wu x hx)
          obtain ⟨dx, tx, gx1, gx2, gx3⟩ := id li.x
          obtain ⟨dy, ty, gy1, gy2, gy3⟩ := id li.y
          have sqlf := SqL.of (K := K) hlf
          tm_at "rq"
          refine ⟨⟨_, sqlf⟩, ?_⟩
          intro D nD
          refine lc_fm walk_list nD (fun _ => some (.bl true)) (fun H' s => SqL.of (s _ _ hlf)) ?_ ?_
          · rintro i x H4 H5 hi pp ⟨rfl, e⟩
            have s4 := pp.2.1
            have hx := List.mem_of_getElem? e
            obtain ⟨g, rfl, hg⟩ : ∃ g, x = .ref g ∧ FO a.C_Fields H' g ds := by
              simp only [List.mem_cons, List.not_mem_nil, or_false] at hx
              rcases hx with rfl | rfl | rfl
              · exact ⟨_, rfl, hg1⟩
              · exact ⟨_, rfl, hg2⟩
              · exact ⟨_, rfl, hg3⟩
            have hg4 := hg.same s4
            have hld4 := s4 _ _ hld
            tm_at "rq"
            intro H6 s6
            exact lc_put pp (by have : i < 3 := hi; omega) s6 rfl
          · intro H4 s4 hD
            have hD : H4 D = some (.lst ((List.replicate 3 true).map V.bl)) := hD
            tm_at "rq"
            exact ⟨_, _, _, _, _, _, _, _, _, _, rfl, li.same s4⟩
        · rintro σ H3 ⟨y2, y3, y7, y9, y10, y11, y12, y13, y14, y15, rfl, li⟩
          exact ⟨_, _, _, _, _, _, _, _, _, _, rfl, li⟩
      clear y2 y3 y7 y9 y10 y11 y12 y13 y14 y15 li H'
      rintro σ H' ⟨y2, y3, y7, y9, y10, y11, y12, y13, y14, y15, rfl, li⟩
      refine Exists.intro (fun σ H' => Stp (∃ (y2 y3 y7 y9 y10 y11 y12 y13 : Option V), σ = [some (.ref sc), some (.ref st), y2, y3, some (.ref lo), some (.ref lt), some (.ref fx), y7, some (.ref fy), y9, y10, y11, y12, y13, some (.bl (ws.all fun x => decide (x ∈ us))), some (.bl (ws.any fun x => decide (x ∈ us)))] ∧ LawI a.C_Fields c st lo lt fx fy ws us H')) (And.intro ?_ ?_)
      · have hs1 := li.o.hs
        have fxo := li.x
        have fyo := li.y
        have hlo := li.o.hlo
        have hlt := li.o.hlt
        have nlo := li.o.nlo
        have nlt := li.o.nlt
        have lw7 := li.o.lw
        have lu7 := li.o.lu
        have okw : ∀ x ∈ ws, PyData.strOk x = true := fun x hx => isW_ok (li.o.ww x hx)
        have oku : ∀ x ∈ us, PyData.strOk x = true := fun x hx => isW_ok (li.o.wu x hx)
        obtain ⟨dx, tx, gx1, gx2, gx3⟩ := id li.x
        obtain ⟨dy, ty, gy1, gy2, gy3⟩ := id li.y
        have rlo : Row K H' lo (ws.map V.str) := .inl (SqL.of hlo)
        have rlt : Row K H' lt (us.map V.str) := .inl (SqL.of hlt)
        tm_at "rq"
        intro J G wk kG D nD
        refine lc_strs wk nD (fun x => some (.bl (decide (x ∈ us)))) (fun H' s => kG H' (.ofSame s)) ?_ ?_
        · intro i x H3 hx p
          have s3 := p.2.1
          tm_at "rq"
          exact lcs_put p hx (by omega) (Same.refl _) rfl
        intro H3 s3 hD
        rw [fm_some] at hD
        have sqD := SqL.of (K := K) hD
        have rlo3 := rlo.same s3
        have rlt3 := rlt.same s3
        tm_at "rq"
        intro J2 G2 wk2 kG2 D2 nD2
        refine lc_strs wk2 nD2 (fun x => some (.bl (decide (x ∈ us)))) (fun H' s => kG2 H' (.ofSame s)) ?_ ?_
        · intro i x H4 hx p
          have s4 := p.2.1
          tm_at "rq"
          exact lcs_put p hx (by omega) (Same.refl _) rfl
        intro H4 s4 hD2
        rw [fm_some] at hD2
        have sqD2 := SqL.of (K := K) hD2
        tm_at "rq"
        rw [List.all_map, List.any_map]
        exact ⟨_, _, _, _, _, _, _, _, rfl, (li.same s3).same s4⟩
      clear y2 y3 y7 y9 y10 y11 y12 y13 y14 y15 li H'
      rintro σ H' ⟨y2, y3, y7, y9, y10, y11, y12, y13, rfl, li⟩
      refine Exists.intro (fun σ H' => Stp (∃ (lf : Addr), ∃ (y2 y3 y7 y9 y10 y11 y13 : Option V), σ = [some (.ref sc), some (.ref st), y2, y3, some (.ref lo), some (.ref lt), some (.ref fx), y7, some (.ref fy), y9, y10, y11, some (.ref lf), y13, some (.bl (ws.all fun x => decide (x ∈ us))), some (.bl (ws.any fun x => decide (x ∈ us)))] ∧ LawI a.C_Fields c st lo lt fx fy ws us H' ∧ H' lf = some (.lst [.bl (ws.all fun x => decide (x ∈ us)), .bl (ws.all fun x => decide (x ∈ us)), .bl (ws.any fun x => decide (x ∈ us))]))) (And.intro ?_ ?_)
      · have hs1 := li.o.hs
        have fxo := li.x
        have fyo := li.y
        have hlo := li.o.hlo
        have hlt := li.o.hlt
        have nlo := li.o.nlo
        have nlt := li.o.nlt
        have lw7 := li.o.lw
        have lu7 := li.o.lu
        have okw : ∀ x ∈ ws, PyData.strOk x = true := fun x hx => isW_ok (li.o.ww x hx)
        have oku : ∀ x ∈ us, PyData.strOk x = true := fun x hx => isW_ok (li.o.wu x hx)
        obtain ⟨dx, tx, gx1, gx2, gx3⟩ := id li.x
        obtain ⟨dy, ty, gy1, gy2, gy3⟩ := id li.y
        have wu := li.o.wu
        tm_at "rq"
        refine ⟨.inl ⟨fy, rfl, fyo⟩, fun H3 s3 => ?_⟩
        have li3 := li.same s3
        have hs3 := li3.o.hs
        have hlt3 := li3.o.hlt
        have gx13 := s3 _ _ gx1
        tm_at "rq"
        intro v vs H4 f4 s4 hv mv lv
        have li4 := li3.fr f4 s4
        have fx4 := li4.x
        have hlt4 := li4.o.hlt
        tm_at "rq"
        refine ⟨hv, fun H5 s5 => ?_⟩
        have li5 := li4.same s5
        have hs5 := li5.o.hs
        have hlt5 := li5.o.hlt
        obtain ⟨dx5, tx5, gx5, _⟩ := id li5.x
        tm_at "rq"
        intro v2 vs2 H6 f6 s6 hv2 mv2 lv2
        have li6 := li5.fr f6 s6
        have fx6 := li6.x
        tm_at "rq"
        refine ⟨hv2, fun H7 s7 => ?_⟩
        have li7 := li6.same s7
        tm_at "rq"
        intro lf nlf
        rw [all_cg mv, any_cg mv2]
        tm_at "rq"
        exact ⟨lf, _, _, _, _, _, _, _, rfl, li7.same (same_new (Same.refl _) nlf), upd_same⟩
      clear y2 y3 y7 y9 y10 y11 y12 y13 li H'
      rintro σ H' ⟨lf, y2, y3, y7, y9, y10, y11, y13, rfl, li, hlf⟩
      refine Exists.intro (fun σ H' => Stp (∃ (y2 y3 y7 y9 y10 y11 y12 y13 y14 y15 : Option V), σ = [some (.ref sc), some (.ref st), y2, y3, some (.ref lo), some (.ref lt), some (.ref fx), y7, some (.ref fy), y9, y10, y11, y12, y13, y14, y15] ∧ LawI a.C_Fields c st lo lt fx fy ws us H')) (And.intro ?_ ?_)
      · have hs1 := li.o.hs
        have fxo := li.x
        have fyo := li.y
        have hlo := li.o.hlo
        have hlt := li.o.hlt
        have nlo := li.o.nlo
        have nlt := li.o.nlt
        have lw7 := li.o.lw
        have lu7 := li.o.lu
        have okw : ∀ x ∈ ws, PyData.strOk x = true := fun x hx => isW_ok (li.o.ww x hx)
        have oku : ∀ x ∈ us, PyData.strOk x = true := fun x hx => isW_ok (li.o.wu x hx)
        obtain ⟨dx, tx, gx1, gx2, gx3⟩ := id li.x
        obtain ⟨dy, ty, gy1, gy2, gy3⟩ := id li.y
        tm_at "rq"
        refine ⟨.inl ⟨fx, rfl, fxo⟩, fun H3 s3 => ?_⟩
        have li3 := li.same s3
        have hlf3 := s3 _ _ hlf
        tm_at "rq"
        intro p1 np1
        have hlf4 : upd H3 p1 (.lst [.bl (us.any fun x => decide (x ∈ ws))]) lf = _ := (upd_ne (by tm_at "ne")).trans hlf3
        tm_at "rq"
        intro p2 np2
        have mp2 : p1 ≠ p2 := by tm_at "ne"
        tm_at "rq"
        intro p3 np3
        have mp3 : p2 ≠ p3 := by tm_at "ne"
        tm_at "rq"
        have ea : (us.any fun x => decide (x ∈ ws)) = ws.any fun x => decide (x ∈ us) := any_comm us ws
        refine ⟨SD.of (xs := [.bl (ws.all fun x => decide (x ∈ us)), .bl (ws.all fun x => decide (x ∈ us)), .bl (ws.any fun x => decide (x ∈ us)), .bl (us.any fun x => decide (x ∈ ws))]) (ys := [.bl (ws.all fun x => decide (x ∈ us)), .bl (ws.all fun x => decide (x ∈ us)), .bl (ws.any fun x => decide (x ∈ us)), .bl (ws.any fun x => decide (x ∈ us))]) (by tm_at "hp") upd_same ⟨.bl _, .bl _, .bl _, by rw [ea]; exact .bl _, trivial⟩ (show 4 ≤ 1000 by omega), fun H6 s6 => ?_⟩
        tm_at "rq"
        exact ⟨_, _, _, _, _, _, _, _, _, _, rfl, (li3.same (same_new (same_new (same_new (Same.refl _) np1) np2) np3)).same s6⟩
      clear y2 y3 y7 y9 y10 y11 y13 li hlf H'
      rintro σ H' ⟨y2, y3, y7, y9, y10, y11, y12, y13, y14, y15, rfl, li⟩
      have hs1 := li.o.hs
      have fxo := li.x
      have fyo := li.y
      have hlo := li.o.hlo
      have hlt := li.o.hlt
      have nlo := li.o.nlo
      have nlt := li.o.nlt
      have lw7 := li.o.lw
      have lu7 := li.o.lu
      have okw : ∀ x ∈ ws, PyData.strOk x = true := fun x hx => isW_ok (li.o.ww x hx)
      have oku : ∀ x ∈ us, PyData.strOk x = true := fun x hx => isW_ok (li.o.wu x hx)
      obtain ⟨dx, tx, gx1, gx2, gx3⟩ := id li.x
      obtain ⟨dy, ty, gy1, gy2, gy3⟩ := id li.y
      tm_at "rq"
      intro H3 s3
      tm_at "rq"
      intro H4 s4
      tm_at "rq"
      exact ⟨_, _, _, _, _, _, _, _, _, _, _, _, _, _, rfl, ((li.same s3).same s4).o.hs⟩
    · rintro σ H' ⟨y2, y3, y4, y5, y6, y7, y8, y9, y10, y11, y12, y13, y14, y15, rfl, hs⟩
      tm_at "rd"
      exact q _

end
end K02


namespace K02
open PySem PySem.Spec PyProof.Rows L2 Sm
theorem all_mk {l : PySem.W.OpenLaw} {w : World} {K : PySem.W.Frag} {h : Heap} {mg : Str → Option Value} {fa : Addr} (X : K.In h) (G : h.Ns mainGlobals mg) (hfa : mg "law" = some (.ref fa))
    {od_is_word an_is_word : Option Addr} {sl_is_word : Array (Option Value)} {oc_is_word kV_is_word dc_is_word pm_is_word cd_is_word ct_is_word : Value} {f_is_word : Addr}
    {od_is_row an_is_row : Option Addr} {sl_is_row : Array (Option Value)} {oc_is_row kV_is_row dc_is_row pm_is_row cd_is_row ct_is_row : Value} {f_is_row : Addr}
    {od_words_in an_words_in : Option Addr} {sl_words_in : Array (Option Value)} {oc_words_in kV_words_in dc_words_in pm_words_in cd_words_in ct_words_in : Value} {f_words_in : Addr}
    {od_do_meet an_do_meet : Option Addr} {sl_do_meet : Array (Option Value)} {oc_do_meet kV_do_meet dc_do_meet pm_do_meet cd_do_meet ct_do_meet : Value} {f_do_meet : Addr}
    {od_either an_either : Option Addr} {sl_either : Array (Option Value)} {oc_either kV_either dc_either pm_either cd_either ct_either : Value} {f_either : Addr}
    {od_both an_both : Option Addr} {sl_both : Array (Option Value)} {oc_both kV_both dc_both pm_both cd_both ct_both : Value} {f_both : Addr}
    {od_without an_without : Option Addr} {sl_without : Array (Option Value)} {oc_without kV_without dc_without pm_without cd_without ct_without : Value} {f_without : Addr}
    {od_one_only an_one_only : Option Addr} {sl_one_only : Array (Option Value)} {oc_one_only kV_one_only dc_one_only pm_one_only cd_one_only ct_one_only : Value} {f_one_only : Addr}
    {od__law_fresh an__law_fresh : Option Addr} {sl__law_fresh : Array (Option Value)} {oc__law_fresh kV__law_fresh dc__law_fresh pm__law_fresh cd__law_fresh ct__law_fresh : Value} {f__law_fresh : Addr}
    {od__law_fill an__law_fill : Option Addr} {sl__law_fill : Array (Option Value)} {oc__law_fill kV__law_fill dc__law_fill pm__law_fill cd__law_fill ct__law_fill : Value} {f__law_fill : Addr}
    {od__law_take an__law_take : Option Addr} {sl__law_take : Array (Option Value)} {oc__law_take kV__law_take dc__law_take pm__law_take cd__law_take ct__law_take : Value} {f__law_take : Addr}
    {od__law_one an__law_one : Option Addr} {sl__law_one : Array (Option Value)} {oc__law_one kV__law_one dc__law_one pm__law_one cd__law_one ct__law_one : Value} {f__law_one : Addr}
    {od__law_mix an__law_mix : Option Addr} {sl__law_mix : Array (Option Value)} {oc__law_mix kV__law_mix dc__law_mix pm__law_mix cd__law_mix ct__law_mix : Value} {f__law_mix : Addr}
    {od__law_same an__law_same : Option Addr} {sl__law_same : Array (Option Value)} {oc__law_same kV__law_same dc__law_same pm__law_same cd__law_same ct__law_same : Value} {f__law_same : Addr}
    {od__law_all_words an__law_all_words : Option Addr} {sl__law_all_words : Array (Option Value)} {oc__law_all_words kV__law_all_words dc__law_all_words pm__law_all_words cd__law_all_words ct__law_all_words : Value} {f__law_all_words : Addr}
    {od__law_some_words an__law_some_words : Option Addr} {sl__law_some_words : Array (Option Value)} {oc__law_some_words kV__law_some_words dc__law_some_words pm__law_some_words cd__law_some_words ct__law_some_words : Value} {f__law_some_words : Addr}
    {od__law_some an__law_some : Option Addr} {sl__law_some : Array (Option Value)} {oc__law_some kV__law_some dc__law_some pm__law_some cd__law_some ct__law_some : Value} {f__law_some : Addr}
    {od__law_rising an__law_rising : Option Addr} {sl__law_rising : Array (Option Value)} {oc__law_rising kV__law_rising dc__law_rising pm__law_rising cd__law_rising ct__law_rising : Value} {f__law_rising : Addr}
    {od__law_doubled an__law_doubled : Option Addr} {sl__law_doubled : Array (Option Value)} {oc__law_doubled kV__law_doubled dc__law_doubled pm__law_doubled cd__law_doubled ct__law_doubled : Value} {f__law_doubled : Addr}
    {od__law_passed an__law_passed : Option Addr} {sl__law_passed : Array (Option Value)} {oc__law_passed kV__law_passed dc__law_passed pm__law_passed cd__law_passed ct__law_passed : Value} {f__law_passed : Addr}
    {od__law_due an__law_due : Option Addr} {sl__law_due : Array (Option Value)} {oc__law_due kV__law_due dc__law_due pm__law_due cd__law_due ct__law_due : Value} {f__law_due : Addr}
    {od__law_joined an__law_joined : Option Addr} {sl__law_joined : Array (Option Value)} {oc__law_joined kV__law_joined dc__law_joined pm__law_joined cd__law_joined ct__law_joined : Value} {f__law_joined : Addr}
    {od__law_right an__law_right : Option Addr} {sl__law_right : Array (Option Value)} {oc__law_right kV__law_right dc__law_right pm__law_right cd__law_right ct__law_right : Value} {f__law_right : Addr}
    {od_law an_law : Option Addr} {sl_law : Array (Option Value)} {oc_law kV_law dc_law pm_law cd_law ct_law : Value} {f_law : Addr}
    {od_Fields___init__ an_Fields___init__ : Option Addr} {sl_Fields___init__ : Array (Option Value)} {oc_Fields___init__ kV_Fields___init__ dc_Fields___init__ pm_Fields___init__ cd_Fields___init__ ct_Fields___init__ : Value} {f_Fields___init__ : Addr}
    {od_Fields___eq__ an_Fields___eq__ : Option Addr} {sl_Fields___eq__ : Array (Option Value)} {oc_Fields___eq__ kV_Fields___eq__ dc_Fields___eq__ pm_Fields___eq__ cd_Fields___eq__ ct_Fields___eq__ : Value} {f_Fields___eq__ : Addr}
    {od_Fields___len__ an_Fields___len__ : Option Addr} {sl_Fields___len__ : Array (Option Value)} {oc_Fields___len__ kV_Fields___len__ dc_Fields___len__ pm_Fields___len__ cd_Fields___len__ ct_Fields___len__ : Value} {f_Fields___len__ : Addr}
    {od_Fields___contains__ an_Fields___contains__ : Option Addr} {sl_Fields___contains__ : Array (Option Value)} {oc_Fields___contains__ kV_Fields___contains__ dc_Fields___contains__ pm_Fields___contains__ cd_Fields___contains__ ct_Fields___contains__ : Value} {f_Fields___contains__ : Addr}
    {od_Fields_words an_Fields_words : Option Addr} {sl_Fields_words : Array (Option Value)} {oc_Fields_words kV_Fields_words dc_Fields_words pm_Fields_words cd_Fields_words ct_Fields_words : Value} {f_Fields_words : Addr}
    {od_Fields_meets an_Fields_meets : Option Addr} {sl_Fields_meets : Array (Option Value)} {oc_Fields_meets kV_Fields_meets dc_Fields_meets pm_Fields_meets cd_Fields_meets ct_Fields_meets : Value} {f_Fields_meets : Addr}
    {od_Fields_within an_Fields_within : Option Addr} {sl_Fields_within : Array (Option Value)} {oc_Fields_within kV_Fields_within dc_Fields_within pm_Fields_within cd_Fields_within ct_Fields_within : Value} {f_Fields_within : Addr}
    {od_Fields___or__ an_Fields___or__ : Option Addr} {sl_Fields___or__ : Array (Option Value)} {oc_Fields___or__ kV_Fields___or__ dc_Fields___or__ pm_Fields___or__ cd_Fields___or__ ct_Fields___or__ : Value} {f_Fields___or__ : Addr}
    {od_Fields___ror__ an_Fields___ror__ : Option Addr} {sl_Fields___ror__ : Array (Option Value)} {oc_Fields___ror__ kV_Fields___ror__ dc_Fields___ror__ pm_Fields___ror__ cd_Fields___ror__ ct_Fields___ror__ : Value} {f_Fields___ror__ : Addr}
    {od_Fields___and__ an_Fields___and__ : Option Addr} {sl_Fields___and__ : Array (Option Value)} {oc_Fields___and__ kV_Fields___and__ dc_Fields___and__ pm_Fields___and__ cd_Fields___and__ ct_Fields___and__ : Value} {f_Fields___and__ : Addr}
    {od_Fields___rand__ an_Fields___rand__ : Option Addr} {sl_Fields___rand__ : Array (Option Value)} {oc_Fields___rand__ kV_Fields___rand__ dc_Fields___rand__ pm_Fields___rand__ cd_Fields___rand__ ct_Fields___rand__ : Value} {f_Fields___rand__ : Addr}
    {od_Fields___sub__ an_Fields___sub__ : Option Addr} {sl_Fields___sub__ : Array (Option Value)} {oc_Fields___sub__ kV_Fields___sub__ dc_Fields___sub__ pm_Fields___sub__ cd_Fields___sub__ ct_Fields___sub__ : Value} {f_Fields___sub__ : Addr}
    {od_Fields___rsub__ an_Fields___rsub__ : Option Addr} {sl_Fields___rsub__ : Array (Option Value)} {oc_Fields___rsub__ kV_Fields___rsub__ dc_Fields___rsub__ pm_Fields___rsub__ cd_Fields___rsub__ ct_Fields___rsub__ : Value} {f_Fields___rsub__ : Addr}
    {od_Fields___xor__ an_Fields___xor__ : Option Addr} {sl_Fields___xor__ : Array (Option Value)} {oc_Fields___xor__ kV_Fields___xor__ dc_Fields___xor__ pm_Fields___xor__ cd_Fields___xor__ ct_Fields___xor__ : Value} {f_Fields___xor__ : Addr}
    {od_Fields___rxor__ an_Fields___rxor__ : Option Addr} {sl_Fields___rxor__ : Array (Option Value)} {oc_Fields___rxor__ kV_Fields___rxor__ dc_Fields___rxor__ pm_Fields___rxor__ cd_Fields___rxor__ ct_Fields___rxor__ : Value} {f_Fields___rxor__ : Addr}
    {C_Fields : Addr}
    {t_LETTERS : Tok}
    {t_LONGEST : Tok}
    (aC_Fields : PySem.W.nsIn K mainGlobals "Fields" = some (some (.ref C_Fields)))
    (a_is_word : PySem.W.nsIn K mainGlobals "is_word" = some (some (.ref f_is_word)))
    (l_is_word : K.lookup f_is_word = some ⟨oc_is_word, od_is_word, .func (PySem.W.fnOf "is_word" "is_word" (defArgs (topS 6)) (defBody (topS 6)) (defScope (topS 6)) .none kV_is_word dc_is_word pm_is_word an_is_word cd_is_word ct_is_word), sl_is_word⟩)
    (c_is_word : PySem.W.codeIn K cd_is_word "is_word" = true)
    (k_is_word : PySem.W.keepIn K (.ref f_is_word) = true)
    (a_is_row : PySem.W.nsIn K mainGlobals "is_row" = some (some (.ref f_is_row)))
    (l_is_row : K.lookup f_is_row = some ⟨oc_is_row, od_is_row, .func (PySem.W.fnOf "is_row" "is_row" (defArgs (topS 7)) (defBody (topS 7)) (defScope (topS 7)) .none kV_is_row dc_is_row pm_is_row an_is_row cd_is_row ct_is_row), sl_is_row⟩)
    (c_is_row : PySem.W.codeIn K cd_is_row "is_row" = true)
    (k_is_row : PySem.W.keepIn K (.ref f_is_row) = true)
    (a_words_in : PySem.W.nsIn K mainGlobals "words_in" = some (some (.ref f_words_in)))
    (l_words_in : K.lookup f_words_in = some ⟨oc_words_in, od_words_in, .func (PySem.W.fnOf "words_in" "words_in" (defArgs (topS 9)) (defBody (topS 9)) (defScope (topS 9)) .none kV_words_in dc_words_in pm_words_in an_words_in cd_words_in ct_words_in), sl_words_in⟩)
    (c_words_in : PySem.W.codeIn K cd_words_in "words_in" = true)
    (k_words_in : PySem.W.keepIn K (.ref f_words_in) = true)
    (a_do_meet : PySem.W.nsIn K mainGlobals "do_meet" = some (some (.ref f_do_meet)))
    (l_do_meet : K.lookup f_do_meet = some ⟨oc_do_meet, od_do_meet, .func (PySem.W.fnOf "do_meet" "do_meet" (defArgs (topS 10)) (defBody (topS 10)) (defScope (topS 10)) .none kV_do_meet dc_do_meet pm_do_meet an_do_meet cd_do_meet ct_do_meet), sl_do_meet⟩)
    (c_do_meet : PySem.W.codeIn K cd_do_meet "do_meet" = true)
    (k_do_meet : PySem.W.keepIn K (.ref f_do_meet) = true)
    (a_either : PySem.W.nsIn K mainGlobals "either" = some (some (.ref f_either)))
    (l_either : K.lookup f_either = some ⟨oc_either, od_either, .func (PySem.W.fnOf "either" "either" (defArgs (topS 12)) (defBody (topS 12)) (defScope (topS 12)) .none kV_either dc_either pm_either an_either cd_either ct_either), sl_either⟩)
    (c_either : PySem.W.codeIn K cd_either "either" = true)
    (k_either : PySem.W.keepIn K (.ref f_either) = true)
    (a_both : PySem.W.nsIn K mainGlobals "both" = some (some (.ref f_both)))
    (l_both : K.lookup f_both = some ⟨oc_both, od_both, .func (PySem.W.fnOf "both" "both" (defArgs (topS 13)) (defBody (topS 13)) (defScope (topS 13)) .none kV_both dc_both pm_both an_both cd_both ct_both), sl_both⟩)
    (c_both : PySem.W.codeIn K cd_both "both" = true)
    (k_both : PySem.W.keepIn K (.ref f_both) = true)
    (a_without : PySem.W.nsIn K mainGlobals "without" = some (some (.ref f_without)))
    (l_without : K.lookup f_without = some ⟨oc_without, od_without, .func (PySem.W.fnOf "without" "without" (defArgs (topS 14)) (defBody (topS 14)) (defScope (topS 14)) .none kV_without dc_without pm_without an_without cd_without ct_without), sl_without⟩)
    (c_without : PySem.W.codeIn K cd_without "without" = true)
    (k_without : PySem.W.keepIn K (.ref f_without) = true)
    (a_one_only : PySem.W.nsIn K mainGlobals "one_only" = some (some (.ref f_one_only)))
    (l_one_only : K.lookup f_one_only = some ⟨oc_one_only, od_one_only, .func (PySem.W.fnOf "one_only" "one_only" (defArgs (topS 15)) (defBody (topS 15)) (defScope (topS 15)) .none kV_one_only dc_one_only pm_one_only an_one_only cd_one_only ct_one_only), sl_one_only⟩)
    (c_one_only : PySem.W.codeIn K cd_one_only "one_only" = true)
    (k_one_only : PySem.W.keepIn K (.ref f_one_only) = true)
    (a__law_fresh : PySem.W.nsIn K mainGlobals "_law_fresh" = some (some (.ref f__law_fresh)))
    (l__law_fresh : K.lookup f__law_fresh = some ⟨oc__law_fresh, od__law_fresh, .func (PySem.W.fnOf "_law_fresh" "_law_fresh" (defArgs (topS 17)) (defBody (topS 17)) (defScope (topS 17)) .none kV__law_fresh dc__law_fresh pm__law_fresh an__law_fresh cd__law_fresh ct__law_fresh), sl__law_fresh⟩)
    (c__law_fresh : PySem.W.codeIn K cd__law_fresh "_law_fresh" = true)
    (k__law_fresh : PySem.W.keepIn K (.ref f__law_fresh) = true)
    (a__law_fill : PySem.W.nsIn K mainGlobals "_law_fill" = some (some (.ref f__law_fill)))
    (l__law_fill : K.lookup f__law_fill = some ⟨oc__law_fill, od__law_fill, .func (PySem.W.fnOf "_law_fill" "_law_fill" (defArgs (topS 18)) (defBody (topS 18)) (defScope (topS 18)) .none kV__law_fill dc__law_fill pm__law_fill an__law_fill cd__law_fill ct__law_fill), sl__law_fill⟩)
    (c__law_fill : PySem.W.codeIn K cd__law_fill "_law_fill" = true)
    (k__law_fill : PySem.W.keepIn K (.ref f__law_fill) = true)
    (a__law_take : PySem.W.nsIn K mainGlobals "_law_take" = some (some (.ref f__law_take)))
    (l__law_take : K.lookup f__law_take = some ⟨oc__law_take, od__law_take, .func (PySem.W.fnOf "_law_take" "_law_take" (defArgs (topS 19)) (defBody (topS 19)) (defScope (topS 19)) .none kV__law_take dc__law_take pm__law_take an__law_take cd__law_take ct__law_take), sl__law_take⟩)
    (c__law_take : PySem.W.codeIn K cd__law_take "_law_take" = true)
    (k__law_take : PySem.W.keepIn K (.ref f__law_take) = true)
    (a__law_one : PySem.W.nsIn K mainGlobals "_law_one" = some (some (.ref f__law_one)))
    (l__law_one : K.lookup f__law_one = some ⟨oc__law_one, od__law_one, .func (PySem.W.fnOf "_law_one" "_law_one" (defArgs (topS 20)) (defBody (topS 20)) (defScope (topS 20)) .none kV__law_one dc__law_one pm__law_one an__law_one cd__law_one ct__law_one), sl__law_one⟩)
    (c__law_one : PySem.W.codeIn K cd__law_one "_law_one" = true)
    (k__law_one : PySem.W.keepIn K (.ref f__law_one) = true)
    (a__law_mix : PySem.W.nsIn K mainGlobals "_law_mix" = some (some (.ref f__law_mix)))
    (l__law_mix : K.lookup f__law_mix = some ⟨oc__law_mix, od__law_mix, .func (PySem.W.fnOf "_law_mix" "_law_mix" (defArgs (topS 21)) (defBody (topS 21)) (defScope (topS 21)) .none kV__law_mix dc__law_mix pm__law_mix an__law_mix cd__law_mix ct__law_mix), sl__law_mix⟩)
    (c__law_mix : PySem.W.codeIn K cd__law_mix "_law_mix" = true)
    (k__law_mix : PySem.W.keepIn K (.ref f__law_mix) = true)
    (a__law_same : PySem.W.nsIn K mainGlobals "_law_same" = some (some (.ref f__law_same)))
    (l__law_same : K.lookup f__law_same = some ⟨oc__law_same, od__law_same, .func (PySem.W.fnOf "_law_same" "_law_same" (defArgs (topS 22)) (defBody (topS 22)) (defScope (topS 22)) .none kV__law_same dc__law_same pm__law_same an__law_same cd__law_same ct__law_same), sl__law_same⟩)
    (c__law_same : PySem.W.codeIn K cd__law_same "_law_same" = true)
    (k__law_same : PySem.W.keepIn K (.ref f__law_same) = true)
    (a__law_all_words : PySem.W.nsIn K mainGlobals "_law_all_words" = some (some (.ref f__law_all_words)))
    (l__law_all_words : K.lookup f__law_all_words = some ⟨oc__law_all_words, od__law_all_words, .func (PySem.W.fnOf "_law_all_words" "_law_all_words" (defArgs (topS 23)) (defBody (topS 23)) (defScope (topS 23)) .none kV__law_all_words dc__law_all_words pm__law_all_words an__law_all_words cd__law_all_words ct__law_all_words), sl__law_all_words⟩)
    (c__law_all_words : PySem.W.codeIn K cd__law_all_words "_law_all_words" = true)
    (k__law_all_words : PySem.W.keepIn K (.ref f__law_all_words) = true)
    (a__law_some_words : PySem.W.nsIn K mainGlobals "_law_some_words" = some (some (.ref f__law_some_words)))
    (l__law_some_words : K.lookup f__law_some_words = some ⟨oc__law_some_words, od__law_some_words, .func (PySem.W.fnOf "_law_some_words" "_law_some_words" (defArgs (topS 24)) (defBody (topS 24)) (defScope (topS 24)) .none kV__law_some_words dc__law_some_words pm__law_some_words an__law_some_words cd__law_some_words ct__law_some_words), sl__law_some_words⟩)
    (c__law_some_words : PySem.W.codeIn K cd__law_some_words "_law_some_words" = true)
    (k__law_some_words : PySem.W.keepIn K (.ref f__law_some_words) = true)
    (a__law_some : PySem.W.nsIn K mainGlobals "_law_some" = some (some (.ref f__law_some)))
    (l__law_some : K.lookup f__law_some = some ⟨oc__law_some, od__law_some, .func (PySem.W.fnOf "_law_some" "_law_some" (defArgs (topS 25)) (defBody (topS 25)) (defScope (topS 25)) .none kV__law_some dc__law_some pm__law_some an__law_some cd__law_some ct__law_some), sl__law_some⟩)
    (c__law_some : PySem.W.codeIn K cd__law_some "_law_some" = true)
    (k__law_some : PySem.W.keepIn K (.ref f__law_some) = true)
    (a__law_rising : PySem.W.nsIn K mainGlobals "_law_rising" = some (some (.ref f__law_rising)))
    (l__law_rising : K.lookup f__law_rising = some ⟨oc__law_rising, od__law_rising, .func (PySem.W.fnOf "_law_rising" "_law_rising" (defArgs (topS 26)) (defBody (topS 26)) (defScope (topS 26)) .none kV__law_rising dc__law_rising pm__law_rising an__law_rising cd__law_rising ct__law_rising), sl__law_rising⟩)
    (c__law_rising : PySem.W.codeIn K cd__law_rising "_law_rising" = true)
    (k__law_rising : PySem.W.keepIn K (.ref f__law_rising) = true)
    (a__law_doubled : PySem.W.nsIn K mainGlobals "_law_doubled" = some (some (.ref f__law_doubled)))
    (l__law_doubled : K.lookup f__law_doubled = some ⟨oc__law_doubled, od__law_doubled, .func (PySem.W.fnOf "_law_doubled" "_law_doubled" (defArgs (topS 27)) (defBody (topS 27)) (defScope (topS 27)) .none kV__law_doubled dc__law_doubled pm__law_doubled an__law_doubled cd__law_doubled ct__law_doubled), sl__law_doubled⟩)
    (c__law_doubled : PySem.W.codeIn K cd__law_doubled "_law_doubled" = true)
    (k__law_doubled : PySem.W.keepIn K (.ref f__law_doubled) = true)
    (a__law_passed : PySem.W.nsIn K mainGlobals "_law_passed" = some (some (.ref f__law_passed)))
    (l__law_passed : K.lookup f__law_passed = some ⟨oc__law_passed, od__law_passed, .func (PySem.W.fnOf "_law_passed" "_law_passed" (defArgs (topS 28)) (defBody (topS 28)) (defScope (topS 28)) .none kV__law_passed dc__law_passed pm__law_passed an__law_passed cd__law_passed ct__law_passed), sl__law_passed⟩)
    (c__law_passed : PySem.W.codeIn K cd__law_passed "_law_passed" = true)
    (k__law_passed : PySem.W.keepIn K (.ref f__law_passed) = true)
    (a__law_due : PySem.W.nsIn K mainGlobals "_law_due" = some (some (.ref f__law_due)))
    (l__law_due : K.lookup f__law_due = some ⟨oc__law_due, od__law_due, .func (PySem.W.fnOf "_law_due" "_law_due" (defArgs (topS 29)) (defBody (topS 29)) (defScope (topS 29)) .none kV__law_due dc__law_due pm__law_due an__law_due cd__law_due ct__law_due), sl__law_due⟩)
    (c__law_due : PySem.W.codeIn K cd__law_due "_law_due" = true)
    (k__law_due : PySem.W.keepIn K (.ref f__law_due) = true)
    (a__law_joined : PySem.W.nsIn K mainGlobals "_law_joined" = some (some (.ref f__law_joined)))
    (l__law_joined : K.lookup f__law_joined = some ⟨oc__law_joined, od__law_joined, .func (PySem.W.fnOf "_law_joined" "_law_joined" (defArgs (topS 30)) (defBody (topS 30)) (defScope (topS 30)) .none kV__law_joined dc__law_joined pm__law_joined an__law_joined cd__law_joined ct__law_joined), sl__law_joined⟩)
    (c__law_joined : PySem.W.codeIn K cd__law_joined "_law_joined" = true)
    (k__law_joined : PySem.W.keepIn K (.ref f__law_joined) = true)
    (a__law_right : PySem.W.nsIn K mainGlobals "_law_right" = some (some (.ref f__law_right)))
    (l__law_right : K.lookup f__law_right = some ⟨oc__law_right, od__law_right, .func (PySem.W.fnOf "_law_right" "_law_right" (defArgs (topS 31)) (defBody (topS 31)) (defScope (topS 31)) .none kV__law_right dc__law_right pm__law_right an__law_right cd__law_right ct__law_right), sl__law_right⟩)
    (c__law_right : PySem.W.codeIn K cd__law_right "_law_right" = true)
    (k__law_right : PySem.W.keepIn K (.ref f__law_right) = true)
    (a_law : PySem.W.nsIn K mainGlobals "law" = some (some (.ref f_law)))
    (l_law : K.lookup f_law = some ⟨oc_law, od_law, .func (PySem.W.fnOf "law" "law" (defArgs (topS 32)) (defBody (topS 32)) (defScope (topS 32)) .none kV_law dc_law pm_law an_law cd_law ct_law), sl_law⟩)
    (c_law : PySem.W.codeIn K cd_law "law" = true)
    (k_law : PySem.W.keepIn K (.ref f_law) = true)
    (a_Fields___init__ : PySem.W.findIn K (.ref C_Fields) "__init__" = some (some (.ref f_Fields___init__)))
    (i_Fields___init__ : PySem.W.isFn K (.ref f_Fields___init__) = true)
    (l_Fields___init__ : K.lookup f_Fields___init__ = some ⟨oc_Fields___init__, od_Fields___init__, .func (PySem.W.fnOf "__init__" "Fields.__init__" (defArgs (inClass (topS 11) 0)) (defBody (inClass (topS 11) 0)) (defScope (inClass (topS 11) 0)) .none kV_Fields___init__ dc_Fields___init__ pm_Fields___init__ an_Fields___init__ cd_Fields___init__ ct_Fields___init__), sl_Fields___init__⟩)
    (c_Fields___init__ : PySem.W.codeIn K cd_Fields___init__ "Fields.__init__" = true)
    (k_Fields___init__ : PySem.W.keepIn K (.ref f_Fields___init__) = true)
    (a_Fields___eq__ : PySem.W.findIn K (.ref C_Fields) "__eq__" = some (some (.ref f_Fields___eq__)))
    (i_Fields___eq__ : PySem.W.isFn K (.ref f_Fields___eq__) = true)
    (l_Fields___eq__ : K.lookup f_Fields___eq__ = some ⟨oc_Fields___eq__, od_Fields___eq__, .func (PySem.W.fnOf "__eq__" "Fields.__eq__" (defArgs (inClass (topS 11) 1)) (defBody (inClass (topS 11) 1)) (defScope (inClass (topS 11) 1)) .none kV_Fields___eq__ dc_Fields___eq__ pm_Fields___eq__ an_Fields___eq__ cd_Fields___eq__ ct_Fields___eq__), sl_Fields___eq__⟩)
    (c_Fields___eq__ : PySem.W.codeIn K cd_Fields___eq__ "Fields.__eq__" = true)
    (k_Fields___eq__ : PySem.W.keepIn K (.ref f_Fields___eq__) = true)
    (a_Fields___len__ : PySem.W.findIn K (.ref C_Fields) "__len__" = some (some (.ref f_Fields___len__)))
    (i_Fields___len__ : PySem.W.isFn K (.ref f_Fields___len__) = true)
    (l_Fields___len__ : K.lookup f_Fields___len__ = some ⟨oc_Fields___len__, od_Fields___len__, .func (PySem.W.fnOf "__len__" "Fields.__len__" (defArgs (inClass (topS 11) 2)) (defBody (inClass (topS 11) 2)) (defScope (inClass (topS 11) 2)) .none kV_Fields___len__ dc_Fields___len__ pm_Fields___len__ an_Fields___len__ cd_Fields___len__ ct_Fields___len__), sl_Fields___len__⟩)
    (c_Fields___len__ : PySem.W.codeIn K cd_Fields___len__ "Fields.__len__" = true)
    (k_Fields___len__ : PySem.W.keepIn K (.ref f_Fields___len__) = true)
    (a_Fields___contains__ : PySem.W.findIn K (.ref C_Fields) "__contains__" = some (some (.ref f_Fields___contains__)))
    (i_Fields___contains__ : PySem.W.isFn K (.ref f_Fields___contains__) = true)
    (l_Fields___contains__ : K.lookup f_Fields___contains__ = some ⟨oc_Fields___contains__, od_Fields___contains__, .func (PySem.W.fnOf "__contains__" "Fields.__contains__" (defArgs (inClass (topS 11) 3)) (defBody (inClass (topS 11) 3)) (defScope (inClass (topS 11) 3)) .none kV_Fields___contains__ dc_Fields___contains__ pm_Fields___contains__ an_Fields___contains__ cd_Fields___contains__ ct_Fields___contains__), sl_Fields___contains__⟩)
    (c_Fields___contains__ : PySem.W.codeIn K cd_Fields___contains__ "Fields.__contains__" = true)
    (k_Fields___contains__ : PySem.W.keepIn K (.ref f_Fields___contains__) = true)
    (a_Fields_words : PySem.W.findIn K (.ref C_Fields) "words" = some (some (.ref f_Fields_words)))
    (i_Fields_words : PySem.W.isFn K (.ref f_Fields_words) = true)
    (l_Fields_words : K.lookup f_Fields_words = some ⟨oc_Fields_words, od_Fields_words, .func (PySem.W.fnOf "words" "Fields.words" (defArgs (inClass (topS 11) 4)) (defBody (inClass (topS 11) 4)) (defScope (inClass (topS 11) 4)) .none kV_Fields_words dc_Fields_words pm_Fields_words an_Fields_words cd_Fields_words ct_Fields_words), sl_Fields_words⟩)
    (c_Fields_words : PySem.W.codeIn K cd_Fields_words "Fields.words" = true)
    (k_Fields_words : PySem.W.keepIn K (.ref f_Fields_words) = true)
    (a_Fields_meets : PySem.W.findIn K (.ref C_Fields) "meets" = some (some (.ref f_Fields_meets)))
    (i_Fields_meets : PySem.W.isFn K (.ref f_Fields_meets) = true)
    (l_Fields_meets : K.lookup f_Fields_meets = some ⟨oc_Fields_meets, od_Fields_meets, .func (PySem.W.fnOf "meets" "Fields.meets" (defArgs (inClass (topS 11) 5)) (defBody (inClass (topS 11) 5)) (defScope (inClass (topS 11) 5)) .none kV_Fields_meets dc_Fields_meets pm_Fields_meets an_Fields_meets cd_Fields_meets ct_Fields_meets), sl_Fields_meets⟩)
    (c_Fields_meets : PySem.W.codeIn K cd_Fields_meets "Fields.meets" = true)
    (k_Fields_meets : PySem.W.keepIn K (.ref f_Fields_meets) = true)
    (a_Fields_within : PySem.W.findIn K (.ref C_Fields) "within" = some (some (.ref f_Fields_within)))
    (i_Fields_within : PySem.W.isFn K (.ref f_Fields_within) = true)
    (l_Fields_within : K.lookup f_Fields_within = some ⟨oc_Fields_within, od_Fields_within, .func (PySem.W.fnOf "within" "Fields.within" (defArgs (inClass (topS 11) 6)) (defBody (inClass (topS 11) 6)) (defScope (inClass (topS 11) 6)) .none kV_Fields_within dc_Fields_within pm_Fields_within an_Fields_within cd_Fields_within ct_Fields_within), sl_Fields_within⟩)
    (c_Fields_within : PySem.W.codeIn K cd_Fields_within "Fields.within" = true)
    (k_Fields_within : PySem.W.keepIn K (.ref f_Fields_within) = true)
    (a_Fields___or__ : PySem.W.findIn K (.ref C_Fields) "__or__" = some (some (.ref f_Fields___or__)))
    (i_Fields___or__ : PySem.W.isFn K (.ref f_Fields___or__) = true)
    (l_Fields___or__ : K.lookup f_Fields___or__ = some ⟨oc_Fields___or__, od_Fields___or__, .func (PySem.W.fnOf "__or__" "Fields.__or__" (defArgs (inClass (topS 11) 7)) (defBody (inClass (topS 11) 7)) (defScope (inClass (topS 11) 7)) .none kV_Fields___or__ dc_Fields___or__ pm_Fields___or__ an_Fields___or__ cd_Fields___or__ ct_Fields___or__), sl_Fields___or__⟩)
    (c_Fields___or__ : PySem.W.codeIn K cd_Fields___or__ "Fields.__or__" = true)
    (k_Fields___or__ : PySem.W.keepIn K (.ref f_Fields___or__) = true)
    (a_Fields___ror__ : PySem.W.findIn K (.ref C_Fields) "__ror__" = some (some (.ref f_Fields___ror__)))
    (i_Fields___ror__ : PySem.W.isFn K (.ref f_Fields___ror__) = true)
    (l_Fields___ror__ : K.lookup f_Fields___ror__ = some ⟨oc_Fields___ror__, od_Fields___ror__, .func (PySem.W.fnOf "__ror__" "Fields.__ror__" (defArgs (inClass (topS 11) 8)) (defBody (inClass (topS 11) 8)) (defScope (inClass (topS 11) 8)) .none kV_Fields___ror__ dc_Fields___ror__ pm_Fields___ror__ an_Fields___ror__ cd_Fields___ror__ ct_Fields___ror__), sl_Fields___ror__⟩)
    (c_Fields___ror__ : PySem.W.codeIn K cd_Fields___ror__ "Fields.__ror__" = true)
    (k_Fields___ror__ : PySem.W.keepIn K (.ref f_Fields___ror__) = true)
    (a_Fields___and__ : PySem.W.findIn K (.ref C_Fields) "__and__" = some (some (.ref f_Fields___and__)))
    (i_Fields___and__ : PySem.W.isFn K (.ref f_Fields___and__) = true)
    (l_Fields___and__ : K.lookup f_Fields___and__ = some ⟨oc_Fields___and__, od_Fields___and__, .func (PySem.W.fnOf "__and__" "Fields.__and__" (defArgs (inClass (topS 11) 9)) (defBody (inClass (topS 11) 9)) (defScope (inClass (topS 11) 9)) .none kV_Fields___and__ dc_Fields___and__ pm_Fields___and__ an_Fields___and__ cd_Fields___and__ ct_Fields___and__), sl_Fields___and__⟩)
    (c_Fields___and__ : PySem.W.codeIn K cd_Fields___and__ "Fields.__and__" = true)
    (k_Fields___and__ : PySem.W.keepIn K (.ref f_Fields___and__) = true)
    (a_Fields___rand__ : PySem.W.findIn K (.ref C_Fields) "__rand__" = some (some (.ref f_Fields___rand__)))
    (i_Fields___rand__ : PySem.W.isFn K (.ref f_Fields___rand__) = true)
    (l_Fields___rand__ : K.lookup f_Fields___rand__ = some ⟨oc_Fields___rand__, od_Fields___rand__, .func (PySem.W.fnOf "__rand__" "Fields.__rand__" (defArgs (inClass (topS 11) 10)) (defBody (inClass (topS 11) 10)) (defScope (inClass (topS 11) 10)) .none kV_Fields___rand__ dc_Fields___rand__ pm_Fields___rand__ an_Fields___rand__ cd_Fields___rand__ ct_Fields___rand__), sl_Fields___rand__⟩)
    (c_Fields___rand__ : PySem.W.codeIn K cd_Fields___rand__ "Fields.__rand__" = true)
    (k_Fields___rand__ : PySem.W.keepIn K (.ref f_Fields___rand__) = true)
    (a_Fields___sub__ : PySem.W.findIn K (.ref C_Fields) "__sub__" = some (some (.ref f_Fields___sub__)))
    (i_Fields___sub__ : PySem.W.isFn K (.ref f_Fields___sub__) = true)
    (l_Fields___sub__ : K.lookup f_Fields___sub__ = some ⟨oc_Fields___sub__, od_Fields___sub__, .func (PySem.W.fnOf "__sub__" "Fields.__sub__" (defArgs (inClass (topS 11) 11)) (defBody (inClass (topS 11) 11)) (defScope (inClass (topS 11) 11)) .none kV_Fields___sub__ dc_Fields___sub__ pm_Fields___sub__ an_Fields___sub__ cd_Fields___sub__ ct_Fields___sub__), sl_Fields___sub__⟩)
    (c_Fields___sub__ : PySem.W.codeIn K cd_Fields___sub__ "Fields.__sub__" = true)
    (k_Fields___sub__ : PySem.W.keepIn K (.ref f_Fields___sub__) = true)
    (a_Fields___rsub__ : PySem.W.findIn K (.ref C_Fields) "__rsub__" = some (some (.ref f_Fields___rsub__)))
    (i_Fields___rsub__ : PySem.W.isFn K (.ref f_Fields___rsub__) = true)
    (l_Fields___rsub__ : K.lookup f_Fields___rsub__ = some ⟨oc_Fields___rsub__, od_Fields___rsub__, .func (PySem.W.fnOf "__rsub__" "Fields.__rsub__" (defArgs (inClass (topS 11) 12)) (defBody (inClass (topS 11) 12)) (defScope (inClass (topS 11) 12)) .none kV_Fields___rsub__ dc_Fields___rsub__ pm_Fields___rsub__ an_Fields___rsub__ cd_Fields___rsub__ ct_Fields___rsub__), sl_Fields___rsub__⟩)
    (c_Fields___rsub__ : PySem.W.codeIn K cd_Fields___rsub__ "Fields.__rsub__" = true)
    (k_Fields___rsub__ : PySem.W.keepIn K (.ref f_Fields___rsub__) = true)
    (a_Fields___xor__ : PySem.W.findIn K (.ref C_Fields) "__xor__" = some (some (.ref f_Fields___xor__)))
    (i_Fields___xor__ : PySem.W.isFn K (.ref f_Fields___xor__) = true)
    (l_Fields___xor__ : K.lookup f_Fields___xor__ = some ⟨oc_Fields___xor__, od_Fields___xor__, .func (PySem.W.fnOf "__xor__" "Fields.__xor__" (defArgs (inClass (topS 11) 13)) (defBody (inClass (topS 11) 13)) (defScope (inClass (topS 11) 13)) .none kV_Fields___xor__ dc_Fields___xor__ pm_Fields___xor__ an_Fields___xor__ cd_Fields___xor__ ct_Fields___xor__), sl_Fields___xor__⟩)
    (c_Fields___xor__ : PySem.W.codeIn K cd_Fields___xor__ "Fields.__xor__" = true)
    (k_Fields___xor__ : PySem.W.keepIn K (.ref f_Fields___xor__) = true)
    (a_Fields___rxor__ : PySem.W.findIn K (.ref C_Fields) "__rxor__" = some (some (.ref f_Fields___rxor__)))
    (i_Fields___rxor__ : PySem.W.isFn K (.ref f_Fields___rxor__) = true)
    (l_Fields___rxor__ : K.lookup f_Fields___rxor__ = some ⟨oc_Fields___rxor__, od_Fields___rxor__, .func (PySem.W.fnOf "__rxor__" "Fields.__rxor__" (defArgs (inClass (topS 11) 14)) (defBody (inClass (topS 11) 14)) (defScope (inClass (topS 11) 14)) .none kV_Fields___rxor__ dc_Fields___rxor__ pm_Fields___rxor__ an_Fields___rxor__ cd_Fields___rxor__ ct_Fields___rxor__), sl_Fields___rxor__⟩)
    (c_Fields___rxor__ : PySem.W.codeIn K cd_Fields___rxor__ "Fields.__rxor__" = true)
    (k_Fields___rxor__ : PySem.W.keepIn K (.ref f_Fields___rxor__) = true)
    (pg_Fields : PySem.W.plainGet K C_Fields Str.empty = true)
    (hd_Fields : PySem.W.hasDictIn K C_Fields = true)
    (po_Fields : PySem.W.plainOver K C_Fields = true)
    (sa_Fields : PySem.W.findIn K (.ref C_Fields) "__setattr__" = some (some (.builtin "object.__setattr__")))
    (mk_Fields : PySem.W.makesIn K C_Fields = true)
    (kc_Fields : PySem.W.keepIn K (.ref C_Fields) = true)
    (sf_Fields : PySem.W.selfFirst K C_Fields = true)
    (ob_Fields : PySem.W.mroIn K C_Fields (.type "object") = some true)
    (nl_Fields : PySem.W.subIn K (.ref C_Fields) (.type "list") = some false)
    (nt_Fields : PySem.W.subIn K (.ref C_Fields) (.type "tuple") = some false)
    (ni_Fields : PySem.W.subIn K (.ref C_Fields) (.type "int") = some false)
    (nb_Fields : PySem.W.subIn K (.ref C_Fields) (.type "bool") = some false)
    (ns_Fields : PySem.W.subIn K (.ref C_Fields) (.type "str") = some false)
    (nn_Fields : PySem.W.subIn K (.ref C_Fields) (.type "NoneType") = some false)
    (nd_Fields : PySem.W.subIn K (.ref C_Fields) (.type "dict") = some false)
    (ne_Fields : PySem.W.findIn K (.ref C_Fields) "__ne__" = some (some (.builtin "object.__ne__")))
    (bo_Fields : PySem.W.findIn K (.ref C_Fields) "__bool__" = some none)
    (ha_Fields : PySem.W.findIn K (.ref C_Fields) "__class__" = some (some (.builtin "object.__class__")))
    (hn_Fields : PySem.W.specialIn K (.builtin "object.__class__") "__get__" = some (some (.builtin "getset_descriptor.__get__")))
    (ht_Fields : PySem.W.takesIn K (.builtin "object.__class__") = some true)
    (ty_Fields : PySem.W.typeIn K (.ref C_Fields) = some (.type "type"))
    (ic_Fields : PySem.W.isClsIn K C_Fields = true)
    (sn_Fields : PySem.W.subIn K (.type "NoneType") (.ref C_Fields) = some false)
    (sb_Fields : PySem.W.subIn K (.type "bool") (.ref C_Fields) = some false)
    (si_Fields : PySem.W.subIn K (.type "int") (.ref C_Fields) = some false)
    (ss_Fields : PySem.W.subIn K (.type "str") (.ref C_Fields) = some false)
    (sl_Fields : PySem.W.subIn K (.type "list") (.ref C_Fields) = some false)
    (st_Fields : PySem.W.subIn K (.type "tuple") (.ref C_Fields) = some false)
    (sd_Fields : PySem.W.subIn K (.type "dict") (.ref C_Fields) = some false)
    (na_Fields_cells : PySem.W.findIn K (.ref C_Fields) "cells" = some none)
    (v_LETTERS : PySem.W.nsIn K mainGlobals "LETTERS" = some (some (.str "abcdefghijklmnopqrstuvwxyz" t_LETTERS)))
    (v_LONGEST : PySem.W.nsIn K mainGlobals "LONGEST" = some (some (.int 8 t_LONGEST)))
    (z_len : PySem.W.nsIn K mainGlobals "len" = some none)
    (z_int : PySem.W.nsIn K mainGlobals "int" = some none)
    (z_list : PySem.W.nsIn K mainGlobals "list" = some none)
    (z_tuple : PySem.W.nsIn K mainGlobals "tuple" = some none)
    (z_str : PySem.W.nsIn K mainGlobals "str" = some none)
    (z_all : PySem.W.nsIn K mainGlobals "all" = some none)
    (z_any : PySem.W.nsIn K mainGlobals "any" = some none)
    (z_sorted : PySem.W.nsIn K mainGlobals "sorted" = some none)
    (z_isinstance : PySem.W.nsIn K mainGlobals "isinstance" = some none)
    (z_range : PySem.W.nsIn K mainGlobals "range" = some none)
    (z_enumerate : PySem.W.nsIn K mainGlobals "enumerate" = some none)
    (z_zip : PySem.W.nsIn K mainGlobals "zip" = some none)
    (z_bool : PySem.W.nsIn K mainGlobals "bool" = some none)
    (x_list_or : PySem.W.findIn K (.type "list") "__or__" = some none)
    (y_list_or : PySem.W.findIn K (.type "list") "__ror__" = some none)
    (x_list_and : PySem.W.findIn K (.type "list") "__and__" = some none)
    (y_list_and : PySem.W.findIn K (.type "list") "__rand__" = some none)
    (x_list_sub : PySem.W.findIn K (.type "list") "__sub__" = some none)
    (y_list_sub : PySem.W.findIn K (.type "list") "__rsub__" = some none)
    (x_list_xor : PySem.W.findIn K (.type "list") "__xor__" = some none)
    (y_list_xor : PySem.W.findIn K (.type "list") "__rxor__" = some none)
    (x_tuple_or : PySem.W.findIn K (.type "tuple") "__or__" = some none)
    (y_tuple_or : PySem.W.findIn K (.type "tuple") "__ror__" = some none)
    (x_tuple_and : PySem.W.findIn K (.type "tuple") "__and__" = some none)
    (y_tuple_and : PySem.W.findIn K (.type "tuple") "__rand__" = some none)
    (x_tuple_sub : PySem.W.findIn K (.type "tuple") "__sub__" = some none)
    (y_tuple_sub : PySem.W.findIn K (.type "tuple") "__rsub__" = some none)
    (x_tuple_xor : PySem.W.findIn K (.type "tuple") "__xor__" = some none)
    (y_tuple_xor : PySem.W.findIn K (.type "tuple") "__rxor__" = some none) :
    ∃ fd : FuncData, (∀ (s : Shared) (v : Value), BindsTo s fd ⟨[v], []⟩ [("_law_script", v)]) ∧ ∀ base : Heap, K.In base → base.Ns mainGlobals mg → FnOk l.prog w K mg base CX0 8 fa fd ["_law_script"] (spLaw K) := by
  have e := hfa.symm.trans (PySem.W.mg_of X G a_law)
  cases e
  have T : Txt K mg ⟨f_is_word, (PySem.W.fnOf "is_word" "is_word" (defArgs (topS 6)) (defBody (topS 6)) (defScope (topS 6)) .none kV_is_word dc_is_word pm_is_word an_is_word cd_is_word ct_is_word), f_is_row, (PySem.W.fnOf "is_row" "is_row" (defArgs (topS 7)) (defBody (topS 7)) (defScope (topS 7)) .none kV_is_row dc_is_row pm_is_row an_is_row cd_is_row ct_is_row), f_words_in, (PySem.W.fnOf "words_in" "words_in" (defArgs (topS 9)) (defBody (topS 9)) (defScope (topS 9)) .none kV_words_in dc_words_in pm_words_in an_words_in cd_words_in ct_words_in), f_do_meet, (PySem.W.fnOf "do_meet" "do_meet" (defArgs (topS 10)) (defBody (topS 10)) (defScope (topS 10)) .none kV_do_meet dc_do_meet pm_do_meet an_do_meet cd_do_meet ct_do_meet), f_either, (PySem.W.fnOf "either" "either" (defArgs (topS 12)) (defBody (topS 12)) (defScope (topS 12)) .none kV_either dc_either pm_either an_either cd_either ct_either), f_both, (PySem.W.fnOf "both" "both" (defArgs (topS 13)) (defBody (topS 13)) (defScope (topS 13)) .none kV_both dc_both pm_both an_both cd_both ct_both), f_without, (PySem.W.fnOf "without" "without" (defArgs (topS 14)) (defBody (topS 14)) (defScope (topS 14)) .none kV_without dc_without pm_without an_without cd_without ct_without), f_one_only, (PySem.W.fnOf "one_only" "one_only" (defArgs (topS 15)) (defBody (topS 15)) (defScope (topS 15)) .none kV_one_only dc_one_only pm_one_only an_one_only cd_one_only ct_one_only), f__law_fresh, (PySem.W.fnOf "_law_fresh" "_law_fresh" (defArgs (topS 17)) (defBody (topS 17)) (defScope (topS 17)) .none kV__law_fresh dc__law_fresh pm__law_fresh an__law_fresh cd__law_fresh ct__law_fresh), f__law_fill, (PySem.W.fnOf "_law_fill" "_law_fill" (defArgs (topS 18)) (defBody (topS 18)) (defScope (topS 18)) .none kV__law_fill dc__law_fill pm__law_fill an__law_fill cd__law_fill ct__law_fill), f__law_take, (PySem.W.fnOf "_law_take" "_law_take" (defArgs (topS 19)) (defBody (topS 19)) (defScope (topS 19)) .none kV__law_take dc__law_take pm__law_take an__law_take cd__law_take ct__law_take), f__law_one, (PySem.W.fnOf "_law_one" "_law_one" (defArgs (topS 20)) (defBody (topS 20)) (defScope (topS 20)) .none kV__law_one dc__law_one pm__law_one an__law_one cd__law_one ct__law_one), f__law_mix, (PySem.W.fnOf "_law_mix" "_law_mix" (defArgs (topS 21)) (defBody (topS 21)) (defScope (topS 21)) .none kV__law_mix dc__law_mix pm__law_mix an__law_mix cd__law_mix ct__law_mix), f__law_same, (PySem.W.fnOf "_law_same" "_law_same" (defArgs (topS 22)) (defBody (topS 22)) (defScope (topS 22)) .none kV__law_same dc__law_same pm__law_same an__law_same cd__law_same ct__law_same), f__law_all_words, (PySem.W.fnOf "_law_all_words" "_law_all_words" (defArgs (topS 23)) (defBody (topS 23)) (defScope (topS 23)) .none kV__law_all_words dc__law_all_words pm__law_all_words an__law_all_words cd__law_all_words ct__law_all_words), f__law_some_words, (PySem.W.fnOf "_law_some_words" "_law_some_words" (defArgs (topS 24)) (defBody (topS 24)) (defScope (topS 24)) .none kV__law_some_words dc__law_some_words pm__law_some_words an__law_some_words cd__law_some_words ct__law_some_words), f__law_some, (PySem.W.fnOf "_law_some" "_law_some" (defArgs (topS 25)) (defBody (topS 25)) (defScope (topS 25)) .none kV__law_some dc__law_some pm__law_some an__law_some cd__law_some ct__law_some), f__law_rising, (PySem.W.fnOf "_law_rising" "_law_rising" (defArgs (topS 26)) (defBody (topS 26)) (defScope (topS 26)) .none kV__law_rising dc__law_rising pm__law_rising an__law_rising cd__law_rising ct__law_rising), f__law_doubled, (PySem.W.fnOf "_law_doubled" "_law_doubled" (defArgs (topS 27)) (defBody (topS 27)) (defScope (topS 27)) .none kV__law_doubled dc__law_doubled pm__law_doubled an__law_doubled cd__law_doubled ct__law_doubled), f__law_passed, (PySem.W.fnOf "_law_passed" "_law_passed" (defArgs (topS 28)) (defBody (topS 28)) (defScope (topS 28)) .none kV__law_passed dc__law_passed pm__law_passed an__law_passed cd__law_passed ct__law_passed), f__law_due, (PySem.W.fnOf "_law_due" "_law_due" (defArgs (topS 29)) (defBody (topS 29)) (defScope (topS 29)) .none kV__law_due dc__law_due pm__law_due an__law_due cd__law_due ct__law_due), f__law_joined, (PySem.W.fnOf "_law_joined" "_law_joined" (defArgs (topS 30)) (defBody (topS 30)) (defScope (topS 30)) .none kV__law_joined dc__law_joined pm__law_joined an__law_joined cd__law_joined ct__law_joined), f__law_right, (PySem.W.fnOf "_law_right" "_law_right" (defArgs (topS 31)) (defBody (topS 31)) (defScope (topS 31)) .none kV__law_right dc__law_right pm__law_right an__law_right cd__law_right ct__law_right), fa, (PySem.W.fnOf "law" "law" (defArgs (topS 32)) (defBody (topS 32)) (defScope (topS 32)) .none kV_law dc_law pm_law an_law cd_law ct_law), f_Fields___init__, (PySem.W.fnOf "__init__" "Fields.__init__" (defArgs (inClass (topS 11) 0)) (defBody (inClass (topS 11) 0)) (defScope (inClass (topS 11) 0)) .none kV_Fields___init__ dc_Fields___init__ pm_Fields___init__ an_Fields___init__ cd_Fields___init__ ct_Fields___init__), f_Fields___eq__, (PySem.W.fnOf "__eq__" "Fields.__eq__" (defArgs (inClass (topS 11) 1)) (defBody (inClass (topS 11) 1)) (defScope (inClass (topS 11) 1)) .none kV_Fields___eq__ dc_Fields___eq__ pm_Fields___eq__ an_Fields___eq__ cd_Fields___eq__ ct_Fields___eq__), f_Fields___len__, (PySem.W.fnOf "__len__" "Fields.__len__" (defArgs (inClass (topS 11) 2)) (defBody (inClass (topS 11) 2)) (defScope (inClass (topS 11) 2)) .none kV_Fields___len__ dc_Fields___len__ pm_Fields___len__ an_Fields___len__ cd_Fields___len__ ct_Fields___len__), f_Fields___contains__, (PySem.W.fnOf "__contains__" "Fields.__contains__" (defArgs (inClass (topS 11) 3)) (defBody (inClass (topS 11) 3)) (defScope (inClass (topS 11) 3)) .none kV_Fields___contains__ dc_Fields___contains__ pm_Fields___contains__ an_Fields___contains__ cd_Fields___contains__ ct_Fields___contains__), f_Fields_words, (PySem.W.fnOf "words" "Fields.words" (defArgs (inClass (topS 11) 4)) (defBody (inClass (topS 11) 4)) (defScope (inClass (topS 11) 4)) .none kV_Fields_words dc_Fields_words pm_Fields_words an_Fields_words cd_Fields_words ct_Fields_words), f_Fields_meets, (PySem.W.fnOf "meets" "Fields.meets" (defArgs (inClass (topS 11) 5)) (defBody (inClass (topS 11) 5)) (defScope (inClass (topS 11) 5)) .none kV_Fields_meets dc_Fields_meets pm_Fields_meets an_Fields_meets cd_Fields_meets ct_Fields_meets), f_Fields_within, (PySem.W.fnOf "within" "Fields.within" (defArgs (inClass (topS 11) 6)) (defBody (inClass (topS 11) 6)) (defScope (inClass (topS 11) 6)) .none kV_Fields_within dc_Fields_within pm_Fields_within an_Fields_within cd_Fields_within ct_Fields_within), f_Fields___or__, (PySem.W.fnOf "__or__" "Fields.__or__" (defArgs (inClass (topS 11) 7)) (defBody (inClass (topS 11) 7)) (defScope (inClass (topS 11) 7)) .none kV_Fields___or__ dc_Fields___or__ pm_Fields___or__ an_Fields___or__ cd_Fields___or__ ct_Fields___or__), f_Fields___ror__, (PySem.W.fnOf "__ror__" "Fields.__ror__" (defArgs (inClass (topS 11) 8)) (defBody (inClass (topS 11) 8)) (defScope (inClass (topS 11) 8)) .none kV_Fields___ror__ dc_Fields___ror__ pm_Fields___ror__ an_Fields___ror__ cd_Fields___ror__ ct_Fields___ror__), f_Fields___and__, (PySem.W.fnOf "__and__" "Fields.__and__" (defArgs (inClass (topS 11) 9)) (defBody (inClass (topS 11) 9)) (defScope (inClass (topS 11) 9)) .none kV_Fields___and__ dc_Fields___and__ pm_Fields___and__ an_Fields___and__ cd_Fields___and__ ct_Fields___and__), f_Fields___rand__, (PySem.W.fnOf "__rand__" "Fields.__rand__" (defArgs (inClass (topS 11) 10)) (defBody (inClass (topS 11) 10)) (defScope (inClass (topS 11) 10)) .none kV_Fields___rand__ dc_Fields___rand__ pm_Fields___rand__ an_Fields___rand__ cd_Fields___rand__ ct_Fields___rand__), f_Fields___sub__, (PySem.W.fnOf "__sub__" "Fields.__sub__" (defArgs (inClass (topS 11) 11)) (defBody (inClass (topS 11) 11)) (defScope (inClass (topS 11) 11)) .none kV_Fields___sub__ dc_Fields___sub__ pm_Fields___sub__ an_Fields___sub__ cd_Fields___sub__ ct_Fields___sub__), f_Fields___rsub__, (PySem.W.fnOf "__rsub__" "Fields.__rsub__" (defArgs (inClass (topS 11) 12)) (defBody (inClass (topS 11) 12)) (defScope (inClass (topS 11) 12)) .none kV_Fields___rsub__ dc_Fields___rsub__ pm_Fields___rsub__ an_Fields___rsub__ cd_Fields___rsub__ ct_Fields___rsub__), f_Fields___xor__, (PySem.W.fnOf "__xor__" "Fields.__xor__" (defArgs (inClass (topS 11) 13)) (defBody (inClass (topS 11) 13)) (defScope (inClass (topS 11) 13)) .none kV_Fields___xor__ dc_Fields___xor__ pm_Fields___xor__ an_Fields___xor__ cd_Fields___xor__ ct_Fields___xor__), f_Fields___rxor__, (PySem.W.fnOf "__rxor__" "Fields.__rxor__" (defArgs (inClass (topS 11) 14)) (defBody (inClass (topS 11) 14)) (defScope (inClass (topS 11) 14)) .none kV_Fields___rxor__ dc_Fields___rxor__ pm_Fields___rxor__ an_Fields___rxor__ cd_Fields___rxor__ ct_Fields___rxor__), C_Fields⟩ := {
    F_is_word := fun_mk (st := (topS 6)) l_is_word c_is_word k_is_word
    B_is_word := (fun_mk (st := (topS 6)) l_is_word c_is_word k_is_word).binds (ps := ["thing"]) fun _ _ _ _ _ _ us hl => match us, hl with | [_], _ => rfl
    m_is_word := PySem.W.mg_of X G a_is_word
    F_is_row := fun_mk (st := (topS 7)) l_is_row c_is_row k_is_row
    B_is_row := (fun_mk (st := (topS 7)) l_is_row c_is_row k_is_row).binds (ps := ["thing"]) fun _ _ _ _ _ _ us hl => match us, hl with | [_], _ => rfl
    m_is_row := PySem.W.mg_of X G a_is_row
    F_words_in := fun_mk (st := (topS 9)) l_words_in c_words_in k_words_in
    B_words_in := (fun_mk (st := (topS 9)) l_words_in c_words_in k_words_in).binds (ps := ["thing"]) fun _ _ _ _ _ _ us hl => match us, hl with | [_], _ => rfl
    m_words_in := PySem.W.mg_of X G a_words_in
    F_do_meet := fun_mk (st := (topS 10)) l_do_meet c_do_meet k_do_meet
    B_do_meet := (fun_mk (st := (topS 10)) l_do_meet c_do_meet k_do_meet).binds (ps := ["ones", "others"]) fun _ _ _ _ _ _ us hl => match us, hl with | [_, _], _ => rfl
    m_do_meet := PySem.W.mg_of X G a_do_meet
    F_either := fun_mk (st := (topS 12)) l_either c_either k_either
    B_either := (fun_mk (st := (topS 12)) l_either c_either k_either).binds (ps := ["ones", "others"]) fun _ _ _ _ _ _ us hl => match us, hl with | [_, _], _ => rfl
    m_either := PySem.W.mg_of X G a_either
    F_both := fun_mk (st := (topS 13)) l_both c_both k_both
    B_both := (fun_mk (st := (topS 13)) l_both c_both k_both).binds (ps := ["ones", "others"]) fun _ _ _ _ _ _ us hl => match us, hl with | [_, _], _ => rfl
    m_both := PySem.W.mg_of X G a_both
    F_without := fun_mk (st := (topS 14)) l_without c_without k_without
    B_without := (fun_mk (st := (topS 14)) l_without c_without k_without).binds (ps := ["ones", "others"]) fun _ _ _ _ _ _ us hl => match us, hl with | [_, _], _ => rfl
    m_without := PySem.W.mg_of X G a_without
    F_one_only := fun_mk (st := (topS 15)) l_one_only c_one_only k_one_only
    B_one_only := (fun_mk (st := (topS 15)) l_one_only c_one_only k_one_only).binds (ps := ["ones", "others"]) fun _ _ _ _ _ _ us hl => match us, hl with | [_, _], _ => rfl
    m_one_only := PySem.W.mg_of X G a_one_only
    F__law_fresh := fun_mk (st := (topS 17)) l__law_fresh c__law_fresh k__law_fresh
    B__law_fresh := (fun_mk (st := (topS 17)) l__law_fresh c__law_fresh k__law_fresh).binds (ps := ["_law_script"]) fun _ _ _ _ _ _ us hl => match us, hl with | [_], _ => rfl
    m__law_fresh := PySem.W.mg_of X G a__law_fresh
    F__law_fill := fun_mk (st := (topS 18)) l__law_fill c__law_fill k__law_fill
    B__law_fill := (fun_mk (st := (topS 18)) l__law_fill c__law_fill k__law_fill).binds (ps := ["_law_state"]) fun _ _ _ _ _ _ us hl => match us, hl with | [_], _ => rfl
    m__law_fill := PySem.W.mg_of X G a__law_fill
    F__law_take := fun_mk (st := (topS 19)) l__law_take c__law_take k__law_take
    B__law_take := (fun_mk (st := (topS 19)) l__law_take c__law_take k__law_take).binds (ps := ["_law_state", "_law_many"]) fun _ _ _ _ _ _ us hl => match us, hl with | [_, _], _ => rfl
    m__law_take := PySem.W.mg_of X G a__law_take
    F__law_one := fun_mk (st := (topS 20)) l__law_one c__law_one k__law_one
    B__law_one := (fun_mk (st := (topS 20)) l__law_one c__law_one k__law_one).binds (ps := ["_law_state", "_law_things"]) fun _ _ _ _ _ _ us hl => match us, hl with | [_, _], _ => rfl
    m__law_one := PySem.W.mg_of X G a__law_one
    F__law_mix := fun_mk (st := (topS 21)) l__law_mix c__law_mix k__law_mix
    B__law_mix := (fun_mk (st := (topS 21)) l__law_mix c__law_mix k__law_mix).binds (ps := ["_law_state", "_law_things"]) fun _ _ _ _ _ _ us hl => match us, hl with | [_, _], _ => rfl
    m__law_mix := PySem.W.mg_of X G a__law_mix
    F__law_same := fun_mk (st := (topS 22)) l__law_same c__law_same k__law_same
    B__law_same := (fun_mk (st := (topS 22)) l__law_same c__law_same k__law_same).binds (ps := ["_law_found", "_law_due_here"]) fun _ _ _ _ _ _ us hl => match us, hl with | [_, _], _ => rfl
    m__law_same := PySem.W.mg_of X G a__law_same
    F__law_all_words := fun_mk (st := (topS 23)) l__law_all_words c__law_all_words k__law_all_words
    B__law_all_words := (fun_mk (st := (topS 23)) l__law_all_words c__law_all_words k__law_all_words).binds (ps := []) fun _ _ _ _ _ _ us hl => match us, hl with | [], _ => rfl
    m__law_all_words := PySem.W.mg_of X G a__law_all_words
    F__law_some_words := fun_mk (st := (topS 24)) l__law_some_words c__law_some_words k__law_some_words
    B__law_some_words := (fun_mk (st := (topS 24)) l__law_some_words c__law_some_words k__law_some_words).binds (ps := ["_law_state", "_law_many"]) fun _ _ _ _ _ _ us hl => match us, hl with | [_, _], _ => rfl
    m__law_some_words := PySem.W.mg_of X G a__law_some_words
    F__law_some := fun_mk (st := (topS 25)) l__law_some c__law_some k__law_some
    B__law_some := (fun_mk (st := (topS 25)) l__law_some c__law_some k__law_some).binds (ps := ["_law_state", "_law_things"]) fun _ _ _ _ _ _ us hl => match us, hl with | [_, _], _ => rfl
    m__law_some := PySem.W.mg_of X G a__law_some
    F__law_rising := fun_mk (st := (topS 26)) l__law_rising c__law_rising k__law_rising
    B__law_rising := (fun_mk (st := (topS 26)) l__law_rising c__law_rising k__law_rising).binds (ps := ["_law_some_here"]) fun _ _ _ _ _ _ us hl => match us, hl with | [_], _ => rfl
    m__law_rising := PySem.W.mg_of X G a__law_rising
    F__law_doubled := fun_mk (st := (topS 27)) l__law_doubled c__law_doubled k__law_doubled
    B__law_doubled := (fun_mk (st := (topS 27)) l__law_doubled c__law_doubled k__law_doubled).binds (ps := ["_law_state", "_law_some_here"]) fun _ _ _ _ _ _ us hl => match us, hl with | [_, _], _ => rfl
    m__law_doubled := PySem.W.mg_of X G a__law_doubled
    F__law_passed := fun_mk (st := (topS 28)) l__law_passed c__law_passed k__law_passed
    B__law_passed := (fun_mk (st := (topS 28)) l__law_passed c__law_passed k__law_passed).binds (ps := ["_law_state", "_law_some_here"]) fun _ _ _ _ _ _ us hl => match us, hl with | [_, _], _ => rfl
    m__law_passed := PySem.W.mg_of X G a__law_passed
    F__law_due := fun_mk (st := (topS 29)) l__law_due c__law_due k__law_due
    B__law_due := (fun_mk (st := (topS 29)) l__law_due c__law_due k__law_due).binds (ps := ["_law_way", "_law_ones", "_law_others"]) fun _ _ _ _ _ _ us hl => match us, hl with | [_, _, _], _ => rfl
    m__law_due := PySem.W.mg_of X G a__law_due
    F__law_joined := fun_mk (st := (topS 30)) l__law_joined c__law_joined k__law_joined
    B__law_joined := (fun_mk (st := (topS 30)) l__law_joined c__law_joined k__law_joined).binds (ps := ["_law_way", "_law_x", "_law_y"]) fun _ _ _ _ _ _ us hl => match us, hl with | [_, _, _], _ => rfl
    m__law_joined := PySem.W.mg_of X G a__law_joined
    F__law_right := fun_mk (st := (topS 31)) l__law_right c__law_right k__law_right
    B__law_right := (fun_mk (st := (topS 31)) l__law_right c__law_right k__law_right).binds (ps := ["_law_made", "_law_some_here"]) fun _ _ _ _ _ _ us hl => match us, hl with | [_, _], _ => rfl
    m__law_right := PySem.W.mg_of X G a__law_right
    F_law := fun_mk (st := (topS 32)) l_law c_law k_law
    B_law := (fun_mk (st := (topS 32)) l_law c_law k_law).binds (ps := ["_law_script"]) fun _ _ _ _ _ _ us hl => match us, hl with | [_], _ => rfl
    m_law := PySem.W.mg_of X G a_law
    F_Fields___init__ := fun_mk (st := (inClass (topS 11) 0)) l_Fields___init__ c_Fields___init__ k_Fields___init__
    B_Fields___init__ := (fun_mk (st := (inClass (topS 11) 0)) l_Fields___init__ c_Fields___init__ k_Fields___init__).binds (ps := ["self", "words"]) fun _ _ _ _ _ _ us hl => match us, hl with | [_, _], _ => rfl
    F_Fields___eq__ := fun_mk (st := (inClass (topS 11) 1)) l_Fields___eq__ c_Fields___eq__ k_Fields___eq__
    B_Fields___eq__ := (fun_mk (st := (inClass (topS 11) 1)) l_Fields___eq__ c_Fields___eq__ k_Fields___eq__).binds (ps := ["self", "other"]) fun _ _ _ _ _ _ us hl => match us, hl with | [_, _], _ => rfl
    F_Fields___len__ := fun_mk (st := (inClass (topS 11) 2)) l_Fields___len__ c_Fields___len__ k_Fields___len__
    B_Fields___len__ := (fun_mk (st := (inClass (topS 11) 2)) l_Fields___len__ c_Fields___len__ k_Fields___len__).binds (ps := ["self"]) fun _ _ _ _ _ _ us hl => match us, hl with | [_], _ => rfl
    F_Fields___contains__ := fun_mk (st := (inClass (topS 11) 3)) l_Fields___contains__ c_Fields___contains__ k_Fields___contains__
    B_Fields___contains__ := (fun_mk (st := (inClass (topS 11) 3)) l_Fields___contains__ c_Fields___contains__ k_Fields___contains__).binds (ps := ["self", "word"]) fun _ _ _ _ _ _ us hl => match us, hl with | [_, _], _ => rfl
    F_Fields_words := fun_mk (st := (inClass (topS 11) 4)) l_Fields_words c_Fields_words k_Fields_words
    B_Fields_words := (fun_mk (st := (inClass (topS 11) 4)) l_Fields_words c_Fields_words k_Fields_words).binds (ps := ["self"]) fun _ _ _ _ _ _ us hl => match us, hl with | [_], _ => rfl
    F_Fields_meets := fun_mk (st := (inClass (topS 11) 5)) l_Fields_meets c_Fields_meets k_Fields_meets
    B_Fields_meets := (fun_mk (st := (inClass (topS 11) 5)) l_Fields_meets c_Fields_meets k_Fields_meets).binds (ps := ["self", "other"]) fun _ _ _ _ _ _ us hl => match us, hl with | [_, _], _ => rfl
    F_Fields_within := fun_mk (st := (inClass (topS 11) 6)) l_Fields_within c_Fields_within k_Fields_within
    B_Fields_within := (fun_mk (st := (inClass (topS 11) 6)) l_Fields_within c_Fields_within k_Fields_within).binds (ps := ["self", "other"]) fun _ _ _ _ _ _ us hl => match us, hl with | [_, _], _ => rfl
    F_Fields___or__ := fun_mk (st := (inClass (topS 11) 7)) l_Fields___or__ c_Fields___or__ k_Fields___or__
    B_Fields___or__ := (fun_mk (st := (inClass (topS 11) 7)) l_Fields___or__ c_Fields___or__ k_Fields___or__).binds (ps := ["self", "other"]) fun _ _ _ _ _ _ us hl => match us, hl with | [_, _], _ => rfl
    F_Fields___ror__ := fun_mk (st := (inClass (topS 11) 8)) l_Fields___ror__ c_Fields___ror__ k_Fields___ror__
    B_Fields___ror__ := (fun_mk (st := (inClass (topS 11) 8)) l_Fields___ror__ c_Fields___ror__ k_Fields___ror__).binds (ps := ["self", "other"]) fun _ _ _ _ _ _ us hl => match us, hl with | [_, _], _ => rfl
    F_Fields___and__ := fun_mk (st := (inClass (topS 11) 9)) l_Fields___and__ c_Fields___and__ k_Fields___and__
    B_Fields___and__ := (fun_mk (st := (inClass (topS 11) 9)) l_Fields___and__ c_Fields___and__ k_Fields___and__).binds (ps := ["self", "other"]) fun _ _ _ _ _ _ us hl => match us, hl with | [_, _], _ => rfl
    F_Fields___rand__ := fun_mk (st := (inClass (topS 11) 10)) l_Fields___rand__ c_Fields___rand__ k_Fields___rand__
    B_Fields___rand__ := (fun_mk (st := (inClass (topS 11) 10)) l_Fields___rand__ c_Fields___rand__ k_Fields___rand__).binds (ps := ["self", "other"]) fun _ _ _ _ _ _ us hl => match us, hl with | [_, _], _ => rfl
    F_Fields___sub__ := fun_mk (st := (inClass (topS 11) 11)) l_Fields___sub__ c_Fields___sub__ k_Fields___sub__
    B_Fields___sub__ := (fun_mk (st := (inClass (topS 11) 11)) l_Fields___sub__ c_Fields___sub__ k_Fields___sub__).binds (ps := ["self", "other"]) fun _ _ _ _ _ _ us hl => match us, hl with | [_, _], _ => rfl
    F_Fields___rsub__ := fun_mk (st := (inClass (topS 11) 12)) l_Fields___rsub__ c_Fields___rsub__ k_Fields___rsub__
    B_Fields___rsub__ := (fun_mk (st := (inClass (topS 11) 12)) l_Fields___rsub__ c_Fields___rsub__ k_Fields___rsub__).binds (ps := ["self", "other"]) fun _ _ _ _ _ _ us hl => match us, hl with | [_, _], _ => rfl
    F_Fields___xor__ := fun_mk (st := (inClass (topS 11) 13)) l_Fields___xor__ c_Fields___xor__ k_Fields___xor__
    B_Fields___xor__ := (fun_mk (st := (inClass (topS 11) 13)) l_Fields___xor__ c_Fields___xor__ k_Fields___xor__).binds (ps := ["self", "other"]) fun _ _ _ _ _ _ us hl => match us, hl with | [_, _], _ => rfl
    F_Fields___rxor__ := fun_mk (st := (inClass (topS 11) 14)) l_Fields___rxor__ c_Fields___rxor__ k_Fields___rxor__
    B_Fields___rxor__ := (fun_mk (st := (inClass (topS 11) 14)) l_Fields___rxor__ c_Fields___rxor__ k_Fields___rxor__).binds (ps := ["self", "other"]) fun _ _ _ _ _ _ us hl => match us, hl with | [_, _], _ => rfl
    g_Fields := PySem.W.mg_of X G aC_Fields
    C_Fields := ⟨pg_Fields, hd_Fields, po_Fields, sa_Fields⟩
    K_Fields := ⟨mk_Fields, a_Fields___init__, i_Fields___init__, kc_Fields⟩
    O_Fields := ⟨sf_Fields, ob_Fields, nl_Fields, nt_Fields, ni_Fields, nb_Fields, ns_Fields, nn_Fields, nd_Fields, ne_Fields, bo_Fields⟩
    I_Fields := ⟨⟨pg_Fields, hd_Fields, po_Fields, sa_Fields⟩, ha_Fields, hn_Fields, ht_Fields, ob_Fields, ty_Fields, ic_Fields, sn_Fields, sb_Fields, si_Fields, ss_Fields, sl_Fields, st_Fields, sd_Fields⟩
    D_Fields___eq__ := ⟨a_Fields___eq__, i_Fields___eq__, k_Fields___eq__⟩
    D_Fields___len__ := ⟨a_Fields___len__, i_Fields___len__, k_Fields___len__⟩
    D_Fields___contains__ := ⟨a_Fields___contains__, i_Fields___contains__, k_Fields___contains__⟩
    D_Fields_words := ⟨a_Fields_words, i_Fields_words, k_Fields_words⟩
    D_Fields_meets := ⟨a_Fields_meets, i_Fields_meets, k_Fields_meets⟩
    D_Fields_within := ⟨a_Fields_within, i_Fields_within, k_Fields_within⟩
    D_Fields___or__ := ⟨a_Fields___or__, i_Fields___or__, k_Fields___or__⟩
    D_Fields___ror__ := ⟨a_Fields___ror__, i_Fields___ror__, k_Fields___ror__⟩
    D_Fields___and__ := ⟨a_Fields___and__, i_Fields___and__, k_Fields___and__⟩
    D_Fields___rand__ := ⟨a_Fields___rand__, i_Fields___rand__, k_Fields___rand__⟩
    D_Fields___sub__ := ⟨a_Fields___sub__, i_Fields___sub__, k_Fields___sub__⟩
    D_Fields___rsub__ := ⟨a_Fields___rsub__, i_Fields___rsub__, k_Fields___rsub__⟩
    D_Fields___xor__ := ⟨a_Fields___xor__, i_Fields___xor__, k_Fields___xor__⟩
    D_Fields___rxor__ := ⟨a_Fields___rxor__, i_Fields___rxor__, k_Fields___rxor__⟩
    n_Fields_cells := na_Fields_cells
    g_LETTERS := ⟨_, PySem.W.mg_of X G v_LETTERS⟩
    g_LONGEST := ⟨_, PySem.W.mg_of X G v_LONGEST⟩
    b_len := PySem.W.mg_none_of X G z_len
    b_int := PySem.W.mg_none_of X G z_int
    b_list := PySem.W.mg_none_of X G z_list
    b_tuple := PySem.W.mg_none_of X G z_tuple
    b_str := PySem.W.mg_none_of X G z_str
    b_all := PySem.W.mg_none_of X G z_all
    b_any := PySem.W.mg_none_of X G z_any
    b_sorted := PySem.W.mg_none_of X G z_sorted
    b_isinstance := PySem.W.mg_none_of X G z_isinstance
    b_range := PySem.W.mg_none_of X G z_range
    b_enumerate := PySem.W.mg_none_of X G z_enumerate
    b_zip := PySem.W.mg_none_of X G z_zip
    b_bool := PySem.W.mg_none_of X G z_bool
    x_list_or := x_list_or
    y_list_or := y_list_or
    x_list_and := x_list_and
    y_list_and := y_list_and
    x_list_sub := x_list_sub
    y_list_sub := y_list_sub
    x_list_xor := x_list_xor
    y_list_xor := y_list_xor
    x_tuple_or := x_tuple_or
    y_tuple_or := y_tuple_or
    x_tuple_and := x_tuple_and
    y_tuple_and := y_tuple_and
    x_tuple_sub := x_tuple_sub
    y_tuple_sub := y_tuple_sub
    x_tuple_xor := x_tuple_xor
    y_tuple_xor := y_tuple_xor }
  exact ⟨(PySem.W.fnOf "law" "law" (defArgs (topS 32)) (defBody (topS 32)) (defScope (topS 32)) .none kV_law dc_law pm_law an_law cd_law ct_law), fun s v => .of_eq rfl, fun base _ _ => ok_law T (k := 0)⟩
theorem walk {l : PySem.W.OpenLaw} {q : Program} {loose : List Str} {XP : (Str → Option Value) → Heap → Prop} {YP : World → Heap → Prop} {d : DefRec} {K : Params → PySem.W.Frag} (hn : l.most = some 63) (hdf : d.params.defaults = [])
    (hY : ∀ (w : World) (h : Heap), YP w h → (K w.params).In h)
    (F : ∀ (w : World) (mg : Str → Option Value) (fa : Addr) (h : Heap), (K w.params).In h → h.Ns mainGlobals mg → mg d.name = some (.ref fa) →
      ∃ fd : FuncData, (∀ (s : Shared) (u : Value), BindsTo s fd ⟨[u], []⟩ [("_law_script", u)]) ∧ ∀ base : Heap, (K w.params).In base → base.Ns mainGlobals mg → FnOk l.prog w (K w.params) mg base CX0 8 fa fd ["_law_script"] (spLaw (K w.params))) :
    PySem.W.WalkO q loose XP YP l.row.toRowW d [] (fun f vs => PySem.call f vs) :=
  L2.walk_of (n := 63) (k := 8) (x := "_law_script") (CX := fun _ => CX0) (sp := fun w => spLaw (K w.params)) hn (by decide) hdf ⟨rfl, by decide, by decide⟩ hY F (fun _ _ a ns hl _ hS => ⟨a, ns, rfl, hS, fun _ => rfl⟩) fun _ _ _ _ _ z => z
end K02
open PySem PySem.W PyProof.Rows
set_option maxRecDepth 100000 in
set_option maxHeartbeats 0 in
theorem PySem.Challenge.cw_seenmarks_k02_fields_told_holds : PySem.Challenge.rw_seenmarks_k02_fields_told.Holds := by
  w_on; o_law; k_head; (case hw => w_witness2)
  k_fill
  refine K02.walk (l := PySem.Challenge.rw_seenmarks_k02_fields_told) rfl rfl (fun w h Y => PySem.W.kIn_of Y) ?F
  case F =>
    intro w mg fa h KX G hmg
    refine' K02.all_mk KX G hmg ?aC_Fields ?a_is_word ?l_is_word ?c_is_word ?k_is_word ?a_is_row ?l_is_row ?c_is_row ?k_is_row ?a_words_in ?l_words_in ?c_words_in ?k_words_in ?a_do_meet ?l_do_meet ?c_do_meet ?k_do_meet ?a_either ?l_either ?c_either ?k_either ?a_both ?l_both ?c_both ?k_both ?a_without ?l_without ?c_without ?k_without ?a_one_only ?l_one_only ?c_one_only ?k_one_only ?a__law_fresh ?l__law_fresh ?c__law_fresh ?k__law_fresh ?a__law_fill ?l__law_fill ?c__law_fill ?k__law_fill ?a__law_take ?l__law_take ?c__law_take ?k__law_take ?a__law_one ?l__law_one ?c__law_one ?k__law_one ?a__law_mix ?l__law_mix ?c__law_mix ?k__law_mix ?a__law_same ?l__law_same ?c__law_same ?k__law_same ?a__law_all_words ?l__law_all_words ?c__law_all_words ?k__law_all_words ?a__law_some_words ?l__law_some_words ?c__law_some_words ?k__law_some_words ?a__law_some ?l__law_some ?c__law_some ?k__law_some ?a__law_rising ?l__law_rising ?c__law_rising ?k__law_rising ?a__law_doubled ?l__law_doubled ?c__law_doubled ?k__law_doubled ?a__law_passed ?l__law_passed ?c__law_passed ?k__law_passed ?a__law_due ?l__law_due ?c__law_due ?k__law_due ?a__law_joined ?l__law_joined ?c__law_joined ?k__law_joined ?a__law_right ?l__law_right ?c__law_right ?k__law_right ?a_law ?l_law ?c_law ?k_law ?a_Fields___init__ ?i_Fields___init__ ?l_Fields___init__ ?c_Fields___init__ ?k_Fields___init__ ?a_Fields___eq__ ?i_Fields___eq__ ?l_Fields___eq__ ?c_Fields___eq__ ?k_Fields___eq__ ?a_Fields___len__ ?i_Fields___len__ ?l_Fields___len__ ?c_Fields___len__ ?k_Fields___len__ ?a_Fields___contains__ ?i_Fields___contains__ ?l_Fields___contains__ ?c_Fields___contains__ ?k_Fields___contains__ ?a_Fields_words ?i_Fields_words ?l_Fields_words ?c_Fields_words ?k_Fields_words ?a_Fields_meets ?i_Fields_meets ?l_Fields_meets ?c_Fields_meets ?k_Fields_meets ?a_Fields_within ?i_Fields_within ?l_Fields_within ?c_Fields_within ?k_Fields_within ?a_Fields___or__ ?i_Fields___or__ ?l_Fields___or__ ?c_Fields___or__ ?k_Fields___or__ ?a_Fields___ror__ ?i_Fields___ror__ ?l_Fields___ror__ ?c_Fields___ror__ ?k_Fields___ror__ ?a_Fields___and__ ?i_Fields___and__ ?l_Fields___and__ ?c_Fields___and__ ?k_Fields___and__ ?a_Fields___rand__ ?i_Fields___rand__ ?l_Fields___rand__ ?c_Fields___rand__ ?k_Fields___rand__ ?a_Fields___sub__ ?i_Fields___sub__ ?l_Fields___sub__ ?c_Fields___sub__ ?k_Fields___sub__ ?a_Fields___rsub__ ?i_Fields___rsub__ ?l_Fields___rsub__ ?c_Fields___rsub__ ?k_Fields___rsub__ ?a_Fields___xor__ ?i_Fields___xor__ ?l_Fields___xor__ ?c_Fields___xor__ ?k_Fields___xor__ ?a_Fields___rxor__ ?i_Fields___rxor__ ?l_Fields___rxor__ ?c_Fields___rxor__ ?k_Fields___rxor__ ?pg_Fields ?hd_Fields ?po_Fields ?sa_Fields ?mk_Fields ?kc_Fields ?sf_Fields ?ob_Fields ?nl_Fields ?nt_Fields ?ni_Fields ?nb_Fields ?ns_Fields ?nn_Fields ?nd_Fields ?ne_Fields ?bo_Fields ?ha_Fields ?hn_Fields ?ht_Fields ?ty_Fields ?ic_Fields ?sn_Fields ?sb_Fields ?si_Fields ?ss_Fields ?sl_Fields ?st_Fields ?sd_Fields ?na_Fields_cells ?v_LETTERS ?v_LONGEST ?z_len ?z_int ?z_list ?z_tuple ?z_str ?z_all ?z_any ?z_sorted ?z_isinstance ?z_range ?z_enumerate ?z_zip ?z_bool ?x_list_or ?y_list_or ?x_list_and ?y_list_and ?x_list_sub ?y_list_sub ?x_list_xor ?y_list_xor ?x_tuple_or ?y_tuple_or ?x_tuple_and ?y_tuple_and ?x_tuple_sub ?y_tuple_sub ?x_tuple_xor ?y_tuple_xor
    (case aC_Fields => k_is)
    (case a_is_word => k_is)
    (case l_is_word => k_is)
    (case c_is_word => k_is)
    (case k_is_word => k_is)
    (case a_is_row => k_is)
    (case l_is_row => k_is)
    (case c_is_row => k_is)
    (case k_is_row => k_is)
    (case a_words_in => k_is)
    (case l_words_in => k_is)
    (case c_words_in => k_is)
    (case k_words_in => k_is)
    (case a_do_meet => k_is)
    (case l_do_meet => k_is)
    (case c_do_meet => k_is)
    (case k_do_meet => k_is)
    (case a_either => k_is)
    (case l_either => k_is)
    (case c_either => k_is)
    (case k_either => k_is)
    (case a_both => k_is)
    (case l_both => k_is)
    (case c_both => k_is)
    (case k_both => k_is)
    (case a_without => k_is)
    (case l_without => k_is)
    (case c_without => k_is)
    (case k_without => k_is)
    (case a_one_only => k_is)
    (case l_one_only => k_is)
    (case c_one_only => k_is)
    (case k_one_only => k_is)
    (case a__law_fresh => k_is)
    (case l__law_fresh => k_is)
    (case c__law_fresh => k_is)
    (case k__law_fresh => k_is)
    (case a__law_fill => k_is)
    (case l__law_fill => k_is)
    (case c__law_fill => k_is)
    (case k__law_fill => k_is)
    (case a__law_take => k_is)
    (case l__law_take => k_is)
    (case c__law_take => k_is)
    (case k__law_take => k_is)
    (case a__law_one => k_is)
    (case l__law_one => k_is)
    (case c__law_one => k_is)
    (case k__law_one => k_is)
    (case a__law_mix => k_is)
    (case l__law_mix => k_is)
    (case c__law_mix => k_is)
    (case k__law_mix => k_is)
    (case a__law_same => k_is)
    (case l__law_same => k_is)
    (case c__law_same => k_is)
    (case k__law_same => k_is)
    (case a__law_all_words => k_is)
    (case l__law_all_words => k_is)
    (case c__law_all_words => k_is)
    (case k__law_all_words => k_is)
    (case a__law_some_words => k_is)
    (case l__law_some_words => k_is)
    (case c__law_some_words => k_is)
    (case k__law_some_words => k_is)
    (case a__law_some => k_is)
    (case l__law_some => k_is)
    (case c__law_some => k_is)
    (case k__law_some => k_is)
    (case a__law_rising => k_is)
    (case l__law_rising => k_is)
    (case c__law_rising => k_is)
    (case k__law_rising => k_is)
    (case a__law_doubled => k_is)
    (case l__law_doubled => k_is)
    (case c__law_doubled => k_is)
    (case k__law_doubled => k_is)
    (case a__law_passed => k_is)
    (case l__law_passed => k_is)
    (case c__law_passed => k_is)
    (case k__law_passed => k_is)
    (case a__law_due => k_is)
    (case l__law_due => k_is)
    (case c__law_due => k_is)
    (case k__law_due => k_is)
    (case a__law_joined => k_is)
    (case l__law_joined => k_is)
    (case c__law_joined => k_is)
    (case k__law_joined => k_is)
    (case a__law_right => k_is)
    (case l__law_right => k_is)
    (case c__law_right => k_is)
    (case k__law_right => k_is)
    (case a_law => k_is)
    (case l_law => k_is)
    (case c_law => k_is)
    (case k_law => k_is)
    (case a_Fields___init__ => k_is)
    (case i_Fields___init__ => k_is)
    (case l_Fields___init__ => k_is)
    (case c_Fields___init__ => k_is)
    (case k_Fields___init__ => k_is)
    (case a_Fields___eq__ => k_is)
    (case i_Fields___eq__ => k_is)
    (case l_Fields___eq__ => k_is)
    (case c_Fields___eq__ => k_is)
    (case k_Fields___eq__ => k_is)
    (case a_Fields___len__ => k_is)
    (case i_Fields___len__ => k_is)
    (case l_Fields___len__ => k_is)
    (case c_Fields___len__ => k_is)
    (case k_Fields___len__ => k_is)
    (case a_Fields___contains__ => k_is)
    (case i_Fields___contains__ => k_is)
    (case l_Fields___contains__ => k_is)
    (case c_Fields___contains__ => k_is)
    (case k_Fields___contains__ => k_is)
    (case a_Fields_words => k_is)
    (case i_Fields_words => k_is)
    (case l_Fields_words => k_is)
    (case c_Fields_words => k_is)
    (case k_Fields_words => k_is)
    (case a_Fields_meets => k_is)
    (case i_Fields_meets => k_is)
    (case l_Fields_meets => k_is)
    (case c_Fields_meets => k_is)
    (case k_Fields_meets => k_is)
    (case a_Fields_within => k_is)
    (case i_Fields_within => k_is)
    (case l_Fields_within => k_is)
    (case c_Fields_within => k_is)
    (case k_Fields_within => k_is)
    (case a_Fields___or__ => k_is)
    (case i_Fields___or__ => k_is)
    (case l_Fields___or__ => k_is)
    (case c_Fields___or__ => k_is)
    (case k_Fields___or__ => k_is)
    (case a_Fields___ror__ => k_is)
    (case i_Fields___ror__ => k_is)
    (case l_Fields___ror__ => k_is)
    (case c_Fields___ror__ => k_is)
    (case k_Fields___ror__ => k_is)
    (case a_Fields___and__ => k_is)
    (case i_Fields___and__ => k_is)
    (case l_Fields___and__ => k_is)
    (case c_Fields___and__ => k_is)
    (case k_Fields___and__ => k_is)
    (case a_Fields___rand__ => k_is)
    (case i_Fields___rand__ => k_is)
    (case l_Fields___rand__ => k_is)
    (case c_Fields___rand__ => k_is)
    (case k_Fields___rand__ => k_is)
    (case a_Fields___sub__ => k_is)
    (case i_Fields___sub__ => k_is)
    (case l_Fields___sub__ => k_is)
    (case c_Fields___sub__ => k_is)
    (case k_Fields___sub__ => k_is)
    (case a_Fields___rsub__ => k_is)
    (case i_Fields___rsub__ => k_is)
    (case l_Fields___rsub__ => k_is)
    (case c_Fields___rsub__ => k_is)
    (case k_Fields___rsub__ => k_is)
    (case a_Fields___xor__ => k_is)
    (case i_Fields___xor__ => k_is)
    (case l_Fields___xor__ => k_is)
    (case c_Fields___xor__ => k_is)
    (case k_Fields___xor__ => k_is)
    (case a_Fields___rxor__ => k_is)
    (case i_Fields___rxor__ => k_is)
    (case l_Fields___rxor__ => k_is)
    (case c_Fields___rxor__ => k_is)
    (case k_Fields___rxor__ => k_is)
    (case pg_Fields => k_is)
    (case hd_Fields => k_is)
    (case po_Fields => k_is)
    (case sa_Fields => k_is)
    (case mk_Fields => k_is)
    (case kc_Fields => k_is)
    (case sf_Fields => k_is)
    (case ob_Fields => k_is)
    (case nl_Fields => k_is)
    (case nt_Fields => k_is)
    (case ni_Fields => k_is)
    (case nb_Fields => k_is)
    (case ns_Fields => k_is)
    (case nn_Fields => k_is)
    (case nd_Fields => k_is)
    (case ne_Fields => k_is)
    (case bo_Fields => k_is)
    (case ha_Fields => k_is)
    (case hn_Fields => k_is)
    (case ht_Fields => k_is)
    (case ty_Fields => k_is)
    (case ic_Fields => k_is)
    (case sn_Fields => k_is)
    (case sb_Fields => k_is)
    (case si_Fields => k_is)
    (case ss_Fields => k_is)
    (case sl_Fields => k_is)
    (case st_Fields => k_is)
    (case sd_Fields => k_is)
    (case na_Fields_cells => k_is)
    (case v_LETTERS => k_is)
    (case v_LONGEST => k_is)
    (case z_len => k_is)
    (case z_int => k_is)
    (case z_list => k_is)
    (case z_tuple => k_is)
    (case z_str => k_is)
    (case z_all => k_is)
    (case z_any => k_is)
    (case z_sorted => k_is)
    (case z_isinstance => k_is)
    (case z_range => k_is)
    (case z_enumerate => k_is)
    (case z_zip => k_is)
    (case z_bool => k_is)
    (case x_list_or => k_is)
    (case y_list_or => k_is)
    (case x_list_and => k_is)
    (case y_list_and => k_is)
    (case x_list_sub => k_is)
    (case y_list_sub => k_is)
    (case x_list_xor => k_is)
    (case y_list_xor => k_is)
    (case x_tuple_or => k_is)
    (case y_tuple_or => k_is)
    (case x_tuple_and => k_is)
    (case y_tuple_and => k_is)
    (case x_tuple_sub => k_is)
    (case y_tuple_sub => k_is)
    (case x_tuple_xor => k_is)
    (case y_tuple_xor => k_is)


