import PyProof.Rows.All
import Wide.All
import OpenK.AllK
import Wide.FinOn
import HandS.ForMost
import HandS.ForExc
import HandS.EndBits
import HandS.MakeKwOnly
import HandS.Property
import HandS.Style
import HandS.StrMore
import HandS.IsInst
import HandS.Flow
import HandS.Small
import HandS.RaiseMore
import HandS.NoneIn
import HandS.DictTup
import HandS.CallSlots
import HandS.ExcSuper
import HandS.Codes
import HandS.Walk
import HandS.Replace
import HandS.TupAny
import HandS.Zip
import KE.SortData
import KE.GoesEnum
import KE.DataMinMax
import PyProof.Rows.SortWalk
import PySem.Challenge.RW_meantword_k84_texts_of_spellers
set_option Elab.async false
set_option linter.all false
set_option maxRecDepth 100000
set_option maxHeartbeats 4000000
namespace G69
open PySem PySem.Spec PyProof.Rows L2
/-! ### the text by places -/
def topS (i : Nat) : Stmt := PySem.Challenge.pw_meantword_k84_texts_of_spellers.main.body.getD i (.Pass ⟨0, 0, 0, 0⟩)
/-! ### heaps: all but some addresses is kept -/
def Kp (S : List Addr) (H H' : Hp) : Prop := ∀ a o, H a = some o → a ∉ S → H' a = some o
theorem Kp.rfl' {S : List Addr} {H : Hp} : Kp S H H := fun _ _ h _ => h
theorem Kp.trans {S : List Addr} {H H1 H2 : Hp} (x : Kp S H H1) (y : Kp S H1 H2) : Kp S H H2 := fun a o h n => y a o (x a o h n) n
theorem Kp.new {S : List Addr} {H : Hp} {p : Addr} {o : HO} (h : H p = none) : Kp S H (upd H p o) := fun a u e _ => by
  rw [upd_ne (ne_of_none e h)]
  exact e
theorem Kp.put {S : List Addr} {H : Hp} {p : Addr} {o : HO} (h : p ∈ S) : Kp S H (upd H p o) := fun a u e n => by
  rw [upd_ne (fun z => n (by rw [z]; exact h))]
  exact e
/-- an address that H does not know may change -/
theorem Kp.mut {S : List Addr} {H H' : Hp} {p : Addr} {o : HO} (x : Kp S H H') (h : H p = none) : Kp S H (upd H' p o) := fun a u e n => by
  rw [upd_ne (ne_of_none e h)]
  exact x a u e n
theorem Kp.mono {S S' : List Addr} {H H' : Hp} (x : Kp S H H') (h : ∀ a ∈ S, a ∈ S') : Kp S' H H' := fun a o e n => x a o e (fun z => n (h a z))
theorem Kp.free {H H' : Hp} {p : Addr} (x : Kp [] H H') (h : H' p = none) : H p = none := by
  cases e : H p with
  | none => rfl
  | some o =>
    have := x p o e (fun z => by cases z)
    rw [h] at this
    cases this
/-- an address that was free and is not among S stays out of what was known -/
theorem Kp.back {S : List Addr} {H H' : Hp} {p : Addr} (x : Kp S H H') (n : p ∉ S) (h : H' p = none) : H p = none := by
  cases e : H p with
  | none => rfl
  | some o =>
    have := x p o e n
    rw [h] at this
    cases this
theorem Kp.rd {S : List Addr} {H H' : Hp} {a : Addr} {u : HO} (x : Kp S H H') (n : a ∉ S) (h : Rd H a u) : Rd H' a u := by
  rcases h with h | ⟨o, h⟩
  · exact .inl (x a _ h n)
  · exact .inr ⟨o, x a _ h n⟩
theorem Kp.l {K : PySem.W.Frag} {S : List Addr} {H H' : Hp} {a : Addr} {xs : List V} (x : Kp S H H') (n : a ∉ S) (h : SqL K H a xs) : SqL K H' a xs := by
  rcases h with h | h
  · exact .inl (x.rd n h)
  · exact .inr h
theorem Kp.t {K : PySem.W.Frag} {S : List Addr} {H H' : Hp} {a : Addr} {xs : List V} (x : Kp S H H') (n : a ∉ S) (h : SqT K H a xs) : SqT K H' a xs := by
  rcases h with h | h
  · exact .inl (x.rd n h)
  · exact .inr h
theorem intAt {ns : List Int} {i : Nat} {x : V} (hi : (ns.map V.int)[i]? = some x) : ∃ z, ns[i]? = some z ∧ x = V.int z := by
  rw [List.getElem?_map] at hi
  cases e : ns[i]? with
  | none => rw [e] at hi; cases hi
  | some z => rw [e] at hi; exact ⟨z, rfl, (Option.some.inj hi).symm⟩
theorem perm_erase {α : Type} : ∀ (l : List α) (i : Nat) (h : i < l.length), (l[i] :: l.eraseIdx i).Perm l
  | x :: r, 0, _ => List.Perm.refl _
  | x :: r, i + 1, h => by
    have ih := perm_erase r i (Nat.lt_of_succ_lt_succ h)
    exact (List.Perm.swap _ _ _).trans (List.Perm.cons x ih)
theorem map_erase {α β : Type} (f : α → β) : ∀ (l : List α) (i : Nat), (l.map f).eraseIdx i = (l.eraseIdx i).map f
  | [], _ => rfl
  | x :: r, 0 => rfl
  | x :: r, i + 1 => congrArg (f x :: ·) (map_erase f r i)
theorem notnil {a : Addr} : a ∉ ([] : List Addr) := fun z => by cases z
theorem not1 {a b : Addr} (h : a ≠ b) : a ∉ [b] := fun z => by
  cases z with
  | head => exact h rfl
  | tail _ z => cases z
theorem not2 {a b c : Addr} (h : a ≠ b) (g : a ≠ c) : a ∉ [b, c] := fun z => by
  cases z with
  | head => exact h rfl
  | tail _ z =>
    cases z with
    | head => exact g rfl
    | tail _ z => cases z
/-- fewer than some size is within the line -/
theorem szle {n : Nat} (h : n ≤ 1000000) : n ≤ sizeLine := Nat.le_trans h (by decide)
theorem szlt {n : Nat} (h : n ≤ 1000000) : n < sizeLine := Nat.lt_of_le_of_lt h (by decide)
end G69
namespace G69
open PySem PySem.Spec PyProof.Rows L2
/-! ### the drawing -/
abbrev kLarge : Key := Sum.inr "large"
abbrev kCells : Key := Sum.inr "cells"
abbrev kRest : Key := Sum.inr "rest"
abbrev kTurn : Key := Sum.inr "turn"
abbrev kMix : Key := Sum.inr "mix"
def drawK (l c : Addr) (r t m : Int) : List (Key × V) := [(kLarge, .ref l), (kCells, .ref c), (kRest, .int r), (kTurn, .int t), (kMix, .int m)]
structure DrX (H : Hp) (d l c : Addr) (ls cs : List Int) (r t m : Int) : Prop where
  dd : H d = some (.dK (drawK l c r t m))
  hl : H l = some (.lst (ls.map V.int))
  hc : H c = some (.lst (cs.map V.int))
  ne : l ≠ c
  ll : ls.length ≤ 100
  lc : cs.length ≤ 100
  mm : 0 ≤ m ∧ m < 2147483629
  pr : 0 ≤ r
  pl : ∀ z ∈ ls, 0 ≤ z
def Dr (H : Hp) (d l c : Addr) : Prop := ∃ ls cs r t m, DrX H d l c ls cs r t m
theorem DrX.dl {H : Hp} {d l c : Addr} {ls cs : List Int} {r t m : Int} (x : DrX H d l c ls cs r t m) : d ≠ l := ne_of x.dd x.hl (by intro z; cases z)
theorem DrX.dc {H : Hp} {d l c : Addr} {ls cs : List Int} {r t m : Int} (x : DrX H d l c ls cs r t m) : d ≠ c := ne_of x.dd x.hc (by intro z; cases z)
theorem valRest {l c : Addr} {r t m : Int} : valV (drawK l c r t m) kRest = some (.int r) := by rfl
theorem valLarge {l c : Addr} {r t m : Int} : valV (drawK l c r t m) kLarge = some (.ref l) := by rfl
theorem valCells {l c : Addr} {r t m : Int} : valV (drawK l c r t m) kCells = some (.ref c) := by rfl
theorem valTurn {l c : Addr} {r t m : Int} : valV (drawK l c r t m) kTurn = some (.int t) := by rfl
theorem valMix {l c : Addr} {r t m : Int} : valV (drawK l c r t m) kMix = some (.int m) := by rfl
theorem putRest {l c : Addr} {r t m r' : Int} : putK (drawK l c r t m) kRest (.int r') = drawK l c r' t m := by rfl
theorem putTurn {l c : Addr} {r t m r' : Int} : putK (drawK l c r t m) kTurn (.int r') = drawK l c r r' m := by rfl
theorem putMix {l c : Addr} {r t m r' : Int} : putK (drawK l c r t m) kMix (.int r') = drawK l c r t r' := by rfl
section
variable {H H' : Hp} {d l c p : Addr} {ls cs : List Int} {r t m r' : Int} {o : HO} {S : List Addr}
theorem DrX.new (x : DrX H d l c ls cs r t m) (h : H p = none) : DrX (upd H p o) d l c ls cs r t m :=
  ⟨by rw [upd_ne (ne_of_none x.dd h)]; exact x.dd, by rw [upd_ne (ne_of_none x.hl h)]; exact x.hl, by rw [upd_ne (ne_of_none x.hc h)]; exact x.hc, x.ne, x.ll, x.lc, x.mm, x.pr, x.pl⟩
theorem DrX.upd_d (x : DrX H d l c ls cs r t m) {r' t' m' : Int} (h1 : 0 ≤ r') (h2 : 0 ≤ m' ∧ m' < 2147483629) : DrX (upd H d (.dK (drawK l c r' t' m'))) d l c ls cs r' t' m' :=
  ⟨upd_same, by rw [upd_ne x.dl.symm]; exact x.hl, by rw [upd_ne x.dc.symm]; exact x.hc, x.ne, x.ll, x.lc, h2, h1, x.pl⟩
theorem DrX.upd_l (x : DrX H d l c ls cs r t m) {ls' : List Int} (h1 : ls'.length ≤ 100) (h2 : ∀ z ∈ ls', 0 ≤ z) : DrX (upd H l (.lst (ls'.map V.int))) d l c ls' cs r t m :=
  ⟨by rw [upd_ne x.dl]; exact x.dd, upd_same, by rw [upd_ne x.ne.symm]; exact x.hc, x.ne, h1, x.lc, x.mm, x.pr, h2⟩
theorem DrX.keep (x : DrX H d l c ls cs r t m) (k : Kp S H H') (nd : d ∉ S) (nl : l ∉ S) (nc : c ∉ S) : DrX H' d l c ls cs r t m :=
  ⟨k _ _ x.dd nd, k _ _ x.hl nl, k _ _ x.hc nc, x.ne, x.ll, x.lc, x.mm, x.pr, x.pl⟩
theorem Dr.new (x : Dr H d l c) (h : H p = none) : Dr (upd H p o) d l c := let ⟨ls, cs, r, t, m, x⟩ := x; ⟨ls, cs, r, t, m, x.new h⟩
theorem Dr.keep (x : Dr H d l c) (k : Kp S H H') (nd : d ∉ S) (nl : l ∉ S) (nc : c ∉ S) : Dr H' d l c := let ⟨ls, cs, r, t, m, x⟩ := x; ⟨ls, cs, r, t, m, x.keep k nd nl nc⟩
theorem Dr.nes (x : Dr H d l c) (h : H p = none) : p ≠ d ∧ p ≠ l ∧ p ≠ c := let ⟨_, _, _, _, _, x⟩ := x; ⟨(ne_of_none x.dd h).symm, (ne_of_none x.hl h).symm, (ne_of_none x.hc h).symm⟩
theorem Dr.off (x : Dr H d l c) (h : p ≠ d ∧ p ≠ l ∧ p ≠ c) : Dr (upd H p o) d l c := by
  obtain ⟨ls, cs, r, t, m, x⟩ := x
  exact ⟨ls, cs, r, t, m, by rw [upd_ne h.1.symm]; exact x.dd, by rw [upd_ne h.2.1.symm]; exact x.hl, by rw [upd_ne h.2.2.symm]; exact x.hc, x.ne, x.ll, x.lc, x.mm, x.pr, x.pl⟩
theorem off2 (h : p ≠ d ∧ p ≠ l ∧ p ≠ c) : p ∉ [d, l] := not2 h.1 h.2.1
theorem Dr.keep0 (x : Dr H d l c) (k : Kp [] H H') : Dr H' d l c := x.keep k notnil notnil notnil
end
end G69
namespace G69
open PySem PySem.Spec PyProof.Rows L2
/-! ### enumerate over a tuple -/
abbrev tIt (t : Addr) : Obj := { cls := .type "tuple_iterator", data := .fields #[.ref t, .int 0 0] }
abbrev eOb (i : Addr) : Obj := { cls := .type "enumerate", data := .fields #[.none, .bool false, .ref i, rawInt 0, .none, .none] }
set_option maxHeartbeats 1000000 in
theorem meets_enumT (t : Addr) (its : Array Value) :
    Meets (Builtin.«enumerate.__new__» ⟨[.type "enumerate", .ref t], []⟩) (fun _ R s => s.heap.IsTuple t its ∧
      R (.ok (.ret (.ref (s.heap.push (tIt t)).objs.size))) { s with heap := (s.heap.push (tIt t)).push (eOb s.heap.objs.size) }) :=
  .of_wp fun prog w A R s h => by
    obtain ⟨hp, g, d, tk, os⟩ := s
    obtain ⟨h1, h⟩ := h
    have hsub := sub_enumerate
    have q1 : ∀ {A' : Around} {E : Value → Shared → Prop} {Q : Value → Shared → Prop}, Q (.ref hp.objs.size) ⟨hp.push (tIt t), g, d, tk, os⟩ → wpAny (model prog w) A' (pyIter (.ref t)) Q E ⟨hp, g, d, tk, os⟩ :=
      fun q => (begins_tuple t its).iter prog w _ _ ⟨hp, g, d, tk, os⟩ _ h1 q
    wp_walk using q1
    refine wpAny_stack_any fun st => wpAny_pure ?_
    split
    · rename_i c _ _ _ _ _
      cases (c == Value.type "enumerate") <;> (wp_walk using q1; exact ⟨_, rfl, h⟩)
    · wp_walk using q1
      exact ⟨_, rfl, h⟩
theorem call_enumT {prog : Program} {w : World} {A : Around} {E : Value → Shared → Prop} {s : Shared} {t : Addr} {its : Array Value} {Q : Value → Shared → Prop} (hL : s.heap.IsTuple t its)
    (h : ∀ h', IsEnum h' (s.heap.objs.size + 1) s.heap.objs.size 0 .none → h'.IsTupleIter s.heap.objs.size t 0 → (∀ b o, s.heap.get? b = some o → h'.get? b = some o) → Q (.ref (s.heap.objs.size + 1)) { s with heap := h' }) :
    wpAny (model prog w) A (call (.type "enumerate") [.ref t]) Q E s := by
  refine callType_new F.called_enumerate (by decide) (F.typeCall_enumerate_1 _) (F.newCall_enumerate_1 _) (fun obj => F.args_object_init_2 obj _) F.entry_enumerate_new (meets_enumT t its) ⟨hL, ?_⟩
  have hz : (s.heap.push (tIt t)).objs.size = s.heap.objs.size + 1 := Heap.size_push ..
  show _ ∧ _
  rw [hz]
  have he : IsEnum ((s.heap.push (tIt t)).push (eOb s.heap.objs.size)) (s.heap.objs.size + 1) s.heap.objs.size 0 .none := by
    have := Heap.get?_push_size (s.heap.push (tIt t)) (o := eOb s.heap.objs.size) rfl
    rw [hz] at this
    exact this
  exact ⟨⟨_, he, rfl⟩, h _ he ⟨_, Heap.get?_push_of_some _ (Heap.get?_push_size _ rfl), rfl, rfl⟩ fun b o x => Heap.get?_push_of_some _ (Heap.get?_push_of_some _ x)⟩
theorem next_enumT_end {prog : Program} {w : World} {A : Around} {E : Value → Shared → Prop} {s : Shared} {e it a : Addr} {i : Nat} {c : Int} {its : Array Value} {old : Value} {Q : Option Value → Shared → Prop} (hh : A.handled = none)
    (he : IsEnum s.heap e it c old) (hit : s.heap.IsTupleIter it a i) (ht : s.heap.IsTuple a its) (hx : its[i]? = none) (hQ : ∀ h', Heap.ExtBut it s.heap h' → Q none { s with heap := h' }) : wpAny (model prog w) A (pyNext (.ref e)) Q E s := by
  have hT : s.TypeIs (.ref e) "enumerate" := ⟨_, he, rfl⟩
  unfold pyNext
  refine wpAny_bind (wpAny_attempt (wpAny_callSpecial?_slot (name := Str.ofString "__next__") hT F.slot_enumerate_next (wpAny_call_entry F.slot_enumerate_next hT F.entry_enumerate_next ?_ (F.args_enumerate_next_1 _))))
  show wpAny _ _ (field (.ref e) 2 >>= _) _ _ _
  refine wpAny_bind (wpAny_field he rfl (x := .ref it) rfl ?_)
  refine wpAny_bind (wpAny_nextOf_tuple_end hh hit ht hx fun h' y he' hx' => ?_)
  obtain ⟨o, ho, hc⟩ := hx'
  refine wpAny_bind (wpAny_isInstance (T := "StopIteration") (b := true) ⟨o, ho, hc⟩ isSubtype_stop ?_)
  exact wpAny_pure (hQ _ he')
/-- a tuple as it stands, each item in a new pair with its place -/
def IteT (K : PySem.W.Frag) (a : Addr) : It :=
  ⟨fun i H => ∃ (xs : List V) (x : V), SqT K H a xs ∧ xs[i]? = some x, fun i H v H' => ∃ T x, v = .ref T ∧ H T = none ∧ H' = upd H T (.tup [.int (i : Nat), x]) ∧ ∀ xs, SqT K H a xs → xs[i]? = some x, fun i H => ∃ xs : List V, SqT K H a xs ∧ xs.length ≤ i⟩
theorem turn_enumT {P : Program} {w : World} {K : PySem.W.Frag} {elts : List Expr} {kk : Nat} {tpos : Pos} (a e it : Addr) (hai : a ≠ it) (hae : a ≠ e) :
    Turn P w K (.Tuple elts kk tpos) (IteT K a) [e, it] e (fun i h => (∃ old, IsEnum h e it ((i : Nat) : Int) old) ∧ h.IsTupleIter it a i ∧ e ≠ it) where
  mem := by simp
  obj := fun i h st b hb => by
    obtain ⟨⟨old, he⟩, ⟨o, ho, hc, hd⟩, _⟩ := st
    rcases (by simpa using hb : b = e ∨ b = it) with z | z
    · rw [z]; exact ⟨_, he, fun v q => nomatch q⟩
    · rw [z]; exact ⟨o, ho, fun v q => by rw [hd] at q; cases q⟩
  keep := fun i h h' st k => let ⟨⟨old, he⟩, hi, hne⟩ := st; ⟨⟨old, k e (by simp) _ he⟩, hi.at fun o q => k it (by simp) o q, hne⟩
  item := by
    intro X hP hw hK hc i pins s σ H E I hf st hg
    subst hP hw hK
    obtain ⟨⟨old, he⟩, hit, hne⟩ := st
    obtain ⟨xs, x, hq, hx⟩ := hg
    obtain ⟨its, rv, p, hz⟩ := I.tuple hq
    obtain ⟨u, hu, ru⟩ := rv.get hx
    have hel : e < s.heap.objs.size := Heap.lt_size he
    have hil : it < s.heap.objs.size := by obtain ⟨_, q, _⟩ := hit; exact Heap.lt_size q
    have p' : s.heap.IsTuple a its.toArray := p
    have hlt : i < its.toArray.size := by
      rw [List.size_toArray]
      exact (List.getElem?_eq_some_iff.mp hu).1
    refine wpAny_pyNext_enum_itemD (Draws.tuple (A := X.A.in1) (show X.A.in1.handled = none from I.ok.hd hc) it a hai its.toArray) he ⟨hit, p'⟩ hlt hne (not2 hne hae.symm) fun y h' tk hy ho hst hT hsz hk => ?_
    have ey : y = u := by
      have e1 : its.toArray[i]? = some u := by simpa using hu
      exact Option.some.inj (hy.symm.trans e1)
    subst ey
    refine ⟨_, rfl, wpAny_letOwnedTupleGo_enum (s := { s with heap := h', toks := tk + 1 }) ho fun h'' he' sb => ?_⟩
    have hT2 : h''.get? s.heap.objs.size = some { cls := .type "tuple", data := .seq #[.int i tk, y] } := (sb.2 _ (Nat.ne_of_gt hel)).trans hT
    have new : ObjOk X.prog X.w (upd H s.heap.objs.size (.tup [.int (i : Nat), x])) h'' s.heap.objs.size (.tup [.int (i : Nat), x]) :=
      ⟨by show 2 ≤ sizeLine; decide, [.int i tk, y], .cons ⟨_, rfl⟩ (.cons ru .nil), ⟨_, hT2, rfl, _, rfl⟩⟩
    have I1 : Inv X pins σ (upd H s.heap.objs.size (.tup [.int (i : Nat), x])) { s with heap := h'', toks := tk + 1 } :=
      I.turnedNew (ch := [e, it]) (fun b ob hb q => (sb.2 b (fun z => hb (by simp [z]))).trans (hk b ob (fun z => hb (by simp [z])) (fun z => hb (by simp [z])) q)) hf (Nat.le_refl _) new
    refine ⟨.ref s.heap.objs.size, _, I1, rfl, ⟨_, x, rfl, I.hok.fresh (Nat.le_refl _), rfl, fun ys hys => by rw [I.tuple_inj hys hq]; exact hx⟩, ⟨⟨y, ?_⟩, hst.1.at fun o q => (sb.2 it (Ne.symm hne)).trans q, hne⟩, fun b hb => ?_⟩
    · rw [show ((i + 1 : Nat) : Int) = (i : Int) + 1 by omega]
      exact he'
    · have hb' : b < s.heap.objs.size := by
        rcases (by simpa using hb : b = e ∨ b = it) with z | z
        · rw [z]; exact hel
        · rw [z]; exact hil
      rw [upd_ne (Nat.ne_of_lt hb')]
      exact (hf b hb).1
  done := by
    intro X hP hw hK hc i pins s σ H E I hf st hg
    subst hP hw hK
    obtain ⟨⟨old, he⟩, hit, hne⟩ := st
    obtain ⟨xs, hq, hx⟩ := hg
    obtain ⟨its, rv, p, hz⟩ := I.tuple hq
    obtain ⟨f0, f1, f2, f3, f4, f5⟩ := hf it (by simp)
    have hl := rv.length
    exact next_enumT_end (I.ok.hd hc) he hit (show s.heap.IsTuple a its.toArray from p) (by simp; omega) fun h' eb => ⟨rfl, I.turned (t' := s.toks) (fun b o hb q => eb b o hb q) f0 f1 f3 f4 f5⟩
  self := fun A i s Q E st h => let ⟨⟨_, he⟩, _⟩ := st; wpAny_pyIter_enum he h
def iEnumT (K : PySem.W.Frag) (ta : TA) : TI := fun σ H R => ta σ H fun vs H1 => ∃ a xs, vs = [.ref a] ∧ SqT K H1 a xs ∧ R (IteT K a) H1
theorem pi_enumT {X : Cx} {e : Expr} {ta : TA} {p pos tpos : Pos} {elts : List Expr} {kk : Nat} (hg : Gl X "enumerate") (hm : X.mg "enumerate" = none) (ha : PA X [e] ta) (hs : starEach [e] X.env = [(false, eval e X.env)] := by rfl) :
    PI X (.Tuple elts kk tpos) (.Call (.Name "enumerate" p) [e] [] pos) (iEnumT X.K ta) := by
  refine ⟨fun pins s σ H R I h => ?_⟩
  refine Call_ (ld_blt I hg hm boot_enumerate (PyProof.Rows.callWith_type1 (thn (ha.run pos pins s σ H _ I h) fun us s1 ⟨vs, H1, I1, r1, q1⟩ => ?_) hs rfl))
  obtain ⟨a, xs, ex, hq, q⟩ := q1
  subst ex
  cases r1 with
  | cons r rr =>
    cases rr
    cases r
    obtain ⟨its, rv, p', hz⟩ := I1.tuple hq
    have ht : s1.heap.IsTuple a its.toArray := p'
    have hal : a < s1.heap.objs.size := by
      obtain ⟨_, q, _⟩ := ht
      exact Heap.lt_size q
    refine call_enumT ht fun h' he hit hk => wpAny_pyIter_enum he ?_
    have I2 : Inv X pins σ H1 { s1 with heap := h' } := I1.kept (t' := s1.toks) hk
    refine ⟨s1.heap.objs.size + 1, [s1.heap.objs.size + 1, s1.heap.objs.size], _, _, H1, rfl, I2, turn_enumT a (s1.heap.objs.size + 1) s1.heap.objs.size (Nat.ne_of_lt hal) (Nat.ne_of_lt (Nat.lt_succ_of_lt hal)), ⟨⟨.none, he⟩, hit, Nat.succ_ne_self _⟩, fun b hb => ?_, q⟩
    have hle : s1.heap.objs.size ≤ b := by
      rcases (by simpa using hb : b = s1.heap.objs.size + 1 ∨ b = s1.heap.objs.size) with z | z
      · rw [z]; exact Nat.le_add_right _ _
      · rw [z]; exact Nat.le_refl _
    exact I1.fpOk hle (I1.hok.fresh hle)
theorem walk_enumT {K : PySem.W.Frag} {a : Addr} {xs : List V} : Walk (IteT K a) xs.length (fun H => SqT K H a xs) (YPair (fun i => some (.int (i : Nat))) (fun i => xs[i]?)) := by
  refine ⟨fun i _ hi q => ⟨xs, xs[i], q, List.getElem?_eq_getElem hi⟩, fun _ q => ⟨xs, q, Nat.le_refl _⟩, fun i H v H' _ q y => ?_⟩
  obtain ⟨T, x, h1, h2, h3, h4⟩ := y
  exact ⟨T, .int (i : Nat), x, h1, h2, h3, rfl, h4 xs q⟩
/-- enumerate of a list or a tuple -/
def iEnumS (K : PySem.W.Frag) (ta : TA) : TI := fun σ H R => ta σ H fun vs H1 => ∃ a xs, vs = [.ref a] ∧ ((SqL K H1 a xs ∧ R (Ite K a) H1) ∨ (SqT K H1 a xs ∧ R (IteT K a) H1))
theorem pi_enumS {X : Cx} {e : Expr} {ta : TA} {p pos tpos : Pos} {elts : List Expr} {kk : Nat} (hg : Gl X "enumerate") (hm : X.mg "enumerate" = none) (ha : PA X [e] ta) (hs : starEach [e] X.env = [(false, eval e X.env)] := by rfl) :
    PI X (.Tuple elts kk tpos) (.Call (.Name "enumerate" p) [e] [] pos) (iEnumS X.K ta) := by
  refine ⟨fun pins s σ H R I h => ?_⟩
  refine Call_ (ld_blt I hg hm boot_enumerate (PyProof.Rows.callWith_type1 (thn (ha.run pos pins s σ H _ I h) fun us s1 ⟨vs, H1, I1, r1, q1⟩ => ?_) hs rfl))
  obtain ⟨a, xs, ex, q⟩ := q1
  subst ex
  cases r1 with
  | cons r rr =>
    cases rr
    cases r
    have hin : ∀ b ∈ [s1.heap.objs.size + 1, s1.heap.objs.size], s1.heap.objs.size ≤ b := fun b hb => by
      rcases (by simpa using hb : b = s1.heap.objs.size + 1 ∨ b = s1.heap.objs.size) with z | z
      · rw [z]; exact Nat.le_add_right _ _
      · rw [z]; exact Nat.le_refl _
    rcases q with ⟨hq, q⟩ | ⟨hq, q⟩
    · obtain ⟨its, rv, p', hz⟩ := I1.list hq
      refine call_enumerate_list p'.isList fun h' he hit hsz hk => wpAny_pyIter_enum he ?_
      have I2 : Inv X pins σ H1 { s1 with heap := h' } := I1.kept (t' := s1.toks) hk
      exact ⟨s1.heap.objs.size + 1, [s1.heap.objs.size + 1, s1.heap.objs.size], _, _, H1, rfl, I2, turn_enum a (s1.heap.objs.size + 1) s1.heap.objs.size, ⟨⟨.none, he⟩, hit, Nat.succ_ne_self _⟩, fun b hb => I1.fpOk (hin b hb) (I1.hok.fresh (hin b hb)), q⟩
    · obtain ⟨its, rv, p', hz⟩ := I1.tuple hq
      have ht : s1.heap.IsTuple a its.toArray := p'
      have hal : a < s1.heap.objs.size := by
        obtain ⟨_, q, _⟩ := ht
        exact Heap.lt_size q
      refine call_enumT ht fun h' he hit hk => wpAny_pyIter_enum he ?_
      have I2 : Inv X pins σ H1 { s1 with heap := h' } := I1.kept (t' := s1.toks) hk
      exact ⟨s1.heap.objs.size + 1, [s1.heap.objs.size + 1, s1.heap.objs.size], _, _, H1, rfl, I2, turn_enumT a (s1.heap.objs.size + 1) s1.heap.objs.size (Nat.ne_of_lt hal) (Nat.ne_of_lt (Nat.lt_succ_of_lt hal)), ⟨⟨.none, he⟩, hit, Nat.succ_ne_self _⟩, fun b hb => I1.fpOk (hin b hb) (I1.hok.fresh (hin b hb)), q⟩
end G69
namespace G69
open PySem PySem.Spec PyProof.Rows L2
/-- a comprehension without a test -/
theorem yes1 {σ : L2.St} {H : Hp} {A B : Hp → Prop} (h : A H) : tYes σ H (fun b H3 => if b = true then A H3 else B H3) := by
  show if true = true then A H else B H
  rw [if_pos rfl]
  exact h
section
variable {X : Cx}
/-! ### own rules of the layer -/
theorem valsSigns {z : Str} {acc : Array Value} (h : ItemsOf (SignAt z) acc z.cps.size) : Vals (z.cps.toList.map fun c => V.str ⟨#[c]⟩) acc.toList := by
  obtain ⟨hl, hi⟩ := h
  have gen : ∀ (cs : List Nat) (us : List Value), cs.length = us.length → (∀ (i : Nat) (u : Value), us[i]? = some u → ∃ c t, cs[i]? = some c ∧ u = Value.str ⟨#[c]⟩ t) → Vals (cs.map fun c => V.str ⟨#[c]⟩) us := by
    intro cs
    induction cs with
    | nil =>
      intro us hlen _
      cases us with
      | nil => exact .nil
      | cons u r => cases hlen
    | cons c r ih =>
      intro us hlen hall
      cases us with
      | nil => cases hlen
      | cons u us =>
        obtain ⟨c', t, e1, e2⟩ := hall 0 u rfl
        have e3 : c = c' := Option.some.inj e1
        subst e3
        exact .cons ⟨t, e2⟩ (ih us (Nat.succ.inj hlen) fun i v hv => hall (i + 1) v hv)
  refine gen _ _ ?_ fun i u hu => ?_
  · rw [Array.length_toList, Array.length_toList, hl]
  · obtain ⟨c, t, e1, e2⟩ := hi i u (by rw [← Array.getElem?_toList]; exact hu)
    exact ⟨c, t, by rw [Array.getElem?_toList]; exact e1, e2⟩
/-- list(text) -/
theorem call_listS (hc : X.calm = true) : CallR X (.type "list") (fun xs H Q => ∃ z : Str, xs = [.str z] ∧ z.length ≤ sizeLine ∧ ∀ l, H l = none → Q (.ref l) (upd H l (.lst (z.cps.toList.map fun c => V.str ⟨#[c]⟩)))) := by
  intro pins s σ H xs us Q I r h
  obtain ⟨z, rfl, hz, q⟩ := h
  obtain ⟨u, rfl, ⟨t, rfl⟩⟩ := vals1 r
  refine call_list_str (I.ok.hd hc) z t (fun h' tk acc' c' kp e it => ?_) hz
  have hr := valsSigns it
  refine ⟨.ref s.heap.objs.size, _, I.laid (t' := tk) kp (Nat.le_refl _) (show ObjOk X.prog X.w _ h' _ (.lst _) from ⟨?_, acc'.toList, c', hr, ?_⟩), rfl, q _ (I.hok.fresh (Nat.le_refl _))⟩
  · rw [List.length_map, Array.length_toList]
    exact hz
  · rw [Array.toArray_toList]
    exact e
/-- the text read backwards -/
def revS (z : Str) : Str := ⟨z.cps.toList.reverse.toArray⟩
theorem revS_list (z : Str) : (revS z).cps.toList = z.cps.toList.reverse := rfl
theorem revS_eq (z : Str) (u : Tok) : Txt.sliceBy z none none (-1, u) = revS z := by
  apply ext_toList
  rw [step_rev_list, revS_list]
  apply List.ext_getElem?
  intro i
  rw [List.getElem?_map]
  have hz : z.length = z.cps.toList.length := by first | rfl | exact (Array.length_toList).symm
  by_cases hi : i < z.length
  · rw [List.getElem?_range hi, List.getElem?_reverse (by omega)]
    show some (z.cps.getD (z.length - 1 - i) 0) = _
    rw [← hz, Array.getElem?_toList, Array.getD_eq_getD_getElem?, Array.getElem?_eq_getElem (show z.length - 1 - i < z.cps.size by show _ < z.length; omega)]
    rfl
  · rw [List.getElem?_eq_none (by rw [List.length_range]; omega), List.getElem?_eq_none (by rw [List.length_reverse]; omega)]
    rfl
theorem revS_length (z : Str) : (revS z).length = z.length := by
  show (z.cps.toList.reverse.toArray).size = z.cps.size
  rw [List.size_toArray, List.length_reverse, Array.length_toList]
def tRevS (te : TE) : TE := fun σ H Q => te σ H fun x H1 => ∃ z : Str, x = .str z ∧ z.length ≤ sizeLine ∧ Q (.str (revS z)) H1
/-- text[::-1] -/
theorem pe_revS {e : Expr} {te : TE} {k : Nat} {p1 p2 p3 pos : Pos} (he : PE X e te) :
    PE X (.Subscript e (.Slice none none (some (.UnaryOp .USub (.Constant (.int 1) k p1) p2)) p3) pos) (tRevS te) := by
  refine ⟨fun pins s σ H Q I h => ?_⟩
  refine Subscript_ (thn (he.run pins s σ H _ I h) fun v s1 ⟨x, H1, I1, r1, z, ex, hz, q⟩ => ?_)
  subst ex
  obtain ⟨t, rfl⟩ := r1
  have hst : PO X (some (.UnaryOp .USub (.Constant (.int 1) k p1) p2)) (tPart (tUn (rU fun i => .int (-i)) (tC (.int 1)))) := po_some (pe_un un_neg pe_int)
  refine wpAny_Slice (thn (po_none.run pins s1 σ H1 (fun o H2 => o = none ∧ H2 = H1) I1 ⟨rfl, rfl⟩) fun vl s2 ⟨l, H2, I2, pl, el, e2⟩ => ?_)
  subst el
  subst e2
  refine thn (po_none.run pins s2 σ H2 (fun o H3 => o = none ∧ H3 = H2) I2 ⟨rfl, rfl⟩) fun vu s3 ⟨u, H3, I3, pu, eu, e3⟩ => ?_
  subst eu
  subst e3
  refine thn (hst.run pins s3 σ H3 (fun o H4 => o = some (-1) ∧ H4 = H3) I3 ⟨1, rfl, -1, rfl, rfl, rfl⟩) fun vs s4 ⟨o, H4, I4, ps, eo, e4⟩ => ?_
  subst eo
  subst e4
  obtain ⟨l', rfl, hl'⟩ := IsPart.raw pl
  obtain ⟨u', rfl, hu'⟩ := IsPart.raw pu
  obtain ⟨s', rfl, hs'⟩ := IsPart.raw ps
  obtain rfl : l' = none := by cases l' with
    | none => rfl
    | some x => cases hl'
  obtain rfl : u' = none := by cases u' with
    | none => rfl
    | some x => cases hu'
  obtain ⟨⟨i, tk⟩, rfl⟩ : ∃ y, s' = some y := by cases s' with
    | none => cases hs'
    | some x => exact ⟨x, rfl⟩
  obtain rfl : i = -1 := Option.some.inj hs'
  have I5 : Inv X pins σ H4 { s4 with heap := s4.heap.push { cls := .type "slice", data := .fields #[partValue none, partValue none, partValue (some (-1, tk))] } } := I4.kept (t' := s4.toks) fun b ob q => Heap.get?_push_of_some _ q
  refine tail_any (ops := [.str z t, .ref s4.heap.objs.size]) (typeIs_str _ z t) (F.slot_str_getitem.lookup) ?_ (by with_unfolding_all rfl)
  refine wpAny_getItem_str_slice (l := none) (u := none) (st := some (-1, tk)) ⟨_, Heap.get?_push_size _ rfl, rfl, rfl⟩ rfl ?_
  have hm : sliceMade z t none none (some (-1, tk)) = Made.str (Txt.sliceBy z none none (-1, tk)) := by rfl
  rw [hm, revS_eq]
  exact ⟨by rw [revS_length]; exact hz, .str _, H4, I5.tok _, ⟨_, rfl⟩, q⟩
/-! in a comprehension's block: the written part by its own name -/
theorem ix_listK {K : PySem.W.Frag} (h : X.K = K) : IxR X (rIxL K) := by
  subst h
  exact ix_list
theorem ix_tupK {K : PySem.W.Frag} (h : X.K = K) : IxR X (rIxT K) := by
  subst h
  exact ix_tup
theorem pe_bmK {K : PySem.W.Frag} {T : String} {name : Str} {id : String} {r : V → List V → Hp → VK → Prop} {o e : Expr} {es : List Expr} {apos cpos : Pos} {to : TE} {t : TA} (hK : X.K = K) (pa : PlainAttrs T) (slot : Slot T name id) (hty : typeOf (.builtin id) = pure (.type "method_descriptor"))
    (hm : MtR X id r) (ho : PE X o to) (ha : PA X (e :: es) t) (hbase : attributeBase o name X.env (eval o X.env) = eval o X.env := by rfl)
    (hfew : ((backTo cpos (starEach (e :: es) X.env)).all (fun x => !x.1) && (backToKw cpos (keywordEach [] X.env)).all (fun x => x.1.isSome) && decide ((e :: es).length + ([] : List Keyword).length + (if ([] : List Keyword).isEmpty then 0 else 1) < 30)) = true := by rfl)
    (hline : (apos.endLine == cpos.line) = true := by rfl) (hs : starEach (e :: es) X.env = (false, eval e X.env) :: starEach es X.env := by rfl) (hplain : (backTo cpos (starEach es X.env)).any (·.1) = false := by rfl) :
    PE X (.Call (.Attribute o name apos) (e :: es) [] cpos) (tBM K T r to t) := by
  subst hK
  exact pe_bm pa slot hty hm ho ha hbase hfew hline hs hplain
end
end G69
namespace G69
open PySem PySem.Spec PyProof.Rows L2
section
variable {P : Program} {w : World} {K : PySem.W.Frag} {mg : Str → Option Value} {base : Heap}
/-! ### data: lists of ints -/
theorem dpInts {H : Hp} : ∀ ns : List Int, DpAll K H (ns.map V.int) (ns.map PyData.int)
  | [] => .nil
  | n :: r => .cons (.int n) (dpInts r)
theorem layInts : ∀ ns : List Int, PyData.canLayAll0 (ns.map PyData.int) = true
  | [] => by simp only [List.map_nil, PyData.canLayAll0]
  | n :: r => by simp only [List.map_cons, PyData.canLayAll0, PyData.canLay0, layInts r, Bool.and_self]
theorem depthInts : ∀ ns : List Int, PyData.depthAll (ns.map PyData.int) = 0
  | [] => by simp only [List.map_nil, PyData.depthAll]
  | n :: r => by simp only [List.map_cons, PyData.depthAll, PyData.depth, depthInts r, Nat.max_self]
theorem shapedInts (ns : List Int) : SeqAt.shaped (.list (ns.map PyData.int)) = true := by
  unfold SeqAt.shaped
  simp only [PyData.canLay0, layInts, PyData.depth, depthInts]
  decide
theorem eqvNil (ns : List Int) : PyData.eqv (.list (ns.map PyData.int)) (.list []) = ns.isEmpty := by
  cases ns with
  | nil => simp only [List.map_nil, PyData.eqv, PyData.eqvAll, List.isEmpty_nil]
  | cons n r => simp only [List.map_cons, PyData.eqv, PyData.eqvAll, List.isEmpty_cons]
theorem seq0 (x : Int) (xs : List Int) : seqIndex? 0 (List.map V.int (x :: xs)).length = some 0 := by
  rw [List.length_map, List.length_cons]
  have h : (0 : Int) < ((xs.length + 1 : Nat) : Int) := by omega
  simp [seqIndex?, h]
/-! ### _law_take -/
abbrev sTake : Stmt := topS 42
theorem scTake : FnScope ["_law_draw", "_law_size", "_law_found", "_law_cell"] ["_law_draw", "_law_size"] (defScope sTake) := ⟨rfl, rfl, rfl, by decide +kernel, rfl, by decide +kernel, by decide +kernel⟩
def spTake : Sp := fun vs H Q _ => ∃ (d l c : Addr) (n : Int), vs = [.ref d, .int n] ∧ Dr H d l c ∧ 0 < n ∧ n < 1073741824 ∧
  ∀ (r : Int) (H' : Hp), 0 ≤ r → r < n → Dr H' d l c → Kp [d, l] H H' → Q (.int r) H'
set_option maxHeartbeats 1000000 in
theorem ok_take {f : Addr} {fd : FuncData} {k : Nat} (F : Fun K "_law_take" "_law_take" sTake f fd) (mI : mg "int" = none) (mD : mg "divmod" = none) :
    FnOk P w K mg base CX0 (k + 1) f fd ["_law_draw", "_law_size"] spTake := by
  refine F.ok scTake (fun vs H Q E h => ?_) (fun cdv A outer s H vs Q E hr h => ?_)
  · obtain ⟨d, l, c, n, rfl, _⟩ := h
    rfl
  · obtain ⟨d, l, c, n, rfl, ⟨ls, cs, r, t, m, D⟩, hn0, hn1, q⟩ := h
    have hu := hu_of hr
    refine ⟨_, C8.pss_cut (ps_if (PW.pt (pw_and (pt_cmpR op_eq (pe_dget hu (pv 0) pe_str (fun _ _ => rfl)) pe_int (nomark _))
          (pw_and1 (pt_cmpR (op_neD hr.units) (pe_dget hu (pv 0) pe_str (fun _ _ => rfl)) (pe_lst pa_nil) (nomark _)))))
        (pss_one (ps_dput hu (pv 0) pe_str (pe_bm PySem.F.plainAttrs_list PySem.F.slot_list_pop PySem.F.type_list_pop mt_popAt (pe_dget hu (pv 0) pe_str (fun _ _ => rfl)) (pa_cons pe_int pa_nil)) rfl))
        (pss_one (ps_if (pt_cmpR op_eq (pe_dget hu (pv 0) pe_str (fun _ _ => rfl)) pe_int (nomark _))
          (pss_cons (ps_dput hu (pv 0) pe_str (pe_op op_add (pe_dget hu (pv 0) pe_str (fun _ _ => rfl)) pe_int) rfl)
          (pss_cons (ps_for PassesOwn.never rfl (pi_list (pe_op op_cat (pe_lst (pa_cons (pe_dget hu (pv 0) pe_str (fun _ _ => rfl)) pa_nil)) (pe_dget hu (pv 0) pe_str (fun _ _ => rfl))))
              (pg_name (i := 3) scTake.nd rfl (.inl rfl))
              (pss_one (ps_dput hu (pv 0) pe_str (pe_op op_mod (pe_callTy call_int1 (by rfl) mI (by decide +kernel) (pa_cons (pe_op op_add (pe_op op_add
                (pe_op op_mul (pe_dget hu (pv 0) pe_str (fun _ _ => rfl)) pe_int) (pe_op op_mul (pv 3) pe_int)) pe_int) pa_nil)) pe_int) rfl)))
          (pss_one (ps_dput hu (pv 0) pe_str (pe_op op_mod (pe_callTy call_int1 (by rfl) mI (by decide +kernel) (pa_cons (pe_op op_pow (pe_dget hu (pv 0) pe_str (fun _ _ => rfl)) pe_int) pa_nil)) pe_int) rfl))))
          pss_nil)))
      (pss_cons (ps_asg (pe_callB call_divmod (by rfl) mD (by decide +kernel) (pa_cons (pe_dget hu (pv 0) pe_str (fun _ _ => rfl)) (pa_cons (pv 1) pa_nil)))
          (pg_tup rfl (pgs_cons (pg_sub (pv 0) pe_str (set_dict hu)) (pgs_cons (pg_name (i := 2) scTake.nd rfl (.inl rfl)) pgs_nil))))
        (pss_one (ps_ret (pv 2)))), ?_⟩
    refine ⟨fun σ H2 => ∃ y ls' r' t' m', σ = [some (.ref d), some (.int n), none, y] ∧ DrX H2 d l c ls' cs r' t' m' ∧ Kp [d, l] H H2, ?_, ?_⟩
    · -- rest == 0 and large != []
      refine ⟨_, rfl, d, .int r, rfl, DGet.k (k := kRest) D.dd, rfl, _, rfl, ite2 (fun e => ?_) (fun e => ?_)⟩
      · -- the way with rest = 0
        refine ⟨_, rfl, d, .ref l, rfl, DGet.k (k := kLarge) D.dd, by decide, fun p hp => ?_⟩
        have D1 : DrX (upd H p (.lst [])) d l c ls cs r t m := D.new hp
        have k1 : Kp [d, l] H (upd H p (.lst [])) := Kp.new hp
        refine ⟨_, _, .lst (.inl (.inl D1.hl)) (dpInts ls), .lst (.inl (.inl upd_same)) .nil, shapedInts ls, by decide +kernel, _, rfl, ?_⟩
        rw [eqvNil]
        cases ls with
        | cons x xs =>
          refine iteT ?_
          refine ⟨_, rfl, d, .ref l, rfl, DGet.k (k := kLarge) D1.dd, .inl ⟨rfl, _, .inl (.inl D1.hl)⟩, l, _, 0, 0, .int x, rfl, rfl, D1.hl, by decide, by decide, seq0 _ _, rfl, ?_⟩
          have D2 : DrX (upd (upd H p (.lst [])) l (.lst (xs.map V.int))) d l c xs cs r t m :=
            D1.upd_l (by have := D.ll; rw [List.length_cons] at this; omega) (fun z hz => D.pl z (List.mem_cons_of_mem _ hz))
          refine ⟨_, rfl, d, _, rfl, DPut.k (k := kRest) D2.dd (by show 5 < sizeLine; decide), ?_⟩
          exact ⟨none, xs, x, t, m, rfl, D2.upd_d (D.pl x List.mem_cons_self) D.mm, k1.trans ((Kp.put (by simp)).trans (Kp.put (by simp)))⟩
        | nil =>
          refine iteF ?_
          refine ⟨_, rfl, d, .int r, rfl, DGet.k (k := kRest) D1.dd, rfl, _, rfl, ?_⟩
          rw [e]
          refine iteT ?_
          refine ⟨_, rfl, d, .int t, rfl, DGet.k (k := kTurn) D1.dd, _, _, rfl, rfl, _, rfl, d, _, rfl, DPut.k (k := kTurn) D1.dd (by show 5 < sizeLine; decide), ?_⟩
          have D2 : DrX (upd (upd H p (.lst [])) d (.dK (drawK l c r (t + 1) m))) d l c [] cs r (t + 1) m := D1.upd_d D.pr D.mm
          have k2 : Kp [d, l] H (upd (upd H p (.lst [])) d (.dK (drawK l c r (t + 1) m))) := k1.trans (Kp.put (by simp))
          -- the list that is walked
          refine ⟨_, rfl, d, .int (t + 1), rfl, DGet.k (k := kTurn) D2.dd, szle (by show 1 ≤ 1000000; decide), fun p1 hp1 => ?_⟩
          have D3 := D2.new (o := .lst [.int (t + 1)]) hp1
          have k3 := k2.trans (Kp.new (o := .lst [.int (t + 1)]) hp1)
          refine ⟨_, rfl, d, .ref c, rfl, DGet.k (k := kCells) D3.dd, p1, c, _, _, rfl, rfl, upd_same, D3.hc, ?_, fun p2 hp2 => ?_⟩
          · have := D.lc
            exact szle (by rw [List.length_map]; show 1 + cs.length ≤ 1000000; omega)
          · have D4 := D3.new (o := .lst ([V.int (t + 1)] ++ cs.map V.int)) hp2
            have k4 := k3.trans (Kp.new (o := .lst ([V.int (t + 1)] ++ cs.map V.int)) hp2)
            have nd : p2 ≠ d := (ne_of_none D3.dd hp2).symm
            have e2 : ([V.int (t + 1)] ++ cs.map V.int) = ((t + 1) :: cs).map V.int := rfl
            refine ⟨p2, rfl, ⟨_, .inl (.inl upd_same)⟩, for_list (K := K) (a := p2) (xs := ((t + 1) :: cs).map V.int)
              (fun i σ H5 => ∃ (y : Option V) (m' : Int), σ = [some (.ref d), some (.int n), none, y] ∧ DrX H5 d l c [] cs r (t + 1) m' ∧ Kp [d, l] H H5 ∧ H5 p2 = some (.lst (((t + 1) :: cs).map V.int)))
              ⟨none, m, rfl, D4, k4, upd_same⟩ (fun i σ H5 _ h5 => ?_) ?_ ?_⟩
            · obtain ⟨y, m', rfl, D5, k5, e5⟩ := h5
              exact .inl (.inl e5)
            · rintro i x σ H5 hi ⟨y, m', rfl, D5, k5, e5⟩
              obtain ⟨z, rfl⟩ : ∃ z, x = V.int z := by
                rw [List.getElem?_map] at hi
                cases e : ((t + 1) :: cs)[i]? with
                | none => rw [e] at hi; cases hi
                | some z => rw [e] at hi; exact ⟨z, (Option.some.inj hi).symm⟩
              refine ⟨_, rfl, d, .int m', rfl, DGet.k (k := kMix) D5.dd, _, _, rfl, rfl, .inr ⟨by decide, by decide⟩, _, rfl, _, _, rfl, rfl, .inr ⟨by decide, by decide⟩, _, _, rfl, rfl, _, _, rfl, rfl, .inl ⟨_, rfl, ?_⟩⟩
              refine ⟨_, _, rfl, rfl, (by show (0 : Int) < 2147483629; decide), _, rfl, d, _, rfl, DPut.k (k := kMix) D5.dd (by show 5 < sizeLine; decide), ?_⟩
              exact ⟨_, _, rfl, D5.upd_d D5.pr ⟨Int.emod_nonneg _ (by decide), Int.emod_lt_of_pos _ (by decide)⟩, k5.trans (Kp.put (by simp)), by rw [upd_ne nd]; exact e5⟩
            · rintro σ H5 ⟨y, m', rfl, D5, k5, e5⟩
              refine ⟨_, rfl, d, .int m', rfl, DGet.k (k := kMix) D5.dd, _, _, rfl, rfl, ⟨by decide, by decide, ?_⟩, .inl ⟨_, rfl, ?_⟩⟩
              · have := D5.mm
                omega
              · refine ⟨_, _, rfl, rfl, (by show (0 : Int) < 2305843009213693951; decide), _, rfl, d, _, rfl, DPut.k (k := kRest) D5.dd (by show 5 < sizeLine; decide), ?_⟩
                exact ⟨y, [], _, t + 1, m', rfl, D5.upd_d (Int.emod_nonneg _ (by decide)) D5.mm, k5.trans (Kp.put (by simp))⟩
      · refine iteF ?_
        refine ⟨_, rfl, d, .int r, rfl, DGet.k (k := kRest) D.dd, rfl, _, rfl, ?_⟩
        rw [eq_false_of_ne_true e]
        refine iteF ?_
        exact ⟨none, ls, r, t, m, rfl, D, Kp.rfl'⟩
    · rintro σ' H2 ⟨y, ls', r', t', m', rfl, D2, k2⟩
      have hp2 : ∀ p, H2 p = none → p ≠ d := fun p hp => (ne_of_none D2.dd hp).symm
      refine ⟨_, rfl, d, .int r', rfl, DGet.k (k := kRest) D2.dd, _, rfl, r', n, rfl, ⟨hn0, hn1⟩, fun p hp => ?_⟩
      refine ⟨p, [.int (r' / n), .int (r' % n)], rfl, .inl (.inl upd_same), rfl, _, [.int (r' % n)], rfl, .ref d, rfl, d, _, rfl, DPut.k (k := kRest) (D2.new hp).dd (by show 5 < sizeLine; decide), _, [], rfl, rfl, _, rfl, ?_⟩
      exact q (r' % n) _ (Int.emod_nonneg _ (by omega)) (Int.emod_lt_of_pos _ hn0) ⟨_, _, _, _, _, (D2.new hp).upd_d (Int.ediv_nonneg D2.pr (by omega)) D2.mm⟩ (k2.trans ((Kp.new hp).trans (Kp.put (by simp))))
end
end G69
namespace G69
open PySem PySem.Spec PyProof.Rows L2
section
variable {P : Program} {w : World} {K : PySem.W.Frag} {mg : Str → Option Value} {base : Heap}
/-! ### _law_begin -/
abbrev sBegin : Stmt := topS 41
abbrev nBegin : List Str := ["_law_script", "_law_large", "_law_cell"]
theorem scBegin : FnScope nBegin ["_law_script"] (defScope sBegin) := ⟨rfl, rfl, rfl, by decide +kernel, rfl, by decide +kernel, by decide +kernel⟩
def spBegin (K : PySem.W.Frag) : Sp := fun vs H Q _ => ∃ (a : Addr) (ns : List Int), vs = [.ref a] ∧ SqL K H a (ns.map V.int) ∧ ns.length ≤ 63 ∧
  ∀ (d l c : Addr) (H' : Hp), H d = none → H l = none → H c = none → Dr H' d l c → Kp [] H H' → Q (.ref d) H'
theorem ok_begin {f : Addr} {fd : FuncData} {k : Nat} (F : Fun K "_law_begin" "_law_begin" sBegin f fd) (mA : mg "abs" = none) (mL : mg "list" = none) :
    FnOk P w K mg base CX0 (k + 1) f fd ["_law_script"] (spBegin K) := by
  refine F.ok scBegin (fun vs H Q E h => ?_) (fun cdv A outer s H vs Q E hr h => ?_)
  · obtain ⟨a, ns, rfl, _⟩ := h
    rfl
  · obtain ⟨a, ns, rfl, hS, hlen, q⟩ := h
    have hu := hu_of hr
    refine ⟨_, pss_cons (ps_setLc (i := 1) (own := [("_law_cell", 2)]) (g := gName 2) rfl scBegin.nd rfl rfl (sw_true rfl rfl rfl (by decide +kernel)) (pi_list (pv 0))
          (blkOk_by (N := nBegin) (sc := defScope sBegin) (by decide +kernel)) (fun _ _ _ _ _ => pg_name (i := 2) scBegin.nd rfl (Or.inl rfl))
          (fun _ _ _ _ _ => pts_one (pt_cmpR op_ge (pe_callB call_abs (by rfl) mA (by decide +kernel) (pa_cons (pv 2) pa_nil)) (pe_op op_pow pe_int pe_int) (nomark _)))
          (fun _ _ _ _ _ => pe_callB call_abs (by rfl) mA (by decide +kernel) (pa_cons (pv 2) pa_nil)))
      (pss_one (ps_ret (pe_disp (pps_cons pe_str (pv 1) (pps_cons pe_str (pe_callTy call_list_of (by rfl) mL (by decide +kernel) (pa_cons (pv 0) pa_nil))
        (pps_cons pe_str pe_int (pps_cons pe_str pe_int (pps_cons pe_str pe_int pps_nil))))) (by rfl) (by rfl) (fun z => by cases z) (by decide)))), ?_⟩
    refine ⟨.ref a, rfl, a, rfl, ⟨_, hS⟩, fun D hD => lc_list (K := K) (a := a) (xs := ns.map V.int)
      (fun i H2 => ∃ ls : List Int, H2 D = some (.lst (ls.map V.int)) ∧ ls.length ≤ i ∧ (∀ z ∈ ls, 0 ≤ z) ∧ Kp [] H H2)
      ⟨[], upd_same, Nat.le_refl _, (fun z hz => nomatch hz), Kp.new hD⟩ ?_ ?_ ?_⟩
    · rintro i H2 _ ⟨ls, e, _, _, k2⟩
      exact k2.l notnil hS
    · rintro i x H2 hi ⟨ls, e, hl, hp, k2⟩
      obtain ⟨z, hz, rfl⟩ := intAt hi
      have hil : i < ns.length := (List.getElem?_eq_some_iff.mp hz).1
      refine ⟨rfl, _, rfl, z, rfl, _, _, rfl, rfl, ⟨by decide, by decide, by decide⟩, _, _, rfl, rfl, _, rfl, ite2 (fun e1 => ?_) (fun e1 => ?_)⟩
      · refine ⟨_, rfl, z, rfl, _, e, szlt (by rw [List.length_map]; omega), ls ++ [if z < 0 then -z else z], ?_, ?_, ?_, k2.mut hD⟩
        · rw [upd_same, List.map_append]
          rfl
        · rw [List.length_append]
          show ls.length + 1 ≤ i + 1
          omega
        · intro y hy
          rcases List.mem_append.mp hy with h | h
          · exact hp y h
          · rw [List.mem_singleton] at h
            subst h
            split <;> omega
      · exact ⟨ls, e, by omega, hp, k2⟩
    · rintro H2 ⟨ls, e, hl, hp, k2⟩
      rw [List.length_map] at hl
      refine fun d hd => ?_
      have k3 : Kp [] H (upd H2 d (.dK [])) := k2.trans (Kp.new hd)
      refine ⟨_, rfl, _, rfl, a, _, rfl, .inl (k3.l notnil hS), fun c hc => ?_⟩
      have hdc : d ≠ c := ne_of_none upd_same hc
      have hDd : D ≠ d := ne_of_none e hd
      have hc2 : H2 c = none := by rw [upd_ne hdc.symm] at hc; exact hc
      have hDc : D ≠ c := ne_of_none e hc2
      refine ⟨by rw [upd_ne hdc]; exact upd_same, [(kLarge, .ref D), (kCells, .ref c), (kRest, .int 0), (kTurn, .int 0), (kMix, .int 7)], rfl, (by show 5 ≤ 15; decide), ?_⟩
      refine q d D c _ (k2.free hd) hD (k2.free hc2) ⟨ls, ns, 0, 0, 7, upd_same, ?_, ?_, hDc, by omega, by omega, ⟨by decide, by decide⟩, by decide, hp⟩ ((k3.trans (Kp.new hc)).mut (k2.free hd))
      · rw [upd_ne hDd, upd_ne hDc, upd_ne hDd]
        exact e
      · rw [upd_ne hdc.symm, upd_same]
end
end G69
namespace G69
open PySem PySem.Spec PyProof.Rows L2
/-- the built-in names are not the module's -/
structure Bt (mg : Str → Option Value) : Prop where
  abs : mg "abs" = none
  all : mg "all" = none
  any : mg "any" = none
  bool : mg "bool" = none
  dict : mg "dict" = none
  divmod : mg "divmod" = none
  enumerate : mg "enumerate" = none
  int : mg "int" = none
  isinst : mg "isinstance" = none
  len : mg "len" = none
  list : mg "list" = none
  max : mg "max" = none
  min : mg "min" = none
  range : mg "range" = none
  repr : mg "repr" = none
  set : mg "set" = none
  sorted : mg "sorted" = none
  str : mg "str" = none
  sum : mg "sum" = none
  tuple : mg "tuple" = none
  zip : mg "zip" = none
/-! ### a def that may be called -/
structure Cal (P : Program) (w : World) (K : PySem.W.Frag) (mg : Str → Option Value) (base : Heap) (x : Str) (ps : List Str) (k : Nat) (sp : Sp) : Prop where
  ex : ∃ (f : Addr) (fd : FuncData), FnOk P w K mg base CX0 k f fd ps sp ∧ mg x = some (.ref f) ∧ PySem.W.keepIn K (.ref f) = true ∧ Binds K fd ps []
structure Def (K : PySem.W.Frag) (mg : Str → Option Value) (x : Str) (st : Stmt) (ps : List Str) (f : Addr) (fd : FuncData) : Prop where
  F : Fun K x x st f fd
  g : mg x = some (.ref f)
  b : Binds K fd ps []
theorem Def.cal {P : Program} {w : World} {K : PySem.W.Frag} {mg : Str → Option Value} {base : Heap} {x : Str} {st : Stmt} {ps : List Str} {f : Addr} {fd : FuncData} {k : Nat} {sp : Sp} (D : Def K mg x st ps f fd) (G : FnOk P w K mg base CX0 k f fd ps sp) :
    Cal P w K mg base x ps k sp := ⟨f, fd, G, D.g, D.F.kp, D.b⟩
theorem Cal.imp {P : Program} {w : World} {K : PySem.W.Frag} {mg : Str → Option Value} {base : Heap} {x : Str} {ps : List Str} {k : Nat} {sp sp' : Sp} (C : Cal P w K mg base x ps k sp) (h : ∀ vs H Q E, sp' vs H Q E → sp vs H Q E) :
    Cal P w K mg base x ps k sp' := let ⟨f, fd, G, a, b, c⟩ := C.ex; ⟨f, fd, G.imp h, a, b, c⟩
/-- f(e, ..) -/
theorem pe_cal {X : Cx} {x : Str} {ps : List Str} {k j : Nat} {sp : Sp} {e : Expr} {es : List Expr} {t : TA} {p pos : Pos} (C : Cal X.prog X.w X.K X.mg X.base x ps k sp) (hr : Room j X.A) (hj : k ≤ j) (hg : Gl X x) (ha : PA X (e :: es) t)
    (hdb : (x == ("__debug__" : Str)) = false := by decide) (he : starEach (e :: es) X.env = (false, eval e X.env) :: starEach es X.env := by rfl) (hpl : (backTo pos (starEach es X.env)).any (·.1) = false := by rfl) :
    PE X (.Call (.Name x p) (e :: es) [] pos) (tCall sp [] E0 t) := by
  obtain ⟨f, fd, G, g, kp, b⟩ := C.ex
  exact pe_call G (hr.mono hj) hg g kp b .nil pass0 ha hdb he hpl
end G69
namespace G69
open PySem PySem.Spec PyProof.Rows L2
section
variable {P : Program} {w : World} {K : PySem.W.Frag} {mg : Str → Option Value} {base : Heap}
/-! ### _law_pick -/
abbrev sPick : Stmt := topS 43
theorem scPick : FnScope ["_law_draw", "_law_some"] ["_law_draw", "_law_some"] (defScope sPick) := ⟨rfl, rfl, rfl, by decide +kernel, rfl, by decide +kernel, by decide +kernel⟩
/-- a sign as a text -/
abbrev sg (c : Nat) : Str := ⟨#[c]⟩
def spPick (K : PySem.W.Frag) : Sp := fun vs H Q _ => ∃ (d l c : Addr) (y : V), vs = [.ref d, y] ∧ Dr H d l c ∧
  ((∃ (a : Addr) (xs : List V), y = .ref a ∧ SqL K H a xs ∧ a ≠ d ∧ a ≠ l ∧ xs ≠ [] ∧ xs.length ≤ 1000 ∧ ∀ (i : Nat) (x : V) (H' : Hp), xs[i]? = some x → Dr H' d l c → Kp [d, l] H H' → Q x H') ∨
   (∃ (a : Addr) (xs : List V), y = .ref a ∧ SqT K H a xs ∧ a ≠ d ∧ a ≠ l ∧ xs ≠ [] ∧ xs.length ≤ 1000 ∧ ∀ (i : Nat) (x : V) (H' : Hp), xs[i]? = some x → Dr H' d l c → Kp [d, l] H H' → Q x H') ∨
   (∃ (z : Str), y = .str z ∧ z.cps.toList ≠ [] ∧ z.length ≤ 1000 ∧ ∀ (i : Nat) (x : Nat) (H' : Hp), z.cps.toList[i]? = some x → Dr H' d l c → Kp [d, l] H H' → Q (.str (sg x)) H'))
theorem at_lt {α : Type} {xs : List α} {r : Int} (h0 : 0 ≤ r) (h1 : r < xs.length) : ∃ x, xs[r.toNat]? = some x ∧ atI xs r = some x := by
  have h : r.toNat < xs.length := by omega
  refine ⟨xs[r.toNat], List.getElem?_eq_getElem h, ?_⟩
  have e : ((r.toNat : Nat) : Int) = r := Int.toNat_of_nonneg h0
  have := atI_nat (xs := xs) (j := r.toNat) (List.getElem?_eq_getElem h)
  rw [e] at this
  exact this
theorem ok_pick {f : Addr} {fd : FuncData} (F : Fun K "_law_pick" "_law_pick" sPick f fd) (CT : Cal P w K mg base "_law_take" ["_law_draw", "_law_size"] 1 spTake) (mL : mg "len" = none) :
    FnOk P w K mg base CX0 2 f fd ["_law_draw", "_law_some"] (spPick K) := by
  refine F.ok scPick (fun vs H Q E h => ?_) (fun cdv A outer s H vs Q E hr h => ?_)
  · obtain ⟨d, l, c, y, rfl, _⟩ := h
    rfl
  · obtain ⟨d, l, c, y, rfl, D, h⟩ := h
    refine ⟨_, pss_one (ps_ret (pe_ix ix_seq (pv 1) (pe_cal CT hr (by decide) (by rfl) (pa_cons (pv 0) (pa_cons (pe_callB call_len (by rfl) mL PySem.boot_len (pa_cons (pv 1) pa_nil)) pa_nil))) (fun _ _ => rfl))), ?_⟩
    rcases h with ⟨a, xs, rfl, hS, nd, nl, h0, h1, q⟩ | ⟨a, xs, rfl, hS, nd, nl, h0, h1, q⟩ | ⟨z, rfl, h0, h1, q⟩
    · have hp : 0 < xs.length := List.length_pos_iff.mpr h0
      refine ⟨.ref a, rfl, .ref d, rfl, .ref a, rfl, _, xs.length, rfl, .inl ⟨xs, hS, rfl⟩, d, l, c, xs.length, rfl, D, by omega, by omega, fun r H' r0 r1 D' k => ?_⟩
      obtain ⟨x, e1, e2⟩ := at_lt r0 r1
      exact .inl ⟨a, xs, r, x, rfl, rfl, k.l (not2 nd nl) hS, e2, q _ x H' e1 D' k⟩
    · have hp : 0 < xs.length := List.length_pos_iff.mpr h0
      refine ⟨.ref a, rfl, .ref d, rfl, .ref a, rfl, _, xs.length, rfl, .inr ⟨xs, hS, rfl⟩, d, l, c, xs.length, rfl, D, by omega, by omega, fun r H' r0 r1 D' k => ?_⟩
      obtain ⟨x, e1, e2⟩ := at_lt r0 r1
      exact .inr (.inl ⟨a, xs, r, x, rfl, rfl, k.t (not2 nd nl) hS, e2, q _ x H' e1 D' k⟩)
    · have hp : 0 < z.cps.toList.length := List.length_pos_iff.mpr h0
      have hz : z.length = z.cps.toList.length := by first | rfl | exact (Array.length_toList).symm
      refine ⟨.str z, rfl, .ref d, rfl, .str z, rfl, _, z.length, rfl, ⟨szle (by omega), rfl⟩, d, l, c, z.length, rfl, D, by omega, by omega, fun r H' r0 r1 D' k => ?_⟩
      obtain ⟨x, e1, e2⟩ := at_lt (xs := z.cps.toList) r0 (by omega)
      exact .inr (.inr ⟨z, r, x, rfl, rfl, szle (by omega), e2, q _ x H' e1 D' k⟩)
end
end G69
namespace G69
open PySem PySem.Spec PyProof.Rows L2
/-! ### classes, by number: their names, their fields -/
def cn : Nat → Str
  | 0 => "Slips"
  | 1 => "Speller"
  | 2 => "Listener"
  | 3 => "Machine"
  | 4 => "Land"
  | 5 => "Session"
  | 6 => "Move"
  | 7 => "Desk"
  | _ => "no class"
def fnm : Nat → List Str
  | 0 => ["z_extra", "z_missing", "z_wrong", "z_swapped"]
  | 1 => ["e_entries", "e_slips"]
  | 2 => ["h_speller", "h_limit"]
  | 3 => ["m_rows"]
  | 4 => ["l_teller", "l_answer"]
  | _ => []
/-! ### trees: values without a heap -/
inductive T where
  | non | bl (b : Bool) | int (i : Int) | str (z : Str) | ty (n : String)
  | lst (ts : List T) | tup (ts : List T)
  | dic (ks : List Key) (ts : List T)
  | ins (c : Nat) (ts : List T)
  | drw
  | scr (n : Nat)
  | ob (v : V)
abbrev Dw := Option (Addr × Addr × Addr)
/-- the written part, the module's names, the drawing -/
structure Mo where
  K : PySem.W.Frag
  mg : Str → Option Value
  D : Dw
mutual
inductive Rp (M : Mo) (Z : Hp) : T → V → Prop
  | non : Rp M Z .non .non
  | bl (b : Bool) : Rp M Z (.bl b) (.bl b)
  | int (i : Int) : Rp M Z (.int i) (.int i)
  | str {z : Str} : z.length ≤ sizeLine → Rp M Z (.str z) (.str z)
  | ty (n : String) : Rp M Z (.ty n) (.ty n)
  | lst {a : Addr} {vs : List V} {ts : List T} : Z a = some (.lst vs) → ts.length ≤ sizeLine → RpL M Z ts vs → Rp M Z (.lst ts) (.ref a)
  | tup {a : Addr} {vs : List V} {ts : List T} : Z a = some (.tup vs) → ts.length ≤ sizeLine → RpL M Z ts vs → Rp M Z (.tup ts) (.ref a)
  | dic {a : Addr} {vs : List V} {ks : List Key} {ts : List T} : Z a = some (.dK (ks.zip vs)) → ks.length = ts.length → RpL M Z ts vs → Rp M Z (.dic ks ts) (.ref a)
  | ins {a C dx : Addr} {c : Nat} {vs : List V} {ts : List T} : M.mg (cn c) = some (.ref C) → Z a = some (.ins C dx ((fnm c).zip vs)) → Z dx = some (.own a) → RpL M Z ts vs → Rp M Z (.ins c ts) (.ref a)
  | drw {d l c : Addr} : M.D = some (d, l, c) → Rp M Z .drw (.ref d)
  | scr {a : Addr} {vs : List V} : SqL M.K Z a vs → Rp M Z (.scr vs.length) (.ref a)
  | ob (v : V) : Rp M Z (.ob v) v
inductive RpL (M : Mo) (Z : Hp) : List T → List V → Prop
  | nil : RpL M Z [] []
  | cons {t : T} {v : V} {ts : List T} {vs : List V} : Rp M Z t v → RpL M Z ts vs → RpL M Z (t :: ts) (v :: vs)
end
theorem Same.rd {H H' : Hp} {a : Addr} {u : HO} (e : Same H H') (h : Rd H a u) : Rd H' a u := by
  rcases h with h | ⟨o, h⟩
  · exact .inl (e _ _ h)
  · exact .inr ⟨o, e _ _ h⟩
theorem Same.sl {K : PySem.W.Frag} {H H' : Hp} {a : Addr} {xs : List V} (e : Same H H') (h : SqL K H a xs) : SqL K H' a xs := h.elim (fun h => .inl (Same.rd e h)) .inr
theorem Same.st {K : PySem.W.Frag} {H H' : Hp} {a : Addr} {xs : List V} (e : Same H H') (h : SqT K H a xs) : SqT K H' a xs := h.elim (fun h => .inl (Same.rd e h)) .inr
section
variable {M : Mo} {Z Z' : Hp}
mutual
theorem Rp.mono (e : Same Z Z') : ∀ {t : T} {v : V}, Rp M Z t v → Rp M Z' t v
  | _, _, .non => .non
  | _, _, .bl b => .bl b
  | _, _, .int i => .int i
  | _, _, .str h => .str h
  | _, _, .ty n => .ty n
  | _, _, .lst h n l => .lst (e _ _ h) n (RpL.mono e l)
  | _, _, .tup h n l => .tup (e _ _ h) n (RpL.mono e l)
  | _, _, .dic h n l => .dic (e _ _ h) n (RpL.mono e l)
  | _, _, .ins g h d l => .ins g (e _ _ h) (e _ _ d) (RpL.mono e l)
  | _, _, .drw h => .drw h
  | _, _, .scr h => .scr (Same.sl e h)
  | _, _, .ob v => .ob v
theorem RpL.mono (e : Same Z Z') : ∀ {ts : List T} {vs : List V}, RpL M Z ts vs → RpL M Z' ts vs
  | _, _, .nil => .nil
  | _, _, .cons h l => .cons (Rp.mono e h) (RpL.mono e l)
end
theorem RpL.len : ∀ {ts : List T} {vs : List V}, RpL M Z ts vs → ts.length = vs.length
  | _, _, .nil => rfl
  | _, _, .cons _ l => congrArg Nat.succ (RpL.len l)
theorem RpL.get : ∀ {ts : List T} {vs : List V} {i : Nat} {t : T}, RpL M Z ts vs → ts[i]? = some t → ∃ v, vs[i]? = some v ∧ Rp M Z t v
  | _, _, 0, _, .cons h _, e => by
    cases e
    exact ⟨_, rfl, h⟩
  | _, _, i + 1, _, .cons _ l, e => RpL.get (i := i) l e
theorem RpL.get2 : ∀ {ts : List T} {vs : List V} {i : Nat} {v : V}, RpL M Z ts vs → vs[i]? = some v → ∃ t, ts[i]? = some t ∧ Rp M Z t v
  | _, _, 0, _, .cons h _, e => by
    cases e
    exact ⟨_, rfl, h⟩
  | _, _, i + 1, _, .cons _ l, e => RpL.get2 (i := i) l e
theorem RpL.app : ∀ {ts us : List T} {vs ws : List V}, RpL M Z ts vs → RpL M Z us ws → RpL M Z (ts ++ us) (vs ++ ws)
  | _, _, _, _, .nil, r => r
  | _, _, _, _, .cons h l, r => .cons h (RpL.app l r)
theorem RpL.take : ∀ {ts : List T} {vs : List V} (n : Nat), RpL M Z ts vs → RpL M Z (ts.take n) (vs.take n)
  | _, _, 0, _ => .nil
  | _, _, _ + 1, .nil => .nil
  | _, _, n + 1, .cons h l => .cons h (RpL.take n l)
theorem RpL.drop : ∀ {ts : List T} {vs : List V} (n : Nat), RpL M Z ts vs → RpL M Z (ts.drop n) (vs.drop n)
  | _, _, 0, r => r
  | _, _, _ + 1, .nil => .nil
  | _, _, n + 1, .cons _ l => RpL.drop n l
theorem RpL.set {t : T} {v : V} (r : Rp M Z t v) : ∀ {ts : List T} {vs : List V} (i : Nat), RpL M Z ts vs → RpL M Z (ts.set i t) (vs.set i v)
  | _, _, _, .nil => .nil
  | _, _, 0, .cons _ l => .cons r l
  | _, _, i + 1, .cons h l => .cons h (RpL.set r i l)
theorem RpL.erase : ∀ {ts : List T} {vs : List V} (i : Nat), RpL M Z ts vs → RpL M Z (ts.eraseIdx i) (vs.eraseIdx i)
  | _, _, _, .nil => .nil
  | _, _, 0, .cons _ l => l
  | _, _, i + 1, .cons h l => .cons h (RpL.erase i l)
end
/-! ### slots -/
inductive Sl where
  | no | sh (t : T) | ow (t : T)
abbrev S3 := List Sl
/-- what is one's own: a list, a dict, an instance that no other thing knows -/
def Ow (M : Mo) (q : Addr) (Z H : Hp) (t : T) (a : Addr) : Prop :=
  match t with
  | .lst ts => ∃ vs, H a = some (.lst vs) ∧ ts.length ≤ sizeLine ∧ RpL M Z ts vs
  | .dic ks ts => ∃ vs, H a = some (.dK (ks.zip vs)) ∧ ks.length = ts.length ∧ RpL M Z ts vs
  | .ins c ts => a = q ∧ ∃ C dx vs, M.mg (cn c) = some (.ref C) ∧ H a = some (.ins C dx ((fnm c).zip vs)) ∧ Z dx = some (.own a) ∧ RpL M Z ts vs
  | _ => False
def DrOk (D : Dw) (H Z : Hp) : Prop :=
  match D with
  | none => True
  | some (d, l, c) => Dr H d l c ∧ Z d = none ∧ Z l = none ∧ Z c = none
def DS (D : Dw) : List Addr :=
  match D with
  | none => []
  | some (d, l, _) => [d, l]
def offD (D : Dw) (a : Addr) : Prop :=
  match D with
  | none => True
  | some (d, l, c) => a ≠ d ∧ a ≠ l ∧ a ≠ c
structure Gh where
  M : Mo
  H0 : Hp
  Z0 : Hp
  q : Addr
structure Core (G : Gh) (Z H : Hp) : Prop where
  le : Same Z H
  z0 : Same G.Z0 Z
  nw : ∀ a, G.Z0 a = none → Z a ≠ none → G.H0 a = none
  kp : Kp (DS G.M.D) G.H0 H
  dr : DrOk G.M.D H Z
def Pv (G : Gh) (px Z : Hp) (a : Addr) : Prop := Z a = none ∧ G.H0 a = none ∧ px a = none ∧ offD G.M.D a
structure Fm (G : Gh) (px Z H : Hp) (σ : L2.St) (s : S3) : Prop extends Core G Z H where
  len : σ.length = s.length
  sh : ∀ (i : Nat) (t : T), s[i]? = some (Sl.sh t) → ∃ v, σ[i]? = some (some v) ∧ Rp G.M Z t v
  ow : ∀ (i : Nat) (t : T), s[i]? = some (Sl.ow t) → ∃ a, σ[i]? = some (some (V.ref a)) ∧ Pv G px Z a ∧ Ow G.M G.q Z H t a
  inj : ∀ (i j : Nat) (a : Addr) (t u : T), s[i]? = some (Sl.ow t) → s[j]? = some (Sl.ow u) → σ[i]? = some (some (V.ref a)) → σ[j]? = some (some (V.ref a)) → i = j
  px : ∀ a o, px a = some o → H a = some o ∧ Z a = none ∧ G.H0 a = none ∧ offD G.M.D a
/-- not among what is owned -/
def NotOw (σ : L2.St) (s : S3) (a : Addr) : Prop := ∀ (i : Nat) (t : T), s[i]? = some (Sl.ow t) → σ[i]? ≠ some (some (V.ref a))
theorem Ow.mono {M : Mo} {q : Addr} {Z Z' H H' : Hp} {t : T} {a : Addr} (h : Ow M q Z H t a) (e : Same Z Z') (k : ∀ o, H a = some o → H' a = some o) : Ow M q Z' H' t a := by
  cases t with
  | lst ts => obtain ⟨vs, h1, h2, h3⟩ := h; exact ⟨vs, k _ h1, h2, h3.mono e⟩
  | dic ks ts => obtain ⟨vs, h1, h2, h3⟩ := h; exact ⟨vs, k _ h1, h2, h3.mono e⟩
  | ins c ts => obtain ⟨hq, C, dx, vs, h0, h1, h2, h3⟩ := h; exact ⟨hq, C, dx, vs, h0, k _ h1, e _ _ h2, h3.mono e⟩
  | _ => exact h
theorem Ow.at {M : Mo} {q : Addr} {Z H : Hp} {t : T} {a : Addr} (h : Ow M q Z H t a) : ∃ o, H a = some o := by
  cases t with
  | lst ts => obtain ⟨vs, h1, h2, h3⟩ := h; exact ⟨_, h1⟩
  | dic ks ts => obtain ⟨vs, h1, h2, h3⟩ := h; exact ⟨_, h1⟩
  | ins c ts => obtain ⟨hq, C, dx, vs, h0, h1, h2, h3⟩ := h; exact ⟨_, h1⟩
  | _ => exact h.elim
theorem Ow.rp {M : Mo} {q : Addr} {Z H Z' : Hp} {t : T} {a : Addr} {o : HO} (h : Ow M q Z H t a) (e : Same Z Z') (ho : H a = some o) (hz : Z' a = some o) : Rp M Z' t (.ref a) := by
  cases t with
  | lst ts =>
    obtain ⟨vs, h1, h2, h3⟩ := h
    rw [h1] at ho
    cases ho
    exact .lst hz h2 (h3.mono e)
  | dic ks ts =>
    obtain ⟨vs, h1, h2, h3⟩ := h
    rw [h1] at ho
    cases ho
    exact .dic hz h2 (h3.mono e)
  | ins c ts =>
    obtain ⟨hq, C, dx, vs, h0, h1, h2, h3⟩ := h
    rw [h1] at ho
    cases ho
    exact .ins h0 hz (e _ _ h2) (h3.mono e)
  | _ => exact h.elim
theorem Same.new {H : Hp} {p : Addr} {o : HO} (h : H p = none) : Same H (upd H p o) := fun a u e => by
  rw [upd_ne (ne_of_none e h)]
  exact e
theorem sameKp {S : List Addr} {H H' : Hp} (e : Same H H') : Kp S H H' := fun a o h _ => e a o h
section
variable {G : Gh} {px Z Z' H H' : Hp} {σ : L2.St} {s : S3}
theorem offD.not {D : Dw} {a : Addr} (h : offD D a) : a ∉ DS D := by
  cases D with
  | none => exact notnil
  | some x =>
    obtain ⟨d, l, c⟩ := x
    exact not2 h.1 h.2.1
theorem DrOk.offZ {D : Dw} {a : Addr} {o : HO} (h : DrOk D H Z) (e : Z a = some o) : offD D a := by
  cases D with
  | none => trivial
  | some x =>
    obtain ⟨d, l, c⟩ := x
    exact ⟨ne_of_none e h.2.1, ne_of_none e h.2.2.1, ne_of_none e h.2.2.2⟩
theorem DrOk.offN {D : Dw} {a : Addr} (h : DrOk D H Z) (e : H a = none) : offD D a := by
  cases D with
  | none => trivial
  | some x =>
    obtain ⟨d, l, c⟩ := x
    exact h.1.nes e
/-- Z and H grow by what is new -/
structure Gw (Z H Z' H' : Hp) : Prop where
  zz : Same Z Z'
  le : Same Z' H'
  hh : Same H H'
  nw : ∀ a, Z a = none → Z' a ≠ none → H a = none
theorem Kp.none_of {S : List Addr} {H H' : Hp} {a : Addr} (k : Kp S H H') (n : a ∉ S) (h : H' a = none) : H a = none := k.back n h
theorem Core.grow (c : Core G Z H) (g : Gw Z H Z' H') : Core G Z' H' := by
  have hdr : DrOk G.M.D H' Z' := by
    have h := c.dr
    revert h
    cases hD : G.M.D with
    | none => intro _; trivial
    | some x =>
      obtain ⟨d, l, cc⟩ := x
      intro h
      obtain ⟨ls, cs, r, t, m, x⟩ := h.1
      refine ⟨h.1.keep0 (sameKp g.hh), ?_, ?_, ?_⟩
      · cases e : Z' d with
        | none => rfl
        | some o => exact absurd (g.nw d h.2.1 (by rw [e]; intro z; cases z)) (by rw [x.dd]; intro z; cases z)
      · cases e : Z' l with
        | none => rfl
        | some o => exact absurd (g.nw l h.2.2.1 (by rw [e]; intro z; cases z)) (by rw [x.hl]; intro z; cases z)
      · cases e : Z' cc with
        | none => rfl
        | some o => exact absurd (g.nw cc h.2.2.2 (by rw [e]; intro z; cases z)) (by rw [x.hc]; intro z; cases z)
  refine ⟨g.le, c.z0.trans g.zz, fun a h1 h2 => ?_, c.kp.trans (sameKp g.hh), hdr⟩
  cases e : Z a with
  | some o => exact c.nw a h1 (by rw [e]; intro z; cases z)
  | none =>
    have hn := g.nw a e h2
    exact c.kp.back (c.dr.offN hn).not hn
theorem Pv.grow {a : Addr} (h : Pv G px Z a) (g : Gw Z H Z' H') (ha : ∃ o, H a = some o) : Pv G px Z' a := by
  refine ⟨?_, h.2.1, h.2.2.1, h.2.2.2⟩
  cases e : Z' a with
  | none => rfl
  | some o =>
    obtain ⟨u, hu⟩ := ha
    exact absurd (g.nw a h.1 (by rw [e]; intro z; cases z)) (by rw [hu]; intro z; cases z)
theorem Fm.grow (f : Fm G px Z H σ s) (g : Gw Z H Z' H') : Fm G px Z' H' σ s where
  toCore := f.toCore.grow g
  len := f.len
  sh := fun i t e => let ⟨v, h1, h2⟩ := f.sh i t e; ⟨v, h1, h2.mono g.zz⟩
  ow := fun i t e => let ⟨a, h1, h2, h3⟩ := f.ow i t e; ⟨a, h1, h2.grow g h3.at, h3.mono g.zz fun o h => g.hh _ _ h⟩
  inj := f.inj
  px := fun a o e => by
    obtain ⟨h1, h2, h3, h4⟩ := f.px a o e
    refine ⟨g.hh _ _ h1, ?_, h3, h4⟩
    cases e : Z' a with
    | none => rfl
    | some u => exact absurd (g.nw a h2 (by rw [e]; intro z; cases z)) (by rw [h1]; intro z; cases z)
theorem Gw.rfl' (h : Same Z H) : Gw Z H Z H := ⟨fun _ _ e => e, h, fun _ _ e => e, fun a h1 h2 => absurd h1 h2⟩
/-- a new object, known to all -/
theorem Gw.new {p : Addr} {o : HO} (h : Same Z H) (n : H p = none) : Gw Z H (upd Z p o) (upd H p o) := by
  have nz : Z p = none := by
    cases e : Z p with
    | none => rfl
    | some u => rw [h p u e] at n; cases n
  refine ⟨Same.new nz, fun a u e => ?_, Same.new n, fun a h1 h2 => ?_⟩
  · by_cases ha : a = p
    · subst ha
      rw [upd_same] at e ⊢
      exact e
    · rw [upd_ne ha] at e ⊢
      exact h a u e
  · by_cases ha : a = p
    · subst ha
      exact n
    · rw [upd_ne ha] at h2
      exact absurd h1 h2
/-- a new object, known to none -/
theorem Gw.mute {p : Addr} {o : HO} (h : Same Z H) (n : H p = none) : Gw Z H Z (upd H p o) :=
  ⟨fun _ _ e => e, h.trans (Same.new n), Same.new n, fun a h1 h2 => absurd h1 h2⟩
end
end G69
namespace G69
open PySem PySem.Spec PyProof.Rows L2
section
variable {G : Gh} {px Z Z' H H' : Hp} {σ : L2.St} {s : S3}
theorem set_at {α : Type} {l : List α} {i j : Nat} {x y : α} (h : (l.set i x)[j]? = some y) : (j = i ∧ y = x) ∨ (j ≠ i ∧ l[j]? = some y) := by
  by_cases e : j = i
  · subst e
    by_cases hl : j < l.length
    · rw [List.getElem?_set_self hl] at h
      exact .inl ⟨rfl, (Option.some.inj h).symm⟩
    · rw [List.getElem?_eq_none (by rw [List.length_set]; omega)] at h
      cases h
  · rw [List.getElem?_set_ne (fun z => e z.symm)] at h
    exact .inr ⟨e, h⟩
theorem Fm.drop (f : Fm G px Z H σ s) (i : Nat) : Fm G px Z H σ (s.set i .no) where
  toCore := f.toCore
  len := by rw [List.length_set]; exact f.len
  sh := fun j t e => by
    rcases set_at e with ⟨_, z⟩ | ⟨_, e⟩
    · cases z
    · exact f.sh j t e
  ow := fun j t e => by
    rcases set_at e with ⟨_, z⟩ | ⟨_, e⟩
    · cases z
    · exact f.ow j t e
  inj := fun j k a t u e1 e2 h1 h2 => by
    rcases set_at e1 with ⟨_, z⟩ | ⟨_, e1⟩
    · cases z
    · rcases set_at e2 with ⟨_, z⟩ | ⟨_, e2⟩
      · cases z
      · exact f.inj j k a t u e1 e2 h1 h2
  px := f.px
theorem Fm.dropNot (f : Fm G px Z H σ s) {i : Nat} {t : T} {a : Addr} (e : s[i]? = some (.ow t)) (h : σ[i]? = some (some (.ref a))) : NotOw σ (s.set i .no) a := fun j u e2 h2 => by
  rcases set_at e2 with ⟨_, z⟩ | ⟨ne, e2⟩
  · cases z
  · exact ne (f.inj j i a u t e2 e h2 h)
/-- what was one's own is known to all -/
theorem Fm.freeze (f : Fm G px Z H σ s) {a : Addr} {o : HO} (hp : Pv G px Z a) (hn : NotOw σ s a) (ho : H a = some o) : Fm G px (upd Z a o) H σ s where
  le := fun b u e => by
    by_cases hb : b = a
    · subst hb
      rw [upd_same] at e
      rw [ho]
      exact e
    · rw [upd_ne hb] at e
      exact f.le b u e
  z0 := f.z0.trans (Same.new hp.1)
  nw := fun b h1 h2 => by
    by_cases hb : b = a
    · subst hb
      exact hp.2.1
    · rw [upd_ne hb] at h2
      exact f.nw b h1 h2
  kp := f.kp
  dr := by
    have h := f.dr
    have g := hp.2.2.2
    revert h g
    cases G.M.D with
    | none => intro _ _; trivial
    | some x =>
      obtain ⟨d, l, c⟩ := x
      intro h g
      exact ⟨h.1, by rw [upd_ne g.1.symm]; exact h.2.1, by rw [upd_ne g.2.1.symm]; exact h.2.2.1, by rw [upd_ne g.2.2.symm]; exact h.2.2.2⟩
  len := f.len
  sh := fun i t e => let ⟨v, h1, h2⟩ := f.sh i t e; ⟨v, h1, h2.mono (Same.new hp.1)⟩
  ow := fun i t e => by
    obtain ⟨b, h1, h2, h3⟩ := f.ow i t e
    have hb : b ≠ a := fun z => hn i t e (by rw [h1, z])
    exact ⟨b, h1, ⟨by rw [upd_ne hb]; exact h2.1, h2.2⟩, h3.mono (Same.new hp.1) fun _ q => q⟩
  inj := f.inj
  px := fun b u e => by
    obtain ⟨h1, h2, h3⟩ := f.px b u e
    have hb : b ≠ a := ne_of_none e hp.2.2.1
    exact ⟨h1, by rw [upd_ne hb]; exact h2, h3⟩
theorem Fm.shAt (f : Fm G px Z H σ s) {i : Nat} {t : T} {v : V} (h : σ[i]? = some (some v)) (r : Rp G.M Z t v) : Fm G px Z H σ (s.set i (.sh t)) where
  toCore := f.toCore
  len := by rw [List.length_set]; exact f.len
  sh := fun j u e => by
    rcases set_at e with ⟨hj, z⟩ | ⟨_, e⟩
    · cases z
      subst hj
      exact ⟨v, h, r⟩
    · exact f.sh j u e
  ow := fun j u e => by
    rcases set_at e with ⟨_, z⟩ | ⟨_, e⟩
    · cases z
    · exact f.ow j u e
  inj := fun j k a t u e1 e2 h1 h2 => by
    rcases set_at e1 with ⟨_, z⟩ | ⟨_, e1⟩
    · cases z
    · rcases set_at e2 with ⟨_, z⟩ | ⟨_, e2⟩
      · cases z
      · exact f.inj j k a t u e1 e2 h1 h2
  px := f.px
theorem Fm.setNo (f : Fm G px Z H σ s) (i : Nat) (x : Option V) : Fm G px Z H (σ.set i x) (s.set i .no) where
  toCore := f.toCore
  len := by rw [List.length_set, List.length_set]; exact f.len
  sh := fun j u e => by
    rcases set_at e with ⟨hj, z⟩ | ⟨hj, e⟩
    · cases z
    · rw [List.getElem?_set_ne (fun z => hj z.symm)]
      exact f.sh j u e
  ow := fun j u e => by
    rcases set_at e with ⟨_, z⟩ | ⟨hj, e⟩
    · cases z
    · rw [List.getElem?_set_ne (fun z => hj z.symm)]
      exact f.ow j u e
  inj := fun j k a t u e1 e2 h1 h2 => by
    rcases set_at e1 with ⟨_, z⟩ | ⟨n1, e1⟩
    · cases z
    · rcases set_at e2 with ⟨_, z⟩ | ⟨n2, e2⟩
      · cases z
      · rw [List.getElem?_set_ne (fun z => n1 z.symm)] at h1
        rw [List.getElem?_set_ne (fun z => n2 z.symm)] at h2
        exact f.inj j k a t u e1 e2 h1 h2
  px := f.px
theorem Fm.setSh (f : Fm G px Z H σ s) {i : Nat} (hi : i < s.length) {t : T} {v : V} (r : Rp G.M Z t v) : Fm G px Z H (σ.set i (some v)) (s.set i (.sh t)) := by
  have h := (f.setNo i (some v)).shAt (i := i) (v := v) (by rw [List.getElem?_set_self (by rw [f.len]; exact hi)]) r
  rw [List.set_set] at h
  exact h
theorem Fm.setOw (f : Fm G px Z H σ s) {i : Nat} (hi : i < s.length) {t : T} {a : Addr} (hp : Pv G px Z a) (hn : NotOw σ s a) (ow : Ow G.M G.q Z H t a) : Fm G px Z H (σ.set i (some (.ref a))) (s.set i (.ow t)) where
  toCore := f.toCore
  len := by rw [List.length_set, List.length_set]; exact f.len
  sh := fun j u e => by
    rcases set_at e with ⟨hj, z⟩ | ⟨hj, e⟩
    · cases z
    · rw [List.getElem?_set_ne (fun z => hj z.symm)]
      exact f.sh j u e
  ow := fun j u e => by
    rcases set_at e with ⟨hj, z⟩ | ⟨hj, e⟩
    · cases z
      subst hj
      exact ⟨a, by rw [List.getElem?_set_self (by rw [f.len]; exact hi)], hp, ow⟩
    · rw [List.getElem?_set_ne (fun z => hj z.symm)]
      exact f.ow j u e
  inj := fun j k b t' u e1 e2 h1 h2 => by
    rcases set_at e1 with ⟨n1, z1⟩ | ⟨n1, e1⟩
    · rcases set_at e2 with ⟨n2, z2⟩ | ⟨n2, e2⟩
      · rw [n1, n2]
      · rw [n1, List.getElem?_set_self (by rw [f.len]; exact hi)] at h1
        cases h1
        rw [List.getElem?_set_ne (fun z => n2 z.symm)] at h2
        exact absurd h2 (hn k u e2)
    · rcases set_at e2 with ⟨n2, z2⟩ | ⟨n2, e2⟩
      · rw [n2, List.getElem?_set_self (by rw [f.len]; exact hi)] at h2
        cases h2
        rw [List.getElem?_set_ne (fun z => n1 z.symm)] at h1
        exact absurd h1 (hn j t' e1)
      · rw [List.getElem?_set_ne (fun z => n1 z.symm)] at h1
        rw [List.getElem?_set_ne (fun z => n2 z.symm)] at h2
        exact f.inj j k b t' u e1 e2 h1 h2
  px := f.px
/-- one's own thing is changed -/
theorem Fm.put (f : Fm G px Z H σ s) {i : Nat} {t u : T} {a : Addr} {o : HO} (e : s[i]? = some (.ow t)) (h : σ[i]? = some (some (.ref a))) (ow : Ow G.M G.q Z (upd H a o) u a) : Fm G px Z (upd H a o) σ (s.set i (.ow u)) := by
  obtain ⟨b, hb, hp, _⟩ := f.ow i t e
  rw [h] at hb
  cases hb
  have hi : i < s.length := (List.getElem?_eq_some_iff.mp e).1
  exact {
    le := fun b w q => by rw [upd_ne (ne_of_none q hp.1)]; exact f.le b w q
    z0 := f.z0
    nw := f.nw
    kp := fun b w q n => by rw [upd_ne (ne_of_none q hp.2.1)]; exact f.kp b w q n
    dr := by
      have h := f.dr
      have g := hp.2.2.2
      revert h g
      cases G.M.D with
      | none => intro _ _; trivial
      | some x =>
        obtain ⟨d, l, c⟩ := x
        intro h g
        exact ⟨h.1.off g, h.2⟩
    len := by rw [List.length_set]; exact f.len
    sh := fun j w e2 => by
      rcases set_at e2 with ⟨_, z⟩ | ⟨_, e2⟩
      · cases z
      · exact f.sh j w e2
    ow := fun j w e2 => by
      rcases set_at e2 with ⟨hj, z⟩ | ⟨hj, e2⟩
      · cases z
        subst hj
        exact ⟨a, h, hp, ow⟩
      · obtain ⟨b, h1, h2, h3⟩ := f.ow j w e2
        have hb : b ≠ a := fun z => hj (f.inj j i a w t e2 e (by rw [h1, z]) h)
        exact ⟨b, h1, h2, h3.mono (fun _ _ q => q) fun o q => by rw [upd_ne hb]; exact q⟩
    inj := fun j k b t' u' e1 e2 h1 h2 => by
      rcases set_at e1 with ⟨n1, z1⟩ | ⟨n1, e1⟩
      · rcases set_at e2 with ⟨n2, z2⟩ | ⟨n2, e2⟩
        · rw [n1, n2]
        · rw [n1] at h1 ⊢
          exact f.inj i k b t u' e e2 h1 h2
      · rcases set_at e2 with ⟨n2, z2⟩ | ⟨n2, e2⟩
        · rw [n2] at h2 ⊢
          exact f.inj j i b t' t e1 e h1 h2
        · exact f.inj j k b t' u' e1 e2 h1 h2
    px := fun b w q => by
      obtain ⟨h1, h2⟩ := f.px b w q
      have hb : b ≠ a := ne_of_none q hp.2.2.1
      exact ⟨by rw [upd_ne hb]; exact h1, h2⟩ }
/-- a thing that is laid by for a while -/
theorem Fm.lay (f : Fm G px Z H σ s) {a : Addr} {o : HO} (hp : Pv G px Z a) (hn : NotOw σ s a) (ho : H a = some o) : Fm G (upd px a o) Z H σ s where
  toCore := f.toCore
  len := f.len
  sh := f.sh
  ow := fun i t e => by
    obtain ⟨b, h1, h2, h3⟩ := f.ow i t e
    have hb : b ≠ a := fun z => hn i t e (by rw [h1, z])
    exact ⟨b, h1, ⟨h2.1, h2.2.1, by rw [upd_ne hb]; exact h2.2.2.1, h2.2.2.2⟩, h3⟩
  inj := f.inj
  px := fun b u e => by
    by_cases hb : b = a
    · subst hb
      rw [upd_same] at e
      cases e
      exact ⟨ho, hp.1, hp.2.1, hp.2.2.2⟩
    · rw [upd_ne hb] at e
      exact f.px b u e
/-- and taken up again -/
theorem Fm.unlay (f : Fm G (upd px a o) Z H σ s) (hn : px a = none) : Fm G px Z H σ s ∧ Pv G px Z a ∧ NotOw σ s a ∧ H a = some o := by
  obtain ⟨h1, h2, h3, h4⟩ := f.px a o upd_same
  refine ⟨⟨f.toCore, f.len, f.sh, fun i t e => ?_, f.inj, fun b u e => ?_⟩, ⟨h2, h3, hn, h4⟩, fun i t e q => ?_, h1⟩
  · obtain ⟨b, g1, g2, g3⟩ := f.ow i t e
    have hb : b ≠ a := fun z => by
      have := g2.2.2.1
      rw [z, upd_same] at this
      cases this
    have g4 := g2.2.2.1
    rw [upd_ne hb] at g4
    exact ⟨b, g1, ⟨g2.1, g2.2.1, g4, g2.2.2.2⟩, g3⟩
  · exact f.px b u (by rw [upd_ne (ne_of_none e hn)]; exact e)
  · obtain ⟨b, g1, g2, g3⟩ := f.ow i t e
    rw [q] at g1
    cases g1
    have := g2.2.2.1
    rw [upd_same] at this
    cases this
/-- the laid thing is changed -/
theorem Fm.relay {a : Addr} {o o' : HO} (f : Fm G (upd px a o) Z H σ s) (hn : px a = none) : Fm G (upd px a o') Z (upd H a o') σ s := by
  obtain ⟨f0, hp, hno, ha⟩ := f.unlay hn
  refine Fm.lay (o := o') ?_ hp hno upd_same
  exact {
    le := fun b w q => by rw [upd_ne (ne_of_none q hp.1)]; exact f0.le b w q
    z0 := f0.z0
    nw := f0.nw
    kp := fun b w q n => by rw [upd_ne (ne_of_none q hp.2.1)]; exact f0.kp b w q n
    dr := by
      have h := f0.dr
      have g := hp.2.2.2
      revert h g
      cases G.M.D with
      | none => intro _ _; trivial
      | some x =>
        obtain ⟨d, l, c⟩ := x
        intro h g
        exact ⟨h.1.off g, h.2⟩
    len := f0.len
    sh := f0.sh
    ow := fun j w e2 => by
      obtain ⟨b, h1, h2, h3⟩ := f0.ow j w e2
      have hb : b ≠ a := fun z => hno j w e2 (by rw [h1, z])
      exact ⟨b, h1, h2, h3.mono (fun _ _ q => q) fun o q => by rw [upd_ne hb]; exact q⟩
    inj := f0.inj
    px := fun b w q => by
      obtain ⟨h1, h2⟩ := f0.px b w q
      have hb : b ≠ a := ne_of_none q hp.2.2.1
      exact ⟨by rw [upd_ne hb]; exact h1, h2⟩ }
/-- a new object, one's own -/
theorem Fm.mute (f : Fm G px Z H σ s) {p : Addr} {o : HO} (n : H p = none) : Fm G px Z (upd H p o) σ s ∧ Pv G px Z p ∧ NotOw σ s p := by
  refine ⟨f.grow (Gw.mute f.le n), ⟨?_, ?_, ?_, f.dr.offN n⟩, fun i t e q => ?_⟩
  · cases e : Z p with
    | none => rfl
    | some u => rw [f.le p u e] at n; cases n
  · exact f.kp.back (f.dr.offN n).not n
  · cases e : px p with
    | none => rfl
    | some u => rw [(f.px p u e).1] at n; cases n
  · obtain ⟨b, h1, h2, h3⟩ := f.ow i t e
    rw [q] at h1
    cases h1
    obtain ⟨w, hw⟩ := h3.at
    rw [n] at hw
    cases hw
theorem Fm.new (f : Fm G px Z H σ s) {p : Addr} {o : HO} (n : H p = none) : Same Z (upd Z p o) ∧ Fm G px (upd Z p o) (upd H p o) σ s := by
  have g := Gw.new (o := o) f.le n
  exact ⟨g.zz, f.grow g⟩
end
/-! ### readings over trees -/
abbrev K3 := T → S3 → Prop
abbrev TE3 := S3 → K3 → Prop
abbrev TT3 := S3 → (Bool → S3 → Prop) → Prop
abbrev TA3 := S3 → (List T → S3 → Prop) → Prop
abbrev XK3 := Str → List Str → List T → Prop
structure Ends3 where
  nx : S3 → Prop
  rt : T → Prop
  bk : S3 → Prop := fun _ => False
  ct : S3 → Prop := fun _ => False
abbrev TS3 := Ends3 → S3 → Prop
abbrev Sp3 := List T → (T → Prop) → XK3 → Prop
def up (G : Gh) (te : TE3) : TE := fun σ H Q => ∃ px Z s Q3, Fm G px Z H σ s ∧ te s Q3 ∧ ∀ t s', Q3 t s' → ∀ v Z' H', Same Z Z' → Fm G px Z' H' σ s' → Rp G.M Z' t v → Q v H'
def upF (G : Gh) (te : TE3) : TE := fun σ H Q => ∃ px Z s Q3, Fm G px Z H σ s ∧ te s Q3 ∧ ∀ t s', Q3 t s' → ∀ a Z' H', Same Z Z' → Fm G px Z' H' σ s' → Pv G px Z' a → NotOw σ s' a → Ow G.M G.q Z' H' t a → Q (.ref a) H'
def upT (G : Gh) (tt : TT3) : TT := fun σ H Q => ∃ px Z s Q3, Fm G px Z H σ s ∧ tt s Q3 ∧ ∀ b s', Q3 b s' → ∀ Z' H', Same Z Z' → Fm G px Z' H' σ s' → Q b H'
def upA (G : Gh) (ta : TA3) : TA := fun σ H Q => ∃ px Z s Q3, Fm G px Z H σ s ∧ ta s Q3 ∧ ∀ ts s', Q3 ts s' → ∀ vs Z' H', Same Z Z' → Fm G px Z' H' σ s' → RpL G.M Z' ts vs → Q vs H'
structure EndsOk (G : Gh) (px Z : Hp) (D3 : Ends3) (D : Ends) : Prop where
  nx : ∀ s', D3.nx s' → ∀ σ' Z' H', Same Z Z' → Fm G px Z' H' σ' s' → D.nx σ' H'
  rt : ∀ t, D3.rt t → ∀ v Z' H', Same Z Z' → Core G Z' H' → Rp G.M Z' t v → D.rt v H'
  bk : ∀ s', D3.bk s' → ∀ σ' Z' H', Same Z Z' → Fm G px Z' H' σ' s' → D.bk σ' H'
  ct : ∀ s', D3.ct s' → ∀ σ' Z' H', Same Z Z' → Fm G px Z' H' σ' s' → D.ct σ' H'
def upS (G : Gh) (ts : TS3) : TS := fun D σ H => ∃ px Z s D3, Fm G px Z H σ s ∧ ts D3 s ∧ EndsOk G px Z D3 D
theorem EndsOk.mono {G : Gh} {px Z Z' : Hp} {D3 : Ends3} {D : Ends} (h : EndsOk G px Z D3 D) (e : Same Z Z') : EndsOk G px Z' D3 D :=
  ⟨fun s q σ Z2 H2 e2 => h.nx s q σ Z2 H2 (e.trans e2), fun t q v Z2 H2 e2 => h.rt t q v Z2 H2 (e.trans e2), fun s q σ Z2 H2 e2 => h.bk s q σ Z2 H2 (e.trans e2), fun s q σ Z2 H2 e2 => h.ct s q σ Z2 H2 (e.trans e2)⟩
theorem PE.imp {X : Cx} {e : Expr} {t t' : TE} (h : PE X e t) (i : ∀ σ H Q, t' σ H Q → t σ H Q) : PE X e t' := ⟨fun pins s σ H Q I q => h.run pins s σ H Q I (i σ H Q q)⟩
theorem PT.imp {X : Cx} {e : Expr} {t t' : TT} (h : PT X e t) (i : ∀ σ H Q, t' σ H Q → t σ H Q) : PT X e t' := ⟨fun pins s σ H Q I q => h.run pins s σ H Q I (i σ H Q q)⟩
theorem PW.imp {X : Cx} {e : Expr} {t t' : TT} (h : PW X e t) (i : ∀ σ H Q, t' σ H Q → t σ H Q) : PW X e t' := ⟨fun w pins s σ H Q I q => h.run w pins s σ H Q I (i σ H Q q)⟩
theorem PA.imp {X : Cx} {e : List Expr} {t t' : TA} (h : PA X e t) (i : ∀ σ H Q, t' σ H Q → t σ H Q) : PA X e t' := ⟨fun p pins s σ H Q I q => h.run p pins s σ H Q I (i σ H Q q)⟩
theorem PS.imp {X : Cx} {e : Stmt} {t t' : TS} (h : PS X e t) (i : ∀ D σ H, t' D σ H → t D σ H) : PS X e t' := ⟨fun pins s σ H D I q => h.run pins s σ H D I (i D σ H q)⟩
theorem PSs.imp {X : Cx} {e : List Stmt} {t t' : TS} (h : PSs X e t) (i : ∀ D σ H, t' D σ H → t D σ H) : PSs X e t' := ⟨fun pins s σ H D I q => h.run pins s σ H D I (i D σ H q)⟩
/-- fresh things are known to all from now on -/
theorem froz {X : Cx} {G : Gh} {e : Expr} {te : TE3} (h : PE X e (upF G te)) : PE X e (up G te) := PE.imp h fun σ H Q ⟨px, Z, s, Q3, f, q, k⟩ =>
  ⟨px, Z, s, Q3, f, q, fun t s' q3 a Z' H' e' f' hp hn ow => by
    obtain ⟨o, ho⟩ := ow.at
    exact k t s' q3 (.ref a) (upd Z' a o) H' (e'.trans (Same.new hp.1)) (f'.freeze hp hn ho) (ow.rp (Same.new hp.1) ho upd_same)⟩
end G69
namespace G69
open PySem PySem.Spec PyProof.Rows L2
/-! ### expressions over trees -/
def tVar3 (i : Nat) : TE3 := fun s Q => match s[i]? with
  | some (.sh t) => Q t s
  | some (.ow t) => Q t (s.set i (.sh t))
  | _ => False
def tC3 (t : T) : TE3 := fun s Q => Q t s
abbrev F2 := T → T → (T → Prop) → Prop
abbrev F1 := T → (T → Prop) → Prop
abbrev FN := List T → (T → Prop) → Prop
def tBin (f : F2) (ta tb : TE3) : TE3 := fun s Q => ta s fun x s1 => tb s1 fun y s2 => f x y fun t => Q t s2
def tUn3 (f : F1) (ta : TE3) : TE3 := fun s Q => ta s fun x s1 => f x fun t => Q t s1
def tN (f : FN) (ta : TA3) : TE3 := fun s Q => ta s fun ts s1 => f ts fun t => Q t s1
def aNil : TA3 := fun s Q => Q [] s
def aCons (te : TE3) (ta : TA3) : TA3 := fun s Q => te s fun t s1 => ta s1 fun ts s2 => Q (t :: ts) s2
/-- what comes out of a step by values -/
def Res (M : Mo) (Z H : Hp) (t : T) (Q : VK) : Prop := ∀ v Z' H', Gw Z H Z' H' → Rp M Z' t v → Q v H'
def OpL (r : R2) (M : Mo) (f : F2) : Prop := ∀ (Z H : Hp) (x y : V) (tx ty : T) (P : T → Prop) (Q : VK), Same Z H → Rp M Z tx x → Rp M Z ty y → f tx ty P → (∀ t, P t → Res M Z H t Q) → r x y H Q
def UnL (r : V → Hp → VK → Prop) (M : Mo) (f : F1) : Prop := ∀ (Z H : Hp) (x : V) (tx : T) (P : T → Prop) (Q : VK), Same Z H → Rp M Z tx x → f tx P → (∀ t, P t → Res M Z H t Q) → r x H Q
def CaL (r : List V → Hp → VK → Prop) (M : Mo) (f : FN) : Prop := ∀ (Z H : Hp) (vs : List V) (ts : List T) (P : T → Prop) (Q : VK), Same Z H → RpL M Z ts vs → f ts P → (∀ t, P t → Res M Z H t Q) → r vs H Q
def rOr (r q : R2) : R2 := fun x y H Q => r x y H Q ∨ q x y H Q
theorem opOr {X : Cx} {f : Value → Value → Sem Value} {r q : R2} (h : OpR X f r) (g : OpR X f q) : OpR X f (rOr r q) := fun pins s σ H x y v u Q I rx ry z => z.elim (h pins s σ H x y v u Q I rx ry) (g pins s σ H x y v u Q I rx ry)
def rOrN (r q : List V → Hp → VK → Prop) : List V → Hp → VK → Prop := fun xs H Q => r xs H Q ∨ q xs H Q
theorem caOr {X : Cx} {f : Value} {r q : List V → Hp → VK → Prop} (h : CallR X f r) (g : CallR X f q) : CallR X f (rOrN r q) := fun pins s σ H x v Q I rx z => z.elim (h pins s σ H x v Q I rx) (g pins s σ H x v Q I rx)
section
variable {M : Mo} {Z H : Hp} {Q : VK}
/-- the heap as it is -/
theorem Res.same {t : T} {v : V} (h : Res M Z H t Q) (l : Same Z H) (r : Rp M Z t v) : Q v H := h v Z H (Gw.rfl' l) r
/-- a new object -/
theorem Res.made {t : T} {o : HO} (h : Res M Z H t Q) (l : Same Z H) {p : Addr} (n : H p = none) (r : Same Z (upd Z p o) → (upd Z p o) p = some o → Rp M (upd Z p o) t (.ref p)) : Q (.ref p) (upd H p o) := by
  have g := Gw.new (o := o) l n
  exact h _ _ _ g (r g.zz upd_same)
end
/-- a display -/
def fewB : List T → Nat → Bool
  | [], _ => true
  | _ :: _, 0 => false
  | _ :: ts, n + 1 => fewB ts n
theorem fewB_le : ∀ (ts : List T) (n : Nat), fewB ts n = true → ts.length ≤ n
  | [], _, _ => Nat.zero_le _
  | _ :: ts, n + 1, h => Nat.succ_le_succ (fewB_le ts n h)
def mkTup : FN := fun ts P => match fewB ts 1000 with
  | true => P (.tup ts)
  | false => False
def mkLst : FN := fun ts P => match fewB ts 1000 with
  | true => P (.lst ts)
  | false => False
theorem mkTup.out {ts : List T} {P : T → Prop} (h : mkTup ts P) : ts.length ≤ sizeLine ∧ P (.tup ts) := by
  unfold mkTup at h
  split at h
  · rename_i e
    exact ⟨Nat.le_trans (fewB_le _ _ e) (by decide), h⟩
  · exact h.elim
theorem mkLst.out {ts : List T} {P : T → Prop} (h : mkLst ts P) : ts.length ≤ sizeLine ∧ P (.lst ts) := by
  unfold mkLst at h
  split at h
  · rename_i e
    exact ⟨Nat.le_trans (fewB_le _ _ e) (by decide), h⟩
  · exact h.elim
section
variable {X : Cx} {G : Gh} {a b e : Expr} {es : List Expr} {ta tb te : TE3} {tA : TA3} {pos : Pos}
theorem q_var (i : Nat) {x : Str} (hN : X.N[i]? = some x := by rfl) (hv : Vis X.env.scope x := by first | exact Or.inl rfl | exact Or.inr (Or.inl rfl) | exact Or.inr (Or.inr rfl)) (hd : (x == ("__debug__" : Str)) = false := by decide)
    (hcd : (x == ("__classdict__" : Str)) = false := by decide) : PE X (.Name x pos) (up G (tVar3 i)) := PE.imp (pv i hN hv hd hcd) fun σ H Q ⟨px, Z, s, Q3, f, h, k⟩ => by
  unfold tVar3 at h
  split at h
  · rename_i t e
    obtain ⟨v, e1, r⟩ := f.sh i t e
    exact ⟨v, e1, k t s h v Z H (fun _ _ q => q) f r⟩
  · rename_i t e
    obtain ⟨a, e1, hp, ow⟩ := f.ow i t e
    obtain ⟨o, ho⟩ := ow.at
    have f1 := (f.drop i).freeze hp (f.dropNot e e1) ho
    have r1 := ow.rp (Same.new hp.1) ho upd_same
    have f2 := f1.shAt e1 r1
    rw [List.set_set] at f2
    exact ⟨_, e1, k t _ h _ _ H (Same.new hp.1) f2 r1⟩
  · exact h.elim
theorem q_c {v : V} {t : T} (h : PE X e (tC v)) (r : ∀ M Z, Rp M Z t v) : PE X e (up G (tC3 t)) := PE.imp h fun σ H Q ⟨px, Z, s, Q3, f, h, k⟩ => k t s h v Z H (fun _ _ q => q) f (r _ _)
theorem q_int {i : Int} {j : Nat} : PE X (.Constant (.int i) j pos) (up G (tC3 (.int i))) := q_c pe_int fun _ _ => .int _
theorem q_bl {b : Bool} {j : Nat} : PE X (.Constant (.bool b) j pos) (up G (tC3 (.bl b))) := q_c pe_bl fun _ _ => .bl _
theorem q_non {j : Nat} : PE X (.Constant .none j pos) (up G (tC3 .non)) := q_c pe_non fun _ _ => .non
theorem q_str {z : Str} {j : Nat} (hz : z.length ≤ sizeLine := by decide) : PE X (.Constant (.str z) j pos) (up G (tC3 (.str z))) := q_c pe_str fun _ _ => .str hz
/-- a module's number or text -/
theorem q_gi {x : Str} {i : Int} {u : Value} (hg : Gl X x) (hm : X.mg x = some u) (r : RelV (.int i) u) (hd : (x == ("__debug__" : Str)) = false := by decide) : PE X (.Name x pos) (up G (tC3 (.int i))) := q_c (pe_glob hg hm r hd) fun _ _ => .int _
theorem q_gs {x : Str} {z : Str} {u : Value} (hg : Gl X x) (hm : X.mg x = some u) (r : RelV (.str z) u) (hz : z.length ≤ sizeLine := by decide) (hd : (x == ("__debug__" : Str)) = false := by decide) : PE X (.Name x pos) (up G (tC3 (.str z))) := q_c (pe_glob hg hm r hd) fun _ _ => .str hz
theorem up_bin {r : R2} {f : F2} (hl : OpL r G.M f) {σ : L2.St} {H : Hp} {Q : VK} (h : up G (tBin f ta tb) σ H Q) : tOp r (up G ta) (up G tb) σ H Q := by
  obtain ⟨px, Z, s, Q3, fm, h, k⟩ := h
  refine ⟨px, Z, s, _, fm, h, fun x s1 hb1 v Z1 H1 e1 f1 r1 => ⟨px, Z1, s1, _, f1, hb1, fun y s2 hf w Z2 H2 e2 f2 r2 => ?_⟩⟩
  exact hl Z2 H2 v w x y _ Q f2.le (r1.mono e2) r2 hf fun t p u Z3 H3 g r3 => k t s2 p u Z3 H3 (e1.trans (e2.trans g.zz)) (f2.grow g) r3
theorem q_op {op : Operator} {r : R2} {f : F2} (ho : OpR X (binaryOp op) r) (hl : OpL r G.M f) (ha : PE X a (up G ta)) (hb : PE X b (up G tb)) : PE X (.BinOp a op b pos) (up G (tBin f ta tb)) :=
  PE.imp (pe_op ho ha hb) fun _ _ _ h => up_bin hl h
theorem q_cmp {op : CmpOp} {r : R2} {f : F2} (ho : OpR X (compareOp op) r) (hl : OpL r G.M f) (ha : PE X a (up G ta)) (hb : PE X b (up G tb)) (hm : behindInMarks op b = false) : PE X (.Compare a [op] [b] pos) (up G (tBin f ta tb)) :=
  PE.imp (pe_cmpR ho ha hb hm) fun _ _ _ h => up_bin hl h
theorem q_ix {r : R2} {f : F2} (ho : IxR X r) (hl : OpL r G.M f) (ha : PE X a (up G ta)) (hb : PE X b (up G tb)) (hs : PlainIx b) : PE X (.Subscript a b pos) (up G (tBin f ta tb)) :=
  PE.imp (pe_ix ho ha hb hs) fun _ _ _ h => up_bin hl h
theorem q_un {op : UnaryOp} {r : V → Hp → VK → Prop} {f : F1} (ho : UnR X (unaryOp op) r) (hl : UnL r G.M f) (ha : PE X a (up G ta)) : PE X (.UnaryOp op a pos) (up G (tUn3 f ta)) :=
  PE.imp (pe_un ho ha) fun σ H Q ⟨px, Z, s, Q3, fm, h, k⟩ => ⟨px, Z, s, _, fm, h, fun x s1 hf v Z1 H1 e1 f1 r1 => hl Z1 H1 v x _ Q f1.le r1 hf fun t p u Z3 H3 g r3 => k t s1 p u Z3 H3 (e1.trans g.zz) (f1.grow g) r3⟩
theorem qa_nil : PA X [] (upA G aNil) := PA.imp pa_nil fun σ H Q ⟨px, Z, s, Q3, fm, h, k⟩ => k [] s h [] Z H (fun _ _ q => q) fm .nil
theorem qa_cons (ha : PE X e (up G te)) (hr : PA X es (upA G tA)) (hs : starEach (e :: es) X.env = (false, eval e X.env) :: starEach es X.env := by rfl) : PA X (e :: es) (upA G (aCons te tA)) :=
  PA.imp (pa_cons ha hr hs) fun σ H Q ⟨px, Z, s, Q3, fm, h, k⟩ => ⟨px, Z, s, _, fm, h, fun x s1 hb1 v Z1 H1 e1 f1 r1 => ⟨px, Z1, s1, _, f1, hb1, fun ts s2 hq vs Z2 H2 e2 f2 r2 => k (x :: ts) s2 hq (v :: vs) Z2 H2 (e1.trans e2) f2 (.cons (r1.mono e2) r2)⟩⟩
theorem q_tup {x1 : Nat} (h : PA X es (upA G tA)) : PE X (.Tuple es x1 pos) (up G (tN mkTup tA)) :=
  PE.imp (pe_tup h) fun σ H Q ⟨px, Z, s, Q3, fm, h, k⟩ => ⟨px, Z, s, _, fm, h, fun ts s1 hf vs Z1 H1 e1 f1 r1 => by
    obtain ⟨hlen, hf⟩ := mkTup.out hf
    refine ⟨by rw [← r1.len]; exact hlen, fun p np => ?_⟩
    obtain ⟨e2, f2⟩ := f1.new (o := .tup vs) np
    exact k (.tup ts) s1 hf (.ref p) _ _ (e1.trans e2) f2 (.tup upd_same hlen (r1.mono e2))⟩
theorem qf_lst (h : PA X es (upA G tA)) : PE X (.List es pos) (upF G (tN mkLst tA)) :=
  PE.imp (pe_lst h) fun σ H Q ⟨px, Z, s, Q3, fm, h, k⟩ => ⟨px, Z, s, _, fm, h, fun ts s1 hf vs Z1 H1 e1 f1 r1 => by
    obtain ⟨hlen, hf⟩ := mkLst.out hf
    refine ⟨by rw [← r1.len]; exact hlen, fun p np => ?_⟩
    obtain ⟨f2, hp, hno⟩ := f1.mute (o := .lst vs) np
    exact k (.lst ts) s1 hf p Z1 _ e1 f2 hp hno ⟨vs, upd_same, hlen, r1⟩⟩
end
end G69
namespace G69
open PySem PySem.Spec PyProof.Rows L2
/-! ### operators by values -/
mutual
def T.toD : T → PyData
  | .non => .none
  | .bl b => .bool b
  | .int i => .int i
  | .str z => .str z
  | .lst ts => .list (toDs ts)
  | .tup ts => .tuple (toDs ts)
  | .ty _ => .dict []
  | .dic _ _ => .dict []
  | .ins _ _ => .dict []
  | .drw => .dict []
  | .scr _ => .dict []
  | .ob _ => .dict []
def toDs : List T → List PyData
  | [] => []
  | t :: ts => t.toD :: toDs ts
end
def okD (t : T) : Bool := SeqAt.shaped t.toD
def eqT (x y : T) : Bool := PyData.eqv x.toD y.toD
section
variable {M : Mo} {Z H : Hp}
mutual
theorem Rp.dp (l : Same Z H) : ∀ {t : T} {v : V}, Rp M Z t v → t.toD.canLay0 = true → Dp M.K H v t.toD
  | _, _, .non, _ => .non
  | _, _, .bl b, _ => .bl b
  | _, _, .int i, _ => .int i
  | _, _, .str h, _ => .str _
  | _, _, .lst h n r, q => .lst (.inl (.inl (l _ _ h))) (RpL.dp l r q)
  | _, _, .tup h n r, q => .tup (.inl (.inl (l _ _ h))) (RpL.dp l r q)
  | _, _, .ty n, q => absurd q (by simp [T.toD, PyData.canLay0])
  | _, _, .dic _ _ _, q => absurd q (by simp [T.toD, PyData.canLay0])
  | _, _, .ins _ _ _ _, q => absurd q (by simp [T.toD, PyData.canLay0])
  | _, _, .drw _, q => absurd q (by simp [T.toD, PyData.canLay0])
  | _, _, .scr _, q => absurd q (by simp [T.toD, PyData.canLay0])
  | _, _, .ob _, q => absurd q (by simp [T.toD, PyData.canLay0])
theorem RpL.dp (l : Same Z H) : ∀ {ts : List T} {vs : List V}, RpL M Z ts vs → PyData.canLayAll0 (toDs ts) = true → DpAll M.K H vs (toDs ts)
  | _, _, .nil, _ => .nil
  | _ :: _, _ :: _, .cons h r, q => by
    rw [toDs, PyData.canLayAll0, Bool.and_eq_true] at q
    rw [toDs]
    exact .cons (Rp.dp l h q.1) (RpL.dp l r q.2)
end
theorem Rp.dps (l : Same Z H) {t : T} {v : V} (r : Rp M Z t v) (q : okD t = true) : Dp M.K H v t.toD := r.dp l (by
  have q : (t.toD.canLay0 && decide (t.toD.depth ≤ 64)) = true := q
  rw [Bool.and_eq_true] at q
  exact q.1)
end
def fAdd : F2 := fun x y P => match x, y with
  | .int i, .int j => P (.int (i + j))
  | .str a, .str b => a.length + b.length ≤ sizeLine ∧ P (.str (a ++ b))
  | .lst xs, .lst ys => xs.length + ys.length ≤ sizeLine ∧ P (.lst (xs ++ ys))
  | .tup xs, .tup ys => xs.length + ys.length ≤ sizeLine ∧ P (.tup (xs ++ ys))
  | _, _ => False
def fSub : F2 := fun x y P => match x, y with
  | .int i, .int j => P (.int (i - j))
  | _, _ => False
def fMul : F2 := fun x y P => match x, y with
  | .int i, .int j => CMul i j ∧ P (.int (i * j))
  | .lst xs, .int k => (0 ≤ k ∧ k ≤ 1000 ∧ xs.length * k.toNat ≤ sizeLine) ∧ P (.lst (List.replicate k.toNat xs).flatten)
  | _, _ => False
def fMod : F2 := fun x y P => match x, y with
  | .int i, .int j => 0 < j ∧ P (.int (i % j))
  | _, _ => False
def fFdiv : F2 := fun x y P => match x, y with
  | .int i, .int j => CDiv i j ∧ P (.int (i / j))
  | _, _ => False
def fPow : F2 := fun x y P => match x, y with
  | .int i, .int j => CPow i j ∧ P (.int (i ^ j.toNat))
  | _, _ => False
def fNeg : F1 := fun x P => match x with
  | .int i => P (.int (-i))
  | _ => False
def fI2 (g : Int → Int → Bool) : F2 := fun x y P => match x, y with
  | .int i, .int j => P (.bl (g i j))
  | _, _ => False
def fLt : F2 := fI2 fun i j => decide (i < j)
def fLe : F2 := fI2 fun i j => decide (i ≤ j)
def fGt : F2 := fI2 fun i j => decide (j < i)
def fGe : F2 := fI2 fun i j => decide (j ≤ i)
def fEq : F2 := fun x y P => match x, y with
  | .int i, .int j => P (.bl (decide (i = j)))
  | .str a, .str b => P (.bl (decide (a = b)))
  | .bl a, .bl b => P (.bl (decide (a = b)))
  | .non, .non => P (.bl true)
  | .non, .str _ => P (.bl false)
  | .non, .int _ => P (.bl false)
  | .str _, .non => P (.bl false)
  | .int _, .non => P (.bl false)
  | x, y => (okD x = true ∧ okD y = true) ∧ P (.bl (eqT x y))
def fNe : F2 := fun x y P => match x, y with
  | .int i, .int j => P (.bl (!decide (i = j)))
  | .str a, .str b => P (.bl (!decide (a = b)))
  | .bl a, .bl b => P (.bl (!decide (a = b)))
  | .non, .non => P (.bl false)
  | .non, .str _ => P (.bl true)
  | .non, .int _ => P (.bl true)
  | .str _, .non => P (.bl true)
  | .int _, .non => P (.bl true)
  | x, y => (okD x = true ∧ okD y = true) ∧ P (.bl (!eqT x y))
/-- is None -/
def isN : T → Bool
  | .non => true
  | .ob v => decide (v = .non)
  | _ => false
def fIsN : F2 := fun x y P => match y with
  | .non => P (.bl (isN x))
  | _ => False
def fNotN : F2 := fun x y P => match y with
  | .non => P (.bl (!isN x))
  | _ => False
def flatT : T → Bool
  | .non => true
  | .bl _ => true
  | .int _ => true
  | .str _ => true
  | _ => false
def T.fv : T → V
  | .non => .non
  | .bl b => .bl b
  | .int i => .int i
  | .str z => .str z
  | _ => .non
def inT (x : T) (ys : List T) : Bool := ys.any fun y => eqV y.fv x.fv
def fIn : F2 := fun x y P => match y with
  | .str z => (match x with
    | .str w => (match w.cps.toList with
      | [c] => P (.bl (decide (c ∈ z.cps.toList)))
      | _ => False)
    | _ => False)
  | .lst ys => (flatT x = true ∧ ys.all flatT = true) ∧ P (.bl (inT x ys))
  | .tup ys => (flatT x = true ∧ ys.all flatT = true) ∧ P (.bl (inT x ys))
  | _ => False
def fNotIn : F2 := fun x y P => fIn x y fun t => match t with
  | .bl b => P (.bl (!b))
  | _ => False
def fIx : F2 := fun x y P => match x, y with
  | .lst xs, .int i => ∃ t, atI xs i = some t ∧ P t
  | .tup xs, .int i => ∃ t, atI xs i = some t ∧ P t
  | .str z, .int i => ∃ c, atI z.cps.toList i = some c ∧ P (.str ⟨#[c]⟩)
  | _, _ => False
section
variable {X : Cx} {M : Mo}
abbrev rStr2 : R2 := fun x y H Q => ∃ i j, x = .str i ∧ y = .str j ∧ i.length + j.length ≤ sizeLine ∧ Q (.str (i ++ j)) H
theorem str_app_len (a b : Str) : (a ++ b).length = a.length + b.length := by
  show (a.cps ++ b.cps).size = _
  rw [Array.size_append]
  rfl
theorem l_add (hK : X.K = M.K) : OpR X (binaryOp .Add) (rOr (rI0 fun i j => .int (i + j)) (rOr rStr2 (rOr rCat (rCatA M.K)))) := opOr op_add (opOr op_add_str (opOr op_cat (hK ▸ op_catA)))
theorem L_add : OpL (rOr (rI0 fun i j => .int (i + j)) (rOr rStr2 (rOr rCat (rCatA M.K)))) M fAdd := by
  intro Z H x y tx ty P Q l rx ry h k
  unfold fAdd at h
  split at h
  · cases rx; cases ry
    exact .inl ⟨_, _, rfl, rfl, (k _ h).same l (.int _)⟩
  · cases rx; cases ry
    exact .inr (.inl ⟨_, _, rfl, rfl, h.1, (k _ h.2).same l (.str (by rw [str_app_len]; exact h.1))⟩)
  · cases rx with
    | lst h1 n1 r1 => cases ry with
      | lst h2 n2 r2 =>
        refine .inr (.inr (.inl ⟨_, _, _, _, rfl, rfl, l _ _ h1, l _ _ h2, by rw [← r1.len, ← r2.len]; exact h.1, fun p np => ?_⟩))
        exact (k _ h.2).made l np fun e s => .lst s (by rw [List.length_append]; exact h.1) ((r1.app r2).mono e)
  · cases rx with
    | tup h1 n1 r1 => cases ry with
      | tup h2 n2 r2 =>
        refine .inr (.inr (.inr ⟨_, _, _, _, rfl, rfl, .inl (.inl (l _ _ h1)), .inl (.inl (l _ _ h2)), by rw [← r1.len, ← r2.len]; exact h.1, fun z => ?_, fun _ z => ?_, fun _ _ p np => ?_⟩))
        · subst z
          cases r1
          exact (k _ h.2).same l (.tup h2 n2 r2)
        · subst z
          cases r2
          have := k _ h.2
          rw [List.append_nil] at this
          exact this.same l (.tup h1 n1 r1)
        · exact (k _ h.2).made l np fun e s => .tup s (by rw [List.length_append]; exact h.1) ((r1.app r2).mono e)
  · exact h.elim
theorem L_sub : OpL (rI0 fun i j => .int (i - j)) M fSub := by
  intro Z H x y tx ty P Q l rx ry h k
  unfold fSub at h
  split at h
  · cases rx; cases ry
    exact ⟨_, _, rfl, rfl, (k _ h).same l (.int _)⟩
  · exact h.elim
theorem RpL.rep {Z : Hp} {ts : List T} {vs : List V} (r : RpL M Z ts vs) : ∀ n : Nat, RpL M Z (List.replicate n ts).flatten (List.replicate n vs).flatten
  | 0 => .nil
  | n + 1 => by
    rw [List.replicate_succ, List.replicate_succ, List.flatten_cons, List.flatten_cons]
    exact r.app (RpL.rep r n)
theorem l_mul : OpR X (binaryOp .Mult) (rOr (rI CMul fun i j => .int (i * j)) rRep) := opOr op_mul op_rep
theorem rep_len {α : Type} (l : List α) (n : Nat) : (List.replicate n l).flatten.length = l.length * n := by
  induction n with
  | zero => rfl
  | succ n ih => rw [List.replicate_succ, List.flatten_cons, List.length_append, ih, Nat.mul_succ, Nat.add_comm]
theorem L_mul : OpL (rOr (rI CMul fun i j => .int (i * j)) rRep) M fMul := by
  intro Z H x y tx ty P Q l rx ry h k
  unfold fMul at h
  split at h
  · cases rx; cases ry
    exact .inl ⟨_, _, rfl, rfl, h.1, (k _ h.2).same l (.int _)⟩
  · cases rx with
    | lst h1 n1 r1 =>
      cases ry
      obtain ⟨⟨g1, g2, g3⟩, g4⟩ := h
      refine .inr ⟨_, _, _, rfl, rfl, l _ _ h1, by omega, by omega, by rw [← r1.len]; exact g3, fun p np => ?_⟩
      exact (k _ g4).made l np fun e s => .lst s (by rw [rep_len]; exact g3) ((r1.rep _).mono e)
  · exact h.elim
theorem L_mod : OpL (rI (fun _ j => 0 < j) fun i j => .int (i % j)) M fMod := by
  intro Z H x y tx ty P Q l rx ry h k
  unfold fMod at h
  split at h
  · cases rx; cases ry
    exact ⟨_, _, rfl, rfl, h.1, (k _ h.2).same l (.int _)⟩
  · exact h.elim
theorem L_fdiv : OpL (rI CDiv fun i j => .int (i / j)) M fFdiv := by
  intro Z H x y tx ty P Q l rx ry h k
  unfold fFdiv at h
  split at h
  · cases rx; cases ry
    exact ⟨_, _, rfl, rfl, h.1, (k _ h.2).same l (.int _)⟩
  · exact h.elim
theorem L_pow : OpL (rI CPow fun i j => .int (i ^ j.toNat)) M fPow := by
  intro Z H x y tx ty P Q l rx ry h k
  unfold fPow at h
  split at h
  · cases rx; cases ry
    exact ⟨_, _, rfl, rfl, h.1, (k _ h.2).same l (.int _)⟩
  · exact h.elim
theorem L_neg : UnL (rU fun i => .int (-i)) M fNeg := by
  intro Z H x tx P Q l rx h k
  unfold fNeg at h
  split at h
  · cases rx
    exact ⟨_, rfl, (k _ h).same l (.int _)⟩
  · exact h.elim
theorem L_i2 {g : Int → Int → Bool} : OpL (rI0 fun i j => .bl (g i j)) M (fI2 g) := by
  intro Z H x y tx ty P Q l rx ry h k
  unfold fI2 at h
  split at h
  · cases rx; cases ry
    exact ⟨_, _, rfl, rfl, (k _ h).same l (.bl _)⟩
  · exact h.elim
theorem l_eq (hK : X.K = M.K) (hu : X.A.units + 64 < cLine) : OpR X (compareOp .Eq) (rOr rEq (rEqD M.K)) := opOr op_eq (hK ▸ op_eqD hu)
theorem l_ne (hK : X.K = M.K) (hu : X.A.units + 64 < cLine) : OpR X (compareOp .NotEq) (rOr rNe (rNeD M.K)) := opOr op_ne (hK ▸ op_neD hu)
theorem decV {a b : V} {p : Prop} [Decidable p] (h : a = b ↔ p) : decide (a = b) = decide p := decide_eq_decide.mpr h
theorem L_eq : OpL (rOr rEq (rEqD M.K)) M fEq := by
  intro Z H x y tx ty P Q l rx ry h k
  unfold fEq at h
  split at h
  · cases rx; cases ry
    refine .inl ⟨rfl, ?_⟩
    rw [decV ⟨V.int.inj, congrArg _⟩]
    exact (k _ h).same l (.bl _)
  · cases rx; cases ry
    refine .inl ⟨rfl, ?_⟩
    rw [decV ⟨V.str.inj, congrArg _⟩]
    exact (k _ h).same l (.bl _)
  · cases rx; cases ry
    refine .inl ⟨rfl, ?_⟩
    rw [decV ⟨V.bl.inj, congrArg _⟩]
    exact (k _ h).same l (.bl _)
  · cases rx; cases ry
    exact .inl ⟨rfl, (k _ h).same l (.bl _)⟩
  · cases rx; cases ry
    exact .inl ⟨rfl, (k _ h).same l (.bl _)⟩
  · cases rx; cases ry
    exact .inl ⟨rfl, (k _ h).same l (.bl _)⟩
  · cases rx; cases ry
    exact .inl ⟨rfl, (k _ h).same l (.bl _)⟩
  · cases rx; cases ry
    exact .inl ⟨rfl, (k _ h).same l (.bl _)⟩
  · obtain ⟨⟨h1, h2⟩, h⟩ := h
    exact .inr ⟨_, _, rx.dps l h1, ry.dps l h2, h1, h2, (k _ h).same l (.bl _)⟩
theorem L_ne : OpL (rOr rNe (rNeD M.K)) M fNe := by
  intro Z H x y tx ty P Q l rx ry h k
  unfold fNe at h
  split at h
  · cases rx; cases ry
    refine .inl ⟨rfl, ?_⟩
    rw [decV ⟨V.int.inj, congrArg _⟩]
    exact (k _ h).same l (.bl _)
  · cases rx; cases ry
    refine .inl ⟨rfl, ?_⟩
    rw [decV ⟨V.str.inj, congrArg _⟩]
    exact (k _ h).same l (.bl _)
  · cases rx; cases ry
    refine .inl ⟨rfl, ?_⟩
    rw [decV ⟨V.bl.inj, congrArg _⟩]
    exact (k _ h).same l (.bl _)
  · cases rx; cases ry
    exact .inl ⟨rfl, (k _ h).same l (.bl _)⟩
  · cases rx; cases ry
    exact .inl ⟨rfl, (k _ h).same l (.bl _)⟩
  · cases rx; cases ry
    exact .inl ⟨rfl, (k _ h).same l (.bl _)⟩
  · cases rx; cases ry
    exact .inl ⟨rfl, (k _ h).same l (.bl _)⟩
  · cases rx; cases ry
    exact .inl ⟨rfl, (k _ h).same l (.bl _)⟩
  · obtain ⟨⟨h1, h2⟩, h⟩ := h
    exact .inr ⟨_, _, rx.dps l h1, ry.dps l h2, h1, h2, (k _ h).same l (.bl _)⟩
theorem Rp.isN {Z : Hp} {t : T} {v : V} (r : Rp M Z t v) : decide (v = .non) = G69.isN t := by
  cases r <;> first | rfl | exact decide_eq_false (fun z => by cases z)
theorem L_isN : OpL (fun x y H Q => y = .non ∧ Q (.bl (decide (x = .non))) H) M fIsN := by
  intro Z H x y tx ty P Q l rx ry h k
  unfold fIsN at h
  split at h
  · cases ry
    refine ⟨rfl, ?_⟩
    rw [rx.isN]
    exact (k _ h).same l (.bl _)
  · exact h.elim
theorem L_notN : OpL (fun x y H Q => y = .non ∧ Q (.bl (!decide (x = .non))) H) M fNotN := by
  intro Z H x y tx ty P Q l rx ry h k
  unfold fNotN at h
  split at h
  · cases ry
    refine ⟨rfl, ?_⟩
    rw [rx.isN]
    exact (k _ h).same l (.bl _)
  · exact h.elim
theorem Rp.flat {Z : Hp} {t : T} {v : V} (r : Rp M Z t v) (h : flatT t = true) : v = t.fv ∧ flatV v = true := by
  cases r <;> first | exact ⟨rfl, rfl⟩ | exact absurd (show false = true from h) Bool.false_ne_true
theorem RpL.flat {Z : Hp} : ∀ {ts : List T} {vs : List V}, RpL M Z ts vs → ts.all flatT = true → vs = ts.map T.fv ∧ vs.all flatV = true
  | _, _, .nil, _ => ⟨rfl, rfl⟩
  | _, _, .cons h r, q => by
    rw [List.all_cons, Bool.and_eq_true] at q
    obtain ⟨a, b⟩ := h.flat q.1
    obtain ⟨c, d⟩ := RpL.flat r q.2
    exact ⟨by rw [List.map_cons, ← a, ← c], by rw [List.all_cons, b, d]; rfl⟩
abbrev rSgn : R2 := fun x y H Q => ∃ (c : Nat) (z : Str), x = .str ⟨#[c]⟩ ∧ y = .str z ∧ Q (.bl (decide (c ∈ z.cps.toList))) H
theorem l_in (hK : X.K = M.K) : OpR X (compareOp .In) (rOr rSgn (rIn M.K false)) := opOr op_in_sign (hK ▸ op_in_seq)
theorem one_sign {w : Str} {c : Nat} (h : w.cps.toList = [c]) : w = ⟨#[c]⟩ := by
  cases w with
  | mk a =>
    have : a = [c].toArray := by rw [← h, Array.toArray_toList]
    rw [this]
theorem inT_fv {x : T} {ys : List T} : inV x.fv (ys.map T.fv) = inT x ys := by
  unfold inV inT
  rw [List.any_map]
  rfl
theorem L_in : OpL (rOr rSgn (rIn M.K false)) M fIn := by
  intro Z H x y tx ty P Q l rx ry h k
  unfold fIn at h
  split at h
  · cases ry
    split at h
    · cases rx
      split at h
      · rename_i c e
        exact .inl ⟨c, _, by rw [one_sign e], rfl, (k _ h).same l (.bl _)⟩
      · exact h.elim
    · exact h.elim
  · cases ry with
    | lst h1 n1 r1 =>
      obtain ⟨⟨g1, g2⟩, h⟩ := h
      obtain ⟨rfl, f1⟩ := rx.flat g1
      obtain ⟨rfl, f2⟩ := r1.flat g2
      refine .inr ⟨_, _, rfl, .inl (.inl (.inl (l _ _ h1))), f1, f2, ?_⟩
      rw [inT_fv]
      exact (k _ h).same l (.bl _)
  · cases ry with
    | tup h1 n1 r1 =>
      obtain ⟨⟨g1, g2⟩, h⟩ := h
      obtain ⟨rfl, f1⟩ := rx.flat g1
      obtain ⟨rfl, f2⟩ := r1.flat g2
      refine .inr ⟨_, _, rfl, .inr (.inl (.inl (l _ _ h1))), f1, f2, ?_⟩
      rw [inT_fv]
      exact (k _ h).same l (.bl _)
  · exact h.elim
abbrev rNSgn : R2 := fun x y H Q => ∃ (c : Nat) (z : Str), x = .str ⟨#[c]⟩ ∧ y = .str z ∧ Q (.bl (!decide (c ∈ z.cps.toList))) H
theorem l_notin (hK : X.K = M.K) : OpR X (compareOp .NotIn) (rOr rNSgn (rIn M.K true)) := opOr op_notIn_sign (hK ▸ op_notIn_seq)
theorem L_notin : OpL (rOr rNSgn (rIn M.K true)) M fNotIn := by
  intro Z H x y tx ty P Q l rx ry h k
  unfold fNotIn fIn at h
  split at h
  · cases ry
    split at h
    · cases rx
      split at h
      · rename_i c e
        exact .inl ⟨c, _, by rw [one_sign e], rfl, (k _ h).same l (.bl _)⟩
      · exact h.elim
    · exact h.elim
  · cases ry with
    | lst h1 n1 r1 =>
      obtain ⟨⟨g1, g2⟩, h⟩ := h
      obtain ⟨rfl, f1⟩ := rx.flat g1
      obtain ⟨rfl, f2⟩ := r1.flat g2
      refine .inr ⟨_, _, rfl, .inl (.inl (.inl (l _ _ h1))), f1, f2, ?_⟩
      rw [inT_fv]
      exact (k _ h).same l (.bl _)
  · cases ry with
    | tup h1 n1 r1 =>
      obtain ⟨⟨g1, g2⟩, h⟩ := h
      obtain ⟨rfl, f1⟩ := rx.flat g1
      obtain ⟨rfl, f2⟩ := r1.flat g2
      refine .inr ⟨_, _, rfl, .inr (.inl (.inl (l _ _ h1))), f1, f2, ?_⟩
      rw [inT_fv]
      exact (k _ h).same l (.bl _)
  · exact h.elim
theorem atI_rp {Z : Hp} {ts : List T} {vs : List V} {i : Int} {t : T} (r : RpL M Z ts vs) (h : atI ts i = some t) : ∃ v, atI vs i = some v ∧ Rp M Z t v := by
  unfold atI at h ⊢
  rw [← r.len]
  cases e : ixN ts.length i with
  | none => rw [e] at h; cases h
  | some j =>
    rw [e] at h
    obtain ⟨v, h1, h2⟩ := r.get (i := j) h
    exact ⟨v, h1, h2⟩
theorem l_ix (hK : X.K = M.K) : IxR X (rIx M.K) := hK ▸ ix_seq
theorem L_ix : OpL (rIx M.K) M fIx := by
  intro Z H x y tx ty P Q l rx ry h k
  unfold fIx at h
  split at h
  · obtain ⟨t, h2, h⟩ := h
    cases rx with
    | lst h1 n1 r1 =>
      cases ry
      obtain ⟨v, e, r⟩ := atI_rp r1 h2
      exact .inl ⟨_, _, _, _, rfl, rfl, .inl (.inl (l _ _ h1)), e, (k _ h).same l r⟩
  · obtain ⟨t, h2, h⟩ := h
    cases rx with
    | tup h1 n1 r1 =>
      cases ry
      obtain ⟨v, e, r⟩ := atI_rp r1 h2
      exact .inr (.inl ⟨_, _, _, _, rfl, rfl, .inl (.inl (l _ _ h1)), e, (k _ h).same l r⟩)
  · obtain ⟨c, h2, h⟩ := h
    cases rx with
    | str hz =>
      cases ry
      exact .inr (.inr ⟨_, _, _, rfl, rfl, hz, h2, (k _ h).same l (.str (by show 1 ≤ sizeLine; decide))⟩)
  · exact h.elim
end
end G69
namespace G69
open PySem PySem.Spec PyProof.Rows L2
/-! ### tests, and, or, not, if -/
def If3 (b : Bool) (A B : Prop) : Prop := match b with
  | true => A
  | false => B
theorem If3.out {b : Bool} {A B : Prop} (h : If3 b A B) : if b = true then A else B := by
  cases b with
  | true => rw [if_pos rfl]; exact h
  | false => rw [if_neg Bool.false_ne_true]; exact h
/-- both ways -/
theorem if3 {p A B : Prop} [Decidable p] (h1 : p → A) (h2 : ¬ p → B) : If3 (decide p) A B := by
  by_cases h : p
  · rw [decide_eq_true h]; exact h1 h
  · rw [decide_eq_false h]; exact h2 h
theorem if3n {p A B : Prop} [Decidable p] (h1 : ¬ p → A) (h2 : p → B) : If3 (!decide p) A B := by
  by_cases h : p
  · rw [decide_eq_true h]; exact h2 h
  · rw [decide_eq_false h]; exact h1 h
theorem if3b {b : Bool} {A B : Prop} (h1 : b = true → A) (h2 : b = false → B) : If3 b A B := by
  cases b with
  | true => exact h1 rfl
  | false => exact h2 rfl
def fTru (t : T) (P : Bool → Prop) : Prop := match t with
  | .non => P false
  | .bl b => P b
  | .int i => P (i != 0)
  | .str z => P ((z.length : Int) != 0)
  | .lst ts => P (!ts.isEmpty)
  | .tup ts => P (!ts.isEmpty)
  | _ => False
def tTru (te : TE3) : TT3 := fun s Q => te s fun t s1 => fTru t fun b => Q b s1
def tBl (te : TE3) : TT3 := fun s Q => te s fun t s1 => match t with
  | .bl b => Q b s1
  | _ => False
def tAnd3 (a b : TT3) : TT3 := fun s Q => a s fun c s1 => If3 c (b s1 Q) (Q false s1)
def tOr3 (a b : TT3) : TT3 := fun s Q => a s fun c s1 => If3 c (Q true s1) (b s1 Q)
def tNot3 (a : TT3) : TT3 := fun s Q => a s fun c s1 => Q (!c) s1
def tAndE (ta tb : TE3) : TE3 := fun s Q => ta s fun x s1 => match x with
  | .bl c => If3 c (tb s1 Q) (Q (.bl false) s1)
  | _ => False
def tOrE (ta tb : TE3) : TE3 := fun s Q => ta s fun x s1 => match x with
  | .bl c => If3 c (Q (.bl true) s1) (tb s1 Q)
  | _ => False
def tNotE (ta : TE3) : TE3 := fun s Q => ta s fun x s1 => match x with
  | .bl c => Q (.bl (!c)) s1
  | _ => False
def tIfE (c : TT3) (a b : TE3) : TE3 := fun s Q => c s fun k s1 => If3 k (a s1 Q) (b s1 Q)
def tCh (f g : F2) (ta tb tc : TE3) : TE3 := fun s Q => ta s fun x s1 => tb s1 fun y s2 => f x y fun z => match z with
  | .bl k => If3 k (tc s2 fun w s3 => g y w fun t => Q t s3) (Q (.bl false) s2)
  | _ => False
theorem Same.isNil {M : Mo} {Z : Hp} {ts : List T} {vs : List V} (r : RpL M Z ts vs) : ts.isEmpty = vs.isEmpty := by cases r <;> rfl
section
variable {X : Cx} {G : Gh} {a b c e : Expr} {rest : List Expr} {ta tb tc te : TE3} {tA tB : TT3} {pos : Pos}
theorem q_tru (hK : X.K = G.M.K) (ha : PE X a (up G ta)) (he : ∀ whole, isTrue a X.env whole = (do let v ← whole; standAt a.pos; holding [v] (truthy v)) := by intro _; rfl) : PT X a (upT G (tTru ta)) :=
  PT.imp (pt_truth ha he) fun σ H Q ⟨px, Z, s, Q3, fm, h, k⟩ => ⟨px, Z, s, _, fm, h, fun t s1 ht v Z1 H1 e1 f1 r1 => by
    rw [hK]
    unfold fTru at ht
    split at ht
    · cases r1; exact ⟨_, rfl, k _ s1 ht Z1 H1 e1 f1⟩
    · cases r1; exact ⟨_, rfl, k _ s1 ht Z1 H1 e1 f1⟩
    · cases r1; exact ⟨_, rfl, k _ s1 ht Z1 H1 e1 f1⟩
    · cases r1 with
      | str hz => exact ⟨_, ⟨hz, rfl⟩, k _ s1 ht Z1 H1 e1 f1⟩
    · cases r1 with
      | lst h1 n r => exact ⟨_, .inl ⟨_, .inl (.inl (f1.le _ _ h1)), by rw [Same.isNil r]⟩, k _ s1 ht Z1 H1 e1 f1⟩
    · cases r1 with
      | tup h1 n r => exact ⟨_, .inr (.inl ⟨_, .inl (.inl (f1.le _ _ h1)), by rw [Same.isNil r]⟩), k _ s1 ht Z1 H1 e1 f1⟩
    · exact ht.elim⟩
theorem up_bl {σ : L2.St} {H : Hp} {Q : Bool → Hp → Prop} (h : upT G (tBl te) σ H Q) : up G te σ H (fun x H' => ∃ k, x = .bl k ∧ Q k H') := by
  obtain ⟨px, Z, s, Q3, fm, h, k⟩ := h
  refine ⟨px, Z, s, _, fm, h, fun t s1 ht v Z1 H1 e1 f1 r1 => ?_⟩
  split at ht
  · cases r1
    exact ⟨_, rfl, k _ s1 ht Z1 H1 e1 f1⟩
  · exact ht.elim
theorem q_val (ha : PE X a (up G ta)) (he : ∀ whole, isTrue a X.env whole = (do let v ← whole; standAt a.pos; holding [v] (truthy v)) := by intro _; rfl) : PT X a (upT G (tBl ta)) :=
  PT.imp (pt_val ha he) fun σ H Q h => up_bl h
theorem q_tcmp {op : CmpOp} {r : R2} {f : F2} (ho : OpR X (compareOp op) r) (hl : OpL r G.M f) (ha : PE X a (up G ta)) (hb : PE X b (up G tb)) (hm : behindInMarks op b = false) : PT X (.Compare a [op] [b] pos) (upT G (tBl (tBin f ta tb))) :=
  PT.imp (pt_cmpR ho ha hb hm) fun _ _ _ h => up_bin hl (up_bl h)
theorem q_not (ha : PT X a (upT G tA)) : PT X (.UnaryOp .Not a pos) (upT G (tNot3 tA)) :=
  PT.imp (pt_not ha) fun σ H Q ⟨px, Z, s, Q3, fm, h, k⟩ => ⟨px, Z, s, _, fm, h, fun c s1 hc Z1 H1 e1 f1 => k _ s1 hc Z1 H1 e1 f1⟩
theorem q_and1 (ha : PT X a (upT G tA)) : PW X (.BoolOp .And [a] pos) (upT G tA) := pw_and1 ha
theorem q_or1 (ha : PT X a (upT G tA)) : PW X (.BoolOp .Or [a] pos) (upT G tA) := pw_or1 ha
theorem q_and (ha : PT X a (upT G tA)) (hb : PW X (.BoolOp .And (b :: rest) pos) (upT G tB)) : PW X (.BoolOp .And (a :: b :: rest) pos) (upT G (tAnd3 tA tB)) :=
  PW.imp (pw_and ha hb) fun σ H Q ⟨px, Z, s, Q3, fm, h, k⟩ => ⟨px, Z, s, _, fm, h, fun c s1 hc Z1 H1 e1 f1 => by
    cases c with
    | true => rw [if_pos rfl]; exact ⟨px, Z1, s1, _, f1, hc, fun b s2 hb Z2 H2 e2 f2 => k b s2 hb Z2 H2 (e1.trans e2) f2⟩
    | false => rw [if_neg Bool.false_ne_true]; exact k _ s1 hc Z1 H1 e1 f1⟩
theorem q_or (ha : PT X a (upT G tA)) (hb : PW X (.BoolOp .Or (b :: rest) pos) (upT G tB)) : PW X (.BoolOp .Or (a :: b :: rest) pos) (upT G (tOr3 tA tB)) :=
  PW.imp (pw_or ha hb) fun σ H Q ⟨px, Z, s, Q3, fm, h, k⟩ => ⟨px, Z, s, _, fm, h, fun c s1 hc Z1 H1 e1 f1 => by
    cases c with
    | true => rw [if_pos rfl]; exact k _ s1 hc Z1 H1 e1 f1
    | false => rw [if_neg Bool.false_ne_true]; exact ⟨px, Z1, s1, _, f1, hc, fun b s2 hb Z2 H2 e2 f2 => k b s2 hb Z2 H2 (e1.trans e2) f2⟩⟩
theorem qe_and (ha : PE X a (up G ta)) (hb : PE X (.BoolOp .And (b :: rest) pos) (up G tb)) : PE X (.BoolOp .And (a :: b :: rest) pos) (up G (tAndE ta tb)) :=
  PE.imp (pe_and ha hb) fun σ H Q ⟨px, Z, s, Q3, fm, h, k⟩ => ⟨px, Z, s, _, fm, h, fun x s1 hc v Z1 H1 e1 f1 r1 => by
    split at hc
    · cases r1
      rename_i c
      refine ⟨c, rfl, ?_⟩
      cases c with
      | true => rw [if_pos rfl]; exact ⟨px, Z1, s1, _, f1, hc, fun t s2 hb w Z2 H2 e2 f2 r2 => k t s2 hb w Z2 H2 (e1.trans e2) f2 r2⟩
      | false => rw [if_neg Bool.false_ne_true]; exact k _ s1 hc _ Z1 H1 e1 f1 (.bl _)
    · exact hc.elim⟩
theorem qe_or (ha : PE X a (up G ta)) (hb : PE X (.BoolOp .Or (b :: rest) pos) (up G tb)) : PE X (.BoolOp .Or (a :: b :: rest) pos) (up G (tOrE ta tb)) :=
  PE.imp (pe_or ha hb) fun σ H Q ⟨px, Z, s, Q3, fm, h, k⟩ => ⟨px, Z, s, _, fm, h, fun x s1 hc v Z1 H1 e1 f1 r1 => by
    split at hc
    · cases r1
      rename_i c
      refine ⟨c, rfl, ?_⟩
      cases c with
      | true => rw [if_pos rfl]; exact k _ s1 hc _ Z1 H1 e1 f1 (.bl _)
      | false => rw [if_neg Bool.false_ne_true]; exact ⟨px, Z1, s1, _, f1, hc, fun t s2 hb w Z2 H2 e2 f2 r2 => k t s2 hb w Z2 H2 (e1.trans e2) f2 r2⟩
    · exact hc.elim⟩
theorem qe_one {op : BoolOp} (h : PE X a (up G ta)) : PE X (.BoolOp op [a] pos) (up G ta) := pe_one h
theorem qe_not (ha : PE X a (up G ta)) : PE X (.UnaryOp .Not a pos) (up G (tNotE ta)) :=
  PE.imp (pe_not ha) fun σ H Q ⟨px, Z, s, Q3, fm, h, k⟩ => ⟨px, Z, s, _, fm, h, fun x s1 hc v Z1 H1 e1 f1 r1 => by
    split at hc
    · cases r1
      exact ⟨_, rfl, k _ s1 hc _ Z1 H1 e1 f1 (.bl _)⟩
    · exact hc.elim⟩
theorem q_ifE (hc : PT X c (upT G tA)) (ha : PE X a (up G ta)) (hb : PE X b (up G tb)) : PE X (.IfExp c a b pos) (up G (tIfE tA ta tb)) :=
  PE.imp (pe_ifExp hc ha hb) fun σ H Q ⟨px, Z, s, Q3, fm, h, k⟩ => ⟨px, Z, s, _, fm, h, fun d s1 hd Z1 H1 e1 f1 => by
    cases d with
    | true => rw [if_pos rfl]; exact ⟨px, Z1, s1, _, f1, hd, fun t s2 hb w Z2 H2 e2 f2 r2 => k t s2 hb w Z2 H2 (e1.trans e2) f2 r2⟩
    | false => rw [if_neg Bool.false_ne_true]; exact ⟨px, Z1, s1, _, f1, hd, fun t s2 hb w Z2 H2 e2 f2 r2 => k t s2 hb w Z2 H2 (e1.trans e2) f2 r2⟩⟩
theorem up_ch {r r' : R2} {f g : F2} (hl : OpL r G.M f) (hl' : OpL r' G.M g) {σ : L2.St} {H : Hp} {Q : VK} (h : up G (tCh f g ta tb tc) σ H Q) : tChain r r' (up G ta) (up G tb) (up G tc) σ H Q := by
  obtain ⟨px, Z, s, Q3, fm, h, k⟩ := h
  refine ⟨px, Z, s, _, fm, h, fun x s1 hb1 v Z1 H1 e1 f1 r1 => ⟨px, Z1, s1, _, f1, hb1, fun y s2 hf w Z2 H2 e2 f2 r2 => ?_⟩⟩
  refine hl Z2 H2 v w x y _ _ f2.le (r1.mono e2) r2 hf fun t p u Z3 H3 g3 r3 => ?_
  have f3 := f2.grow g3
  split at p
  · cases r3
    rename_i kk
    refine ⟨kk, rfl, ?_⟩
    cases kk with
    | true =>
      rw [if_pos rfl]
      refine ⟨px, Z3, s2, _, f3, p, fun w' s3 hg u' Z4 H4 e4 f4 r4 => ?_⟩
      exact hl' Z4 H4 w u' y w' _ Q f4.le (r2.mono (g3.zz.trans e4)) r4 hg fun t p u Z5 H5 g5 r5 => k t s3 p u Z5 H5 (e1.trans (e2.trans (g3.zz.trans (e4.trans g5.zz)))) (f4.grow g5) r5
    | false =>
      rw [if_neg Bool.false_ne_true]
      exact k _ s2 p _ Z3 H3 (e1.trans (e2.trans g3.zz)) f3 (.bl _)
  · exact p.elim
theorem q_ch {op op' : CmpOp} {r r' : R2} {f g : F2} (ho : OpR X (compareOp op) r) (ho' : OpR X (compareOp op') r') (hl : OpL r G.M f) (hl' : OpL r' G.M g) (ha : PE X a (up G ta)) (hb : PE X b (up G tb)) (hc : PE X c (up G tc))
    (hm : lastMarks [op, op'] [b, c] = false := by with_unfolding_all rfl) : PE X (.Compare a [op, op'] [b, c] pos) (up G (tCh f g ta tb tc)) := PE.imp (pe_chain ho ho' ha hb hc hm) fun _ _ _ h => up_ch hl hl' h
theorem q_tch {op op' : CmpOp} {r r' : R2} {f g : F2} (ho : OpR X (compareOp op) r) (ho' : OpR X (compareOp op') r') (hl : OpL r G.M f) (hl' : OpL r' G.M g) (ha : PE X a (up G ta)) (hb : PE X b (up G tb)) (hc : PE X c (up G tc))
    (hm : lastMarks [op, op'] [b, c] = false := by with_unfolding_all rfl) : PT X (.Compare a [op, op'] [b, c] pos) (upT G (tBl (tCh f g ta tb tc))) := PT.imp (pt_chain ho ho' ha hb hc hm) fun _ _ _ h => up_ch hl hl' (up_bl h)
end
/-! ### slices -/
abbrev TO3 := S3 → (Option Int → S3 → Prop) → Prop
def oNo : TO3 := fun s Q => Q none s
def oSo (te : TE3) : TO3 := fun s Q => te s fun t s1 => match t with
  | .int i => Q (some i) s1
  | _ => False
def cutT (xs : List T) (lo hi : Option Int) : List T := (xs.drop (HT.sIx xs.length 0 lo)).take (HT.sIx xs.length xs.length hi - HT.sIx xs.length 0 lo)
def fSl (x : T) (lo hi : Option Int) (P : T → Prop) : Prop := match x with
  | .lst ts => P (.lst (cutT ts lo hi))
  | .tup ts => P (.tup (cutT ts lo hi))
  | .str z => P (.str (cutS z lo hi))
  | _ => False
def tSl3 (te : TE3) (tl th : TO3) : TE3 := fun s Q => te s fun x s1 => tl s1 fun lo s2 => th s2 fun hi s3 => fSl x lo hi fun t => Q t s3
theorem cutT_len (xs : List T) (lo hi : Option Int) : (cutT xs lo hi).length ≤ xs.length := by
  unfold cutT
  rw [List.length_take, List.length_drop]
  omega
theorem RpL.cut {M : Mo} {Z : Hp} {ts : List T} {vs : List V} {lo hi : Option Int} (r : RpL M Z ts vs) : RpL M Z (cutT ts lo hi) (cutV vs lo hi) := by
  unfold cutT cutV
  rw [← r.len]
  exact (r.drop _).take _
theorem cutS_len (z : Str) (lo hi : Option Int) : (cutS z lo hi).length ≤ z.length := by
  show (List.toArray _).size ≤ z.cps.size
  rw [List.size_toArray, List.length_take, List.length_drop, Array.length_toList]
  omega
def upO (G : Gh) (to : TO3) : TO := fun σ H Q => ∃ px Z s Q3, Fm G px Z H σ s ∧ to s Q3 ∧ ∀ o s', Q3 o s' → ∀ Z' H', Same Z Z' → Fm G px Z' H' σ s' → Q o H'
section
variable {X : Cx} {G : Gh} {e : Expr} {lo hi : Option Expr} {te : TE3} {tl th : TO3} {pos p2 : Pos}
theorem PO.imp {X : Cx} {e : Option Expr} {t t' : TO} (h : PO X e t) (i : ∀ σ H Q, t' σ H Q → t σ H Q) : PO X e t' := ⟨fun pins s σ H Q I q => h.run pins s σ H Q I (i σ H Q q)⟩
theorem qo_none : PO X none (upO G oNo) := PO.imp po_none fun σ H Q ⟨px, Z, s, Q3, fm, h, k⟩ => k none s h Z H (fun _ _ q => q) fm
theorem qo_some (h : PE X e (up G te)) : PO X (some e) (upO G (oSo te)) := PO.imp (po_some h) fun σ H Q ⟨px, Z, s, Q3, fm, h, k⟩ => ⟨px, Z, s, _, fm, h, fun t s1 ht v Z1 H1 e1 f1 r1 => by
  split at ht
  · cases r1
    exact ⟨_, rfl, k _ s1 ht Z1 H1 e1 f1⟩
  · exact ht.elim⟩
abbrev rSl3 (K : PySem.W.Frag) : V → Option Int → Option Int → Hp → VK → Prop := fun x lo hi H Q => rSlL K x lo hi H Q ∨ (rSlA K x lo hi H Q ∨ rSlS x lo hi H Q)
theorem l_sl {M : Mo} (hK : X.K = M.K) : SlR X (rSl3 M.K) := by
  rw [← hK]
  exact sl_list.or (sl_tupA.or sl_str)
theorem q_sl (hK : X.K = G.M.K) (he : PE X e (up G te)) (hl : PO X lo (upO G tl)) (hh : PO X hi (upO G th)) : PE X (.Subscript e (.Slice lo hi none p2) pos) (up G (tSl3 te tl th)) :=
  PE.imp (pe_slice (l_sl hK) he hl hh) fun σ H Q ⟨px, Z, s, Q3, fm, h, k⟩ => ⟨px, Z, s, _, fm, h, fun x s1 h1 v Z1 H1 e1 f1 r1 => ⟨px, Z1, s1, _, f1, h1, fun l s2 h2 Z2 H2 e2 f2 => ⟨px, Z2, s2, _, f2, h2, fun u s3 h3 Z3 H3 e3 f3 => by
    have r3 := r1.mono (e2.trans e3)
    have e13 := e1.trans (e2.trans e3)
    unfold fSl at h3
    split at h3
    · cases r3 with
      | lst g n r =>
        refine .inl ⟨_, _, rfl, .inl (.inl (f3.le _ _ g)), fun p np => ?_⟩
        obtain ⟨e4, f4⟩ := f3.new (o := .lst (cutV _ l u)) np
        refine k _ s3 h3 _ _ _ (e13.trans e4) f4 (.lst upd_same (Nat.le_trans (cutT_len _ _ _) n) ?_)
        exact r.cut.mono e4
    · cases r3 with
      | tup g n r =>
        refine .inr (.inl ⟨_, _, rfl, .inl (.inl (f3.le _ _ g)), fun hw => ?_, fun hw p np => ?_⟩)
        · refine k _ s3 h3 _ Z3 H3 e13 f3 (.tup g (Nat.le_trans (cutT_len _ _ _) n) ?_)
          rw [← r.len] at hw
          unfold cutT
          rw [hw.1, hw.2, Nat.sub_zero, List.drop_zero, List.take_length]
          exact r
        · obtain ⟨e4, f4⟩ := f3.new (o := .tup (cutV _ l u)) np
          refine k _ s3 h3 _ _ _ (e13.trans e4) f4 (.tup upd_same (Nat.le_trans (cutT_len _ _ _) n) ?_)
          exact r.cut.mono e4
    · cases r3 with
      | str hz => exact .inr (.inr ⟨_, rfl, hz, k _ s3 h3 _ Z3 H3 e13 f3 (.str (Nat.le_trans (cutS_len _ _ _) hz))⟩)
    · exact h3.elim⟩⟩⟩
end
end G69
namespace G69
open PySem PySem.Spec PyProof.Rows L2
/-! ### what is walked -/
abbrev TI3 := S3 → (List T → S3 → Prop) → Prop
abbrev TG3 := T → S3 → (S3 → Prop) → Prop
abbrev TGs3 := List T → S3 → (S3 → Prop) → Prop
structure WalkT (M : Mo) (J : It) (Z : Hp) (ts : List T) : Prop where
  few : ts.length ≤ sizeLine
  goes : ∀ i H, i < ts.length → Same Z H → J.go i H
  stops : ∀ H, Same Z H → J.stop ts.length H
  yields : ∀ i H x H' Z1, i < ts.length → Same Z Z1 → Same Z1 H → J.yld i H x H' → ∃ Z2 t, ts[i]? = some t ∧ Gw Z1 H Z2 H' ∧ Rp M Z2 t x
theorem WalkT.mono {M : Mo} {J : It} {Z Z' : Hp} {ts : List T} (w : WalkT M J Z ts) (e : Same Z Z') : WalkT M J Z' ts :=
  ⟨w.few, fun i H hi l => w.goes i H hi (e.trans l), fun H l => w.stops H (e.trans l), fun i H x H' Z1 hi e1 l y => w.yields i H x H' Z1 hi (e.trans e1) l y⟩
def upI (G : Gh) (ti : TI3) : TI := fun σ H R => ∃ px Z s Q3, Fm G px Z H σ s ∧ ti s Q3 ∧ ∀ ts s', Q3 ts s' → ∀ J Z' H', Same Z Z' → Fm G px Z' H' σ s' → WalkT G.M J Z' ts → R J H'
theorem PI.imp {X : Cx} {tg e : Expr} {t t' : TI} (h : PI X tg e t) (i : ∀ σ H R, t' σ H R → t σ H R) : PI X tg e t' := ⟨fun pins s σ H R I q => h.run pins s σ H R I (i σ H R q)⟩
def sgns (z : Str) : List T := z.cps.toList.map fun c => T.str ⟨#[c]⟩
def fSeq (t : T) (P : List T → Prop) : Prop := match t with
  | .lst ts => P ts
  | .tup ts => P ts
  | .str z => P (sgns z)
  | _ => False
def iSeq (te : TE3) : TI3 := fun s Q => te s fun t s1 => fSeq t fun ts => Q ts s1
def rngT (lo : Int) (n : Nat) : List T := (List.range n).map fun i => T.int (lo + (i : Nat))
def iR1 (ta : TA3) : TI3 := fun s Q => ta s fun ts s1 => match ts with
  | [.int j] => (-1000000 ≤ j ∧ j ≤ 1000000) ∧ Q (rngT 0 j.toNat) s1
  | _ => False
def iR2 (ta : TA3) : TI3 := fun s Q => ta s fun ts s1 => match ts with
  | [.int i, .int j] => (-1000000 ≤ i ∧ i ≤ 1000000 ∧ j ≤ 1000000 ∧ -1000000 ≤ j) ∧ Q (rngT i (j - i).toNat) s1
  | _ => False
def enumT (ts : List T) : List T := (List.range ts.length).map fun i => T.tup [.int (i : Nat), ts.getD i .non]
def iEn (ta : TA3) : TI3 := fun s Q => ta s fun as s1 => match as with
  | [.lst ts] => Q (enumT ts) s1
  | [.tup ts] => Q (enumT ts) s1
  | _ => False
def zipT (ts us : List T) : List T := (ts.zip us).map fun p => T.tup [p.1, p.2]
def iZp (ta : TA3) : TI3 := fun s Q => ta s fun as s1 => match as with
  | [.lst ts, .lst us] => Q (zipT ts us) s1
  | [.tup ts, .tup us] => Q (zipT ts us) s1
  | _ => False
section
variable {M : Mo} {Z : Hp} {a b : Addr} {ts us : List T} {vs ws : List V}
theorem walkT_l (h : Z a = some (.lst vs)) (n : ts.length ≤ sizeLine) (r : RpL M Z ts vs) : WalkT M (Itl M.K a) Z ts := by
  refine ⟨n, fun i H hi l => ?_, fun H l => ?_, fun i H x H' Z1 hi e l y => ?_⟩
  · rw [r.len] at hi
    exact ⟨vs, vs[i], .inl (.inl (l _ _ h)), List.getElem?_eq_getElem hi⟩
  · exact ⟨vs, .inl (.inl (l _ _ h)), by rw [r.len]; exact Nat.le_refl _⟩
  · obtain ⟨rfl, y⟩ := y
    have hx := y vs (.inl (.inl (l _ _ (e _ _ h))))
    obtain ⟨t, h1, h2⟩ := r.get2 hx
    exact ⟨Z1, t, h1, Gw.rfl' l, h2.mono e⟩
theorem walkT_t (h : Z a = some (.tup vs)) (n : ts.length ≤ sizeLine) (r : RpL M Z ts vs) : WalkT M (Itt M.K a) Z ts := by
  refine ⟨n, fun i H hi l => ?_, fun H l => ?_, fun i H x H' Z1 hi e l y => ?_⟩
  · rw [r.len] at hi
    exact ⟨vs, vs[i], .inl (.inl (l _ _ h)), List.getElem?_eq_getElem hi⟩
  · exact ⟨vs, .inl (.inl (l _ _ h)), by rw [r.len]; exact Nat.le_refl _⟩
  · obtain ⟨rfl, y⟩ := y
    have hx := y vs (.inl (.inl (l _ _ (e _ _ h))))
    obtain ⟨t, h1, h2⟩ := r.get2 hx
    exact ⟨Z1, t, h1, Gw.rfl' l, h2.mono e⟩
theorem sgns_len (z : Str) : (sgns z).length = z.cps.size := by
  unfold sgns
  rw [List.length_map, Array.length_toList]
theorem walkT_s {z : Str} (hz : z.length ≤ sizeLine) : WalkT M (Its z) Z (sgns z) := by
  have hl : (sgns z).length = z.cps.size := sgns_len z
  refine ⟨by rw [hl]; exact hz, fun i H hi l => by rw [hl] at hi; exact hi, fun H l => by rw [hl]; exact Nat.le_refl _, fun i H x H' Z1 hi e l y => ?_⟩
  obtain ⟨rfl, c, h1, rfl⟩ := y
  refine ⟨Z1, .str ⟨#[c]⟩, ?_, Gw.rfl' l, .str (by show 1 ≤ sizeLine; decide)⟩
  unfold sgns
  rw [List.getElem?_map, Array.getElem?_toList, h1]
  rfl
theorem rngT_len (lo : Int) (n : Nat) : (rngT lo n).length = n := by
  unfold rngT
  rw [List.length_map, List.length_range]
theorem rngT_at {lo : Int} {n i : Nat} (h : i < n) : (rngT lo n)[i]? = some (.int (lo + (i : Nat))) := by
  unfold rngT
  rw [List.getElem?_map, List.getElem?_range h]
  rfl
theorem walkT_r {lo : Int} {n : Nat} (hn : n ≤ sizeLine) : WalkT M (Itr lo n) Z (rngT lo n) := by
  refine ⟨by rw [rngT_len]; exact hn, fun i H hi l => by rw [rngT_len] at hi; exact hi, fun H l => by rw [rngT_len]; exact Nat.le_refl _, fun i H x H' Z1 hi e l y => ?_⟩
  rw [rngT_len] at hi
  obtain ⟨rfl, rfl⟩ := y
  exact ⟨Z1, _, rngT_at hi, Gw.rfl' l, .int _⟩
theorem enumT_len (ts : List T) : (enumT ts).length = ts.length := by
  unfold enumT
  rw [List.length_map, List.length_range]
theorem enumT_at {i : Nat} {t : T} (h : ts[i]? = some t) : (enumT ts)[i]? = some (.tup [.int (i : Nat), t]) := by
  unfold enumT
  rw [List.getElem?_map, List.getElem?_range (List.getElem?_eq_some_iff.mp h).1, Option.map_some, List.getD_eq_getElem?_getD, h]
  rfl
theorem gw_pair {Z1 H : Hp} {p : Addr} {x y : V} {t u : T} (l : Same Z1 H) (n : H p = none) (h1 : Rp M Z1 t x) (h2 : Rp M Z1 u y) : Gw Z1 H (upd Z1 p (.tup [x, y])) (upd H p (.tup [x, y])) ∧ Rp M (upd Z1 p (.tup [x, y])) (.tup [t, u]) (.ref p) := by
  have g := Gw.new (o := .tup [x, y]) l n
  exact ⟨g, .tup upd_same (by show 2 ≤ sizeLine; decide) (.cons (h1.mono g.zz) (.cons (h2.mono g.zz) .nil))⟩
theorem walkT_el (h : Z a = some (.lst vs)) (n : ts.length ≤ sizeLine) (r : RpL M Z ts vs) : WalkT M (Ite M.K a) Z (enumT ts) := by
  refine ⟨by rw [enumT_len]; exact n, fun i H hi l => ?_, fun H l => ?_, fun i H x H' Z1 hi e l y => ?_⟩
  · rw [enumT_len, r.len] at hi
    exact ⟨vs, vs[i], .inl (.inl (l _ _ h)), List.getElem?_eq_getElem hi⟩
  · exact ⟨vs, .inl (.inl (l _ _ h)), by rw [enumT_len, r.len]; exact Nat.le_refl _⟩
  · obtain ⟨p, x', rfl, np, rfl, y⟩ := y
    have hx := y vs (.inl (.inl (l _ _ (e _ _ h))))
    obtain ⟨t, h1, h2⟩ := r.get2 hx
    obtain ⟨g, rr⟩ := gw_pair (t := .int (i : Nat)) l np (.int (i : Nat)) (h2.mono e)
    exact ⟨_, _, enumT_at h1, g, rr⟩
theorem walkT_et (h : Z a = some (.tup vs)) (n : ts.length ≤ sizeLine) (r : RpL M Z ts vs) : WalkT M (IteT M.K a) Z (enumT ts) := by
  refine ⟨by rw [enumT_len]; exact n, fun i H hi l => ?_, fun H l => ?_, fun i H x H' Z1 hi e l y => ?_⟩
  · rw [enumT_len, r.len] at hi
    exact ⟨vs, vs[i], .inl (.inl (l _ _ h)), List.getElem?_eq_getElem hi⟩
  · exact ⟨vs, .inl (.inl (l _ _ h)), by rw [enumT_len, r.len]; exact Nat.le_refl _⟩
  · obtain ⟨p, x', rfl, np, rfl, y⟩ := y
    have hx := y vs (.inl (.inl (l _ _ (e _ _ h))))
    obtain ⟨t, h1, h2⟩ := r.get2 hx
    obtain ⟨g, rr⟩ := gw_pair (t := .int (i : Nat)) l np (.int (i : Nat)) (h2.mono e)
    exact ⟨_, _, enumT_at h1, g, rr⟩
theorem zipT_len (ts us : List T) : (zipT ts us).length = min ts.length us.length := by
  unfold zipT
  rw [List.length_map, List.length_zip]
theorem zipT_at {i : Nat} {t u : T} (h : ts[i]? = some t) (h' : us[i]? = some u) : (zipT ts us)[i]? = some (.tup [t, u]) := by
  unfold zipT
  rw [List.getElem?_map, List.getElem?_zip_eq_some (z := (t, u)) |>.mpr ⟨h, h'⟩]
  rfl
theorem walkT_zl (h : Z a = some (.lst vs)) (n : ts.length ≤ sizeLine) (r : RpL M Z ts vs) (h' : Z b = some (.lst ws)) (r' : RpL M Z us ws) : WalkT M (Itz M.K a b) Z (zipT ts us) := by
  have hl : (zipT ts us).length = min vs.length ws.length := by rw [zipT_len, r.len, r'.len]
  have ll : ∀ {H : Hp}, Same Z H → SqL M.K H a vs := fun l => .inl (.inl (l _ _ h))
  have ll' : ∀ {H : Hp}, Same Z H → SqL M.K H b ws := fun l => .inl (.inl (l _ _ h'))
  refine ⟨by rw [zipT_len]; omega, fun i H hi l => ?_, fun H l => ?_, fun i H x H' Z1 hi e l y => ?_⟩
  · rw [hl] at hi
    exact ⟨vs, ws, vs[i], ws[i], ll l, ll' l, List.getElem?_eq_getElem (by omega), List.getElem?_eq_getElem (by omega)⟩
  · exact ⟨vs, ws, ll l, ll' l, by rw [hl]; omega⟩
  · obtain ⟨p, x', y', rfl, np, rfl, y1, y2⟩ := y
    obtain ⟨t, h1, h2⟩ := r.get2 (y1 vs (ll (e.trans l)))
    obtain ⟨u, g1, g2⟩ := r'.get2 (y2 ws (ll' (e.trans l)))
    obtain ⟨g, rr⟩ := gw_pair l np (h2.mono e) (g2.mono e)
    exact ⟨_, _, zipT_at h1 g1, g, rr⟩
theorem walkT_zt (h : Z a = some (.tup vs)) (n : ts.length ≤ sizeLine) (r : RpL M Z ts vs) (h' : Z b = some (.tup ws)) (r' : RpL M Z us ws) : WalkT M (RZ.ItzT M.K a b) Z (zipT ts us) := by
  have hl : (zipT ts us).length = min vs.length ws.length := by rw [zipT_len, r.len, r'.len]
  have ll : ∀ {H : Hp}, Same Z H → SqT M.K H a vs := fun l => .inl (.inl (l _ _ h))
  have ll' : ∀ {H : Hp}, Same Z H → SqT M.K H b ws := fun l => .inl (.inl (l _ _ h'))
  refine ⟨by rw [zipT_len]; omega, fun i H hi l => ?_, fun H l => ?_, fun i H x H' Z1 hi e l y => ?_⟩
  · rw [hl] at hi
    exact ⟨vs, ws, vs[i], ws[i], ll l, ll' l, List.getElem?_eq_getElem (by omega), List.getElem?_eq_getElem (by omega)⟩
  · exact ⟨vs, ws, ll l, ll' l, by rw [hl]; omega⟩
  · obtain ⟨p, x', y', rfl, np, rfl, y1, y2⟩ := y
    obtain ⟨t, h1, h2⟩ := r.get2 (y1 vs (ll (e.trans l)))
    obtain ⟨u, g1, g2⟩ := r'.get2 (y2 ws (ll' (e.trans l)))
    obtain ⟨g, rr⟩ := gw_pair l np (h2.mono e) (g2.mono e)
    exact ⟨_, _, zipT_at h1 g1, g, rr⟩
end
section
variable {X : Cx} {G : Gh} {tg e e2 : Expr} {te : TE3} {ta : TA3} {p pos tpos : Pos} {elts : List Expr} {kk : Nat}
def iAny (K : PySem.W.Frag) (tl : TE) : TI := fun σ H R => tl σ H fun x H1 => (∃ a, x = .ref a ∧ (∃ xs, SqL K H1 a xs) ∧ R (Itl K a) H1) ∨ (∃ a, x = .ref a ∧ (∃ xs, SqT K H1 a xs) ∧ R (Itt K a) H1) ∨ ∃ z, x = .str z ∧ R (Its z) H1
theorem pi_any {tl : TE} (hl : PE X e tl) : PI X tg e (iAny X.K tl) := ⟨fun pins s σ H R I h => thn (hl.run pins s σ H _ I h) fun v s1 ⟨x, H1, I1, r1, q1⟩ => by
  rcases q1 with ⟨a, ex, ⟨xs, hq⟩, q⟩ | ⟨a, ex, ⟨xs, hq⟩, q⟩ | ⟨z, ex, q⟩
  · subst ex; cases r1
    obtain ⟨its, rv, pl, hz⟩ := I1.list hq
    exact wpAny_pyIter_list pl.isList (pi_one (tk := s1.toks) I1 _ (turn_list a _) ⟨_, Heap.get?_push_size _ rfl, rfl, rfl⟩ q)
  · subst ex; cases r1
    obtain ⟨its, rv, pl, hz⟩ := I1.tuple hq
    exact wpAny_pyIter_tuple (show s1.heap.IsTuple a its.toArray from pl) (pi_one (tk := s1.toks) I1 _ (turn_tuple a _) ⟨_, Heap.get?_push_size _ rfl, rfl, rfl⟩ q)
  · subst ex; obtain ⟨t, rfl⟩ := r1
    cases ha : z.cps.all (· < 128)
    · exact wpAny_pyIter_wide ha (pi_one (tk := s1.toks) I1 _ (turn_str _ z t "str_iterator" (.inr rfl)) ⟨_, Heap.get?_push_size _ rfl, rfl, rfl⟩ q)
    · exact wpAny_pyIter_ascii ha (pi_one (tk := s1.toks) I1 _ (turn_str _ z t "str_ascii_iterator" (.inl rfl)) ⟨_, Heap.get?_push_size _ rfl, rfl, rfl⟩ q)⟩
theorem qi_seq (hK : X.K = G.M.K) (h : PE X e (up G te)) : PI X tg e (upI G (iSeq te)) :=
  PI.imp (pi_any h) fun σ H R ⟨px, Z, s, Q3, fm, h, k⟩ => ⟨px, Z, s, _, fm, h, fun t s1 ht v Z1 H1 e1 f1 r1 => by
    rw [hK]
    unfold fSeq at ht
    split at ht
    · cases r1 with
      | lst g n r => exact .inl ⟨_, rfl, ⟨_, .inl (.inl (f1.le _ _ g))⟩, k _ s1 ht _ Z1 H1 e1 f1 (walkT_l g n r)⟩
    · cases r1 with
      | tup g n r => exact .inr (.inl ⟨_, rfl, ⟨_, .inl (.inl (f1.le _ _ g))⟩, k _ s1 ht _ Z1 H1 e1 f1 (walkT_t g n r)⟩)
    · cases r1 with
      | str hz => exact .inr (.inr ⟨_, rfl, k _ s1 ht _ Z1 H1 e1 f1 (walkT_s hz)⟩)
    · exact ht.elim⟩
theorem qi_r1 (hg : Gl X "range") (hm : X.mg "range" = none) (ha : PA X [e] (upA G ta)) (hs : starEach [e] X.env = [(false, eval e X.env)] := by rfl) : PI X tg (.Call (.Name "range" p) [e] [] pos) (upI G (iR1 ta)) :=
  PI.imp (pi_range1 hg hm ha hs) fun σ H R ⟨px, Z, s, Q3, fm, h, k⟩ => ⟨px, Z, s, _, fm, h, fun ts s1 ht vs Z1 H1 e1 f1 r1 => by
    split at ht
    · cases r1 with
      | cons r rr =>
        cases rr; cases r
        exact ⟨_, rfl, by omega, by omega, k _ s1 ht.2 _ Z1 H1 e1 f1 (walkT_r (szle (by omega)))⟩
    · exact ht.elim⟩
theorem qi_r2 (hg : Gl X "range") (hm : X.mg "range" = none) (ha : PA X [e, e2] (upA G ta)) (hs : starEach [e, e2] X.env = [(false, eval e X.env), (false, eval e2 X.env)] := by rfl) (hs2 : starEach [e2] X.env = [(false, eval e2 X.env)] := by rfl) :
    PI X tg (.Call (.Name "range" p) [e, e2] [] pos) (upI G (iR2 ta)) :=
  PI.imp (pi_range2 hg hm ha hs hs2) fun σ H R ⟨px, Z, s, Q3, fm, h, k⟩ => ⟨px, Z, s, _, fm, h, fun ts s1 ht vs Z1 H1 e1 f1 r1 => by
    split at ht
    · cases r1 with
      | cons r rr =>
        cases r
        cases rr with
        | cons r rr =>
          cases rr; cases r
          obtain ⟨⟨g1, g2, g3, g4⟩, ht⟩ := ht
          exact ⟨_, _, rfl, ⟨by omega, by omega, by omega, by omega⟩, k _ s1 ht _ Z1 H1 e1 f1 (walkT_r (Nat.le_trans (m := 2000000) (by omega) (by decide)))⟩
    · exact ht.elim⟩
theorem qi_en (hK : X.K = G.M.K) (hg : Gl X "enumerate") (hm : X.mg "enumerate" = none) (ha : PA X [e] (upA G ta)) (hs : starEach [e] X.env = [(false, eval e X.env)] := by rfl) :
    PI X (.Tuple elts kk tpos) (.Call (.Name "enumerate" p) [e] [] pos) (upI G (iEn ta)) :=
  PI.imp (pi_enumS hg hm ha hs) fun σ H R ⟨px, Z, s, Q3, fm, h, k⟩ => ⟨px, Z, s, _, fm, h, fun ts s1 ht vs Z1 H1 e1 f1 r1 => by
    rw [hK]
    split at ht
    · cases r1 with
      | cons r rr =>
        cases rr
        cases r with
        | lst g n r => exact ⟨_, _, rfl, .inl ⟨.inl (.inl (f1.le _ _ g)), k _ s1 ht _ Z1 H1 e1 f1 (walkT_el g n r)⟩⟩
    · cases r1 with
      | cons r rr =>
        cases rr
        cases r with
        | tup g n r => exact ⟨_, _, rfl, .inr ⟨.inl (.inl (f1.le _ _ g)), k _ s1 ht _ Z1 H1 e1 f1 (walkT_et g n r)⟩⟩
    · exact ht.elim⟩
theorem qi_zp (hK : X.K = G.M.K) (hg : Gl X "zip") (hm : X.mg "zip" = none) (ha : PA X [e, e2] (upA G ta)) (hs : starEach [e, e2] X.env = (false, eval e X.env) :: starEach [e2] X.env := by rfl) (hpl : (backTo pos (starEach [e2] X.env)).any (·.1) = false := by rfl) :
    PI X (.Tuple elts kk tpos) (.Call (.Name "zip" p) [e, e2] [] pos) (upI G (iZp ta)) :=
  PI.imp (RZ.pi_zipA hg hm ha hs hpl) fun σ H R ⟨px, Z, s, Q3, fm, h, k⟩ => ⟨px, Z, s, _, fm, h, fun ts s1 ht vs Z1 H1 e1 f1 r1 => by
    rw [hK]
    split at ht
    · cases r1 with
      | cons r rr =>
        cases rr with
        | cons r' rr =>
          cases rr
          cases r with
          | lst g n r => cases r' with
            | lst g' n' r' => exact ⟨_, _, _, _, rfl, .inl ⟨.inl (.inl (f1.le _ _ g)), .inl (.inl (f1.le _ _ g')), k _ s1 ht _ Z1 H1 e1 f1 (walkT_zl g n r g' r')⟩⟩
    · cases r1 with
      | cons r rr =>
        cases rr with
        | cons r' rr =>
          cases rr
          cases r with
          | tup g n r => cases r' with
            | tup g' n' r' => exact ⟨_, _, _, _, rfl, .inr ⟨.inl (.inl (f1.le _ _ g)), .inl (.inl (f1.le _ _ g')), k _ s1 ht _ Z1 H1 e1 f1 (walkT_zt g n r g' r')⟩⟩
    · exact ht.elim⟩
end
/-! ### targets -/
def gN (i : Nat) : TG3 := fun t s Q => match s[i]? with
  | some _ => Q (s.set i (.sh t))
  | none => False
def lenIs : List T → Nat → Bool
  | [], 0 => true
  | _ :: ts, n + 1 => lenIs ts n
  | _, _ => false
theorem lenIs_eq : ∀ {ts : List T} {n : Nat}, lenIs ts n = true → ts.length = n
  | [], 0, _ => rfl
  | _ :: _, _ + 1, h => congrArg Nat.succ (lenIs_eq h)
  | [], _ + 1, h => by cases h
  | _ :: _, 0, h => by cases h
def gT (n : Nat) (gs : TGs3) : TG3 := fun t s Q => match t with
  | .tup ts => (match lenIs ts n with
    | true => gs ts s Q
    | false => False)
  | _ => False
def gsN : TGs3 := fun ts s Q => match ts with
  | [] => Q s
  | _ => False
def gsC (g : TG3) (gs : TGs3) : TGs3 := fun ts s Q => match ts with
  | t :: r => g t s fun s1 => gs r s1 Q
  | _ => False
def Only (is : List Nat) (σ σ' : L2.St) : Prop := σ'.length = σ.length ∧ ∀ i, i ∉ is → σ'[i]? = σ[i]?
def upG (G : Gh) (is : List Nat) (g : TG3) : TG := fun v σ H R => ∃ px Z s t Q3, Fm G px Z H σ s ∧ Rp G.M Z t v ∧ g t s Q3 ∧ ∀ s', Q3 s' → ∀ σ', Fm G px Z H σ' s' → Only is σ σ' → R σ' H
def upGs (G : Gh) (is : List Nat) (g : TGs3) : TGs := fun vs σ H R => ∃ px Z s ts Q3, Fm G px Z H σ s ∧ RpL G.M Z ts vs ∧ g ts s Q3 ∧ ∀ s', Q3 s' → ∀ σ', Fm G px Z H σ' s' → Only is σ σ' → R σ' H
theorem PG.imp {X : Cx} {tg : Expr} {t t' : TG} (h : PG X tg t) (i : ∀ v σ H R, t' v σ H R → t v σ H R) : PG X tg t' := ⟨fun pins s σ H v u R I r q => h.run pins s σ H v u R I r (i v σ H R q)⟩
theorem PGs.imp {X : Cx} {tg : List Expr} {t t' : TGs} (h : PGs X tg t) (i : ∀ v σ H R, t' v σ H R → t v σ H R) : PGs X tg t' := ⟨fun pins s σ H v u R I r q => h.run pins s σ H v u R I r (i v σ H R q)⟩
section
variable {X : Cx} {G : Gh} {e : Expr} {es : List Expr} {g : TG3} {gs : TGs3} {is js : List Nat} {pos : Pos}
theorem qg_name {i : Nat} {x : Str} (hN : X.N.Nodup) (hi : X.N[i]? = some x) (hx : Loc X.env.scope x) (hf : X.fn x = true ∨ X.env.scope.names.lookup x = some .local := by first | exact .inl rfl | exact .inr rfl | assumption) : PG X (.Name x pos) (upG G [i] (gN i)) :=
  PG.imp (pg_name hN hi hx hf) fun v σ H R ⟨px, Z, s, t, Q3, fm, r, h, k⟩ => by
    unfold gN at h
    split at h
    · rename_i x e
      have hi : i < s.length := (List.getElem?_eq_some_iff.mp e).1
      refine k _ h _ (fm.setSh hi r) ⟨List.length_set, fun j hj => ?_⟩
      rw [List.getElem?_set_ne (fun z => hj (by rw [z]; exact List.mem_cons_self))]
    · exact h.elim
theorem qgs_nil : PGs X [] (upGs G [] gsN) := PGs.imp pgs_nil fun v σ H R ⟨px, Z, s, ts, Q3, fm, r, h, k⟩ => by
  unfold gsN at h
  split at h
  · cases r
    exact ⟨rfl, k _ h σ fm ⟨rfl, fun _ _ => rfl⟩⟩
  · exact h.elim
theorem qgs_cons (h1 : PG X e (upG G is g)) (h2 : PGs X es (upGs G js gs)) (hs : (assignEach (e :: es) X.env).map (·.2) = assign e X.env :: (assignEach es X.env).map (·.2) := by rfl) : PGs X (e :: es) (upGs G (is ++ js) (gsC g gs)) :=
  PGs.imp (pgs_cons h1 h2 hs) fun vs σ H R ⟨px, Z, s, ts, Q3, fm, r, h, k⟩ => by
    unfold gsC at h
    split at h
    · cases r with
      | cons r rr =>
        refine ⟨_, _, rfl, px, Z, s, _, _, fm, r, h, fun s1 h1 σ1 f1 o1 => ⟨px, Z, s1, _, _, f1, rr, h1, fun s2 h2 σ2 f2 o2 => k s2 h2 σ2 f2 ⟨o2.1.trans o1.1, fun i hi => ?_⟩⟩⟩
        rw [List.mem_append, not_or] at hi
        exact (o2.2 i hi.2).trans (o1.2 i hi.1)
    · exact h.elim
theorem qg_tup {k n : Nat} (hK : X.K = G.M.K) (hc : X.calm = true) (h : PGs X es (upGs G is gs)) (hn : (assignEach es X.env).length = n := by rfl) (hst : (assignEach es X.env).findIdx? (·.1) = none := by rfl) : PG X (.Tuple es k pos) (upG G is (gT n gs)) :=
  PG.imp (pg_tup hc h hn hst) fun v σ H R ⟨px, Z, s, t, Q3, fm, r, h, k⟩ => by
    unfold gT at h
    split at h
    · split at h
      · rename_i e
        cases r with
        | tup g n r => exact ⟨_, _, rfl, .inl (.inl (fm.le _ _ g)), by rw [← r.len]; exact lenIs_eq e, px, Z, s, _, Q3, fm, r, h, k⟩
      · exact h.elim
    · exact h.elim
end
/-! ### for -/
def forW (g : TG3) (tb : TS3) (D : Ends3) : List T → S3 → Prop
  | [], s => D.nx s
  | t :: ts, s => g t s fun s2 => tb { D with nx := forW g tb D ts, ct := forW g tb D ts, bk := D.nx } s2
@[irreducible] def tFor3 (ti : TI3) (g : TG3) (tb : TS3) : TS3 := fun D s => ti s fun ts s1 => forW g tb D ts s1
theorem drop_at {α : Type} {l : List α} {i : Nat} {x : α} (h : l[i]? = some x) : l.drop i = x :: l.drop (i + 1) := by
  obtain ⟨hi, e⟩ := List.getElem?_eq_some_iff.mp h
  rw [List.drop_eq_getElem_cons hi, e]
theorem q_for {X : Cx} {G : Gh} {tg iter : Expr} {body : List Stmt} {ti : TI3} {g : TG3} {is : List Nat} {tb : TS3} {pos : Pos} (hp : PassesOwn (model X.prog X.w) X.A X.env X.xe) (hc : X.calm = true) (hi : PI X tg iter (upI G ti)) (hg : PG X tg (upG G is g)) (hb : PSs X body (upS G tb))
    (hs : ∀ x, foldedSetIterable iter X.env x = pure x := by intro _; rfl) : PS X (.For tg iter body [] pos) (upS G (tFor3 ti g tb)) :=
  PS.imp (ps_for hp hc hi hg hb hs) fun D σ H ⟨px, Z, s, D3, fm, h, k⟩ => ⟨px, Z, s, fun ts s1 => forW g tb D3 ts s1, fm, (by unfold tFor3 at h; exact h), fun ts s1 hf J Z1 H1 e1 f1 w => by
    refine ⟨fun i m σ H => m = ts.length - i ∧ i ≤ ts.length ∧ ∃ Z' s', Same Z1 Z' ∧ Fm G px Z' H σ s' ∧ forW g tb D3 (ts.drop i) s', ⟨_, rfl, Nat.zero_le _, Z1, s1, fun _ _ q => q, f1, by rw [List.drop_zero]; exact hf⟩, ?_⟩
    rintro i m σ H ⟨rfl, hil, Z', s', e', f', hf'⟩
    by_cases hlt : i < ts.length
    · refine .inr ⟨w.goes i H hlt (e'.trans f'.le), fun σ H => ∃ Z2 s2, Same Z1 Z2 ∧ Fm G px Z2 H σ s2 ∧ forW g tb D3 (ts.drop (i + 1)) s2, fun σ2 H2 q => ⟨ts.length - (i + 1), by omega, rfl, hlt, q⟩, fun x H' y => ?_⟩
      obtain ⟨Z2, t, ht, gw, rr⟩ := w.yields i H x H' Z' hlt e' f'.le y
      rw [drop_at ht] at hf'
      have e2 := e'.trans gw.zz
      refine ⟨px, Z2, s', t, _, f'.grow gw, rr, hf', fun s2 h2 σ2 f2 _ => ⟨px, Z2, s2, _, f2, h2, ?_⟩⟩
      exact ⟨fun s3 h3 σ3 Z3 H3 e3 f3 => ⟨Z3, s3, e2.trans e3, f3, h3⟩, fun t h3 v Z3 H3 e3 => k.rt t h3 v Z3 H3 (e1.trans (e2.trans e3)), fun s3 h3 σ3 Z3 H3 e3 f3 => k.nx s3 h3 σ3 Z3 H3 (e1.trans (e2.trans e3)) f3, fun s3 h3 σ3 Z3 H3 e3 f3 => ⟨Z3, s3, e2.trans e3, f3, h3⟩⟩
    · have e : i = ts.length := by omega
      subst e
      rw [List.drop_length] at hf'
      exact .inl ⟨w.stops H (e'.trans f'.le), k.nx s' hf' σ Z' H (e1.trans e') f'⟩⟩
/-! ### comprehensions -/
def wipe3 (s : S3) : List Nat → S3
  | [] => s
  | v :: vs => (wipe3 s vs).set v .no
def back3 (s s4 : S3) : List Nat → S3
  | [] => s4
  | v :: vs => (back3 s s4 vs).set v (match s[v]? with
    | some (.sh t) => .sh t
    | _ => .no)
def lcW (g : TG3) (tt : TT3) (te : TE3) (vs : List Nat) (K : List T → S3 → Prop) : List T → List T → S3 → Prop
  | [], acc, s => K acc s
  | t :: ts, acc, s => g t (wipe3 s vs) fun s2 => tt s2 fun b s3 => If3 b (te s3 fun y s4 => lcW g tt te vs K ts (acc ++ [y]) s4) (lcW g tt te vs K ts acc s3)
@[irreducible] def tLc3 (ti : TI3) (g : TG3) (tt : TT3) (te : TE3) (vs : List Nat) : TE3 := fun s Q => ti s fun ts s1 => lcW g tt te vs (fun acc s2 => Q (.lst acc) (back3 s1 s2 vs)) ts [] s1
def tYes3 : TT3 := fun s Q => Q true s
theorem Fm.wipe {G : Gh} {px Z H : Hp} {σ : L2.St} {s : S3} (f : Fm G px Z H σ s) : ∀ vs : List Nat, Fm G px Z H (L2.wipe σ vs) (wipe3 s vs)
  | [] => f
  | v :: vs => (f.wipe vs).setNo v none
theorem wipe3_len (s : S3) : ∀ vs : List Nat, (wipe3 s vs).length = s.length
  | [] => rfl
  | v :: vs => by unfold wipe3; rw [List.length_set, wipe3_len s vs]
theorem wipe3_out {s : S3} {i : Nat} : ∀ {vs : List Nat}, i ∉ vs → (wipe3 s vs)[i]? = s[i]?
  | [], _ => rfl
  | v :: vs, h => by
    unfold wipe3
    rw [List.getElem?_set_ne (fun z => h (by rw [z]; exact List.mem_cons_self)), wipe3_out fun m => h (List.mem_cons_of_mem _ m)]
theorem back3_len (s s4 : S3) : ∀ vs : List Nat, (back3 s s4 vs).length = s4.length
  | [] => rfl
  | v :: vs => by unfold back3; rw [List.length_set, back3_len s s4 vs]
/-- what stands behind a comprehension -/
theorem back3_at {s s4 : S3} : ∀ {vs : List Nat} {i : Nat} {x : Sl}, (back3 s s4 vs)[i]? = some x → (i ∉ vs ∧ s4[i]? = some x) ∨ (i ∈ vs ∧ (x = .no ∨ ∃ t, x = .sh t ∧ s[i]? = some (.sh t)))
  | [], i, x, h => .inl ⟨fun z => (by cases z), h⟩
  | v :: vs, i, x, h => by
    unfold back3 at h
    rcases set_at h with ⟨rfl, rfl⟩ | ⟨ne, h⟩
    · refine .inr ⟨List.mem_cons_self, ?_⟩
      split
      · rename_i t e
        exact .inr ⟨t, rfl, e⟩
      · exact .inl rfl
    · rcases back3_at h with ⟨h1, h2⟩ | ⟨h1, h2⟩
      · exact .inl ⟨fun z => by
          rcases List.mem_cons.mp z with z | z
          · exact ne z
          · exact h1 z, h2⟩
      · exact .inr ⟨List.mem_cons_of_mem _ h1, h2⟩
theorem Fm.back {G : Gh} {px Z Z' H H' : Hp} {σ : L2.St} {s s4 : S3} {vs : List Nat} (f : Fm G px Z H σ s) (e : Same Z Z') (f4 : Fm G px Z' H' (L2.wipe σ vs) (wipe3 s4 vs)) : Fm G px Z' H' σ (back3 s s4 vs) := by
  have hw : ∀ {i : Nat}, i ∉ vs → (L2.wipe σ vs)[i]? = σ[i]? := fun h => L2.wipe_out h
  refine ⟨f4.toCore, ?_, fun i t h => ?_, fun i t h => ?_, fun i j a t u h1 h2 g1 g2 => ?_, f4.px⟩
  · have := f4.len
    rw [L2.wipe_length, wipe3_len] at this
    rw [back3_len]
    exact this
  · rcases back3_at h with ⟨h1, h2⟩ | ⟨h1, h2⟩
    · have := f4.sh i t (by rw [wipe3_out h1]; exact h2)
      rw [hw h1] at this
      exact this
    · rcases h2 with h2 | ⟨u, h2, h3⟩
      · cases h2
      · cases h2
        obtain ⟨v, g1, g2⟩ := f.sh i _ h3
        exact ⟨v, g1, g2.mono e⟩
  · rcases back3_at h with ⟨h1, h2⟩ | ⟨h1, h2⟩
    · have := f4.ow i t (by rw [wipe3_out h1]; exact h2)
      rw [hw h1] at this
      exact this
    · rcases h2 with h2 | ⟨u, h2, h3⟩
      · cases h2
      · cases h2
  · rcases back3_at h1 with ⟨h1, h3⟩ | ⟨_, h3⟩
    · rcases back3_at h2 with ⟨h2, h4⟩ | ⟨_, h4⟩
      · exact f4.inj i j a t u (by rw [wipe3_out h1]; exact h3) (by rw [wipe3_out h2]; exact h4) (by rw [hw h1]; exact g1) (by rw [hw h2]; exact g2)
      · rcases h4 with h4 | ⟨_, h4, _⟩ <;> cases h4
    · rcases h3 with h3 | ⟨_, h3, _⟩ <;> cases h3
theorem wipe_only {σ σ' : L2.St} {vs : List Nat} (h : Only vs (L2.wipe σ vs) σ') : L2.wipe σ' vs = L2.wipe σ vs := by
  have gone : ∀ (ws : List Nat) (τ : L2.St) (i : Nat), i ∈ ws → i < τ.length → (L2.wipe τ ws)[i]? = some none := by
    intro ws
    induction ws with
    | nil => intro τ i h; cases h
    | cons w ws ih =>
      intro τ i hi hl
      unfold L2.wipe
      by_cases e : w = i
      · subst e
        rw [List.getElem?_set_self (by rw [L2.wipe_length]; exact hl)]
      · rw [List.getElem?_set_ne e]
        rcases List.mem_cons.mp hi with z | z
        · exact absurd z.symm e
        · exact ih τ i z hl
  apply List.ext_getElem?
  intro i
  have hl : σ'.length = σ.length := by rw [h.1, L2.wipe_length]
  by_cases hi : i ∈ vs
  · by_cases hlt : i < σ.length
    · rw [gone vs σ' i hi (by omega), gone vs σ i hi hlt]
    · rw [List.getElem?_eq_none (by rw [L2.wipe_length]; omega), List.getElem?_eq_none (by rw [L2.wipe_length]; omega)]
  · rw [L2.wipe_out hi, h.2 i hi]
section
variable {X : Cx} {G : Gh} {elt tg iter : Expr} {ifs : List Expr} {scope : Scope} {own : List (Str × Nat)} {pos : Pos} {ti : TI3} {g : TG3} {tt : TT3} {te : TE3} {is : List Nat}
theorem up_lc (hsub : ∀ i ∈ is, i ∈ own.map (·.2)) {σ : L2.St} {H : Hp} {Q : VK} (h : upF G (tLc3 ti g tt te (own.map (·.2))) σ H Q) : tLc (upI G ti) (upG G is g) (upT G tt) (up G te) (own.map (·.2)) σ H Q := by
  generalize hvs : own.map (·.2) = vs at h hsub ⊢
  obtain ⟨px, Z, s, Q3, fm, h, k⟩ := h
  unfold tLc3 at h
  refine ⟨px, Z, s, _, fm, h, fun ts s1 hf J Z1 H1 e1 f1 w D nD => ?_⟩
  obtain ⟨f1D, hpD, hnD⟩ := f1.mute (o := .lst []) nD
  have fW := (f1D.wipe vs).lay (o := .lst []) hpD (fun i t e q => hnD i t (by
      by_cases hi : i ∈ vs
      · exfalso
        have := L2.wipe_some q
        exact this.2 hi
      · rw [wipe3_out hi] at e
        exact e) (L2.wipe_some q).1) upd_same
  let Pv : Nat → Hp → Prop := fun i H => ∃ Z' s' acc va, Same Z1 Z' ∧ Fm G (upd px D (.lst va)) Z' H (L2.wipe σ vs) (wipe3 s' vs) ∧ RpL G.M Z' acc va ∧ acc.length ≤ i ∧ lcW g tt te vs (fun acc s2 => Q3 (.lst acc) (back3 s1 s2 vs)) (ts.drop i) acc s'
  have hd0 : Pv 0 (upd H1 D (.lst [])) := ⟨Z1, s1, [], [], fun _ _ q => q, fW, .nil, Nat.zero_le _, by rw [List.drop_zero]; exact hf⟩
  refine ⟨fun i m H => m = ts.length - i ∧ i ≤ ts.length ∧ Pv i H, ⟨_, rfl, Nat.zero_le _, hd0⟩, ?_⟩
  rintro i m H ⟨rfl, hil, Z', s', acc, va, e', f', ra, hl, hf'⟩
  by_cases hlt : i < ts.length
  · refine .inr ⟨w.goes i H hlt (e'.trans f'.le), Pv (i + 1), fun H2 q => ⟨ts.length - (i + 1), by omega, rfl, hlt, q⟩, fun x H' y => ?_⟩
    obtain ⟨Z2, t, ht, gw, rr⟩ := w.yields i H x H' Z' hlt e' f'.le y
    rw [drop_at ht] at hf'
    have e2 := e'.trans gw.zz
    refine ⟨_, Z2, _, t, _, f'.grow gw, rr, hf', fun s2 h2 σ2 f2 o2 => ?_⟩
    have ow : L2.wipe σ2 vs = L2.wipe σ vs := wipe_only ⟨o2.1, fun j hj => o2.2 j fun z => hj (hsub j z)⟩
    refine ⟨ow, _, Z2, s2, _, f2, h2, fun b s3 h3 Z3 H3 e3 f3 => ?_⟩
    cases b with
    | true =>
      rw [if_pos rfl]
      refine ⟨_, Z3, s3, _, f3, h3, fun yt s4 h4 yv Z4 H4 e4 f4 r4 => ?_⟩
      have hn4 := f4.px D _ upd_same
      refine ⟨va, hn4.1, by rw [← ra.len]; exact Nat.lt_of_lt_of_le (Nat.lt_of_le_of_lt hl hlt) w.few, Z4, s4, acc ++ [yt], va ++ [yv], e2.trans (e3.trans e4), ?_, ?_, by rw [List.length_append]; show acc.length + 1 ≤ i + 1; omega, h4⟩
      · have f5 := (f4.wipe vs).relay (o' := .lst (va ++ [yv])) hpD.2.2.1
        rw [ow] at f5
        exact f5
      · exact (ra.mono (gw.zz.trans (e3.trans e4))).app (.cons r4 .nil)
    | false =>
      rw [if_neg Bool.false_ne_true]
      have f5 := f3.wipe vs
      rw [ow] at f5
      exact ⟨Z3, s3, acc, va, e2.trans e3, f5, ra.mono (gw.zz.trans e3), Nat.le_succ_of_le hl, h3⟩
  · have e : i = ts.length := by omega
    subst e
    rw [List.drop_length] at hf'
    refine .inl ⟨w.stops H (e'.trans f'.le), ?_⟩
    obtain ⟨f0, hp, hno, ha⟩ := f'.unlay hpD.2.2.1
    have fb : Fm G px Z' H σ (back3 s1 s' vs) := f1.back e' f0
    refine k (.lst acc) _ hf' D Z' H (e1.trans e') fb hp (fun j t e q => ?_) ⟨va, ha, Nat.le_trans hl w.few, ra⟩
    rcases back3_at e with ⟨h1, h2⟩ | ⟨_, h2⟩
    · exact hno j t (by rw [wipe3_out h1]; exact h2) (by rw [L2.wipe_out h1]; exact q)
    · rcases h2 with h2 | ⟨_, h2, _⟩ <;> cases h2
theorem qts_nil : PTs X [] (upT G tYes3) := ⟨fun pins s σ H Q I ⟨px, Z, s3, Q3, fm, h, k⟩ => pts_nil.run pins s σ H Q I (k true s3 h Z H (fun _ _ q => q) fm)⟩
theorem qts_one {c : Expr} {t : TT3} (h : PT X c (upT G t)) : PTs X [c] (upT G t) := pts_one h
theorem qf_lc (hsub : ∀ i ∈ is, i ∈ own.map (·.2)) (hc : X.calm = true) (hN : X.N.Nodup) (hi : PI X tg iter (upI G ti)) (ok : BlkOk X.N X.env.scope scope own)
    (hg : ∀ (s : Shared) (H : Hp) (C : Addr) (cl : List (Str × Addr)) (fp : List Addr), PG (X.blk s H scope (compEnvC scope cl C X.env) fp) tg (upG G is g)) (ht : ∀ (s : Shared) (H : Hp) (C : Addr) (cl : List (Str × Addr)) (fp : List Addr), PTs (X.blk s H scope (compEnvC scope cl C X.env) fp) ifs (upT G tt))
    (he : ∀ (s : Shared) (H : Hp) (C : Addr) (cl : List (Str × Addr)) (fp : List Addr), PE (X.blk s H scope (compEnvC scope cl C X.env) fp) elt (up G te)) (hs : ∀ x, foldedSetIterable iter X.env x = pure x := by intro _; rfl) :
    PE X (.ListComp elt [⟨tg, iter, ifs, 0⟩] scope pos) (upF G (tLc3 ti g tt te (own.map (·.2)))) := PE.imp (pe_lc hc hN hi ok hg ht he hs) fun _ _ _ h => up_lc hsub h
end
end G69
namespace G69
open PySem PySem.Spec PyProof.Rows L2
/-! ### statements over trees -/
def sNx : TS3 := fun D s => D.nx s
def sBk : TS3 := fun D s => D.bk s
def sCt : TS3 := fun D s => D.ct s
def sSeq (t u : TS3) : TS3 := fun D s => t { D with nx := u D } s
def sIf (c : TT3) (t u : TS3) : TS3 := fun D s => c s fun b s1 => If3 b (t D s1) (u D s1)
def sRet (te : TE3) : TS3 := fun D s => te s fun t _ => D.rt t
def sRetN : TS3 := fun D _ => D.rt .non
def sExp (te : TE3) : TS3 := fun D s => te s fun _ s1 => D.nx s1
def sAsg (te : TE3) (g : TG3) : TS3 := fun D s => te s fun t s1 => g t s1 D.nx
def sOwn (i : Nat) (te : TE3) : TS3 := fun D s => te s fun t s1 => match s1[i]? with
  | some _ => D.nx (s1.set i (.ow t))
  | none => False
def sNo : TS3 := fun _ _ => False
def whW (c : TT3) (tb : TS3) (D : Ends3) : Nat → S3 → Prop
  | 0, _ => False
  | n + 1, s => c s fun b s1 => If3 b (tb { D with nx := whW c tb D n, ct := whW c tb D n, bk := D.nx } s1) (D.nx s1)
def sWh (c : TT3) (tb : TS3) : TS3 := fun D s => ∃ n, whW c tb D n s
def sPar (i j : Nat) (ta : TA3) : TS3 := fun D s => ta s fun ts s1 => match ts with
  | [t, u] => gN i t s1 fun s2 => gN j u s2 D.nx
  | _ => False
def sApp (i : Nat) (te : TE3) : TS3 := fun D s => match s[i]? with
  | some (.ow (.lst _)) => te s fun y s1 => (match s1[i]? with
    | some (.ow (.lst ts)) => ts.length ≤ 1000000 ∧ D.nx (s1.set i (.ow (.lst (ts ++ [y]))))
    | _ => False)
  | _ => False
def tPopAt (i : Nat) (te : TE3) : TE3 := fun s Q => match s[i]? with
  | some (.ow (.lst _)) => te s fun y s1 => (match y, s1[i]? with
    | .int j, some (.ow (.lst ts)) => ∃ k t, (-(2 ^ 63) ≤ j ∧ j < 2 ^ 63 ∧ seqIndex? j ts.length = some k ∧ ts[k]? = some t) ∧ Q t (s1.set i (.ow (.lst (ts.eraseIdx k))))
    | _, _ => False)
  | _ => False
section
variable {X : Cx} {G : Gh} {st : Stmt} {rest a b : List Stmt} {e c : Expr} {es : List Expr} {te : TE3} {tt : TT3} {t u : TS3} {pos pos' : Pos}
theorem qs_nil : PSs X [] (upS G sNx) := PSs.imp pss_nil fun D σ H ⟨px, Z, s, D3, fm, h, k⟩ => k.nx s h σ Z H (fun _ _ q => q) fm
theorem qs_one (h : PS X st (upS G t)) : PSs X [st] (upS G t) := pss_one h
theorem qs_cons (h1 : PS X st (upS G t)) (h2 : PSs X rest (upS G u)) : PSs X (st :: rest) (upS G (sSeq t u)) :=
  PSs.imp (pss_cons h1 h2) fun D σ H ⟨px, Z, s, D3, fm, h, k⟩ => ⟨px, Z, s, _, fm, h, ⟨fun s' h' σ' Z' H' e' f' => ⟨px, Z', s', D3, f', h', k.mono e'⟩, k.rt, k.bk, k.ct⟩⟩
theorem q_pass : PS X (.Pass pos) (upS G sNx) := PS.imp ps_pass fun D σ H ⟨px, Z, s, D3, fm, h, k⟩ => k.nx s h σ Z H (fun _ _ q => q) fm
theorem q_break : PS X (.Break pos) (upS G sBk) := PS.imp ps_break fun D σ H ⟨px, Z, s, D3, fm, h, k⟩ => k.bk s h σ Z H (fun _ _ q => q) fm
theorem q_cont : PS X (.Continue pos) (upS G sCt) := PS.imp ps_continue fun D σ H ⟨px, Z, s, D3, fm, h, k⟩ => k.ct s h σ Z H (fun _ _ q => q) fm
theorem q_never : PS X st (upS G sNo) := ⟨fun _ _ _ _ _ _ ⟨_, _, _, _, _, h, _⟩ => h.elim⟩
theorem q_if (hc : PT X c (upT G tt)) (ha : PSs X a (upS G t)) (hb : PSs X b (upS G u)) : PS X (.If c a b pos) (upS G (sIf tt t u)) :=
  PS.imp (ps_if hc ha hb) fun D σ H ⟨px, Z, s, D3, fm, h, k⟩ => ⟨px, Z, s, _, fm, h, fun d s1 hd Z1 H1 e1 f1 => by
    cases d with
    | true => rw [if_pos rfl]; exact ⟨px, Z1, s1, D3, f1, hd, k.mono e1⟩
    | false => rw [if_neg Bool.false_ne_true]; exact ⟨px, Z1, s1, D3, f1, hd, k.mono e1⟩⟩
theorem q_ret (he : PE X e (up G te)) : PS X (.Return (some e) pos) (upS G (sRet te)) :=
  PS.imp (ps_ret he) fun D σ H ⟨px, Z, s, D3, fm, h, k⟩ => ⟨px, Z, s, _, fm, h, fun t s1 ht v Z1 H1 e1 f1 r1 => k.rt t ht v Z1 H1 e1 f1.toCore r1⟩
theorem q_retN : PS X (.Return none pos) (upS G sRetN) := PS.imp ps_retN fun D σ H ⟨px, Z, s, D3, fm, h, k⟩ => k.rt .non h .non Z H (fun _ _ q => q) fm.toCore .non
theorem q_exp (he : PE X e (up G te)) (hs : swapsWith e none pos.line X.env = pure false := by rfl) : PS X (.Expr e pos) (upS G (sExp te)) :=
  PS.imp (ps_expr he hs) fun D σ H ⟨px, Z, s, D3, fm, h, k⟩ => ⟨px, Z, s, _, fm, h, fun t s1 ht v Z1 H1 e1 f1 r1 => k.nx s1 ht σ Z1 H1 e1 f1⟩
theorem q_asg {tg : Expr} {is : List Nat} {g : TG3} (he : PE X e (up G te)) (hg : PG X tg (upG G is g)) (hs : swapsWithSole [tg] e pos.line X.env = pure false := by rfl) (hw : swappedStores [tg] e X.env = pure none := by rfl)
    (h1 : (assignEach [tg] X.env).map (·.2) = [assign tg X.env] := by rfl) : PS X (.Assign [tg] e pos) (upS G (sAsg te g)) :=
  PS.imp (ps_asg he hg hs hw h1) fun D σ H ⟨px, Z, s, D3, fm, h, k⟩ => ⟨px, Z, s, _, fm, h, fun t s1 ht v Z1 H1 e1 f1 r1 => ⟨px, Z1, s1, t, _, f1, r1, ht, fun s2 h2 σ2 f2 _ => k.nx s2 h2 σ2 Z1 H1 e1 f2⟩⟩
theorem q_set {i : Nat} {x : Str} (hN : X.N.Nodup) (hi : X.N[i]? = some x) (hx : Loc X.env.scope x) (he : PE X e (up G te)) (hs : swapsWith e (some (.Name x pos')) pos.line X.env = pure false := by rfl) (hf : X.fn x = true ∨ X.env.scope.names.lookup x = some .local := by first | exact .inl rfl | exact .inr rfl | assumption) :
    PS X (.Assign [.Name x pos'] e pos) (upS G (sAsg te (gN i))) :=
  PS.imp (ps_set hN hi hx he hs hf) fun D σ H ⟨px, Z, s, D3, fm, h, k⟩ => ⟨px, Z, s, _, fm, h, fun t s1 ht v Z1 H1 e1 f1 r1 => by
    unfold gN at ht
    split at ht
    · rename_i y ey
      exact k.nx _ ht _ Z1 H1 e1 (f1.setSh (List.getElem?_eq_some_iff.mp ey).1 r1)
    · exact ht.elim⟩
theorem q_own {i : Nat} {x : Str} (hN : X.N.Nodup) (hi : X.N[i]? = some x) (hx : Loc X.env.scope x) (he : PE X e (upF G te)) (hs : swapsWith e (some (.Name x pos')) pos.line X.env = pure false := by rfl) (hf : X.fn x = true ∨ X.env.scope.names.lookup x = some .local := by first | exact .inl rfl | exact .inr rfl | assumption) :
    PS X (.Assign [.Name x pos'] e pos) (upS G (sOwn i te)) :=
  PS.imp (ps_set hN hi hx he hs hf) fun D σ H ⟨px, Z, s, D3, fm, h, k⟩ => ⟨px, Z, s, _, fm, h, fun t s1 ht a Z1 H1 e1 f1 hp hn ow => by
    split at ht
    · rename_i y ey
      exact k.nx _ ht _ Z1 H1 e1 (f1.setOw (List.getElem?_eq_some_iff.mp ey).1 hp hn ow)
    · exact ht.elim⟩
theorem q_par {i j : Nat} {x y : Str} {e1 e2 : Expr} {ta : TA3} {px' py pt : Pos} {kt k2 : Nat} {pt2 : Pos} (hc : X.calm = true) (hN : X.N.Nodup) (hi : X.N[i]? = some x) (hj : X.N[j]? = some y) (hij : i ≠ j)
    (hx : X.env.scope.names.lookup x = some .local) (hy : X.env.scope.names.lookup y = some .local) (ha : PA X [e1, e2] (upA G ta))
    (hw : swappedStores [.Tuple [.Name x px', .Name y py] kt pt] (.Tuple [e1, e2] k2 pt2) X.env = pure (some [x, y])) :
    PS X (.Assign [.Tuple [.Name x px', .Name y py] kt pt] (.Tuple [e1, e2] k2 pt2) pos) (upS G (sPar i j ta)) :=
  PS.imp (ps_par hc hN hi hj hij hx hy ha hw) fun D σ H ⟨px, Z, s, D3, fm, h, k⟩ => ⟨px, Z, s, _, fm, h, fun ts s1 ht vs Z1 H1 e1 f1 r1 => by
    split at ht
    · cases r1 with
      | cons r rr =>
        cases rr with
        | cons r' rr =>
          cases rr
          refine ⟨_, _, rfl, ?_⟩
          unfold gN at ht
          split at ht
          · rename_i y1 ey1
            split at ht
            · rename_i y2 ey2
              exact k.nx _ ht _ Z1 H1 e1 ((f1.setSh (List.getElem?_eq_some_iff.mp ey1).1 r).setSh (List.getElem?_eq_some_iff.mp ey2).1 r')
            · exact ht.elim
          · exact ht.elim
    · exact ht.elim⟩
theorem q_while (hp : PassesOwn (model X.prog X.w) X.A X.env X.xe) (hc : PT X c (upT G tt)) (hb : PSs X a (upS G t)) : PS X (.While c a [] pos) (upS G (sWh tt t)) :=
  PS.imp (ps_while hp hc hb) fun D σ H ⟨px, Z, s, D3, fm, ⟨n, h⟩, k⟩ => by
    refine ⟨fun m σ H => ∃ Z' s', Same Z Z' ∧ Fm G px Z' H σ s' ∧ whW tt t D3 m s', ⟨n, Z, s, fun _ _ q => q, fm, h⟩, ?_⟩
    rintro m σ H ⟨Z', s', e', f', h'⟩
    cases m with
    | zero => exact h'.elim
    | succ m =>
      refine ⟨px, Z', s', _, f', h', fun d s1 hd Z1 H1 e1 f1 => ?_⟩
      have e2 := e'.trans e1
      cases d with
      | true =>
        refine iteT ⟨fun σ H => ∃ Z' s', Same Z Z' ∧ Fm G px Z' H σ s' ∧ whW tt t D3 m s', fun σ2 H2 q => ⟨m, Nat.lt_succ_self m, q⟩, px, Z1, s1, _, f1, hd, ?_⟩
        exact ⟨fun s3 h3 σ3 Z3 H3 e3 f3 => ⟨Z3, s3, e2.trans e3, f3, h3⟩, fun t h3 v Z3 H3 e3 => k.rt t h3 v Z3 H3 (e2.trans e3), fun s3 h3 σ3 Z3 H3 e3 f3 => k.nx s3 h3 σ3 Z3 H3 (e2.trans e3) f3, fun s3 h3 σ3 Z3 H3 e3 f3 => ⟨Z3, s3, e2.trans e3, f3, h3⟩⟩
      | false =>
        exact iteF (k.nx s1 hd σ Z1 H1 e2 f1)
theorem Fm.ownL {G : Gh} {px Z H : Hp} {σ : L2.St} {s : S3} (f : Fm G px Z H σ s) {i : Nat} {ts : List T} (e : s[i]? = some (.ow (.lst ts))) : ∃ a vs, σ[i]? = some (some (.ref a)) ∧ H a = some (.lst vs) ∧ ts.length ≤ sizeLine ∧ RpL G.M Z ts vs := by
  obtain ⟨a, h1, h2, vs, h3, h4, h5⟩ := f.ow i _ e
  exact ⟨a, vs, h1, h3, h4, h5⟩
theorem q_app (i : Nat) {x : Str} {p1 apos cpos : Pos} (he : PE X e (up G te)) (hN : X.N[i]? = some x := by rfl) (hv : Vis X.env.scope x := by first | exact Or.inl rfl | exact Or.inr (Or.inl rfl) | exact Or.inr (Or.inr rfl)) (hd : (x == ("__debug__" : Str)) = false := by decide)
    (hcd : (x == ("__classdict__" : Str)) = false := by decide)
    (hbase : attributeBase (.Name x p1) "append" X.env (eval (.Name x p1) X.env) = eval (.Name x p1) X.env := by rfl)
    (hfew : ((backTo cpos (starEach [e] X.env)).all (fun x => !x.1) && (backToKw cpos (keywordEach [] X.env)).all (fun x => x.1.isSome) && decide ([e].length + ([] : List Keyword).length + (if ([] : List Keyword).isEmpty then 0 else 1) < 30)) = true := by rfl)
    (hline : (apos.endLine == cpos.line) = true := by rfl) (hs : starEach [e] X.env = (false, eval e X.env) :: starEach [] X.env := by rfl) (hplain : (backTo cpos (starEach [] X.env)).any (·.1) = false := by rfl)
    (hsw : swapsWith (.Call (.Attribute (.Name x p1) "append" apos) [e] [] cpos) none pos.line X.env = pure false := by rfl) :
    PS X (.Expr (.Call (.Attribute (.Name x p1) "append" apos) [e] [] cpos) pos) (upS G (sApp i te)) :=
  PS.imp (ps_expr (pe_bm PySem.F.plainAttrs_list PySem.F.slot_list_append PySem.F.type_list_append mt_append (pv i hN hv hd hcd) (pa_cons he pa_nil hs) hbase hfew hline hs hplain) hsw) fun D σ H ⟨px, Z, s, D3, fm, h, k⟩ => by
    unfold sApp at h
    split at h
    · rename_i ts0 e0
      obtain ⟨a, vs, h1, h2, h3, h4⟩ := fm.ownL e0
      refine ⟨_, h1, .inl ⟨rfl, _, .inl (.inl h2)⟩, px, Z, s, _, fm, h, fun y s1 hy v Z1 H1 e1 f1 r1 => ?_⟩
      split at hy
      · rename_i ts e2
        obtain ⟨hsz, hy⟩ := hy
        obtain ⟨a', vs', g1, g2, g3, g4⟩ := f1.ownL e2
        rw [h1] at g1
        cases g1
        refine ⟨a, vs', v, rfl, rfl, g2, by rw [← g4.len]; exact Nat.lt_of_le_of_lt hsz (by decide), ?_⟩
        refine k.nx _ hy σ Z1 _ e1 (f1.put e2 h1 ⟨_, upd_same, ?_, g4.app (.cons r1 .nil)⟩)
        rw [List.length_append]
        exact Nat.lt_of_le_of_lt hsz (by decide)
      · exact hy.elim
    · exact h.elim
theorem q_popAt (i : Nat) {x : Str} {p1 apos cpos : Pos} (he : PE X e (up G te)) (hN : X.N[i]? = some x := by rfl) (hv : Vis X.env.scope x := by first | exact Or.inl rfl | exact Or.inr (Or.inl rfl) | exact Or.inr (Or.inr rfl)) (hd : (x == ("__debug__" : Str)) = false := by decide)
    (hcd : (x == ("__classdict__" : Str)) = false := by decide)
    (hbase : attributeBase (.Name x p1) "pop" X.env (eval (.Name x p1) X.env) = eval (.Name x p1) X.env := by rfl)
    (hfew : ((backTo cpos (starEach [e] X.env)).all (fun x => !x.1) && (backToKw cpos (keywordEach [] X.env)).all (fun x => x.1.isSome) && decide ([e].length + ([] : List Keyword).length + (if ([] : List Keyword).isEmpty then 0 else 1) < 30)) = true := by rfl)
    (hline : (apos.endLine == cpos.line) = true := by rfl) (hs : starEach [e] X.env = (false, eval e X.env) :: starEach [] X.env := by rfl) (hplain : (backTo cpos (starEach [] X.env)).any (·.1) = false := by rfl) :
    PE X (.Call (.Attribute (.Name x p1) "pop" apos) [e] [] cpos) (up G (tPopAt i te)) :=
  PE.imp (pe_bm PySem.F.plainAttrs_list PySem.F.slot_list_pop PySem.F.type_list_pop mt_popAt (pv i hN hv hd hcd) (pa_cons he pa_nil hs) hbase hfew hline hs hplain) fun σ H Q ⟨px, Z, s, Q3, fm, h, k⟩ => by
    unfold tPopAt at h
    split at h
    · rename_i ts0 e0
      obtain ⟨a, vs, h1, h2, h3, h4⟩ := fm.ownL e0
      refine ⟨_, h1, .inl ⟨rfl, _, .inl (.inl h2)⟩, px, Z, s, _, fm, h, fun y s1 hy v Z1 H1 e1 f1 r1 => ?_⟩
      split at hy
      · rename_i j ts e2
        obtain ⟨kk, t, ⟨c1, c2, c3, c4⟩, hy⟩ := hy
        obtain ⟨a', vs', g1, g2, g3, g4⟩ := f1.ownL e2
        rw [h1] at g1
        cases g1
        cases r1
        obtain ⟨w, w1, w2⟩ := g4.get c4
        refine ⟨a, vs', j, kk, w, rfl, rfl, g2, c1, c2, by rw [← g4.len]; exact c3, w1, ?_⟩
        refine k _ _ hy w Z1 _ e1 (f1.put e2 h1 ⟨_, upd_same, ?_, g4.erase kk⟩) w2
        rw [List.length_eraseIdx]
        split <;> omega
      · exact hy.elim
    · exact h.elim
end
/-! name = [..] -/
section
variable {X : Cx} {G : Gh} {elt tg iter : Expr} {ifs : List Expr} {scope : Scope} {own : List (Str × Nat)} {pos spos py : Pos} {ti : TI3} {g : TG3} {tt : TT3} {te : TE3} {is : List Nat} {i : Nat} {y : Str}
theorem q_ownLc (hsub : ∀ i ∈ is, i ∈ own.map (·.2)) (hc : X.calm = true) (hN : X.N.Nodup) (hy : X.N[i]? = some y) (hyl : X.env.scope.names.lookup y = some .local)
    (hsw : swapsWith (.ListComp elt [⟨tg, iter, ifs, 0⟩] scope pos) (some (.Name y py)) spos.line X.env = pure true) (hi : PI X tg iter (upI G ti)) (ok : BlkOk X.N X.env.scope scope own)
    (hg : ∀ (s : Shared) (H : Hp) (C : Addr) (cl : List (Str × Addr)) (fp : List Addr), PG (X.blk s H scope (compEnvC scope cl C X.env) fp) tg (upG G is g)) (ht : ∀ (s : Shared) (H : Hp) (C : Addr) (cl : List (Str × Addr)) (fp : List Addr), PTs (X.blk s H scope (compEnvC scope cl C X.env) fp) ifs (upT G tt))
    (he : ∀ (s : Shared) (H : Hp) (C : Addr) (cl : List (Str × Addr)) (fp : List Addr), PE (X.blk s H scope (compEnvC scope cl C X.env) fp) elt (up G te)) (hs : ∀ x, foldedSetIterable iter X.env x = pure x := by intro _; rfl) :
    PS X (.Assign [.Name y py] (.ListComp elt [⟨tg, iter, ifs, 0⟩] scope pos) spos) (upS G (sOwn i (tLc3 ti g tt te (own.map (·.2))))) :=
  PS.imp (ps_setLc hc hN hy hyl hsw hi ok hg ht he hs) fun D σ H ⟨px, Z, s, D3, fm, h, k⟩ => up_lc (σ := σ) hsub ⟨px, Z, s, _, fm, h, fun t s1 ht a Z1 H1 e1 f1 hp hn ow => by
    split at ht
    · rename_i y ey
      exact k.nx _ ht _ Z1 H1 e1 (f1.setOw (List.getElem?_eq_some_iff.mp ey).1 hp hn ow)
    · exact ht.elim⟩
theorem q_setLc (hsub : ∀ i ∈ is, i ∈ own.map (·.2)) (hc : X.calm = true) (hN : X.N.Nodup) (hy : X.N[i]? = some y) (hyl : X.env.scope.names.lookup y = some .local)
    (hsw : swapsWith (.ListComp elt [⟨tg, iter, ifs, 0⟩] scope pos) (some (.Name y py)) spos.line X.env = pure true) (hi : PI X tg iter (upI G ti)) (ok : BlkOk X.N X.env.scope scope own)
    (hg : ∀ (s : Shared) (H : Hp) (C : Addr) (cl : List (Str × Addr)) (fp : List Addr), PG (X.blk s H scope (compEnvC scope cl C X.env) fp) tg (upG G is g)) (ht : ∀ (s : Shared) (H : Hp) (C : Addr) (cl : List (Str × Addr)) (fp : List Addr), PTs (X.blk s H scope (compEnvC scope cl C X.env) fp) ifs (upT G tt))
    (he : ∀ (s : Shared) (H : Hp) (C : Addr) (cl : List (Str × Addr)) (fp : List Addr), PE (X.blk s H scope (compEnvC scope cl C X.env) fp) elt (up G te)) (hs : ∀ x, foldedSetIterable iter X.env x = pure x := by intro _; rfl) :
    PS X (.Assign [.Name y py] (.ListComp elt [⟨tg, iter, ifs, 0⟩] scope pos) spos) (upS G (sAsg (tLc3 ti g tt te (own.map (·.2))) (gN i))) :=
  PS.imp (ps_setLc hc hN hy hyl hsw hi ok hg ht he hs) fun D σ H ⟨px, Z, s, D3, fm, h, k⟩ => up_lc (σ := σ) hsub ⟨px, Z, s, _, fm, h, fun t s1 ht a Z1 H1 e1 f1 hp hn ow => by
    obtain ⟨o, ho⟩ := ow.at
    have f2 := f1.freeze hp hn ho
    unfold gN at ht
    split at ht
    · rename_i y ey
      exact k.nx _ ht _ _ H1 (e1.trans (Same.new hp.1)) (f2.setSh (List.getElem?_eq_some_iff.mp ey).1 (ow.rp (Same.new hp.1) ho upd_same))
    · exact ht.elim⟩
end
end G69
namespace G69
open PySem PySem.Spec PyProof.Rows L2
/-! ### defs over trees -/
theorem none_of_same {H H' : Hp} {a : Addr} (e : Same H H') (h : H' a = none) : H a = none := by
  cases q : H a with
  | none => rfl
  | some o => rw [e a o q] at h; cases h
theorem some_ne {α : Type} {x : Option α} {y : α} (h : x = some y) : x ≠ none := by rw [h]; intro z; cases z
section
variable {G : Gh} {px Z H : Hp} {σ : L2.St} {s : S3}
/-- behind a callee that ran over Hc, Zc -/
theorem Fm.call (f : Fm G px Z H σ s) {Hc Zc Z' H' : Hp} (c : Core ⟨G.M, Hc, Zc, 0⟩ Z' H') (h1 : Same H Hc) (h2 : Same Z Zc) (h3 : ∀ a, Z a = none → Zc a ≠ none → H a = none) : Fm G px Z' H' σ s := by
  have zz : Same Z Z' := h2.trans c.z0
  have fresh : ∀ a o, Z a = none → H a = some o → Z' a = none := fun a o hz ho => by
    cases e : Z' a with
    | none => rfl
    | some u =>
      cases e2 : Zc a with
      | some w => exact absurd (h3 a hz (some_ne e2)) (some_ne ho)
      | none => exact absurd (c.nw a e2 (some_ne e)) (some_ne (h1 a o ho))
  have keep : ∀ a o, offD G.M.D a → H a = some o → H' a = some o := fun a o hd ho => c.kp a o (h1 a o ho) hd.not
  refine ⟨⟨c.le, f.z0.trans zz, fun a g1 g2 => ?_, fun a o e n => c.kp a o (h1 a o (f.kp a o e n)) n, c.dr⟩, f.len, fun i t e => ?_, fun i t e => ?_, f.inj, fun a o e => ?_⟩
  · cases e : Z a with
    | some o => exact f.nw a g1 (some_ne e)
    | none =>
      have hn : H a = none := by
        cases e2 : Zc a with
        | some w => exact h3 a e (some_ne e2)
        | none => exact none_of_same h1 (c.nw a e2 g2)
      exact f.kp.back (f.dr.offN hn).not hn
  · obtain ⟨v, q1, q2⟩ := f.sh i t e
    exact ⟨v, q1, q2.mono zz⟩
  · obtain ⟨a, q1, q2, q3⟩ := f.ow i t e
    obtain ⟨o, ho⟩ := q3.at
    exact ⟨a, q1, ⟨fresh a o q2.1 ho, q2.2⟩, q3.mono zz fun u hu => keep a u q2.2.2.2 hu⟩
  · obtain ⟨q1, q2, q3, q4⟩ := f.px a o e
    exact ⟨keep a o q4 q1, fresh a o q2 q1, q3, q4⟩
end
/-- an error as it is raised -/
def Xr (M : Mo) (H Z' H' : Hp) (c : Str) (ns : List Str) (fs : List T) (cls : Value) (od : Option Addr) : Prop :=
  ∃ C, M.mg c = some (.ref C) ∧ cls = .ref C ∧ ((ns = [] ∧ od = none) ∨ ∃ d vs, od = some d ∧ H d = none ∧ H' d = some (.xd (ns.zip vs)) ∧ RpL M Z' fs vs)
def lift (K : PySem.W.Frag) (mg : Str → Option Value) (sp : Sp3) : Sp := fun vs H Q E => ∃ D Z ts P3 E3, Same Z H ∧ DrOk D H Z ∧ RpL ⟨K, mg, D⟩ Z ts vs ∧ sp ts P3 E3 ∧
  (∀ t, P3 t → ∀ v Z' H', Core ⟨⟨K, mg, D⟩, H, Z, 0⟩ Z' H' → Rp ⟨K, mg, D⟩ Z' t v → Q v H') ∧
  (∀ c ns fs, E3 c ns fs → ∀ cls od Z' H', Core ⟨⟨K, mg, D⟩, H, Z, 0⟩ Z' H' → Xr ⟨K, mg, D⟩ H Z' H' c ns fs cls od → E cls od H')
def E03 : XK3 := fun _ _ _ => False
structure Cal3 (P : Program) (w : World) (K : PySem.W.Frag) (mg : Str → Option Value) (base : Heap) (x : Str) (ps : List Str) (k : Nat) (sp : Sp3) : Prop where
  ex : ∃ (f : Addr) (fd : FuncData), FnOk P w K mg base (L2.CX P w) k f fd ps (lift K mg sp) ∧ mg x = some (.ref f) ∧ PySem.W.keepIn K (.ref f) = true ∧ Binds K fd ps [] ∧ KBn K fd ps 0 ps (fun _ ws => ws) (fun _ zs => zs)
def tCal (sp : Sp3) (E : XK3) (ta : TA3) : TE3 := fun s Q => ta s fun ts s1 => sp ts (fun t => Q t s1) E
/-- how a body may let an error out -/
structure Lets (X : Cx) (G : Gh) (E3 : XK3) (E : XK) : Prop where
  pass : Passes (L2.CX X.prog X.w) X E
  imp : ∀ c ns fs, E3 c ns fs → ∀ cls od Z' H', Core G Z' H' → Xr G.M G.H0 Z' H' c ns fs cls od → E cls od H'
theorem lets0 {X : Cx} {G : Gh} : Lets X G E03 E0 := ⟨passL, fun _ _ _ h => h.elim⟩
theorem FnOk.to0 {P : Program} {w : World} {K : PySem.W.Frag} {mg : Str → Option Value} {base : Heap} {k : Nat} {f : Addr} {fd : FuncData} {ps : List Str} {sp : Sp} (F : FnOk P w K mg base (L2.CX P w) k f fd ps sp) :
    FnOk P w K mg base CX0 k f fd ps (fun vs H Q _ => sp vs H Q E0) :=
  ⟨fun vs H Q _ h => F.len vs H Q E0 h, fun A outer s H args us vs Q E hr he hb hv h => codeAny_mono (F.run A outer s H args us vs Q E0 hr he hb hv h) fun r s' q => by
    cases r with
    | error e =>
      obtain ⟨_, _, _, _, _, _, _, _, _, _, _, _, z⟩ := q
      exact z.elim
    | ok fl => cases fl <;> exact q⟩
theorem FnOk.of0 {P : Program} {w : World} {K : PySem.W.Frag} {mg : Str → Option Value} {base : Heap} {k : Nat} {f : Addr} {fd : FuncData} {ps : List Str} {sp : Sp} (F : FnOk P w K mg base CX0 k f fd ps sp) :
    FnOk P w K mg base (L2.CX P w) k f fd ps sp :=
  ⟨F.len, fun A outer s H args us vs Q E hr he hb hv h => codeAny_mono (F.run A outer s H args us vs Q E hr he hb hv h) fun r s' q => by
    cases r with
    | error e => exact q.elim
    | ok fl => cases fl <;> exact q⟩
section
variable {X : Cx} {G : Gh} {x : Str} {ps : List Str} {k j : Nat} {sp : Sp3} {e : Expr} {es : List Expr} {tA : TA3} {E3 : XK3} {E : XK} {p pos : Pos}
theorem lift_in (hM : G.M = ⟨X.K, X.mg, G.M.D⟩) {px Z H : Hp} {σ : L2.St} {s : S3} {Q3 : K3} {Q : VK} {ts : List T} {vs : List V} (f : Fm G px Z H σ s) (r : RpL G.M Z ts vs) (h : sp ts (fun t => Q3 t s) E3)
    (hE : ∀ c ns fs, E3 c ns fs → ∀ cls od Z' H', Core G Z' H' → Xr G.M G.H0 Z' H' c ns fs cls od → E cls od H') (k : ∀ t, Q3 t s → ∀ v Z' H', Same Z Z' → Fm G px Z' H' σ s → Rp G.M Z' t v → Q v H') : lift X.K X.mg sp vs H Q E := by
  refine ⟨G.M.D, Z, ts, _, E3, f.le, f.dr, hM ▸ r, h, fun t ht v Z' H' c rr => ?_, fun c ns fs he cls od Z' H' co xr => ?_⟩
  · rw [← hM] at c rr
    exact k t ht v Z' H' c.z0 (f.call c (fun _ _ q => q) (fun _ _ q => q) fun a h1 h2 => absurd h1 h2) rr
  · rw [← hM] at co xr
    have f2 := f.call co (fun _ _ q => q) (fun _ _ q => q) fun a h1 h2 => absurd h1 h2
    obtain ⟨C, x1, x2, x3⟩ := xr
    refine hE c ns fs he cls od Z' H' f2.toCore ⟨C, x1, x2, x3.imp (fun q => q) fun ⟨d, vs, y1, y2, y3, y4⟩ => ⟨d, vs, y1, ?_, y3, y4⟩⟩
    exact f.kp.back (f.dr.offN y2).not y2
/-- f(e, ..) -/
theorem q_calX (C : Cal3 X.prog X.w X.K X.mg X.base x ps k sp) (hM : G.M = ⟨X.K, X.mg, G.M.D⟩) (hr : Room j X.A) (hj : k ≤ j) (hg : Gl X x) (L : Lets X G E3 E) (ha : PA X (e :: es) (upA G tA))
    (hdb : (x == ("__debug__" : Str)) = false := by decide) (he : starEach (e :: es) X.env = (false, eval e X.env) :: starEach es X.env := by rfl) (hpl : (backTo pos (starEach es X.env)).any (·.1) = false := by rfl) :
    PE X (.Call (.Name x p) (e :: es) [] pos) (up G (tCal sp E3 tA)) := by
  obtain ⟨f, fd, F, g, kp, b, _⟩ := C.ex
  exact PE.imp (pe_call F (hr.mono hj) hg g kp b .nil L.pass ha hdb he hpl) fun σ H Q ⟨px, Z, s, Q3, fm, h, k⟩ => ⟨px, Z, s, _, fm, h, fun ts s1 hs vs Z1 H1 e1 f1 r1 => by
    show lift X.K X.mg sp (vs ++ []) H1 Q E
    rw [List.append_nil]
    exact lift_in hM f1 r1 hs L.imp fun t ht v Z' H' e' f' r' => k t s1 ht v Z' H' (e1.trans e') f' r'⟩
theorem q_cal0 (C : Cal3 X.prog X.w X.K X.mg X.base x ps k sp) (hM : G.M = ⟨X.K, X.mg, G.M.D⟩) (hr : Room j X.A) (hj : k ≤ j) (hg : Gl X x) (L : Lets X G E3 E) (hdb : (x == ("__debug__" : Str)) = false := by decide) :
    PE X (.Call (.Name x p) [] [] pos) (up G (tCal sp E3 aNil)) := by
  obtain ⟨f, fd, F, g, kp, b, _⟩ := C.ex
  exact PE.imp (pe_call0 F (hr.mono hj) hg g kp b .nil L.pass hdb) fun σ H Q ⟨px, Z, s, Q3, fm, h, k⟩ => lift_in (ts := []) hM fm .nil h L.imp fun t ht v Z' H' e' f' r' => k t s ht v Z' H' e' f' r'
end
/-! ### the rule for a def -/
def start3 (n : Nat) (ts : List T) : S3 := ts.map .sh ++ List.replicate (n - ts.length) .no
def spOf (n m : Nat) (W : XK3 → TS3) : Sp3 := fun ts Q E => match lenIs ts m with
  | true => W E { nx := fun _ => Q .non, rt := Q } (start3 n ts)
  | false => False
theorem fm_start {M : Mo} {Z H : Hp} {ts : List T} {vs : List V} (N : List Str) (l : Same Z H) (d : DrOk M.D H Z) (r : RpL M Z ts vs) : Fm ⟨M, H, Z, 0⟩ (fun _ => none) Z H (L2.start N vs) (start3 N.length ts) where
  le := l
  z0 := fun _ _ q => q
  nw := fun a h1 h2 => absurd h1 h2
  kp := Kp.rfl'
  dr := d
  len := by
    unfold L2.start start3
    rw [List.length_append, List.length_append, List.length_map, List.length_map, List.length_replicate, List.length_replicate, r.len]
  sh := fun i t e => by
    unfold start3 at e
    unfold L2.start
    by_cases hi : i < ts.length
    · rw [List.getElem?_append_left (by rw [List.length_map]; exact hi), List.getElem?_map] at e
      rw [List.getElem?_append_left (by rw [List.length_map, ← r.len]; exact hi), List.getElem?_map]
      cases q : ts[i]? with
      | none => rw [q] at e; cases e
      | some t' =>
        rw [q] at e
        cases e
        obtain ⟨v, h1, h2⟩ := r.get q
        exact ⟨v, by rw [h1]; rfl, h2⟩
    · rw [List.getElem?_append_right (by rw [List.length_map]; omega)] at e
      have := List.getElem?_replicate (a := Sl.no) (n := N.length - ts.length) (i := i - (List.map Sl.sh ts).length)
      rw [this] at e
      split at e <;> cases e
  ow := fun i t e => by
    unfold start3 at e
    by_cases hi : i < ts.length
    · rw [List.getElem?_append_left (by rw [List.length_map]; exact hi), List.getElem?_map] at e
      cases q : ts[i]? with
      | none => rw [q] at e; cases e
      | some t' => rw [q] at e; cases e
    · rw [List.getElem?_append_right (by rw [List.length_map]; omega)] at e
      have := List.getElem?_replicate (a := Sl.no) (n := N.length - ts.length) (i := i - (List.map Sl.sh ts).length)
      rw [this] at e
      split at e <;> cases e
  inj := fun i j a t u e => by
    unfold start3 at e
    by_cases hi : i < ts.length
    · rw [List.getElem?_append_left (by rw [List.length_map]; exact hi), List.getElem?_map] at e
      cases q : ts[i]? with
      | none => rw [q] at e; cases e
      | some t' => rw [q] at e; cases e
    · rw [List.getElem?_append_right (by rw [List.length_map]; omega)] at e
      have := List.getElem?_replicate (a := Sl.no) (n := N.length - ts.length) (i := i - (List.map Sl.sh ts).length)
      rw [this] at e
      split at e <;> cases e
  px := fun a o e => by cases e
section
variable {P : Program} {w : World} {K : PySem.W.Frag} {mg : Str → Option Value} {base : Heap}
theorem fn3 {x qual : Str} {st : Stmt} {f : Addr} {fd : FuncData} {N ps : List Str} {k : Nat} {W : XK3 → TS3} (F : Fun K x qual st f fd) (S : FnScope N ps (defScope st))
    (hb : ∀ (cdv : Value) (A : Around) (outer : List Env) (s : Shared) (H : Hp) (E : XK) (G : Gh) (E3 : XK3), Room k (A.deeper (envOfC qual (defScope st) s.heap.objs.size f cdv)) → G.M = ⟨K, mg, G.M.D⟩ →
      Lets (cxOf (L2.CX P w) P w K mg base N qual (defScope st) f cdv A outer s H E) G E3 E → PSs (cxOf (L2.CX P w) P w K mg base N qual (defScope st) f cdv A outer s H E) (defBody st) (upS G (W E3))) :
    FnOk P w K mg base (L2.CX P w) (k + 1) f fd ps (lift K mg (spOf N.length ps.length W)) := by
  refine F.okX S (fun vs H Q E h => ?_) (fun cdv A outer s H vs Q E hr h => ?_)
  · obtain ⟨D, Z, ts, P3, E3, l, d, r, h, _⟩ := h
    unfold spOf at h
    split at h
    · rename_i e
      rw [← r.len]
      exact lenIs_eq e
    · exact h.elim
  · obtain ⟨D, Z, ts, P3, E3, l, d, r, h, q, qx⟩ := h
    unfold spOf at h
    split at h
    · have L : Lets (cxOf (L2.CX P w) P w K mg base N qual (defScope st) f cdv A outer s H E) ⟨⟨K, mg, D⟩, H, Z, 0⟩ E3 E :=
        ⟨passes_call (takes_of rfl rfl rfl rfl) fun _ _ _ _ h => h, qx⟩
      refine ⟨_, hb cdv A outer s H E ⟨⟨K, mg, D⟩, H, Z, 0⟩ E3 hr rfl L, _, Z, _, _, fm_start N l d r, h, ⟨fun s' h' σ' Z' H' e' f' => ?_, fun t ht v Z' H' e' c rr => q t ht v Z' H' c rr, fun s' h' => h'.elim, fun s' h' => h'.elim⟩⟩
      exact q .non h' .non Z' H' f'.toCore .non
    · exact h.elim
structure Def3 (K : PySem.W.Frag) (mg : Str → Option Value) (x : Str) (st : Stmt) (ps : List Str) : Prop where
  ex : ∃ (f : Addr) (fd : FuncData), Fun K x x st f fd ∧ mg x = some (.ref f) ∧ Binds K fd ps [] ∧ KBn K fd ps 0 ps (fun _ ws => ws) (fun _ zs => zs)
theorem cal3 {x : Str} {st : Stmt} {N ps : List Str} {k : Nat} {W : XK3 → TS3} (Df : Def3 K mg x st ps) (S : FnScope N ps (defScope st))
    (hb : ∀ (f : Addr) (cdv : Value) (A : Around) (outer : List Env) (s : Shared) (H : Hp) (E : XK) (G : Gh) (E3 : XK3), Room k (A.deeper (envOfC x (defScope st) s.heap.objs.size f cdv)) → G.M = ⟨K, mg, G.M.D⟩ →
      Lets (cxOf (L2.CX P w) P w K mg base N x (defScope st) f cdv A outer s H E) G E3 E → PSs (cxOf (L2.CX P w) P w K mg base N x (defScope st) f cdv A outer s H E) (defBody st) (upS G (W E3))) :
    Cal3 P w K mg base x ps (k + 1) (spOf N.length ps.length W) := by
  obtain ⟨f, fd, F, g, b, kb⟩ := Df.ex
  exact ⟨f, fd, fn3 F S (hb f), g, F.kp, b, kb⟩
end
end G69
namespace G69
open PySem PySem.Spec PyProof.Rows L2
/-! ### letters -/
def abc : Str := "abcdefghijklmnopqrstuvwxyz"
def isL (c : Nat) : Prop := 97 ≤ c ∧ c ≤ 122
instance (c : Nat) : Decidable (isL c) := inferInstanceAs (Decidable (97 ≤ c ∧ c ≤ 122))
theorem abc_L : ∀ c ∈ abc.cps.toList, isL c := by decide +kernel
theorem abc_len : abc.length = 26 := by decide +kernel
theorem abc_llen : abc.cps.toList.length = 26 := by decide +kernel
theorem abc_ne : abc.cps.toList ≠ [] := by decide +kernel
theorem abc_nd : abc.cps.toList.Nodup := by decide +kernel
abbrev sgs (cs : List Nat) : List V := cs.map fun c => V.str ⟨#[c]⟩
theorem sgs_snoc (cs : List Nat) (x : Nat) : sgs (cs ++ [x]) = sgs cs ++ [V.str (sg x)] := by
  show List.map _ _ = _
  rw [List.map_append]
  rfl
end G69
namespace G69
open PySem PySem.Spec PyProof.Rows L2
section
variable {P : Program} {w : World} {K : PySem.W.Frag} {mg : Str → Option Value} {base : Heap}
/-! ### _law_any_letters -/
abbrev sAnyL : Stmt := topS 46
abbrev nAnyL : List Str := ["_law_draw", "_law_many", "_law_turn"]
theorem scAnyL : FnScope nAnyL ["_law_draw", "_law_many"] (defScope sAnyL) := ⟨rfl, rfl, rfl, by decide +kernel, rfl, by decide +kernel, by decide +kernel⟩
def spAnyL : Sp := fun vs H Q _ => ∃ (d l c : Addr) (n : Nat), vs = [.ref d, .int n] ∧ Dr H d l c ∧ n ≤ 1000 ∧
  ∀ (p : Addr) (cs : List Nat) (H' : Hp), H p = none → cs.length = n → (∀ c ∈ cs, isL c) → H' p = some (.lst (sgs cs)) → Dr H' d l c → Kp [d, l] H H' → Q (.ref p) H'
theorem ok_anyL {f : Addr} {fd : FuncData} (F : Fun K "_law_any_letters" "_law_any_letters" sAnyL f fd) (CP : Cal P w K mg base "_law_pick" ["_law_draw", "_law_some"] 2 (spPick K)) (mR : mg "range" = none) :
    FnOk P w K mg base CX0 3 f fd ["_law_draw", "_law_many"] spAnyL := by
  refine F.ok scAnyL (fun vs H Q E h => ?_) (fun cdv A outer s H vs Q E hr h => ?_)
  · obtain ⟨d, l, c, n, rfl, _⟩ := h
    rfl
  · obtain ⟨d, l, c, n, rfl, D0, hn, q⟩ := h
    refine ⟨_, pss_one (ps_ret (pe_lc (own := [("_law_turn", 2)]) (g := gName 2) (tt := tYes) (by rfl) scAnyL.nd (pi_range1 (by rfl) mR (pa_cons (pv 1) pa_nil))
      (blkOk_by (own := [("_law_turn", 2)]) (N := nAnyL) (sc := defScope sAnyL) (by decide +kernel)) (fun _ _ _ _ _ => pg_name (i := 2) scAnyL.nd rfl (Or.inl rfl)) (fun _ _ _ _ _ => pts_nil)
      (fun _ _ _ _ _ => pe_cal CP hr (by decide) (by rfl) (pa_cons (pv 0) (pa_cons pe_str pa_nil))))), ?_⟩
    refine ⟨_, rfl, n, rfl, by omega, by omega, fun L hL => lc_range (lo := 0) (n := n)
      (fun i H2 => ∃ cs : List Nat, cs.length = i ∧ (∀ c ∈ cs, isL c) ∧ H2 L = some (.lst (sgs cs)) ∧ Dr H2 d l c ∧ Kp [d, l] H H2)
      ⟨[], rfl, (fun z hz => nomatch hz), upd_same, D0.new hL, Kp.new hL⟩ ?_ ?_⟩
    · rintro i H2 hi ⟨cs, hc, ha, e, D, k⟩
      have hne := D0.nes hL
      refine ⟨rfl, yes1 ?_⟩
      refine ⟨_, rfl, d, l, c, _, rfl, D, .inr (.inr ⟨abc, rfl, abc_ne, by rw [abc_len]; decide, fun j x H4 hx D4 k4 => ?_⟩)⟩
      refine ⟨_, k4 _ _ e (off2 hne), szlt (by rw [List.length_map]; omega), cs ++ [x], by rw [List.length_append, hc]; rfl, fun y hy => ?_, by rw [upd_same, ← sgs_snoc], D4.off hne, (k.trans k4).mut hL⟩
      rcases List.mem_append.mp hy with h | h
      · exact ha y h
      · rw [List.mem_singleton.mp h]
        exact abc_L x (List.mem_of_getElem? hx)
    · rintro H2 ⟨cs, hc, ha, e, D, k⟩
      exact q L cs H2 hL hc ha e D k
end
end G69
namespace G69
open PySem PySem.Spec PyProof.Rows L2
/-! ### prices -/
def swV : Option Int → V
  | none => .non
  | some i => .int i
structure PrOk (e m w : Int) (s : Option Int) : Prop where
  e0 : 1 ≤ e
  e9 : e ≤ 9
  m0 : 1 ≤ m
  m9 : m ≤ 9
  w0 : 1 ≤ w
  w9 : w ≤ 9
  s0 : ∀ i, s = some i → 1 ≤ i ∧ i ≤ 9
end G69
namespace G69
open PySem PySem.Spec PyProof.Rows L2
section
variable {P : Program} {w : World} {K : PySem.W.Frag} {mg : Str → Option Value} {base : Heap}
/-! ### _law_far_prices -/
abbrev sFar : Stmt := topS 47
abbrev nFar : List Str := ["_law_draw", "_law_some", "_law_turn"]
theorem scFar : FnScope nFar ["_law_draw"] (defScope sFar) := ⟨rfl, rfl, rfl, by decide +kernel, rfl, by decide +kernel, by decide +kernel⟩
def spFar : Sp := fun vs H Q _ => ∃ (d l c : Addr), vs = [.ref d] ∧ Dr H d l c ∧
  ∀ (p : Addr) (e m w : Int) (s : Option Int) (H' : Hp), H p = none → PrOk e m w s → H' p = some (.tup [.int e, .int m, .int w, swV s]) → Dr H' d l c → Kp [d, l] H H' → Q (.ref p) H'
theorem ok_far {f : Addr} {fd : FuncData} (F : Fun K "_law_far_prices" "_law_far_prices" sFar f fd) (CT : Cal P w K mg base "_law_take" ["_law_draw", "_law_size"] 1 spTake) (CP : Cal P w K mg base "_law_pick" ["_law_draw", "_law_some"] 2 (spPick K)) (mR : mg "range" = none) (mT : mg "tuple" = none) :
    FnOk P w K mg base CX0 3 f fd ["_law_draw"] spFar := by
  refine F.ok scFar (fun vs H Q E h => ?_) (fun cdv A outer s H vs Q E hr h => ?_)
  · obtain ⟨d, l, c, rfl, _⟩ := h
    rfl
  · obtain ⟨d, l, c, rfl, D0, q⟩ := h
    refine ⟨_, pss_cons (ps_setLc (i := 1) (own := [("_law_turn", 2)]) (g := gName 2) (tt := tYes) rfl scFar.nd rfl rfl (sw_true rfl rfl rfl (by decide +kernel)) (pi_range1 (by rfl) mR (pa_cons pe_int pa_nil))
          (blkOk_by (N := nFar) (sc := defScope sFar) (by decide +kernel)) (fun _ _ _ _ _ => pg_name (i := 2) scFar.nd rfl (Or.inl rfl)) (fun _ _ _ _ _ => pts_nil)
          (fun _ _ _ _ _ => pe_cal CP hr (by decide) (by rfl) (pa_cons (pv 0) (pa_cons (pe_lst (pa_cons pe_int (pa_cons pe_int (pa_cons pe_int (pa_cons pe_int (pa_cons pe_int
            (pa_cons (pe_op op_add pe_int (pe_cal CT hr (by decide) (by rfl) (pa_cons (pv 0) (pa_cons pe_int pa_nil)))) pa_nil))))))) pa_nil))))
      (pss_one (ps_ret (pe_op op_catT (pe_callTy call_tuple_of (by rfl) mT (by decide +kernel) (pa_cons (pv 1) pa_nil))
        (pe_tup (pa_cons (pe_cal CP hr (by decide) (by rfl) (pa_cons (pv 0) (pa_cons (pe_lst (pa_cons pe_non (pa_cons pe_int (pa_cons pe_int
            (pa_cons (pe_op op_add pe_int (pe_cal CT hr (by decide) (by rfl) (pa_cons (pv 0) (pa_cons pe_int pa_nil)))) pa_nil))))) pa_nil))) pa_nil))))), ?_⟩
    refine ⟨3, rfl, by decide, by decide, fun L hL => lc_range (lo := 0) (n := 3)
      (fun i H2 => ∃ ns : List Int, ns.length = i ∧ (∀ x ∈ ns, 1 ≤ x ∧ x ≤ 9) ∧ H2 L = some (.lst (ns.map V.int)) ∧ Dr H2 d l c ∧ Kp [d, l] H H2)
      ⟨[], rfl, (fun z hz => nomatch hz), upd_same, D0.new hL, Kp.new hL⟩ ?_ ?_⟩
    · rintro i H2 hi ⟨ns, hc, ha, e, D, k⟩
      have hne := D0.nes hL
      refine ⟨rfl, yes1 ?_⟩
      refine ⟨_, rfl, _, rfl, d, l, c, 9, rfl, D, by decide, by decide, fun r H3 r0 r1 D3 k3 => ⟨_, _, rfl, rfl, szle (by show 6 ≤ 1000000; decide), fun p1 hp1 => ?_⟩⟩
      have n1 := D3.nes hp1
      refine ⟨d, l, c, _, rfl, D3.new hp1, .inl ⟨p1, [1, 1, 2, 3, 9, 1 + r].map V.int, rfl, .inl (.inl upd_same), n1.1, n1.2.1, (by intro z; cases z), (by show 6 ≤ 1000; decide), fun j x H4 hx D4 k4 => ?_⟩⟩
      obtain ⟨y, hy, rfl⟩ := intAt hx
      have hy9 : 1 ≤ y ∧ y ≤ 9 := by
        have := List.mem_of_getElem? hy
        simp only [List.mem_cons, List.not_mem_nil, or_false] at this
        omega
      have k24 : Kp [d, l] H2 H4 := k3.trans ((Kp.new hp1).trans k4)
      refine ⟨_, k24 _ _ e (off2 hne), szlt (by rw [List.length_map]; omega), ns ++ [y], by rw [List.length_append, hc]; rfl, fun v hv => ?_, by rw [upd_same, List.map_append]; rfl, D4.off hne, (k.trans k24).mut hL⟩
      rcases List.mem_append.mp hv with h | h
      · exact ha v h
      · rw [List.mem_singleton.mp h]
        exact hy9
    · rintro H2 ⟨ns, hc, ha, e, D, k⟩
      have hne := D0.nes hL
      refine ⟨_, rfl, L, _, rfl, .inl ⟨.inl (.inl e), fun t1 ht1 => ?_⟩⟩
      have nt1 := D.nes ht1
      refine ⟨_, rfl, _, rfl, d, l, c, 9, rfl, D.new ht1, by decide, by decide, fun r H3 r0 r1 D3 k3 => ⟨_, _, rfl, rfl, szle (by show 4 ≤ 1000000; decide), fun p1 hp1 => ?_⟩⟩
      have n1 := D3.nes hp1
      refine ⟨d, l, c, _, rfl, D3.new hp1, .inl ⟨p1, [.non, .int 1, .int 2, .int (1 + r)], rfl, .inl (.inl upd_same), n1.1, n1.2.1, (by intro z; cases z), (by show 4 ≤ 1000; decide), fun j x H4 hx D4 k4 => ?_⟩⟩
      obtain ⟨sw, rfl, hsw⟩ : ∃ sw : Option Int, x = swV sw ∧ ∀ i, sw = some i → 1 ≤ i ∧ i ≤ 9 := by
        have := List.mem_of_getElem? hx
        simp only [List.mem_cons, List.not_mem_nil, or_false] at this
        rcases this with h | h | h | h
        · exact ⟨none, h, fun i z => by cases z⟩
        · exact ⟨some 1, h, fun i z => by cases z; decide⟩
        · exact ⟨some 2, h, fun i z => by cases z; decide⟩
        · exact ⟨some (1 + r), h, fun i z => by cases z; omega⟩
      refine ⟨szle (by show 1 ≤ 1000000; decide), fun t2 ht2 => ?_⟩
      have kt : Kp [d, l] (upd H2 t1 (.tup (ns.map V.int))) H4 := k3.trans ((Kp.new hp1).trans k4)
      have f1 := kt _ _ upd_same (off2 nt1)
      have f2 : (upd H4 t2 (.tup [swV sw])) t1 = some (.tup (ns.map V.int)) := by
        rw [upd_ne (ne_of_none f1 ht2)]
        exact f1
      obtain ⟨x1, x2, x3, rfl⟩ : ∃ x1 x2 x3, ns = [x1, x2, x3] := by
        match ns, hc with
        | [x1, x2, x3], _ => exact ⟨x1, x2, x3, rfl⟩
      refine ⟨t1, t2, _, _, rfl, rfl, .inl (.inl f2), .inl (.inl upd_same), (by intro z; cases z), szle (by show 4 ≤ 1000000; decide), (fun z => by cases z), fun _ p hp => ?_⟩
      have D5 := D4.new (o := .tup [swV sw]) ht2
      have k5 : Kp [d, l] H (upd H4 t2 (.tup [swV sw])) := k.trans ((Kp.new ht1).trans (kt.trans (Kp.new ht2)))
      have np := D5.nes hp
      refine q p x1 x2 x3 sw _ (k5.back (off2 np) hp) ?_ upd_same (D5.new hp) (k5.trans (Kp.new hp))
      have a1 := ha x1 (by simp)
      have a2 := ha x2 (by simp)
      have a3 := ha x3 (by simp)
      exact ⟨a1.1, a1.2, a2.1, a2.2, a3.1, a3.2, hsw⟩
end
end G69
namespace G69
open PySem PySem.Spec PyProof.Rows L2
/-! ### kinds of values -/
def kl : List String := ["NoneType", "bool", "int", "str", "list", "tuple", "dict"]
def Knd (K : PySem.W.Frag) (H : Hp) (v : V) (T : String) : Prop := TyX K H v (.type T) ∧ T ∈ kl
def isI : V → Bool
  | .int _ => true
  | _ => false
def isS : V → Bool
  | .str _ => true
  | _ => false
section
variable {P : Program} {w : World} {K : PySem.W.Frag} {mg : Str → Option Value} {base : Heap} {H : Hp}
theorem Knd.non : Knd K H .non "NoneType" := ⟨.base .non, by decide⟩
theorem Knd.bl {b : Bool} : Knd K H (.bl b) "bool" := ⟨.base (.bl b), by decide⟩
theorem Knd.int {i : Int} : Knd K H (.int i) "int" := ⟨.base (.int i), by decide⟩
theorem Knd.str {z : Str} : Knd K H (.str z) "str" := ⟨.base (.str z), by decide⟩
theorem Knd.lst {a : Addr} {xs : List V} (h : H a = some (.lst xs)) : Knd K H (.ref a) "list" := ⟨.base (.lst h), by decide⟩
theorem Knd.tup {a : Addr} {xs : List V} (h : H a = some (.tup xs)) : Knd K H (.ref a) "tuple" := ⟨.base (.tup h), by decide⟩
theorem Knd.dK {a : Addr} {xs : List (Key × V)} (h : H a = some (.dK xs)) : Knd K H (.ref a) "dict" := ⟨.base (.dK h), by decide⟩
theorem Knd.isI_eq {v : V} {T : String} (h : Knd K H v T) : isI v = decide (T = "int") := by
  obtain ⟨h, _⟩ := h
  cases h with
  | base h => cases h <;> rfl
  | _ => rfl
theorem Knd.isS_eq {v : V} {T : String} (h : Knd K H v T) : isS v = decide (T = "str") := by
  obtain ⟨h, _⟩ := h
  cases h with
  | base h => cases h <;> rfl
  | _ => rfl
theorem Knd.of_int {v : V} (h : Knd K H v "int") : ∃ i, v = .int i := by
  have e := h.isI_eq
  cases v with
  | int i => exact ⟨i, rfl⟩
  | _ => cases e
theorem Knd.of_str {v : V} (h : Knd K H v "str") : ∃ i, v = .str i := by
  have e := h.isS_eq
  cases v with
  | str i => exact ⟨i, rfl⟩
  | _ => cases e
/-! ### is_integer -/
abbrev sIsInt : Stmt := topS 13
theorem scIsInt : FnScope ["thing"] ["thing"] (defScope sIsInt) := ⟨rfl, rfl, rfl, by decide +kernel, rfl, by decide +kernel, by decide +kernel⟩
def spIsInt (K : PySem.W.Frag) : Sp := fun vs H Q _ => ∃ (v : V) (T : String), vs = [v] ∧ Knd K H v T ∧ Q (.bl (isI v)) H
theorem ok_isInt {f : Addr} {fd : FuncData} (F : Fun K "is_integer" "is_integer" sIsInt f fd) (mS : mg "isinstance" = none) (mI : mg "int" = none) (mB : mg "bool" = none) :
    FnOk P w K mg base CX0 1 f fd ["thing"] (spIsInt K) := by
  refine F.ok scIsInt (fun vs H Q E h => ?_) (fun cdv A outer s H vs Q E hr h => ?_)
  · obtain ⟨v, T, rfl, _⟩ := h
    rfl
  · obtain ⟨v, T, rfl, ht, q⟩ := h
    refine ⟨_, pss_one (ps_ret (pe_and (pe_callB call_isi (by rfl) mS (by decide +kernel) (pa_cons (pv 0) (pa_cons (pe_bltn (v := .ty "int") (by rfl) mI (by decide +kernel) rfl) pa_nil)))
      (pe_one (pe_not (pe_callB call_isi (by rfl) mS (by decide +kernel) (pa_cons (pv 0) (pa_cons (pe_bltn (v := .ty "bool") (by rfl) mB (by decide +kernel) rfl) pa_nil))))))), ?_⟩
    rw [ht.isI_eq] at q
    obtain ⟨ty, hm⟩ := ht
    simp only [kl, List.mem_cons, List.not_mem_nil, or_false] at hm
    rcases hm with rfl | rfl | rfl | rfl | rfl | rfl | rfl
    · exact ⟨_, rfl, v, _, _, _, false, rfl, .ty "int", ty, kit_ty (by decide +kernel), false, rfl, iteF q⟩
    · exact ⟨_, rfl, v, _, _, _, true, rfl, .ty "int", ty, kit_ty (by decide +kernel), true, rfl, iteT ⟨_, rfl, v, _, _, _, true, rfl, .ty "bool", ty, kit_ty (by decide +kernel), true, rfl, q⟩⟩
    · exact ⟨_, rfl, v, _, _, _, true, rfl, .ty "int", ty, kit_ty (by decide +kernel), true, rfl, iteT ⟨_, rfl, v, _, _, _, false, rfl, .ty "bool", ty, kit_ty (by decide +kernel), false, rfl, q⟩⟩
    · exact ⟨_, rfl, v, _, _, _, false, rfl, .ty "int", ty, kit_ty (by decide +kernel), false, rfl, iteF q⟩
    · exact ⟨_, rfl, v, _, _, _, false, rfl, .ty "int", ty, kit_ty (by decide +kernel), false, rfl, iteF q⟩
    · exact ⟨_, rfl, v, _, _, _, false, rfl, .ty "int", ty, kit_ty (by decide +kernel), false, rfl, iteF q⟩
    · exact ⟨_, rfl, v, _, _, _, false, rfl, .ty "int", ty, kit_ty (by decide +kernel), false, rfl, iteF q⟩
/-! ### is_price -/
abbrev sIsPrice : Stmt := topS 16
theorem scIsPrice : FnScope ["thing"] ["thing"] (defScope sIsPrice) := ⟨rfl, rfl, rfl, by decide +kernel, rfl, by decide +kernel, by decide +kernel⟩
def isP : V → Bool
  | .int i => decide (1 ≤ i) && decide (i ≤ 9)
  | _ => false
def spIsPrice (K : PySem.W.Frag) : Sp := fun vs H Q _ => ∃ (v : V) (T : String), vs = [v] ∧ Knd K H v T ∧ Q (.bl (isP v)) H
theorem ok_isPrice {f : Addr} {fd : FuncData} (F : Fun K "is_price" "is_price" sIsPrice f fd) (CI : Cal P w K mg base "is_integer" ["thing"] 1 (spIsInt K)) {t : Tok} (mD : mg "DEAREST" = some (.int 9 t)) :
    FnOk P w K mg base CX0 2 f fd ["thing"] (spIsPrice K) := by
  refine F.ok scIsPrice (fun vs H Q E h => ?_) (fun cdv A outer s H vs Q E hr h => ?_)
  · obtain ⟨v, T, rfl, _⟩ := h
    rfl
  · obtain ⟨v, T, rfl, ht, q⟩ := h
    refine ⟨_, pss_one (ps_ret (pe_and (pe_cal CI hr (by decide) (by rfl) (pa_cons (pv 0) pa_nil))
      (pe_one (pe_chain op_le op_le pe_int (pv 0) (pe_glob (v := .int 9) rfl mD ⟨_, rfl⟩))))), ?_⟩
    refine ⟨_, rfl, v, T, rfl, ht, _, rfl, ?_⟩
    cases v with
    | int i =>
      refine iteT ⟨_, rfl, _, _, rfl, rfl, _, rfl, ?_⟩
      have e : isP (.int i) = (decide (1 ≤ i) && decide (i ≤ 9)) := rfl
      rw [e] at q
      by_cases h : (1 : Int) ≤ i
      · rw [decide_eq_true h] at q ⊢
        exact iteT ⟨_, _, rfl, rfl, q⟩
      · rw [decide_eq_false h] at q ⊢
        exact iteF q
    | _ => exact iteF q
end
end G69
namespace G69
open PySem PySem.Spec PyProof.Rows L2
/-! ### texts -/
def isLb (c : Nat) : Bool := decide (97 ≤ c) && decide (c ≤ 122)
theorem abc_mem (c : Nat) : decide (c ∈ abc.cps.toList) = isLb c := by
  have e : abc.cps.toList = (List.range 26).map (· + 97) := by decide +kernel
  rw [e]
  unfold isLb
  rw [Bool.eq_iff_iff]
  simp only [decide_eq_true_eq, Bool.and_eq_true, List.mem_map, List.mem_range]
  constructor
  · rintro ⟨a, h, rfl⟩
    omega
  · rintro ⟨h1, h2⟩
    exact ⟨c - 97, by omega, by omega⟩
def isT : V → Bool
  | .str z => z.cps.toList.all isLb
  | _ => false
def szV : V → Prop
  | .str z => z.length ≤ 100000
  | _ => True
section
variable {P : Program} {w : World} {K : PySem.W.Frag} {mg : Str → Option Value} {base : Heap}
/-! ### is_text -/
abbrev sIsText : Stmt := topS 14
theorem scIsText : FnScope ["thing", "sign"] ["thing"] (defScope sIsText) := ⟨rfl, rfl, rfl, by decide +kernel, rfl, by decide +kernel, by decide +kernel⟩
def spIsText (K : PySem.W.Frag) : Sp := fun vs H Q _ => ∃ (v : V) (T : String), vs = [v] ∧ Knd K H v T ∧ szV v ∧ ∀ H', Kp [] H H' → Q (.bl (isT v)) H'
theorem ok_isText {f : Addr} {fd : FuncData} (F : Fun K "is_text" "is_text" sIsText f fd) (mS : mg "isinstance" = none) (mT : mg "str" = none) (mA : mg "all" = none) {t : Tok} (mL : mg "LETTERS" = some (.str abc t)) :
    FnOk P w K mg base CX0 1 f fd ["thing"] (spIsText K) := by
  refine F.ok scIsText (fun vs H Q E h => ?_) (fun cdv A outer s H vs Q E hr h => ?_)
  · obtain ⟨v, T, rfl, _⟩ := h
    rfl
  · obtain ⟨v, T, rfl, ht, hz, q⟩ := h
    refine ⟨_, pss_one (ps_ret (pe_and (pe_callB call_isi (by rfl) mS (by decide +kernel) (pa_cons (pv 0) (pa_cons (pe_bltn (v := .ty "str") (by rfl) mT (by decide +kernel) rfl) pa_nil)))
      (pe_one (pe_callB (cr_all rfl) (by rfl) mA (by decide +kernel) (pa_cons (pe_lc (own := [("sign", 1)]) (g := gName 1) (tt := tYes) (by rfl) scIsText.nd (pi_str (pv 0))
        (blkOk_by (own := [("sign", 1)]) (N := ["thing", "sign"]) (sc := defScope sIsText) (by decide +kernel)) (fun _ _ _ _ _ => pg_name (i := 1) scIsText.nd rfl (Or.inl rfl)) (fun _ _ _ _ _ => pts_nil)
        (fun _ _ _ _ _ => pe_cmpR op_in_sign (pv 1) (pe_glob (v := .str abc) rfl mL ⟨_, rfl⟩) (by rfl))) pa_nil))))), ?_⟩
    by_cases hT : T = "str"
    · subst hT
      obtain ⟨z, rfl⟩ := ht.of_str
      refine ⟨_, rfl, .str z, _, _, _, true, rfl, .ty "str", ht.1, kit_ty (by decide +kernel), true, rfl, iteT ?_⟩
      refine ⟨_, rfl, z, rfl, fun L hL => lc_it walk_str
        (fun i H2 => H2 L = some (.lst (((z.cps.toList.take i).map isLb).map V.bl)) ∧ Kp [] H H2)
        ⟨upd_same, Kp.new hL⟩ (fun _ _ _ _ => trivial) ?_ ?_⟩
      · rintro i x H2 H2' hi ⟨e, k⟩ ⟨rfl, c, hc, rfl⟩
        refine ⟨rfl, yes1 ⟨_, rfl, c, abc, rfl, rfl, _, e, ?_, ?_, k.mut hL⟩⟩
        · refine szlt ?_
          rw [List.length_map, List.length_map, List.length_take, Array.length_toList]
          have : z.cps.size ≤ 100000 := hz
          omega
        · rw [upd_same, abc_mem]
          have hc' : z.cps.toList[i]? = some c := by rw [Array.getElem?_toList]; exact hc
          rw [List.take_add_one, hc', List.map_append, List.map_append]
          rfl
      · rintro H2 ⟨e, k⟩
        have e' : z.cps.toList.take z.cps.size = z.cps.toList := List.take_of_length_le (by rw [Array.length_toList]; exact Nat.le_refl _)
        rw [e'] at e
        refine ⟨L, _, rfl, .inl (.inl e), ?_⟩
        have e2 : (z.cps.toList.map isLb).all id = isT (.str z) := by
          show _ = z.cps.toList.all isLb
          rw [List.all_map]
          rfl
        rw [e2]
        exact q H2 k
    · have hk : kitB T "str" = some false := by
        have hm := ht.2
        simp only [kl, List.mem_cons, List.not_mem_nil, or_false] at hm
        rcases hm with rfl | rfl | rfl | rfl | rfl | rfl | rfl
        all_goals first | decide +kernel | exact absurd rfl hT
      refine ⟨_, rfl, v, _, _, _, false, rfl, .ty "str", ht.1, kit_ty hk, false, rfl, iteF ?_⟩
      have e : isT v = false := by
        have := ht.isS_eq
        rw [decide_eq_false hT] at this
        cases v with
        | str z => cases this
        | _ => rfl
      have q' := q H Kp.rfl'
      rw [e] at q'
      exact q'
/-! ### need_text, of a text -/
abbrev sNeed : Stmt := topS 17
theorem scNeed : FnScope ["thing"] ["thing"] (defScope sNeed) := ⟨rfl, rfl, rfl, by decide +kernel, rfl, by decide +kernel, by decide +kernel⟩
def spNeed0 : Sp := fun vs H Q _ => ∃ (z : Str), vs = [.str z] ∧ isT (.str z) = true ∧ z.length ≤ 100000 ∧ ∀ H', Kp [] H H' → Q .non H'
theorem ok_need0 {f : Addr} {fd : FuncData} (F : Fun K "need_text" "need_text" sNeed f fd) (CI : Cal P w K mg base "is_text" ["thing"] 1 (spIsText K)) :
    FnOk P w K mg base CX0 2 f fd ["thing"] spNeed0 := by
  refine F.ok scNeed (fun vs H Q E h => ?_) (fun cdv A outer s H vs Q E hr h => ?_)
  · obtain ⟨z, rfl, _⟩ := h
    rfl
  · obtain ⟨z, rfl, ht, hz, q⟩ := h
    refine ⟨_, pss_one (ps_if (pt_not (pt_val (pe_cal CI hr (by decide) (by rfl) (pa_cons (pv 0) pa_nil)))) (pss_one ps_never) pss_nil), ?_⟩
    refine ⟨_, rfl, .str z, _, rfl, Knd.str, hz, fun H' k => ⟨_, rfl, ?_⟩⟩
    rw [ht]
    exact iteF (q H' k)
end
end G69
namespace G69
open PySem PySem.Spec PyProof.Rows L2
/-! ### slips: the class -/
def sfl (e m w : Int) (s : Option Int) : List (Str × V) := [("z_extra", .int e), ("z_missing", .int m), ("z_wrong", .int w), ("z_swapped", swV s)]
structure SlC (K : PySem.W.Frag) (mg : Str → Option Value) (C : Addr) : Prop where
  cl : Cls K C
  nE : NoAttr K C "z_extra"
  nM : NoAttr K C "z_missing"
  nW : NoAttr K C "z_wrong"
  nS : NoAttr K C "z_swapped"
  mgC : mg "Slips" = some (.ref C)
def SlAt (C : Addr) (H : Hp) (x : Addr) (e m w : Int) (s : Option Int) : Prop := ∃ dx, H x = some (.ins C dx (sfl e m w s))
theorem SlAt.keep {C x : Addr} {H H' : Hp} {S : List Addr} {e m w : Int} {s : Option Int} (h : SlAt C H x e m w s) (k : Kp S H H') (n : x ∉ S) : SlAt C H' x e m w s := let ⟨dx, h⟩ := h; ⟨dx, k _ _ h n⟩
section
variable {P : Program} {w : World} {K : PySem.W.Frag} {mg : Str → Option Value} {base : Heap}
abbrev sSInit : Stmt := inClass (topS 18) 0
abbrev nSInit : List Str := ["self", "extra", "missing", "wrong", "swapped"]
abbrev kwS : List (Str × V) := [("extra", .int 1), ("missing", .int 1), ("wrong", .int 1), ("swapped", .non)]
theorem scSInit : FnScope nSInit nSInit (defScope sSInit) := ⟨rfl, rfl, rfl, by decide +kernel, rfl, by decide +kernel, by decide +kernel⟩
def spSInit0 (C : Addr) : Sp := fun vs H Q _ => ∃ (p dx : Addr) (e m w : Int) (s : Option Int), vs = [.ref p, .int e, .int m, .int w, swV s] ∧ PrOk e m w s ∧ H p = some (.ins C dx []) ∧
  ∀ H', H' p = some (.ins C dx (sfl e m w s)) → Kp [p] H H' → Q .non H'
theorem isP_ok {i : Int} (h0 : 1 ≤ i) (h9 : i ≤ 9) : isP (.int i) = true := by
  show (decide (1 ≤ i) && decide (i ≤ 9)) = true
  rw [decide_eq_true h0, decide_eq_true h9]
  rfl
theorem ok_sinit0 {f C : Addr} {fd : FuncData} (F : FunD K "__init__" "Slips.__init__" (defArgs sSInit) (defBody sSInit) (defScope sSInit) [] kwS f fd) (T : SlC K mg C) (CP : Cal P w K mg base "is_price" ["thing"] 2 (spIsPrice K)) :
    FnOk P w K mg base CX0 3 f fd nSInit (spSInit0 C) := by
  refine F.ok scSInit (fun vs H Q E h => ?_) (fun cdv A outer s H vs Q E hr h => ?_)
  · obtain ⟨p, dx, e, m, w, s, rfl, _⟩ := h
    rfl
  · obtain ⟨p, dx, e, m, w, s, rfl, ok, hp, q⟩ := h
    refine ⟨_, pss_cons (ps_if (pt_not (pt_val (pe_cal CP hr (by decide) (by rfl) (pa_cons (pv 1) pa_nil)))) (pss_one ps_never) pss_nil)
      (pss_cons (ps_if (pt_not (pt_val (pe_cal CP hr (by decide) (by rfl) (pa_cons (pv 2) pa_nil)))) (pss_one ps_never) pss_nil)
      (pss_cons (ps_if (pt_not (pt_val (pe_cal CP hr (by decide) (by rfl) (pa_cons (pv 3) pa_nil)))) (pss_one ps_never) pss_nil)
      (pss_cons (ps_if (PW.pt (pw_and (pt_cmpR op_notN (pv 4) pe_non (nomark _)) (pw_and1 (pt_not (pt_val (pe_cal CP hr (by decide) (by rfl) (pa_cons (pv 4) pa_nil))))))) (pss_one ps_never) pss_nil)
      (pss_cons (ps_fld (pv 0) (pv 1) rfl) (pss_cons (ps_fld (pv 0) (pv 2) rfl) (pss_cons (ps_fld (pv 0) (pv 3) rfl) (pss_one (ps_fld (pv 0) (pv 4) rfl)))))))), ?_⟩
    refine ⟨_, rfl, _, _, rfl, Knd.int, _, rfl, ?_⟩
    rw [isP_ok ok.e0 ok.e9]
    refine iteF ⟨_, rfl, _, _, rfl, Knd.int, _, rfl, ?_⟩
    rw [isP_ok ok.m0 ok.m9]
    refine iteF ⟨_, rfl, _, _, rfl, Knd.int, _, rfl, ?_⟩
    rw [isP_ok ok.w0 ok.w9]
    refine iteF ?_
    have rest : (tSeq (sFld K (tVar 0) (tVar 1) "z_extra") (tSeq (sFld K (tVar 0) (tVar 2) "z_missing") (tSeq (sFld K (tVar 0) (tVar 3) "z_wrong") (sFld K (tVar 0) (tVar 4) "z_swapped"))))
        { nx := fun _ H' => Q .non H', rt := Q } [some (.ref p), some (.int e), some (.int m), some (.int w), some (swV s)] H := by
      refine ⟨_, rfl, _, rfl, p, C, dx, [], rfl, hp, T.cl, T.nE, (by show 0 < 1000; decide), ?_⟩
      refine ⟨_, rfl, _, rfl, p, C, dx, _, rfl, upd_same, T.cl, T.nM, (by show 1 < 1000; decide), ?_⟩
      refine ⟨_, rfl, _, rfl, p, C, dx, _, rfl, upd_same, T.cl, T.nW, (by show 2 < 1000; decide), ?_⟩
      refine ⟨_, rfl, _, rfl, p, C, dx, _, rfl, upd_same, T.cl, T.nS, (by show 3 < 1000; decide), ?_⟩
      exact q _ (by rw [upd_same]; rfl) ((Kp.put (by simp)).trans ((Kp.put (by simp)).trans ((Kp.put (by simp)).trans (Kp.put (by simp)))))
    cases s with
    | none => exact ⟨_, rfl, rfl, _, rfl, iteF (iteF rest)⟩
    | some i =>
      refine ⟨_, rfl, rfl, _, rfl, iteT ⟨_, rfl, _, _, rfl, Knd.int, _, rfl, ?_⟩⟩
      have ei : isP (swV (some i)) = true := isP_ok (ok.s0 i rfl).1 (ok.s0 i rfl).2
      rw [ei]
      exact iteF rest
end
end G69
namespace G69
open PySem PySem.Spec PyProof.Rows L2
/-! ### things that stay: tuples, instances -/
def firm : HO → Prop
  | .tup _ => True
  | .ins _ _ _ => True
  | _ => False
def Kf (H H' : Hp) : Prop := ∀ a o, H a = some o → firm o → H' a = some o
theorem Kf.rfl' {H : Hp} : Kf H H := fun _ _ h _ => h
theorem Kf.trans {H H1 H2 : Hp} (x : Kf H H1) (y : Kf H1 H2) : Kf H H2 := fun a o h f => y a o (x a o h f) f
theorem Kp.kf {H H' : Hp} (k : Kp [] H H') : Kf H H' := fun a o h _ => k a o h notnil
theorem Kf.new {H : Hp} {p : Addr} {o : HO} (h : H p = none) : Kf H (upd H p o) := (Kp.new h : Kp [] H _).kf
theorem Kf.lst {H : Hp} {p : Addr} {o : HO} {xs : List V} (h : H p = some (.lst xs)) : Kf H (upd H p o) := fun a u e f => by
  rw [upd_ne (ne_of e h (by rintro rfl; exact f))]
  exact e
theorem Dr.kf {H H' : Hp} {d l c : Addr} (D : Dr H d l c) (k : Kp [d, l] H H') : Kf H H' := fun a o h f => by
  obtain ⟨ls, cs, r, t, m, x⟩ := D
  exact k a o h (not2 (ne_of h x.dd (by rintro rfl; exact f)) (ne_of h x.hl (by rintro rfl; exact f)))
theorem Kf.tup {H H' : Hp} {a : Addr} {xs : List V} (k : Kf H H') (h : H a = some (.tup xs)) : H' a = some (.tup xs) := k _ _ h trivial
theorem Kf.ins {H H' : Hp} {a C dx : Addr} {fs : List (Str × V)} (k : Kf H H') (h : H a = some (.ins C dx fs)) : H' a = some (.ins C dx fs) := k _ _ h trivial
theorem SlAt.kf {C x : Addr} {H H' : Hp} {e m w : Int} {s : Option Int} (h : SlAt C H x e m w s) (k : Kf H H') : SlAt C H' x e m w s := let ⟨dx, h⟩ := h; ⟨dx, k.ins h⟩
/-- off a drawing: a thing that stays -/
theorem Dr.offF {H : Hp} {d l c a : Addr} {o : HO} (D : Dr H d l c) (h : H a = some o) (f : firm o) : a ≠ d ∧ a ≠ l ∧ a ≠ c := by
  obtain ⟨ls, cs, r, t, m, x⟩ := D
  exact ⟨ne_of h x.dd (by rintro rfl; exact f), ne_of h x.hl (by rintro rfl; exact f), ne_of h x.hc (by rintro rfl; exact f)⟩
/-! ### in a comprehension's block -/
section
variable {X : Cx} {K : PySem.W.Frag}
theorem pg_tupK {es : List Expr} {k : Nat} {t : TGs} {n : Nat} {pos : Pos} (hK : X.K = K) (hc : X.calm = true) (hp : PGs X es t)
    (hn : (assignEach es X.env).length = n := by rfl) (hst : (assignEach es X.env).findIdx? (·.1) = none := by rfl) : PG X (.Tuple es k pos) (gTup K n t) := by
  subst hK
  exact pg_tup hc hp hn hst
theorem op_in_seqK (h : X.K = K) : OpR X (compareOp .In) (rIn K false) := by
  subst h
  exact op_in_seq
theorem op_notIn_seqK (h : X.K = K) : OpR X (compareOp .NotIn) (rIn K true) := by
  subst h
  exact op_notIn_seq
end
/-! ### methods of an own class -/
/-- a method that may be called -/
def Mth (P : Program) (w : World) (K : PySem.W.Frag) (mg : Str → Option Value) (base : Heap) (C : Addr) (m : Str) (ps : List Str) (k : Nat) (sp : Sp) : Prop :=
  ∃ (f : Addr) (fd : FuncData), FnOk P w K mg base CX0 k f fd ps sp ∧ Meth K C m f ∧ Binds K fd ps [] ∧ PySem.W.fnIn K f = true
section
variable {X : Cx} {C : Addr} {j k : Nat} {m : Str} {ps : List Str} {sp : Sp} {o a b e : Expr} {es : List Expr} {ta tb : TE} {t : TA} {p pos apos : Pos}
/-- x.m(e, ..) -/
theorem pe_mth {pl : Sem Bool} (he : PE X o ta) (T : Cls X.K C) (M : Mth X.prog X.w X.K X.mg X.base C m ps k sp) (hr : Room j X.A) (hj : k ≤ j) (ha : PA X (e :: es) t)
    (hst : starEach (e :: es) X.env = (false, eval e X.env) :: starEach es X.env := by rfl) (hpl : (backTo pos (starEach es X.env)).any (·.1) = false := by rfl)
    (ht : eval (.Call (.Attribute o m apos) (e :: es) [] pos) X.env = (do
      let ov ← eval o X.env
      standAt apos.atName
      let (f, first) ← holding [ov] (getMethod ov m pl)
      callWith pos f first (backTo pos (starEach (e :: es) X.env)) (backToKw pos (keywordEach [] X.env))) := by rfl) :
    PE X (.Call (.Attribute o m apos) (e :: es) [] pos) (tMeth C m sp [] E0 ta t) := by
  obtain ⟨f, fd, F, hm, hb, _⟩ := M
  exact pe_meth (pl := pl) he T hm F (hr.mono hj) hb .nil pass0 ha hst hpl ht
/-- the callee runs a step below -/
theorem run_fn1 {f : Addr} {fd : FuncData} {pins : List (Addr × Obj)} {σ : L2.St} {H : Hp} {s : Shared} {Q : VK} {us : List Value} {vs : List V} (F : FnOk X.prog X.w X.K X.mg X.base CX0 k f fd ps sp) (hr : Room (k + 1) X.A) (hb : Binds X.K fd ps [])
    (I : Inv X pins σ H s) (r : Vals vs us) (h : sp vs H Q E0) : wpAny (model X.prog X.w) X.A.in1 (call (.ref f) us) (EP X pins σ Q) X.xe s := by
  have hl : (us ++ []).length = ps.length := by
    rw [List.append_nil, ← r.length]
    exact F.len _ _ _ _ h
  have r2 : Vals vs (us ++ []) := by
    rw [List.append_nil]
    exact r
  refine wpAny_call (codeAny_mono (F.run X.A.in1 X.stack s H ⟨us, []⟩ (us ++ []) vs Q E0 hr.in1 I.env0.in1 (hb s us I.kIn hl) r2 h) fun r s' hq => ?_)
  cases r with
  | error e => exact pass0 pins σ H s e s' I hq
  | ok fl =>
    cases fl with
    | ret u => exact I.after hq
    | next => exact False.elim hq
    | brk => exact False.elim hq
    | cont => exact False.elim hq
/-- x[y], x an instance of the class at C with its own __getitem__ -/
def rIxO (C : Addr) (sp : Sp) : R2 := fun x y H Q => ∃ a dx fs, x = .ref a ∧ H a = some (.ins C dx fs) ∧ sp [.ref a, y] H Q E0
theorem pe_ixO (ha : PE X a ta) (hb : PE X b tb) (M : Mth X.prog X.w X.K X.mg X.base C "__getitem__" ps k sp) (hr : Room j X.A) (hj : k + 1 ≤ j)
    (hs : ∀ o i, subscripted b true o i = runValue (.builtin "lifetime.subscript" ⟨[o, i], []⟩) := by intro _ _; rfl) : PE X (.Subscript a b pos) (tOp (rIxO C sp) ta tb) := by
  obtain ⟨f, fd, F, hm, hbd, hfi⟩ := M
  refine ⟨fun pins s σ H Q I h => ?_⟩
  refine Subscript_ (binT ha hb I h fun v u s2 x y H2 I2 rx ry q => ?_)
  obtain ⟨p, dx, fs, rfl, ea, q⟩ := q
  cases (show v = Value.ref p from rx)
  obtain ⟨mA, O, _⟩ := ins_get I2.hok ea
  obtain ⟨od, J, _⟩ := O.look
  obtain ⟨m, hF⟩ := I2.fr
  exact PySem.W.sub_K hF I2.ok.mod.kin J hm.at_ hfi hm.fn (run_fn1 (vs := [.ref p, y]) F (hr.mono hj) hbd I2 (.cons rfl (.cons ry .nil)) q) (hs _ _)
end
end G69
namespace G69
open PySem PySem.Spec PyProof.Rows L2
/-! ### calls by keywords alone -/
structure KCal (P : Program) (w : World) (K : PySem.W.Frag) (mg : Str → Option Value) (base : Heap) (x : Str) (ks : List Str) (k : Nat) (sp : Sp) (gV : List V → List V) : Prop where
  ex : ∃ (f : Addr) (fd : FuncData) (ps : List Str) (g : List Value → List Value → List Value), FnOk P w K mg base CX0 k f fd ps sp ∧ mg x = some (.ref f) ∧ PySem.W.keepIn K (.ref f) = true ∧ KBn K fd ps 0 ks g (fun _ zs => gV zs)
theorem Def.kcal {P : Program} {w : World} {K : PySem.W.Frag} {mg : Str → Option Value} {base : Heap} {x : Str} {st : Stmt} {ps : List Str} {f : Addr} {fd : FuncData} {k : Nat} {sp : Sp} (D : Def K mg x st ps f fd) (G : FnOk P w K mg base CX0 k f fd ps sp) (ks : List Str)
    (g : {α : Type} → List α → List α) (hrel : ∀ {zs : List V} {ws : List Value}, Vals zs ws → Vals (g zs) (g ws))
    (hb : ∀ (kV doc pm : Value) (an : Option Addr) (cdv ct : Value) (ws : List Value), ws.length = ks.length → bindArgs (PySem.W.fnOf x x (defArgs st) (defBody st) (defScope st) .none kV doc pm an cdv ct) ⟨[], ks.zip ws⟩ = pure (ps.zip (g ws))) :
    KCal P w K mg base x ks k sp (fun zs => g zs) := by
  obtain ⟨oc, od, kV, doc, pm, an, cdv, ct, osl, e, lk, hcd⟩ := D.F.ex
  refine ⟨f, fd, ps, fun _ ws => g ws, G, D.g, D.F.kp, ⟨fun s us ws X l1 l2 => ?_, fun _ r => hrel r⟩⟩
  match us, l1 with
  | [], _ =>
    rw [e]
    exact .of_eq (hb kV doc pm an cdv ct ws l2)
theorem rev_vals {zs : List V} {ws : List Value} (h : Vals zs ws) : Vals zs.reverse ws.reverse := by
  induction h with
  | nil => exact .nil
  | cons r _ ih =>
    rw [List.reverse_cons, List.reverse_cons]
    exact ih.append (.cons r .nil)
section
variable {X : Cx}
theorem pe_kcal {x : Str} {ks : List Str} {k j : Nat} {sp : Sp} {gV : List V → List V} {kws : List Keyword} {tk : TA} {p pos : Pos} (C : KCal X.prog X.w X.K X.mg X.base x ks k sp gV) (hr : Room j X.A) (hj : k ≤ j) (hg : Gl X x) (hkw : PK X kws tk)
    (hall : (backToKw pos (keywordEach kws X.env)).all (·.1.isSome) = true := by rfl) (hks : (backToKw pos (keywordEach kws X.env)).filterMap (·.1) = ks := by rfl) (hdb : (x == ("__debug__" : Str)) = false := by decide)
    (hpl : ((backTo pos (starEach [] X.env)).any (·.1) || (backToKw pos (keywordEach kws X.env)).any (·.1.isNone)) = false := by rfl) :
    PE X (.Call (.Name x p) [] kws pos) (tCallN 0 ks.length sp (fun _ zs => gV zs) E0 tNil tk) := by
  obtain ⟨f, fd, ps, g, G, hm, kp, kb⟩ := C.ex
  refine ⟨fun pins s0 σ H Q I h0 => ?_⟩
  refine wpAny_Call_Name_kw (ld_glob I hg hm ?_ hdb)
  refine PySem.W.callWith_KW0 (h₀ := X.base) I.ok.mod.kin kp hall ?_ hpl
  refine thn (hkw.run pos pins s0 σ H _ I h0) fun wl s3 ⟨zl, H3, I3, rl, _, m2, q3⟩ => ⟨I3.kIn, ?_⟩
  rw [hks]
  exact run_fnN (us := []) (vs := []) G (hr.mono hj) kb pass0 I3 .nil rl rfl m2 q3
/-! ### text * n -/
def repS (z : Str) (n : Nat) : Str := ⟨(List.replicate n z.cps).foldl (· ++ ·) #[]⟩
theorem repS_list (z : Str) (n : Nat) : (repS z n).cps.toList = (List.replicate n z.cps.toList).flatten := by
  have gen : ∀ (n : Nat) (acc : Array Nat), ((List.replicate n z.cps).foldl (· ++ ·) acc).toList = acc.toList ++ (List.replicate n z.cps.toList).flatten := by
    intro n
    induction n with
    | zero => intro acc; simp
    | succ n ih =>
      intro acc
      rw [List.replicate_succ, List.foldl_cons, ih, List.replicate_succ, List.flatten_cons, Array.toList_append, List.append_assoc]
  have := gen n #[]
  exact this
theorem op_mulS : OpR X (binaryOp .Mult) (fun x y H Q => ∃ (z : Str) (n : Nat), x = .str z ∧ y = .int (n : Int) ∧ 2 ≤ n ∧ 0 < z.length ∧ z.length * n ≤ 1000000 ∧ n ≤ 1000000 ∧ Q (.str (repS z n)) H) := by
  intro pins s σ H x y v u Q I rx ry h
  obtain ⟨z, n, rfl, rfl, h2, hz, hl, hn, q⟩ := h
  obtain ⟨t, rfl⟩ := rx
  obtain ⟨t', rfl⟩ := ry
  have n1 : ¬ (n : Int) < 1 := by omega
  have n2 : ((n : Int) == 1 || z.length == 0) = false := by
    rw [Bool.or_eq_false_iff]
    exact ⟨by simpa using (show ¬ (n : Int) = 1 by omega), by simpa using (show ¬ z.length = 0 by omega)⟩
  have hlen : (repS z n).length = z.length * n := by
    show (repS z n).cps.size = _
    rw [← Array.length_toList, repS_list, List.length_flatten, List.map_replicate, List.sum_replicate_nat, Array.length_toList, Nat.mul_comm]
    rfl
  refine PySem.P.mul_str (by rw [Bool.or_eq_false_iff]; exact ⟨decide_eq_false (by omega), decide_eq_false (by omega)⟩) (fun _ _ => ?_) (fun _ _ => ?_) ?_
  · have h3 : (2 ^ 63 - 1) / (n : Int) ≥ (2 ^ 63 - 1) / 1000000 := by
      have : (1000000 : Int) ≥ n := by omega
      rw [ge_iff_le, Int.le_ediv_iff_mul_le (by omega)]
      have h4 : (2 ^ 63 - 1) / (1000000 : Int) * n ≤ (2 ^ 63 - 1) / (1000000 : Int) * 1000000 := Int.mul_le_mul_of_nonneg_left this (by decide)
      have h5 : (2 ^ 63 - 1) / (1000000 : Int) * 1000000 ≤ 2 ^ 63 - 1 := by decide
      omega
    have h6 : (z.length : Int) ≤ 1000000 := by
      have : z.length * 1 ≤ z.length * n := Nat.mul_le_mul_left _ (by omega)
      omega
    have h7 : (2 ^ 63 - 1) / (1000000 : Int) ≥ 1000000 := by decide
    omega
  · have e : ((n : Int)).toNat = n := Int.toNat_natCast n
    rw [e]
    exact decide_eq_false (Nat.not_lt.mpr (szle hl))
  · rw [if_neg n1, if_neg (by rw [n2]; decide)]
    have e : ((n : Int)).toNat = n := Int.toNat_natCast n
    rw [e]
    exact ⟨by show (repS z n).length ≤ sizeLine; rw [hlen]; exact szle hl, .str _, H, I.tok _, ⟨_, rfl⟩, q⟩
end
end G69
namespace G69
open PySem PySem.Spec PyProof.Rows L2
/-! ### == and != by an own __eq__ -/
section
variable {prog : Program} {w : World} {A : Around} {E : Value → Shared → Prop} {s : Shared} {K : PySem.W.Frag} {x C f : Addr} {ox : Obj} {od : Option Obj} {b tb : Value}
theorem ifBound_ne {Q : Option Value → Shared → Prop} (X : K.In s.heap) (I : PySem.W.InstAt s.heap x ox C od) (hs : PySem.W.findIn K (.ref C) "__ne__" = some (some (.builtin "object.__ne__")))
    (h : wpAny (model prog w) A (call (.builtin "object.__ne__") [.ref x, b]) (fun v => Q (some v)) E s) : wpAny (model prog w) A (callSpecialIfBound? (.ref x) "__ne__" [b]) Q E s := by
  have hb : ∀ self, bindSpecial (.builtin "object.__ne__") self = pure (.builtin "object.__ne__", [self]) := fun self =>
    (Slot.of (T := "object") (name := "__ne__") (owner := "object") (n := "__ne__") (by rw [typeLookup_type, builtinLookup_eq_fast]; kernel_rfl) (by decide +kernel) (by decide +kernel) (by decide +kernel) (.inl (by decide +kernel)) (by rw [isSubtype_type]; kernel_rfl)).bind self
  simp only [callSpecialIfBound?, bindSpecialIfBound?]
  refine wpAny_holding (wpAny_bind (wpAny_bind (wpAny_bind (I.type.here ((PySem.W.looks_findIn X hs).here ?_)))))
  simp only [hb]
  refine wpAny_bind (wpAny_askSetting (wpAny_ite ?_))
  have fin : wpAny (model prog w) A (call (.builtin "object.__ne__") ([.ref x] ++ [b]) >>= fun v => pure (some v)) Q E s := wpAny_bind (wpAny_mono h (fun v s' z => wpAny_pure z) fun _ _ z => z)
  split
  · exact wpAny_bind (wpAny_pure (wpAny_pure fin))
  · exact wpAny_tryCatch (wpAny_bind (wpAny_pure (wpAny_pure fin)))
theorem ne_own (hu : A.units + 1 < cLine) (X : K.In s.heap) (I : PySem.W.InstAt s.heap x ox C od) (hb : PySem.W.Looks (model prog w) s.heap (typeOf b) tb) (hn : PySem.W.notFirst K C tb = true)
    (hne : PySem.W.findIn K (.ref C) "__ne__" = some (some (.builtin "object.__ne__"))) (hob : PySem.W.mroIn K C (.type "object") = some true) (hs : PySem.W.findIn K (.ref C) "__eq__" = some (some (.ref f))) (hf : PySem.W.isFn K (.ref f) = true) {Q : Value → Shared → Prop}
    (h : wpAny (model prog w) A.in1 (call (.ref f) [.ref x, b]) (fun v s' => ∃ r, v = .bool r ∧ Q (.bool (!r)) s') E s) : wpAny (model prog w) A (richCompare .NotEq (.ref x) b) Q E s := by
  have sub : PySem.W.Looks (model prog w) s.heap (isInstance (.ref x) (.type "object")) true := I.type.andThen (PySem.W.looks_mroIn X hob)
  have ent : ∀ (R : Fin → Shared → Prop) (E2 : Value → Shared → Prop), wpAny (model prog w) A.in1 (call (.ref f) [.ref x, b]) (fun v s' => ∃ r, v = .bool r ∧ R (.done (.ret (.bool (!r)))) s') E2 s →
      wpAny (model prog w) A.in1 (Builtin.«object.__ne__» ⟨[.ref x, b], []⟩) R E2 s := by
    intro R E2 hc
    obtain ⟨hp, g, d, t, os⟩ := s
    unfold Builtin.«object.__ne__»
    repeat (first
      | with_reducible refine wpAny_cRoomFor (show A.in1.units < cLine from hu) ?_
      | (refine wpAny_bind (m := callSpecialIfBound? (.ref x) (Str.ofString "__eq__") [b]) (PySem.W.ifBound_K X I hs hf (wpAny_mono hc (fun r s' hr => ?_) fun _ _ e => e)))
      | wp_step)
    obtain ⟨r, rfl, hq⟩ := hr
    repeat (first | exact hq | exact wpAny_pure hq | exact wpAny_truthy_bool hq | (refine wpAny_bind (m := truthy (.bool _)) (wpAny_truthy_bool ?_)) | wp_step)
  have one : wpAny (model prog w) A (tryCompare (.ref x) "__ne__" b) (fun r s' => ∃ v, r = some v ∧ Q v s') E s := by
    unfold tryCompare
    refine wpAny_bind (ifBound_ne X I hne (wpAny_call (codeAny_call_builtin (by decide +kernel) F.cmpEntry_ne (PySem.W.check_slot F.cmpKind_ne F.cmpSplit_ne sub (F.cmpArgs_ne _ _) (ent _ _ (wpAny_mono h (fun v s' hv => ?_) fun _ _ e => e))))))
    obtain ⟨r, rfl, hq⟩ := hv
    exact ⟨r, rfl, wpAny_pure ⟨_, rfl, hq⟩⟩
  unfold richCompare
  simp only [oneThing_ref]
  refine wpAny_holding (wpAny_bind (wpAny_cRoomFor (Nat.lt_of_succ_lt hu) ?_))
  refine wpAny_bind (I.type.here (wpAny_bind (hb.here ?_)))
  split
  · rename_i q
    have e : PySem.W.subIn K tb (.ref C) = some false := by
      rcases Bool.or_eq_true_iff.mp hn with e | e
      · rw [beq_iff_eq.mp e] at q
        simp at q
      · exact beq_iff_eq.mp e
    refine wpAny_bind ((PySem.W.looks_subIn X e).here ?_)
    simp only [Bool.false_eq_true, if_false]
    refine wpAny_bind (wpAny_mono one (fun r s' z => ?_) fun _ _ e => e)
    obtain ⟨v, rfl, hq⟩ := z
    exact wpAny_pure hq
  · refine wpAny_bind (wpAny_pure ?_)
    simp only [Bool.false_eq_true, if_false]
    refine wpAny_bind (wpAny_mono one (fun r s' z => ?_) fun _ _ e => e)
    obtain ⟨v, rfl, hq⟩ := z
    exact wpAny_pure hq
end
section
variable {X : Cx} {C : Addr} {j k : Nat} {ps : List Str} {sp : Sp}
/-- x == y, x an instance of the class at C with its own __eq__ -/
def rEqO (K : PySem.W.Frag) (C : Addr) (sp : Sp) : R2 := fun x y H Q => ∃ a dx fs t, x = .ref a ∧ H a = some (.ins C dx fs) ∧ TyX K H y t ∧ PySem.W.notFirst K C t = true ∧ sp [.ref a, y] H (fun v H' => ∃ r, v = .bl r ∧ Q (.bl r) H') E0
theorem op_eqO (M : Mth X.prog X.w X.K X.mg X.base C "__eq__" ps k sp) (hr : Room j X.A) (hj : k + 1 ≤ j) : OpR X (compareOp .Eq) (rEqO X.K C sp) := by
  intro pins s σ H x y v u Q I rx ry h
  obtain ⟨a, dx, fs, t, rfl, ea, ty, hn, q⟩ := h
  obtain ⟨f, fd, F, hm, hbd, hfi⟩ := M
  cases (show v = Value.ref a from rx)
  obtain ⟨mA, O, _⟩ := ins_get I.hok ea
  obtain ⟨od, J, _⟩ := O.look
  obtain ⟨m, hF⟩ := I.fr
  obtain ⟨P, Z, p, _⟩ := kit_of I ry ty
  have hl : ([Value.ref a, u] ++ []).length = ps.length := by
    rw [← F.len _ _ _ _ q]
    rfl
  refine PySem.W.cmp_K (op := .Eq) hr.units0 hF I.ok.mod.kin J (Z.ty _ _ I.kIn p) hn hm.at_ hm.fn ?_
  refine wpAny_call (codeAny_mono (F.run X.A X.stack s H ⟨[.ref a, u], []⟩ ([.ref a, u] ++ []) [.ref a, y] _ E0 (hr.mono (by omega)) I.env0 (hbd s [.ref a, u] I.kIn hl) (.cons rfl (.cons ry .nil)) q) fun r s' hq => ?_)
  cases r with
  | error e => exact pass0 pins σ H s e s' I hq
  | ok fl =>
    cases fl with
    | ret u' =>
      obtain ⟨z, H', I', rz, r, rfl, qz⟩ := I.after hq
      cases (show u' = Value.bool r from rz)
      exact ⟨.bl r, H', I', rfl, qz⟩
    | next => exact False.elim hq
    | brk => exact False.elim hq
    | cont => exact False.elim hq
/-- x != y by the own __eq__ -/
def rNeO (K : PySem.W.Frag) (C : Addr) (sp : Sp) : R2 := fun x y H Q => ∃ a dx fs t, x = .ref a ∧ H a = some (.ins C dx fs) ∧ TyX K H y t ∧ PySem.W.notFirst K C t = true ∧ sp [.ref a, y] H (fun v H' => ∃ r, v = .bl r ∧ Q (.bl (!r)) H') E0
theorem op_neO (M : Mth X.prog X.w X.K X.mg X.base C "__eq__" ps k sp) (hne : PySem.W.findIn X.K (.ref C) "__ne__" = some (some (.builtin "object.__ne__"))) (hob : PySem.W.mroIn X.K C (.type "object") = some true) (hr : Room j X.A) (hj : k + 1 ≤ j) : OpR X (compareOp .NotEq) (rNeO X.K C sp) := by
  intro pins s σ H x y v u Q I rx ry h
  obtain ⟨a, dx, fs, t, rfl, ea, ty, hn, q⟩ := h
  obtain ⟨f, fd, F, hm, hbd, hfi⟩ := M
  cases (show v = Value.ref a from rx)
  obtain ⟨mA, O, _⟩ := ins_get I.hok ea
  obtain ⟨od, J, _⟩ := O.look
  obtain ⟨P, Z, p, _⟩ := kit_of I ry ty
  refine ne_own (hu_of hr) I.kIn J (Z.ty _ _ I.kIn p) hn hne hob hm.at_ hm.fn ?_
  refine wpAny_mono (run_fn1 (vs := [.ref a, y]) (us := [.ref a, u]) F (hr.mono hj) hbd I (.cons rfl (.cons ry .nil)) q) (fun w s' z => ?_) fun _ _ x => x
  obtain ⟨z, H', I', rz, r, rfl, qz⟩ := z
  cases (show w = Value.bool r from rz)
  exact ⟨r, rfl, .bl (!r), H', I', rfl, qz⟩
end
end G69
namespace G69
open PySem PySem.Spec PyProof.Rows L2
/-! ### built-ins by values -/
section
variable {X : Cx} {G : Gh} {x : Str} {id T' : String} {r : List V → Hp → VK → Prop} {f : FN} {e : Expr} {es : List Expr} {tA : TA3} {p pos : Pos}
theorem up_n (hl : CaL r G.M f) {σ : L2.St} {H : Hp} {Q : VK} (h : up G (tN f tA) σ H Q) : tCB r (upA G tA) σ H Q := by
  obtain ⟨px, Z, s, Q3, fm, h, k⟩ := h
  exact ⟨px, Z, s, _, fm, h, fun ts s1 hf vs Z1 H1 e1 f1 r1 => hl Z1 H1 vs ts _ Q f1.le r1 hf fun t q u Z3 H3 g r3 => k t s1 q u Z3 H3 (e1.trans g.zz) (f1.grow g) r3⟩
theorem q_bi (hc : CallR X (.builtin id) r) (hl : CaL r G.M f) (hg : Gl X x) (hm : X.mg x = none) (hv : bootBuiltins x = some (.builtin id)) (ha : PA X (e :: es) (upA G tA)) (hn : x ≠ "__name__" := by decide) (hdb : (x == ("__debug__" : Str)) = false := by decide)
    (he : starEach (e :: es) X.env = (false, eval e X.env) :: starEach es X.env := by rfl) (hpl : (backTo pos (starEach es X.env)).any (·.1) = false := by rfl) : PE X (.Call (.Name x p) (e :: es) [] pos) (up G (tN f tA)) :=
  PE.imp (pe_callB hc hg hm hv ha hn hdb he hpl) fun _ _ _ h => up_n hl h
theorem q_ty (hc : CallR X (.type T') r) (hl : CaL r G.M f) (hg : Gl X x) (hm : X.mg x = none) (hv : bootBuiltins x = some (.type T')) (ha : PA X (e :: es) (upA G tA)) (hn : x ≠ "__name__" := by decide) (hdb : (x == ("__debug__" : Str)) = false := by decide)
    (he : starEach (e :: es) X.env = (false, eval e X.env) :: starEach es X.env := by rfl) (hpl : (backTo pos (starEach es X.env)).any (·.1) = false := by rfl) : PE X (.Call (.Name x p) (e :: es) [] pos) (up G (tN f tA)) :=
  PE.imp (pe_callTy hc hg hm hv ha hn hdb he hpl) fun _ _ _ h => up_n hl h
end
def ints? : List T → Option (List Int)
  | [] => some []
  | .int i :: ts => (match ints? ts with
    | some ns => some (i :: ns)
    | none => none)
  | _ :: _ => none
def bls? : List T → Option (List Bool)
  | [] => some []
  | .bl i :: ts => (match bls? ts with
    | some ns => some (i :: ns)
    | none => none)
  | _ :: _ => none
def strs? : List T → Option (List Str)
  | [] => some []
  | .str i :: ts => (match strs? ts with
    | some ns => some (i :: ns)
    | none => none)
  | _ :: _ => none
theorem ints?_eq : ∀ {ts : List T} {ns : List Int}, ints? ts = some ns → ts = ns.map T.int
  | [], ns, h => by cases h; rfl
  | .int i :: ts, ns, h => by
    unfold ints? at h
    split at h
    · rename_i ms e
      cases h
      rw [ints?_eq e]
      rfl
    · cases h
  | .non :: _, _, h | .bl _ :: _, _, h | .str _ :: _, _, h | .ty _ :: _, _, h | .lst _ :: _, _, h | .tup _ :: _, _, h | .dic _ _ :: _, _, h | .ins _ _ :: _, _, h | .drw :: _, _, h | .scr _ :: _, _, h | .ob _ :: _, _, h => by cases h
theorem bls?_eq : ∀ {ts : List T} {ns : List Bool}, bls? ts = some ns → ts = ns.map T.bl
  | [], ns, h => by cases h; rfl
  | .bl i :: ts, ns, h => by
    unfold bls? at h
    split at h
    · rename_i ms e
      cases h
      rw [bls?_eq e]
      rfl
    · cases h
  | .non :: _, _, h | .int _ :: _, _, h | .str _ :: _, _, h | .ty _ :: _, _, h | .lst _ :: _, _, h | .tup _ :: _, _, h | .dic _ _ :: _, _, h | .ins _ _ :: _, _, h | .drw :: _, _, h | .scr _ :: _, _, h | .ob _ :: _, _, h => by cases h
theorem strs?_eq : ∀ {ts : List T} {ns : List Str}, strs? ts = some ns → ts = ns.map T.str
  | [], ns, h => by cases h; rfl
  | .str i :: ts, ns, h => by
    unfold strs? at h
    split at h
    · rename_i ms e
      cases h
      rw [strs?_eq e]
      rfl
    · cases h
  | .non :: _, _, h | .int _ :: _, _, h | .bl _ :: _, _, h | .ty _ :: _, _, h | .lst _ :: _, _, h | .tup _ :: _, _, h | .dic _ _ :: _, _, h | .ins _ _ :: _, _, h | .drw :: _, _, h | .scr _ :: _, _, h | .ob _ :: _, _, h => by cases h
theorem ints?_map : ∀ ns : List Int, ints? (ns.map T.int) = some ns
  | [] => rfl
  | n :: ns => by rw [List.map_cons, ints?, ints?_map ns]
theorem bls?_map : ∀ ns : List Bool, bls? (ns.map T.bl) = some ns
  | [] => rfl
  | n :: ns => by rw [List.map_cons, bls?, bls?_map ns]
theorem strs?_map : ∀ ns : List Str, strs? (ns.map T.str) = some ns
  | [] => rfl
  | n :: ns => by rw [List.map_cons, strs?, strs?_map ns]
theorem RpL.ints {M : Mo} {Z : Hp} : ∀ {ns : List Int} {vs : List V}, RpL M Z (ns.map T.int) vs → vs = ns.map V.int
  | [], _, .nil => rfl
  | _ :: _, _, .cons (.int _) r => by rw [RpL.ints r]; rfl
theorem RpL.bls {M : Mo} {Z : Hp} : ∀ {ns : List Bool} {vs : List V}, RpL M Z (ns.map T.bl) vs → vs = ns.map V.bl
  | [], _, .nil => rfl
  | _ :: _, _, .cons (.bl _) r => by rw [RpL.bls r]; rfl
theorem RpL.strs {M : Mo} {Z : Hp} : ∀ {ns : List Str} {vs : List V}, RpL M Z (ns.map T.str) vs → vs = ns.map V.str
  | [], _, .nil => rfl
  | _ :: _, _, .cons (.str _) r => by rw [RpL.strs r]; rfl
def minI (n : Int) (ns : List Int) : Int := ns.foldl min n
def maxI (n : Int) (ns : List Int) : Int := ns.foldl max n
theorem minI_mem : ∀ (ns : List Int) (n : Int), minI n ns ∈ n :: ns ∧ ∀ y ∈ n :: ns, minI n ns ≤ y
  | [], n => ⟨List.mem_cons_self, fun y hy => by rw [List.mem_singleton.mp hy]; exact Int.le_refl _⟩
  | m :: ns, n => by
    obtain ⟨h1, h2⟩ := minI_mem ns (min n m)
    have e : minI n (m :: ns) = minI (min n m) ns := rfl
    rw [e]
    refine ⟨?_, fun y hy => ?_⟩
    · rcases List.mem_cons.mp h1 with h | h
      · rw [h]
        by_cases c : n ≤ m
        · rw [Int.min_eq_left c]; exact List.mem_cons_self
        · rw [Int.min_eq_right (by omega)]; exact List.mem_cons_of_mem _ List.mem_cons_self
      · exact List.mem_cons_of_mem _ (List.mem_cons_of_mem _ h)
    · have h3 := h2 _ List.mem_cons_self
      rcases List.mem_cons.mp hy with rfl | hy
      · omega
      · rcases List.mem_cons.mp hy with rfl | hy
        · omega
        · exact h2 y (List.mem_cons_of_mem _ hy)
theorem maxI_mem : ∀ (ns : List Int) (n : Int), maxI n ns ∈ n :: ns ∧ ∀ y ∈ n :: ns, y ≤ maxI n ns
  | [], n => ⟨List.mem_cons_self, fun y hy => by rw [List.mem_singleton.mp hy]; exact Int.le_refl _⟩
  | m :: ns, n => by
    obtain ⟨h1, h2⟩ := maxI_mem ns (max n m)
    have e : maxI n (m :: ns) = maxI (max n m) ns := rfl
    rw [e]
    refine ⟨?_, fun y hy => ?_⟩
    · rcases List.mem_cons.mp h1 with h | h
      · rw [h]
        by_cases c : n ≤ m
        · rw [Int.max_eq_right c]; exact List.mem_cons_of_mem _ List.mem_cons_self
        · rw [Int.max_eq_left (by omega)]; exact List.mem_cons_self
      · exact List.mem_cons_of_mem _ (List.mem_cons_of_mem _ h)
    · have h3 := h2 _ List.mem_cons_self
      rcases List.mem_cons.mp hy with rfl | hy
      · omega
      · rcases List.mem_cons.mp hy with rfl | hy
        · omega
        · exact h2 y (List.mem_cons_of_mem _ hy)
theorem min_uniq {ns : List Int} {a b : Int} (h1 : a ∈ ns) (h2 : ∀ y ∈ ns, a ≤ y) (h3 : b ∈ ns) (h4 : ∀ y ∈ ns, b ≤ y) : a = b := by
  have := h2 b h3
  have := h4 a h1
  omega
theorem max_uniq {ns : List Int} {a b : Int} (h1 : a ∈ ns) (h2 : ∀ y ∈ ns, y ≤ a) (h3 : b ∈ ns) (h4 : ∀ y ∈ ns, y ≤ b) : a = b := by
  have := h2 b h3
  have := h4 a h1
  omega
def fLen : FN := fun ts P => match ts with
  | [.lst xs] => P (.int xs.length)
  | [.tup xs] => P (.int xs.length)
  | [.str z] => P (.int z.length)
  | [.scr n] => P (.int (n : Nat))
  | _ => False
def fMin : FN := fun ts P => match ts with
  | [.int i, .int j] => P (.int (min i j))
  | [.lst xs] => (match ints? xs with
    | some (n :: ns) => P (.int (minI n ns))
    | _ => False)
  | _ => False
def fMax : FN := fun ts P => match ts with
  | [.int i, .int j] => P (.int (max i j))
  | [.lst xs] => (match ints? xs with
    | some (n :: ns) => P (.int (maxI n ns))
    | _ => False)
  | _ => False
def fAbs : FN := fun ts P => match ts with
  | [.int i] => P (.int (if i < 0 then -i else i))
  | _ => False
def fInt : FN := fun ts P => match ts with
  | [.int i] => P (.int i)
  | _ => False
def fAll : FN := fun ts P => match ts with
  | [.lst xs] => (match bls? xs with
    | some bs => P (.bl (bs.all id))
    | _ => False)
  | _ => False
def fAny : FN := fun ts P => match ts with
  | [.lst xs] => (match bls? xs with
    | some bs => P (.bl (bs.any id))
    | _ => False)
  | _ => False
def fSum : FN := fun ts P => match ts with
  | [.lst xs] => (match ints? xs with
    | some ns => P (.int ns.sum)
    | _ => False)
  | _ => False
def fTuple : FN := fun ts P => match ts with
  | [.lst xs] => P (.tup xs)
  | [.tup xs] => P (.tup xs)
  | _ => False
def fList : FN := fun ts P => match ts with
  | [.lst xs] => P (.lst xs)
  | [.tup xs] => P (.lst xs)
  | [.str z] => P (.lst (sgns z))
  | _ => False
section
variable {X : Cx} {M : Mo}
abbrev rLen1 (K : PySem.W.Frag) : List V → Hp → VK → Prop := fun xs H Q => ∃ p ys, xs = [.ref p] ∧ (SqL K H p ys ∨ SqT K H p ys) ∧ Q (.int ys.length) H
abbrev rLen2 : List V → Hp → VK → Prop := fun xs H Q => ∃ z, xs = [.str z] ∧ z.length ≤ sizeLine ∧ Q (.int z.length) H
theorem l_len (hK : X.K = M.K) : CallR X (.builtin "len") (rOrN (rLen1 M.K) rLen2) := caOr (hK ▸ call_len_seq) call_len_str
theorem L_len : CaL (rOrN (rLen1 M.K) rLen2) M fLen := by
  intro Z H vs ts P Q l r h k
  unfold fLen at h
  split at h
  · cases r with
    | cons r rr =>
      cases rr
      cases r with
      | lst g n r => exact .inl ⟨_, _, rfl, .inl (.inl (.inl (l _ _ g))), by rw [← r.len]; exact (k _ h).same l (.int _)⟩
  · cases r with
    | cons r rr =>
      cases rr
      cases r with
      | tup g n r => exact .inl ⟨_, _, rfl, .inr (.inl (.inl (l _ _ g))), by rw [← r.len]; exact (k _ h).same l (.int _)⟩
  · cases r with
    | cons r rr =>
      cases rr
      cases r with
      | str hz => exact .inr ⟨_, rfl, hz, (k _ h).same l (.int _)⟩
  · cases r with
    | cons r rr =>
      cases rr
      cases r with
      | scr hs => exact .inl ⟨_, _, rfl, .inl (Same.sl l hs), (k _ h).same l (.int _)⟩
  · exact h.elim
abbrev rMin2 : List V → Hp → VK → Prop := fun xs H Q => ∃ i j, xs = [.int i, .int j] ∧ Q (.int (if j < i then j else i)) H
abbrev rMx2 : List V → Hp → VK → Prop := fun xs H Q => ∃ i j, xs = [.int i, .int j] ∧ Q (.int (if j > i then j else i)) H
theorem l_min (hK : X.K = M.K) (hc : X.calm = true) : CallR X (.builtin "min") (rOrN rMin2 (rMin M.K)) := caOr (call_min2 hc) (hK ▸ cr_min hc)
theorem l_max (hK : X.K = M.K) (hc : X.calm = true) : CallR X (.builtin "max") (rOrN rMx2 (rMax M.K)) := caOr (call_max2 hc) (hK ▸ cr_max hc)
theorem L_min : CaL (rOrN rMin2 (rMin M.K)) M fMin := by
  intro Z H vs ts P Q l r h k
  unfold fMin at h
  split at h
  · cases r with
    | cons r rr => cases rr with
      | cons r' rr =>
        cases rr; cases r; cases r'
        rename_i i j
        refine .inl ⟨_, _, rfl, ?_⟩
        have e : (if j < i then j else i) = min i j := by
          rw [Int.min_def]
          split <;> split <;> omega
        rw [e]
        exact (k _ h).same l (.int _)
  · split at h
    · rename_i n ns e
      cases r with
      | cons r rr =>
        cases rr
        cases r with
        | lst g n' r =>
          rw [ints?_eq e] at r
          have er := r.ints
          subst er
          refine .inr ⟨_, n :: ns, rfl, .inl (.inl (l _ _ g)), Nat.succ_pos _, fun m h1 h2 => ?_⟩
          have := minI_mem ns n
          rw [min_uniq h1 h2 this.1 this.2]
          exact (k _ h).same l (.int _)
    · exact h.elim
  · exact h.elim
theorem L_max : CaL (rOrN rMx2 (rMax M.K)) M fMax := by
  intro Z H vs ts P Q l r h k
  unfold fMax at h
  split at h
  · cases r with
    | cons r rr => cases rr with
      | cons r' rr =>
        cases rr; cases r; cases r'
        rename_i i j
        refine .inl ⟨_, _, rfl, ?_⟩
        have e : (if j > i then j else i) = max i j := by
          rw [Int.max_def]
          split <;> split <;> omega
        rw [e]
        exact (k _ h).same l (.int _)
  · split at h
    · rename_i n ns e
      cases r with
      | cons r rr =>
        cases rr
        cases r with
        | lst g n' r =>
          rw [ints?_eq e] at r
          have er := r.ints
          subst er
          refine .inr ⟨_, n :: ns, rfl, .inl (.inl (l _ _ g)), Nat.succ_pos _, fun m h1 h2 => ?_⟩
          have := maxI_mem ns n
          rw [max_uniq h1 h2 this.1 this.2]
          exact (k _ h).same l (.int _)
    · exact h.elim
  · exact h.elim
theorem L_abs : CaL (fun xs H Q => ∃ i, xs = [.int i] ∧ Q (.int (if i < 0 then -i else i)) H) M fAbs := by
  intro Z H vs ts P Q l r h k
  unfold fAbs at h
  split at h
  · cases r with
    | cons r rr =>
      cases rr; cases r
      exact ⟨_, rfl, (k _ h).same l (.int _)⟩
  · exact h.elim
theorem L_int : CaL (fun xs H Q => (∃ i, xs = [.int i] ∧ Q (.int i) H) ∨ ∃ k, xs = [.bl k] ∧ Q (.int (if k then 1 else 0)) H) M fInt := by
  intro Z H vs ts P Q l r h k
  unfold fInt at h
  split at h
  · cases r with
    | cons r rr =>
      cases rr; cases r
      exact .inl ⟨_, rfl, (k _ h).same l (.int _)⟩
  · exact h.elim
theorem l_all (hK : X.K = M.K) (hc : X.calm = true) : CallR X (.builtin "all") (rAll M.K) := hK ▸ cr_all hc
theorem l_any (hK : X.K = M.K) (hc : X.calm = true) : CallR X (.builtin "any") (rAny M.K) := hK ▸ cr_any hc
theorem l_sum (hK : X.K = M.K) (hc : X.calm = true) : CallR X (.builtin "sum") (rSum M.K) := hK ▸ cr_sum hc
theorem L_all : CaL (rAll M.K) M fAll := by
  intro Z H vs ts P Q l r h k
  unfold fAll at h
  split at h
  · split at h
    · rename_i bs e
      cases r with
      | cons r rr =>
        cases rr
        cases r with
        | lst g n' r =>
          rw [bls?_eq e] at r
          have er := r.bls
          subst er
          exact ⟨_, bs, rfl, .inl (.inl (l _ _ g)), (k _ h).same l (.bl _)⟩
    · exact h.elim
  · exact h.elim
theorem L_any : CaL (rAny M.K) M fAny := by
  intro Z H vs ts P Q l r h k
  unfold fAny at h
  split at h
  · split at h
    · rename_i bs e
      cases r with
      | cons r rr =>
        cases rr
        cases r with
        | lst g n' r =>
          rw [bls?_eq e] at r
          have er := r.bls
          subst er
          exact ⟨_, bs, rfl, .inl (.inl (l _ _ g)), (k _ h).same l (.bl _)⟩
    · exact h.elim
  · exact h.elim
theorem L_sum : CaL (rSum M.K) M fSum := by
  intro Z H vs ts P Q l r h k
  unfold fSum at h
  split at h
  · split at h
    · rename_i bs e
      cases r with
      | cons r rr =>
        cases rr
        cases r with
        | lst g n' r =>
          rw [ints?_eq e] at r
          have er := r.ints
          subst er
          exact ⟨_, bs, rfl, .inl (.inl (l _ _ g)), (k _ h).same l (.int _)⟩
    · exact h.elim
  · exact h.elim
abbrev rTupO (K : PySem.W.Frag) : List V → Hp → VK → Prop := fun xs H Q => ∃ p ys, xs = [.ref p] ∧ ((SqL K H p ys ∧ ∀ l, H l = none → Q (.ref l) (upd H l (.tup ys))) ∨ (SqT K H p ys ∧ Q (.ref p) H))
theorem l_tuple (hK : X.K = M.K) : CallR X (.type "tuple") (rTupO M.K) := hK ▸ call_tuple_of
theorem L_tuple : CaL (rTupO M.K) M fTuple := by
  intro Z H vs ts P Q l r h k
  unfold fTuple at h
  split at h
  · cases r with
    | cons r rr =>
      cases rr
      cases r with
      | lst g n r => exact ⟨_, _, rfl, .inl ⟨.inl (.inl (l _ _ g)), fun p np => (k _ h).made l np fun e s => .tup s n (r.mono e)⟩⟩
  · cases r with
    | cons r rr =>
      cases rr
      cases r with
      | tup g n r => exact ⟨_, _, rfl, .inr ⟨.inl (.inl (l _ _ g)), (k _ h).same l (.tup g n r)⟩⟩
  · exact h.elim
abbrev rLstO (K : PySem.W.Frag) : List V → Hp → VK → Prop := fun xs H Q => ∃ p ys, xs = [.ref p] ∧ (SqL K H p ys ∨ SqT K H p ys) ∧ ∀ l, H l = none → Q (.ref l) (upd H l (.lst ys))
abbrev rLstS : List V → Hp → VK → Prop := fun xs H Q => ∃ z : Str, xs = [.str z] ∧ z.length ≤ sizeLine ∧ ∀ l, H l = none → Q (.ref l) (upd H l (.lst (z.cps.toList.map fun c => V.str ⟨#[c]⟩)))
theorem l_list (hK : X.K = M.K) (hc : X.calm = true) : CallR X (.type "list") (rOrN (rLstO M.K) rLstS) := caOr (hK ▸ call_list_of) (call_listS hc)
theorem rp_sgns {Z : Hp} : ∀ cs : List Nat, RpL M Z (cs.map fun c => T.str ⟨#[c]⟩) (cs.map fun c => V.str ⟨#[c]⟩)
  | [] => .nil
  | c :: cs => .cons (.str (by show 1 ≤ sizeLine; decide)) (rp_sgns cs)
theorem L_list : CaL (rOrN (rLstO M.K) rLstS) M fList := by
  intro Z H vs ts P Q l r h k
  unfold fList at h
  split at h
  · cases r with
    | cons r rr =>
      cases rr
      cases r with
      | lst g n r => exact .inl ⟨_, _, rfl, .inl (.inl (.inl (l _ _ g))), fun p np => (k _ h).made l np fun e s => .lst s n (r.mono e)⟩
  · cases r with
    | cons r rr =>
      cases rr
      cases r with
      | tup g n r => exact .inl ⟨_, _, rfl, .inr (.inl (.inl (l _ _ g))), fun p np => (k _ h).made l np fun e s => .lst s n (r.mono e)⟩
  · cases r with
    | cons r rr =>
      cases rr
      cases r with
      | str hz => exact .inr ⟨_, rfl, hz, fun p np => (k _ h).made l np fun e s => .lst s (by rw [sgns_len]; exact hz) (rp_sgns _)⟩
  · exact h.elim
end
/-- list(x) as one's own -/
theorem qf_list {X : Cx} {G : Gh} {e : Expr} {tA : TA3} {p pos : Pos} (hK : X.K = G.M.K) (hc : X.calm = true) (hg : Gl X "list") (hm : X.mg "list" = none) (ha : PA X [e] (upA G tA)) 
    (he : starEach [e] X.env = (false, eval e X.env) :: starEach [] X.env := by rfl) (hpl : (backTo pos (starEach [] X.env)).any (·.1) = false := by rfl) : PE X (.Call (.Name "list" p) [e] [] pos) (upF G (tN fList tA)) :=
  PE.imp (pe_callTy (l_list hK hc) hg hm (by decide +kernel) ha (by decide) (by decide) he hpl) fun σ H Q ⟨px, Z, s, Q3, fm, h, k⟩ => ⟨px, Z, s, _, fm, h, fun ts s1 hf vs Z1 H1 e1 f1 r1 => by
    unfold fList at hf
    split at hf
    · cases r1 with
      | cons r rr =>
        cases rr
        cases r with
        | lst g n r => exact .inl ⟨_, _, rfl, .inl (.inl (.inl (f1.le _ _ g))), fun p np => let ⟨f2, hp, hno⟩ := f1.mute np; k _ s1 hf p Z1 _ e1 f2 hp hno ⟨_, upd_same, n, r⟩⟩
    · cases r1 with
      | cons r rr =>
        cases rr
        cases r with
        | tup g n r => exact .inl ⟨_, _, rfl, .inr (.inl (.inl (f1.le _ _ g))), fun p np => let ⟨f2, hp, hno⟩ := f1.mute np; k _ s1 hf p Z1 _ e1 f2 hp hno ⟨_, upd_same, n, r⟩⟩
    · cases r1 with
      | cons r rr =>
        cases rr
        cases r with
        | str hz => exact .inr ⟨_, rfl, hz, fun p np => let ⟨f2, hp, hno⟩ := f1.mute np; k _ s1 hf p Z1 _ e1 f2 hp hno ⟨_, upd_same, by rw [sgns_len]; exact hz, rp_sgns _⟩⟩
    · exact hf.elim⟩
/-! ### isinstance of built-in kinds -/
inductive Ki where
  | int | bool | str | list | tuple | dict
def Ki.nm : Ki → String
  | .int => "int"
  | .bool => "bool"
  | .str => "str"
  | .list => "list"
  | .tuple => "tuple"
  | .dict => "dict"
def isiT (k : Ki) : T → Option Bool
  | .non => some false
  | .bl _ => (match k with
    | .int => some true
    | .bool => some true
    | _ => some false)
  | .int _ => (match k with
    | .int => some true
    | _ => some false)
  | .str _ => (match k with
    | .str => some true
    | _ => some false)
  | .lst _ => (match k with
    | .list => some true
    | _ => some false)
  | .tup _ => (match k with
    | .tuple => some true
    | _ => some false)
  | .dic _ _ => (match k with
    | .dict => some true
    | _ => some false)
  | _ => none
def fIsi (k : Ki) : F1 := fun x P => match isiT k x with
  | some b => P (.bl b)
  | none => False
def fIsi2 (k j : Ki) : F1 := fun x P => match isiT k x, isiT j x with
  | some b, some c => P (.bl (b || c))
  | _, _ => False
def tyT : T → Option String
  | .non => some "NoneType"
  | .bl _ => some "bool"
  | .int _ => some "int"
  | .str _ => some "str"
  | .lst _ => some "list"
  | .tup _ => some "tuple"
  | .dic _ _ => some "dict"
  | _ => none
theorem isi_ty {k : Ki} {t : T} {b : Bool} (h : isiT k t = some b) : ∃ ty, tyT t = some ty := by
  cases t <;> first | exact ⟨_, rfl⟩ | cases h
theorem rp_ty {M : Mo} {Z H : Hp} {t : T} {v : V} {ty : String} (l : Same Z H) (r : Rp M Z t v) (h : tyT t = some ty) : TyX M.K H v (.type ty) := by
  cases r with
  | non => cases h; exact .base .non
  | bl c => cases h; exact .base (.bl c)
  | int c => cases h; exact .base (.int c)
  | str c => cases h; exact .base (.str _)
  | lst g n r => cases h; exact .base (.lst (l _ _ g))
  | tup g n r => cases h; exact .base (.tup (l _ _ g))
  | dic g n r => cases h; exact .base (.dK (l _ _ g))
  | _ => cases h
theorem isi_kit {K : PySem.W.Frag} {k : Ki} {t : T} {b : Bool} {ty : String} (h : isiT k t = some b) (h2 : tyT t = some ty) : PySem.W.kitOne K (.type ty) (.type k.nm) = some b := by
  cases t <;> cases h2 <;> cases k <;> cases h <;> exact kit_ty (by decide +kernel)
section
variable {X : Cx} {G : Gh} {e e2 : Expr} {te : TE3} {p p2 p3 pos tpos : Pos} {kk : Nat}
theorem q_isi {k : Ki} {x : Str} (hM : G.M = ⟨X.K, X.mg, G.M.D⟩) (hg : Gl X "isinstance") (hm : X.mg "isinstance" = none) (he : PE X e (up G te)) (hT : PE X (.Name x p2) (tC (.ty k.nm)))
    (hst : starEach [e, .Name x p2] X.env = (false, eval e X.env) :: starEach [.Name x p2] X.env := by rfl) (hst2 : starEach [.Name x p2] X.env = (false, eval (.Name x p2) X.env) :: starEach [] X.env := by rfl) (hpl : (backTo pos (starEach [.Name x p2] X.env)).any (·.1) = false := by rfl) :
    PE X (.Call (.Name "isinstance" p) [e, .Name x p2] [] pos) (up G (tUn3 (fIsi k) te)) :=
  PE.imp (pe_callB call_isi hg hm (by decide +kernel) (pa_cons he (pa_cons hT pa_nil hst2) hst) (by decide) (by decide) hst hpl) fun σ H Q ⟨px, Z, s, Q3, fm, h, kx⟩ => ⟨px, Z, s, _, fm, h, fun t s1 hf v Z1 H1 e1 f1 r1 => by
    unfold fIsi at hf
    split at hf
    · rename_i b hb
      obtain ⟨ty, hty⟩ := isi_ty hb
      have h1 := rp_ty f1.le r1 hty
      rw [show G.M.K = X.K by rw [hM]] at h1
      exact ⟨v, _, _, _, b, rfl, .ty k.nm, h1, isi_kit hb hty, kx _ s1 hf _ Z1 H1 e1 f1 (.bl _)⟩
    · exact hf.elim⟩
theorem q_isi2 {k j : Ki} {x y : Str} (hM : G.M = ⟨X.K, X.mg, G.M.D⟩) (hg : Gl X "isinstance") (hm : X.mg "isinstance" = none) (he : PE X e (up G te)) (hT : PE X (.Name x p2) (tC (.ty k.nm))) (hT2 : PE X (.Name y p3) (tC (.ty j.nm)))
    (hst : starEach [e, .Tuple [.Name x p2, .Name y p3] kk tpos] X.env = (false, eval e X.env) :: starEach [.Tuple [.Name x p2, .Name y p3] kk tpos] X.env := by rfl) (hpl : (backTo pos (starEach [.Tuple [.Name x p2, .Name y p3] kk tpos] X.env)).any (·.1) = false := by rfl) 
    (ha : PA X [.Tuple [.Name x p2, .Name y p3] kk tpos] (tCons (tTup (tCons (tC (.ty k.nm)) (tCons (tC (.ty j.nm)) tNil))) tNil) := by exact pa_cons (pe_tup (pa_cons (by assumption) (pa_cons (by assumption) pa_nil))) pa_nil) :
    PE X (.Call (.Name "isinstance" p) [e, .Tuple [.Name x p2, .Name y p3] kk tpos] [] pos) (up G (tUn3 (fIsi2 k j) te)) :=
  PE.imp (pe_callB call_isiT hg hm (by decide +kernel) (pa_cons he ha hst) (by decide) (by decide) hst hpl) fun σ H Q ⟨px, Z, s, Q3, fm, h, kx⟩ => ⟨px, Z, s, _, fm, h, fun t s1 hf v Z1 H1 e1 f1 r1 => by
    refine ⟨by show 2 ≤ sizeLine; decide, fun tp ntp => ?_⟩
    unfold fIsi2 at hf
    split at hf
    · rename_i b c hb hc
      obtain ⟨e2, f2⟩ := f1.new (o := .tup [.ty k.nm, .ty j.nm]) ntp
      obtain ⟨ty, hty⟩ := isi_ty hb
      have h1 := rp_ty f2.le (r1.mono e2) hty
      rw [show G.M.K = X.K by rw [hM]] at h1
      have h2 : PySem.W.kitOne X.K (.type ty) (.type k.nm) = some b := isi_kit hb hty
      have h2' : PySem.W.kitOne X.K (.type ty) (.type j.nm) = some c := isi_kit hc hty
      refine ⟨v, tp, _, .type ty, _, b || c, rfl, upd_same, .cons (.ty k.nm) (.cons (.ty j.nm) .nil), h1, ?_, kx _ s1 hf _ _ _ (e1.trans e2) f2 (.bl _)⟩
      exact kitAny_cons h2 (fun hb0 => by
        subst hb0
        rw [Bool.false_or]
        exact kitAny_cons h2' (fun hc0 => by subst hc0; exact kitAny_nil) fun hc1 => hc1) fun hb1 => by rw [hb1]; rfl
    · exact hf.elim⟩
end
/-! ### sep.join(texts) -/
@[irreducible] def fJoin (a : Str) : F1 := fun y P => match y with
  | .lst ts => (match strs? ts with
    | some ys => ((ys.map (·.length)).sum + ys.length * a.length ≤ 16777216 ∧ (Txt.join a ys).length ≤ sizeLine) ∧ P (.str (Txt.join a ys))
    | _ => False)
  | _ => False
/-- a method of a text -/
def tMs (f : Str → F1) (ta tb : TE3) : TE3 := fun s Q => ta s fun x s1 => match x with
  | .str a => tb s1 fun y s2 => f a y fun t => Q t s2
  | _ => False
theorem q_join {X : Cx} {G : Gh} {o e : Expr} {ta tb : TE3} {apos cpos : Pos} (hM : G.M = ⟨X.K, X.mg, G.M.D⟩) (ho : PE X o (up G ta)) (he : PE X e (up G tb))
    (hbase : attributeBase o "join" X.env (eval o X.env) = eval o X.env := by rfl)
    (hfew : ((backTo cpos (starEach [e] X.env)).all (fun x => !x.1) && (backToKw cpos (keywordEach [] X.env)).all (fun x => x.1.isSome) && decide ([e].length + ([] : List Keyword).length + (if ([] : List Keyword).isEmpty then 0 else 1) < 30)) = true := by rfl)
    (hline : (apos.endLine == cpos.line) = true := by rfl) (hs : starEach [e] X.env = (false, eval e X.env) :: starEach [] X.env := by rfl) (hplain : (backTo cpos (starEach [] X.env)).any (·.1) = false := by rfl) :
    PE X (.Call (.Attribute o "join" apos) [e] [] cpos) (up G (tMs fJoin ta tb)) :=
  PE.imp (pe_bm PySem.F.plainAttrs_str PySem.F.slot_str_join PySem.F.type_str_join mt_join ho (pa_cons he pa_nil hs) hbase hfew hline hs hplain) fun σ H Q ⟨px, Z, s, Q3, fm, h, k⟩ => ⟨px, Z, s, _, fm, h, fun x s1 h1 v Z1 H1 e1 f1 r1 => by
    split at h1
    · rename_i a
      cases r1
      refine ⟨rfl, px, Z1, s1, _, f1, h1, fun y s2 hf w Z2 H2 e2 f2 r2 => ?_⟩
      unfold fJoin at hf
      split at hf
      · split at hf
        · rename_i ys e
          cases r2 with
          | lst g n r =>
            rw [strs?_eq e] at r
            have er := r.strs
            subst er
            exact ⟨_, _, ys, rfl, rfl, .inl (.inl (.inl (f2.le _ _ g))), hf.1.1, k _ s2 hf.2 _ Z2 H2 (e1.trans e2) f2 (.str hf.1.2)⟩
        · exact hf.elim
      · exact hf.elim
    · exact h1.elim⟩
end G69
namespace G69
open PySem PySem.Spec PyProof.Rows L2
/-! ### the drawing -/
def w_L_take : Sp3 := fun ts Q _ => match ts with
  | [.drw, .int n] => (0 < n ∧ n < 1073741824) ∧ ∀ r, 0 ≤ r → r < n → Q (.int r)
  | _ => False
theorem core_draw {M : Mo} {Z H H' : Hp} {d l c : Addr} (hD : M.D = some (d, l, c)) (le : Same Z H) (dr : DrOk M.D H Z) (D' : Dr H' d l c) (k : Kp [d, l] H H') : Core ⟨M, H, Z, 0⟩ Z H' := by
  have dr2 := dr
  rw [hD] at dr
  refine ⟨fun a o e => k a o (le a o e) (not2 (ne_of_none e dr.2.1) (ne_of_none e dr.2.2.1)), fun _ _ q => q, fun a h1 h2 => absurd h1 h2, ?_, ?_⟩
  · show Kp (DS M.D) H H'
    rw [hD]
    exact k
  · show DrOk M.D H' Z
    rw [hD]
    exact ⟨D', dr.2⟩
theorem lift_take {K : PySem.W.Frag} {mg : Str → Option Value} : ∀ vs H Q E, lift K mg w_L_take vs H Q E → spTake vs H Q E := by
  rintro vs H Q E ⟨D, Z, ts, P3, E3, le, dr, r, h, q, _⟩
  unfold w_L_take at h
  split at h
  · rename_i n
    cases r with
    | cons r rr =>
      cases rr with
      | cons r' rr =>
        cases rr
        cases r'
        cases r with
        | drw hD =>
          rename_i d l c
          have hD : D = some (d, l, c) := hD
          subst hD
          exact ⟨d, l, c, n, rfl, dr.1, h.1.1, h.1.2, fun r H' r0 r1 D' k => q _ (h.2 r r0 r1) _ Z H' (core_draw (M := ⟨K, mg, some (d, l, c)⟩) rfl le dr D' k) (.int _)⟩
  · exact h.elim
/-! ### fields -/
def tFd (c j : Nat) (te : TE3) : TE3 := fun s Q => te s fun t s1 => match t with
  | .ins c' ts => (match Nat.beq c c', ts[j]? with
    | true, some t => Q t s1
    | _, _ => False)
  | _ => False
theorem lookup_zip : ∀ {ns : List Str} {vs : List V} {j : Nat} {f : Str} {v : V}, ns.Nodup → ns[j]? = some f → vs[j]? = some v → (ns.zip vs).lookup f = some v
  | n :: ns, w :: vs, 0, f, v, _, h1, h2 => by
    cases h1; cases h2
    rw [List.zip_cons_cons, List.lookup_cons, beq_self_eq_true]
  | n :: ns, w :: vs, j + 1, f, v, nd, h1, h2 => by
    have ne : (f == n) = false := by
      rw [beq_eq_false_iff_ne]
      rintro rfl
      exact (List.nodup_cons.mp nd).1 (List.mem_of_getElem? (i := j) h1)
    rw [List.zip_cons_cons, List.lookup_cons, ne]
    exact lookup_zip (List.nodup_cons.mp nd).2 h1 h2
theorem lookup_no : ∀ {ns : List Str} {vs : List V} {f : Str}, f ∉ ns → (ns.zip vs).lookup f = none
  | [], _, _, _ => rfl
  | _ :: _, [], _, _ => rfl
  | n :: ns, v :: vs, f, h => by
    have ne : (f == n) = false := by
      rw [beq_eq_false_iff_ne]
      rintro rfl
      exact h List.mem_cons_self
    rw [List.zip_cons_cons, List.lookup_cons, ne]
    exact lookup_no fun m => h (List.mem_cons_of_mem _ m)
theorem zip_put : ∀ {ns : List Str} {vs : List V} {f : Str} {v : V}, ns.Nodup → ns[vs.length]? = some f → putF f v (ns.zip vs) = ns.zip (vs ++ [v])
  | n :: ns, [], f, v, _, h => by
    cases h
    rw [List.zip_nil_right, List.nil_append, List.zip_cons_cons, List.zip_nil_right]
    rfl
  | n :: ns, w :: vs, f, v, nd, h => by
    have ne : n ≠ f := by
      rintro rfl
      exact (List.nodup_cons.mp nd).1 (List.mem_of_getElem? (i := vs.length) h)
    show putF f v ((n, w) :: ns.zip vs) = (n, w) :: ns.zip (vs ++ [v])
    rw [putF, if_neg ne, zip_put (List.nodup_cons.mp nd).2 h]
  | [], vs, f, v, _, h => by cases h
/-- what of a class must be known: its place, and that the field is no attribute of the class -/
structure Cf (K : PySem.W.Frag) (mg : Str → Option Value) (c : Nat) : Prop where
  ex : ∃ C, mg (cn c) = some (.ref C)
  cl : ∀ C, mg (cn c) = some (.ref C) → Cls K C
  no : ∀ C, mg (cn c) = some (.ref C) → ∀ f ∈ fnm c, NoAttr K C f
theorem cfSame {mg : Str → Option Value} {c : Nat} {C C' : Addr} (h : mg (cn c) = some (.ref C)) (h' : mg (cn c) = some (.ref C')) : C = C' := by
  rw [h] at h'
  cases h'
  rfl
section
variable {X : Cx} {G : Gh} {e : Expr} {te : TE3} {c j : Nat} {f : Str} {pos : Pos}
theorem q_fd (hM : G.M = ⟨X.K, X.mg, G.M.D⟩) (F : Cf X.K X.mg c) (he : PE X e (up G te)) (hj : (fnm c)[j]? = some f) (hn : (fnm c).Nodup) (hb : attributeBase e f X.env (eval e X.env) = eval e X.env := by rfl) : PE X (.Attribute e f pos) (up G (tFd c j te)) :=
  PE.imp (pe_fld he hb) fun σ H Q ⟨px, Z, s, Q3, fm, h, k⟩ => ⟨px, Z, s, _, fm, h, fun t s1 ht v Z1 H1 e1 f1 r1 => by
    split at ht
    · split at ht
      · rename_i c' ts _ _ t hc hts
        have ec : c = c' := Nat.eq_of_beq_eq_true hc
        subst ec
        cases r1 with
        | ins g1 g2 g3 r =>
          rw [hM] at g1
          obtain ⟨w, hw, rw'⟩ := r.get hts
          exact ⟨_, _, _, _, w, rfl, f1.le _ _ g2, F.cl _ g1, F.no _ g1 f (List.mem_of_getElem? hj), lookup_zip hn hj hw, k _ s1 ht w Z1 H1 e1 f1 rw'⟩
      · exact ht.elim
    · exact ht.elim⟩
end
/-! ### methods, properties -/
structure Mt3 (P : Program) (w : World) (K : PySem.W.Frag) (mg : Str → Option Value) (base : Heap) (c : Nat) (m : Str) (ps : List Str) (k : Nat) (sp : Sp3) : Prop where
  cf : Cf K mg c
  no : m ∉ fnm c
  ex : ∃ (C f : Addr) (fd : FuncData), mg (cn c) = some (.ref C) ∧ FnOk P w K mg base (L2.CX P w) k f fd ps (lift K mg sp) ∧ Meth K C m f ∧ Binds K fd ps [] ∧ PySem.W.fnIn K f = true
structure Pr3 (P : Program) (w : World) (K : PySem.W.Frag) (mg : Str → Option Value) (base : Heap) (c : Nat) (m : Str) (k : Nat) (sp : Sp3) : Prop where
  cf : Cf K mg c
  ex : ∃ (C p g : Addr) (fd : FuncData), mg (cn c) = some (.ref C) ∧ PropOf K C m p g ∧ FnOk P w K mg base (L2.CX P w) k g fd ["self"] (lift K mg sp) ∧ Binds K fd ["self"] []
def tMt (c : Nat) (sp : Sp3) (E : XK3) (te : TE3) (ta : TA3) : TE3 := fun s Q => te s fun t s1 => match t with
  | .ins c' ts => (match Nat.beq c c' with
    | true => ta s1 fun as s2 => sp (.ins c' ts :: as) (fun r => Q r s2) E
    | false => False)
  | _ => False
def tPr (c : Nat) (sp : Sp3) (te : TE3) : TE3 := fun s Q => te s fun t s1 => match t with
  | .ins c' ts => (match Nat.beq c c' with
    | true => sp [.ins c' ts] (fun r => Q r s1) E03
    | false => False)
  | _ => False
/-- x[y] by an own __getitem__ -/
def tGi (c : Nat) (sp : Sp3) (te tb : TE3) : TE3 := fun s Q => te s fun t s1 => tb s1 fun y s2 => match t with
  | .ins c' ts => (match Nat.beq c c' with
    | true => sp [.ins c' ts, y] (fun r => Q r s2) E03
    | false => False)
  | _ => False
section
variable {X : Cx} {G : Gh} {o e : Expr} {es : List Expr} {te tb : TE3} {tA : TA3} {c k j : Nat} {m : Str} {ps : List Str} {sp : Sp3} {E3 : XK3} {E : XK} {pos apos : Pos}
theorem q_mt {pl : Sem Bool} (hM : G.M = ⟨X.K, X.mg, G.M.D⟩) (M : Mt3 X.prog X.w X.K X.mg X.base c m ps k sp) (hr : Room j X.A) (hj : k ≤ j) (L : Lets X G E3 E) (ho : PE X o (up G te)) (ha : PA X (e :: es) (upA G tA))
    (hst : starEach (e :: es) X.env = (false, eval e X.env) :: starEach es X.env := by rfl) (hpl : (backTo pos (starEach es X.env)).any (·.1) = false := by rfl)
    (ht : eval (.Call (.Attribute o m apos) (e :: es) [] pos) X.env = (do
      let ov ← eval o X.env
      standAt apos.atName
      let (f, first) ← holding [ov] (getMethod ov m pl)
      callWith pos f first (backTo pos (starEach (e :: es) X.env)) (backToKw pos (keywordEach [] X.env))) := by rfl) :
    PE X (.Call (.Attribute o m apos) (e :: es) [] pos) (up G (tMt c sp E3 te tA)) := by
  obtain ⟨C, f, fd, g, F, hm, hb, _⟩ := M.ex
  exact PE.imp (pe_meth (pl := pl) ho (M.cf.cl C g) hm F (hr.mono hj) hb .nil L.pass ha hst hpl ht) fun σ H Q ⟨px, Z, s, Q3, fm, h, k⟩ => ⟨px, Z, s, _, fm, h, fun t s1 ht v Z1 H1 e1 f1 r1 => by
    split at ht
    · split at ht
      · rename_i c' ts _ hc
        have ec : c = c' := Nat.eq_of_beq_eq_true hc
        subst ec
        cases r1 with
        | ins g1 g2 g3 r =>
          have g1' := g1
          rw [hM] at g1'
          have eC := cfSame g g1'
          subst eC
          refine ⟨_, _, _, rfl, f1.le _ _ g2, lookup_no M.no, px, Z1, s1, _, f1, ht, fun as s2 hs vs Z2 H2 e2 f2 r2 => ?_⟩
          show lift X.K X.mg sp (_ :: (vs ++ [])) H2 Q E
          rw [List.append_nil]
          exact lift_in hM f2 (.cons ((Rp.ins g1 g2 g3 r).mono e2) r2) hs L.imp fun t ht v Z' H' e' f' r' => k t s2 ht v Z' H' (e1.trans (e2.trans e')) f' r'
      · exact ht.elim
    · exact ht.elim⟩
theorem q_mt0 {pl : Sem Bool} (hM : G.M = ⟨X.K, X.mg, G.M.D⟩) (M : Mt3 X.prog X.w X.K X.mg X.base c m ps k sp) (hr : Room j X.A) (hj : k ≤ j) (L : Lets X G E3 E) (ho : PE X o (up G te))
    (ht : eval (.Call (.Attribute o m apos) [] [] pos) X.env = (do
      let ov ← eval o X.env
      standAt apos.atName
      let (f, first) ← holding [ov] (getMethod ov m pl)
      callWith pos f first (backTo pos (starEach [] X.env)) (backToKw pos (keywordEach [] X.env))) := by rfl) :
    PE X (.Call (.Attribute o m apos) [] [] pos) (up G (tMt c sp E3 te aNil)) := by
  obtain ⟨C, f, fd, g, F, hm, hb, _⟩ := M.ex
  exact PE.imp (pe_meth0 (pl := pl) ho (M.cf.cl C g) hm F (hr.mono hj) hb .nil L.pass ht) fun σ H Q ⟨px, Z, s, Q3, fm, h, k⟩ => ⟨px, Z, s, _, fm, h, fun t s1 ht v Z1 H1 e1 f1 r1 => by
    split at ht
    · split at ht
      · rename_i c' ts _ hc
        have ec : c = c' := Nat.eq_of_beq_eq_true hc
        subst ec
        cases r1 with
        | ins g1 g2 g3 r =>
          have g1' := g1
          rw [hM] at g1'
          have eC := cfSame g g1'
          subst eC
          refine ⟨_, _, _, rfl, f1.le _ _ g2, lookup_no M.no, ?_⟩
          exact lift_in hM f1 (.cons (Rp.ins g1 g2 g3 r) .nil) ht L.imp fun t ht v Z' H' e' f' r' => k t s1 ht v Z' H' (e1.trans e') f' r'
      · exact ht.elim
    · exact ht.elim⟩
theorem q_pr (hM : G.M = ⟨X.K, X.mg, G.M.D⟩) (M : Pr3 X.prog X.w X.K X.mg X.base c m k sp) (hr : Room j X.A) (hj : k + 1 ≤ j) (ho : PE X o (up G te)) (hab : attributeBase o m X.env (eval o X.env) = eval o X.env := by rfl) :
    PE X (.Attribute o m pos) (up G (tPr c sp te)) := by
  obtain ⟨C, p, g', fd, g, hp, F, hb⟩ := M.ex
  exact PE.imp (pe_prop (E := E0) ho (M.cf.cl C g) hp (FnOk.to0 F) (hr.mono hj) hb .nil pass0 hab) fun σ H Q ⟨px, Z, s, Q3, fm, h, k⟩ => ⟨px, Z, s, _, fm, h, fun t s1 ht v Z1 H1 e1 f1 r1 => by
    split at ht
    · split at ht
      · rename_i c' ts _ hc
        have ec : c = c' := Nat.eq_of_beq_eq_true hc
        subst ec
        cases r1 with
        | ins g1 g2 g3 r =>
          have g1' := g1
          rw [hM] at g1'
          have eC := cfSame g g1'
          subst eC
          refine ⟨_, _, _, rfl, f1.le _ _ g2, ?_⟩
          exact lift_in hM f1 (.cons (Rp.ins g1 g2 g3 r) .nil) ht (fun _ _ _ h => h.elim) fun t ht v Z' H' e' f' r' => k t s1 ht v Z' H' (e1.trans e') f' r'
      · exact ht.elim
    · exact ht.elim⟩
theorem q_gt (hM : G.M = ⟨X.K, X.mg, G.M.D⟩) (M : Mt3 X.prog X.w X.K X.mg X.base c "__getitem__" ps k sp) (hr : Room j X.A) (hj : k + 1 ≤ j) (ho : PE X o (up G te)) (he : PE X e (up G tb))
    (hs : ∀ o i, subscripted e true o i = runValue (.builtin "lifetime.subscript" ⟨[o, i], []⟩) := by intro _ _; rfl) : PE X (.Subscript o e pos) (up G (tGi c sp te tb)) := by
  obtain ⟨C, f, fd, g, F, hm, hb, hf⟩ := M.ex
  exact PE.imp (pe_ixO (C := C) (sp := fun vs H Q _ => lift X.K X.mg sp vs H Q E0) (k := k) ho he ⟨f, fd, FnOk.to0 F, hm, hb, hf⟩ hr hj hs) fun σ H Q ⟨px, Z, s, Q3, fm, h, k⟩ => ⟨px, Z, s, _, fm, h, fun t s1 ht0 v Z1 H1 e1 f1 r1 => ⟨px, Z1, s1, _, f1, ht0, fun y s2 ht w Z2 H2 e2 f2 r2 => by
    split at ht
    · split at ht
      · rename_i hc
        have ec := Nat.eq_of_beq_eq_true hc
        subst ec
        have r1' := r1.mono e2
        cases r1' with
        | ins g1 g2 g3 r =>
          have g1' := g1
          rw [hM] at g1'
          have eC := cfSame g g1'
          subst eC
          refine ⟨_, _, _, rfl, f2.le _ _ g2, ?_⟩
          exact lift_in hM f2 (.cons (Rp.ins g1 g2 g3 r) (.cons r2 .nil)) ht (fun _ _ _ h => h.elim) fun t ht v Z' H' e' f' r' => k t s2 ht v Z' H' (e1.trans (e2.trans e')) f' r'
      · exact ht.elim
    · exact ht.elim⟩⟩
end
/-! ### dicts read by a key -/
def keyT : T → Option Key
  | .int i => some (.inl i)
  | .str z => some (.inr z)
  | _ => none
def getK : List Key → List T → Key → Option T
  | k :: ks, t :: ts, q => if k = q then some t else getK ks ts q
  | _, _, _ => none
def fDg : F2 := fun x y P => match x with
  | .dic ks ts => (match keyT y with
    | some k => (match getK ks ts k with
      | some t => P t
      | none => False)
    | none => False)
  | _ => False
theorem getK_rp {M : Mo} {Z : Hp} : ∀ {ks : List Key} {ts : List T} {vs : List V} {k : Key} {t : T}, RpL M Z ts vs → getK ks ts k = some t → ∃ v, valV (ks.zip vs) k = some v ∧ Rp M Z t v
  | k' :: ks, t' :: ts, v :: vs, k, t, .cons r rr, h => by
    unfold getK at h
    by_cases e : k' = k
    · rw [if_pos e] at h
      cases h
      exact ⟨v, valV_pos e, r⟩
    · rw [if_neg e] at h
      obtain ⟨w, h1, h2⟩ := getK_rp rr h
      exact ⟨w, by rw [List.zip_cons_cons, valV_neg e]; exact h1, h2⟩
  | [], _, _, _, _, _, h => by cases h
  | _ :: _, [], _, _, _, _, h => by cases h
theorem q_dg {X : Cx} {G : Gh} {o e : Expr} {ta tb : TE3} {pos : Pos} (hu : X.A.units + 1 < cLine) (ho : PE X o (up G ta)) (he : PE X e (up G tb)) (hs : NoSl e) : PE X (.Subscript o e pos) (up G (tBin fDg ta tb)) :=
  PE.imp (pe_dget hu ho he hs) fun σ H Q ⟨px, Z, s, Q3, fm, h, k⟩ => ⟨px, Z, s, _, fm, h, fun x s1 h1 v Z1 H1 e1 f1 r1 => ⟨px, Z1, s1, _, f1, h1, fun y s2 hf w Z2 H2 e2 f2 r2 => by
    unfold fDg at hf
    split at hf
    · split at hf
      · split at hf
        · rename_i ks ts _ kk hk _ t ht
          have r1' := r1.mono e2
          cases r1' with
          | dic g n r =>
            obtain ⟨u, u1, u2⟩ := getK_rp r ht
            have ew : w = kV kk := by
              cases r2 with
              | int i => cases hk; rfl
              | str z => cases hk; rfl
              | _ => cases hk
            subst ew
            refine ⟨_, u, rfl, ?_, k t s2 hf u Z2 H2 (e1.trans e2) f2 u2⟩
            have := DGet.k (k := kk) (f2.le _ _ g)
            rw [u1] at this
            exact this
        · exact hf.elim
      · exact hf.elim
    · exact hf.elim⟩⟩
end G69
namespace G69
open PySem PySem.Spec PyProof.Rows L2
/-! ### new instances -/
def hid (H : Hp) (p : Addr) : Hp := fun a => if a = p then none else H a
theorem hid_ne {H : Hp} {p a : Addr} (h : a ≠ p) : hid H p a = H a := if_neg h
theorem hid_same {H : Hp} {p : Addr} : hid H p p = none := if_pos rfl
def liftI (K : PySem.W.Frag) (mg : Str → Option Value) (c : Nat) (sp : Sp3) : Sp := fun vs H Q E => ∃ D Z ts P3 E3 p dx C vs', vs = .ref p :: vs' ∧ mg (cn c) = some (.ref C) ∧ H p = some (.ins C dx []) ∧ Same Z H ∧ Z p = none ∧ Z dx = some (.own p) ∧ offD D p ∧ DrOk D H Z ∧ RpL ⟨K, mg, D⟩ Z ts vs' ∧ sp ts P3 E3 ∧
  (∀ t, P3 t → ∀ Z' H', Core ⟨⟨K, mg, D⟩, hid H p, Z, 0⟩ Z' H' → Z' p = none → Ow ⟨K, mg, D⟩ p Z' H' t p → Q .non H') ∧
  (∀ c ns fs, E3 c ns fs → ∀ cls od Z' H', Core ⟨⟨K, mg, D⟩, hid H p, Z, 0⟩ Z' H' → Xr ⟨K, mg, D⟩ (hid H p) Z' H' c ns fs cls od → E cls od H')
def finI (Q : T → Prop) : S3 → Prop
  | .ow (.ins c ts) :: _ => Q (.ins c ts)
  | _ => False
def spI (n m c : Nat) (W : XK3 → TS3) : Sp3 := fun ts Q E => match lenIs ts m with
  | true => W E { nx := finI Q, rt := fun _ => False } (.ow (.ins c []) :: start3 n ts)
  | false => False
theorem fm_startI {M : Mo} {Z H : Hp} {ts : List T} {vs : List V} {c : Nat} {p dx C : Addr} (x : Str) (N : List Str) (g : M.mg (cn c) = some (.ref C)) (hp : H p = some (.ins C dx [])) (l : Same Z H) (zp : Z p = none) (zd : Z dx = some (.own p)) (op : offD M.D p) (d : DrOk M.D H Z) (r : RpL M Z ts vs) :
    Fm ⟨M, hid H p, Z, p⟩ (fun _ => none) Z H (L2.start (x :: N) (.ref p :: vs)) (.ow (.ins c []) :: start3 N.length ts) := by
  have f := fm_start N l d r
  have e : L2.start (x :: N) (.ref p :: vs) = some (.ref p) :: L2.start N vs := by
    unfold L2.start
    rw [List.map_cons, List.cons_append, List.length_cons, List.length_cons, Nat.add_sub_add_right]
  rw [e]
  refine ⟨⟨l, fun _ _ q => q, fun a h1 h2 => absurd h1 h2, fun a o q _ => ?_, d⟩, ?_, fun i t h => ?_, fun i t h => ?_, fun i j a t u h1 h2 g1 g2 => ?_, fun a o q => by cases q⟩
  · by_cases ha : a = p
    · subst ha
      have q : hid H a a = some o := q
      rw [hid_same] at q
      cases q
    · have q : hid H p a = some o := q
      rw [hid_ne ha] at q
      exact q
  · rw [List.length_cons, List.length_cons]
    exact congrArg Nat.succ f.len
  · cases i with
    | zero => cases h
    | succ i => exact f.sh i t h
  · cases i with
    | zero =>
      cases h
      exact ⟨p, rfl, ⟨zp, hid_same, rfl, op⟩, rfl, C, dx, [], g, by rw [List.zip_nil_right]; exact hp, zd, .nil⟩
    | succ i =>
      obtain ⟨_, _, _, _⟩ := f.ow i t h
      exfalso
      have := f.ow i t h
      obtain ⟨a, _, ⟨_, hn, _⟩, ow⟩ := this
      obtain ⟨o, ho⟩ := ow.at
      have hn : H a = none := hn
      rw [hn] at ho
      cases ho
  · cases i with
    | zero => cases j with
      | zero => rfl
      | succ j =>
        exfalso
        obtain ⟨a, _, ⟨_, hn, _⟩, ow⟩ := f.ow j u h2
        obtain ⟨o, ho⟩ := ow.at
        have hn : H a = none := hn
        rw [hn] at ho
        cases ho
    | succ i =>
      exfalso
      obtain ⟨a, _, ⟨_, hn, _⟩, ow⟩ := f.ow i t h1
      obtain ⟨o, ho⟩ := ow.at
      have hn : H a = none := hn
      rw [hn] at ho
      cases ho
section
variable {P : Program} {w : World} {K : PySem.W.Frag} {mg : Str → Option Value} {base : Heap}
/-- the rule for an __init__ -/
theorem fnI {qual x0 : Str} {st : Stmt} {dvs : List V} {kws : List (Str × V)} {f : Addr} {fd : FuncData} {N ps : List Str} {k c : Nat} {W : XK3 → TS3} (F : FunD K "__init__" qual (defArgs st) (defBody st) (defScope st) dvs kws f fd) (S : FnScope (x0 :: N) (x0 :: ps) (defScope st))
    (hb : ∀ (cdv : Value) (A : Around) (outer : List Env) (s : Shared) (H : Hp) (E : XK) (G : Gh) (E3 : XK3), Room k (A.deeper (envOfC qual (defScope st) s.heap.objs.size f cdv)) → G.M = ⟨K, mg, G.M.D⟩ →
      Lets (cxOf (L2.CX P w) P w K mg base (x0 :: N) qual (defScope st) f cdv A outer s H E) G E3 E → PSs (cxOf (L2.CX P w) P w K mg base (x0 :: N) qual (defScope st) f cdv A outer s H E) (defBody st) (upS G (W E3))) :
    FnOk P w K mg base (L2.CX P w) (k + 1) f fd (x0 :: ps) (liftI K mg c (spI N.length ps.length c W)) := by
  refine F.ok S (fun vs H Q E h => ?_) (fun cdv A outer s H vs Q E hr h => ?_)
  · obtain ⟨D, Z, ts, P3, E3, p, dx, C, vs', rfl, _, _, _, _, _, _, _, r, h, _⟩ := h
    unfold spI at h
    split at h
    · rename_i e
      rw [List.length_cons, List.length_cons, ← r.len, lenIs_eq e]
    · exact h.elim
  · obtain ⟨D, Z, ts, P3, E3, p, dx, C, vs', rfl, g, hp, l, zp, zd, op, d, r, h, q, qx⟩ := h
    unfold spI at h
    split at h
    · have L : Lets (cxOf (L2.CX P w) P w K mg base (x0 :: N) qual (defScope st) f cdv A outer s H E) ⟨⟨K, mg, D⟩, hid H p, Z, p⟩ E3 E :=
        ⟨passes_call (takes_of rfl rfl rfl rfl) fun _ _ _ _ h => h, fun c ns fs he cls od Z' H' co xr => qx c ns fs he cls od Z' H' ⟨co.le, co.z0, co.nw, co.kp, co.dr⟩ xr⟩
      refine ⟨_, hb cdv A outer s H E ⟨⟨K, mg, D⟩, hid H p, Z, p⟩ E3 hr rfl L, _, Z, _, _, fm_startI (M := ⟨K, mg, D⟩) x0 N g hp l zp zd op d r, h, ⟨fun s' h' σ' Z' H' e' f' => ?_, fun t ht => ht.elim, fun s' h' => h'.elim, fun s' h' => h'.elim⟩⟩
      have h' : finI P3 s' := h'
      unfold finI at h'
      split at h'
      · rename_i c' ts' rest
        obtain ⟨a, a1, a2, a3⟩ := f'.ow 0 _ rfl
        have ea : a = p := a3.1
        subst ea
        exact q _ h' Z' H' ⟨f'.le, f'.z0, f'.nw, f'.kp, f'.dr⟩ a2.1 a3
      · exact h'.elim
    · exact h.elim
end
/-- self.f = e -/
def sFs (c j : Nat) (te : TE3) : TS3 := fun D s => te s fun y (s1 : S3) => match s1[(0 : Nat)]? with
  | some (.ow (.ins c' ts)) => (match Nat.beq c c' && Nat.beq ts.length j with
    | true => D.nx (s1.set 0 (.ow (.ins c (ts ++ [y]))))
    | false => False)
  | _ => False
theorem q_fs {X : Cx} {G : Gh} {e : Expr} {te : TE3} {c j : Nat} {x f : Str} {p1 p2 pos : Pos} (hM : G.M = ⟨X.K, X.mg, G.M.D⟩) (F : Cf X.K X.mg c) (hj : (fnm c)[j]? = some f) (hn : (fnm c).Nodup) (hl : (fnm c).length ≤ 900) (he : PE X e (up G te)) (hN : X.N[0]? = some x := by rfl)
    (hv : Vis X.env.scope x := by first | exact Or.inl rfl | exact Or.inr (Or.inl rfl) | exact Or.inr (Or.inr rfl)) (hd : (x == ("__debug__" : Str)) = false := by decide) (hcd : (x == ("__classdict__" : Str)) = false := by decide)
    (hs : swapsWith e (some (.Attribute (.Name x p1) f p2)) pos.line X.env = pure false := by rfl) : PS X (.Assign [.Attribute (.Name x p1) f p2] e pos) (upS G (sFs c j te)) :=
  PS.imp (ps_fld (pv 0 hN hv hd hcd) he hs) fun D σ H ⟨px, Z, s, D3, fm, h, k⟩ => ⟨px, Z, s, _, fm, h, fun y s1 ht v Z1 H1 e1 f1 r1 => by
    split at ht
    · rename_i c' ts e0
      split at ht
      · rename_i hb
        rw [Bool.and_eq_true] at hb
        have ec := Nat.eq_of_beq_eq_true hb.1
        have el := Nat.eq_of_beq_eq_true hb.2
        subst ec
        obtain ⟨a, a1, a2, a3⟩ := f1.ow 0 _ e0
        obtain ⟨hq, C, dx, vs, g1, g2, g3, g4⟩ := a3
        have g1' := g1
        rw [hM] at g1'
        have hvl : vs.length = j := by rw [← g4.len, el]
        refine ⟨_, a1, _, C, dx, _, rfl, g2, F.cl C g1', F.no C g1' f (List.mem_of_getElem? hj), ?_, ?_⟩
        · rw [List.length_zip]
          omega
        · rw [zip_put hn (by rw [hvl]; exact hj)]
          exact k.nx _ ht σ Z1 _ e1 (f1.put e0 a1 ⟨hq, C, dx, vs ++ [v], g1, upd_same, g3, g4.app (.cons r1 .nil)⟩)
      · exact ht.elim
    · exact ht.elim⟩
structure Mk3 (P : Program) (w : World) (K : PySem.W.Frag) (mg : Str → Option Value) (base : Heap) (c : Nat) (ps : List Str) (k : Nat) (sp : Sp3) : Prop where
  ex : ∃ (C f : Addr) (fd : FuncData), mg (cn c) = some (.ref C) ∧ Mk K C f ∧ FnOk P w K mg base (L2.CX P w) k f fd ps (liftI K mg c sp) ∧ Binds K fd ps []
structure MkK3 (P : Program) (w : World) (K : PySem.W.Frag) (mg : Str → Option Value) (base : Heap) (c : Nat) (ps ks : List Str) (k : Nat) (sp : Sp3) : Prop where
  ex : ∃ (C f : Addr) (fd : FuncData) (g : List Value → List Value → List Value), mg (cn c) = some (.ref C) ∧ Mk K C f ∧ FnOk P w K mg base (L2.CX P w) k f fd ps (liftI K mg c sp) ∧ KBn K fd ps 1 ks g (fun vs zs => vs ++ zs)
section
variable {X : Cx} {G : Gh} {e : Expr} {es : List Expr} {kws : List Keyword} {te : TE3} {tA : TA3} {c k j : Nat} {ps ks : List Str} {sp : Sp3} {E3 : XK3} {E : XK} {p pos : Pos}
theorem liftI_in (hM : G.M = ⟨X.K, X.mg, G.M.D⟩) {C : Addr} (g : X.mg (cn c) = some (.ref C)) {px Z H : Hp} {σ : L2.St} {s : S3} {Q3 : K3} {Q : VK} {ts : List T} {vs : List V} (f : Fm G px Z H σ s) (r : RpL G.M Z ts vs) (h : sp ts (fun t => Q3 t s) E3)
    (hE : ∀ c ns fs, E3 c ns fs → ∀ cls od Z' H', Core G Z' H' → Xr G.M G.H0 Z' H' c ns fs cls od → E cls od H') (k : ∀ t, Q3 t s → ∀ v Z' H', Same Z Z' → Fm G px Z' H' σ s → Rp G.M Z' t v → Q v H') {x dx : Addr} (hx : H x = none) (hdx : H dx = none) (ne : dx ≠ x) :
    liftI X.K X.mg c sp (.ref x :: vs) (upd (upd H dx (.own x)) x (.ins C dx [])) (fun v H2 => v = .non ∧ Q (.ref x) H2) E := by
  have zx : Z x = none := by
    cases q : Z x with
    | none => rfl
    | some o => rw [f.le x o q] at hx; cases hx
  have zd : Z dx = none := by
    cases q : Z dx with
    | none => rfl
    | some o => rw [f.le dx o q] at hdx; cases hdx
  have ox := f.dr.offN hx
  have od := f.dr.offN hdx
  have sZ : Same Z (upd Z dx (.own x)) := Same.new zd
  have sH : Same H (hid (upd (upd H dx (.own x)) x (.ins C dx [])) x) := fun a o q => by
    rw [hid_ne (ne_of_none q hx), upd_ne (ne_of_none q hx), upd_ne (ne_of_none q hdx)]
    exact q
  have hnw : ∀ a, Z a = none → upd Z dx (.own x) a ≠ none → H a = none := fun a h1 h2 => by
    by_cases ha : a = dx
    · rw [ha]; exact hdx
    · rw [upd_ne ha] at h2; exact absurd h1 h2
  refine ⟨G.M.D, upd Z dx (.own x), ts, _, E3, x, dx, C, vs, rfl, g, upd_same, fun a o q => ?_, by rw [upd_ne ne.symm]; exact zx, upd_same, ox, ?_, ?_, h, fun t ht Z' H' co zx' ow => ⟨rfl, ?_⟩, fun c ns fs he cls od Z' H' co xr => ?_⟩
  · by_cases ha : a = dx
    · subst ha
      rw [upd_same] at q
      rw [upd_ne ne, upd_same]
      exact q
    · rw [upd_ne ha] at q
      have hq := f.le a o q
      rw [upd_ne (ne_of_none hq hx), upd_ne ha]
      exact hq
  · have d := f.dr
    revert d ox od
    cases G.M.D with
    | none => intro _ _ _; trivial
    | some y =>
      obtain ⟨d1, l1, c1⟩ := y
      intro ox od d
      exact ⟨(d.1.new hdx).off ox, by rw [upd_ne od.1.symm]; exact d.2.1, by rw [upd_ne od.2.1.symm]; exact d.2.2.1, by rw [upd_ne od.2.2.symm]; exact d.2.2.2⟩
  · rw [← hM]
    exact r.mono sZ
  · rw [← hM] at co ow
    have f2 := f.call co sH sZ hnw
    obtain ⟨o, ho⟩ := ow.at
    have hpx : px x = none := by
      cases q : px x with
      | none => rfl
      | some u =>
        rw [(f.px x u q).1] at hx
        cases hx
    have hpv : Pv G px Z' x := ⟨zx', f.kp.back ox.not hx, hpx, ox⟩
    have hno : NotOw σ s x := fun i t e q => by
      obtain ⟨b, h1, h2, h3⟩ := f.ow i t e
      rw [q] at h1
      cases h1
      obtain ⟨w, hw⟩ := h3.at
      rw [hx] at hw
      cases hw
    exact k t ht _ _ H' (sZ.trans (co.z0.trans (Same.new zx'))) (f2.freeze hpv hno ho) (ow.rp (Same.new zx') ho upd_same)
  · rw [← hM] at co xr
    have f2 := f.call co sH sZ hnw
    obtain ⟨C, x1, x2, x3⟩ := xr
    refine hE c ns fs he cls od Z' H' f2.toCore ⟨C, x1, x2, x3.imp (fun q => q) fun ⟨d, vs, y1, y2, y3, y4⟩ => ⟨d, vs, y1, ?_, y3, y4⟩⟩
    have hd : H d = none := none_of_same sH y2
    exact f.kp.back (f.dr.offN hd).not hd
theorem q_mk {x : Str} (hM : G.M = ⟨X.K, X.mg, G.M.D⟩) (M : Mk3 X.prog X.w X.K X.mg X.base c ps k sp) (hx : cn c = x) (hr : Room j X.A) (hj : k + 1 ≤ j) (hg : Gl X x) (L : Lets X G E3 E) (ha : PA X (e :: es) (upA G tA))
    (hdb : (x == ("__debug__" : Str)) = false := by decide) (he : starEach (e :: es) X.env = (false, eval e X.env) :: starEach es X.env := by rfl) (hpl : (backTo pos (starEach es X.env)).any (·.1) = false := by rfl) :
    PE X (.Call (.Name x p) (e :: es) [] pos) (up G (tCal sp E3 tA)) := by
  obtain ⟨C, f, fd, g, mk, F, b⟩ := M.ex
  exact PE.imp (pe_make mk F (hr.mono hj) hg (hx ▸ g) b .nil L.pass ha hdb he hpl) fun σ H Q ⟨px, Z, s, Q3, fm, h, k⟩ => ⟨px, Z, s, _, fm, h, fun ts s1 hs vs Z1 H1 e1 f1 r1 y dy hy hdy ne => by
    rw [List.append_nil]
    exact liftI_in hM g f1 r1 hs L.imp (fun t ht v Z' H' e' f' r' => k t s1 ht v Z' H' (e1.trans e') f' r') hy hdy ne⟩
theorem qk_nil : PK X [] (upA G aNil) := ⟨fun pos pins s σ H Q I ⟨px, Z, s3, Q3, fm, h, k⟩ => pk_nil.run pos pins s σ H Q I (k [] s3 h [] Z H (fun _ _ q => q) fm .nil)⟩
theorem qk_cons {x : Str} {kp : Pos} (ha : PE X e (up G te)) (hr : PK X kws (upA G tA)) : PK X (⟨some x, e, kp⟩ :: kws) (upA G (aCons te tA)) :=
  ⟨fun pos pins s σ H Q I ⟨px, Z, s3, Q3, fm, h, k⟩ => (pk_cons ha hr).run pos pins s σ H Q I ⟨px, Z, s3, _, fm, h, fun x s1 hb1 v Z1 H1 e1 f1 r1 => ⟨px, Z1, s1, _, f1, hb1, fun ts s2 hq vs Z2 H2 e2 f2 r2 => k (x :: ts) s2 hq (v :: vs) Z2 H2 (e1.trans e2) f2 (.cons (r1.mono e2) r2)⟩⟩⟩
def tCalK (n : Nat) (sp : Sp3) (E : XK3) (ta : TA3) : TE3 := fun s Q => ta s fun ts s1 => match lenIs ts n with
  | true => sp ts (fun t => Q t s1) E
  | false => False
theorem q_mkK {x : Str} (hM : G.M = ⟨X.K, X.mg, G.M.D⟩) (M : MkK3 X.prog X.w X.K X.mg X.base c ps ks k sp) (hx : cn c = x) (hr : Room j X.A) (hj : k + 1 ≤ j) (hg : Gl X x) (L : Lets X G E3 E) (hkw : PK X kws (upA G tA))
    (hall : (backToKw pos (keywordEach kws X.env)).all (·.1.isSome) = true := by rfl) (hks : (backToKw pos (keywordEach kws X.env)).filterMap (·.1) = ks := by rfl) (hdb : (x == ("__debug__" : Str)) = false := by decide)
    (hpl : ((backTo pos (starEach [] X.env)).any (·.1) || (backToKw pos (keywordEach kws X.env)).any (·.1.isNone)) = false := by rfl) :
    PE X (.Call (.Name x p) [] kws pos) (up G (tCalK ks.length sp E3 tA)) := by
  obtain ⟨C, f, fd, g', g, mk, F, b⟩ := M.ex
  exact PE.imp (pe_makeK0 (ks := ks) mk F (hr.mono hj) hg (hx ▸ g) b L.pass hkw hall hks hdb hpl) fun σ H Q ⟨px, Z, s, Q3, fm, h, k⟩ => ⟨px, Z, s, _, fm, h, fun ts s1 hs vs Z1 H1 e1 f1 r1 => by
    split at hs
    · rename_i hl
      exact ⟨rfl, by rw [← r1.len]; exact lenIs_eq hl, fun y dy hy hdy ne => liftI_in hM g f1 r1 hs L.imp (fun t ht v Z' H' e' f' r' => k t s1 ht v Z' H' (e1.trans e') f' r') hy hdy ne⟩
    · exact hs.elim⟩
end
end G69
namespace G69
open PySem PySem.Spec PyProof.Rows L2
/-! ### one's own list looked at -/
def peek (s : S3) (i : Nat) : Option T := match s[i]? with
  | some (.sh t) => some t
  | some (.ow t) => some t
  | _ => none
def tLenO (i : Nat) : TE3 := fun s Q => match peek s i with
  | some (.lst ts) => Q (.int ts.length) s
  | _ => False
def tIxO (i : Nat) (te : TE3) : TE3 := fun s Q => match peek s i with
  | some (.lst _) => te s fun y s1 => (match y, peek s1 i with
    | .int k, some (.lst ts) => ∃ t, atI ts k = some t ∧ Q t s1
    | _, _ => False)
  | _ => False
theorem Fm.peekL {G : Gh} {px Z H : Hp} {σ : L2.St} {s : S3} (f : Fm G px Z H σ s) {i : Nat} {ts : List T} (e : peek s i = some (.lst ts)) : ∃ a vs, σ[i]? = some (some (.ref a)) ∧ H a = some (.lst vs) ∧ RpL G.M Z ts vs := by
  unfold peek at e
  split at e
  · rename_i t h
    cases e
    obtain ⟨v, h1, h2⟩ := f.sh i _ h
    cases h2 with
    | lst g n r => exact ⟨_, _, h1, f.le _ _ g, r⟩
  · rename_i t h
    cases e
    obtain ⟨a, vs, h1, h2, _, h4⟩ := f.ownL h
    exact ⟨a, vs, h1, h2, h4⟩
  · cases e
section
variable {X : Cx} {G : Gh} {e : Expr} {te : TE3} {x : Str} {p p1 pos : Pos}
theorem q_lenO (i : Nat) (hK : X.K = G.M.K) (hg : Gl X "len") (hm : X.mg "len" = none) (hN : X.N[i]? = some x := by rfl) (hv : Vis X.env.scope x := by first | exact Or.inl rfl | exact Or.inr (Or.inl rfl) | exact Or.inr (Or.inr rfl)) (hd : (x == ("__debug__" : Str)) = false := by decide)
    (hcd : (x == ("__classdict__" : Str)) = false := by decide) (he : starEach [.Name x p1] X.env = (false, eval (.Name x p1) X.env) :: starEach [] X.env := by rfl) (hpl : (backTo pos (starEach [] X.env)).any (·.1) = false := by rfl) :
    PE X (.Call (.Name "len" p) [.Name x p1] [] pos) (up G (tLenO i)) :=
  PE.imp (pe_callB (l_len hK) hg hm PySem.boot_len (pa_cons (pv i hN hv hd hcd) pa_nil he) (by decide) (by decide) he hpl) fun σ H Q ⟨px, Z, s, Q3, fm, h, k⟩ => by
    unfold tLenO at h
    split at h
    · rename_i ts e
      obtain ⟨a, vs, h1, h2, h3⟩ := fm.peekL e
      exact ⟨_, h1, .inl ⟨a, vs, rfl, .inl (.inl (.inl h2)), by rw [← h3.len]; exact k _ s h _ Z H (fun _ _ q => q) fm (.int _)⟩⟩
    · exact h.elim
theorem q_ixO (i : Nat) (hK : X.K = G.M.K) (he : PE X e (up G te)) (hs : PlainIx e) (hN : X.N[i]? = some x := by rfl) (hv : Vis X.env.scope x := by first | exact Or.inl rfl | exact Or.inr (Or.inl rfl) | exact Or.inr (Or.inr rfl)) (hd : (x == ("__debug__" : Str)) = false := by decide)
    (hcd : (x == ("__classdict__" : Str)) = false := by decide) : PE X (.Subscript (.Name x p1) e pos) (up G (tIxO i te)) :=
  PE.imp (pe_ix (l_ix hK) (pv i hN hv hd hcd) he hs) fun σ H Q ⟨px, Z, s, Q3, fm, h, k⟩ => by
    unfold tIxO at h
    split at h
    · rename_i ts0 e0
      obtain ⟨a, vs, h1, h2, h3⟩ := fm.peekL e0
      refine ⟨_, h1, px, Z, s, _, fm, h, fun y s1 hy v Z1 H1 e1 f1 r1 => ?_⟩
      split at hy
      · rename_i kk ts e2
        obtain ⟨t, ht, hy⟩ := hy
        obtain ⟨a', vs', g1, g2, g3⟩ := f1.peekL e2
        rw [h1] at g1
        cases g1
        cases r1
        obtain ⟨w, w1, w2⟩ := atI_rp g3 ht
        exact .inl ⟨a, vs', kk, w, rfl, rfl, .inl (.inl g2), w1, k t s1 hy w Z1 H1 e1 f1 w2⟩
      · exact hy.elim
    · exact h.elim
end
theorem hKof {G : Gh} {K : PySem.W.Frag} {mg : Str → Option Value} {D : Dw} (h : G.M = ⟨K, mg, D⟩) : K = G.M.K := by rw [h]
/-- what is never asked -/
def tNoE : TE3 := fun _ _ => False
theorem q_noE {X : Cx} {G : Gh} {e : Expr} : PE X e (up G tNoE) := ⟨fun _ _ _ _ _ _ ⟨_, _, _, _, _, h, _⟩ => h.elim⟩
/-! ### xs.index(y) -/
def fIndex (ts : List T) : F1 := fun y P => (flatT y = true ∧ ts.all flatT = true) ∧ (match ts.findIdx? (fun z => eqV z.fv y.fv) with
  | some j => P (.int (j : Nat))
  | none => False)
def tMl (f : List T → F1) (ta tb : TE3) : TE3 := fun s Q => ta s fun x s1 => match x with
  | .lst ts => tb s1 fun y s2 => f ts y fun t => Q t s2
  | _ => False
theorem q_index {X : Cx} {G : Gh} {o e : Expr} {ta tb : TE3} {apos cpos : Pos} (hM : G.M = ⟨X.K, X.mg, G.M.D⟩) (ho : PE X o (up G ta)) (he : PE X e (up G tb))
    (hbase : attributeBase o "index" X.env (eval o X.env) = eval o X.env := by rfl)
    (hfew : ((backTo cpos (starEach [e] X.env)).all (fun x => !x.1) && (backToKw cpos (keywordEach [] X.env)).all (fun x => x.1.isSome) && decide ([e].length + ([] : List Keyword).length + (if ([] : List Keyword).isEmpty then 0 else 1) < 30)) = true := by rfl)
    (hline : (apos.endLine == cpos.line) = true := by rfl) (hs : starEach [e] X.env = (false, eval e X.env) :: starEach [] X.env := by rfl) (hplain : (backTo cpos (starEach [] X.env)).any (·.1) = false := by rfl) :
    PE X (.Call (.Attribute o "index" apos) [e] [] cpos) (up G (tMl fIndex ta tb)) :=
  PE.imp (pe_bm PySem.F.plainAttrs_list PySem.F.slot_list_index PySem.F.type_list_index mt_index ho (pa_cons he pa_nil hs) hbase hfew hline hs hplain) fun σ H Q ⟨px, Z, s, Q3, fm, h, k⟩ => ⟨px, Z, s, _, fm, h, fun x s1 h1 v Z1 H1 e1 f1 r1 => by
    have hK : X.K = G.M.K := by rw [hM]
    rw [hK]
    split at h1
    · rename_i ts
      cases r1 with
      | lst g n r =>
        refine ⟨.inl ⟨rfl, _, .inl (.inl (f1.le _ _ g))⟩, px, Z1, s1, _, f1, h1, fun y s2 hf w Z2 H2 e2 f2 r2 => ?_⟩
        obtain ⟨⟨g1, g2⟩, hf⟩ := hf
        split at hf
        · rename_i j hj
          obtain ⟨rfl, q1⟩ := r2.flat g1
          obtain ⟨rfl, q2⟩ := r.flat g2
          rw [List.findIdx?_eq_some_iff_getElem] at hj
          obtain ⟨hl, j1, j2⟩ := hj
          refine ⟨_, _, _, j, (ts[j]).fv, rfl, rfl, .inl (.inl (f2.le _ _ (e2 _ _ g))), q1, q2, by rw [List.getElem?_map, List.getElem?_eq_getElem hl]; rfl, j1, fun m z hm hz => ?_, k _ s2 hf _ Z2 H2 (e1.trans e2) f2 (.int _)⟩
          rw [List.getElem?_map, List.getElem?_eq_getElem (by omega)] at hz
          have := j2 m hm
          cases hz
          exact Bool.eq_false_iff.mpr this
        · exact hf.elim
    · exact h1.elim⟩
/-! ### text[::-1] -/
def fRev : F1 := fun x P => match x with
  | .str z => P (.str (revS z))
  | _ => False
theorem q_rev {X : Cx} {G : Gh} {e : Expr} {te : TE3} {k : Nat} {p1 p2 p3 pos : Pos} (_ : X.K = G.M.K) (he : PE X e (up G te)) : PE X (.Subscript e (.Slice none none (some (.UnaryOp .USub (.Constant (.int 1) k p1) p2)) p3) pos) (up G (tUn3 fRev te)) :=
  PE.imp (pe_revS he) fun σ H Q ⟨px, Z, s, Q3, fm, h, kx⟩ => ⟨px, Z, s, _, fm, h, fun t s1 hf v Z1 H1 e1 f1 r1 => by
    unfold fRev at hf
    split at hf
    · cases r1 with
      | str hz => exact ⟨_, rfl, hz, kx _ s1 hf _ Z1 H1 e1 f1 (.str (by rw [revS_length]; exact hz))⟩
    · exact hf.elim⟩
/-! ### a, b = two new lists -/
def sPar2 (i j : Nat) (ta tb : TE3) : TS3 := fun D s => ta s fun x s1 => tb s1 fun y s2 => match s2[i]?, s2[j]? with
  | some _, some _ => D.nx ((s2.set i (.ow x)).set j (.ow y))
  | _, _ => False
theorem q_par2 {X : Cx} {G : Gh} {pos : Pos} {i j : Nat} {x y : Str} {e1 e2 : Expr} {ta tb : TE3} {px' py pt : Pos} {kt k2 : Nat} {pt2 : Pos} (hc : X.calm = true) (hN : X.N.Nodup) (hi : X.N[i]? = some x) (hj : X.N[j]? = some y) (hij : i ≠ j)
    (hx : X.env.scope.names.lookup x = some .local) (hy : X.env.scope.names.lookup y = some .local) (ha : PE X e1 (upF G ta)) (hb : PE X e2 (upF G tb))
    (hw : swappedStores [.Tuple [.Name x px', .Name y py] kt pt] (.Tuple [e1, e2] k2 pt2) X.env = pure (some [x, y])) (hs : starEach [e1, e2] X.env = (false, eval e1 X.env) :: starEach [e2] X.env := by rfl) (hs2 : starEach [e2] X.env = (false, eval e2 X.env) :: starEach [] X.env := by rfl) :
    PS X (.Assign [.Tuple [.Name x px', .Name y py] kt pt] (.Tuple [e1, e2] k2 pt2) pos) (upS G (sPar2 i j ta tb)) :=
  PS.imp (ps_par hc hN hi hj hij hx hy (pa_cons ha (pa_cons hb pa_nil hs2) hs) hw) fun D σ H ⟨px, Z, s, D3, fm, h, k⟩ => ⟨px, Z, s, _, fm, h, fun t s1 ht a Z1 H1 e1 f1 hp hn ow => by
    obtain ⟨o, ho⟩ := ow.at
    refine ⟨_, Z1, s1, _, f1.lay hp hn ho, ht, fun u s2 hu b Z2 H2 e2 f2 hp2 hn2 ow2 => ⟨_, _, rfl, ?_⟩⟩
    obtain ⟨f3, hp3, hn3, ho3⟩ := f2.unlay hp.2.2.1
    have hab : b ≠ a := fun z => by
      have := hp2.2.2.1
      rw [z, upd_same] at this
      cases this
    have hpb : Pv G px Z2 b := ⟨hp2.1, hp2.2.1, by have := hp2.2.2.1; rw [upd_ne hab] at this; exact this, hp2.2.2.2⟩
    split at hu
    · rename_i w1 w2 g1 g2
      have li : i < s2.length := (List.getElem?_eq_some_iff.mp g1).1
      have lj : j < s2.length := (List.getElem?_eq_some_iff.mp g2).1
      have f4 := f3.setOw li hp3 hn3 (ow.mono e2 fun o' q => by rw [ho] at q; cases q; exact ho3)
      refine k.nx _ hu _ Z2 H2 (e1.trans e2) (f4.setOw (by rw [List.length_set]; exact lj) hpb (fun m t e q => ?_) ow2)
      rcases set_at e with ⟨hm, z⟩ | ⟨hm, e⟩
      · subst hm
        rw [List.getElem?_set_self (by rw [f3.len]; exact li)] at q
        cases q
        exact hab rfl
      · rw [List.getElem?_set_ne (fun z => hm z.symm)] at q
        exact hn2 m t e q
    · exact hu.elim⟩
end G69
namespace G69
open PySem PySem.Spec PyProof.Rows L2
/-! ### str(n), int(text), split -/
def nStr (i : Int) : Str := Str.ofString (toString i)
@[irreducible] def fStr : FN := fun ts P => match ts with
  | [.int i] => (i.natAbs.log2 < 1920 ∧ (nStr i).length ≤ sizeLine) ∧ P (.str (nStr i))
  | _ => False
@[irreducible] def fIntS : FN := fun ts P => match ts with
  | [.int i] => P (.int i)
  | [.str z] => z.length ≤ 640 ∧ (match PySem.intText? z with
    | some n => P (.int n)
    | none => False)
  | _ => False
@[irreducible] def fSplit (a : Str) : F1 := fun y P => match y with
  | .str b => ((b.length == 0) = false ∧ a.length + 2 ≤ sizeLine ∧ (Txt.split a b).length ≤ sizeLine ∧ ∀ z ∈ Txt.split a b, z.length ≤ sizeLine) ∧ P (.lst ((Txt.split a b).map T.str))
  | _ => False
theorem L_str {M : Mo} : CaL (fun xs H Q => ∃ i, xs = [.int i] ∧ i.natAbs.log2 < 1920 ∧ Q (.str (toString i)) H) M fStr := by
  intro Z H vs ts P Q l r h k
  unfold fStr at h
  split at h
  · cases r with
    | cons r rr =>
      cases rr; cases r
      exact ⟨_, rfl, h.1.1, (k _ h.2).same l (.str h.1.2)⟩
  · exact h.elim
abbrev rIntA : List V → Hp → VK → Prop := fun xs H Q => (∃ i, xs = [.int i] ∧ Q (.int i) H) ∨ ∃ k, xs = [.bl k] ∧ Q (.int (if k then 1 else 0)) H
abbrev rIntB : List V → Hp → VK → Prop := fun xs H Q => ∃ a n, xs = [.str a] ∧ PySem.intText? a = some n ∧ a.length ≤ 640 ∧ Q (.int n) H
theorem l_ints {X : Cx} : CallR X (.type "int") (rOrN rIntA rIntB) := caOr call_int1 call_int_str
theorem L_ints {M : Mo} : CaL (rOrN rIntA rIntB) M fIntS := by
  intro Z H vs ts P Q l r h k
  unfold fIntS at h
  split at h
  · cases r with
    | cons r rr =>
      cases rr; cases r
      exact .inl (.inl ⟨_, rfl, (k _ h).same l (.int _)⟩)
  · obtain ⟨h0, h⟩ := h
    split at h
    · rename_i n e
      cases r with
      | cons r rr =>
        cases rr; cases r
        exact .inr ⟨_, n, rfl, e, h0, (k _ h).same l (.int _)⟩
    · exact h.elim
  · exact h.elim
theorem rp_strs {M : Mo} {Z : Hp} : ∀ {ys : List Str}, (∀ z ∈ ys, z.length ≤ sizeLine) → RpL M Z (ys.map T.str) (ys.map V.str)
  | [], _ => .nil
  | y :: ys, h => .cons (.str (h y List.mem_cons_self)) (rp_strs fun z hz => h z (List.mem_cons_of_mem _ hz))
section
variable {X : Cx} {G : Gh} {o e : Expr} {ta tb : TE3} {apos cpos pos : Pos}
theorem q_split (hM : G.M = ⟨X.K, X.mg, G.M.D⟩) (ho : PE X o (up G ta)) (he : PE X e (up G tb))
    (hbase : attributeBase o "split" X.env (eval o X.env) = eval o X.env := by rfl)
    (hfew : ((backTo cpos (starEach [e] X.env)).all (fun x => !x.1) && (backToKw cpos (keywordEach [] X.env)).all (fun x => x.1.isSome) && decide ([e].length + ([] : List Keyword).length + (if ([] : List Keyword).isEmpty then 0 else 1) < 30)) = true := by rfl)
    (hline : (apos.endLine == cpos.line) = true := by rfl) (hs : starEach [e] X.env = (false, eval e X.env) :: starEach [] X.env := by rfl) (hplain : (backTo cpos (starEach [] X.env)).any (·.1) = false := by rfl) :
    PE X (.Call (.Attribute o "split" apos) [e] [] cpos) (up G (tMs fSplit ta tb)) :=
  PE.imp (pe_bm PySem.F.plainAttrs_str PySem.F.slot_str_split PySem.F.type_str_split mt_split ho (pa_cons he pa_nil hs) hbase hfew hline hs hplain) fun σ H Q ⟨px, Z, s, Q3, fm, h, k⟩ => ⟨px, Z, s, _, fm, h, fun x s1 h1 v Z1 H1 e1 f1 r1 => by
    split at h1
    · cases r1
      refine ⟨rfl, px, Z1, s1, _, f1, h1, fun y s2 hf w Z2 H2 e2 f2 r2 => ?_⟩
      unfold fSplit at hf
      split at hf
      · cases r2
        obtain ⟨⟨g1, g2, g3, g4⟩, hf⟩ := hf
        refine ⟨_, _, rfl, rfl, g1, g2, fun p np => ?_⟩
        obtain ⟨e3, f3⟩ := f2.new (o := .lst ((Txt.split _ _).map V.str)) np
        exact k _ s2 hf _ _ _ (e1.trans (e2.trans e3)) f3 (.lst upd_same (by rw [List.length_map]; exact g3) (rp_strs g4))
      · exact hf.elim
    · exact h1.elim⟩
end
/-! ### own == -/
/-- what isinstance and == ask of an own class -/
structure OwnC (K : PySem.W.Frag) (C : Addr) : Prop where
  ha : PySem.W.findIn K (.ref C) "__class__" = some (some (.builtin "object.__class__"))
  hn : PySem.W.specialIn K (.builtin "object.__class__") "__get__" = some (some (.builtin "getset_descriptor.__get__"))
  htk : PySem.W.takesIn K (.builtin "object.__class__") = some true
  hm : PySem.W.mroIn K C (.type "object") = some true
  ne : PySem.W.findIn K (.ref C) "__ne__" = some (some (.builtin "object.__ne__"))
theorem OwnC.ty {K : PySem.W.Frag} {C a dx : Addr} {H : Hp} {fs : List (Str × V)} (o : OwnC K C) (cl : Cls K C) (h : H a = some (.ins C dx fs)) : TyX K H (.ref a) (.ref C) := .base (.ins h cl o.ha o.hn o.htk o.hm)
theorem nf_self {K : PySem.W.Frag} {C : Addr} : PySem.W.notFirst K C (.ref C) = true := by
  show ((Value.ref C == Value.ref C) || _) = true
  rw [beq_self_eq_true, Bool.true_or]
theorem kit_self {K : PySem.W.Frag} {C : Addr} : PySem.W.kitOne K (.ref C) (.ref C) = some true := if_pos (beq_self_eq_true _)
structure Oc (K : PySem.W.Frag) (mg : Str → Option Value) (c : Nat) : Prop where
  ow : ∀ C, mg (cn c) = some (.ref C) → OwnC K C
def fEqO (c : Nat) (sp : Sp3) (neg : Bool) : F2 := fun x y P => match x, y with
  | .ins c1 ts, .ins c2 us => (match Nat.beq c c1 && Nat.beq c c2 with
    | true => sp [.ins c1 ts, .ins c2 us] (fun r => match r with
      | .bl b => P (.bl (xor neg b))
      | _ => False) E03
    | false => False)
  | _, _ => False
/-- isinstance(x, C) of an instance -/
def fIsO (c : Nat) : F1 := fun x P => match x with
  | .ins c1 _ => (match Nat.beq c c1 with
    | true => P (.bl true)
    | false => False)
  | _ => False
section
variable {X : Cx} {G : Gh} {a b : Expr} {ta tb : TE3} {c k j : Nat} {ps : List Str} {sp : Sp3} {pos p p2 : Pos}
theorem lift_res {M : Mo} {K : PySem.W.Frag} {mg : Str → Option Value} (hM : M = ⟨K, mg, M.D⟩) {Z H : Hp} {Q : VK} {ts : List T} {vs : List V} {P : T → Prop} (l : Same Z H) (d : DrOk M.D H Z) (r : RpL M Z ts vs) (h : sp ts P E03)
    (k : ∀ t, P t → ∀ v Z' H', Core ⟨M, H, Z, 0⟩ Z' H' → Rp M Z' t v → Q v H') : lift K mg sp vs H Q E0 :=
  ⟨M.D, Z, ts, P, E03, l, d, hM ▸ r, h, fun t ht v Z' H' c rr => k t ht v Z' H' (by rw [← hM] at c; exact c) (by rw [← hM] at rr; exact rr), fun _ _ _ h => h.elim⟩
def tEqO (c : Nat) (sp : Sp3) (neg : Bool) (ta tb : TE3) : TE3 := fun s Q => ta s fun x s1 => tb s1 fun y s2 => fEqO c sp neg x y fun t => Q t s2
theorem up_eqO (hM : G.M = ⟨X.K, X.mg, G.M.D⟩) (O : Oc X.K X.mg c) (F : Cf X.K X.mg c) {C : Addr} (g : X.mg (cn c) = some (.ref C)) {neg : Bool} {σ : L2.St} {H : Hp} {Q : VK} (h : up G (tEqO c sp neg ta tb) σ H Q) :
    tOp (fun x y H Q => ∃ a dx fs t, x = .ref a ∧ H a = some (.ins C dx fs) ∧ TyX X.K H y t ∧ PySem.W.notFirst X.K C t = true ∧ lift X.K X.mg sp [.ref a, y] H (fun v H' => ∃ r, v = .bl r ∧ Q (.bl (xor neg r)) H') E0) (up G ta) (up G tb) σ H Q := by
  obtain ⟨px, Z, s, Q3, fm, h, k⟩ := h
  refine ⟨px, Z, s, _, fm, h, fun x s1 hb1 v Z1 H1 e1 f1 r1 => ⟨px, Z1, s1, _, f1, hb1, fun y s2 hf w Z2 H2 e2 f2 r2 => ?_⟩⟩
  unfold fEqO at hf
  split at hf
  · split at hf
    · rename_i hb
      rw [Bool.and_eq_true] at hb
      have ec1 := Nat.eq_of_beq_eq_true hb.1
      have ec2 := Nat.eq_of_beq_eq_true hb.2
      subst ec1
      subst ec2
      have r1' := r1.mono e2
      have rr : RpL G.M Z2 _ [v, w] := .cons r1' (.cons r2 .nil)
      cases r1' with
      | ins g1 g2 g3 q1 =>
        cases r2 with
        | ins g1' g2' g3' q1' =>
          rw [hM] at g1 g1'
          have eC := cfSame g g1
          have eC' := cfSame g g1'
          subst eC
          subst eC'
          refine ⟨_, _, _, .ref C, rfl, f2.le _ _ g2, (O.ow C g).ty (F.cl C g) (f2.le _ _ g2'), nf_self, ?_⟩
          refine lift_res hM f2.le f2.dr rr hf fun t ht u Z3 H3 co r3 => ?_
          split at ht
          · cases r3
            exact ⟨_, rfl, k _ s2 ht _ Z3 H3 (e1.trans (e2.trans co.z0)) (f2.call co (fun _ _ q => q) (fun _ _ q => q) fun a h1 h2 => absurd h1 h2) (.bl _)⟩
          · exact ht.elim
    · exact hf.elim
  · exact hf.elim
theorem false_xor' (b : Bool) : xor false b = b := by cases b <;> rfl
theorem true_xor' (b : Bool) : xor true b = !b := by cases b <;> rfl
theorem q_eqO (hM : G.M = ⟨X.K, X.mg, G.M.D⟩) (O : Oc X.K X.mg c) (M : Mt3 X.prog X.w X.K X.mg X.base c "__eq__" ps k sp) (hr : Room j X.A) (hj : k + 1 ≤ j) (ha : PE X a (up G ta)) (hb : PE X b (up G tb)) (hm : behindInMarks .Eq b = false) :
    PE X (.Compare a [.Eq] [b] pos) (up G (tEqO c sp false ta tb)) := by
  obtain ⟨C, f, fd, g, F, hm', hbd, hf⟩ := M.ex
  refine PE.imp (pe_cmpR (op_eqO (C := C) (sp := fun vs H Q _ => lift X.K X.mg sp vs H Q E0) ⟨f, fd, FnOk.to0 F, hm', hbd, hf⟩ hr hj) ha hb hm) fun σ H Q h => ?_
  have := up_eqO hM O M.cf g h
  simp only [false_xor'] at this
  exact this
theorem q_neO (hM : G.M = ⟨X.K, X.mg, G.M.D⟩) (O : Oc X.K X.mg c) (M : Mt3 X.prog X.w X.K X.mg X.base c "__eq__" ps k sp) (hr : Room j X.A) (hj : k + 1 ≤ j) (ha : PE X a (up G ta)) (hb : PE X b (up G tb)) (hm : behindInMarks .NotEq b = false) :
    PE X (.Compare a [.NotEq] [b] pos) (up G (tEqO c sp true ta tb)) := by
  obtain ⟨C, f, fd, g, F, hm', hbd, hf⟩ := M.ex
  refine PE.imp (pe_cmpR (op_neO (C := C) (sp := fun vs H Q _ => lift X.K X.mg sp vs H Q E0) ⟨f, fd, FnOk.to0 F, hm', hbd, hf⟩ (O.ow C g).ne (O.ow C g).hm hr hj) ha hb hm) fun σ H Q h => ?_
  have := up_eqO hM O M.cf g h
  simp only [true_xor'] at this
  exact this
theorem q_teqO (hM : G.M = ⟨X.K, X.mg, G.M.D⟩) (O : Oc X.K X.mg c) (M : Mt3 X.prog X.w X.K X.mg X.base c "__eq__" ps k sp) (hr : Room j X.A) (hj : k + 1 ≤ j) (ha : PE X a (up G ta)) (hb : PE X b (up G tb)) (hm : behindInMarks .Eq b = false) :
    PT X (.Compare a [.Eq] [b] pos) (upT G (tBl (tEqO c sp false ta tb))) := by
  obtain ⟨C, f, fd, g, F, hm', hbd, hf⟩ := M.ex
  refine PT.imp (pt_cmpR (op_eqO (C := C) (sp := fun vs H Q _ => lift X.K X.mg sp vs H Q E0) ⟨f, fd, FnOk.to0 F, hm', hbd, hf⟩ hr hj) ha hb hm) fun σ H Q h => ?_
  have := up_eqO hM O M.cf g (up_bl h)
  simp only [false_xor'] at this
  exact this
theorem q_tneO (hM : G.M = ⟨X.K, X.mg, G.M.D⟩) (O : Oc X.K X.mg c) (M : Mt3 X.prog X.w X.K X.mg X.base c "__eq__" ps k sp) (hr : Room j X.A) (hj : k + 1 ≤ j) (ha : PE X a (up G ta)) (hb : PE X b (up G tb)) (hm : behindInMarks .NotEq b = false) :
    PT X (.Compare a [.NotEq] [b] pos) (upT G (tBl (tEqO c sp true ta tb))) := by
  obtain ⟨C, f, fd, g, F, hm', hbd, hf⟩ := M.ex
  refine PT.imp (pt_cmpR (op_neO (C := C) (sp := fun vs H Q _ => lift X.K X.mg sp vs H Q E0) ⟨f, fd, FnOk.to0 F, hm', hbd, hf⟩ (O.ow C g).ne (O.ow C g).hm hr hj) ha hb hm) fun σ H Q h => ?_
  have := up_eqO hM O M.cf g (up_bl h)
  simp only [true_xor'] at this
  exact this
theorem q_isO {x : Str} (hM : G.M = ⟨X.K, X.mg, G.M.D⟩) (O : Oc X.K X.mg c) (F : Cf X.K X.mg c) (hx : cn c = x) (hg : Gl X "isinstance") (hm : X.mg "isinstance" = none) (hgx : Gl X x) (he : PE X a (up G ta))
    (hst : starEach [a, .Name x p2] X.env = (false, eval a X.env) :: starEach [.Name x p2] X.env := by rfl) (hst2 : starEach [.Name x p2] X.env = (false, eval (.Name x p2) X.env) :: starEach [] X.env := by rfl) (hpl : (backTo pos (starEach [.Name x p2] X.env)).any (·.1) = false := by rfl) (hd : (x == ("__debug__" : Str)) = false := by decide) :
    PE X (.Call (.Name "isinstance" p) [a, .Name x p2] [] pos) (up G (tUn3 (fIsO c) ta)) := by
  obtain ⟨C, g⟩ := F.ex
  refine PE.imp (pe_callB call_isi hg hm (by decide +kernel) (pa_cons he (pa_cons (pe_glob (v := .ref C) hgx (hx ▸ g) rfl hd) pa_nil hst2) hst) (by decide) (by decide) hst hpl) fun σ H Q ⟨px, Z, s, Q3, fm, h, kx⟩ => ⟨px, Z, s, _, fm, h, fun t s1 hf v Z1 H1 e1 f1 r1 => ?_⟩
  unfold fIsO at hf
  split at hf
  · split at hf
    · rename_i hb
      have ec := Nat.eq_of_beq_eq_true hb
      subst ec
      cases r1 with
      | ins g1 g2 g3 q1 =>
        rw [hM] at g1
        have eC := cfSame g g1
        subst eC
        exact ⟨_, _, .ref C, _, true, rfl, .own C, (O.ow C g).ty (F.cl C g) (f1.le _ _ g2), kit_self, kx _ s1 hf _ Z1 H1 e1 f1 (.bl _)⟩
    · exact hf.elim
  · exact hf.elim
end
/-! ### f(k = v) -/
theorem q_kcal {X : Cx} {G : Gh} {x : Str} {ks : List Str} {k j : Nat} {sp : Sp3} {kws : List Keyword} {tA : TA3} {p pos : Pos} (C : Cal3 X.prog X.w X.K X.mg X.base x ks k sp) (hM : G.M = ⟨X.K, X.mg, G.M.D⟩) (hr : Room j X.A) (hj : k ≤ j) (hg : Gl X x) (hkw : PK X kws (upA G tA))
    (hall : (backToKw pos (keywordEach kws X.env)).all (·.1.isSome) = true := by rfl) (hks : (backToKw pos (keywordEach kws X.env)).filterMap (·.1) = ks := by rfl) (hdb : (x == ("__debug__" : Str)) = false := by decide)
    (hpl : ((backTo pos (starEach [] X.env)).any (·.1) || (backToKw pos (keywordEach kws X.env)).any (·.1.isNone)) = false := by rfl) :
    PE X (.Call (.Name x p) [] kws pos) (up G (tCalK ks.length sp E03 tA)) := by
  obtain ⟨f, fd, F, hm, kp, _, kb⟩ := C.ex
  refine PE.imp (pe_kcal (gV := fun zs => zs) (sp := fun vs H Q _ => lift X.K X.mg sp vs H Q E0) ⟨f, fd, ks, _, FnOk.to0 F, hm, kp, kb⟩ hr hj hg hkw hall hks hdb hpl) fun σ H Q ⟨px, Z, s, Q3, fm, h, k⟩ => ⟨px, Z, s, _, fm, h, fun ts s1 hs vs Z1 H1 e1 f1 r1 => ?_⟩
  split at hs
  · rename_i hl
    exact ⟨rfl, by rw [← r1.len]; exact lenIs_eq hl, lift_in hM f1 r1 hs (fun _ _ _ h => h.elim) fun t ht v Z' H' e' f' r' => k t s1 ht v Z' H' (e1.trans e') f' r'⟩
  · exact hs.elim
end G69
namespace G69
open PySem PySem.Spec PyProof.Rows L2
/-! ### the law itself -/
def spLaw (K : PySem.W.Frag) : Sp := fun vs H Q _ => ∃ (a : Addr) (ns : List Int), vs = [.ref a] ∧ SqL K H a (ns.map V.int) ∧ ns.length ≤ 63 ∧ ∀ H', Q (.bl true) H'
def lawS (n N : Nat) : S3 := (start3 N [.scr n]).set 1 (.sh .drw)
def lawD : Ends3 := { nx := fun _ => False, rt := fun t => t = .bl true }
section
variable {P : Program} {w : World} {K : PySem.W.Frag} {mg : Str → Option Value} {base : Heap}
theorem law3 {st st0 : Stmt} {rest : List Stmt} {f : Addr} {fd : FuncData} {N : List Str} {k : Nat} {W : XK3 → TS3} (F : Fun K "law" "law" st f fd) (S : FnScope N ["_law_script"] (defScope st)) (hbody : defBody st = st0 :: rest) (hN : 1 < N.length)
    (h0 : ∀ (cdv : Value) (A : Around) (outer : List Env) (s : Shared) (H : Hp) (E : XK), Room k (A.deeper (envOfC "law" (defScope st) s.heap.objs.size f cdv)) →
      PS (cxOf (L2.CX P w) P w K mg base N "law" (defScope st) f cdv A outer s H E) st0 (tAsg (tCall (spBegin K) [] E0 (tCons (tVar 0) tNil)) (gName 1)))
    (hb : ∀ (cdv : Value) (A : Around) (outer : List Env) (s : Shared) (H : Hp) (E : XK) (G : Gh) (E3 : XK3), Room k (A.deeper (envOfC "law" (defScope st) s.heap.objs.size f cdv)) → G.M = ⟨K, mg, G.M.D⟩ →
      Lets (cxOf (L2.CX P w) P w K mg base N "law" (defScope st) f cdv A outer s H E) G E3 E → PSs (cxOf (L2.CX P w) P w K mg base N "law" (defScope st) f cdv A outer s H E) rest (upS G (W E3)))
    (hW : ∀ n ≤ 63, W E03 lawD (lawS n N.length)) : FnOk P w K mg base CX0 (k + 1) f fd ["_law_script"] (spLaw K) := by
  refine FnOk.to0 (sp := spLaw K) (F.okX S (fun vs H Q E h => ?_) (fun cdv A outer s H vs Q E hr h => ?_))
  · obtain ⟨a, ns, rfl, _⟩ := h
    rfl
  · obtain ⟨a, ns, rfl, hS, hlen, q⟩ := h
    have L : ∀ G : Gh, Lets (cxOf (L2.CX P w) P w K mg base N "law" (defScope st) f cdv A outer s H E) G E03 E := fun G => ⟨passes_call (takes_of rfl rfl rfl rfl) fun _ _ _ _ h => h, fun _ _ _ h => h.elim⟩
    rw [hbody]
    refine ⟨_, pss_cons (h0 cdv A outer s H E hr) (u := fun D σ H1 => ∃ G : Gh, G.M = ⟨K, mg, G.M.D⟩ ∧ upS G (W E03) D σ H1) ⟨fun pins s' σ H1 D I ⟨G, hG, h⟩ => (hb cdv A outer s H E G E03 hr hG (L G)).run pins s' σ H1 D I h⟩, ?_⟩
    refine ⟨.ref a, rfl, a, ns, rfl, hS, hlen, fun d l c H1 hd hl hc D1 k1 => ?_⟩
    let Z : Hp := fun b => if b = a then H b else none
    have zle : Same Z H1 := fun b o e => by
      by_cases hb : b = a
      · have e : (if b = a then H b else none) = some o := e
        rw [if_pos hb] at e
        exact k1 b o e notnil
      · have e : (if b = a then H b else none) = some o := e
        rw [if_neg hb] at e
        cases e
    have zn : ∀ x, H x = none → Z x = none := fun x hx => by
      show (if x = a then H x else none) = none
      split
      · exact hx
      · rfl
    have za : Z a = H a := if_pos rfl
    have hSZ : SqL K Z a (ns.map V.int) := by
      rcases hS with (h | ⟨o, h⟩) | h
      · exact .inl (.inl (za.trans h))
      · exact .inl (.inr ⟨o, za.trans h⟩)
      · exact .inr h
    have hlen2 : (ns.map V.int).length = ns.length := List.length_map ..
    have fm := fm_start (M := ⟨K, mg, some (d, l, c)⟩) (ts := [.scr (ns.map V.int).length]) (vs := [.ref a]) N zle ⟨D1, zn d hd, zn l hl, zn c hc⟩ (.cons (.scr hSZ) .nil)
    have fm2 := fm.setSh (i := 1) (by rw [← fm.len]; unfold L2.start; rw [List.length_append, List.length_map, List.length_replicate]; simp only [List.length_cons, List.length_nil]; omega) (Rp.drw (M := ⟨K, mg, some (d, l, c)⟩) rfl)
    rw [hlen2] at fm2
    refine ⟨⟨⟨K, mg, some (d, l, c)⟩, H1, Z, 0⟩, rfl, _, Z, _, lawD, fm2, hW ns.length hlen, ⟨fun _ h => h.elim, fun t ht v Z' H' e c r => ?_, fun _ h => h.elim, fun _ h => h.elim⟩⟩
    have ht : t = .bl true := ht
    subst ht
    cases r
    exact q H'
end
end G69
namespace G69
open PySem PySem.Spec PyProof.Rows L2
section
variable {P : Program} {w : World} {K : PySem.W.Frag} {mg : Str → Option Value} {base : Heap}
theorem joinSigns (cs : List Nat) : Txt.join "" (cs.map sg) = ⟨cs.toArray⟩ := by
  have gen : ∀ (cs : List Nat) (acc : Array Nat), ((cs.map sg).foldl (fun acc p => acc ++ (Str.ofString "").cps ++ p.cps) acc).toList = acc.toList ++ cs := by
    intro cs
    induction cs with
    | nil => intro acc; simp
    | cons x r ih =>
      intro acc
      rw [List.map_cons, List.foldl_cons, ih]
      have e0 : (Str.ofString "").cps = #[] := by decide +kernel
      rw [e0]
      simp
  apply ext_toList
  show (Builtin.Str.glued (Str.ofString "") (cs.map sg)).cps.toList = cs
  cases cs with
  | nil => rfl
  | cons x r =>
    show ((r.map sg).foldl _ (sg x).cps).toList = x :: r
    rw [gen]
    rfl
theorem joinLen (cs : List Nat) : ((cs.map sg).map (·.length)).sum = cs.length := by
  induction cs with
  | nil => rfl
  | cons x r ih =>
    rw [List.map_cons, List.map_cons, List.sum_cons, ih, List.length_cons]
    show 1 + r.length = r.length + 1
    omega
theorem sgs_eq (cs : List Nat) : sgs cs = (cs.map sg).map V.str := by
  rw [List.map_map]
  rfl
end
end G69
namespace G69
open PySem PySem.Spec PyProof.Rows L2
/-! ### words, own prices, entries -/
abbrev En := Str × Int
def enV (en : En) : List V := [.str en.1, .int en.2]
def EnAt (H : Hp) (v : V) (en : En) : Prop := ∃ p, v = .ref p ∧ H p = some (.tup (enV en))
theorem EnAt.kf {H H' : Hp} {v : V} {en : En} (h : EnAt H v en) (k : Kf H H') : EnAt H' v en := let ⟨p, e, h⟩ := h; ⟨p, e, k.tup h⟩
theorem Paired.imp {α β : Type} {F G : α → β → Prop} (f : ∀ a b, F a b → G a b) : ∀ {l : List α} {m : List β}, Paired F l m → Paired G l m
  | _, _, .nil => .nil
  | _, _, .cons r t => .cons (f _ _ r) (Paired.imp f t)
theorem Paired.lens {α β : Type} {F : α → β → Prop} : ∀ {l : List α} {m : List β}, Paired F l m → l.length = m.length
  | _, _, .nil => rfl
  | _, _, .cons _ t => congrArg Nat.succ (Paired.lens t)
theorem Paired.get {α β : Type} {F : α → β → Prop} : ∀ {l : List α} {m : List β} {i : Nat} {a : α}, Paired F l m → l[i]? = some a → ∃ b, m[i]? = some b ∧ F a b
  | _, _, 0, _, .cons r _, h => by
    cases h
    exact ⟨_, rfl, r⟩
  | _, _, i + 1, _, .cons _ t, h => Paired.get (i := i) t h
theorem Paired.get2 {α β : Type} {F : α → β → Prop} : ∀ {l : List α} {m : List β} {i : Nat} {b : β}, Paired F l m → m[i]? = some b → ∃ a, l[i]? = some a ∧ F a b
  | _, _, 0, _, .cons r _, h => by
    cases h
    exact ⟨_, rfl, r⟩
  | _, _, i + 1, _, .cons _ t, h => Paired.get2 (i := i) t h
theorem Paired.app1 {α β : Type} {F : α → β → Prop} {a : α} {b : β} (h : F a b) : ∀ {l : List α} {m : List β}, Paired F l m → Paired F (l ++ [a]) (m ++ [b])
  | _, _, .nil => .cons h .nil
  | _, _, .cons r t => .cons r (Paired.app1 h t)
/-- entries in the heap -/
def EnsAt (H : Hp) (vs : List V) (es : List En) : Prop := Paired (EnAt H) vs es
theorem EnsAt.kf {H H' : Hp} {vs : List V} {es : List En} (h : EnsAt H vs es) (k : Kf H H') : EnsAt H' vs es := Paired.imp (fun _ _ x => x.kf k) h
structure EnOk1 (en : En) : Prop where
  tx : isT (.str en.1) = true
  l1 : 1 ≤ en.1.length
  l5 : en.1.length ≤ 5
  o0 : 0 ≤ en.2
  o9 : en.2 ≤ 999
structure EnOk (es : List En) : Prop where
  few : es.length ≤ 4
  all : ∀ en ∈ es, EnOk1 en
  nd : (es.map Prod.fst).Nodup
def isW (v : V) : Bool := isT v && (match v with | .str z => decide (1 ≤ z.length) && decide (z.length ≤ 5) | _ => false)
def isO : V → Bool
  | .int i => decide (0 ≤ i) && decide (i ≤ 999)
  | _ => false
abbrev wV (es : List En) : List V := es.map fun en => V.str en.1
theorem flat_wV (es : List En) : (wV es).all flatV = true := by
  induction es with
  | nil => rfl
  | cons x r ih =>
    show (flatV (V.str x.1) && (wV r).all flatV) = true
    rw [ih]
    rfl
theorem inV_wV (z : Str) (es : List En) : inV (.str z) (wV es) = decide (z ∈ es.map Prod.fst) := by
  induction es with
  | nil => rfl
  | cons x r ih =>
    have e : inV (.str z) (wV (x :: r)) = ((x.1 == z) || inV (.str z) (wV r)) := rfl
    rw [e, ih]
    by_cases h : x.1 = z
    · subst h
      rw [beq_self_eq_true, Bool.true_or, decide_eq_true]
      exact List.mem_cons_self
    · have h1 : (x.1 == z) = false := by
        rw [beq_eq_false_iff_ne]
        exact h
      rw [h1, Bool.false_or, decide_eq_decide, List.map_cons, List.mem_cons]
      exact ⟨fun q => .inr q, fun q => q.resolve_left fun y => h y.symm⟩
section
variable {P : Program} {w : World} {K : PySem.W.Frag} {mg : Str → Option Value} {base : Heap}
/-! ### is_word -/
abbrev sIsWord : Stmt := topS 15
theorem scIsWord : FnScope ["thing"] ["thing"] (defScope sIsWord) := ⟨rfl, rfl, rfl, by decide +kernel, rfl, by decide +kernel, by decide +kernel⟩
def spIsWord (K : PySem.W.Frag) : Sp := fun vs H Q _ => ∃ (v : V) (T : String), vs = [v] ∧ Knd K H v T ∧ szV v ∧ ∀ H', Kp [] H H' → Q (.bl (isW v)) H'
theorem ok_isWord {f : Addr} {fd : FuncData} (F : Fun K "is_word" "is_word" sIsWord f fd) (CI : Cal P w K mg base "is_text" ["thing"] 1 (spIsText K)) (B : Bt mg) {t : Tok} (mL : mg "LONGEST" = some (.int 5 t)) :
    FnOk P w K mg base CX0 2 f fd ["thing"] (spIsWord K) := by
  refine F.ok scIsWord (fun vs H Q E h => ?_) (fun cdv A outer s H vs Q E hr h => ?_)
  · obtain ⟨v, T, rfl, _⟩ := h
    rfl
  · obtain ⟨v, T, rfl, ht, hz, q⟩ := h
    refine ⟨_, pss_one (ps_ret (pe_and (pe_cal CI hr (by decide) (by rfl) (pa_cons (pv 0) pa_nil))
      (pe_one (pe_chain op_le op_le pe_int (pe_callB call_len_str (by rfl) B.len PySem.boot_len (pa_cons (pv 0) pa_nil)) (pe_glob (v := .int 5) rfl mL ⟨_, rfl⟩))))), ?_⟩
    refine ⟨_, rfl, v, T, rfl, ht, hz, fun H' k => ⟨_, rfl, ?_⟩⟩
    have q := q H' k
    unfold isW at q
    cases hv : isT v with
    | false =>
      rw [hv] at q
      exact iteF q
    | true =>
      rw [hv] at q
      cases v with
      | str z =>
        have q2 : Q (.bl (decide ((1 : Int) ≤ (z.length : Nat)) && decide (((z.length : Nat) : Int) ≤ 5))) H' := by
          have e1 : decide ((1 : Int) ≤ (z.length : Nat)) = decide (1 ≤ z.length) := by
            rw [decide_eq_decide]
            omega
          have e2 : decide (((z.length : Nat) : Int) ≤ 5) = decide (z.length ≤ 5) := by
            rw [decide_eq_decide]
            omega
          rw [e1, e2]
          exact q
        refine iteT ⟨_, rfl, z, rfl, szle (by have : z.length ≤ 100000 := hz; omega), _, _, rfl, rfl, _, rfl, ?_⟩
        by_cases h : (1 : Int) ≤ (z.length : Nat)
        · rw [decide_eq_true h] at q2 ⊢
          exact iteT ⟨_, _, rfl, rfl, q2⟩
        · rw [decide_eq_false h] at q2 ⊢
          exact iteF q2
      | _ => cases hv
/-! ### is_own -/
abbrev sIsOwn : Stmt := topS 26
theorem scIsOwn : FnScope ["thing"] ["thing"] (defScope sIsOwn) := ⟨rfl, rfl, rfl, by decide +kernel, rfl, by decide +kernel, by decide +kernel⟩
def spIsOwn (K : PySem.W.Frag) : Sp := fun vs H Q _ => ∃ (v : V) (T : String), vs = [v] ∧ Knd K H v T ∧ Q (.bl (isO v)) H
theorem ok_isOwn {f : Addr} {fd : FuncData} (F : Fun K "is_own" "is_own" sIsOwn f fd) (CI : Cal P w K mg base "is_integer" ["thing"] 1 (spIsInt K)) {t : Tok} (mD : mg "DEAREST_OWN" = some (.int 999 t)) :
    FnOk P w K mg base CX0 2 f fd ["thing"] (spIsOwn K) := by
  refine F.ok scIsOwn (fun vs H Q E h => ?_) (fun cdv A outer s H vs Q E hr h => ?_)
  · obtain ⟨v, T, rfl, _⟩ := h
    rfl
  · obtain ⟨v, T, rfl, ht, q⟩ := h
    refine ⟨_, pss_one (ps_ret (pe_and (pe_cal CI hr (by decide) (by rfl) (pa_cons (pv 0) pa_nil))
      (pe_one (pe_chain op_le op_le pe_int (pv 0) (pe_glob (v := .int 999) rfl mD ⟨_, rfl⟩))))), ?_⟩
    refine ⟨_, rfl, v, T, rfl, ht, _, rfl, ?_⟩
    cases v with
    | int i =>
      refine iteT ⟨_, rfl, _, _, rfl, rfl, _, rfl, ?_⟩
      have e : isO (.int i) = (decide (0 ≤ i) && decide (i ≤ 999)) := rfl
      rw [e] at q
      by_cases h : (0 : Int) ≤ i
      · rw [decide_eq_true h] at q ⊢
        exact iteT ⟨_, _, rfl, rfl, q⟩
      · rw [decide_eq_false h] at q ⊢
        exact iteF q
    | _ => exact iteF q
/-! ### is_entry, of an entry -/
abbrev sIsEntry : Stmt := topS 27
theorem scIsEntry : FnScope ["thing"] ["thing"] (defScope sIsEntry) := ⟨rfl, rfl, rfl, by decide +kernel, rfl, by decide +kernel, by decide +kernel⟩
def spIsEntry0 : Sp := fun vs H Q _ => ∃ (v : V) (en : En), vs = [v] ∧ EnAt H v en ∧ EnOk1 en ∧ ∀ H', Kp [] H H' → Q (.bl true) H'
theorem isW_ok {en : En} (h : EnOk1 en) : isW (.str en.1) = true := by
  show (isT (.str en.1) && (decide (1 ≤ en.1.length) && decide (en.1.length ≤ 5))) = true
  rw [h.tx, decide_eq_true h.l1, decide_eq_true h.l5]
  rfl
theorem isO_ok {en : En} (h : EnOk1 en) : isO (.int en.2) = true := by
  show (decide (0 ≤ en.2) && decide (en.2 ≤ 999)) = true
  rw [decide_eq_true h.o0, decide_eq_true h.o9]
  rfl
theorem ok_isEntry0 {f : Addr} {fd : FuncData} (F : Fun K "is_entry" "is_entry" sIsEntry f fd) (CW : Cal P w K mg base "is_word" ["thing"] 2 (spIsWord K)) (CO : Cal P w K mg base "is_own" ["thing"] 2 (spIsOwn K)) (B : Bt mg) :
    FnOk P w K mg base CX0 3 f fd ["thing"] spIsEntry0 := by
  refine F.ok scIsEntry (fun vs H Q E h => ?_) (fun cdv A outer s H vs Q E hr h => ?_)
  · obtain ⟨v, en, rfl, _⟩ := h
    rfl
  · obtain ⟨v, en, rfl, ⟨p, rfl, hp⟩, ok, q⟩ := h
    refine ⟨_, pss_one (ps_ret (pe_and (pe_callB call_isi (by rfl) B.isinst (by decide +kernel) (pa_cons (pv 0) (pa_cons (pe_bltn (v := .ty "tuple") (by rfl) B.tuple (by decide +kernel) rfl) pa_nil)))
      (pe_and (pe_cmpR op_eq (pe_callB call_len_seq (by rfl) B.len PySem.boot_len (pa_cons (pv 0) pa_nil)) pe_int (nomark _))
      (pe_and (pe_cal CW hr (by decide) (by rfl) (pa_cons (pe_ix ix_tup (pv 0) pe_int (fun _ _ => rfl)) pa_nil))
      (pe_one (pe_cal CO hr (by decide) (by rfl) (pa_cons (pe_ix ix_tup (pv 0) pe_int (fun _ _ => rfl)) pa_nil))))))), ?_⟩
    refine ⟨_, rfl, _, _, _, _, true, rfl, .ty "tuple", (Knd.tup (K := K) hp).1, kit_ty (by decide +kernel), true, rfl, iteT ?_⟩
    refine ⟨_, rfl, p, _, rfl, .inr (.inl (.inl hp)), rfl, true, rfl, iteT ?_⟩
    refine ⟨_, rfl, p, _, 0, _, rfl, rfl, .inl (.inl hp), atI_nat (j := 0) rfl, _, _, rfl, Knd.str, (by show en.1.length ≤ 100000; have := ok.l5; omega), fun H1 k1 => ⟨_, rfl, ?_⟩⟩
    rw [isW_ok ok]
    refine iteT ⟨_, rfl, p, _, 1, _, rfl, rfl, .inl (.inl (k1 _ _ hp notnil)), atI_nat (j := 1) rfl, _, _, rfl, Knd.int, ?_⟩
    rw [isO_ok ok]
    exact q H1 k1
end
end G69
namespace G69
open PySem PySem.Spec PyProof.Rows L2
/-! ### _law_wide -/
abbrev kPri : Key := Sum.inr "prices"
abbrev kEnt : Key := Sum.inr "entries"
def wideK (pr en : Addr) : List (Key × V) := [(kPri, .ref pr), (kEnt, .ref en)]
/-- entries that were laid behind H -/
def EnN (H H' : Hp) (v : V) (en : En) : Prop := ∃ p, v = .ref p ∧ H p = none ∧ H' p = some (.tup (enV en))
theorem EnN.kf {H H1 H' : Hp} {v : V} {en : En} (h : EnN H H1 v en) (k : Kf H1 H') : EnN H H' v en := let ⟨p, e, n, h⟩ := h; ⟨p, e, n, k.tup h⟩
structure WideI (H0 H : Hp) (y pr en : Addr) (xs : List V) (es : List En) (e m w : Int) (s : Option Int) : Prop where
  hy : H y = some (.dK (wideK pr en))
  hp : H pr = some (.tup [.int e, .int m, .int w, swV s])
  he : H en = some (.lst xs)
  hs : Paired (EnN H0 H) xs es
theorem WideI.keep {H0 H H' : Hp} {d l c y pr en : Addr} {xs : List V} {es : List En} {e m w : Int} {s : Option Int} (x : WideI H0 H y pr en xs es e m w s) (k : Kp [d, l] H H') (D : Dr H d l c) (oy : y ≠ d ∧ y ≠ l ∧ y ≠ c) (oe : en ≠ d ∧ en ≠ l ∧ en ≠ c) : WideI H0 H' y pr en xs es e m w s :=
  ⟨k _ _ x.hy (off2 oy), (D.kf k).tup x.hp, k _ _ x.he (off2 oe), Paired.imp (fun _ _ z => z.kf (D.kf k)) x.hs⟩
theorem WideI.kp {H0 H H' : Hp} {y pr en : Addr} {xs : List V} {es : List En} {e m w : Int} {s : Option Int} (x : WideI H0 H y pr en xs es e m w s) (k : Kp [] H H') : WideI H0 H' y pr en xs es e m w s :=
  ⟨k _ _ x.hy notnil, k _ _ x.hp notnil, k _ _ x.he notnil, Paired.imp (fun _ _ z => z.kf k.kf) x.hs⟩
theorem WideI.push {H0 H : Hp} {y pr en q : Addr} {xs : List V} {es : List En} {e m w : Int} {s : Option Int} {z : Str} {n : Int} (x : WideI H0 H y pr en xs es e m w s) (h0 : H0 q = none) (hq : H q = some (.tup (enV (z, n)))) :
    WideI H0 (upd H en (.lst (xs ++ [.ref q]))) y pr en (xs ++ [.ref q]) (es ++ [(z, n)]) e m w s := by
  have k := Kf.lst (o := .lst (xs ++ [.ref q])) x.he
  have n1 : y ≠ en := ne_of x.hy x.he (by intro z; cases z)
  exact ⟨by rw [upd_ne n1]; exact x.hy, k.tup x.hp, upd_same, Paired.app1 ⟨q, rfl, h0, k.tup hq⟩ (Paired.imp (fun _ _ z => z.kf k) x.hs)⟩
theorem enOk_push {es : List En} (ok : EnOk es) {z : Str} {n : Int} (h1 : EnOk1 (z, n)) (h2 : z ∉ es.map Prod.fst) (h3 : es.length < 4) : EnOk (es ++ [(z, n)]) := by
  refine ⟨?_, fun x hx => ?_, ?_⟩
  · rw [List.length_append]
    show es.length + 1 ≤ 4
    omega
  · rcases List.mem_append.mp hx with h | h
    · exact ok.all x h
    · rw [List.mem_singleton.mp h]
      exact h1
  · rw [List.map_append, List.nodup_append]
    refine ⟨ok.nd, List.nodup_cons.mpr ⟨fun z => (nomatch z), List.nodup_nil⟩, fun a ha b hb => ?_⟩
    rw [List.mem_singleton.mp hb]
    rintro rfl
    exact h2 ha
theorem takeSnoc {α : Type} {l : List α} {i : Nat} {x : α} (h : l[i]? = some x) : l.take (i + 1) = l.take i ++ [x] := by
  rw [List.take_add_one, h]
  rfl
section
variable {P : Program} {w : World} {K : PySem.W.Frag} {mg : Str → Option Value} {base : Heap}
abbrev sWide : Stmt := topS 50
abbrev nWide : List Str := ["_law_draw", "_law_case", "_law_turn", "_law_term", "_law_entry"]
theorem scWide : FnScope nWide ["_law_draw"] (defScope sWide) := ⟨rfl, rfl, rfl, by decide +kernel, rfl, by decide +kernel, by decide +kernel⟩
def spWide : Sp := fun vs H Q _ => ∃ (d l c : Addr), vs = [.ref d] ∧ Dr H d l c ∧
  ∀ (y pr en : Addr) (xs : List V) (es : List En) (e m w : Int) (s : Option Int) (H' : Hp), H y = none → H pr = none → H en = none → WideI H H' y pr en xs es e m w s → PrOk e m w s → EnOk es → Dr H' d l c → Kp [d, l] H H' → Q (.ref y) H'
theorem ok_wide {f : Addr} {fd : FuncData} (F : Fun K "_law_wide" "_law_wide" sWide f fd) (CT : Cal P w K mg base "_law_take" ["_law_draw", "_law_size"] 1 spTake) (CP : Cal P w K mg base "_law_pick" ["_law_draw", "_law_some"] 2 (spPick K))
    (CA : Cal P w K mg base "_law_any_letters" ["_law_draw", "_law_many"] 3 spAnyL) (CF : Cal P w K mg base "_law_far_prices" ["_law_draw"] 3 spFar) (B : Bt mg) : FnOk P w K mg base CX0 4 f fd ["_law_draw"] spWide := by
  refine F.ok scWide (fun vs H Q E h => ?_) (fun cdv A outer sh H vs Q E hr h => ?_)
  · obtain ⟨d, l, c, rfl, _⟩ := h
    rfl
  · obtain ⟨d, l, c, rfl, D0, q⟩ := h
    have hu := hu_of hr
    refine ⟨_, (pss_cons
 (ps_set (i := 1) scWide.nd rfl (.inl rfl) (pe_disp (pps_cons pe_str (pe_cal CF hr (by decide) (by rfl) (pa_cons (pv 0) pa_nil)) (pps_cons pe_str (pe_lst pa_nil) pps_nil)) (by rfl) (by rfl) (fun z => by cases z) (by decide)))
 (pss_cons
 (ps_for PassesOwn.never rfl (pi_range1 (by rfl) B.range (pa_cons (pe_cal CT hr (by decide) (by rfl) (pa_cons (pv 0) (pa_cons pe_int pa_nil))) pa_nil)) (pg_name (i := 2) scWide.nd rfl (.inl rfl)) (pss_cons
 (ps_set (i := 3) scWide.nd rfl (.inl rfl) (pe_bm PySem.F.plainAttrs_str PySem.F.slot_str_join PySem.F.type_str_join mt_join pe_str (pa_cons (pe_cal CA hr (by decide) (by rfl) (pa_cons (pv 0) (pa_cons (pe_op op_add pe_int (pe_cal CT hr (by decide) (by rfl) (pa_cons (pv 0) (pa_cons pe_int pa_nil)))) pa_nil))) pa_nil)))
 (pss_one
 (ps_if (pt_cmpR op_notIn_seq (pv 3) (pe_lc (own := [("_law_entry", 4)]) (g := gName 4) (tt := tYes) (by rfl) scWide.nd (pi_list (pe_dget hu (pv 1) pe_str (fun _ _ => rfl))) (blkOk_by (own := [("_law_entry", 4)]) (N := nWide) (sc := defScope sWide) (by decide +kernel)) (fun _ _ _ _ _ => (pg_name (i := 4) scWide.nd rfl (.inl rfl))) (fun _ _ _ _ _ => pts_nil) (fun _ _ _ _ _ => (pe_ix (ix_tupK (K := K) rfl) (pv 4) pe_int (fun _ _ => rfl)))) (by rfl)) (pss_one
 (ps_expr (pe_bm PySem.F.plainAttrs_list PySem.F.slot_list_append PySem.F.type_list_append mt_append (pe_dget hu (pv 1) pe_str (fun _ _ => rfl)) (pa_cons (pe_tup (pa_cons (pv 3) (pa_cons (pe_cal CP hr (by decide) (by rfl) (pa_cons (pv 0) (pa_cons (pe_lst (pa_cons pe_int (pa_cons pe_int (pa_cons pe_int (pa_cons pe_int (pa_cons (pe_cal CT hr (by decide) (by rfl) (pa_cons (pv 0) (pa_cons pe_int pa_nil))) pa_nil)))))) pa_nil))) pa_nil))) pa_nil)))) pss_nil))))
 (pss_one
 (ps_ret (pv 1))))), ?_⟩
    refine fun y hy => ?_
    have D1 := D0.new (o := .dK []) hy
    have ny := D0.nes hy
    refine ⟨_, rfl, d, l, c, rfl, D1, fun pr e m w s H4 hpr pk e4 D4 k4 => ⟨szle (by show 0 ≤ 1000000; decide), fun en hen => ?_⟩⟩
    have D5 := D4.new (o := .lst []) hen
    have npr := D1.nes hpr
    have nen := D4.nes hen
    have k1 : Kp [d, l] H (upd H y (.dK [])) := Kp.new hy
    have k15 := k4.trans (Kp.new (o := .lst []) hen)
    have f1 := k15 _ _ upd_same (off2 ny)
    have hpr5 : (upd H4 en (.lst [])) pr = some (.tup [.int e, .int m, .int w, swV s]) := by
      rw [upd_ne (ne_of_none e4 hen)]
      exact e4
    refine ⟨f1, wideK pr en, rfl, (by show 2 ≤ 15; decide), ?_⟩
    have nye : y ≠ en := ne_of f1 upd_same (by intro z; cases z)
    have nyp : y ≠ pr := ne_of f1 hpr5 (by intro z; cases z)
    have I0 : WideI H (upd (upd H4 en (.lst [])) y (.dK (wideK pr en))) y pr en [] [] e m w s := ⟨upd_same, by rw [upd_ne nyp.symm]; exact hpr5, by rw [upd_ne nye.symm, upd_same], .nil⟩
    have D6 := D5.off (o := .dK (wideK pr en)) ny
    have k06 : Kp [d, l] H (upd (upd H4 en (.lst [])) y (.dK (wideK pr en))) := (k1.trans k15).mut hy
    refine ⟨_, rfl, d, l, c, 5, rfl, D6, by decide, by decide, fun t H7 t0 t1 D7 k7 => ?_⟩
    have I7 := I0.keep k7 D6 ny nen
    have k07 := k06.trans k7
    have hHp : H pr = none := k1.back (off2 npr) hpr
    have hHe : H en = none := (k1.trans k4).back (off2 nen) hen
    have ht : t = ((t.toNat : Nat) : Int) := by omega
    rw [ht]
    refine ⟨t.toNat, rfl, by omega, by omega, for_range (lo := 0) (n := t.toNat)
      (fun i σ H8 => ∃ y2 y3 y4 xs es, σ = [some (.ref d), some (.ref y), y2, y3, y4] ∧ WideI H H8 y pr en xs es e m w s ∧ EnOk es ∧ es.length ≤ i ∧ Dr H8 d l c ∧ Kp [d, l] H H8)
      ⟨none, none, none, [], [], rfl, I7, ⟨by decide, (fun _ z => by cases z), List.nodup_nil⟩, Nat.le_refl _, D7, k07⟩ ?_ ?_⟩
    · rintro i σ H8 hi ⟨y2, y3, y4, xs, es, rfl, I8, ok8, few8, D8, k8⟩
      refine ⟨rfl, _, rfl, _, rfl, d, l, c, 5, rfl, D8, by decide, by decide, fun r H9 r0 r1 D9 k9 => ⟨_, _, rfl, rfl, d, l, c, 1 + r.toNat, ?_, D9, by omega, fun L cs Ha hL hcl hca eL Da ka => ?_⟩⟩
      · show [V.ref d, V.int (1 + r)] = _
        have : (1 : Int) + r = ((1 + r.toNat : Nat) : Int) := by omega
        rw [this]
      · have Ia := (I8.keep k9 D8 ny nen).keep ka D9 ny nen
        refine ⟨"", L, cs.map sg, rfl, rfl, .inl (.inl (.inl (by rw [eL, sgs_eq]))), ?_, ?_⟩
        · rw [joinLen, hcl]
          show 1 + r.toNat + _ * 0 ≤ 16777216
          omega
        · rw [joinSigns]
          have hzl : (⟨cs.toArray⟩ : Str).length = cs.length := List.size_toArray ..
          generalize hz : (⟨cs.toArray⟩ : Str) = z at hzl
          have hzc : z.cps.toList = cs := by rw [← hz]
          have hel : es.length ≤ 4 := ok8.few
          refine ⟨_, rfl, _, rfl, y, .ref en, rfl, DGet.k (k := kEnt) Ia.hy, en, rfl, ⟨_, .inl (.inl Ia.he)⟩, fun N hN => lc_it (walk_list (K := K) (a := en) (xs := xs))
            (fun j Hb => Hb N = some (.lst (wV (es.take j))) ∧ Kp [] Ha Hb) ⟨upd_same, Kp.new hN⟩ (fun j Hb _ hb => .inl (.inl (hb.2 _ _ Ia.he notnil))) ?_ ?_⟩
          · rintro j x Hb Hc hj ⟨eb, kb⟩ ⟨rfl, hx⟩
            obtain ⟨e1, he1, p, rfl, _, hp⟩ := Paired.get Ia.hs hx
            refine ⟨rfl, yes1 ⟨_, rfl, p, _, 0, _, rfl, rfl, .inl (.inl (kb _ _ hp notnil)), atI_nat (j := 0) rfl, _, eb, szlt ?_, ?_, kb.mut hN⟩⟩
            · rw [List.length_map, List.length_take]
              omega
            · rw [upd_same, takeSnoc he1]
              show _ = some (HO.lst ((es.take j ++ [e1]).map fun en => V.str en.1))
              rw [List.map_append]
              rfl
          · rintro Hb ⟨eb, kb⟩
            have hl : xs.length = es.length := Paired.lens Ia.hs
            rw [hl, List.take_length] at eb
            have Ib := Ia.kp kb
            have Db := Da.keep0 kb
            have k8b : Kp [d, l] H Hb := k8.trans (k9.trans (ka.trans (kb.mono (fun _ z => by cases z))))
            refine ⟨N, _, rfl, .inl (.inl (.inl eb)), rfl, flat_wV _, _, rfl, ?_⟩
            rw [show (if true = true then !inV (.str z) (wV es) else inV (.str z) (wV es)) = !decide (z ∈ es.map Prod.fst) by rw [inV_wV]; rfl]
            by_cases hin : z ∈ es.map Prod.fst
            · rw [decide_eq_true hin]
              exact iteF ⟨_, _, _, xs, es, rfl, Ib, ok8, Nat.le_succ_of_le few8, Db, k8b⟩
            · rw [decide_eq_false hin]
              refine iteT ⟨_, rfl, y, .ref en, rfl, DGet.k (k := kEnt) Ib.hy, .inl ⟨rfl, _, .inl (.inl Ib.he)⟩, _, rfl, _, rfl, _, rfl, d, l, c, 1000, rfl, Db, by decide, by decide, fun u Hc u0 u1 Dc kc => ⟨szle (by show 5 ≤ 1000000; decide), fun p1 hp1 => ?_⟩⟩
              have Ic := Ib.keep kc Db ny nen
              have n1 := Dc.nes hp1
              refine ⟨d, l, c, _, rfl, Dc.new hp1, .inl ⟨p1, [0, 9, 10, 999, u].map V.int, rfl, .inl (.inl upd_same), n1.1, n1.2.1, (by intro z; cases z), (by show 5 ≤ 1000; decide), fun j x Hd hx Dd kd => ?_⟩⟩
              obtain ⟨v, hv, rfl⟩ := intAt hx
              have hv9 : 0 ≤ v ∧ v ≤ 999 := by
                have := List.mem_of_getElem? hv
                simp only [List.mem_cons, List.not_mem_nil, or_false] at this
                omega
              have Id := (Ic.kp (Kp.new (o := .lst ([0, 9, 10, 999, u].map V.int)) hp1)).keep kd (Dc.new hp1) ny nen
              have k8d := (k8b.trans kc).trans ((Kp.new hp1).trans kd)
              refine ⟨szle (by show 2 ≤ 1000000; decide), fun tq htq => ?_⟩
              have Ie := Id.kp (Kp.new (o := .tup [.str z, .int v]) htq)
              have ntq := Dd.nes htq
              have hz1 : 1 ≤ z.length := by rw [hzl, hcl]; omega
              have hz5 : z.length ≤ 5 := by rw [hzl, hcl]; omega
              refine ⟨en, xs, _, rfl, rfl, Ie.he, szlt (by omega), _, _, _, _, _, rfl, Ie.push (z := z) (n := v) (k8d.back (off2 ntq) htq) upd_same, enOk_push ok8 ⟨?_, hz1, hz5, hv9.1, hv9.2⟩ hin (by omega), ?_, (Dd.new htq).off nen, (k8d.trans (Kp.new htq)).mut hHe⟩
              · show z.cps.toList.all isLb = true
                rw [List.all_eq_true]
                intro c hc
                have := hca c (hzc ▸ hc)
                show (decide (97 ≤ c) && decide (c ≤ 122)) = true
                rw [decide_eq_true this.1, decide_eq_true this.2]
                rfl
              · rw [List.length_append]
                show es.length + 1 ≤ i + 1
                omega
    · rintro σ H8 ⟨y2, y3, y4, xs, es, rfl, I8, ok8, few8, D8, k8⟩
      exact ⟨_, rfl, q y pr en xs es e m w s H8 hy hHp hHe I8 pk ok8 D8 k8⟩
end
end G69
namespace G69
open PySem PySem.Spec PyProof.Rows L2
def swT : Option Int → T
  | none => .non
  | some i => .int i
def enT (en : En) : T := .tup [.str en.1, .int en.2]
def priT (e m w : Int) (s : Option Int) : T := .tup [.int e, .int m, .int w, swT s]
def w_L_wide : Sp3 := fun ts Q _ => match ts with
  | [.drw] => ∀ (es : List En) (e m w : Int) (s : Option Int), PrOk e m w s → EnOk es → Q (.dic [kPri, kEnt] [priT e m w s, .lst (es.map enT)])
  | _ => False
theorem rp_sw {M : Mo} {Z : Hp} : ∀ s : Option Int, Rp M Z (swT s) (swV s)
  | none => .non
  | some i => .int i
theorem lift_wide {K : PySem.W.Frag} {mg : Str → Option Value} : ∀ vs H Q E, lift K mg w_L_wide vs H Q E → spWide vs H Q E := by
  rintro vs H Q E ⟨D, Z, ts, P3, E3, le, dr, r, h, q, _⟩
  unfold w_L_wide at h
  split at h
  · cases r with
    | cons r rr =>
      cases rr
      cases r with
      | drw hD =>
        rename_i d l c
        have hD : D = some (d, l, c) := hD
        subst hD
        refine ⟨d, l, c, rfl, dr.1, fun y pr en xs es e m w s H' hy hpr hen I pk ok D' k => ?_⟩
        have zoff : ∀ a o, Z a = some o → H' a = some o := fun a o e => k a o (le a o e) (not2 (ne_of_none e dr.2.1) (ne_of_none e dr.2.2.1))
        let N : Addr → Prop := fun a => a = y ∨ a = pr ∨ a = en ∨ V.ref a ∈ xs
        have hN : ∀ a, N a → H a = none := by
          rintro a (rfl | rfl | rfl | ha)
          · exact hy
          · exact hpr
          · exact hen
          · obtain ⟨i, hi⟩ := List.getElem?_of_mem ha
            obtain ⟨_, _, p, e1, e2, _⟩ := Paired.get I.hs hi
            cases e1
            exact e2
        classical
        let Z' : Hp := fun a => if N a then H' a else Z a
        have zin : ∀ a, N a → Z' a = H' a := fun a h => if_pos h
        have zout : ∀ a, ¬ N a → Z' a = Z a := fun a h => if_neg h
        have zz : Same Z Z' := fun a o e => by
          by_cases hn : N a
          · exact absurd (le a o e) (by rw [hN a hn]; intro z; cases z)
          · rw [zout a hn]; exact e
        have core : Core ⟨⟨K, mg, some (d, l, c)⟩, H, Z, 0⟩ Z' H' := by
          refine ⟨fun a o e => ?_, zz, fun a h1 h2 => ?_, k, ?_⟩
          · by_cases hn : N a
            · rw [zin a hn] at e; exact e
            · rw [zout a hn] at e; exact zoff a o e
          · by_cases hn : N a
            · exact hN a hn
            · rw [zout a hn] at h2; exact absurd h1 h2
          · obtain ⟨ls, cs, r, t, m, x⟩ := dr.1
            refine ⟨D', ?_, ?_, ?_⟩
            · rw [zout d (fun hn => by have := x.dd; rw [hN d hn] at this; cases this)]; exact dr.2.1
            · rw [zout l (fun hn => by have := x.hl; rw [hN l hn] at this; cases this)]; exact dr.2.2.1
            · rw [zout c (fun hn => by have := x.hc; rw [hN c hn] at this; cases this)]; exact dr.2.2.2
        refine q _ (h es e m w s pk ok) (.ref y) Z' H' core ?_
        have zy : Z' y = some (.dK (wideK pr en)) := by rw [zin y (.inl rfl)]; exact I.hy
        have zp : Z' pr = some (.tup [.int e, .int m, .int w, swV s]) := by rw [zin pr (.inr (.inl rfl))]; exact I.hp
        have ze : Z' en = some (.lst xs) := by rw [zin en (.inr (.inr (.inl rfl)))]; exact I.he
        have rx : ∀ (ys : List V) (fs : List En), Paired (EnN H H') ys fs → (∀ a, V.ref a ∈ ys → N a) → (∀ en ∈ fs, en.1.length ≤ sizeLine) → RpL ⟨K, mg, some (d, l, c)⟩ Z' (fs.map enT) ys := by
          intro ys fs hp
          induction hp with
          | nil => intro _ _; exact .nil
          | @cons v en ys fs h1 t ih =>
            intro hn hl
            obtain ⟨p, rfl, _, hp⟩ := h1
            exact .cons (.tup (by rw [zin p (hn p List.mem_cons_self)]; exact hp) (by show 2 ≤ sizeLine; decide) (.cons (.str (hl _ List.mem_cons_self)) (.cons (.int _) .nil))) (ih (fun a ha => hn a (List.mem_cons_of_mem _ ha)) fun x hx => hl x (List.mem_cons_of_mem _ hx))
        refine .dic (vs := [.ref pr, .ref en]) zy rfl (.cons (.tup zp (by show 4 ≤ sizeLine; decide) (.cons (.int _) (.cons (.int _) (.cons (.int _) (.cons (rp_sw s) .nil))))) (.cons (.lst ze ?_ (rx xs es I.hs (fun a ha => .inr (.inr (.inr ha))) fun x hx => szle (by have := (ok.all x hx).l5; omega))) .nil))
        rw [List.length_map]
        exact szle (by have := ok.few; omega)
  · exact h.elim
end G69
namespace G69
open PySem PySem.Spec PyProof.Rows L2
abbrev s_is_integer : Stmt := topS 13
abbrev n_is_integer : List Str := ["thing"]
theorem sc_is_integer : FnScope n_is_integer ["thing"] (defScope s_is_integer) := ⟨rfl, rfl, rfl, by decide +kernel, rfl, by decide +kernel, by decide +kernel⟩
def b_is_integer : Sp3 := spOf 1 1 fun E =>
    (sRet (tAndE (tUn3 (fIsi .int) (tVar3 0)) (tNotE (tUn3 (fIsi .bool) (tVar3 0)))))
theorem e_is_integer : ∃ sp : Sp3, sp = b_is_integer := ⟨_, rfl⟩
noncomputable def w_is_integer : Sp3 := Classical.choose e_is_integer
theorem u_is_integer : w_is_integer = b_is_integer := Classical.choose_spec e_is_integer
abbrev s_is_text : Stmt := topS 14
abbrev n_is_text : List Str := ["thing", "sign"]
theorem sc_is_text : FnScope n_is_text ["thing"] (defScope s_is_text) := ⟨rfl, rfl, rfl, by decide +kernel, rfl, by decide +kernel, by decide +kernel⟩
def b_is_text : Sp3 := spOf 2 1 fun E =>
    (sRet (tAndE (tUn3 (fIsi .str) (tVar3 0)) (tN fAll (aCons (tLc3 (iSeq (tVar3 0)) (gN 1) tYes3 (tBin fIn (tVar3 1) (tC3 (.str "abcdefghijklmnopqrstuvwxyz"))) [1]) aNil))))
theorem e_is_text : ∃ sp : Sp3, sp = b_is_text := ⟨_, rfl⟩
noncomputable def w_is_text : Sp3 := Classical.choose e_is_text
theorem u_is_text : w_is_text = b_is_text := Classical.choose_spec e_is_text
abbrev s_is_word : Stmt := topS 15
abbrev n_is_word : List Str := ["thing"]
theorem sc_is_word : FnScope n_is_word ["thing"] (defScope s_is_word) := ⟨rfl, rfl, rfl, by decide +kernel, rfl, by decide +kernel, by decide +kernel⟩
def b_is_word : Sp3 := spOf 1 1 fun E =>
    (sRet (tAndE (tCal w_is_text E03 (aCons (tVar3 0) aNil)) (tCh fLe fLe (tC3 (.int (1))) (tN fLen (aCons (tVar3 0) aNil)) (tC3 (.int (5))))))
theorem e_is_word : ∃ sp : Sp3, sp = b_is_word := ⟨_, rfl⟩
noncomputable def w_is_word : Sp3 := Classical.choose e_is_word
theorem u_is_word : w_is_word = b_is_word := Classical.choose_spec e_is_word
abbrev s_is_price : Stmt := topS 16
abbrev n_is_price : List Str := ["thing"]
theorem sc_is_price : FnScope n_is_price ["thing"] (defScope s_is_price) := ⟨rfl, rfl, rfl, by decide +kernel, rfl, by decide +kernel, by decide +kernel⟩
def b_is_price : Sp3 := spOf 1 1 fun E =>
    (sRet (tAndE (tCal w_is_integer E03 (aCons (tVar3 0) aNil)) (tCh fLe fLe (tC3 (.int (1))) (tVar3 0) (tC3 (.int (9))))))
theorem e_is_price : ∃ sp : Sp3, sp = b_is_price := ⟨_, rfl⟩
noncomputable def w_is_price : Sp3 := Classical.choose e_is_price
theorem u_is_price : w_is_price = b_is_price := Classical.choose_spec e_is_price
abbrev s_need_text : Stmt := topS 17
abbrev n_need_text : List Str := ["thing"]
theorem sc_need_text : FnScope n_need_text ["thing"] (defScope s_need_text) := ⟨rfl, rfl, rfl, by decide +kernel, rfl, by decide +kernel, by decide +kernel⟩
def b_need_text : Sp3 := spOf 1 1 fun E =>
    (sIf (tNot3 (tBl (tCal w_is_text E03 (aCons (tVar3 0) aNil)))) sNo sNx)
theorem e_need_text : ∃ sp : Sp3, sp = b_need_text := ⟨_, rfl⟩
noncomputable def w_need_text : Sp3 := Classical.choose e_need_text
theorem u_need_text : w_need_text = b_need_text := Classical.choose_spec e_need_text
abbrev s_Slips__init_ : Stmt := inClass (topS 18) 0
abbrev n_Slips__init_ : List Str := ["self", "extra", "missing", "wrong", "swapped"]
theorem sc_Slips__init_ : FnScope n_Slips__init_ ["self", "extra", "missing", "wrong", "swapped"] (defScope s_Slips__init_) := ⟨rfl, rfl, rfl, by decide +kernel, rfl, by decide +kernel, by decide +kernel⟩
def b_Slips__init_ : Sp3 := spI 4 4 0 fun E =>
    (sSeq (sIf (tNot3 (tBl (tCal w_is_price E03 (aCons (tVar3 1) aNil)))) sNo sNx)
    (sSeq (sIf (tNot3 (tBl (tCal w_is_price E03 (aCons (tVar3 2) aNil)))) sNo sNx)
    (sSeq (sIf (tNot3 (tBl (tCal w_is_price E03 (aCons (tVar3 3) aNil)))) sNo sNx)
    (sSeq (sIf (tAnd3 (tBl (tBin fNotN (tVar3 4) (tC3 .non))) (tNot3 (tBl (tCal w_is_price E03 (aCons (tVar3 4) aNil))))) sNo sNx)
    (sSeq (sFs 0 0 (tVar3 1))
    (sSeq (sFs 0 1 (tVar3 2))
    (sSeq (sFs 0 2 (tVar3 3))
    (sFs 0 3 (tVar3 4)))))))))
theorem e_Slips__init_ : ∃ sp : Sp3, sp = b_Slips__init_ := ⟨_, rfl⟩
noncomputable def w_Slips__init_ : Sp3 := Classical.choose e_Slips__init_
theorem u_Slips__init_ : w_Slips__init_ = b_Slips__init_ := Classical.choose_spec e_Slips__init_
abbrev s_Slips_extra : Stmt := inClass (topS 18) 1
abbrev n_Slips_extra : List Str := ["self"]
theorem sc_Slips_extra : FnScope n_Slips_extra ["self"] (defScope s_Slips_extra) := ⟨rfl, rfl, rfl, by decide +kernel, rfl, by decide +kernel, by decide +kernel⟩
def b_Slips_extra : Sp3 := spOf 1 1 fun E =>
    (sRet (tFd 0 0 (tVar3 0)))
theorem e_Slips_extra : ∃ sp : Sp3, sp = b_Slips_extra := ⟨_, rfl⟩
noncomputable def w_Slips_extra : Sp3 := Classical.choose e_Slips_extra
theorem u_Slips_extra : w_Slips_extra = b_Slips_extra := Classical.choose_spec e_Slips_extra
abbrev s_Slips_missing : Stmt := inClass (topS 18) 2
abbrev n_Slips_missing : List Str := ["self"]
theorem sc_Slips_missing : FnScope n_Slips_missing ["self"] (defScope s_Slips_missing) := ⟨rfl, rfl, rfl, by decide +kernel, rfl, by decide +kernel, by decide +kernel⟩
def b_Slips_missing : Sp3 := spOf 1 1 fun E =>
    (sRet (tFd 0 1 (tVar3 0)))
theorem e_Slips_missing : ∃ sp : Sp3, sp = b_Slips_missing := ⟨_, rfl⟩
noncomputable def w_Slips_missing : Sp3 := Classical.choose e_Slips_missing
theorem u_Slips_missing : w_Slips_missing = b_Slips_missing := Classical.choose_spec e_Slips_missing
abbrev s_Slips_wrong : Stmt := inClass (topS 18) 3
abbrev n_Slips_wrong : List Str := ["self"]
theorem sc_Slips_wrong : FnScope n_Slips_wrong ["self"] (defScope s_Slips_wrong) := ⟨rfl, rfl, rfl, by decide +kernel, rfl, by decide +kernel, by decide +kernel⟩
def b_Slips_wrong : Sp3 := spOf 1 1 fun E =>
    (sRet (tFd 0 2 (tVar3 0)))
theorem e_Slips_wrong : ∃ sp : Sp3, sp = b_Slips_wrong := ⟨_, rfl⟩
noncomputable def w_Slips_wrong : Sp3 := Classical.choose e_Slips_wrong
theorem u_Slips_wrong : w_Slips_wrong = b_Slips_wrong := Classical.choose_spec e_Slips_wrong
abbrev s_Slips_swapped : Stmt := inClass (topS 18) 4
abbrev n_Slips_swapped : List Str := ["self"]
theorem sc_Slips_swapped : FnScope n_Slips_swapped ["self"] (defScope s_Slips_swapped) := ⟨rfl, rfl, rfl, by decide +kernel, rfl, by decide +kernel, by decide +kernel⟩
def b_Slips_swapped : Sp3 := spOf 1 1 fun E =>
    (sRet (tFd 0 3 (tVar3 0)))
theorem e_Slips_swapped : ∃ sp : Sp3, sp = b_Slips_swapped := ⟨_, rfl⟩
noncomputable def w_Slips_swapped : Sp3 := Classical.choose e_Slips_swapped
theorem u_Slips_swapped : w_Slips_swapped = b_Slips_swapped := Classical.choose_spec e_Slips_swapped
abbrev s_Slips__eq_ : Stmt := inClass (topS 18) 5
abbrev n_Slips__eq_ : List Str := ["self", "other", "mine"]
theorem sc_Slips__eq_ : FnScope n_Slips__eq_ ["self", "other"] (defScope s_Slips__eq_) := ⟨rfl, rfl, rfl, by decide +kernel, rfl, by decide +kernel, by decide +kernel⟩
def b_Slips__eq_ : Sp3 := spOf 3 2 fun E =>
    (sSeq (sIf (tNot3 (tBl (tUn3 (fIsO 0) (tVar3 1)))) (sRet (tC3 (.bl false))) sNx)
    (sSeq (sAsg (tN mkTup (aCons (tFd 0 0 (tVar3 0)) (aCons (tFd 0 1 (tVar3 0)) (aCons (tFd 0 2 (tVar3 0)) (aCons (tFd 0 3 (tVar3 0)) aNil))))) (gN 2))
    (sRet (tBin fEq (tVar3 2) (tN mkTup (aCons (tFd 0 0 (tVar3 1)) (aCons (tFd 0 1 (tVar3 1)) (aCons (tFd 0 2 (tVar3 1)) (aCons (tFd 0 3 (tVar3 1)) aNil)))))))))
theorem e_Slips__eq_ : ∃ sp : Sp3, sp = b_Slips__eq_ := ⟨_, rfl⟩
noncomputable def w_Slips__eq_ : Sp3 := Classical.choose e_Slips__eq_
theorem u_Slips__eq_ : w_Slips__eq_ = b_Slips__eq_ := Classical.choose_spec e_Slips__eq_
abbrev s_is_own : Stmt := topS 26
abbrev n_is_own : List Str := ["thing"]
theorem sc_is_own : FnScope n_is_own ["thing"] (defScope s_is_own) := ⟨rfl, rfl, rfl, by decide +kernel, rfl, by decide +kernel, by decide +kernel⟩
def b_is_own : Sp3 := spOf 1 1 fun E =>
    (sRet (tAndE (tCal w_is_integer E03 (aCons (tVar3 0) aNil)) (tCh fLe fLe (tC3 (.int (0))) (tVar3 0) (tC3 (.int (999))))))
theorem e_is_own : ∃ sp : Sp3, sp = b_is_own := ⟨_, rfl⟩
noncomputable def w_is_own : Sp3 := Classical.choose e_is_own
theorem u_is_own : w_is_own = b_is_own := Classical.choose_spec e_is_own
abbrev s_is_entry : Stmt := topS 27
abbrev n_is_entry : List Str := ["thing"]
theorem sc_is_entry : FnScope n_is_entry ["thing"] (defScope s_is_entry) := ⟨rfl, rfl, rfl, by decide +kernel, rfl, by decide +kernel, by decide +kernel⟩
def b_is_entry : Sp3 := spOf 1 1 fun E =>
    (sRet (tAndE (tUn3 (fIsi .tuple) (tVar3 0)) (tAndE (tBin fEq (tN fLen (aCons (tVar3 0) aNil)) (tC3 (.int (2)))) (tAndE (tCal w_is_word E03 (aCons (tBin fIx (tVar3 0) (tC3 (.int (0)))) aNil)) (tCal w_is_own E03 (aCons (tBin fIx (tVar3 0) (tC3 (.int (1)))) aNil))))))
theorem e_is_entry : ∃ sp : Sp3, sp = b_is_entry := ⟨_, rfl⟩
noncomputable def w_is_entry : Sp3 := Classical.choose e_is_entry
theorem u_is_entry : w_is_entry = b_is_entry := Classical.choose_spec e_is_entry
abbrev s_need_entries : Stmt := topS 28
abbrev n_need_entries : List Str := ["entries", "words", "at", "entry"]
theorem sc_need_entries : FnScope n_need_entries ["entries"] (defScope s_need_entries) := ⟨rfl, rfl, rfl, by decide +kernel, rfl, by decide +kernel, by decide +kernel⟩
def b_need_entries : Sp3 := spOf 4 1 fun E =>
    (sSeq (sIf (tNot3 (tBl (tUn3 (fIsi2 .list .tuple) (tVar3 0)))) sNo sNx)
    (sSeq (sAsg (tN mkLst aNil) (gN 1))
    (tFor3 (iEn (aCons (tVar3 0) aNil)) (gT 2 (gsC (gN 2) (gsC (gN 3) gsN))) (sSeq (sIf (tOr3 (tBl (tBin fEq (tVar3 2) (tC3 (.int (4))))) (tOr3 (tNot3 (tBl (tCal w_is_entry E03 (aCons (tVar3 3) aNil)))) (tBl (tBin fIn (tBin fIx (tVar3 3) (tC3 (.int (0)))) (tVar3 1))))) sNo sNx)
    (sAsg (tBin fAdd (tVar3 1) (tN mkLst (aCons (tBin fIx (tVar3 3) (tC3 (.int (0)))) aNil))) (gN 1))))))
theorem e_need_entries : ∃ sp : Sp3, sp = b_need_entries := ⟨_, rfl⟩
noncomputable def w_need_entries : Sp3 := Classical.choose e_need_entries
theorem u_need_entries : w_need_entries = b_need_entries := Classical.choose_spec e_need_entries
abbrev s_Speller__init_ : Stmt := inClass (topS 29) 0
abbrev n_Speller__init_ : List Str := ["self", "entries", "slips"]
theorem sc_Speller__init_ : FnScope n_Speller__init_ ["self", "entries", "slips"] (defScope s_Speller__init_) := ⟨rfl, rfl, rfl, by decide +kernel, rfl, by decide +kernel, by decide +kernel⟩
def b_Speller__init_ : Sp3 := spI 2 2 1 fun E =>
    (sSeq (sExp (tCal w_need_entries E03 (aCons (tVar3 1) aNil)))
    (sSeq (sFs 1 0 (tN fTuple (aCons (tVar3 1) aNil)))
    (sFs 1 1 (tIfE (tBl (tBin fIsN (tVar3 2) (tC3 .non))) tNoE (tVar3 2)))))
theorem e_Speller__init_ : ∃ sp : Sp3, sp = b_Speller__init_ := ⟨_, rfl⟩
noncomputable def w_Speller__init_ : Sp3 := Classical.choose e_Speller__init_
theorem u_Speller__init_ : w_Speller__init_ = b_Speller__init_ := Classical.choose_spec e_Speller__init_
abbrev s_Speller_entries : Stmt := inClass (topS 29) 1
abbrev n_Speller_entries : List Str := ["self"]
theorem sc_Speller_entries : FnScope n_Speller_entries ["self"] (defScope s_Speller_entries) := ⟨rfl, rfl, rfl, by decide +kernel, rfl, by decide +kernel, by decide +kernel⟩
def b_Speller_entries : Sp3 := spOf 1 1 fun E =>
    (sRet (tFd 1 0 (tVar3 0)))
theorem e_Speller_entries : ∃ sp : Sp3, sp = b_Speller_entries := ⟨_, rfl⟩
noncomputable def w_Speller_entries : Sp3 := Classical.choose e_Speller_entries
theorem u_Speller_entries : w_Speller_entries = b_Speller_entries := Classical.choose_spec e_Speller_entries
abbrev s_Speller_slips : Stmt := inClass (topS 29) 2
abbrev n_Speller_slips : List Str := ["self"]
theorem sc_Speller_slips : FnScope n_Speller_slips ["self"] (defScope s_Speller_slips) := ⟨rfl, rfl, rfl, by decide +kernel, rfl, by decide +kernel, by decide +kernel⟩
def b_Speller_slips : Sp3 := spOf 1 1 fun E =>
    (sRet (tFd 1 1 (tVar3 0)))
theorem e_Speller_slips : ∃ sp : Sp3, sp = b_Speller_slips := ⟨_, rfl⟩
noncomputable def w_Speller_slips : Sp3 := Classical.choose e_Speller_slips
theorem u_Speller_slips : w_Speller_slips = b_Speller_slips := Classical.choose_spec e_Speller_slips
abbrev s_Speller__eq_ : Stmt := inClass (topS 29) 3
abbrev n_Speller__eq_ : List Str := ["self", "other"]
theorem sc_Speller__eq_ : FnScope n_Speller__eq_ ["self", "other"] (defScope s_Speller__eq_) := ⟨rfl, rfl, rfl, by decide +kernel, rfl, by decide +kernel, by decide +kernel⟩
def b_Speller__eq_ : Sp3 := spOf 2 2 fun E =>
    (sSeq (sIf (tNot3 (tBl (tUn3 (fIsO 1) (tVar3 1)))) (sRet (tC3 (.bl false))) sNx)
    (sRet (tAndE (tBin fEq (tFd 1 0 (tVar3 0)) (tFd 1 0 (tVar3 1))) (tEqO 0 w_Slips__eq_ false (tFd 1 1 (tVar3 0)) (tFd 1 1 (tVar3 1))))))
theorem e_Speller__eq_ : ∃ sp : Sp3, sp = b_Speller__eq_ := ⟨_, rfl⟩
noncomputable def w_Speller__eq_ : Sp3 := Classical.choose e_Speller__eq_
theorem u_Speller__eq_ : w_Speller__eq_ = b_Speller__eq_ := Classical.choose_spec e_Speller__eq_
abbrev s_is_number : Stmt := topS 35
abbrev n_is_number : List Str := ["word", "sign"]
theorem sc_is_number : FnScope n_is_number ["word"] (defScope s_is_number) := ⟨rfl, rfl, rfl, by decide +kernel, rfl, by decide +kernel, by decide +kernel⟩
def b_is_number : Sp3 := spOf 2 1 fun E =>
    (sSeq (sIf (tOr3 (tNot3 (tBl (tCh fLe fLe (tC3 (.int (1))) (tN fLen (aCons (tVar3 0) aNil)) (tC3 (.int (4)))))) (tNot3 (tBl (tN fAll (aCons (tLc3 (iSeq (tVar3 0)) (gN 1) tYes3 (tBin fIn (tVar3 1) (tC3 (.str "0123456789"))) [1]) aNil))))) (sRet (tC3 (.bl false))) sNx)
    (sRet (tOrE (tBin fEq (tVar3 0) (tC3 (.str "0"))) (tBin fNe (tBin fIx (tVar3 0) (tC3 (.int (0)))) (tC3 (.str "0"))))))
theorem e_is_number : ∃ sp : Sp3, sp = b_is_number := ⟨_, rfl⟩
noncomputable def w_is_number : Sp3 := Classical.choose e_is_number
theorem u_is_number : w_is_number = b_is_number := Classical.choose_spec e_is_number
abbrev s_is_line : Stmt := topS 36
abbrev n_is_line : List Str := ["at", "words", "word"]
theorem sc_is_line : FnScope n_is_line ["at", "words"] (defScope s_is_line) := ⟨rfl, rfl, rfl, by decide +kernel, rfl, by decide +kernel, by decide +kernel⟩
def b_is_line : Sp3 := spOf 3 2 fun E =>
    (sSeq (sIf (tBl (tBin fIn (tC3 (.str "")) (tVar3 1))) (sRet (tC3 (.bl false))) sNx)
    (sSeq (sIf (tBl (tBin fGt (tVar3 0) (tC3 (.int (0))))) (sRet (tAndE (tBin fEq (tN fLen (aCons (tVar3 1) aNil)) (tC3 (.int (3)))) (tAndE (tBin fEq (tBin fIx (tVar3 1) (tC3 (.int (0)))) (tC3 (.str "word"))) (tCal w_is_number E03 (aCons (tBin fIx (tVar3 1) (tC3 (.int (2)))) aNil))))) sNx)
    (sSeq (sIf (tOr3 (tBl (tBin fNe (tN fLen (aCons (tVar3 1) aNil)) (tC3 (.int (5))))) (tOr3 (tBl (tBin fNe (tBin fIx (tVar3 1) (tC3 (.int (0)))) (tC3 (.str "slips")))) (tNot3 (tBl (tN fAll (aCons (tLc3 (iSeq (tSl3 (tVar3 1) (oSo (tC3 (.int (1)))) (oSo (tC3 (.int (4)))))) (gN 2) tYes3 (tCal w_is_number E03 (aCons (tVar3 2) aNil)) [2]) aNil)))))) (sRet (tC3 (.bl false))) sNx)
    (sRet (tOrE (tBin fEq (tBin fIx (tVar3 1) (tC3 (.int (4)))) (tC3 (.str "none"))) (tCal w_is_number E03 (aCons (tBin fIx (tVar3 1) (tC3 (.int (4)))) aNil)))))))
theorem e_is_line : ∃ sp : Sp3, sp = b_is_line := ⟨_, rfl⟩
noncomputable def w_is_line : Sp3 := Classical.choose e_is_line
theorem u_is_line : w_is_line = b_is_line := Classical.choose_spec e_is_line
abbrev s_speller_text : Stmt := topS 37
abbrev n_speller_text : List Str := ["speller", "slips", "last", "rows", "word", "own", "row"]
theorem sc_speller_text : FnScope n_speller_text ["speller"] (defScope s_speller_text) := ⟨rfl, rfl, rfl, by decide +kernel, rfl, by decide +kernel, by decide +kernel⟩
def b_speller_text : Sp3 := spOf 7 1 fun E =>
    (sSeq (sAsg (tPr 1 w_Speller_slips (tVar3 0)) (gN 1))
    (sSeq (sAsg (tIfE (tBl (tBin fIsN (tPr 0 w_Slips_swapped (tVar3 1)) (tC3 .non))) (tC3 (.str "none")) (tN fStr (aCons (tPr 0 w_Slips_swapped (tVar3 1)) aNil))) (gN 2))
    (sSeq (sAsg (tN mkLst (aCons (tMs fJoin (tC3 (.str " ")) (tN mkLst (aCons (tC3 (.str "slips")) (aCons (tN fStr (aCons (tPr 0 w_Slips_extra (tVar3 1)) aNil)) (aCons (tN fStr (aCons (tPr 0 w_Slips_missing (tVar3 1)) aNil)) (aCons (tN fStr (aCons (tPr 0 w_Slips_wrong (tVar3 1)) aNil)) (aCons (tVar3 2) aNil))))))) aNil)) (gN 3))
    (sSeq (sAsg (tBin fAdd (tVar3 3) (tLc3 (iSeq (tPr 1 w_Speller_entries (tVar3 0))) (gT 2 (gsC (gN 4) (gsC (gN 5) gsN))) tYes3 (tMs fJoin (tC3 (.str " ")) (tN mkLst (aCons (tC3 (.str "word")) (aCons (tVar3 4) (aCons (tN fStr (aCons (tVar3 5) aNil)) aNil))))) [4, 5])) (gN 3))
    (sRet (tMs fJoin (tC3 (.str "")) (tLc3 (iSeq (tVar3 3)) (gN 6) tYes3 (tBin fAdd (tVar3 6) (tC3 (.str "\n"))) [6])))))))
theorem e_speller_text : ∃ sp : Sp3, sp = b_speller_text := ⟨_, rfl⟩
noncomputable def w_speller_text : Sp3 := Classical.choose e_speller_text
theorem u_speller_text : w_speller_text = b_speller_text := Classical.choose_spec e_speller_text
abbrev s_slips_of : Stmt := topS 38
abbrev n_slips_of : List Str := ["words", "swapped"]
theorem sc_slips_of : FnScope n_slips_of ["words"] (defScope s_slips_of) := ⟨rfl, rfl, rfl, by decide +kernel, rfl, by decide +kernel, by decide +kernel⟩
def b_slips_of : Sp3 := spOf 2 1 fun E =>
    (sSeq (sAsg (tIfE (tBl (tBin fEq (tBin fIx (tVar3 0) (tC3 (.int (4)))) (tC3 (.str "none")))) (tC3 .non) (tN fIntS (aCons (tBin fIx (tVar3 0) (tC3 (.int (4)))) aNil))) (gN 1))
    (sRet (tCalK 4 w_Slips__init_ E03 (aCons (tN fIntS (aCons (tBin fIx (tVar3 0) (tC3 (.int (1)))) aNil)) (aCons (tN fIntS (aCons (tBin fIx (tVar3 0) (tC3 (.int (2)))) aNil)) (aCons (tN fIntS (aCons (tBin fIx (tVar3 0) (tC3 (.int (3)))) aNil)) (aCons (tVar3 1) aNil)))))))
theorem e_slips_of : ∃ sp : Sp3, sp = b_slips_of := ⟨_, rfl⟩
noncomputable def w_slips_of : Sp3 := Classical.choose e_slips_of
theorem u_slips_of : w_slips_of = b_slips_of := Classical.choose_spec e_slips_of
abbrev s_read_speller : Stmt := topS 39
abbrev n_read_speller : List Str := ["text", "rows", "is_ended", "lines", "row", "at", "words", "slips"]
theorem sc_read_speller : FnScope n_read_speller ["text"] (defScope s_read_speller) := ⟨rfl, rfl, rfl, by decide +kernel, rfl, by decide +kernel, by decide +kernel⟩
def b_read_speller : Sp3 := spOf 8 1 fun E =>
    (sSeq (sIf (tNot3 (tBl (tUn3 (fIsi .str) (tVar3 0)))) sNo sNx)
    (sSeq (sAsg (tMs fSplit (tVar3 0) (tC3 (.str "\n"))) (gN 1))
    (sSeq (sAsg (tAndE (tBin fEq (tBin fIx (tVar3 1) (tUn3 fNeg (tC3 (.int (1))))) (tC3 (.str ""))) (tBin fGt (tN fLen (aCons (tVar3 1) aNil)) (tC3 (.int (1))))) (gN 2))
    (sSeq (sAsg (tLc3 (iSeq (tIfE (tTru (tVar3 2)) (tSl3 (tVar3 1) oNo (oSo (tUn3 fNeg (tC3 (.int (1)))))) (tVar3 1))) (gN 4) tYes3 (tMs fSplit (tVar3 4) (tC3 (.str " "))) [4]) (gN 3))
    (sSeq (tFor3 (iEn (aCons (tVar3 3) aNil)) (gT 2 (gsC (gN 5) (gsC (gN 6) gsN))) (sIf (tNot3 (tBl (tCal w_is_line E03 (aCons (tVar3 5) (aCons (tVar3 6) aNil))))) sNo sNx))
    (sSeq (sIf (tNot3 (tTru (tVar3 2))) sNo sNx)
    (sSeq (sAsg (tCal w_slips_of E03 (aCons (tBin fIx (tVar3 3) (tC3 (.int (0)))) aNil)) (gN 7))
    (sRet (tCal w_Speller__init_ E03 (aCons (tLc3 (iSeq (tSl3 (tVar3 3) (oSo (tC3 (.int (1)))) oNo)) (gN 6) tYes3 (tN mkTup (aCons (tBin fIx (tVar3 6) (tC3 (.int (1)))) (aCons (tN fIntS (aCons (tBin fIx (tVar3 6) (tC3 (.int (2)))) aNil)) aNil))) [6]) (aCons (tVar3 7) aNil)))))))))))
theorem e_read_speller : ∃ sp : Sp3, sp = b_read_speller := ⟨_, rfl⟩
noncomputable def w_read_speller : Sp3 := Classical.choose e_read_speller
theorem u_read_speller : w_read_speller = b_read_speller := Classical.choose_spec e_read_speller
abbrev s_L_pick : Stmt := topS 43
abbrev n_L_pick : List Str := ["_law_draw", "_law_some"]
theorem sc_L_pick : FnScope n_L_pick ["_law_draw", "_law_some"] (defScope s_L_pick) := ⟨rfl, rfl, rfl, by decide +kernel, rfl, by decide +kernel, by decide +kernel⟩
def b_L_pick : Sp3 := spOf 2 2 fun E =>
    (sRet (tBin fIx (tVar3 1) (tCal w_L_take E03 (aCons (tVar3 0) (aCons (tN fLen (aCons (tVar3 1) aNil)) aNil)))))
theorem e_L_pick : ∃ sp : Sp3, sp = b_L_pick := ⟨_, rfl⟩
noncomputable def w_L_pick : Sp3 := Classical.choose e_L_pick
theorem u_L_pick : w_L_pick = b_L_pick := Classical.choose_spec e_L_pick
abbrev s_L_slips : Stmt := topS 44
abbrev n_L_slips : List Str := ["_law_prices"]
theorem sc_L_slips : FnScope n_L_slips ["_law_prices"] (defScope s_L_slips) := ⟨rfl, rfl, rfl, by decide +kernel, rfl, by decide +kernel, by decide +kernel⟩
def b_L_slips : Sp3 := spOf 1 1 fun E =>
    (sRet (tCalK 4 w_Slips__init_ E03 (aCons (tBin fIx (tVar3 0) (tC3 (.int (0)))) (aCons (tBin fIx (tVar3 0) (tC3 (.int (1)))) (aCons (tBin fIx (tVar3 0) (tC3 (.int (2)))) (aCons (tBin fIx (tVar3 0) (tC3 (.int (3)))) aNil))))))
theorem e_L_slips : ∃ sp : Sp3, sp = b_L_slips := ⟨_, rfl⟩
noncomputable def w_L_slips : Sp3 := Classical.choose e_L_slips
theorem u_L_slips : w_L_slips = b_L_slips := Classical.choose_spec e_L_slips
abbrev s_L_speller : Stmt := topS 45
abbrev n_L_speller : List Str := ["_law_case"]
theorem sc_L_speller : FnScope n_L_speller ["_law_case"] (defScope s_L_speller) := ⟨rfl, rfl, rfl, by decide +kernel, rfl, by decide +kernel, by decide +kernel⟩
def b_L_speller : Sp3 := spOf 1 1 fun E =>
    (sRet (tCal w_Speller__init_ E03 (aCons (tBin fDg (tVar3 0) (tC3 (.str "entries"))) (aCons (tCal w_L_slips E03 (aCons (tBin fDg (tVar3 0) (tC3 (.str "prices"))) aNil)) aNil))))
theorem e_L_speller : ∃ sp : Sp3, sp = b_L_speller := ⟨_, rfl⟩
noncomputable def w_L_speller : Sp3 := Classical.choose e_L_speller
theorem u_L_speller : w_L_speller = b_L_speller := Classical.choose_spec e_L_speller
abbrev s_L_any_letters : Stmt := topS 46
abbrev n_L_any_letters : List Str := ["_law_draw", "_law_many", "_law_turn"]
theorem sc_L_any_letters : FnScope n_L_any_letters ["_law_draw", "_law_many"] (defScope s_L_any_letters) := ⟨rfl, rfl, rfl, by decide +kernel, rfl, by decide +kernel, by decide +kernel⟩
def b_L_any_letters : Sp3 := spOf 3 2 fun E =>
    (sRet (tLc3 (iR1 (aCons (tVar3 1) aNil)) (gN 2) tYes3 (tCal w_L_pick E03 (aCons (tVar3 0) (aCons (tC3 (.str "abcdefghijklmnopqrstuvwxyz")) aNil))) [2]))
theorem e_L_any_letters : ∃ sp : Sp3, sp = b_L_any_letters := ⟨_, rfl⟩
noncomputable def w_L_any_letters : Sp3 := Classical.choose e_L_any_letters
theorem u_L_any_letters : w_L_any_letters = b_L_any_letters := Classical.choose_spec e_L_any_letters
abbrev s_L_far_prices : Stmt := topS 47
abbrev n_L_far_prices : List Str := ["_law_draw", "_law_some", "_law_turn"]
theorem sc_L_far_prices : FnScope n_L_far_prices ["_law_draw"] (defScope s_L_far_prices) := ⟨rfl, rfl, rfl, by decide +kernel, rfl, by decide +kernel, by decide +kernel⟩
def b_L_far_prices : Sp3 := spOf 3 1 fun E =>
    (sSeq (sAsg (tLc3 (iR1 (aCons (tC3 (.int (3))) aNil)) (gN 2) tYes3 (tCal w_L_pick E03 (aCons (tVar3 0) (aCons (tN mkLst (aCons (tC3 (.int (1))) (aCons (tC3 (.int (1))) (aCons (tC3 (.int (2))) (aCons (tC3 (.int (3))) (aCons (tC3 (.int (9))) (aCons (tBin fAdd (tC3 (.int (1))) (tCal w_L_take E03 (aCons (tVar3 0) (aCons (tC3 (.int (9))) aNil)))) aNil))))))) aNil))) [2]) (gN 1))
    (sRet (tBin fAdd (tN fTuple (aCons (tVar3 1) aNil)) (tN mkTup (aCons (tCal w_L_pick E03 (aCons (tVar3 0) (aCons (tN mkLst (aCons (tC3 .non) (aCons (tC3 (.int (1))) (aCons (tC3 (.int (2))) (aCons (tBin fAdd (tC3 (.int (1))) (tCal w_L_take E03 (aCons (tVar3 0) (aCons (tC3 (.int (9))) aNil)))) aNil))))) aNil))) aNil)))))
theorem e_L_far_prices : ∃ sp : Sp3, sp = b_L_far_prices := ⟨_, rfl⟩
noncomputable def w_L_far_prices : Sp3 := Classical.choose e_L_far_prices
theorem u_L_far_prices : w_L_far_prices = b_L_far_prices := Classical.choose_spec e_L_far_prices
abbrev s_L_row_of : Stmt := topS 48
abbrev n_L_row_of : List Str := ["_law_prices", "_law_last", "_law_worth"]
theorem sc_L_row_of : FnScope n_L_row_of ["_law_prices"] (defScope s_L_row_of) := ⟨rfl, rfl, rfl, by decide +kernel, rfl, by decide +kernel, by decide +kernel⟩
def b_L_row_of : Sp3 := spOf 3 1 fun E =>
    (sSeq (sAsg (tIfE (tBl (tBin fIsN (tBin fIx (tVar3 0) (tC3 (.int (3)))) (tC3 .non))) (tC3 (.str "none")) (tN fStr (aCons (tBin fIx (tVar3 0) (tC3 (.int (3)))) aNil))) (gN 1))
    (sRet (tMs fJoin (tC3 (.str " ")) (tBin fAdd (tBin fAdd (tN mkLst (aCons (tC3 (.str "slips")) aNil)) (tLc3 (iSeq (tSl3 (tVar3 0) oNo (oSo (tC3 (.int (3)))))) (gN 2) tYes3 (tN fStr (aCons (tVar3 2) aNil)) [2])) (tN mkLst (aCons (tVar3 1) aNil))))))
theorem e_L_row_of : ∃ sp : Sp3, sp = b_L_row_of := ⟨_, rfl⟩
noncomputable def w_L_row_of : Sp3 := Classical.choose e_L_row_of
theorem u_L_row_of : w_L_row_of = b_L_row_of := Classical.choose_spec e_L_row_of
abbrev s_L_lines : Stmt := topS 49
abbrev n_L_lines : List Str := ["_law_case", "_law_found", "_law_term", "_law_fee", "_law_line"]
theorem sc_L_lines : FnScope n_L_lines ["_law_case"] (defScope s_L_lines) := ⟨rfl, rfl, rfl, by decide +kernel, rfl, by decide +kernel, by decide +kernel⟩
def b_L_lines : Sp3 := spOf 5 1 fun E =>
    (sSeq (sAsg (tBin fAdd (tN mkLst (aCons (tCal w_L_row_of E03 (aCons (tBin fDg (tVar3 0) (tC3 (.str "prices"))) aNil)) aNil)) (tLc3 (iSeq (tBin fDg (tVar3 0) (tC3 (.str "entries")))) (gT 2 (gsC (gN 2) (gsC (gN 3) gsN))) tYes3 (tBin fAdd (tBin fAdd (tBin fAdd (tC3 (.str "word ")) (tVar3 2)) (tC3 (.str " "))) (tN fStr (aCons (tVar3 3) aNil))) [2, 3])) (gN 1))
    (sRet (tMs fJoin (tC3 (.str "")) (tLc3 (iSeq (tVar3 1)) (gN 4) tYes3 (tBin fAdd (tVar3 4) (tC3 (.str "\n"))) [4]))))
theorem e_L_lines : ∃ sp : Sp3, sp = b_L_lines := ⟨_, rfl⟩
noncomputable def w_L_lines : Sp3 := Classical.choose e_L_lines
theorem u_L_lines : w_L_lines = b_L_lines := Classical.choose_spec e_L_lines
abbrev s_law : Stmt := topS 51
abbrev n_law : List Str := ["_law_script", "_law_draw", "_law_last", "_law_turn", "_law_case", "_law_book", "_law_page", "_law_found"]
theorem sc_law : FnScope n_law ["_law_script"] (defScope s_law) := ⟨rfl, rfl, rfl, by decide +kernel, rfl, by decide +kernel, by decide +kernel⟩
def w_law : TS3 :=
    (sSeq (sAsg (tC3 .non) (gN 2))
    (sSeq (tFor3 (iR1 (aCons (tBin fAdd (tC3 (.int (5))) (tN fMin (aCons (tN fLen (aCons (tVar3 0) aNil)) (aCons (tC3 (.int (25))) aNil)))) aNil)) (gN 3) (sSeq (sAsg (tCal w_L_wide E03 (aCons (tVar3 1) aNil)) (gN 4))
    (sSeq (sPar 5 6 (aCons (tCal w_L_speller E03 (aCons (tVar3 4) aNil)) (aCons (tCal w_L_lines E03 (aCons (tVar3 4) aNil)) aNil)))
    (sSeq (sIf (tOr3 (tBl (tBin fNe (tCal w_speller_text E03 (aCons (tVar3 5) aNil)) (tVar3 6))) (tBl (tBin fNe (tCalK 1 w_speller_text E03 (aCons (tVar3 5) aNil)) (tVar3 6)))) (sRet (tC3 (.bl false))) sNx)
    (sSeq (sAsg (tCal w_read_speller E03 (aCons (tVar3 6) aNil)) (gN 7))
    (sSeq (sIf (tOr3 (tBl (tEqO 1 w_Speller__eq_ true (tVar3 7) (tVar3 5))) (tOr3 (tBl (tEqO 1 w_Speller__eq_ true (tCalK 1 w_read_speller E03 (aCons (tVar3 6) aNil)) (tVar3 5))) (tBl (tBin fNe (tCal w_speller_text E03 (aCons (tVar3 7) aNil)) (tVar3 6))))) (sRet (tC3 (.bl false))) sNx)
    (sSeq (sIf (tAnd3 (tBl (tBin fNotN (tVar3 2) (tC3 .non))) (tBl (tBin fNe (tEqO 1 w_Speller__eq_ false (tBin fIx (tVar3 2) (tC3 (.int (0)))) (tVar3 5)) (tBin fEq (tBin fIx (tVar3 2) (tC3 (.int (1)))) (tVar3 6))))) (sRet (tC3 (.bl false))) sNx)
    (sAsg (tN mkTup (aCons (tVar3 5) (aCons (tVar3 6) aNil))) (gN 2)))))))))
    (sRet (tC3 (.bl true)))))
end G69
namespace G69
open PySem PySem.Spec PyProof.Rows L2
structure All (K : PySem.W.Frag) (mg : Str → Option Value) : Prop where
  B : Bt mg
  k_LETTERS : ∃ tk, mg "LETTERS" = some (.str "abcdefghijklmnopqrstuvwxyz" tk)
  k_LONGEST : ∃ tk, mg "LONGEST" = some (.int 5 tk)
  k_DEAREST : ∃ tk, mg "DEAREST" = some (.int 9 tk)
  k_MOST_WORDS : ∃ tk, mg "MOST_WORDS" = some (.int 4 tk)
  k_DEAREST_OWN : ∃ tk, mg "DEAREST_OWN" = some (.int 999 tk)
  k_DIGITS : ∃ tk, mg "DIGITS" = some (.str "0123456789" tk)
  d_is_integer : Def3 K mg "is_integer" s_is_integer ["thing"]
  d_is_text : Def3 K mg "is_text" s_is_text ["thing"]
  d_is_word : Def3 K mg "is_word" s_is_word ["thing"]
  d_is_price : Def3 K mg "is_price" s_is_price ["thing"]
  d_need_text : Def3 K mg "need_text" s_need_text ["thing"]
  i_Slips__init_ : ∃ (C f : Addr) (fd : FuncData) (g : List Value → List Value → List Value), mg (cn 0) = some (.ref C) ∧ Mk K C f ∧ FunD K "__init__" "Slips.__init__" (defArgs s_Slips__init_) (defBody s_Slips__init_) (defScope s_Slips__init_) [] kwS f fd ∧ KBn K fd ["self", "extra", "missing", "wrong", "swapped"] 1 ["extra", "missing", "wrong", "swapped"] g (fun vs zs => vs ++ zs)
  p_Slips_extra : ∃ (C p g : Addr) (fd : FuncData), mg (cn 0) = some (.ref C) ∧ PropOf K C "extra" p g ∧ Fun K "extra" "Slips.extra" s_Slips_extra g fd ∧ Binds K fd ["self"] []
  p_Slips_missing : ∃ (C p g : Addr) (fd : FuncData), mg (cn 0) = some (.ref C) ∧ PropOf K C "missing" p g ∧ Fun K "missing" "Slips.missing" s_Slips_missing g fd ∧ Binds K fd ["self"] []
  p_Slips_wrong : ∃ (C p g : Addr) (fd : FuncData), mg (cn 0) = some (.ref C) ∧ PropOf K C "wrong" p g ∧ Fun K "wrong" "Slips.wrong" s_Slips_wrong g fd ∧ Binds K fd ["self"] []
  p_Slips_swapped : ∃ (C p g : Addr) (fd : FuncData), mg (cn 0) = some (.ref C) ∧ PropOf K C "swapped" p g ∧ Fun K "swapped" "Slips.swapped" s_Slips_swapped g fd ∧ Binds K fd ["self"] []
  m_Slips__eq_ : ∃ (C f : Addr) (fd : FuncData), mg (cn 0) = some (.ref C) ∧ Meth K C "__eq__" f ∧ Fun K "__eq__" "Slips.__eq__" s_Slips__eq_ f fd ∧ Binds K fd ["self", "other"] [] ∧ PySem.W.fnIn K f = true
  d_is_own : Def3 K mg "is_own" s_is_own ["thing"]
  d_is_entry : Def3 K mg "is_entry" s_is_entry ["thing"]
  d_need_entries : Def3 K mg "need_entries" s_need_entries ["entries"]
  i_Speller__init_ : ∃ (C f : Addr) (fd : FuncData), mg (cn 1) = some (.ref C) ∧ Mk K C f ∧ FunD K "__init__" "Speller.__init__" (defArgs s_Speller__init_) (defBody s_Speller__init_) (defScope s_Speller__init_) [.non] [] f fd ∧ Binds K fd ["self", "entries", "slips"] []
  p_Speller_entries : ∃ (C p g : Addr) (fd : FuncData), mg (cn 1) = some (.ref C) ∧ PropOf K C "entries" p g ∧ Fun K "entries" "Speller.entries" s_Speller_entries g fd ∧ Binds K fd ["self"] []
  p_Speller_slips : ∃ (C p g : Addr) (fd : FuncData), mg (cn 1) = some (.ref C) ∧ PropOf K C "slips" p g ∧ Fun K "slips" "Speller.slips" s_Speller_slips g fd ∧ Binds K fd ["self"] []
  m_Speller__eq_ : ∃ (C f : Addr) (fd : FuncData), mg (cn 1) = some (.ref C) ∧ Meth K C "__eq__" f ∧ Fun K "__eq__" "Speller.__eq__" s_Speller__eq_ f fd ∧ Binds K fd ["self", "other"] [] ∧ PySem.W.fnIn K f = true
  d_is_number : Def3 K mg "is_number" s_is_number ["word"]
  d_is_line : Def3 K mg "is_line" s_is_line ["at", "words"]
  d_speller_text : Def3 K mg "speller_text" s_speller_text ["speller"]
  d_slips_of : Def3 K mg "slips_of" s_slips_of ["words"]
  d_read_speller : Def3 K mg "read_speller" s_read_speller ["text"]
  d_L_pick : Def3 K mg "_law_pick" s_L_pick ["_law_draw", "_law_some"]
  d_L_slips : Def3 K mg "_law_slips" s_L_slips ["_law_prices"]
  d_L_speller : Def3 K mg "_law_speller" s_L_speller ["_law_case"]
  d_L_any_letters : Def3 K mg "_law_any_letters" s_L_any_letters ["_law_draw", "_law_many"]
  d_L_far_prices : Def3 K mg "_law_far_prices" s_L_far_prices ["_law_draw"]
  d_L_row_of : Def3 K mg "_law_row_of" s_L_row_of ["_law_prices"]
  d_L_lines : Def3 K mg "_law_lines" s_L_lines ["_law_case"]
  cf0 : Cf K mg 0
  oc0 : Oc K mg 0
  cf1 : Cf K mg 1
  oc1 : Oc K mg 1
  d_L_begin : Def3 K mg "_law_begin" sBegin ["_law_script"]
  d_L_take : Def3 K mg "_law_take" sTake ["_law_draw", "_law_size"]
  d_L_wide : Def3 K mg "_law_wide" sWide ["_law_draw"]
end G69
namespace G69
open PySem PySem.Spec PyProof.Rows L2
/-! ### reading mirrors -/
theorem forW_inv {g : TG3} {tb : TS3} {D : Ends3} {ts : List T} {s : S3} (I : Nat → S3 → Prop) (h0 : I 0 s)
    (hs : ∀ (i : Nat) (t : T) (s : S3) (N : S3 → Prop), ts[i]? = some t → I i s → (∀ s', I (i + 1) s' → N s') → g t s fun s2 => tb { nx := N, rt := D.rt, bk := D.nx, ct := N } s2) (hd : ∀ s, I ts.length s → D.nx s) : forW g tb D ts s := by
  have go : ∀ (us : List T) (i : Nat) (s : S3), ts.drop i = us → i ≤ ts.length → I i s → forW g tb D us s := by
    intro us
    induction us with
    | nil =>
      intro i s e hi h
      have : i = ts.length := by
        have := List.drop_eq_nil_iff.mp e
        omega
      subst this
      exact hd s h
    | cons t us ih =>
      intro i s e hi h
      have hlt : i < ts.length := by
        by_cases q : i < ts.length
        · exact q
        · rw [List.drop_eq_nil_of_le (by omega)] at e
          cases e
      have ht : ts[i]? = some t := by
        rw [List.drop_eq_getElem_cons hlt] at e
        rw [List.getElem?_eq_getElem hlt]
        exact congrArg some (List.cons.inj e).1
      have e2 : ts.drop (i + 1) = us := by
        rw [List.drop_eq_getElem_cons hlt] at e
        exact (List.cons.inj e).2
      exact hs i t s _ ht h fun s' h' => ih (i + 1) s' e2 hlt h'
  exact go ts 0 s (List.drop_zero ..) (Nat.zero_le _) h0
theorem lcW_fun {g : TG3} {tt : TT3} {te : TE3} {vs : List Nat} {K : List T → S3 → Prop} (f : T → Option T) (s0 : S3) : ∀ {ts acc : List T} {s : S3}, wipe3 s vs = s0 →
    (∀ t ∈ ts, ∀ R : Option T → S3 → Prop, (∀ s', wipe3 s' vs = s0 → R (f t) s') → g t s0 fun s2 => tt s2 fun b s3 => If3 b (te s3 fun y s4 => R (some y) s4) (R none s3)) →
    (∀ s', wipe3 s' vs = s0 → K (acc ++ ts.filterMap f) s') → lcW g tt te vs K ts acc s
  | [], acc, s, hw, _, hk => by
    have := hk s hw
    rw [List.filterMap_nil, List.append_nil] at this
    exact this
  | t :: ts, acc, s, hw, h, hk => by
    have h1 := h t List.mem_cons_self (fun o s' => match o with
      | some y => lcW g tt te vs K ts (acc ++ [y]) s'
      | none => lcW g tt te vs K ts acc s') ?_
    · show g t (wipe3 s vs) _
      rw [hw]
      exact h1
    · intro s' hw'
      cases e : f t with
      | some y =>
        refine lcW_fun f s0 hw' (fun u hu => h u (List.mem_cons_of_mem _ hu)) fun s2 h2 => ?_
        have := hk s2 h2
        rw [List.filterMap_cons_some e] at this
        rw [List.append_assoc]
        exact this
      | none =>
        refine lcW_fun f s0 hw' (fun u hu => h u (List.mem_cons_of_mem _ hu)) fun s2 h2 => ?_
        have := hk s2 h2
        rw [List.filterMap_cons_none e] at this
        exact this
/-- .. without a test -/
theorem lcW_map {g : TG3} {te : TE3} {vs : List Nat} {K : List T → S3 → Prop} (f : T → T) (s0 : S3) {ts : List T} {s : S3} (hw : wipe3 s vs = s0)
    (h : ∀ t ∈ ts, ∀ R : T → S3 → Prop, (∀ s', wipe3 s' vs = s0 → R (f t) s') → g t s0 fun s2 => te s2 fun y s4 => R y s4) (hk : ∀ s', wipe3 s' vs = s0 → K (ts.map f) s') : lcW g tYes3 te vs K ts [] s :=
  lcW_fun (fun t => some (f t)) s0 hw (fun t ht R hR => h t ht (fun y s' => R (some y) s') hR) fun s' h' => by
    have := hk s' h'
    rw [List.nil_append, List.filterMap_eq_map']
    exact this
def put3 (s : S3) (x : Nat → Sl) : List Nat → S3
  | [] => s
  | v :: vs => (put3 s x vs).set v (x v)
theorem put3_len (s : S3) (x : Nat → Sl) : ∀ vs : List Nat, (put3 s x vs).length = s.length
  | [] => rfl
  | v :: vs => by unfold put3; rw [List.length_set, put3_len s x vs]
theorem put3_at (s : S3) (x : Nat → Sl) (i : Nat) : ∀ vs : List Nat, (put3 s x vs)[i]? = if i ∈ vs ∧ i < s.length then some (x i) else s[i]?
  | [] => by unfold put3; rw [if_neg (fun h => by cases h.1)]
  | v :: vs => by
    unfold put3
    rw [List.getElem?_set, put3_at s x i vs, put3_len]
    by_cases e : v = i
    · subst e
      rw [if_pos rfl]
      by_cases hl : v < s.length
      · rw [if_pos hl, if_pos ⟨List.mem_cons_self, hl⟩]
      · rw [if_neg hl, if_neg (fun h => hl h.2), List.getElem?_eq_none (by omega)]
    · rw [if_neg e]
      by_cases hm : i ∈ vs ∧ i < s.length
      · rw [if_pos hm, if_pos ⟨List.mem_cons_of_mem _ hm.1, hm.2⟩]
      · rw [if_neg hm, if_neg (fun h => hm ⟨by rcases List.mem_cons.mp h.1 with h | h; exact absurd h.symm e; exact h, h.2⟩)]
theorem put3_of {s s0 : S3} {vs : List Nat} (h : wipe3 s vs = s0) : s = put3 s0 (fun i => s.getD i .no) vs := by
  subst h
  apply List.ext_getElem?
  intro i
  rw [put3_at, wipe3_len]
  by_cases hm : i ∈ vs
  · by_cases hl : i < s.length
    · rw [if_pos ⟨hm, hl⟩, List.getElem?_eq_getElem hl, List.getD_eq_getElem?_getD, List.getElem?_eq_getElem hl]
      rfl
    · rw [if_neg (fun h => hl h.2), List.getElem?_eq_none (by omega), List.getElem?_eq_none (by rw [wipe3_len]; omega)]
  · rw [if_neg (fun h => hm h.1), wipe3_out hm]
theorem lcW_acc {α β : Type} {g : TG3} {te : TE3} {vs : List Nat} {K : List T → S3 → Prop} (h : α → T) (f : α → β) (k : β → T) (s0 : S3) : ∀ {l : List α} {acc : List T} {s : S3}, wipe3 s vs = s0 →
    (∀ x ∈ l, ∀ R : T → S3 → Prop, (∀ s', wipe3 s' vs = s0 → R (k (f x)) s') → g (h x) s0 fun s2 => te s2 fun y s4 => R y s4) →
    (∀ x : Nat → Sl, K (acc ++ (l.map f).map k) (put3 s0 x vs)) → lcW g tYes3 te vs K (l.map h) acc s
  | [], acc, s, hw, _, hk => by
    have := hk (fun i => s.getD i .no)
    rw [← put3_of hw] at this
    rw [List.map_nil, List.map_nil, List.append_nil] at this
    exact this
  | x :: l, acc, s, hw, H, hk => by
    show g (h x) (wipe3 s vs) _
    rw [hw]
    refine H x List.mem_cons_self (fun y s4 => lcW g tYes3 te vs K (l.map h) (acc ++ [y]) s4) fun s' hs' => ?_
    refine lcW_acc h f k s0 hs' (fun u hu => H u (List.mem_cons_of_mem _ hu)) fun x2 => ?_
    have := hk x2
    rw [List.map_cons, List.map_cons] at this
    rw [List.append_assoc]
    exact this
theorem back3_ix (s s4 : S3) (i : Nat) : ∀ vs : List Nat, (back3 s s4 vs)[i]? = if i ∈ vs ∧ i < s4.length then some (match s[i]? with
    | some (.sh t) => .sh t
    | _ => .no) else s4[i]?
  | [] => by unfold back3; rw [if_neg (fun h => by cases h.1)]
  | v :: vs => by
    have hl : (back3 s s4 vs).length = s4.length := by
      clear back3_ix
      induction vs with
      | nil => rfl
      | cons u us ih => unfold back3; rw [List.length_set, ih]
    unfold back3
    rw [List.getElem?_set, back3_ix s s4 i vs, hl]
    by_cases e : v = i
    · subst e
      rw [if_pos rfl]
      by_cases hl : v < s4.length
      · exact (if_pos hl).trans (if_pos ⟨List.mem_cons_self, hl⟩).symm
      · rw [if_neg hl, if_neg (fun h => hl h.2), List.getElem?_eq_none (by omega)]
    · rw [if_neg e]
      by_cases hm : i ∈ vs ∧ i < s4.length
      · rw [if_pos hm, if_pos ⟨List.mem_cons_of_mem _ hm.1, hm.2⟩]
      · rw [if_neg hm, if_neg (fun h => hm ⟨by rcases List.mem_cons.mp h.1 with h | h; exact absurd h.symm e; exact h, h.2⟩)]
theorem back3_same {s s4 : S3} {vs : List Nat} (h : wipe3 s4 vs = wipe3 s vs) : back3 s s4 vs = back3 s s vs := by
  have hl : s4.length = s.length := by rw [← wipe3_len s4 vs, ← wipe3_len s vs, h]
  apply List.ext_getElem?
  intro i
  rw [back3_ix, back3_ix, hl]
  by_cases hm : i ∈ vs
  · by_cases hi : i < s.length
    · rw [if_pos ⟨hm, hi⟩, if_pos ⟨hm, hi⟩]
    · rw [if_neg (fun h => hi h.2), if_neg (fun h => hi h.2), List.getElem?_eq_none (by omega), List.getElem?_eq_none (by omega)]
  · rw [if_neg (fun h => hm h.1), if_neg (fun h => hm h.1), ← wipe3_out (s := s4) hm, ← wipe3_out (s := s) hm, h]
/-- a comprehension over a mapped list: s0 is the state when it begins -/
theorem lc_on {α β : Type} {ti : TI3} {g : TG3} {te : TE3} {vs : List Nat} {s : S3} {Q : T → S3 → Prop} (h : α → T) (f : α → β) (k : β → T) (l : List α) (s0 : S3) {w0 : S3} (hi : ∀ P : List T → S3 → Prop, P (l.map h) s0 → ti s P)
    (H : ∀ x ∈ l, ∀ R : T → S3 → Prop, (∀ s', wipe3 s' vs = w0 → R (k (f x)) s') → g (h x) w0 fun s2 => te s2 fun y s4 => R y s4)
    (q : Q (.lst ((l.map f).map k)) s0) (hw : wipe3 s0 vs = w0 := by first | (simp only [wipe3, List.set_cons_zero, List.set_cons_succ]; done) | (simp only [wipe3, List.set_cons_zero, List.set_cons_succ]; rfl) | rfl) (hb : back3 s0 s0 vs = s0 := by rfl) : tLc3 ti g tYes3 te vs s Q := by
  unfold tLc3
  refine hi _ (lcW_acc h f k w0 hw H fun x => ?_)
  have e : back3 s0 (put3 w0 x vs) vs = s0 := by
    rw [back3_same, hb]
    rw [hw]
    subst hw
    apply List.ext_getElem?
    intro i
    by_cases hm : i ∈ vs
    · have w1 : ∀ (s : S3) (us : List Nat), i ∈ us → (wipe3 s us)[i]? = if i < s.length then some .no else none := by
        intro s us
        induction us with
        | nil => intro h; cases h
        | cons u us ih =>
          intro hu
          unfold wipe3
          rw [List.getElem?_set, wipe3_len]
          by_cases e : u = i
          · subst e
            rw [if_pos rfl]
          · rw [if_neg e]
            exact ih (by rcases List.mem_cons.mp hu with h | h; exact absurd h.symm e; exact h)
      rw [w1 _ _ hm, w1 _ _ hm, put3_len, wipe3_len]
    · rw [wipe3_out hm, put3_at, if_neg (fun h => hm h.1)]
  show Q _ (back3 s0 (put3 w0 x vs) vs)
  rw [e]
  exact q
theorem for_inv {ti : TI3} {g : TG3} {tb : TS3} {D : Ends3} {s : S3} (ts : List T) (s0 : S3) (I : Nat → S3 → Prop) (hi : ∀ P : List T → S3 → Prop, P ts s0 → ti s P) (h0 : I 0 s0)
    (hs : ∀ (i : Nat) (t : T) (s : S3) (N : S3 → Prop), ts[i]? = some t → I i s → (∀ s', I (i + 1) s' → N s') → g t s fun s2 => tb { nx := N, rt := D.rt, bk := D.nx, ct := N } s2) (hd : ∀ s, I ts.length s → D.nx s) : tFor3 ti g tb D s := by
  unfold tFor3
  exact hi _ (forW_inv I h0 hs hd)
end G69
namespace G69
open PySem PySem.Spec PyProof.Rows L2
/-! ### letters, texts -/
theorem m_is_integer {x : T} {b c : Bool} {Q : T → Prop} (h1 : isiT .int x = some b) (h2 : isiT .bool x = some c) (q : Q (.bl (b && !c))) : w_is_integer [x] Q E03 := by
  rw [u_is_integer]; unfold b_is_integer
  conv => whnf
  rw [h1]
  conv => whnf
  cases b with
  | false => exact q
  | true =>
    conv => whnf
    rw [h2]
    exact q
theorem m_is_text {z : Str} {Q : T → Prop} (q : Q (.bl (z.cps.toList.all isLb))) : w_is_text [.str z] Q E03 := by
  rw [u_is_text]; unfold b_is_text
  refine lc_on (fun c => T.str ⟨#[c]⟩) isLb T.bl z.cps.toList [.sh (.str z), .no] (fun P h => h) (fun c hc R hR => ?_) ?_
  · conv => whnf
    rw [show (decide (c ∈ Array.toList (Str.cps "abcdefghijklmnopqrstuvwxyz")) : Bool) = isLb c from abc_mem c]
    exact hR [.sh (.str z), .sh (.str ⟨#[c]⟩)] rfl
  · conv => whnf
    rw [bls?_map]
    conv => whnf
    rw [List.all_map]
    exact q
theorem m_int {i : Int} {Q : T → Prop} (q : Q (.bl true)) : w_is_integer [.int i] Q E03 := by
  rw [u_is_integer]; unfold b_is_integer
  exact q
theorem m_is_price {i : Int} {Q : T → Prop} (h0 : 1 ≤ i) (h9 : i ≤ 9) (q : Q (.bl true)) : w_is_price [.int i] Q E03 := by
  rw [u_is_price]; unfold b_is_price
  refine m_int ?_
  show If3 (decide ((1 : Int) ≤ i)) _ _
  refine if3 (fun _ => ?_) (fun h => absurd h0 h)
  show Q (.bl (decide (i ≤ _)))
  rw [decide_eq_true h9]
  exact q
/-- slips as a tree -/
def slT (e m w : Int) (s : Option Int) : T := .ins 0 [.int e, .int m, .int w, swT s]
theorem m_slips {e m w : Int} {s : Option Int} {Q : T → Prop} (ok : PrOk e m w s) (q : Q (slT e m w s)) : w_Slips__init_ [.int e, .int m, .int w, swT s] Q E03 := by
  rw [u_Slips__init_]; unfold b_Slips__init_
  refine m_is_price ok.e0 ok.e9 ?_
  refine m_is_price ok.m0 ok.m9 ?_
  refine m_is_price ok.w0 ok.w9 ?_
  cases s with
  | none => exact q
  | some i => exact m_is_price (ok.s0 i rfl).1 (ok.s0 i rfl).2 q
theorem m_is_word {z : Str} {Q : T → Prop} (h : isT (.str z) = true) (h1 : 1 ≤ z.length) (h5 : z.length ≤ 5) (q : Q (.bl true)) : w_is_word [.str z] Q E03 := by
  rw [u_is_word]; unfold b_is_word
  refine m_is_text ?_
  rw [show z.cps.toList.all isLb = true from h]
  show If3 (decide ((1 : Int) ≤ (z.length : Int))) _ _
  refine if3 (fun _ => ?_) (fun h => absurd (by omega) h)
  show Q (.bl (decide (((z.length : Nat) : Int) ≤ 5)))
  rw [decide_eq_true (by omega)]
  exact q
theorem m_is_own {i : Int} {Q : T → Prop} (h0 : 0 ≤ i) (h9 : i ≤ 999) (q : Q (.bl true)) : w_is_own [.int i] Q E03 := by
  rw [u_is_own]; unfold b_is_own
  refine m_int ?_
  show If3 (decide ((0 : Int) ≤ i)) _ _
  refine if3 (fun _ => ?_) (fun h => absurd h0 h)
  show Q (.bl (decide (i ≤ _)))
  rw [decide_eq_true h9]
  exact q
theorem m_is_entry {en : En} {Q : T → Prop} (ok : EnOk1 en) (q : Q (.bl true)) : w_is_entry [enT en] Q E03 := by
  rw [u_is_entry]; unfold b_is_entry
  refine ⟨_, rfl, m_is_word ok.tx ok.l1 ok.l5 ⟨_, rfl, m_is_own ok.o0 ok.o9 q⟩⟩
end G69
namespace G69
open PySem PySem.Spec PyProof.Rows L2
/-! ### spellers -/
theorem enumT_inv {ts : List T} {i : Nat} {t : T} (h : (enumT ts)[i]? = some t) : ∃ u, ts[i]? = some u ∧ t = .tup [.int (i : Nat), u] := by
  have hi : i < (enumT ts).length := (List.getElem?_eq_some_iff.mp h).1
  rw [enumT_len] at hi
  have e := enumT_at (List.getElem?_eq_getElem hi)
  rw [h] at e
  exact ⟨ts[i], List.getElem?_eq_getElem hi, Option.some.inj e⟩
theorem map_inv {α β : Type} {f : α → β} {l : List α} {i : Nat} {y : β} (h : (l.map f)[i]? = some y) : ∃ x, l[i]? = some x ∧ y = f x := by
  rw [List.getElem?_map] at h
  cases e : l[i]? with
  | none => rw [e] at h; cases h
  | some x => rw [e] at h; exact ⟨x, rfl, (Option.some.inj h).symm⟩
def wT (es : List En) : List T := es.map fun en => T.str en.1
theorem flat_wT (es : List En) : (wT es).all flatT = true := by
  rw [List.all_eq_true]
  intro t ht
  obtain ⟨x, _, rfl⟩ := List.mem_map.mp ht
  rfl
theorem inT_wT (z : Str) (es : List En) : inT (.str z) (wT es) = decide (z ∈ es.map Prod.fst) := by
  rw [Bool.eq_iff_iff, decide_eq_true_eq]
  unfold inT wT
  rw [List.any_map, List.any_eq_true, List.mem_map]
  constructor
  · rintro ⟨x, h1, h2⟩
    have h2 : (x.1 == z) = true := h2
    exact ⟨x, h1, beq_iff_eq.mp h2⟩
  · rintro ⟨x, h1, h2⟩
    exact ⟨x, h1, by show (x.1 == z) = true; exact beq_iff_eq.mpr h2⟩
theorem nodupTake {l : List Str} {i : Nat} {x : Str} (h : l[i]? = some x) (n : l.Nodup) : x ∉ l.take i := by
  intro hm
  obtain ⟨j, hj, e⟩ := List.getElem_of_mem hm
  have hj2 : j < l.length := Nat.lt_of_lt_of_le hj (by rw [List.length_take]; exact Nat.min_le_right _ _)
  have hji : j < i := Nat.lt_of_lt_of_le hj (by rw [List.length_take]; exact Nat.min_le_left _ _)
  obtain ⟨hi, e2⟩ := List.getElem?_eq_some_iff.mp h
  have e3 : l[j] = l[i] := by
    rw [List.getElem_take] at e
    rw [e, e2]
  exact (List.pairwise_iff_getElem.mp n) j i hj2 hi hji e3
theorem m_need {es : List En} {Q : T → Prop} (ok : EnOk es) (q : Q .non) : w_need_entries [.lst (es.map enT)] Q E03 := by
  rw [u_need_entries]; unfold b_need_entries
  refine for_inv (enumT (es.map enT)) [.sh (.lst (es.map enT)), .sh (.lst []), .no, .no] (fun i s => ∃ x y, s = [.sh (.lst (es.map enT)), .sh (.lst (wT (es.take i))), x, y]) (fun P h => h) ⟨_, _, rfl⟩ ?_ (fun s h => q)
  rintro i t s N ht ⟨x, y, rfl⟩ hN
  obtain ⟨u, hu, rfl⟩ := enumT_inv ht
  obtain ⟨en, hen, rfl⟩ := map_inv hu
  have hi : i < es.length := (List.getElem?_eq_some_iff.mp hen).1
  have h4 := ok.few
  show If3 (decide (((i : Nat) : Int) = 4)) _ _
  refine if3 (fun h => absurd h (by omega)) fun _ => ?_
  refine m_is_entry (ok.all en (List.mem_of_getElem? hen)) ?_
  refine ⟨_, rfl, ⟨rfl, flat_wT _⟩, ?_⟩
  have hin : inT (.str en.1) (wT (es.take i)) = false := by
    rw [inT_wT, decide_eq_false]
    rw [List.map_take]
    exact nodupTake (by rw [List.getElem?_map, hen]; rfl) ok.nd
  rw [hin]
  refine ⟨_, rfl, szle (by show (wT (es.take i)).length + 1 ≤ 1000000; unfold wT; rw [List.length_map, List.length_take]; omega), hN _ ⟨.sh (.int (i : Nat)), .sh (enT en), ?_⟩⟩
  show [_, Sl.sh (T.lst (wT (es.take i) ++ [T.str en.1])), _, _] = _
  have e : wT (es.take i) ++ [T.str en.1] = wT (es.take (i + 1)) := by
    unfold wT
    rw [List.take_add_one, hen, List.map_append]
    rfl
  rw [e]
def spT (es : List En) (e m w : Int) (s : Option Int) : T := .ins 1 [.tup (es.map enT), slT e m w s]
theorem m_speller {es : List En} {e m w : Int} {s : Option Int} {Q : T → Prop} (ok : EnOk es) (q : Q (spT es e m w s)) : w_Speller__init_ [.lst (es.map enT), slT e m w s] Q E03 := by
  rw [u_Speller__init_]; unfold b_Speller__init_
  refine m_need ok ?_
  exact q
theorem m_L_slips {e m w : Int} {s : Option Int} {Q : T → Prop} (ok : PrOk e m w s) (q : Q (slT e m w s)) : w_L_slips [priT e m w s] Q E03 := by
  rw [u_L_slips]; unfold b_L_slips
  refine ⟨_, rfl, _, rfl, _, rfl, _, rfl, ?_⟩
  refine m_slips ok ?_
  exact q
theorem m_L_speller {es : List En} {e m w : Int} {s : Option Int} {Q : T → Prop} (pk : PrOk e m w s) (ok : EnOk es) (q : Q (spT es e m w s)) : w_L_speller [.dic [kPri, kEnt] [priT e m w s, .lst (es.map enT)]] Q E03 := by
  rw [u_L_speller]; unfold b_L_speller
  refine m_L_slips pk ?_
  refine m_speller ok ?_
  exact q
end G69
namespace G69
open PySem PySem.Spec PyProof.Rows L2
/-! ### numbers as texts -/
def chk (z : Str) : Bool := decide (1 ≤ z.length) && decide (z.length ≤ 4) && z.cps.toList.all (fun c => decide (48 ≤ c) && decide (c ≤ 57)) && (decide (z = "0") || !decide (z.cps.toList.head? = some 48))
theorem chk_all : ∀ n : Nat, n < 1000 → chk (nStr (n : Int)) = true := by decide +kernel
structure NumS (z : Str) : Prop where
  l1 : 1 ≤ z.length
  l4 : z.length ≤ 4
  dg : ∀ c ∈ z.cps.toList, 48 ≤ c ∧ c ≤ 57
  hd : z = "0" ∨ z.cps.toList.head? ≠ some 48
theorem chk_num {z : Str} (h : chk z = true) : NumS z := by
  unfold chk at h
  simp only [Bool.and_eq_true, decide_eq_true_eq, Bool.or_eq_true, List.all_eq_true, Bool.not_eq_true', decide_eq_false_iff_not] at h
  exact ⟨h.1.1.1, h.1.1.2, h.1.2, h.2⟩
theorem num_ok {n : Int} (h0 : 0 ≤ n) (h9 : n ≤ 999) : NumS (nStr n) := by
  have := chk_all n.toNat (by omega)
  rw [Int.toNat_of_nonneg h0] at this
  exact chk_num this
theorem f_str {n : Int} {P : T → Prop} (h0 : 0 ≤ n) (h9 : n ≤ 999) (q : P (.str (nStr n))) : fStr [.int n] P := by
  unfold fStr
  exact ⟨⟨Nat.lt_of_le_of_lt (Nat.log2_le_self _) (by omega), Nat.le_trans (num_ok h0 h9).l4 (by decide)⟩, q⟩
theorem f_int {n : Int} {P : T → Prop} (h0 : 0 ≤ n) (h9 : n ≤ 999) (q : P (.int n)) : fIntS [.str (nStr n)] P := by
  unfold fIntS
  refine ⟨Nat.le_trans (num_ok h0 h9).l4 (by decide), ?_⟩
  rw [show PySem.intText? (nStr n) = some n from PySem.W.KIN.num_reads h0 (by omega)]
  exact q
/-! ### the text of a speller -/
def lastS : Option Int → Str
  | none => "none"
  | some i => nStr i
def rowS (e m w : Int) (s : Option Int) : Str := Txt.join " " ["slips", nStr e, nStr m, nStr w, lastS s]
def rowW (en : En) : Str := Txt.join " " ["word", en.1, nStr en.2]
def rowsS (es : List En) (e m w : Int) (s : Option Int) : List Str := rowS e m w s :: es.map rowW
def page (es : List En) (e m w : Int) (s : Option Int) : Str := Txt.join "" ((rowsS es e m w s).map (· ++ ("\n" : Str)))
theorem last_len {s : Option Int} (h : ∀ i, s = some i → 1 ≤ i ∧ i ≤ 9) : (lastS s).length ≤ 4 := by
  cases s with
  | none => decide
  | some i => exact (num_ok (by have := h i rfl; omega) (by have := h i rfl; omega)).l4
theorem tlLen (x : Str) : x.length = x.cps.toList.length := by first | rfl | exact (Array.length_toList).symm
theorem tl_joinT (y : Str) (ps : List Str) : (Txt.join y ps).cps.toList = TL.joinL y.cps.toList (ps.map TL.tl) := by
  rw [TL.join_eq]
  exact TL.tl_join y ps
theorem rowS_len {e m w : Int} {s : Option Int} (pk : PrOk e m w s) : (rowS e m w s).length ≤ 40 := by
  rw [tlLen, rowS, tl_joinT]
  have h1 := (num_ok (n := e) (by have := pk.e0; omega) (by have := pk.e9; omega)).l4
  have h2 := (num_ok (n := m) (by have := pk.m0; omega) (by have := pk.m9; omega)).l4
  have h3 := (num_ok (n := w) (by have := pk.w0; omega) (by have := pk.w9; omega)).l4
  have h4 := last_len pk.s0
  rw [tlLen] at h1 h2 h3 h4
  have e0 : (TL.tl ("slips" : Str)).length = 5 := by decide +kernel
  have e1 : (Str.cps (" " : Str)).toList.length = 1 := by decide +kernel
  simp only [List.map_cons, List.map_nil, TL.joinL, List.length_append, e1, e0]
  unfold TL.tl
  omega
theorem rowW_len {en : En} (ok : EnOk1 en) : (rowW en).length ≤ 40 := by
  rw [tlLen, rowW, tl_joinT]
  have h1 := (num_ok ok.o0 ok.o9).l4
  have h2 := ok.l5
  rw [tlLen] at h1 h2
  have e0 : (TL.tl ("word" : Str)).length = 4 := by decide +kernel
  have e1 : (Str.cps (" " : Str)).toList.length = 1 := by decide +kernel
  simp only [List.map_cons, List.map_nil, TL.joinL, List.length_append, e1, e0]
  unfold TL.tl
  omega
theorem rows_len {es : List En} {e m w : Int} {s : Option Int} (pk : PrOk e m w s) (ok : EnOk es) : ∀ z ∈ rowsS es e m w s, z.length ≤ 40 := by
  intro z hz
  rcases List.mem_cons.mp hz with rfl | hz
  · exact rowS_len pk
  · obtain ⟨en, he, rfl⟩ := List.mem_map.mp hz
    exact rowW_len (ok.all en he)
theorem rows_few {es : List En} {e m w : Int} {s : Option Int} (ok : EnOk es) : (rowsS es e m w s).length ≤ 5 := by
  unfold rowsS
  rw [List.length_cons, List.length_map]
  have := ok.few
  omega
theorem sum_le {l : List Str} {k : Nat} (h : ∀ z ∈ l, z.length ≤ k) : (l.map (·.length)).sum ≤ l.length * k := by
  induction l with
  | nil => exact Nat.zero_le _
  | cons x r ih =>
    rw [List.map_cons, List.sum_cons, List.length_cons, Nat.add_mul, Nat.one_mul]
    have := h x List.mem_cons_self
    have := ih fun z hz => h z (List.mem_cons_of_mem _ hz)
    omega
theorem joinL_len (S : List Nat) : ∀ ps : List (List Nat), (TL.joinL S ps).length ≤ (ps.map (·.length)).sum + ps.length * S.length
  | [] => Nat.zero_le _
  | [p] => by
    show p.length ≤ _
    simp only [List.map_cons, List.map_nil, List.sum_cons, List.sum_nil]
    omega
  | p :: q :: r => by
    have ih := joinL_len S (q :: r)
    show (p ++ (S ++ TL.joinL S (q :: r))).length ≤ _
    rw [List.length_append, List.length_append, List.map_cons, List.sum_cons, List.length_cons (a := p), Nat.add_mul]
    omega
theorem join_len (y : Str) (ps : List Str) : (Txt.join y ps).length ≤ (ps.map (·.length)).sum + ps.length * y.length := by
  rw [tlLen, tl_joinT]
  have := joinL_len y.cps.toList (ps.map TL.tl)
  rw [List.map_map, List.length_map, ← tlLen] at this
  refine Nat.le_trans this (Nat.le_of_eq ?_)
  congr 2
/-- a join of short texts -/
theorem f_join {a : Str} {ys : List Str} {P : T → Prop} (h : ∀ z ∈ ys, z.length ≤ 100) (hl : ys.length ≤ 100) (ha : a.length ≤ 10) (q : P (.str (Txt.join a ys))) : fJoin a (.lst (ys.map T.str)) P := by
  unfold fJoin
  dsimp only
  rw [strs?_map]
  have h1 := sum_le h
  have h2 : ys.length * 100 ≤ 100 * 100 := Nat.mul_le_mul_right _ hl
  have h3 : ys.length * a.length ≤ 100 * 10 := Nat.mul_le_mul hl ha
  have h4 := join_len a ys
  exact ⟨⟨by omega, szle (by omega)⟩, q⟩
theorem m_p_slips {es : List En} {e m w : Int} {s : Option Int} {Q : T → Prop} (q : Q (slT e m w s)) : w_Speller_slips [spT es e m w s] Q E03 := by
  rw [u_Speller_slips]; unfold b_Speller_slips
  exact q
theorem m_p_entries {es : List En} {e m w : Int} {s : Option Int} {Q : T → Prop} (q : Q (.tup (es.map enT))) : w_Speller_entries [spT es e m w s] Q E03 := by
  rw [u_Speller_entries]; unfold b_Speller_entries
  exact q
theorem m_p_extra {e m w : Int} {s : Option Int} {Q : T → Prop} (q : Q (.int e)) : w_Slips_extra [slT e m w s] Q E03 := by
  rw [u_Slips_extra]; unfold b_Slips_extra
  exact q
theorem m_p_missing {e m w : Int} {s : Option Int} {Q : T → Prop} (q : Q (.int m)) : w_Slips_missing [slT e m w s] Q E03 := by
  rw [u_Slips_missing]; unfold b_Slips_missing
  exact q
theorem m_p_wrong {e m w : Int} {s : Option Int} {Q : T → Prop} (q : Q (.int w)) : w_Slips_wrong [slT e m w s] Q E03 := by
  rw [u_Slips_wrong]; unfold b_Slips_wrong
  exact q
theorem m_p_swapped {e m w : Int} {s : Option Int} {Q : T → Prop} (q : Q (swT s)) : w_Slips_swapped [slT e m w s] Q E03 := by
  rw [u_Slips_swapped]; unfold b_Slips_swapped
  exact q
end G69
namespace G69
open PySem PySem.Spec PyProof.Rows L2
/-! ### comprehensions over mapped lists -/
theorem len5 {e m w : Int} {s : Option Int} (pk : PrOk e m w s) : ∀ z ∈ [("slips" : Str), nStr e, nStr m, nStr w, lastS s], z.length ≤ 100 := by
  have h1 := (num_ok (n := e) (by have := pk.e0; omega) (by have := pk.e9; omega)).l4
  have h2 := (num_ok (n := m) (by have := pk.m0; omega) (by have := pk.m9; omega)).l4
  have h3 := (num_ok (n := w) (by have := pk.w0; omega) (by have := pk.w9; omega)).l4
  have h4 := last_len pk.s0
  have h5 : Str.length "slips" ≤ 100 := by decide
  intro z hz
  simp only [List.mem_cons, List.not_mem_nil, or_false] at hz
  rcases hz with rfl | rfl | rfl | rfl | rfl <;> omega
theorem len3 {en : En} (ok : EnOk1 en) : ∀ z ∈ [("word" : Str), en.1, nStr en.2], z.length ≤ 100 := by
  have h1 := (num_ok ok.o0 ok.o9).l4
  have h2 := ok.l5
  have h5 : Str.length "word" ≤ 100 := by decide
  intro z hz
  simp only [List.mem_cons, List.not_mem_nil, or_false] at hz
  rcases hz with rfl | rfl | rfl <;> omega
theorem nl_len : Str.length "\n" = 1 := by decide
theorem lenR {rs : List Str} (h : ∀ z ∈ rs, z.length ≤ 40) : ∀ z ∈ rs.map (fun z => z ++ ("\n" : Str)), z.length ≤ 100 := by
  intro z hz
  obtain ⟨y, hy, rfl⟩ := List.mem_map.mp hz
  have := h y hy
  rw [str_app_len, nl_len]
  omega
theorem lenL {rs : List Str} (h : rs.length ≤ 5) : (rs.map (fun z => z ++ ("\n" : Str))).length ≤ 100 := by
  rw [List.length_map]
  omega
theorem m_text {es : List En} {e m w : Int} {s : Option Int} {Q : T → Prop} (pk : PrOk e m w s) (ok : EnOk es) (q : Q (.str (page es e m w s))) : w_speller_text [spT es e m w s] Q E03 := by
  rw [u_speller_text]; unfold b_speller_text
  refine m_p_slips ?_
  refine m_p_swapped ?_
  rcases s with _ | i
  case' some => refine m_p_swapped (f_str (by have := pk.s0 i rfl; omega) (by have := pk.s0 i rfl; omega) ?_)
  all_goals
    refine m_p_extra ?_
    refine f_str (by have := pk.e0; omega) (by have := pk.e9; omega) ?_
    refine m_p_missing ?_
    refine f_str (by have := pk.m0; omega) (by have := pk.m9; omega) ?_
    refine m_p_wrong ?_
    refine f_str (by have := pk.w0; omega) (by have := pk.w9; omega) ?_
    refine f_join (ys := [_, _, _, _, _]) (len5 pk) (by show 5 ≤ 100; decide) (by decide) ?_
    refine lc_on enT rowW T.str es [.sh (spT es e m w _), .sh (slT e m w _), .sh (.str _), .sh (.lst [.str _]), .no, .no, .no] (fun P h => m_p_entries h) (fun en hen R hR => ?_) ?_
    · refine f_str (ok.all en hen).o0 (ok.all en hen).o9 ?_
      refine f_join (ys := [_, _, _]) (len3 (ok.all en hen)) (by show 3 ≤ 100; decide) (by decide) ?_
      exact hR _ rfl
    · refine ⟨szle (by rw [List.length_map, List.length_map]; have := ok.few; show 1 + es.length ≤ 1000000; omega), ?_⟩
      refine lc_on T.str (fun z => z ++ ("\n" : Str)) T.str (_ :: es.map rowW) [.sh (spT es e m w _), .sh (slT e m w _), .sh (.str _), .sh (.lst (.str _ :: (es.map rowW).map T.str)), .no, .no, .no] (fun P h => h) (fun z hz R hR => ?_) ?_
      · exact ⟨szle (by have := rows_len pk ok z hz; rw [nl_len]; omega), hR _ rfl⟩
      · refine f_join (ys := (_ :: es.map rowW).map fun z => z ++ ("\n" : Str)) (lenR ?_) (lenL ?_) (by decide) q
        · intro z hz
          exact rows_len pk ok z hz
        · have := ok.few
          rw [List.length_cons, List.length_map]
          omega
end G69
namespace G69
open PySem PySem.Spec PyProof.Rows L2
/-! ### the law's own text -/
theorem m_L_row_of {e m w : Int} {s : Option Int} {Q : T → Prop} (pk : PrOk e m w s) (q : Q (.str (rowS e m w s))) : w_L_row_of [priT e m w s] Q E03 := by
  rw [u_L_row_of]; unfold b_L_row_of
  refine ⟨_, rfl, ?_⟩
  rcases s with _ | i
  case' some => refine ⟨_, rfl, f_str (n := i) (by have := pk.s0 i rfl; omega) (by have := pk.s0 i rfl; omega) ?_⟩
  all_goals
    refine lc_on T.int nStr T.str [e, m, w] [.sh (priT e m w _), .sh (.str _), .no] (fun P h => h) (fun n hn R hR => ?_) ?_
    · have hn3 : 1 ≤ n ∧ n ≤ 9 := by
        simp only [List.mem_cons, List.not_mem_nil, or_false] at hn
        rcases hn with rfl | rfl | rfl
        · exact ⟨pk.e0, pk.e9⟩
        · exact ⟨pk.m0, pk.m9⟩
        · exact ⟨pk.w0, pk.w9⟩
      exact f_str (by omega) (by omega) (hR _ rfl)
    · refine ⟨szle (by show 1 + 3 ≤ 1000000; decide), szle (by show 4 + 1 ≤ 1000000; decide), ?_⟩
      exact f_join (ys := [_, _, _, _, _]) (len5 pk) (by show 5 ≤ 100; decide) (by decide) q
theorem rowW_eq (en : En) : ((("word " : Str) ++ en.1) ++ (" " : Str)) ++ nStr en.2 = rowW en := by
  refine TL.ext_tl ?_
  unfold rowW
  rw [TL.join_eq, TL.tl_join, TL.tl_append, TL.tl_append, TL.tl_append]
  have e : TL.tl ("word " : Str) = TL.tl ("word" : Str) ++ TL.tl (" " : Str) := by decide +kernel
  rw [e]
  show _ = TL.tl ("word" : Str) ++ (TL.tl (" " : Str) ++ (TL.tl en.1 ++ (TL.tl (" " : Str) ++ TL.tl (nStr en.2))))
  simp only [List.append_assoc]
theorem m_L_lines {es : List En} {e m w : Int} {s : Option Int} {Q : T → Prop} (pk : PrOk e m w s) (ok : EnOk es) (q : Q (.str (page es e m w s))) : w_L_lines [.dic [kPri, kEnt] [priT e m w s, .lst (es.map enT)]] Q E03 := by
  rw [u_L_lines]; unfold b_L_lines
  refine m_L_row_of pk ?_
  refine lc_on enT rowW T.str es [.sh (.dic [kPri, kEnt] [priT e m w s, .lst (es.map enT)]), .no, .no, .no, .no] (fun P h => h) (fun en hen R hR => ?_) ?_
  · have k := ok.all en hen
    have h5 := k.l5
    have h4 := (num_ok k.o0 k.o9).l4
    have l1 : Str.length "word " = 5 := by decide
    have l2 : Str.length " " = 1 := by decide
    refine ⟨szle (by rw [l1]; omega), szle (by rw [str_app_len, l1, l2]; omega), f_str k.o0 k.o9 ⟨szle (by rw [str_app_len, str_app_len, l1, l2]; omega), ?_⟩⟩
    rw [rowW_eq]
    exact hR [.sh (.dic [kPri, kEnt] [priT e m w s, .lst (es.map enT)]), .no, .sh (.str en.1), .sh (.int en.2), .no] rfl
  · refine ⟨szle (by rw [List.length_map, List.length_map]; have := ok.few; show 1 + es.length ≤ 1000000; omega), ?_⟩
    refine lc_on T.str (fun z => z ++ ("\n" : Str)) T.str (rowsS es e m w s) [.sh (.dic [kPri, kEnt] [priT e m w s, .lst (es.map enT)]), .sh (.lst ((rowsS es e m w s).map T.str)), .no, .no, .no] (fun P h => h) (fun z hz R hR => ?_) ?_
    · exact ⟨szle (by have := rows_len pk ok z hz; rw [nl_len]; omega), hR _ rfl⟩
    · exact f_join (ys := (rowsS es e m w s).map fun z => z ++ ("\n" : Str)) (lenR (rows_len pk ok)) (lenL (rows_few ok)) (by decide) q
/-! ### reading -/
theorem dgs {c : Nat} (h : 48 ≤ c ∧ c ≤ 57) : c ∈ Array.toList (Str.cps "0123456789") := by
  have e : Array.toList (Str.cps "0123456789") = [48, 49, 50, 51, 52, 53, 54, 55, 56, 57] := by decide +kernel
  rw [e]
  simp only [List.mem_cons, List.not_mem_nil, or_false]
  omega
theorem m_is_number {z : Str} {Q : T → Prop} (h : NumS z) (q : Q (.bl true)) : w_is_number [.str z] Q E03 := by
  rw [u_is_number]; unfold b_is_number
  show If3 (decide ((1 : Int) ≤ (z.length : Int))) _ _
  refine if3 (fun _ => ?_) (fun n => absurd (by have := h.l1; omega) n)
  show If3 (!decide ((z.length : Int) ≤ (4 : Int))) _ _
  refine if3n (fun n => absurd (by have := h.l4; omega) n) (fun _ => ?_)
  refine lc_on (fun c => T.str ⟨#[c]⟩) (fun _ => true) T.bl z.cps.toList [.sh (.str z), .no] (fun P h => h) (fun c hc R hR => ?_) ?_
  · conv => whnf
    rw [decide_eq_true (dgs (h.dg c hc))]
    exact hR [.sh (.str z), .sh (.str ⟨#[c]⟩)] rfl
  · conv => whnf
    rw [bls?_map]
    conv => whnf
    rw [show ((z.cps.toList.map fun _ => true).all id) = true by rw [List.all_map]; exact List.all_eq_true.mpr fun _ _ => rfl]
    show If3 (decide (z = "0")) _ _
    refine if3 (fun _ => q) fun n0 => ?_
    have hl := h.l1
    rw [tlLen] at hl
    cases hz : z.cps.toList with
    | nil => rw [hz] at hl; exact absurd hl (by decide)
    | cons c cs =>
      refine ⟨c, by rw [hz]; exact atI_nat (j := 0) rfl, ?_⟩
      show Q (.bl (!decide ((⟨#[c]⟩ : Str) = "0")))
      rw [decide_eq_false, Bool.not_false]
      · exact q
      · intro e
        rcases h.hd with h0 | h0
        · exact n0 h0
        · apply h0
          rw [hz]
          have e2 : (⟨#[c]⟩ : Str).cps.toList = (Str.cps "0").toList := by rw [e]
          have e3 : (Str.cps "0").toList = [48] := by decide +kernel
          rw [e3] at e2
          exact congrArg some (List.cons.inj e2).1
end G69
namespace G69
open PySem PySem.Spec PyProof.Rows L2
/-! ### a page read back -/
def pS (e m w : Int) (s : Option Int) : List Str := ["slips", nStr e, nStr m, nStr w, lastS s]
def pW (en : En) : List Str := ["word", en.1, nStr en.2]
def parts (es : List En) (e m w : Int) (s : Option Int) : List (List Str) := pS e m w s :: es.map pW
def jn (ps : List Str) : Str := Txt.join " " ps
def lT (ps : List Str) : T := .lst (ps.map T.str)
theorem rows_parts (es : List En) (e m w : Int) (s : Option Int) : rowsS es e m w s = (parts es e m w s).map jn := by
  show _ :: _ = _ :: _
  rw [List.map_map]
  rfl
/-- signs above the blank -/
def Cl (z : Str) : Prop := ∀ c ∈ TL.tl z, 33 ≤ c
structure Wd (z : Str) : Prop where
  cl : Cl z
  ne : z ≠ ""
  lo : z.length ≤ 10
theorem wd_num {z : Str} (h : NumS z) : Wd z where
  cl := fun c hc => by have := (h.dg c hc).1; omega
  ne := by
    rintro rfl
    exact absurd h.l1 (by decide)
  lo := by have := h.l4; omega
theorem wd_word {en : En} (ok : EnOk1 en) : Wd en.1 where
  cl := fun c hc => by
    have h : en.1.cps.toList.all isLb = true := ok.tx
    have := List.all_eq_true.mp h c hc
    unfold isLb at this
    rw [Bool.and_eq_true, decide_eq_true_eq] at this
    omega
  ne := by
    intro h
    have := ok.l1
    rw [h] at this
    exact absurd this (by decide)
  lo := by have := ok.l5; omega
theorem wd_lit {z : Str} (h : (TL.tl z).all (fun c => decide (33 ≤ c)) = true) (h2 : 1 ≤ z.length) (h3 : z.length ≤ 10) : Wd z where
  cl := fun c hc => of_decide_eq_true (List.all_eq_true.mp h c hc)
  ne := by
    rintro rfl
    exact absurd h2 (by decide)
  lo := h3
theorem wd_last {s : Option Int} (h : ∀ i, s = some i → 1 ≤ i ∧ i ≤ 9) : Wd (lastS s) := by
  cases s with
  | none => exact wd_lit (by decide +kernel) (by decide) (by decide)
  | some i => exact wd_num (num_ok (by have := h i rfl; omega) (by have := h i rfl; omega))
theorem wd_pS {e m w : Int} {s : Option Int} (pk : PrOk e m w s) : ∀ z ∈ pS e m w s, Wd z := by
  have h1 := wd_num (num_ok (n := e) (by have := pk.e0; omega) (by have := pk.e9; omega))
  have h2 := wd_num (num_ok (n := m) (by have := pk.m0; omega) (by have := pk.m9; omega))
  have h3 := wd_num (num_ok (n := w) (by have := pk.w0; omega) (by have := pk.w9; omega))
  intro z hz
  unfold pS at hz
  simp only [List.mem_cons, List.not_mem_nil, or_false] at hz
  rcases hz with rfl | rfl | rfl | rfl | rfl
  · exact wd_lit (by decide +kernel) (by decide) (by decide)
  · exact h1
  · exact h2
  · exact h3
  · exact wd_last pk.s0
theorem wd_pW {en : En} (ok : EnOk1 en) : ∀ z ∈ pW en, Wd z := by
  intro z hz
  unfold pW at hz
  simp only [List.mem_cons, List.not_mem_nil, or_false] at hz
  rcases hz with rfl | rfl | rfl
  · exact wd_lit (by decide +kernel) (by decide) (by decide)
  · exact wd_word ok
  · exact wd_num (num_ok ok.o0 ok.o9)
theorem wd_parts {es : List En} {e m w : Int} {s : Option Int} (pk : PrOk e m w s) (ok : EnOk es) : ∀ ps ∈ parts es e m w s, ps ≠ [] ∧ ps.length ≤ 5 ∧ ∀ z ∈ ps, Wd z := by
  intro ps h
  rcases List.mem_cons.mp h with rfl | h
  · exact ⟨by unfold pS; simp, by show 5 ≤ 5; decide, wd_pS pk⟩
  · obtain ⟨en, he, rfl⟩ := List.mem_map.mp h
    exact ⟨by unfold pW; simp, by show 3 ≤ 5; decide, wd_pW (ok.all en he)⟩
theorem sp_tl : TL.tl (" " : Str) = [32] := by decide +kernel
theorem nl_tl : TL.tl ("\n" : Str) = [10] := by decide +kernel
theorem jn_split {ps : List Str} (hn : ps ≠ []) (h : ∀ z ∈ ps, Wd z) : Txt.split (jn ps) " " = ps := by
  refine TL.split_join (s := 32) (S := []) sp_tl (by decide +kernel) hn fun p hp hc => ?_
  have := (h p hp).cl 32 hc
  omega
theorem joinL_mem {c : Nat} {S : List Nat} : ∀ {ps : List (List Nat)}, c ∈ TL.joinL S ps → c ∈ S ∨ ∃ p ∈ ps, c ∈ p
  | [], h => by cases h
  | [p], h => .inr ⟨p, List.mem_singleton.mpr rfl, h⟩
  | p :: q :: r, h => by
    have h : c ∈ p ++ (S ++ TL.joinL S (q :: r)) := h
    rcases List.mem_append.mp h with h | h
    · exact .inr ⟨p, List.mem_cons_self, h⟩
    · rcases List.mem_append.mp h with h | h
      · exact .inl h
      · rcases joinL_mem h with h | ⟨x, hx, h⟩
        · exact .inl h
        · exact .inr ⟨x, List.mem_cons_of_mem _ hx, h⟩
theorem jn_no10 {ps : List Str} (h : ∀ z ∈ ps, Wd z) : 10 ∉ TL.tl (jn ps) := by
  intro hc
  unfold jn at hc
  rw [TL.join_eq, TL.tl_join, sp_tl] at hc
  rcases joinL_mem hc with hc | ⟨p, hp, hc⟩
  · exact absurd hc (by decide)
  · obtain ⟨z, hz, rfl⟩ := List.mem_map.mp hp
    have := (h z hz).cl 10 hc
    omega
theorem joinL_nl (S : List Nat) : ∀ ps : List (List Nat), TL.joinL [] (ps.map (· ++ S)) = TL.joinL S (ps ++ [[]])
  | [] => rfl
  | [p] => by
    show p ++ S = p ++ (S ++ [])
    rw [List.append_nil]
  | p :: q :: r => by
    show (p ++ S) ++ ([] ++ TL.joinL [] ((q :: r).map (· ++ S))) = p ++ (S ++ TL.joinL S ((q :: r) ++ [[]]))
    rw [joinL_nl S (q :: r), List.nil_append, List.append_assoc]
theorem page_eq (es : List En) (e m w : Int) (s : Option Int) : page es e m w s = Txt.join "\n" (rowsS es e m w s ++ [("" : Str)]) := by
  refine TL.ext_tl ?_
  unfold page
  rw [TL.join_eq, TL.join_eq, TL.tl_join, TL.tl_join, List.map_map, List.map_append]
  have e0 : TL.tl ("" : Str) = [] := by decide +kernel
  rw [show List.map TL.tl [("" : Str)] = [[]] by rw [List.map_cons, e0]; rfl, ← joinL_nl, e0, List.map_map]
  congr 1
  apply List.map_congr_left
  intro z _
  exact TL.tl_append z "\n"
theorem page_split {es : List En} {e m w : Int} {s : Option Int} (pk : PrOk e m w s) (ok : EnOk es) : Txt.split (page es e m w s) "\n" = rowsS es e m w s ++ [("" : Str)] := by
  rw [page_eq]
  refine TL.split_join (s := 10) (S := []) nl_tl (by decide +kernel) (by simp) fun p hp => ?_
  rcases List.mem_append.mp hp with hp | hp
  · rw [rows_parts] at hp
    obtain ⟨ps, h, rfl⟩ := List.mem_map.mp hp
    exact jn_no10 (wd_parts pk ok ps h).2.2
  · rw [List.mem_singleton.mp hp]
    decide +kernel
theorem page_len {es : List En} {e m w : Int} {s : Option Int} (pk : PrOk e m w s) (ok : EnOk es) : (page es e m w s).length ≤ 1000 := by
  unfold page
  have h1 := join_len "" ((rowsS es e m w s).map (· ++ ("\n" : Str)))
  have h2 := sum_le (lenR (rows_len pk ok))
  have h3 := rows_few (e := e) (m := m) (w := w) (s := s) ok
  rw [List.length_map] at h1 h2
  have e0 : Str.length "" = 0 := by decide
  rw [e0] at h1
  omega
theorem f_split {a b : Str} {ps : List Str} {P : T → Prop} (h : Txt.split a b = ps) (hb : (b.length == 0) = false) (ha : a.length ≤ 1000) (h1 : ps.length ≤ 1000) (h2 : ∀ z ∈ ps, z.length ≤ 1000) (q : P (lT ps)) : fSplit a (.str b) P := by
  unfold fSplit
  dsimp only
  rw [h]
  exact ⟨⟨hb, szle (by omega), szle (by omega), fun z hz => szle (by have := h2 z hz; omega)⟩, q⟩
theorem flat_lT (ps : List Str) : (ps.map T.str).all flatT = true := by
  rw [List.all_eq_true]
  intro t ht
  obtain ⟨x, _, rfl⟩ := List.mem_map.mp ht
  rfl
theorem inT_str (z : Str) (ps : List Str) : inT (.str z) (ps.map T.str) = decide (z ∈ ps) := by
  rw [Bool.eq_iff_iff, decide_eq_true_eq]
  unfold inT
  rw [List.any_map, List.any_eq_true]
  constructor
  · rintro ⟨x, h1, h2⟩
    have h2 : (x == z) = true := h2
    rw [← beq_iff_eq.mp h2]
    exact h1
  · intro h
    exact ⟨z, h, by show (z == z) = true; exact beq_iff_eq.mpr rfl⟩
theorem cut_last {x : T} (l : List T) : cutT (l ++ [x]) none (some (-1)) = l := by
  unfold cutT
  have e : HT.sIx (l ++ [x]).length (l ++ [x]).length (some (-1)) = l.length := by
    unfold HT.sIx
    dsimp only
    rw [if_pos (by decide), List.length_append]
    show ((-1 : Int) + ((l.length + 1 : Nat) : Int)).toNat = _
    omega
  rw [e]
  show (l ++ [x]).take (l.length - 0) = l
  rw [Nat.sub_zero, List.take_left]
theorem cut_tail (x : T) (l : List T) : cutT (x :: l) (some 1) none = l := by
  unfold cutT
  have e : HT.sIx (x :: l).length 0 (some 1) = 1 := by
    unfold HT.sIx
    dsimp only
    rw [if_neg (by decide)]
    show min 1 (l.length + 1) = 1
    omega
  rw [e]
  show l.take (l.length + 1 - 1) = l
  rw [Nat.add_sub_cancel, List.take_length]
theorem at_last {x : T} (l : List T) : atI (l ++ [x]) (-1) = some x := by
  unfold atI ixN
  rw [if_neg (by decide), if_pos (by rw [List.length_append]; show -(((l.length + 1 : Nat)) : Int) ≤ -1; omega)]
  have e : ((-1 : Int) + (((l ++ [x]).length : Nat) : Int)).toNat = l.length := by
    rw [List.length_append]
    show ((-1 : Int) + ((l.length + 1 : Nat) : Int)).toNat = _
    omega
  rw [e]
  show (l ++ [x])[l.length]? = some x
  rw [List.getElem?_append_right (Nat.le_refl _), Nat.sub_self]
  rfl
theorem lc_to {α : Type} {ti : TI3} {g : TG3} {te : TE3} {vs : List Nat} {s : S3} {Q : T → S3 → Prop} (h k : α → T) (l : List α) (s0 : S3) {w0 : S3} (hi : ∀ P : List T → S3 → Prop, P (l.map h) s0 → ti s P)
    (H : ∀ x ∈ l, ∀ R : T → S3 → Prop, (∀ s', wipe3 s' vs = w0 → R (k x) s') → g (h x) w0 fun s2 => te s2 fun y s4 => R y s4)
    (q : Q (.lst (l.map k)) s0) (hw : wipe3 s0 vs = w0 := by first | (simp only [wipe3, List.set_cons_zero, List.set_cons_succ]; done) | (simp only [wipe3, List.set_cons_zero, List.set_cons_succ]; rfl) | rfl) (hb : back3 s0 s0 vs = s0 := by rfl) : tLc3 ti g tYes3 te vs s Q :=
  lc_on h (fun x => x) k l s0 hi H (by rw [List.map_id']; exact q) hw hb
end G69
namespace G69
open PySem PySem.Spec PyProof.Rows L2
theorem if3t {b : Bool} {A B : Prop} (h : b = true) (a : A) : If3 b A B := by
  subst h
  exact a
theorem if3f {b : Bool} {A B : Prop} (h : b = false) (a : B) : If3 b A B := by
  subst h
  exact a
theorem num_none {n : Int} (h0 : 0 ≤ n) (h9 : n ≤ 999) : nStr n ≠ "none" := by
  intro e
  have := (num_ok h0 h9).dg 110 (by rw [e]; decide +kernel)
  omega
theorem no_empty {ps : List Str} (h : ∀ z ∈ ps, Wd z) : inT (.str "") (ps.map T.str) = false := by
  rw [inT_str, decide_eq_false]
  intro hm
  exact (h _ hm).ne rfl
theorem m_is_lineW {en : En} {i : Nat} {Q : T → Prop} (ok : EnOk1 en) (hi : 0 < i) (q : Q (.bl true)) : w_is_line [.int (i : Nat), lT (pW en)] Q E03 := by
  rw [u_is_line]; unfold b_is_line
  refine ⟨⟨rfl, flat_lT (pW en)⟩, ?_⟩
  show If3 (inT (.str "") ((pW en).map T.str)) _ _
  rw [no_empty (wd_pW ok)]
  show If3 (decide ((0 : Int) < ((i : Nat) : Int))) _ _
  refine if3 (fun _ => ?_) (fun h => absurd (by omega) h)
  refine ⟨_, rfl, ?_⟩
  exact ⟨_, rfl, m_is_number (num_ok ok.o0 ok.o9) q⟩
theorem m_is_lineS {e m w : Int} {s : Option Int} {Q : T → Prop} (pk : PrOk e m w s) (q : Q (.bl true)) : w_is_line [.int (0 : Nat), lT (pS e m w s)] Q E03 := by
  rw [u_is_line]; unfold b_is_line
  refine ⟨⟨rfl, flat_lT (pS e m w s)⟩, ?_⟩
  show If3 (inT (.str "") ((pS e m w s).map T.str)) _ _
  rw [no_empty (wd_pS pk)]
  refine ⟨_, rfl, ?_⟩
  refine lc_on T.str (fun _ => true) T.bl [nStr e, nStr m, nStr w] [.sh (.int (0 : Nat)), .sh (lT (pS e m w s)), .no] (fun P h => h) (fun z hz R hR => ?_) ?_
  · have hn : NumS z := by
      simp only [List.mem_cons, List.not_mem_nil, or_false] at hz
      rcases hz with rfl | rfl | rfl
      · exact num_ok (by have := pk.e0; omega) (by have := pk.e9; omega)
      · exact num_ok (by have := pk.m0; omega) (by have := pk.m9; omega)
      · exact num_ok (by have := pk.w0; omega) (by have := pk.w9; omega)
    exact m_is_number hn (hR _ rfl)
  · refine ⟨_, rfl, ?_⟩
    show If3 (decide (lastS s = "none")) _ _
    refine if3 (fun _ => q) (fun h => ⟨_, rfl, ?_⟩)
    cases s with
    | none => exact absurd rfl h
    | some i => exact m_is_number (num_ok (by have := pk.s0 i rfl; omega) (by have := pk.s0 i rfl; omega)) q
theorem m_slips_of {e m w : Int} {s : Option Int} {Q : T → Prop} (pk : PrOk e m w s) (q : Q (slT e m w s)) : w_slips_of [lT (pS e m w s)] Q E03 := by
  rw [u_slips_of]; unfold b_slips_of
  refine ⟨_, rfl, ?_⟩
  show If3 (decide (lastS s = "none")) _ _
  refine if3 (fun h => ?_) (fun h => ⟨_, rfl, ?_⟩)
  · cases s with
    | some i => exact absurd h (num_none (by have := pk.s0 i rfl; omega) (by have := pk.s0 i rfl; omega))
    | none =>
      refine ⟨_, rfl, f_int (n := e) (by have := pk.e0; omega) (by have := pk.e9; omega) ⟨_, rfl, f_int (n := m) (by have := pk.m0; omega) (by have := pk.m9; omega) ⟨_, rfl, f_int (n := w) (by have := pk.w0; omega) (by have := pk.w9; omega) ?_⟩⟩⟩
      exact m_slips pk q
  · cases s with
    | none => exact absurd rfl h
    | some i =>
      refine f_int (n := i) (by have := pk.s0 i rfl; omega) (by have := pk.s0 i rfl; omega) ?_
      refine ⟨_, rfl, f_int (n := e) (by have := pk.e0; omega) (by have := pk.e9; omega) ⟨_, rfl, f_int (n := m) (by have := pk.m0; omega) (by have := pk.m9; omega) ⟨_, rfl, f_int (n := w) (by have := pk.w0; omega) (by have := pk.w9; omega) ?_⟩⟩⟩
      exact m_slips pk q
def lng (es : List En) (e m w : Int) (s : Option Int) : Bool := decide ((1 : Int) < (((rowsS es e m w s ++ [("" : Str)]).map T.str).length : Nat))
theorem m_read {es : List En} {e m w : Int} {s : Option Int} {Q : T → Prop} (pk : PrOk e m w s) (ok : EnOk es) (q : Q (spT es e m w s)) : w_read_speller [.str (page es e m w s)] Q E03 := by
  have hrl := rows_len pk ok
  have hrf := rows_few (e := e) (m := m) (w := w) (s := s) ok
  have hr1 : 1 ≤ (rowsS es e m w s).length := Nat.le_add_left 1 _
  rw [u_read_speller]; unfold b_read_speller
  refine f_split (ps := rowsS es e m w s ++ [("" : Str)]) (page_split pk ok) (by decide) (page_len pk ok) (by rw [List.length_append]; show _ + 1 ≤ 1000; omega) (fun z hz => ?_) ?_
  · rcases List.mem_append.mp hz with hz | hz
    · have := hrl z hz; omega
    · rw [List.mem_singleton.mp hz]; decide
  refine ⟨.str "", by rw [List.map_append]; exact at_last _, ?_⟩
  have hd : lng es e m w s = true := decide_eq_true (by rw [List.length_map, List.length_append]; show (1 : Int) < ((_ + 1 : Nat) : Int); omega)
  refine lc_to (fun ps => T.str (jn ps)) lT (parts es e m w s) [.sh (.str (page es e m w s)), .sh (lT (rowsS es e m w s ++ [("" : Str)])), .sh (.bl (lng es e m w s)), .no, .no, .no, .no, .no] (fun P h => ?_) (fun ps hps R hR => ?_) ?_
  · have ec : cutT ((rowsS es e m w s ++ [("" : Str)]).map T.str) none (some (-1)) = (parts es e m w s).map fun ps => T.str (jn ps) := by
      rw [List.map_append]
      show cutT (_ ++ [_]) none (some (-1)) = _
      rw [cut_last, rows_parts, List.map_map]
      rfl
    rw [← ec] at h
    show If3 (lng es e m w s) _ _
    exact if3t hd h
  · have hp := wd_parts pk ok ps hps
    refine f_split (jn_split hp.1 hp.2.2) (by decide) ?_ (by have := hp.2.1; omega) (fun z hz => by have := (hp.2.2 z hz).lo; omega) (hR _ rfl)
    have := hrl (jn ps) (by rw [rows_parts]; exact List.mem_map.mpr ⟨ps, hps, rfl⟩)
    omega
  refine for_inv (enumT ((parts es e m w s).map lT)) [.sh (.str (page es e m w s)), .sh (lT (rowsS es e m w s ++ [("" : Str)])), .sh (.bl (lng es e m w s)), .sh (.lst ((parts es e m w s).map lT)), .no, .no, .no, .no]
    (fun i st => ∃ x y, (y = .no ∨ ∃ t, y = .sh t) ∧ st = [.sh (.str (page es e m w s)), .sh (lT (rowsS es e m w s ++ [("" : Str)])), .sh (.bl (lng es e m w s)), .sh (.lst ((parts es e m w s).map lT)), .no, x, y, .no]) (fun P h => h) ⟨.no, .no, .inl rfl, rfl⟩ ?_ ?_
  · rintro i t st N ht ⟨x, y, _, rfl⟩ hN
    obtain ⟨u, hu, rfl⟩ := enumT_inv ht
    obtain ⟨ps, hps, rfl⟩ := map_inv hu
    have hl : ∀ K : T → Prop, K (.bl true) → w_is_line [.int (i : Nat), lT ps] K E03 := by
      intro K k
      cases i with
      | zero =>
        cases Option.some.inj hps
        exact m_is_lineS pk k
      | succ j =>
        have hps : (es.map pW)[j]? = some ps := hps
        obtain ⟨en, hen, rfl⟩ := map_inv hps
        exact m_is_lineW (ok.all en (List.mem_of_getElem? hen)) (Nat.succ_pos _) k
    refine hl _ ?_
    exact hN _ ⟨_, _, .inr ⟨_, rfl⟩, rfl⟩
  · rintro st ⟨x, y, hy, rfl⟩
    show If3 (!lng es e m w s) _ _
    refine if3f (by rw [hd]; rfl) ?_
    refine ⟨lT (pS e m w s), atI_nat (j := 0) rfl, ?_⟩
    refine m_slips_of pk ?_
    refine lc_to (fun en => lT (pW en)) enT es [.sh (.str (page es e m w s)), .sh (lT (rowsS es e m w s ++ [("" : Str)])), .sh (.bl (lng es e m w s)), .sh (.lst ((parts es e m w s).map lT)), .no, x, y, .sh (slT e m w s)] (fun P h => ?_) (fun en hen R hR => ?_) ?_ (by rfl) (by rcases hy with rfl | ⟨t, rfl⟩ <;> rfl)
    · have ec : cutT (lT (pS e m w s) :: (es.map pW).map lT) (some 1) none = es.map fun en => lT (pW en) := by
        rw [cut_tail, List.map_map]
        rfl
      rw [← ec] at h
      exact h
    · exact ⟨_, rfl, _, rfl, f_int (ok.all en hen).o0 (ok.all en hen).o9 (hR _ rfl)⟩
    · exact m_speller ok q
end G69
namespace G69
open PySem PySem.Spec PyProof.Rows L2
/-! ### slips and spellers compared, as trees -/
def swD : Option Int → PyData
  | none => .none
  | some i => .int i
def dSl (e m w : Int) (s : Option Int) : PyData := .tuple [.int e, .int m, .int w, swD s]
theorem eqv_dSl (e m w : Int) (s : Option Int) (e' m' w' : Int) (s' : Option Int) : PyData.eqv (dSl e m w s) (dSl e' m' w' s') = decide (e = e' ∧ m = m' ∧ w = w' ∧ s = s') := by
  have h : PyData.eqv (swD s) (swD s') = decide (s = s') := by
    cases s <;> cases s' <;> simp only [swD, PyData.eqv]
    · rfl
    · rfl
    · rfl
    · rw [Bool.eq_iff_iff, beq_iff_eq, decide_eq_true_eq, Option.some.injEq]
  simp only [dSl, PyData.eqv, PyData.eqvAll, h, Bool.and_true]
  rw [Bool.eq_iff_iff]
  simp only [Bool.and_eq_true, beq_iff_eq, decide_eq_true_eq]
theorem shaped_dSl (e m w : Int) (s : Option Int) : SeqAt.shaped (dSl e m w s) = true := by
  cases s <;> (unfold SeqAt.shaped dSl swD; simp only [PyData.canLay0, PyData.canLayAll0, PyData.depth, PyData.depthAll]; rfl)
def dEn (en : En) : PyData := .tuple [.str en.1, .int en.2]
def dEns (es : List En) : PyData := .tuple (es.map dEn)
theorem eqv_dEn (a b : En) : PyData.eqv (dEn a) (dEn b) = decide (a = b) := by
  obtain ⟨a1, a2⟩ := a
  obtain ⟨b1, b2⟩ := b
  simp only [dEn, PyData.eqv, PyData.eqvAll, Bool.and_true]
  rw [Bool.eq_iff_iff]
  simp only [Bool.and_eq_true, beq_iff_eq, decide_eq_true_eq, Prod.mk.injEq]
theorem eqvAll_dEn : ∀ es fs : List En, PyData.eqvAll (es.map dEn) (fs.map dEn) = decide (es = fs)
  | [], [] => rfl
  | [], _ :: _ => by simp [PyData.eqvAll]
  | _ :: _, [] => by simp [PyData.eqvAll]
  | a :: r, b :: t => by
    simp only [List.map_cons, PyData.eqvAll, eqv_dEn, eqvAll_dEn r t]
    rw [Bool.eq_iff_iff]
    simp only [Bool.and_eq_true, decide_eq_true_eq, List.cons.injEq]
theorem eqv_dEns (es fs : List En) : PyData.eqv (dEns es) (dEns fs) = decide (es = fs) := by
  simp only [dEns, PyData.eqv]
  exact eqvAll_dEn es fs
theorem strOk_T {z : Str} (h : isT (.str z) = true) : PyData.strOk z = true := by
  unfold PyData.strOk
  rw [← Array.all_toList, List.all_eq_true]
  intro c hc
  have h1 := (List.all_eq_true.mp (show z.cps.toList.all isLb = true from h)) c hc
  have h2 : (decide (97 ≤ c) && decide (c ≤ 122)) = true := h1
  rw [Bool.and_eq_true, decide_eq_true_eq, decide_eq_true_eq] at h2
  rw [decide_eq_true_eq]
  omega
theorem lay_dEns : ∀ es : List En, (∀ en ∈ es, PyData.strOk en.1 = true) → PyData.canLayAll0 (es.map dEn) = true
  | [], _ => by simp only [List.map_nil, PyData.canLayAll0]
  | a :: r, h => by
    simp only [List.map_cons, PyData.canLayAll0, dEn, PyData.canLay0, lay_dEns r fun en he => h en (List.mem_cons_of_mem _ he), h a List.mem_cons_self, Bool.and_self]
theorem depth_dEns : ∀ es : List En, PyData.depthAll (es.map dEn) ≤ 1
  | [] => by simp only [List.map_nil, PyData.depthAll]; omega
  | a :: r => by
    have := depth_dEns r
    simp only [List.map_cons, PyData.depthAll, dEn, PyData.depth]
    omega
theorem shaped_dEns {es : List En} (ok : EnOk es) : SeqAt.shaped (dEns es) = true := by
  unfold SeqAt.shaped dEns
  have h := depth_dEns es
  have h2 : PyData.depth (.tuple (es.map dEn)) ≤ 64 := by
    simp only [PyData.depth]
    omega
  rw [decide_eq_true h2, Bool.and_true]
  simp only [PyData.canLay0]
  exact lay_dEns es fun en he => strOk_T (ok.all en he).tx
theorem toD_sl (e m w : Int) (s : Option Int) : (T.tup [.int e, .int m, .int w, swT s]).toD = dSl e m w s := by
  cases s <;> simp only [T.toD, toDs, swT, dSl, swD]
theorem toDs_en : ∀ es : List En, toDs (es.map enT) = es.map dEn
  | [] => by simp only [List.map_nil, toDs]
  | a :: r => by simp only [List.map_cons, toDs, toDs_en r, enT, T.toD, dEn]
theorem toD_ens (es : List En) : (T.tup (es.map enT)).toD = dEns es := by
  simp only [T.toD, toDs_en, dEns]
theorem m_sl_eq {e m w e' m' w' : Int} {s s' : Option Int} {Q : T → Prop} (q : ∀ b : Bool, (b = true ↔ e = e' ∧ m = m' ∧ w = w' ∧ s = s') → Q (.bl b)) : w_Slips__eq_ [slT e m w s, slT e' m' w' s'] Q E03 := by
  rw [u_Slips__eq_]; unfold b_Slips__eq_
  refine ⟨⟨?_, ?_⟩, ?_⟩
  · show okD (.tup [.int e, .int m, .int w, swT s]) = true
    unfold okD
    rw [toD_sl, shaped_dSl]
  · show okD (.tup [.int e', .int m', .int w', swT s']) = true
    unfold okD
    rw [toD_sl, shaped_dSl]
  · refine q (eqT (.tup [.int e, .int m, .int w, swT s]) (.tup [.int e', .int m', .int w', swT s'])) ?_
    unfold eqT
    rw [toD_sl, toD_sl, eqv_dSl, decide_eq_true_eq]
theorem m_sp_eq {es es' : List En} {e m w e' m' w' : Int} {s s' : Option Int} {Q : T → Prop} (ok : EnOk es) (ok' : EnOk es') (q : ∀ b : Bool, (b = true ↔ es = es' ∧ e = e' ∧ m = m' ∧ w = w' ∧ s = s') → Q (.bl b)) : w_Speller__eq_ [spT es e m w s, spT es' e' m' w' s'] Q E03 := by
  rw [u_Speller__eq_]; unfold b_Speller__eq_
  refine ⟨⟨?_, ?_⟩, ?_⟩
  · show okD (.tup (es.map enT)) = true
    unfold okD
    rw [toD_ens, shaped_dEns ok]
  · show okD (.tup (es'.map enT)) = true
    unfold okD
    rw [toD_ens, shaped_dEns ok']
  · show If3 (eqT (.tup (es.map enT)) (.tup (es'.map enT))) _ _
    have he : eqT (.tup (es.map enT)) (.tup (es'.map enT)) = decide (es = es') := by
      unfold eqT
      rw [toD_ens, toD_ens, eqv_dEns]
    rw [he]
    refine if3 (fun h => m_sl_eq fun b hb => ?_) (fun h => q false ⟨fun x => (by cases x), fun x => absurd x.1 h⟩)
    have : xor false b = b := Bool.false_xor b
    show Q (.bl (xor false b))
    rw [this]
    exact q b ⟨fun x => ⟨h, hb.mp x⟩, fun x => hb.mpr x.2⟩
/-! ### pages tell spellers apart -/
theorem num_inj {a b : Int} (a0 : 0 ≤ a) (a9 : a ≤ 999) (b0 : 0 ≤ b) (b9 : b ≤ 999) (h : nStr a = nStr b) : a = b := by
  have h1 : PySem.intText? (nStr a) = some a := PySem.W.KIN.num_reads a0 (by omega)
  have h2 : PySem.intText? (nStr b) = some b := PySem.W.KIN.num_reads b0 (by omega)
  rw [h, h2] at h1
  exact (Option.some.inj h1).symm
theorem map_split {pss : List (List Str)} (h : ∀ ps ∈ pss, ps ≠ [] ∧ ∀ z ∈ ps, Wd z) : (pss.map jn).map (fun r => Txt.split r " ") = pss := by
  induction pss with
  | nil => rfl
  | cons ps r ih =>
    rw [List.map_cons, List.map_cons, ih fun q hq => h q (List.mem_cons_of_mem _ hq), jn_split (h ps List.mem_cons_self).1 (h ps List.mem_cons_self).2]
theorem map_pW : ∀ {es es' : List En}, (∀ en ∈ es, EnOk1 en) → (∀ en ∈ es', EnOk1 en) → es.map pW = es'.map pW → es = es'
  | [], [], _, _, _ => rfl
  | [], _ :: _, _, _, h => by cases h
  | _ :: _, [], _, _, h => by cases h
  | a :: r, b :: t, ha, hb, h => by
    obtain ⟨h1, h2⟩ := List.cons.inj h
    unfold pW at h1
    simp only [List.cons.injEq, true_and, and_true] at h1
    have oa := ha a List.mem_cons_self
    have ob := hb b List.mem_cons_self
    rw [map_pW (fun en he => ha en (List.mem_cons_of_mem _ he)) (fun en he => hb en (List.mem_cons_of_mem _ he)) h2, Prod.ext h1.1 (num_inj oa.o0 oa.o9 ob.o0 ob.o9 h1.2)]
theorem page_inj {es es' : List En} {e m w e' m' w' : Int} {s s' : Option Int} (pk : PrOk e m w s) (ok : EnOk es) (pk' : PrOk e' m' w' s') (ok' : EnOk es') (h : page es e m w s = page es' e' m' w' s') : es = es' ∧ e = e' ∧ m = m' ∧ w = w' ∧ s = s' := by
  have h1 := page_split pk ok
  rw [h, page_split pk' ok'] at h1
  have h2 := List.append_cancel_right h1
  rw [rows_parts, rows_parts] at h2
  have h3 : parts es' e' m' w' s' = parts es e m w s := by
    rw [← map_split (pss := parts es e m w s) fun ps hp => ⟨(wd_parts pk ok ps hp).1, (wd_parts pk ok ps hp).2.2⟩, ← h2, map_split fun ps hp => ⟨(wd_parts pk' ok' ps hp).1, (wd_parts pk' ok' ps hp).2.2⟩]
  obtain ⟨h4, h5⟩ := List.cons.inj h3
  unfold pS at h4
  simp only [List.cons.injEq, true_and, and_true] at h4
  obtain ⟨h6, h7, h8, h9⟩ := h4
  refine ⟨(map_pW ok'.all ok.all h5).symm, (num_inj (by have := pk'.e0; omega) (by have := pk'.e9; omega) (by have := pk.e0; omega) (by have := pk.e9; omega) h6).symm, (num_inj (by have := pk'.m0; omega) (by have := pk'.m9; omega) (by have := pk.m0; omega) (by have := pk.m9; omega) h7).symm, (num_inj (by have := pk'.w0; omega) (by have := pk'.w9; omega) (by have := pk.w0; omega) (by have := pk.w9; omega) h8).symm, ?_⟩
  cases s with
  | none =>
    cases s' with
    | none => rfl
    | some j => exact absurd h9 (num_none (by have := pk'.s0 j rfl; omega) (by have := pk'.s0 j rfl; omega))
  | some i =>
    cases s' with
    | none => exact absurd h9.symm (num_none (by have := pk.s0 i rfl; omega) (by have := pk.s0 i rfl; omega))
    | some j => rw [num_inj (by have := pk'.s0 j rfl; omega) (by have := pk'.s0 j rfl; omega) (by have := pk.s0 i rfl; omega) (by have := pk.s0 i rfl; omega) h9]
/-! ### the law -/
def LastOk (l : T) : Prop := l = .non ∨ ∃ es e m w s, PrOk e m w s ∧ EnOk es ∧ l = .tup [spT es e m w s, .str (page es e m w s)]
theorem k84_law : ∀ n ≤ 63, w_law lawD (lawS n 8) := by
  intro n hn
  unfold w_law
  refine for_inv (rngT 0 (5 + min (n : Int) 25).toNat) [.sh (.scr n), .sh .drw, .sh .non, .no, .no, .no, .no, .no]
    (fun i st => ∃ l x3 x4 x5 x6 x7, LastOk l ∧ st = [.sh (.scr n), .sh .drw, .sh l, x3, x4, x5, x6, x7]) (fun P h => ⟨by omega, h⟩) ⟨.non, _, _, _, _, _, .inl rfl, rfl⟩ ?_ (fun s h => rfl)
  rintro i t st N ht ⟨l, x3, x4, x5, x6, x7, hl, rfl⟩ hN
  intro es e m w s pk ok
  refine m_L_speller pk ok ?_
  refine m_L_lines pk ok ?_
  refine m_text pk ok ?_
  show If3 (!decide (page es e m w s = page es e m w s)) _ _
  refine if3n (fun h => absurd rfl h) (fun _ => ?_)
  refine m_text pk ok ?_
  show If3 (!decide (page es e m w s = page es e m w s)) _ _
  refine if3n (fun h => absurd rfl h) (fun _ => ?_)
  refine m_read pk ok ?_
  refine m_sp_eq ok ok fun b hb => ?_
  obtain rfl : b = true := hb.mpr ⟨rfl, rfl, rfl, rfl, rfl⟩
  refine m_read pk ok ?_
  refine m_sp_eq ok ok fun b hb => ?_
  obtain rfl : b = true := hb.mpr ⟨rfl, rfl, rfl, rfl, rfl⟩
  refine m_text pk ok ?_
  show If3 (!decide (page es e m w s = page es e m w s)) _ _
  refine if3n (fun h => absurd rfl h) (fun _ => ?_)
  rcases hl with rfl | ⟨es', e', m', w', s', pk', ok', rfl⟩
  · exact hN _ ⟨_, _, _, _, _, _, .inr ⟨es, e, m, w, s, pk, ok, rfl⟩, rfl⟩
  · refine ⟨_, rfl, m_sp_eq ok' ok fun b hb => ?_⟩
    have e1 : b = decide (page es' e' m' w' s' = page es e m w s) := by
      rw [Bool.eq_iff_iff, decide_eq_true_eq, hb]
      constructor
      · rintro ⟨rfl, rfl, rfl, rfl, rfl⟩
        rfl
      · exact page_inj pk' ok' pk ok
    refine ⟨_, rfl, ?_⟩
    show If3 (!decide (xor false b = decide (page es' e' m' w' s' = page es e m w s))) _ _
    refine if3n (fun h => absurd (by rw [Bool.false_xor]; exact e1) h) (fun _ => ?_)
    exact hN _ ⟨_, _, _, _, _, _, .inr ⟨es, e, m, w, s, pk, ok, rfl⟩, rfl⟩
end G69
namespace G69
open PySem PySem.Spec PyProof.Rows L2

section
variable {P : Program} {w : World} {K : PySem.W.Frag} {mg : Str → Option Value} {base : Heap}
theorem c_L_take (A : All K mg) : Cal3 P w K mg base "_law_take" ["_law_draw", "_law_size"] 1 w_L_take := by
  obtain ⟨f, fd, F, g, b, kb⟩ := A.d_L_take.ex
  exact ⟨f, fd, (FnOk.of0 (ok_take F A.B.int A.B.divmod)).imp lift_take, g, F.kp, b, kb⟩
end
end G69
namespace G69
open PySem PySem.Spec PyProof.Rows L2
section
variable {P : Program} {w : World} {K : PySem.W.Frag} {mg : Str → Option Value} {base : Heap}
theorem Def3.hand {x : Str} {st : Stmt} {ps : List Str} {k : Nat} {sp : Sp} (D : Def3 K mg x st ps) (h : ∀ f fd, Fun K x x st f fd → FnOk P w K mg base CX0 k f fd ps sp) : Cal P w K mg base x ps k sp := by
  obtain ⟨f, fd, F, g, b, _⟩ := D.ex
  exact ⟨f, fd, h f fd F, g, F.kp, b⟩
theorem c_L_wide (A : All K mg) : Cal3 P w K mg base "_law_wide" ["_law_draw"] 4 w_L_wide := by
  obtain ⟨f, fd, F, g, b, kb⟩ := A.d_L_wide.ex
  have CT : Cal P w K mg base "_law_take" ["_law_draw", "_law_size"] 1 spTake := A.d_L_take.hand fun f fd F => ok_take F A.B.int A.B.divmod
  have CP : Cal P w K mg base "_law_pick" ["_law_draw", "_law_some"] 2 (spPick K) := A.d_L_pick.hand fun f fd F => ok_pick F CT A.B.len
  exact ⟨f, fd, (FnOk.of0 (ok_wide F CT CP (A.d_L_any_letters.hand fun f fd F => ok_anyL F CP A.B.range) (A.d_L_far_prices.hand fun f fd F => ok_far F CT CP A.B.range A.B.tuple) A.B)).imp lift_wide, g, F.kp, b, kb⟩
end
end G69
namespace G69
open PySem PySem.Spec PyProof.Rows L2
section
variable {P : Program} {w : World} {K : PySem.W.Frag} {mg : Str → Option Value} {base : Heap}
theorem c_is_integer (A : All K mg) : Cal3 P w K mg base "is_integer" ["thing"] 1 w_is_integer := by rw [u_is_integer]; unfold b_is_integer; exact cal3 A.d_is_integer sc_is_integer fun f cdv Ar outer s H E G E3 hr hM L => (have hK := hKof hM;
   (qs_one (q_ret (qe_and (q_isi (k := .int) hM (by rfl) A.B.isinst (q_var 0) (pe_bltn (v := .ty "int") (by rfl) A.B.int (by decide +kernel) rfl)) (qe_one (qe_not (q_isi (k := .bool) hM (by rfl) A.B.isinst (q_var 0) (pe_bltn (v := .ty "bool") (by rfl) A.B.bool (by decide +kernel) rfl))))))))
end
section
variable {P : Program} {w : World} {K : PySem.W.Frag} {mg : Str → Option Value} {base : Heap}
theorem c_is_text (A : All K mg) : Cal3 P w K mg base "is_text" ["thing"] 1 w_is_text := by rw [u_is_text]; unfold b_is_text; exact cal3 A.d_is_text sc_is_text fun f cdv Ar outer s H E G E3 hr hM L => (have hK := hKof hM;
   (qs_one (q_ret (qe_and (q_isi (k := .str) hM (by rfl) A.B.isinst (q_var 0) (pe_bltn (v := .ty "str") (by rfl) A.B.str (by decide +kernel) rfl)) (qe_one (q_bi (l_all hK rfl) L_all (by rfl) A.B.all (by decide +kernel) (qa_cons (froz (qf_lc (own := [("sign", 1)]) (by decide) rfl sc_is_text.nd (qi_seq hK (q_var 0)) (blkOk_by (own := [("sign", 1)]) (N := n_is_text) (sc := defScope s_is_text) (by decide +kernel)) (fun _ _ _ _ _ => (qg_name (i := 1) sc_is_text.nd rfl (.inl rfl))) (fun _ _ _ _ _ => qts_nil) (fun _ _ _ _ _ => (q_cmp (l_in hK) L_in (q_var 1) (q_gs (z := "abcdefghijklmnopqrstuvwxyz") rfl (A.k_LETTERS).choose_spec ⟨_, rfl⟩) (by rfl))))) qa_nil)))))))
end
section
variable {P : Program} {w : World} {K : PySem.W.Frag} {mg : Str → Option Value} {base : Heap}
theorem c_is_word (A : All K mg) : Cal3 P w K mg base "is_word" ["thing"] 2 w_is_word := by rw [u_is_word]; unfold b_is_word; exact cal3 A.d_is_word sc_is_word fun f cdv Ar outer s H E G E3 hr hM L => (have hK := hKof hM;
   (qs_one (q_ret (qe_and (q_calX (c_is_text A) hM hr (by decide) (by rfl) lets0 (qa_cons (q_var 0) qa_nil)) (qe_one (q_ch op_le op_le L_i2 L_i2 q_int (q_bi (l_len hK) L_len (by rfl) A.B.len (by decide +kernel) (qa_cons (q_var 0) qa_nil)) (q_gi (i := 5) rfl (A.k_LONGEST).choose_spec ⟨_, rfl⟩)))))))
end
section
variable {P : Program} {w : World} {K : PySem.W.Frag} {mg : Str → Option Value} {base : Heap}
theorem c_is_price (A : All K mg) : Cal3 P w K mg base "is_price" ["thing"] 2 w_is_price := by rw [u_is_price]; unfold b_is_price; exact cal3 A.d_is_price sc_is_price fun f cdv Ar outer s H E G E3 hr hM L => (have hK := hKof hM;
   (qs_one (q_ret (qe_and (q_calX (c_is_integer A) hM hr (by decide) (by rfl) lets0 (qa_cons (q_var 0) qa_nil)) (qe_one (q_ch op_le op_le L_i2 L_i2 q_int (q_var 0) (q_gi (i := 9) rfl (A.k_DEAREST).choose_spec ⟨_, rfl⟩)))))))
end
section
variable {P : Program} {w : World} {K : PySem.W.Frag} {mg : Str → Option Value} {base : Heap}
theorem c_need_text (A : All K mg) : Cal3 P w K mg base "need_text" ["thing"] 2 w_need_text := by rw [u_need_text]; unfold b_need_text; exact cal3 A.d_need_text sc_need_text fun f cdv Ar outer s H E G E3 hr hM L => (have hK := hKof hM;
   (qs_one (q_if (q_not (q_val (q_calX (c_is_text A) hM hr (by decide) (by rfl) lets0 (qa_cons (q_var 0) qa_nil)))) (qs_one q_never) qs_nil)))
end
section
variable {P : Program} {w : World} {K : PySem.W.Frag} {mg : Str → Option Value} {base : Heap}
theorem c_Slips__init_ (A : All K mg) : MkK3 P w K mg base 0 ["self", "extra", "missing", "wrong", "swapped"] ["extra", "missing", "wrong", "swapped"] 3 w_Slips__init_ := by
  rw [u_Slips__init_]; unfold b_Slips__init_
  obtain ⟨C, f, fd, g, hm, mk, F, kb⟩ := A.i_Slips__init_
  exact ⟨C, f, fd, g, hm, mk, fnI F sc_Slips__init_ fun cdv Ar outer s H E G E3 hr hM L => (have hK := hKof hM;
   (qs_cons (q_if (q_not (q_val (q_calX (c_is_price A) hM hr (by decide) (by rfl) lets0 (qa_cons (q_var 1) qa_nil)))) (qs_one q_never) qs_nil)
    (qs_cons (q_if (q_not (q_val (q_calX (c_is_price A) hM hr (by decide) (by rfl) lets0 (qa_cons (q_var 2) qa_nil)))) (qs_one q_never) qs_nil)
    (qs_cons (q_if (q_not (q_val (q_calX (c_is_price A) hM hr (by decide) (by rfl) lets0 (qa_cons (q_var 3) qa_nil)))) (qs_one q_never) qs_nil)
    (qs_cons (q_if (PW.pt (q_and (q_tcmp op_notN L_notN (q_var 4) q_non (nomark _)) (q_and1 (q_not (q_val (q_calX (c_is_price A) hM hr (by decide) (by rfl) lets0 (qa_cons (q_var 4) qa_nil))))))) (qs_one q_never) qs_nil)
    (qs_cons (q_fs (c := 0) (j := 0) hM A.cf0 rfl (by decide) (by decide) (q_var 1))
    (qs_cons (q_fs (c := 0) (j := 1) hM A.cf0 rfl (by decide) (by decide) (q_var 2))
    (qs_cons (q_fs (c := 0) (j := 2) hM A.cf0 rfl (by decide) (by decide) (q_var 3))
    (qs_one (q_fs (c := 0) (j := 3) hM A.cf0 rfl (by decide) (by decide) (q_var 4))))))))))), kb⟩
end
section
variable {P : Program} {w : World} {K : PySem.W.Frag} {mg : Str → Option Value} {base : Heap}
theorem c_Slips_extra (A : All K mg) : Pr3 P w K mg base 0 "extra" 1 w_Slips_extra := by
  rw [u_Slips_extra]; unfold b_Slips_extra
  obtain ⟨C, p, g, fd, hm, hp, F, hb⟩ := A.p_Slips_extra
  exact ⟨A.cf0, C, p, g, fd, hm, hp, fn3 F sc_Slips_extra fun cdv Ar outer s H E G E3 hr hM L => (have hK := hKof hM;
   (qs_one (q_ret (q_fd (c := 0) (j := 0) hM A.cf0 (q_var 0) rfl (by decide))))), hb⟩
end
section
variable {P : Program} {w : World} {K : PySem.W.Frag} {mg : Str → Option Value} {base : Heap}
theorem c_Slips_missing (A : All K mg) : Pr3 P w K mg base 0 "missing" 1 w_Slips_missing := by
  rw [u_Slips_missing]; unfold b_Slips_missing
  obtain ⟨C, p, g, fd, hm, hp, F, hb⟩ := A.p_Slips_missing
  exact ⟨A.cf0, C, p, g, fd, hm, hp, fn3 F sc_Slips_missing fun cdv Ar outer s H E G E3 hr hM L => (have hK := hKof hM;
   (qs_one (q_ret (q_fd (c := 0) (j := 1) hM A.cf0 (q_var 0) rfl (by decide))))), hb⟩
end
section
variable {P : Program} {w : World} {K : PySem.W.Frag} {mg : Str → Option Value} {base : Heap}
theorem c_Slips_wrong (A : All K mg) : Pr3 P w K mg base 0 "wrong" 1 w_Slips_wrong := by
  rw [u_Slips_wrong]; unfold b_Slips_wrong
  obtain ⟨C, p, g, fd, hm, hp, F, hb⟩ := A.p_Slips_wrong
  exact ⟨A.cf0, C, p, g, fd, hm, hp, fn3 F sc_Slips_wrong fun cdv Ar outer s H E G E3 hr hM L => (have hK := hKof hM;
   (qs_one (q_ret (q_fd (c := 0) (j := 2) hM A.cf0 (q_var 0) rfl (by decide))))), hb⟩
end
section
variable {P : Program} {w : World} {K : PySem.W.Frag} {mg : Str → Option Value} {base : Heap}
theorem c_Slips_swapped (A : All K mg) : Pr3 P w K mg base 0 "swapped" 1 w_Slips_swapped := by
  rw [u_Slips_swapped]; unfold b_Slips_swapped
  obtain ⟨C, p, g, fd, hm, hp, F, hb⟩ := A.p_Slips_swapped
  exact ⟨A.cf0, C, p, g, fd, hm, hp, fn3 F sc_Slips_swapped fun cdv Ar outer s H E G E3 hr hM L => (have hK := hKof hM;
   (qs_one (q_ret (q_fd (c := 0) (j := 3) hM A.cf0 (q_var 0) rfl (by decide))))), hb⟩
end
section
variable {P : Program} {w : World} {K : PySem.W.Frag} {mg : Str → Option Value} {base : Heap}
theorem c_Slips__eq_ (A : All K mg) : Mt3 P w K mg base 0 "__eq__" ["self", "other"] 1 w_Slips__eq_ := by
  rw [u_Slips__eq_]; unfold b_Slips__eq_
  obtain ⟨C, f, fd, hm, mt, F, hb, hf⟩ := A.m_Slips__eq_
  exact ⟨A.cf0, by decide, C, f, fd, hm, fn3 F sc_Slips__eq_ fun cdv Ar outer s H E G E3 hr hM L => (have hK := hKof hM;
   (qs_cons (q_if (q_not (q_val (q_isO (c := 0) hM A.oc0 A.cf0 rfl (by rfl) A.B.isinst (by rfl) (q_var 1)))) (qs_one (q_ret q_bl)) qs_nil)
    (qs_cons (q_set (i := 2) sc_Slips__eq_.nd rfl (.inl rfl) (q_tup (qa_cons (q_fd (c := 0) (j := 0) hM A.cf0 (q_var 0) rfl (by decide)) (qa_cons (q_fd (c := 0) (j := 1) hM A.cf0 (q_var 0) rfl (by decide)) (qa_cons (q_fd (c := 0) (j := 2) hM A.cf0 (q_var 0) rfl (by decide)) (qa_cons (q_fd (c := 0) (j := 3) hM A.cf0 (q_var 0) rfl (by decide)) qa_nil))))))
    (qs_one (q_ret (q_cmp (l_eq hK hr.units) L_eq (q_var 2) (q_tup (qa_cons (q_fd (c := 0) (j := 0) hM A.cf0 (q_var 1) rfl (by decide)) (qa_cons (q_fd (c := 0) (j := 1) hM A.cf0 (q_var 1) rfl (by decide)) (qa_cons (q_fd (c := 0) (j := 2) hM A.cf0 (q_var 1) rfl (by decide)) (qa_cons (q_fd (c := 0) (j := 3) hM A.cf0 (q_var 1) rfl (by decide)) qa_nil))))) (nomark _))))))), mt, hb, hf⟩
end
end G69
namespace G69
open PySem PySem.Spec PyProof.Rows L2
section
variable {P : Program} {w : World} {K : PySem.W.Frag} {mg : Str → Option Value} {base : Heap}
theorem c_is_own (A : All K mg) : Cal3 P w K mg base "is_own" ["thing"] 2 w_is_own := by rw [u_is_own]; unfold b_is_own; exact cal3 A.d_is_own sc_is_own fun f cdv Ar outer s H E G E3 hr hM L => (have hK := hKof hM;
   (qs_one (q_ret (qe_and (q_calX (c_is_integer A) hM hr (by decide) (by rfl) lets0 (qa_cons (q_var 0) qa_nil)) (qe_one (q_ch op_le op_le L_i2 L_i2 q_int (q_var 0) (q_gi (i := 999) rfl (A.k_DEAREST_OWN).choose_spec ⟨_, rfl⟩)))))))
end
section
variable {P : Program} {w : World} {K : PySem.W.Frag} {mg : Str → Option Value} {base : Heap}
theorem c_is_entry (A : All K mg) : Cal3 P w K mg base "is_entry" ["thing"] 3 w_is_entry := by rw [u_is_entry]; unfold b_is_entry; exact cal3 A.d_is_entry sc_is_entry fun f cdv Ar outer s H E G E3 hr hM L => (have hK := hKof hM;
   (qs_one (q_ret (qe_and (q_isi (k := .tuple) hM (by rfl) A.B.isinst (q_var 0) (pe_bltn (v := .ty "tuple") (by rfl) A.B.tuple (by decide +kernel) rfl)) (qe_and (q_cmp (l_eq hK hr.units) L_eq (q_bi (l_len hK) L_len (by rfl) A.B.len (by decide +kernel) (qa_cons (q_var 0) qa_nil)) q_int (nomark _)) (qe_and (q_calX (c_is_word A) hM hr (by decide) (by rfl) lets0 (qa_cons (q_ix (l_ix hK) L_ix (q_var 0) q_int (fun _ _ => rfl)) qa_nil)) (qe_one (q_calX (c_is_own A) hM hr (by decide) (by rfl) lets0 (qa_cons (q_ix (l_ix hK) L_ix (q_var 0) q_int (fun _ _ => rfl)) qa_nil)))))))))
end
section
variable {P : Program} {w : World} {K : PySem.W.Frag} {mg : Str → Option Value} {base : Heap}
theorem c_need_entries (A : All K mg) : Cal3 P w K mg base "need_entries" ["entries"] 4 w_need_entries := by rw [u_need_entries]; unfold b_need_entries; exact cal3 A.d_need_entries sc_need_entries fun f cdv Ar outer s H E G E3 hr hM L => (have hK := hKof hM;
   (qs_cons (q_if (q_not (q_val (q_isi2 (k := .list) (j := .tuple) hM (by rfl) A.B.isinst (q_var 0) (pe_bltn (v := .ty "list") (by rfl) A.B.list (by decide +kernel) rfl) (pe_bltn (v := .ty "tuple") (by rfl) A.B.tuple (by decide +kernel) rfl) (ha := pa_cons (pe_tup (pa_cons (pe_bltn (v := .ty "list") (by rfl) A.B.list (by decide +kernel) rfl) (pa_cons (pe_bltn (v := .ty "tuple") (by rfl) A.B.tuple (by decide +kernel) rfl) pa_nil))) pa_nil)))) (qs_one q_never) qs_nil)
    (qs_cons (q_set (i := 1) sc_need_entries.nd rfl (.inl rfl) (froz (qf_lst qa_nil)))
    (qs_one (q_for (passes_of rfl) rfl (qi_en hK (by rfl) A.B.enumerate (qa_cons (q_var 0) qa_nil)) (qg_tup hK rfl (qgs_cons (qg_name (i := 2) sc_need_entries.nd rfl (.inl rfl)) (qgs_cons (qg_name (i := 3) sc_need_entries.nd rfl (.inl rfl)) qgs_nil))) (qs_cons (q_if (PW.pt (q_or (q_tcmp (l_eq hK hr.units) L_eq (q_var 2) (q_gi (i := 4) rfl (A.k_MOST_WORDS).choose_spec ⟨_, rfl⟩) (nomark _)) (q_or (q_not (q_val (q_calX (c_is_entry A) hM hr (by decide) (by rfl) lets0 (qa_cons (q_var 3) qa_nil)))) (q_or1 (q_tcmp (l_in hK) L_in (q_ix (l_ix hK) L_ix (q_var 3) q_int (fun _ _ => rfl)) (q_var 1) (by rfl)))))) (qs_one q_never) qs_nil)
    (qs_one (q_set (i := 1) sc_need_entries.nd rfl (.inl rfl) (q_op (l_add hK) L_add (q_var 1) (froz (qf_lst (qa_cons (q_ix (l_ix hK) L_ix (q_var 3) q_int (fun _ _ => rfl)) qa_nil))))))))))))
end
section
variable {P : Program} {w : World} {K : PySem.W.Frag} {mg : Str → Option Value} {base : Heap}
theorem c_Speller__init_ (A : All K mg) : Mk3 P w K mg base 1 ["self", "entries", "slips"] 5 w_Speller__init_ := by
  rw [u_Speller__init_]; unfold b_Speller__init_
  obtain ⟨C, f, fd, hm, mk, F, kb⟩ := A.i_Speller__init_
  exact ⟨C, f, fd, hm, mk, fnI F sc_Speller__init_ fun cdv Ar outer s H E G E3 hr hM L => (have hK := hKof hM;
   (qs_cons (q_exp (q_calX (c_need_entries A) hM hr (by decide) (by rfl) lets0 (qa_cons (q_var 1) qa_nil)))
    (qs_cons (q_fs (c := 1) (j := 0) hM A.cf1 rfl (by decide) (by decide) (q_ty (l_tuple hK) L_tuple (by rfl) A.B.tuple (by decide +kernel) (qa_cons (q_var 1) qa_nil)))
    (qs_one (q_fs (c := 1) (j := 1) hM A.cf1 rfl (by decide) (by decide) (q_ifE (q_tcmp op_isN L_isN (q_var 2) q_non (nomark _)) q_noE (q_var 2))))))), kb⟩
end
section
variable {P : Program} {w : World} {K : PySem.W.Frag} {mg : Str → Option Value} {base : Heap}
theorem c_Speller_entries (A : All K mg) : Pr3 P w K mg base 1 "entries" 1 w_Speller_entries := by
  rw [u_Speller_entries]; unfold b_Speller_entries
  obtain ⟨C, p, g, fd, hm, hp, F, hb⟩ := A.p_Speller_entries
  exact ⟨A.cf1, C, p, g, fd, hm, hp, fn3 F sc_Speller_entries fun cdv Ar outer s H E G E3 hr hM L => (have hK := hKof hM;
   (qs_one (q_ret (q_fd (c := 1) (j := 0) hM A.cf1 (q_var 0) rfl (by decide))))), hb⟩
end
section
variable {P : Program} {w : World} {K : PySem.W.Frag} {mg : Str → Option Value} {base : Heap}
theorem c_Speller_slips (A : All K mg) : Pr3 P w K mg base 1 "slips" 1 w_Speller_slips := by
  rw [u_Speller_slips]; unfold b_Speller_slips
  obtain ⟨C, p, g, fd, hm, hp, F, hb⟩ := A.p_Speller_slips
  exact ⟨A.cf1, C, p, g, fd, hm, hp, fn3 F sc_Speller_slips fun cdv Ar outer s H E G E3 hr hM L => (have hK := hKof hM;
   (qs_one (q_ret (q_fd (c := 1) (j := 1) hM A.cf1 (q_var 0) rfl (by decide))))), hb⟩
end
section
variable {P : Program} {w : World} {K : PySem.W.Frag} {mg : Str → Option Value} {base : Heap}
theorem c_Speller__eq_ (A : All K mg) : Mt3 P w K mg base 1 "__eq__" ["self", "other"] 3 w_Speller__eq_ := by
  rw [u_Speller__eq_]; unfold b_Speller__eq_
  obtain ⟨C, f, fd, hm, mt, F, hb, hf⟩ := A.m_Speller__eq_
  exact ⟨A.cf1, by decide, C, f, fd, hm, fn3 F sc_Speller__eq_ fun cdv Ar outer s H E G E3 hr hM L => (have hK := hKof hM;
   (qs_cons (q_if (q_not (q_val (q_isO (c := 1) hM A.oc1 A.cf1 rfl (by rfl) A.B.isinst (by rfl) (q_var 1)))) (qs_one (q_ret q_bl)) qs_nil)
    (qs_one (q_ret (qe_and (q_cmp (l_eq hK hr.units) L_eq (q_fd (c := 1) (j := 0) hM A.cf1 (q_var 0) rfl (by decide)) (q_fd (c := 1) (j := 0) hM A.cf1 (q_var 1) rfl (by decide)) (nomark _)) (qe_one (q_eqO hM A.oc0 (c_Slips__eq_ A) hr (by decide) (q_fd (c := 1) (j := 1) hM A.cf1 (q_var 0) rfl (by decide)) (q_fd (c := 1) (j := 1) hM A.cf1 (q_var 1) rfl (by decide)) (nomark _)))))))), mt, hb, hf⟩
end
end G69
namespace G69
open PySem PySem.Spec PyProof.Rows L2
section
variable {P : Program} {w : World} {K : PySem.W.Frag} {mg : Str → Option Value} {base : Heap}
theorem c_is_number (A : All K mg) : Cal3 P w K mg base "is_number" ["word"] 1 w_is_number := by rw [u_is_number]; unfold b_is_number; exact cal3 A.d_is_number sc_is_number fun f cdv Ar outer s H E G E3 hr hM L => (have hK := hKof hM;
   (qs_cons (q_if (PW.pt (q_or (q_not (q_tch op_le op_le L_i2 L_i2 q_int (q_bi (l_len hK) L_len (by rfl) A.B.len (by decide +kernel) (qa_cons (q_var 0) qa_nil)) q_int)) (q_or1 (q_not (q_val (q_bi (l_all hK rfl) L_all (by rfl) A.B.all (by decide +kernel) (qa_cons (froz (qf_lc (own := [("sign", 1)]) (by decide) rfl sc_is_number.nd (qi_seq hK (q_var 0)) (blkOk_by (own := [("sign", 1)]) (N := n_is_number) (sc := defScope s_is_number) (by decide +kernel)) (fun _ _ _ _ _ => (qg_name (i := 1) sc_is_number.nd rfl (.inl rfl))) (fun _ _ _ _ _ => qts_nil) (fun _ _ _ _ _ => (q_cmp (l_in hK) L_in (q_var 1) (q_gs (z := "0123456789") rfl (A.k_DIGITS).choose_spec ⟨_, rfl⟩) (by rfl))))) qa_nil))))))) (qs_one (q_ret q_bl)) qs_nil)
    (qs_one (q_ret (qe_or (q_cmp (l_eq hK hr.units) L_eq (q_var 0) q_str (nomark _)) (qe_one (q_cmp (l_ne hK hr.units) L_ne (q_ix (l_ix hK) L_ix (q_var 0) q_int (fun _ _ => rfl)) q_str (nomark _))))))))
end
section
variable {P : Program} {w : World} {K : PySem.W.Frag} {mg : Str → Option Value} {base : Heap}
theorem c_is_line (A : All K mg) : Cal3 P w K mg base "is_line" ["at", "words"] 2 w_is_line := by rw [u_is_line]; unfold b_is_line; exact cal3 A.d_is_line sc_is_line fun f cdv Ar outer s H E G E3 hr hM L => (have hK := hKof hM;
   (qs_cons (q_if (q_tcmp (l_in hK) L_in q_str (q_var 1) (by rfl)) (qs_one (q_ret q_bl)) qs_nil)
    (qs_cons (q_if (q_tcmp op_gt L_i2 (q_var 0) q_int (nomark _)) (qs_one (q_ret (qe_and (q_cmp (l_eq hK hr.units) L_eq (q_bi (l_len hK) L_len (by rfl) A.B.len (by decide +kernel) (qa_cons (q_var 1) qa_nil)) q_int (nomark _)) (qe_and (q_cmp (l_eq hK hr.units) L_eq (q_ix (l_ix hK) L_ix (q_var 1) q_int (fun _ _ => rfl)) q_str (nomark _)) (qe_one (q_calX (c_is_number A) hM hr (by decide) (by rfl) lets0 (qa_cons (q_ix (l_ix hK) L_ix (q_var 1) q_int (fun _ _ => rfl)) qa_nil))))))) qs_nil)
    (qs_cons (q_if (PW.pt (q_or (q_tcmp (l_ne hK hr.units) L_ne (q_bi (l_len hK) L_len (by rfl) A.B.len (by decide +kernel) (qa_cons (q_var 1) qa_nil)) q_int (nomark _)) (q_or (q_tcmp (l_ne hK hr.units) L_ne (q_ix (l_ix hK) L_ix (q_var 1) q_int (fun _ _ => rfl)) q_str (nomark _)) (q_or1 (q_not (q_val (q_bi (l_all hK rfl) L_all (by rfl) A.B.all (by decide +kernel) (qa_cons (froz (qf_lc (own := [("word", 2)]) (by decide) rfl sc_is_line.nd (qi_seq hK (q_sl hK (q_var 1) (qo_some q_int) (qo_some q_int))) (blkOk_by (own := [("word", 2)]) (N := n_is_line) (sc := defScope s_is_line) (by decide +kernel)) (fun _ _ _ _ _ => (qg_name (i := 2) sc_is_line.nd rfl (.inl rfl))) (fun _ _ _ _ _ => qts_nil) (fun _ _ _ _ _ => (q_calX (c_is_number A) hM hr (by decide) (by rfl) lets0 (qa_cons (q_var 2) qa_nil))))) qa_nil)))))))) (qs_one (q_ret q_bl)) qs_nil)
    (qs_one (q_ret (qe_or (q_cmp (l_eq hK hr.units) L_eq (q_ix (l_ix hK) L_ix (q_var 1) q_int (fun _ _ => rfl)) q_str (nomark _)) (qe_one (q_calX (c_is_number A) hM hr (by decide) (by rfl) lets0 (qa_cons (q_ix (l_ix hK) L_ix (q_var 1) q_int (fun _ _ => rfl)) qa_nil))))))))))
end
section
variable {P : Program} {w : World} {K : PySem.W.Frag} {mg : Str → Option Value} {base : Heap}
theorem c_speller_text (A : All K mg) : Cal3 P w K mg base "speller_text" ["speller"] 3 w_speller_text := by rw [u_speller_text]; unfold b_speller_text; exact cal3 A.d_speller_text sc_speller_text fun f cdv Ar outer s H E G E3 hr hM L => (have hK := hKof hM;
   (qs_cons (q_set (i := 1) sc_speller_text.nd rfl (.inl rfl) (q_pr hM (c_Speller_slips A) hr (by decide) (q_var 0)))
    (qs_cons (q_set (i := 2) sc_speller_text.nd rfl (.inl rfl) (q_ifE (q_tcmp op_isN L_isN (q_pr hM (c_Slips_swapped A) hr (by decide) (q_var 1)) q_non (nomark _)) q_str (q_ty call_str_int L_str (by rfl) A.B.str (by decide +kernel) (qa_cons (q_pr hM (c_Slips_swapped A) hr (by decide) (q_var 1)) qa_nil))))
    (qs_cons (q_set (i := 3) sc_speller_text.nd rfl (.inl rfl) (froz (qf_lst (qa_cons (q_join hM q_str (froz (qf_lst (qa_cons q_str (qa_cons (q_ty call_str_int L_str (by rfl) A.B.str (by decide +kernel) (qa_cons (q_pr hM (c_Slips_extra A) hr (by decide) (q_var 1)) qa_nil)) (qa_cons (q_ty call_str_int L_str (by rfl) A.B.str (by decide +kernel) (qa_cons (q_pr hM (c_Slips_missing A) hr (by decide) (q_var 1)) qa_nil)) (qa_cons (q_ty call_str_int L_str (by rfl) A.B.str (by decide +kernel) (qa_cons (q_pr hM (c_Slips_wrong A) hr (by decide) (q_var 1)) qa_nil)) (qa_cons (q_var 2) qa_nil)))))))) qa_nil))))
    (qs_cons (q_set (i := 3) sc_speller_text.nd rfl (.inl rfl) (q_op (l_add hK) L_add (q_var 3) (froz (qf_lc (own := [("word", 4), ("own", 5)]) (by decide) rfl sc_speller_text.nd (qi_seq hK (q_pr hM (c_Speller_entries A) hr (by decide) (q_var 0))) (blkOk_by (own := [("word", 4), ("own", 5)]) (N := n_speller_text) (sc := defScope s_speller_text) (by decide +kernel)) (fun _ _ _ _ _ => (qg_tup hK rfl (qgs_cons (qg_name (i := 4) sc_speller_text.nd rfl (.inl rfl)) (qgs_cons (qg_name (i := 5) sc_speller_text.nd rfl (.inl rfl)) qgs_nil)))) (fun _ _ _ _ _ => qts_nil) (fun _ _ _ _ _ => (q_join hM q_str (froz (qf_lst (qa_cons q_str (qa_cons (q_var 4) (qa_cons (q_ty call_str_int L_str (by rfl) A.B.str (by decide +kernel) (qa_cons (q_var 5) qa_nil)) qa_nil)))))))))))
    (qs_one (q_ret (q_join hM q_str (froz (qf_lc (own := [("row", 6)]) (by decide) rfl sc_speller_text.nd (qi_seq hK (q_var 3)) (blkOk_by (own := [("row", 6)]) (N := n_speller_text) (sc := defScope s_speller_text) (by decide +kernel)) (fun _ _ _ _ _ => (qg_name (i := 6) sc_speller_text.nd rfl (.inl rfl))) (fun _ _ _ _ _ => qts_nil) (fun _ _ _ _ _ => (q_op (l_add hK) L_add (q_var 6) q_str))))))))))))
end
section
variable {P : Program} {w : World} {K : PySem.W.Frag} {mg : Str → Option Value} {base : Heap}
theorem c_slips_of (A : All K mg) : Cal3 P w K mg base "slips_of" ["words"] 5 w_slips_of := by rw [u_slips_of]; unfold b_slips_of; exact cal3 A.d_slips_of sc_slips_of fun f cdv Ar outer s H E G E3 hr hM L => (have hK := hKof hM;
   (qs_cons (q_set (i := 1) sc_slips_of.nd rfl (.inl rfl) (q_ifE (q_tcmp (l_eq hK hr.units) L_eq (q_ix (l_ix hK) L_ix (q_var 0) q_int (fun _ _ => rfl)) q_str (nomark _)) q_non (q_ty l_ints L_ints (by rfl) A.B.int (by decide +kernel) (qa_cons (q_ix (l_ix hK) L_ix (q_var 0) q_int (fun _ _ => rfl)) qa_nil))))
    (qs_one (q_ret (q_mkK hM (c_Slips__init_ A) rfl hr (by decide) (by rfl) lets0 (qk_cons (q_ty l_ints L_ints (by rfl) A.B.int (by decide +kernel) (qa_cons (q_ix (l_ix hK) L_ix (q_var 0) q_int (fun _ _ => rfl)) qa_nil)) (qk_cons (q_ty l_ints L_ints (by rfl) A.B.int (by decide +kernel) (qa_cons (q_ix (l_ix hK) L_ix (q_var 0) q_int (fun _ _ => rfl)) qa_nil)) (qk_cons (q_ty l_ints L_ints (by rfl) A.B.int (by decide +kernel) (qa_cons (q_ix (l_ix hK) L_ix (q_var 0) q_int (fun _ _ => rfl)) qa_nil)) (qk_cons (q_var 1) qk_nil)))))))))
end
section
variable {P : Program} {w : World} {K : PySem.W.Frag} {mg : Str → Option Value} {base : Heap}
theorem c_read_speller (A : All K mg) : Cal3 P w K mg base "read_speller" ["text"] 7 w_read_speller := by rw [u_read_speller]; unfold b_read_speller; exact cal3 A.d_read_speller sc_read_speller fun f cdv Ar outer s H E G E3 hr hM L => (have hK := hKof hM;
   (qs_cons (q_if (q_not (q_val (q_isi (k := .str) hM (by rfl) A.B.isinst (q_var 0) (pe_bltn (v := .ty "str") (by rfl) A.B.str (by decide +kernel) rfl)))) (qs_one q_never) qs_nil)
    (qs_cons (q_set (i := 1) sc_read_speller.nd rfl (.inl rfl) (q_split hM (q_var 0) q_str))
    (qs_cons (q_set (i := 2) sc_read_speller.nd rfl (.inl rfl) (qe_and (q_cmp (l_eq hK hr.units) L_eq (q_ix (l_ix hK) L_ix (q_var 1) (q_un un_neg L_neg q_int) (fun _ _ => rfl)) q_str (nomark _)) (qe_one (q_cmp op_gt L_i2 (q_bi (l_len hK) L_len (by rfl) A.B.len (by decide +kernel) (qa_cons (q_var 1) qa_nil)) q_int (nomark _)))))
    (qs_cons (q_setLc (i := 3) (own := [("row", 4)]) (by decide) rfl sc_read_speller.nd rfl rfl (sw_true rfl rfl rfl (by decide +kernel)) (qi_seq hK (q_ifE (q_tru hK (q_var 2)) (q_sl hK (q_var 1) qo_none (qo_some (q_un un_neg L_neg q_int))) (q_var 1))) (blkOk_by (own := [("row", 4)]) (N := n_read_speller) (sc := defScope s_read_speller) (by decide +kernel)) (fun _ _ _ _ _ => (qg_name (i := 4) sc_read_speller.nd rfl (.inl rfl))) (fun _ _ _ _ _ => qts_nil) (fun _ _ _ _ _ => (q_split hM (q_var 4) q_str)))
    (qs_cons (q_for (passes_of rfl) rfl (qi_en hK (by rfl) A.B.enumerate (qa_cons (q_var 3) qa_nil)) (qg_tup hK rfl (qgs_cons (qg_name (i := 5) sc_read_speller.nd rfl (.inl rfl)) (qgs_cons (qg_name (i := 6) sc_read_speller.nd rfl (.inl rfl)) qgs_nil))) (qs_one (q_if (q_not (q_val (q_calX (c_is_line A) hM hr (by decide) (by rfl) lets0 (qa_cons (q_var 5) (qa_cons (q_var 6) qa_nil))))) (qs_one q_never) qs_nil)))
    (qs_cons (q_if (q_not (q_tru hK (q_var 2))) (qs_one q_never) qs_nil)
    (qs_cons (q_set (i := 7) sc_read_speller.nd rfl (.inl rfl) (q_calX (c_slips_of A) hM hr (by decide) (by rfl) lets0 (qa_cons (q_ix (l_ix hK) L_ix (q_var 3) q_int (fun _ _ => rfl)) qa_nil)))
    (qs_one (q_ret (q_mk hM (c_Speller__init_ A) rfl hr (by decide) (by rfl) lets0 (qa_cons (froz (qf_lc (own := [("words", 6)]) (by decide) rfl sc_read_speller.nd (qi_seq hK (q_sl hK (q_var 3) (qo_some q_int) qo_none)) (blkOk_by (own := [("words", 6)]) (N := n_read_speller) (sc := defScope s_read_speller) (by decide +kernel)) (fun _ _ _ _ _ => (qg_name (i := 6) sc_read_speller.nd rfl (.inl rfl))) (fun _ _ _ _ _ => qts_nil) (fun _ _ _ _ _ => (q_tup (qa_cons (q_ix (l_ix hK) L_ix (q_var 6) q_int (fun _ _ => rfl)) (qa_cons (q_ty l_ints L_ints (by rfl) A.B.int (by decide +kernel) (qa_cons (q_ix (l_ix hK) L_ix (q_var 6) q_int (fun _ _ => rfl)) qa_nil)) qa_nil)))))) (qa_cons (q_var 7) qa_nil)))))))))))))
end
end G69
namespace G69
open PySem PySem.Spec PyProof.Rows L2
section
variable {P : Program} {w : World} {K : PySem.W.Frag} {mg : Str → Option Value} {base : Heap}
theorem c_L_pick (A : All K mg) : Cal3 P w K mg base "_law_pick" ["_law_draw", "_law_some"] 2 w_L_pick := by rw [u_L_pick]; unfold b_L_pick; exact cal3 A.d_L_pick sc_L_pick fun f cdv Ar outer s H E G E3 hr hM L => (have hK := hKof hM;
   (qs_one (q_ret (q_ix (l_ix hK) L_ix (q_var 1) (q_calX (c_L_take A) hM hr (by decide) (by rfl) lets0 (qa_cons (q_var 0) (qa_cons (q_bi (l_len hK) L_len (by rfl) A.B.len (by decide +kernel) (qa_cons (q_var 1) qa_nil)) qa_nil))) (fun _ _ => rfl)))))
end
section
variable {P : Program} {w : World} {K : PySem.W.Frag} {mg : Str → Option Value} {base : Heap}
theorem c_L_slips (A : All K mg) : Cal3 P w K mg base "_law_slips" ["_law_prices"] 5 w_L_slips := by rw [u_L_slips]; unfold b_L_slips; exact cal3 A.d_L_slips sc_L_slips fun f cdv Ar outer s H E G E3 hr hM L => (have hK := hKof hM;
   (qs_one (q_ret (q_mkK hM (c_Slips__init_ A) rfl hr (by decide) (by rfl) lets0 (qk_cons (q_ix (l_ix hK) L_ix (q_var 0) q_int (fun _ _ => rfl)) (qk_cons (q_ix (l_ix hK) L_ix (q_var 0) q_int (fun _ _ => rfl)) (qk_cons (q_ix (l_ix hK) L_ix (q_var 0) q_int (fun _ _ => rfl)) (qk_cons (q_ix (l_ix hK) L_ix (q_var 0) q_int (fun _ _ => rfl)) qk_nil))))))))
end
section
variable {P : Program} {w : World} {K : PySem.W.Frag} {mg : Str → Option Value} {base : Heap}
theorem c_L_speller (A : All K mg) : Cal3 P w K mg base "_law_speller" ["_law_case"] 7 w_L_speller := by rw [u_L_speller]; unfold b_L_speller; exact cal3 A.d_L_speller sc_L_speller fun f cdv Ar outer s H E G E3 hr hM L => (have hK := hKof hM;
   (qs_one (q_ret (q_mk hM (c_Speller__init_ A) rfl hr (by decide) (by rfl) lets0 (qa_cons (q_dg (hu_of hr) (q_var 0) q_str (fun _ _ => rfl)) (qa_cons (q_calX (c_L_slips A) hM hr (by decide) (by rfl) lets0 (qa_cons (q_dg (hu_of hr) (q_var 0) q_str (fun _ _ => rfl)) qa_nil)) qa_nil))))))
end
section
variable {P : Program} {w : World} {K : PySem.W.Frag} {mg : Str → Option Value} {base : Heap}
theorem c_L_any_letters (A : All K mg) : Cal3 P w K mg base "_law_any_letters" ["_law_draw", "_law_many"] 3 w_L_any_letters := by rw [u_L_any_letters]; unfold b_L_any_letters; exact cal3 A.d_L_any_letters sc_L_any_letters fun f cdv Ar outer s H E G E3 hr hM L => (have hK := hKof hM;
   (qs_one (q_ret (froz (qf_lc (own := [("_law_turn", 2)]) (by decide) rfl sc_L_any_letters.nd (qi_r1 (by rfl) A.B.range (qa_cons (q_var 1) qa_nil)) (blkOk_by (own := [("_law_turn", 2)]) (N := n_L_any_letters) (sc := defScope s_L_any_letters) (by decide +kernel)) (fun _ _ _ _ _ => (qg_name (i := 2) sc_L_any_letters.nd rfl (.inl rfl))) (fun _ _ _ _ _ => qts_nil) (fun _ _ _ _ _ => (q_calX (c_L_pick A) hM hr (by decide) (by rfl) lets0 (qa_cons (q_var 0) (qa_cons q_str qa_nil)))))))))
end
section
variable {P : Program} {w : World} {K : PySem.W.Frag} {mg : Str → Option Value} {base : Heap}
theorem c_L_far_prices (A : All K mg) : Cal3 P w K mg base "_law_far_prices" ["_law_draw"] 3 w_L_far_prices := by rw [u_L_far_prices]; unfold b_L_far_prices; exact cal3 A.d_L_far_prices sc_L_far_prices fun f cdv Ar outer s H E G E3 hr hM L => (have hK := hKof hM;
   (qs_cons (q_setLc (i := 1) (own := [("_law_turn", 2)]) (by decide) rfl sc_L_far_prices.nd rfl rfl (sw_true rfl rfl rfl (by decide +kernel)) (qi_r1 (by rfl) A.B.range (qa_cons q_int qa_nil)) (blkOk_by (own := [("_law_turn", 2)]) (N := n_L_far_prices) (sc := defScope s_L_far_prices) (by decide +kernel)) (fun _ _ _ _ _ => (qg_name (i := 2) sc_L_far_prices.nd rfl (.inl rfl))) (fun _ _ _ _ _ => qts_nil) (fun _ _ _ _ _ => (q_calX (c_L_pick A) hM hr (by decide) (by rfl) lets0 (qa_cons (q_var 0) (qa_cons (froz (qf_lst (qa_cons q_int (qa_cons q_int (qa_cons q_int (qa_cons q_int (qa_cons q_int (qa_cons (q_op (l_add hK) L_add q_int (q_calX (c_L_take A) hM hr (by decide) (by rfl) lets0 (qa_cons (q_var 0) (qa_cons q_int qa_nil)))) qa_nil)))))))) qa_nil)))))
    (qs_one (q_ret (q_op (l_add hK) L_add (q_ty (l_tuple hK) L_tuple (by rfl) A.B.tuple (by decide +kernel) (qa_cons (q_var 1) qa_nil)) (q_tup (qa_cons (q_calX (c_L_pick A) hM hr (by decide) (by rfl) lets0 (qa_cons (q_var 0) (qa_cons (froz (qf_lst (qa_cons q_non (qa_cons q_int (qa_cons q_int (qa_cons (q_op (l_add hK) L_add q_int (q_calX (c_L_take A) hM hr (by decide) (by rfl) lets0 (qa_cons (q_var 0) (qa_cons q_int qa_nil)))) qa_nil)))))) qa_nil))) qa_nil)))))))
end
section
variable {P : Program} {w : World} {K : PySem.W.Frag} {mg : Str → Option Value} {base : Heap}
theorem c_L_row_of (A : All K mg) : Cal3 P w K mg base "_law_row_of" ["_law_prices"] 1 w_L_row_of := by rw [u_L_row_of]; unfold b_L_row_of; exact cal3 A.d_L_row_of sc_L_row_of fun f cdv Ar outer s H E G E3 hr hM L => (have hK := hKof hM;
   (qs_cons (q_set (i := 1) sc_L_row_of.nd rfl (.inl rfl) (q_ifE (q_tcmp op_isN L_isN (q_ix (l_ix hK) L_ix (q_var 0) q_int (fun _ _ => rfl)) q_non (nomark _)) q_str (q_ty call_str_int L_str (by rfl) A.B.str (by decide +kernel) (qa_cons (q_ix (l_ix hK) L_ix (q_var 0) q_int (fun _ _ => rfl)) qa_nil))))
    (qs_one (q_ret (q_join hM q_str (q_op (l_add hK) L_add (q_op (l_add hK) L_add (froz (qf_lst (qa_cons q_str qa_nil))) (froz (qf_lc (own := [("_law_worth", 2)]) (by decide) rfl sc_L_row_of.nd (qi_seq hK (q_sl hK (q_var 0) qo_none (qo_some q_int))) (blkOk_by (own := [("_law_worth", 2)]) (N := n_L_row_of) (sc := defScope s_L_row_of) (by decide +kernel)) (fun _ _ _ _ _ => (qg_name (i := 2) sc_L_row_of.nd rfl (.inl rfl))) (fun _ _ _ _ _ => qts_nil) (fun _ _ _ _ _ => (q_ty call_str_int L_str (by rfl) A.B.str (by decide +kernel) (qa_cons (q_var 2) qa_nil)))))) (froz (qf_lst (qa_cons (q_var 1) qa_nil)))))))))
end
section
variable {P : Program} {w : World} {K : PySem.W.Frag} {mg : Str → Option Value} {base : Heap}
theorem c_L_lines (A : All K mg) : Cal3 P w K mg base "_law_lines" ["_law_case"] 2 w_L_lines := by rw [u_L_lines]; unfold b_L_lines; exact cal3 A.d_L_lines sc_L_lines fun f cdv Ar outer s H E G E3 hr hM L => (have hK := hKof hM;
   (qs_cons (q_set (i := 1) sc_L_lines.nd rfl (.inl rfl) (q_op (l_add hK) L_add (froz (qf_lst (qa_cons (q_calX (c_L_row_of A) hM hr (by decide) (by rfl) lets0 (qa_cons (q_dg (hu_of hr) (q_var 0) q_str (fun _ _ => rfl)) qa_nil)) qa_nil))) (froz (qf_lc (own := [("_law_term", 2), ("_law_fee", 3)]) (by decide) rfl sc_L_lines.nd (qi_seq hK (q_dg (hu_of hr) (q_var 0) q_str (fun _ _ => rfl))) (blkOk_by (own := [("_law_term", 2), ("_law_fee", 3)]) (N := n_L_lines) (sc := defScope s_L_lines) (by decide +kernel)) (fun _ _ _ _ _ => (qg_tup hK rfl (qgs_cons (qg_name (i := 2) sc_L_lines.nd rfl (.inl rfl)) (qgs_cons (qg_name (i := 3) sc_L_lines.nd rfl (.inl rfl)) qgs_nil)))) (fun _ _ _ _ _ => qts_nil) (fun _ _ _ _ _ => (q_op (l_add hK) L_add (q_op (l_add hK) L_add (q_op (l_add hK) L_add q_str (q_var 2)) q_str) (q_ty call_str_int L_str (by rfl) A.B.str (by decide +kernel) (qa_cons (q_var 3) qa_nil))))))))
    (qs_one (q_ret (q_join hM q_str (froz (qf_lc (own := [("_law_line", 4)]) (by decide) rfl sc_L_lines.nd (qi_seq hK (q_var 1)) (blkOk_by (own := [("_law_line", 4)]) (N := n_L_lines) (sc := defScope s_L_lines) (by decide +kernel)) (fun _ _ _ _ _ => (qg_name (i := 4) sc_L_lines.nd rfl (.inl rfl))) (fun _ _ _ _ _ => qts_nil) (fun _ _ _ _ _ => (q_op (l_add hK) L_add (q_var 4) q_str)))))))))
end
end G69
namespace G69
open PySem PySem.Spec PyProof.Rows L2
section
variable {P : Program} {w : World} {K : PySem.W.Frag} {mg : Str → Option Value} {base : Heap}
set_option maxHeartbeats 0 in
theorem c_law (A : All K mg) (hW : ∀ n ≤ 63, w_law lawD (lawS n 8)) {f : Addr} {fd : FuncData} (F : Fun K "law" "law" s_law f fd) : FnOk P w K mg base CX0 8 f fd ["_law_script"] (spLaw K) := by
  have CB : Cal P w K mg base "_law_begin" ["_law_script"] 1 (spBegin K) := A.d_L_begin.hand fun f fd F => ok_begin F A.B.abs A.B.list
  exact law3 (W := fun _ => w_law) F sc_law rfl (by decide) (fun cdv Ar outer s H E hr => ps_set (i := 1) sc_law.nd rfl (.inl rfl) (pe_cal CB hr (by decide) (by rfl) (pa_cons (pv 0) pa_nil))) (fun cdv Ar outer s H E G E3 hr hM L => (have hK := hKof hM;
   (qs_cons (q_set (i := 2) sc_law.nd rfl (.inl rfl) q_non)
    (qs_cons (q_for (passes_of rfl) rfl (qi_r1 (by rfl) A.B.range (qa_cons (q_op (l_add hK) L_add q_int (q_bi (l_min hK rfl) L_min (by rfl) A.B.min (by decide +kernel) (qa_cons (q_bi (l_len hK) L_len (by rfl) A.B.len (by decide +kernel) (qa_cons (q_var 0) qa_nil)) (qa_cons q_int qa_nil)))) qa_nil)) (qg_name (i := 3) sc_law.nd rfl (.inl rfl)) (qs_cons (q_set (i := 4) sc_law.nd rfl (.inl rfl) (q_calX (c_L_wide A) hM hr (by decide) (by rfl) lets0 (qa_cons (q_var 1) qa_nil)))
    (qs_cons (q_par (i := 5) (j := 6) (by rfl) sc_law.nd rfl rfl (by decide) rfl rfl (qa_cons (q_calX (c_L_speller A) hM hr (by decide) (by rfl) lets0 (qa_cons (q_var 4) qa_nil)) (qa_cons (q_calX (c_L_lines A) hM hr (by decide) (by rfl) lets0 (qa_cons (q_var 4) qa_nil)) qa_nil)) (by rfl))
    (qs_cons (q_if (PW.pt (q_or (q_tcmp (l_ne hK hr.units) L_ne (q_calX (c_speller_text A) hM hr (by decide) (by rfl) lets0 (qa_cons (q_var 5) qa_nil)) (q_var 6) (nomark _)) (q_or1 (q_tcmp (l_ne hK hr.units) L_ne (q_kcal (c_speller_text A) hM hr (by decide) (by rfl) (qk_cons (q_var 5) qk_nil)) (q_var 6) (nomark _))))) (qs_one (q_ret q_bl)) qs_nil)
    (qs_cons (q_set (i := 7) sc_law.nd rfl (.inl rfl) (q_calX (c_read_speller A) hM hr (by decide) (by rfl) lets0 (qa_cons (q_var 6) qa_nil)))
    (qs_cons (q_if (PW.pt (q_or (q_tneO hM A.oc1 (c_Speller__eq_ A) hr (by decide) (q_var 7) (q_var 5) (nomark _)) (q_or (q_tneO hM A.oc1 (c_Speller__eq_ A) hr (by decide) (q_kcal (c_read_speller A) hM hr (by decide) (by rfl) (qk_cons (q_var 6) qk_nil)) (q_var 5) (nomark _)) (q_or1 (q_tcmp (l_ne hK hr.units) L_ne (q_calX (c_speller_text A) hM hr (by decide) (by rfl) lets0 (qa_cons (q_var 7) qa_nil)) (q_var 6) (nomark _)))))) (qs_one (q_ret q_bl)) qs_nil)
    (qs_cons (q_if (PW.pt (q_and (q_tcmp op_notN L_notN (q_var 2) q_non (nomark _)) (q_and1 (q_tcmp (l_ne hK hr.units) L_ne (q_eqO hM A.oc1 (c_Speller__eq_ A) hr (by decide) (q_ix (l_ix hK) L_ix (q_var 2) q_int (fun _ _ => rfl)) (q_var 5) (nomark _)) (q_cmp (l_eq hK hr.units) L_eq (q_ix (l_ix hK) L_ix (q_var 2) q_int (fun _ _ => rfl)) (q_var 6) (nomark _)) (nomark _))))) (qs_one (q_ret q_bl)) qs_nil)
    (qs_one (q_set (i := 2) sc_law.nd rfl (.inl rfl) (q_tup (qa_cons (q_var 5) (qa_cons (q_var 6) qa_nil))))))))))))
    (qs_one (q_ret q_bl)))))) hW
end
end G69
namespace G69
open PySem PySem.Spec PyProof.Rows L2
/-! ### what the top has written -/
section
variable {K : PySem.W.Frag} {mg : Str → Option Value}
theorem def3_mk {x : Str} {st : Stmt} {ps : List Str} {f : Addr} {fd : FuncData} (F : Fun K x x st f fd) (g : mg x = some (.ref f)) (b : Binds K fd ps [])
    (hk : ∀ (kV doc pm : Value) (an : Option Addr) (cdv ct : Value) (ws : List Value), ws.length = ps.length → bindArgs (PySem.W.fnOf x x (defArgs st) (defBody st) (defScope st) .none kV doc pm an cdv ct) ⟨[], ps.zip ws⟩ = pure (ps.zip ws)) : Def3 K mg x st ps := by
  obtain ⟨oc, od, kV, doc, pm, an, cdv, ct, osl, e, lk, hcd⟩ := F.ex
  refine ⟨f, fd, F, g, b, ⟨fun s us ws X l1 l2 => ?_, fun _ r => r⟩⟩
  match us, l1 with
  | [], _ =>
    rw [e]
    exact .of_eq (hk kV doc pm an cdv ct ws l2)
theorem cf_mk {c : Nat} {C : Addr} (g : mg (cn c) = some (.ref C)) (cl : Cls K C) (no : ∀ f ∈ fnm c, NoAttr K C f) : Cf K mg c :=
  ⟨⟨C, g⟩, fun C' h => cfSame g h ▸ cl, fun C' h => cfSame g h ▸ no⟩
theorem oc_mk {c : Nat} {C : Addr} (g : mg (cn c) = some (.ref C)) (o : OwnC K C) : Oc K mg c := ⟨fun C' h => cfSame g h ▸ o⟩
theorem sl_bind3 {f : Addr} {fd : FuncData} (F : FunD K "__init__" "Slips.__init__" (defArgs s_Slips__init_) (defBody s_Slips__init_) (defScope s_Slips__init_) [] kwS f fd) :
    ∃ g : List Value → List Value → List Value, KBn K fd ["self", "extra", "missing", "wrong", "swapped"] 1 ["extra", "missing", "wrong", "swapped"] g (fun vs zs => vs ++ zs) := by
  obtain ⟨mv, h⟩ := F.kbinds0 (ps := ["self", "extra", "missing", "wrong", "swapped"]) 1 ["extra", "missing", "wrong", "swapped"] [] (fun us _ ws => us ++ ws) (by intro z; cases z) (fun q hq => by cases hq) (fun r1 _ r3 => r1.append r3)
    (fun D doc pm an cdv ct us mv ws hu hm hw => by
      match us, hu, mv, hm, ws, hw with
      | [u], _, [], _, [w1, w2, w3, w4], _ => rfl)
  exact ⟨_, h⟩
end
end G69
namespace G69
open PySem PySem.Spec PyProof.Rows L2
theorem sp_bind3 {K : PySem.W.Frag} {f : Addr} {fd : FuncData} (F : FunD K "__init__" "Speller.__init__" (defArgs s_Speller__init_) (defBody s_Speller__init_) (defScope s_Speller__init_) [.non] [] f fd) : Binds K fd ["self", "entries", "slips"] [] := by
  obtain ⟨ds, h1, h2⟩ := F.binds1 (ps := ["self", "entries", "slips"]) 3 1 (by intro z; cases z) rfl
    (fun T kV doc pm an cdv ct us its hu hi => by
      match us, hu, its, hi with
      | [u1, u2, u3], _, [i1], _ => exact ⟨_, rfl, rfl⟩)
  have e : ds = [] := by
    cases h1
    rfl
  rw [e] at h2
  exact h2
end G69
namespace G69
open PySem PySem.Spec PyProof.Rows L2
set_option maxHeartbeats 0 in
theorem all_mk {l : PySem.W.OpenLaw} {w : World} {K : PySem.W.Frag} {h : Heap} {mg : Str → Option Value} {fa : Addr} (X : K.In h) (G : h.Ns mainGlobals mg) (hfa : mg "law" = some (.ref fa))
    {tkLETTERS : Tok}
    {tkLONGEST : Tok}
    {tkDEAREST : Tok}
    {tkMOST_WORDS : Tok}
    {tkDEAREST_OWN : Tok}
    {tkDIGITS : Tok}
    {fis_integer : Addr} {odis_integer anis_integer : Option Addr} {slis_integer : Array (Option Value)} {ocis_integer kVis_integer dcis_integer pmis_integer cdis_integer ctis_integer : Value}
    {fis_text : Addr} {odis_text anis_text : Option Addr} {slis_text : Array (Option Value)} {ocis_text kVis_text dcis_text pmis_text cdis_text ctis_text : Value}
    {fis_word : Addr} {odis_word anis_word : Option Addr} {slis_word : Array (Option Value)} {ocis_word kVis_word dcis_word pmis_word cdis_word ctis_word : Value}
    {fis_price : Addr} {odis_price anis_price : Option Addr} {slis_price : Array (Option Value)} {ocis_price kVis_price dcis_price pmis_price cdis_price ctis_price : Value}
    {fneed_text : Addr} {odneed_text anneed_text : Option Addr} {slneed_text : Array (Option Value)} {ocneed_text kVneed_text dcneed_text pmneed_text cdneed_text ctneed_text : Value}
    {CSlips : Addr}
    {fSI : Addr} {odSI anSI : Option Addr} {slSI : Array (Option Value)} {ocSI kVSI dcSI pmSI cdSI ctSI : Value}
    {DSI : Addr} {tkE tkM tkW : Tok}
    {qp_Slips_extra : Addr} {restp_Slips_extra : List Value}
    {fp_Slips_extra : Addr} {odp_Slips_extra anp_Slips_extra : Option Addr} {slp_Slips_extra : Array (Option Value)} {ocp_Slips_extra kVp_Slips_extra dcp_Slips_extra pmp_Slips_extra cdp_Slips_extra ctp_Slips_extra : Value}
    {qp_Slips_missing : Addr} {restp_Slips_missing : List Value}
    {fp_Slips_missing : Addr} {odp_Slips_missing anp_Slips_missing : Option Addr} {slp_Slips_missing : Array (Option Value)} {ocp_Slips_missing kVp_Slips_missing dcp_Slips_missing pmp_Slips_missing cdp_Slips_missing ctp_Slips_missing : Value}
    {qp_Slips_wrong : Addr} {restp_Slips_wrong : List Value}
    {fp_Slips_wrong : Addr} {odp_Slips_wrong anp_Slips_wrong : Option Addr} {slp_Slips_wrong : Array (Option Value)} {ocp_Slips_wrong kVp_Slips_wrong dcp_Slips_wrong pmp_Slips_wrong cdp_Slips_wrong ctp_Slips_wrong : Value}
    {qp_Slips_swapped : Addr} {restp_Slips_swapped : List Value}
    {fp_Slips_swapped : Addr} {odp_Slips_swapped anp_Slips_swapped : Option Addr} {slp_Slips_swapped : Array (Option Value)} {ocp_Slips_swapped kVp_Slips_swapped dcp_Slips_swapped pmp_Slips_swapped cdp_Slips_swapped ctp_Slips_swapped : Value}
    {fm_Slips__eq_ : Addr} {odm_Slips__eq_ anm_Slips__eq_ : Option Addr} {slm_Slips__eq_ : Array (Option Value)} {ocm_Slips__eq_ kVm_Slips__eq_ dcm_Slips__eq_ pmm_Slips__eq_ cdm_Slips__eq_ ctm_Slips__eq_ : Value}
    {fis_own : Addr} {odis_own anis_own : Option Addr} {slis_own : Array (Option Value)} {ocis_own kVis_own dcis_own pmis_own cdis_own ctis_own : Value}
    {fis_entry : Addr} {odis_entry anis_entry : Option Addr} {slis_entry : Array (Option Value)} {ocis_entry kVis_entry dcis_entry pmis_entry cdis_entry ctis_entry : Value}
    {fneed_entries : Addr} {odneed_entries anneed_entries : Option Addr} {slneed_entries : Array (Option Value)} {ocneed_entries kVneed_entries dcneed_entries pmneed_entries cdneed_entries ctneed_entries : Value}
    {CSpeller : Addr}
    {dVPI : Value} {TPI nTPI : Nat} {ocT : Value} {odT : Option Addr} {slT : Array (Option Value)}
    {fPI : Addr} {odPI anPI : Option Addr} {slPI : Array (Option Value)} {ocPI kVPI dcPI pmPI cdPI ctPI : Value}
    {qp_Speller_entries : Addr} {restp_Speller_entries : List Value}
    {fp_Speller_entries : Addr} {odp_Speller_entries anp_Speller_entries : Option Addr} {slp_Speller_entries : Array (Option Value)} {ocp_Speller_entries kVp_Speller_entries dcp_Speller_entries pmp_Speller_entries cdp_Speller_entries ctp_Speller_entries : Value}
    {qp_Speller_slips : Addr} {restp_Speller_slips : List Value}
    {fp_Speller_slips : Addr} {odp_Speller_slips anp_Speller_slips : Option Addr} {slp_Speller_slips : Array (Option Value)} {ocp_Speller_slips kVp_Speller_slips dcp_Speller_slips pmp_Speller_slips cdp_Speller_slips ctp_Speller_slips : Value}
    {fm_Speller__eq_ : Addr} {odm_Speller__eq_ anm_Speller__eq_ : Option Addr} {slm_Speller__eq_ : Array (Option Value)} {ocm_Speller__eq_ kVm_Speller__eq_ dcm_Speller__eq_ pmm_Speller__eq_ cdm_Speller__eq_ ctm_Speller__eq_ : Value}
    {fis_number : Addr} {odis_number anis_number : Option Addr} {slis_number : Array (Option Value)} {ocis_number kVis_number dcis_number pmis_number cdis_number ctis_number : Value}
    {fis_line : Addr} {odis_line anis_line : Option Addr} {slis_line : Array (Option Value)} {ocis_line kVis_line dcis_line pmis_line cdis_line ctis_line : Value}
    {fspeller_text : Addr} {odspeller_text anspeller_text : Option Addr} {slspeller_text : Array (Option Value)} {ocspeller_text kVspeller_text dcspeller_text pmspeller_text cdspeller_text ctspeller_text : Value}
    {fslips_of : Addr} {odslips_of anslips_of : Option Addr} {slslips_of : Array (Option Value)} {ocslips_of kVslips_of dcslips_of pmslips_of cdslips_of ctslips_of : Value}
    {fread_speller : Addr} {odread_speller anread_speller : Option Addr} {slread_speller : Array (Option Value)} {ocread_speller kVread_speller dcread_speller pmread_speller cdread_speller ctread_speller : Value}
    {fL_pick : Addr} {odL_pick anL_pick : Option Addr} {slL_pick : Array (Option Value)} {ocL_pick kVL_pick dcL_pick pmL_pick cdL_pick ctL_pick : Value}
    {fL_slips : Addr} {odL_slips anL_slips : Option Addr} {slL_slips : Array (Option Value)} {ocL_slips kVL_slips dcL_slips pmL_slips cdL_slips ctL_slips : Value}
    {fL_speller : Addr} {odL_speller anL_speller : Option Addr} {slL_speller : Array (Option Value)} {ocL_speller kVL_speller dcL_speller pmL_speller cdL_speller ctL_speller : Value}
    {fL_any_letters : Addr} {odL_any_letters anL_any_letters : Option Addr} {slL_any_letters : Array (Option Value)} {ocL_any_letters kVL_any_letters dcL_any_letters pmL_any_letters cdL_any_letters ctL_any_letters : Value}
    {fL_far_prices : Addr} {odL_far_prices anL_far_prices : Option Addr} {slL_far_prices : Array (Option Value)} {ocL_far_prices kVL_far_prices dcL_far_prices pmL_far_prices cdL_far_prices ctL_far_prices : Value}
    {fL_row_of : Addr} {odL_row_of anL_row_of : Option Addr} {slL_row_of : Array (Option Value)} {ocL_row_of kVL_row_of dcL_row_of pmL_row_of cdL_row_of ctL_row_of : Value}
    {fL_lines : Addr} {odL_lines anL_lines : Option Addr} {slL_lines : Array (Option Value)} {ocL_lines kVL_lines dcL_lines pmL_lines cdL_lines ctL_lines : Value}
    {fL_begin : Addr} {odL_begin anL_begin : Option Addr} {slL_begin : Array (Option Value)} {ocL_begin kVL_begin dcL_begin pmL_begin cdL_begin ctL_begin : Value}
    {fL_take : Addr} {odL_take anL_take : Option Addr} {slL_take : Array (Option Value)} {ocL_take kVL_take dcL_take pmL_take cdL_take ctL_take : Value}
    {fL_wide : Addr} {odL_wide anL_wide : Option Addr} {slL_wide : Array (Option Value)} {ocL_wide kVL_wide dcL_wide pmL_wide cdL_wide ctL_wide : Value}
    {fLaw : Addr} {odLaw anLaw : Option Addr} {slLaw : Array (Option Value)} {ocLaw kVLaw dcLaw pmLaw cdLaw ctLaw : Value}
    (z_abs : PySem.W.nsIn K mainGlobals "abs" = some none)
    (z_all : PySem.W.nsIn K mainGlobals "all" = some none)
    (z_any : PySem.W.nsIn K mainGlobals "any" = some none)
    (z_bool : PySem.W.nsIn K mainGlobals "bool" = some none)
    (z_dict : PySem.W.nsIn K mainGlobals "dict" = some none)
    (z_divmod : PySem.W.nsIn K mainGlobals "divmod" = some none)
    (z_enumerate : PySem.W.nsIn K mainGlobals "enumerate" = some none)
    (z_int : PySem.W.nsIn K mainGlobals "int" = some none)
    (z_isinstance : PySem.W.nsIn K mainGlobals "isinstance" = some none)
    (z_len : PySem.W.nsIn K mainGlobals "len" = some none)
    (z_list : PySem.W.nsIn K mainGlobals "list" = some none)
    (z_max : PySem.W.nsIn K mainGlobals "max" = some none)
    (z_min : PySem.W.nsIn K mainGlobals "min" = some none)
    (z_range : PySem.W.nsIn K mainGlobals "range" = some none)
    (z_repr : PySem.W.nsIn K mainGlobals "repr" = some none)
    (z_set : PySem.W.nsIn K mainGlobals "set" = some none)
    (z_sorted : PySem.W.nsIn K mainGlobals "sorted" = some none)
    (z_str : PySem.W.nsIn K mainGlobals "str" = some none)
    (z_sum : PySem.W.nsIn K mainGlobals "sum" = some none)
    (z_tuple : PySem.W.nsIn K mainGlobals "tuple" = some none)
    (z_zip : PySem.W.nsIn K mainGlobals "zip" = some none)
    (g_LETTERS : PySem.W.nsIn K mainGlobals "LETTERS" = some (some (.str "abcdefghijklmnopqrstuvwxyz" tkLETTERS)))
    (g_LONGEST : PySem.W.nsIn K mainGlobals "LONGEST" = some (some (.int 5 tkLONGEST)))
    (g_DEAREST : PySem.W.nsIn K mainGlobals "DEAREST" = some (some (.int 9 tkDEAREST)))
    (g_MOST_WORDS : PySem.W.nsIn K mainGlobals "MOST_WORDS" = some (some (.int 4 tkMOST_WORDS)))
    (g_DEAREST_OWN : PySem.W.nsIn K mainGlobals "DEAREST_OWN" = some (some (.int 999 tkDEAREST_OWN)))
    (g_DIGITS : PySem.W.nsIn K mainGlobals "DIGITS" = some (some (.str "0123456789" tkDIGITS)))
    (ais_integer : PySem.W.nsIn K mainGlobals "is_integer" = some (some (.ref fis_integer)))
    (lis_integer : K.lookup fis_integer = some ⟨ocis_integer, odis_integer, .func (PySem.W.fnOf "is_integer" "is_integer" (defArgs s_is_integer) (defBody s_is_integer) (defScope s_is_integer) .none kVis_integer dcis_integer pmis_integer anis_integer cdis_integer ctis_integer), slis_integer⟩)
    (cis_integer : PySem.W.codeIn K cdis_integer "is_integer" = true)
    (kis_integer : PySem.W.keepIn K (.ref fis_integer) = true)
    (ais_text : PySem.W.nsIn K mainGlobals "is_text" = some (some (.ref fis_text)))
    (lis_text : K.lookup fis_text = some ⟨ocis_text, odis_text, .func (PySem.W.fnOf "is_text" "is_text" (defArgs s_is_text) (defBody s_is_text) (defScope s_is_text) .none kVis_text dcis_text pmis_text anis_text cdis_text ctis_text), slis_text⟩)
    (cis_text : PySem.W.codeIn K cdis_text "is_text" = true)
    (kis_text : PySem.W.keepIn K (.ref fis_text) = true)
    (ais_word : PySem.W.nsIn K mainGlobals "is_word" = some (some (.ref fis_word)))
    (lis_word : K.lookup fis_word = some ⟨ocis_word, odis_word, .func (PySem.W.fnOf "is_word" "is_word" (defArgs s_is_word) (defBody s_is_word) (defScope s_is_word) .none kVis_word dcis_word pmis_word anis_word cdis_word ctis_word), slis_word⟩)
    (cis_word : PySem.W.codeIn K cdis_word "is_word" = true)
    (kis_word : PySem.W.keepIn K (.ref fis_word) = true)
    (ais_price : PySem.W.nsIn K mainGlobals "is_price" = some (some (.ref fis_price)))
    (lis_price : K.lookup fis_price = some ⟨ocis_price, odis_price, .func (PySem.W.fnOf "is_price" "is_price" (defArgs s_is_price) (defBody s_is_price) (defScope s_is_price) .none kVis_price dcis_price pmis_price anis_price cdis_price ctis_price), slis_price⟩)
    (cis_price : PySem.W.codeIn K cdis_price "is_price" = true)
    (kis_price : PySem.W.keepIn K (.ref fis_price) = true)
    (aneed_text : PySem.W.nsIn K mainGlobals "need_text" = some (some (.ref fneed_text)))
    (lneed_text : K.lookup fneed_text = some ⟨ocneed_text, odneed_text, .func (PySem.W.fnOf "need_text" "need_text" (defArgs s_need_text) (defBody s_need_text) (defScope s_need_text) .none kVneed_text dcneed_text pmneed_text anneed_text cdneed_text ctneed_text), slneed_text⟩)
    (cneed_text : PySem.W.codeIn K cdneed_text "need_text" = true)
    (kneed_text : PySem.W.keepIn K (.ref fneed_text) = true)
    (aCSlips : PySem.W.nsIn K mainGlobals "Slips" = some (some (.ref CSlips)))
    (pgSlips : PySem.W.plainGet K CSlips Str.empty = true)
    (hdSlips : PySem.W.hasDictIn K CSlips = true)
    (poSlips : PySem.W.plainOver K CSlips = true)
    (saSlips : PySem.W.findIn K (.ref CSlips) "__setattr__" = some (some (.builtin "object.__setattr__")))
    (n_Slips_z_extra : PySem.W.findIn K (.ref CSlips) "z_extra" = some none)
    (n_Slips_z_missing : PySem.W.findIn K (.ref CSlips) "z_missing" = some none)
    (n_Slips_z_wrong : PySem.W.findIn K (.ref CSlips) "z_wrong" = some none)
    (n_Slips_z_swapped : PySem.W.findIn K (.ref CSlips) "z_swapped" = some none)
    (aSI : PySem.W.findIn K (.ref CSlips) "__init__" = some (some (.ref fSI)))
    (lSI : K.lookup fSI = some ⟨ocSI, odSI, .func (PySem.W.fnOf "__init__" "Slips.__init__" (defArgs s_Slips__init_) (defBody s_Slips__init_) (defScope s_Slips__init_) .none kVSI dcSI pmSI anSI cdSI ctSI), slSI⟩)
    (cSI : PySem.W.codeIn K cdSI "Slips.__init__" = true)
    (kSI : PySem.W.keepIn K (.ref fSI) = true)
    (iSI : PySem.W.isFn K (.ref fSI) = true)
    (eSI : kVSI = .ref DSI)
    (w1 : PySem.W.nsIn K DSI "extra" = some (some (.int 1 tkE)))
    (w2 : PySem.W.nsIn K DSI "missing" = some (some (.int 1 tkM)))
    (w3 : PySem.W.nsIn K DSI "wrong" = some (some (.int 1 tkW)))
    (w4 : PySem.W.nsIn K DSI "swapped" = some (some .none))
    (mkSI : PySem.W.makesIn K CSlips = true)
    (kcSI : PySem.W.keepIn K (.ref CSlips) = true)
    (atp_Slips_extra : PySem.W.findIn K (.ref CSlips) "extra" = some (some (.ref qp_Slips_extra)))
    (gtp_Slips_extra : PySem.W.specialIn K (.ref qp_Slips_extra) "__get__" = some (some (.builtin "property.__get__")))
    (tkp_Slips_extra : PySem.W.takesIn K (.ref qp_Slips_extra) = some true)
    (ap_Slips_extra : PySem.W.recIn K qp_Slips_extra "property" = some (.ref fp_Slips_extra :: restp_Slips_extra))
    (lp_Slips_extra : K.lookup fp_Slips_extra = some ⟨ocp_Slips_extra, odp_Slips_extra, .func (PySem.W.fnOf "extra" "Slips.extra" (defArgs s_Slips_extra) (defBody s_Slips_extra) (defScope s_Slips_extra) .none kVp_Slips_extra dcp_Slips_extra pmp_Slips_extra anp_Slips_extra cdp_Slips_extra ctp_Slips_extra), slp_Slips_extra⟩)
    (cp_Slips_extra : PySem.W.codeIn K cdp_Slips_extra "Slips.extra" = true)
    (kp_Slips_extra : PySem.W.keepIn K (.ref fp_Slips_extra) = true)
    (atp_Slips_missing : PySem.W.findIn K (.ref CSlips) "missing" = some (some (.ref qp_Slips_missing)))
    (gtp_Slips_missing : PySem.W.specialIn K (.ref qp_Slips_missing) "__get__" = some (some (.builtin "property.__get__")))
    (tkp_Slips_missing : PySem.W.takesIn K (.ref qp_Slips_missing) = some true)
    (ap_Slips_missing : PySem.W.recIn K qp_Slips_missing "property" = some (.ref fp_Slips_missing :: restp_Slips_missing))
    (lp_Slips_missing : K.lookup fp_Slips_missing = some ⟨ocp_Slips_missing, odp_Slips_missing, .func (PySem.W.fnOf "missing" "Slips.missing" (defArgs s_Slips_missing) (defBody s_Slips_missing) (defScope s_Slips_missing) .none kVp_Slips_missing dcp_Slips_missing pmp_Slips_missing anp_Slips_missing cdp_Slips_missing ctp_Slips_missing), slp_Slips_missing⟩)
    (cp_Slips_missing : PySem.W.codeIn K cdp_Slips_missing "Slips.missing" = true)
    (kp_Slips_missing : PySem.W.keepIn K (.ref fp_Slips_missing) = true)
    (atp_Slips_wrong : PySem.W.findIn K (.ref CSlips) "wrong" = some (some (.ref qp_Slips_wrong)))
    (gtp_Slips_wrong : PySem.W.specialIn K (.ref qp_Slips_wrong) "__get__" = some (some (.builtin "property.__get__")))
    (tkp_Slips_wrong : PySem.W.takesIn K (.ref qp_Slips_wrong) = some true)
    (ap_Slips_wrong : PySem.W.recIn K qp_Slips_wrong "property" = some (.ref fp_Slips_wrong :: restp_Slips_wrong))
    (lp_Slips_wrong : K.lookup fp_Slips_wrong = some ⟨ocp_Slips_wrong, odp_Slips_wrong, .func (PySem.W.fnOf "wrong" "Slips.wrong" (defArgs s_Slips_wrong) (defBody s_Slips_wrong) (defScope s_Slips_wrong) .none kVp_Slips_wrong dcp_Slips_wrong pmp_Slips_wrong anp_Slips_wrong cdp_Slips_wrong ctp_Slips_wrong), slp_Slips_wrong⟩)
    (cp_Slips_wrong : PySem.W.codeIn K cdp_Slips_wrong "Slips.wrong" = true)
    (kp_Slips_wrong : PySem.W.keepIn K (.ref fp_Slips_wrong) = true)
    (atp_Slips_swapped : PySem.W.findIn K (.ref CSlips) "swapped" = some (some (.ref qp_Slips_swapped)))
    (gtp_Slips_swapped : PySem.W.specialIn K (.ref qp_Slips_swapped) "__get__" = some (some (.builtin "property.__get__")))
    (tkp_Slips_swapped : PySem.W.takesIn K (.ref qp_Slips_swapped) = some true)
    (ap_Slips_swapped : PySem.W.recIn K qp_Slips_swapped "property" = some (.ref fp_Slips_swapped :: restp_Slips_swapped))
    (lp_Slips_swapped : K.lookup fp_Slips_swapped = some ⟨ocp_Slips_swapped, odp_Slips_swapped, .func (PySem.W.fnOf "swapped" "Slips.swapped" (defArgs s_Slips_swapped) (defBody s_Slips_swapped) (defScope s_Slips_swapped) .none kVp_Slips_swapped dcp_Slips_swapped pmp_Slips_swapped anp_Slips_swapped cdp_Slips_swapped ctp_Slips_swapped), slp_Slips_swapped⟩)
    (cp_Slips_swapped : PySem.W.codeIn K cdp_Slips_swapped "Slips.swapped" = true)
    (kp_Slips_swapped : PySem.W.keepIn K (.ref fp_Slips_swapped) = true)
    (am_Slips__eq_ : PySem.W.findIn K (.ref CSlips) "__eq__" = some (some (.ref fm_Slips__eq_)))
    (lm_Slips__eq_ : K.lookup fm_Slips__eq_ = some ⟨ocm_Slips__eq_, odm_Slips__eq_, .func (PySem.W.fnOf "__eq__" "Slips.__eq__" (defArgs s_Slips__eq_) (defBody s_Slips__eq_) (defScope s_Slips__eq_) .none kVm_Slips__eq_ dcm_Slips__eq_ pmm_Slips__eq_ anm_Slips__eq_ cdm_Slips__eq_ ctm_Slips__eq_), slm_Slips__eq_⟩)
    (cm_Slips__eq_ : PySem.W.codeIn K cdm_Slips__eq_ "Slips.__eq__" = true)
    (km_Slips__eq_ : PySem.W.keepIn K (.ref fm_Slips__eq_) = true)
    (im_Slips__eq_ : PySem.W.isFn K (.ref fm_Slips__eq_) = true)
    (hm_Slips__eq_ : PySem.W.fnIn K fm_Slips__eq_ = true)
    (ais_own : PySem.W.nsIn K mainGlobals "is_own" = some (some (.ref fis_own)))
    (lis_own : K.lookup fis_own = some ⟨ocis_own, odis_own, .func (PySem.W.fnOf "is_own" "is_own" (defArgs s_is_own) (defBody s_is_own) (defScope s_is_own) .none kVis_own dcis_own pmis_own anis_own cdis_own ctis_own), slis_own⟩)
    (cis_own : PySem.W.codeIn K cdis_own "is_own" = true)
    (kis_own : PySem.W.keepIn K (.ref fis_own) = true)
    (ais_entry : PySem.W.nsIn K mainGlobals "is_entry" = some (some (.ref fis_entry)))
    (lis_entry : K.lookup fis_entry = some ⟨ocis_entry, odis_entry, .func (PySem.W.fnOf "is_entry" "is_entry" (defArgs s_is_entry) (defBody s_is_entry) (defScope s_is_entry) .none kVis_entry dcis_entry pmis_entry anis_entry cdis_entry ctis_entry), slis_entry⟩)
    (cis_entry : PySem.W.codeIn K cdis_entry "is_entry" = true)
    (kis_entry : PySem.W.keepIn K (.ref fis_entry) = true)
    (aneed_entries : PySem.W.nsIn K mainGlobals "need_entries" = some (some (.ref fneed_entries)))
    (lneed_entries : K.lookup fneed_entries = some ⟨ocneed_entries, odneed_entries, .func (PySem.W.fnOf "need_entries" "need_entries" (defArgs s_need_entries) (defBody s_need_entries) (defScope s_need_entries) .none kVneed_entries dcneed_entries pmneed_entries anneed_entries cdneed_entries ctneed_entries), slneed_entries⟩)
    (cneed_entries : PySem.W.codeIn K cdneed_entries "need_entries" = true)
    (kneed_entries : PySem.W.keepIn K (.ref fneed_entries) = true)
    (aCSpeller : PySem.W.nsIn K mainGlobals "Speller" = some (some (.ref CSpeller)))
    (pgSpeller : PySem.W.plainGet K CSpeller Str.empty = true)
    (hdSpeller : PySem.W.hasDictIn K CSpeller = true)
    (poSpeller : PySem.W.plainOver K CSpeller = true)
    (saSpeller : PySem.W.findIn K (.ref CSpeller) "__setattr__" = some (some (.builtin "object.__setattr__")))
    (n_Speller_e_entries : PySem.W.findIn K (.ref CSpeller) "e_entries" = some none)
    (n_Speller_e_slips : PySem.W.findIn K (.ref CSpeller) "e_slips" = some none)
    (aPI : PySem.W.findIn K (.ref CSpeller) "__init__" = some (some (.ref fPI)))
    (lPI : K.lookup fPI = some ⟨ocPI, odPI, .func (PySem.W.fnOf "__init__" "Speller.__init__" (defArgs s_Speller__init_) (defBody s_Speller__init_) (defScope s_Speller__init_) dVPI kVPI dcPI pmPI anPI cdPI ctPI), slPI⟩)
    (cPI : PySem.W.codeIn K cdPI "Speller.__init__" = true)
    (kPI : PySem.W.keepIn K (.ref fPI) = true)
    (iPI : PySem.W.isFn K (.ref fPI) = true)
    (ePI : dVPI = .ref TPI)
    (tPI : K.lookup TPI = some ⟨ocT, odT, .seq #[.none] nTPI, slT⟩)
    (mkPI : PySem.W.makesIn K CSpeller = true)
    (kcPI : PySem.W.keepIn K (.ref CSpeller) = true)
    (atp_Speller_entries : PySem.W.findIn K (.ref CSpeller) "entries" = some (some (.ref qp_Speller_entries)))
    (gtp_Speller_entries : PySem.W.specialIn K (.ref qp_Speller_entries) "__get__" = some (some (.builtin "property.__get__")))
    (tkp_Speller_entries : PySem.W.takesIn K (.ref qp_Speller_entries) = some true)
    (ap_Speller_entries : PySem.W.recIn K qp_Speller_entries "property" = some (.ref fp_Speller_entries :: restp_Speller_entries))
    (lp_Speller_entries : K.lookup fp_Speller_entries = some ⟨ocp_Speller_entries, odp_Speller_entries, .func (PySem.W.fnOf "entries" "Speller.entries" (defArgs s_Speller_entries) (defBody s_Speller_entries) (defScope s_Speller_entries) .none kVp_Speller_entries dcp_Speller_entries pmp_Speller_entries anp_Speller_entries cdp_Speller_entries ctp_Speller_entries), slp_Speller_entries⟩)
    (cp_Speller_entries : PySem.W.codeIn K cdp_Speller_entries "Speller.entries" = true)
    (kp_Speller_entries : PySem.W.keepIn K (.ref fp_Speller_entries) = true)
    (atp_Speller_slips : PySem.W.findIn K (.ref CSpeller) "slips" = some (some (.ref qp_Speller_slips)))
    (gtp_Speller_slips : PySem.W.specialIn K (.ref qp_Speller_slips) "__get__" = some (some (.builtin "property.__get__")))
    (tkp_Speller_slips : PySem.W.takesIn K (.ref qp_Speller_slips) = some true)
    (ap_Speller_slips : PySem.W.recIn K qp_Speller_slips "property" = some (.ref fp_Speller_slips :: restp_Speller_slips))
    (lp_Speller_slips : K.lookup fp_Speller_slips = some ⟨ocp_Speller_slips, odp_Speller_slips, .func (PySem.W.fnOf "slips" "Speller.slips" (defArgs s_Speller_slips) (defBody s_Speller_slips) (defScope s_Speller_slips) .none kVp_Speller_slips dcp_Speller_slips pmp_Speller_slips anp_Speller_slips cdp_Speller_slips ctp_Speller_slips), slp_Speller_slips⟩)
    (cp_Speller_slips : PySem.W.codeIn K cdp_Speller_slips "Speller.slips" = true)
    (kp_Speller_slips : PySem.W.keepIn K (.ref fp_Speller_slips) = true)
    (am_Speller__eq_ : PySem.W.findIn K (.ref CSpeller) "__eq__" = some (some (.ref fm_Speller__eq_)))
    (lm_Speller__eq_ : K.lookup fm_Speller__eq_ = some ⟨ocm_Speller__eq_, odm_Speller__eq_, .func (PySem.W.fnOf "__eq__" "Speller.__eq__" (defArgs s_Speller__eq_) (defBody s_Speller__eq_) (defScope s_Speller__eq_) .none kVm_Speller__eq_ dcm_Speller__eq_ pmm_Speller__eq_ anm_Speller__eq_ cdm_Speller__eq_ ctm_Speller__eq_), slm_Speller__eq_⟩)
    (cm_Speller__eq_ : PySem.W.codeIn K cdm_Speller__eq_ "Speller.__eq__" = true)
    (km_Speller__eq_ : PySem.W.keepIn K (.ref fm_Speller__eq_) = true)
    (im_Speller__eq_ : PySem.W.isFn K (.ref fm_Speller__eq_) = true)
    (hm_Speller__eq_ : PySem.W.fnIn K fm_Speller__eq_ = true)
    (ais_number : PySem.W.nsIn K mainGlobals "is_number" = some (some (.ref fis_number)))
    (lis_number : K.lookup fis_number = some ⟨ocis_number, odis_number, .func (PySem.W.fnOf "is_number" "is_number" (defArgs s_is_number) (defBody s_is_number) (defScope s_is_number) .none kVis_number dcis_number pmis_number anis_number cdis_number ctis_number), slis_number⟩)
    (cis_number : PySem.W.codeIn K cdis_number "is_number" = true)
    (kis_number : PySem.W.keepIn K (.ref fis_number) = true)
    (ais_line : PySem.W.nsIn K mainGlobals "is_line" = some (some (.ref fis_line)))
    (lis_line : K.lookup fis_line = some ⟨ocis_line, odis_line, .func (PySem.W.fnOf "is_line" "is_line" (defArgs s_is_line) (defBody s_is_line) (defScope s_is_line) .none kVis_line dcis_line pmis_line anis_line cdis_line ctis_line), slis_line⟩)
    (cis_line : PySem.W.codeIn K cdis_line "is_line" = true)
    (kis_line : PySem.W.keepIn K (.ref fis_line) = true)
    (aspeller_text : PySem.W.nsIn K mainGlobals "speller_text" = some (some (.ref fspeller_text)))
    (lspeller_text : K.lookup fspeller_text = some ⟨ocspeller_text, odspeller_text, .func (PySem.W.fnOf "speller_text" "speller_text" (defArgs s_speller_text) (defBody s_speller_text) (defScope s_speller_text) .none kVspeller_text dcspeller_text pmspeller_text anspeller_text cdspeller_text ctspeller_text), slspeller_text⟩)
    (cspeller_text : PySem.W.codeIn K cdspeller_text "speller_text" = true)
    (kspeller_text : PySem.W.keepIn K (.ref fspeller_text) = true)
    (aslips_of : PySem.W.nsIn K mainGlobals "slips_of" = some (some (.ref fslips_of)))
    (lslips_of : K.lookup fslips_of = some ⟨ocslips_of, odslips_of, .func (PySem.W.fnOf "slips_of" "slips_of" (defArgs s_slips_of) (defBody s_slips_of) (defScope s_slips_of) .none kVslips_of dcslips_of pmslips_of anslips_of cdslips_of ctslips_of), slslips_of⟩)
    (cslips_of : PySem.W.codeIn K cdslips_of "slips_of" = true)
    (kslips_of : PySem.W.keepIn K (.ref fslips_of) = true)
    (aread_speller : PySem.W.nsIn K mainGlobals "read_speller" = some (some (.ref fread_speller)))
    (lread_speller : K.lookup fread_speller = some ⟨ocread_speller, odread_speller, .func (PySem.W.fnOf "read_speller" "read_speller" (defArgs s_read_speller) (defBody s_read_speller) (defScope s_read_speller) .none kVread_speller dcread_speller pmread_speller anread_speller cdread_speller ctread_speller), slread_speller⟩)
    (cread_speller : PySem.W.codeIn K cdread_speller "read_speller" = true)
    (kread_speller : PySem.W.keepIn K (.ref fread_speller) = true)
    (aL_pick : PySem.W.nsIn K mainGlobals "_law_pick" = some (some (.ref fL_pick)))
    (lL_pick : K.lookup fL_pick = some ⟨ocL_pick, odL_pick, .func (PySem.W.fnOf "_law_pick" "_law_pick" (defArgs s_L_pick) (defBody s_L_pick) (defScope s_L_pick) .none kVL_pick dcL_pick pmL_pick anL_pick cdL_pick ctL_pick), slL_pick⟩)
    (cL_pick : PySem.W.codeIn K cdL_pick "_law_pick" = true)
    (kL_pick : PySem.W.keepIn K (.ref fL_pick) = true)
    (aL_slips : PySem.W.nsIn K mainGlobals "_law_slips" = some (some (.ref fL_slips)))
    (lL_slips : K.lookup fL_slips = some ⟨ocL_slips, odL_slips, .func (PySem.W.fnOf "_law_slips" "_law_slips" (defArgs s_L_slips) (defBody s_L_slips) (defScope s_L_slips) .none kVL_slips dcL_slips pmL_slips anL_slips cdL_slips ctL_slips), slL_slips⟩)
    (cL_slips : PySem.W.codeIn K cdL_slips "_law_slips" = true)
    (kL_slips : PySem.W.keepIn K (.ref fL_slips) = true)
    (aL_speller : PySem.W.nsIn K mainGlobals "_law_speller" = some (some (.ref fL_speller)))
    (lL_speller : K.lookup fL_speller = some ⟨ocL_speller, odL_speller, .func (PySem.W.fnOf "_law_speller" "_law_speller" (defArgs s_L_speller) (defBody s_L_speller) (defScope s_L_speller) .none kVL_speller dcL_speller pmL_speller anL_speller cdL_speller ctL_speller), slL_speller⟩)
    (cL_speller : PySem.W.codeIn K cdL_speller "_law_speller" = true)
    (kL_speller : PySem.W.keepIn K (.ref fL_speller) = true)
    (aL_any_letters : PySem.W.nsIn K mainGlobals "_law_any_letters" = some (some (.ref fL_any_letters)))
    (lL_any_letters : K.lookup fL_any_letters = some ⟨ocL_any_letters, odL_any_letters, .func (PySem.W.fnOf "_law_any_letters" "_law_any_letters" (defArgs s_L_any_letters) (defBody s_L_any_letters) (defScope s_L_any_letters) .none kVL_any_letters dcL_any_letters pmL_any_letters anL_any_letters cdL_any_letters ctL_any_letters), slL_any_letters⟩)
    (cL_any_letters : PySem.W.codeIn K cdL_any_letters "_law_any_letters" = true)
    (kL_any_letters : PySem.W.keepIn K (.ref fL_any_letters) = true)
    (aL_far_prices : PySem.W.nsIn K mainGlobals "_law_far_prices" = some (some (.ref fL_far_prices)))
    (lL_far_prices : K.lookup fL_far_prices = some ⟨ocL_far_prices, odL_far_prices, .func (PySem.W.fnOf "_law_far_prices" "_law_far_prices" (defArgs s_L_far_prices) (defBody s_L_far_prices) (defScope s_L_far_prices) .none kVL_far_prices dcL_far_prices pmL_far_prices anL_far_prices cdL_far_prices ctL_far_prices), slL_far_prices⟩)
    (cL_far_prices : PySem.W.codeIn K cdL_far_prices "_law_far_prices" = true)
    (kL_far_prices : PySem.W.keepIn K (.ref fL_far_prices) = true)
    (aL_row_of : PySem.W.nsIn K mainGlobals "_law_row_of" = some (some (.ref fL_row_of)))
    (lL_row_of : K.lookup fL_row_of = some ⟨ocL_row_of, odL_row_of, .func (PySem.W.fnOf "_law_row_of" "_law_row_of" (defArgs s_L_row_of) (defBody s_L_row_of) (defScope s_L_row_of) .none kVL_row_of dcL_row_of pmL_row_of anL_row_of cdL_row_of ctL_row_of), slL_row_of⟩)
    (cL_row_of : PySem.W.codeIn K cdL_row_of "_law_row_of" = true)
    (kL_row_of : PySem.W.keepIn K (.ref fL_row_of) = true)
    (aL_lines : PySem.W.nsIn K mainGlobals "_law_lines" = some (some (.ref fL_lines)))
    (lL_lines : K.lookup fL_lines = some ⟨ocL_lines, odL_lines, .func (PySem.W.fnOf "_law_lines" "_law_lines" (defArgs s_L_lines) (defBody s_L_lines) (defScope s_L_lines) .none kVL_lines dcL_lines pmL_lines anL_lines cdL_lines ctL_lines), slL_lines⟩)
    (cL_lines : PySem.W.codeIn K cdL_lines "_law_lines" = true)
    (kL_lines : PySem.W.keepIn K (.ref fL_lines) = true)
    (o1Slips : PySem.W.findIn K (.ref CSlips) "__class__" = some (some (.builtin "object.__class__")))
    (o2Slips : PySem.W.specialIn K (.builtin "object.__class__") "__get__" = some (some (.builtin "getset_descriptor.__get__")))
    (o3Slips : PySem.W.takesIn K (.builtin "object.__class__") = some true)
    (o4Slips : PySem.W.mroIn K CSlips (.type "object") = some true)
    (o5Slips : PySem.W.findIn K (.ref CSlips) "__ne__" = some (some (.builtin "object.__ne__")))
    (o1Speller : PySem.W.findIn K (.ref CSpeller) "__class__" = some (some (.builtin "object.__class__")))
    (o2Speller : PySem.W.specialIn K (.builtin "object.__class__") "__get__" = some (some (.builtin "getset_descriptor.__get__")))
    (o3Speller : PySem.W.takesIn K (.builtin "object.__class__") = some true)
    (o4Speller : PySem.W.mroIn K CSpeller (.type "object") = some true)
    (o5Speller : PySem.W.findIn K (.ref CSpeller) "__ne__" = some (some (.builtin "object.__ne__")))
    (aL_begin : PySem.W.nsIn K mainGlobals "_law_begin" = some (some (.ref fL_begin)))
    (lL_begin : K.lookup fL_begin = some ⟨ocL_begin, odL_begin, .func (PySem.W.fnOf "_law_begin" "_law_begin" (defArgs sBegin) (defBody sBegin) (defScope sBegin) .none kVL_begin dcL_begin pmL_begin anL_begin cdL_begin ctL_begin), slL_begin⟩)
    (cL_begin : PySem.W.codeIn K cdL_begin "_law_begin" = true)
    (kL_begin : PySem.W.keepIn K (.ref fL_begin) = true)
    (aL_take : PySem.W.nsIn K mainGlobals "_law_take" = some (some (.ref fL_take)))
    (lL_take : K.lookup fL_take = some ⟨ocL_take, odL_take, .func (PySem.W.fnOf "_law_take" "_law_take" (defArgs sTake) (defBody sTake) (defScope sTake) .none kVL_take dcL_take pmL_take anL_take cdL_take ctL_take), slL_take⟩)
    (cL_take : PySem.W.codeIn K cdL_take "_law_take" = true)
    (kL_take : PySem.W.keepIn K (.ref fL_take) = true)
    (aL_wide : PySem.W.nsIn K mainGlobals "_law_wide" = some (some (.ref fL_wide)))
    (lL_wide : K.lookup fL_wide = some ⟨ocL_wide, odL_wide, .func (PySem.W.fnOf "_law_wide" "_law_wide" (defArgs sWide) (defBody sWide) (defScope sWide) .none kVL_wide dcL_wide pmL_wide anL_wide cdL_wide ctL_wide), slL_wide⟩)
    (cL_wide : PySem.W.codeIn K cdL_wide "_law_wide" = true)
    (kL_wide : PySem.W.keepIn K (.ref fL_wide) = true)
    (aLaw : PySem.W.nsIn K mainGlobals "law" = some (some (.ref fLaw)))
    (lLaw : K.lookup fLaw = some ⟨ocLaw, odLaw, .func (PySem.W.fnOf "law" "law" (defArgs s_law) (defBody s_law) (defScope s_law) .none kVLaw dcLaw pmLaw anLaw cdLaw ctLaw), slLaw⟩)
    (cLaw : PySem.W.codeIn K cdLaw "law" = true)
    (kLaw : PySem.W.keepIn K (.ref fLaw) = true) :
    ∃ fd : FuncData, (∀ (s : Shared) (v : Value), BindsTo s fd ⟨[v], []⟩ [("_law_script", v)]) ∧ ∀ base : Heap, K.In base → base.Ns mainGlobals mg → FnOk l.prog w K mg base CX0 8 fa fd ["_law_script"] (spLaw K) := by
  have e := hfa.symm.trans (PySem.W.mg_of X G aLaw)
  cases e
  have gCSlips : mg (cn 0) = some (.ref CSlips) := PySem.W.mg_of X G aCSlips
  have clCSlips : Cls K CSlips := ⟨pgSlips, hdSlips, poSlips, saSlips⟩
  have noCSlips : ∀ f ∈ fnm 0, NoAttr K CSlips f := by
    intro f hf
    simp only [fnm, List.mem_cons, List.not_mem_nil, or_false] at hf
    rcases hf with rfl | rfl | rfl | rfl
    · exact n_Slips_z_extra
    · exact n_Slips_z_missing
    · exact n_Slips_z_wrong
    · exact n_Slips_z_swapped
  have FSI : FunD K "__init__" "Slips.__init__" (defArgs s_Slips__init_) (defBody s_Slips__init_) (defScope s_Slips__init_) [] kwS fSI _ := ⟨⟨ocSI, odSI, .none, kVSI, dcSI, pmSI, anSI, cdSI, ctSI, slSI, rfl, lSI, cSI, .inl ⟨rfl, rfl⟩, .inr ⟨DSI, eSI, fun q hq => by
      simp only [kwS, List.mem_cons, List.not_mem_nil, or_false] at hq
      rcases hq with rfl | rfl | rfl | rfl
      · exact ⟨_, w1, ⟨_, rfl⟩⟩
      · exact ⟨_, w2, ⟨_, rfl⟩⟩
      · exact ⟨_, w3, ⟨_, rfl⟩⟩
      · exact ⟨_, w4, rfl⟩⟩⟩, kSI⟩
  obtain ⟨gSI, kbSI⟩ := sl_bind3 FSI
  have gCSpeller : mg (cn 1) = some (.ref CSpeller) := PySem.W.mg_of X G aCSpeller
  have clCSpeller : Cls K CSpeller := ⟨pgSpeller, hdSpeller, poSpeller, saSpeller⟩
  have noCSpeller : ∀ f ∈ fnm 1, NoAttr K CSpeller f := by
    intro f hf
    simp only [fnm, List.mem_cons, List.not_mem_nil, or_false] at hf
    rcases hf with rfl | rfl
    · exact n_Speller_e_entries
    · exact n_Speller_e_slips
  have FPI : FunD K "__init__" "Speller.__init__" (defArgs s_Speller__init_) (defBody s_Speller__init_) (defScope s_Speller__init_) [.non] [] fPI _ := ⟨⟨ocPI, odPI, dVPI, kVPI, dcPI, pmPI, anPI, cdPI, ctPI, slPI, rfl, lPI, cPI, .inr ⟨(by intro z; cases z), TPI, _, [.none], nTPI, ePI, tPI, rfl, .cons rfl .nil⟩, .inl rfl⟩, kPI⟩
  have A : All K mg := {
    B := ⟨PySem.W.mg_none_of X G z_abs, PySem.W.mg_none_of X G z_all, PySem.W.mg_none_of X G z_any, PySem.W.mg_none_of X G z_bool, PySem.W.mg_none_of X G z_dict, PySem.W.mg_none_of X G z_divmod, PySem.W.mg_none_of X G z_enumerate, PySem.W.mg_none_of X G z_int, PySem.W.mg_none_of X G z_isinstance, PySem.W.mg_none_of X G z_len, PySem.W.mg_none_of X G z_list, PySem.W.mg_none_of X G z_max, PySem.W.mg_none_of X G z_min, PySem.W.mg_none_of X G z_range, PySem.W.mg_none_of X G z_repr, PySem.W.mg_none_of X G z_set, PySem.W.mg_none_of X G z_sorted, PySem.W.mg_none_of X G z_str, PySem.W.mg_none_of X G z_sum, PySem.W.mg_none_of X G z_tuple, PySem.W.mg_none_of X G z_zip⟩,
    k_LETTERS := ⟨_, PySem.W.mg_of X G g_LETTERS⟩,
    k_LONGEST := ⟨_, PySem.W.mg_of X G g_LONGEST⟩,
    k_DEAREST := ⟨_, PySem.W.mg_of X G g_DEAREST⟩,
    k_MOST_WORDS := ⟨_, PySem.W.mg_of X G g_MOST_WORDS⟩,
    k_DEAREST_OWN := ⟨_, PySem.W.mg_of X G g_DEAREST_OWN⟩,
    k_DIGITS := ⟨_, PySem.W.mg_of X G g_DIGITS⟩,
    d_is_integer := def3_mk (fun_mk (st := s_is_integer) lis_integer cis_integer kis_integer) (PySem.W.mg_of X G ais_integer) ((fun_mk (st := s_is_integer) lis_integer cis_integer kis_integer).binds (ps := ["thing"]) fun _ _ _ _ _ _ us hl => match us, hl with | [_], _ => rfl) (fun _ _ _ _ _ _ ws hl => match ws, hl with | [_], _ => rfl),
    d_is_text := def3_mk (fun_mk (st := s_is_text) lis_text cis_text kis_text) (PySem.W.mg_of X G ais_text) ((fun_mk (st := s_is_text) lis_text cis_text kis_text).binds (ps := ["thing"]) fun _ _ _ _ _ _ us hl => match us, hl with | [_], _ => rfl) (fun _ _ _ _ _ _ ws hl => match ws, hl with | [_], _ => rfl),
    d_is_word := def3_mk (fun_mk (st := s_is_word) lis_word cis_word kis_word) (PySem.W.mg_of X G ais_word) ((fun_mk (st := s_is_word) lis_word cis_word kis_word).binds (ps := ["thing"]) fun _ _ _ _ _ _ us hl => match us, hl with | [_], _ => rfl) (fun _ _ _ _ _ _ ws hl => match ws, hl with | [_], _ => rfl),
    d_is_price := def3_mk (fun_mk (st := s_is_price) lis_price cis_price kis_price) (PySem.W.mg_of X G ais_price) ((fun_mk (st := s_is_price) lis_price cis_price kis_price).binds (ps := ["thing"]) fun _ _ _ _ _ _ us hl => match us, hl with | [_], _ => rfl) (fun _ _ _ _ _ _ ws hl => match ws, hl with | [_], _ => rfl),
    d_need_text := def3_mk (fun_mk (st := s_need_text) lneed_text cneed_text kneed_text) (PySem.W.mg_of X G aneed_text) ((fun_mk (st := s_need_text) lneed_text cneed_text kneed_text).binds (ps := ["thing"]) fun _ _ _ _ _ _ us hl => match us, hl with | [_], _ => rfl) (fun _ _ _ _ _ _ ws hl => match ws, hl with | [_], _ => rfl),
    i_Slips__init_ := ⟨CSlips, fSI, _, gSI, gCSlips, ⟨mkSI, aSI, iSI, kcSI⟩, FSI, kbSI⟩,
    p_Slips_extra := ⟨CSlips, qp_Slips_extra, fp_Slips_extra, _, gCSlips, ⟨atp_Slips_extra, gtp_Slips_extra, tkp_Slips_extra, ⟨_, ap_Slips_extra⟩⟩, fun_mk (st := s_Slips_extra) lp_Slips_extra cp_Slips_extra kp_Slips_extra, (fun_mk (st := s_Slips_extra) lp_Slips_extra cp_Slips_extra kp_Slips_extra).binds (ps := ["self"]) fun _ _ _ _ _ _ us hl => match us, hl with | [_], _ => rfl⟩,
    p_Slips_missing := ⟨CSlips, qp_Slips_missing, fp_Slips_missing, _, gCSlips, ⟨atp_Slips_missing, gtp_Slips_missing, tkp_Slips_missing, ⟨_, ap_Slips_missing⟩⟩, fun_mk (st := s_Slips_missing) lp_Slips_missing cp_Slips_missing kp_Slips_missing, (fun_mk (st := s_Slips_missing) lp_Slips_missing cp_Slips_missing kp_Slips_missing).binds (ps := ["self"]) fun _ _ _ _ _ _ us hl => match us, hl with | [_], _ => rfl⟩,
    p_Slips_wrong := ⟨CSlips, qp_Slips_wrong, fp_Slips_wrong, _, gCSlips, ⟨atp_Slips_wrong, gtp_Slips_wrong, tkp_Slips_wrong, ⟨_, ap_Slips_wrong⟩⟩, fun_mk (st := s_Slips_wrong) lp_Slips_wrong cp_Slips_wrong kp_Slips_wrong, (fun_mk (st := s_Slips_wrong) lp_Slips_wrong cp_Slips_wrong kp_Slips_wrong).binds (ps := ["self"]) fun _ _ _ _ _ _ us hl => match us, hl with | [_], _ => rfl⟩,
    p_Slips_swapped := ⟨CSlips, qp_Slips_swapped, fp_Slips_swapped, _, gCSlips, ⟨atp_Slips_swapped, gtp_Slips_swapped, tkp_Slips_swapped, ⟨_, ap_Slips_swapped⟩⟩, fun_mk (st := s_Slips_swapped) lp_Slips_swapped cp_Slips_swapped kp_Slips_swapped, (fun_mk (st := s_Slips_swapped) lp_Slips_swapped cp_Slips_swapped kp_Slips_swapped).binds (ps := ["self"]) fun _ _ _ _ _ _ us hl => match us, hl with | [_], _ => rfl⟩,
    m_Slips__eq_ := ⟨CSlips, fm_Slips__eq_, _, gCSlips, ⟨am_Slips__eq_, im_Slips__eq_, km_Slips__eq_⟩, fun_mk (st := s_Slips__eq_) lm_Slips__eq_ cm_Slips__eq_ km_Slips__eq_, ((fun_mk (st := s_Slips__eq_) lm_Slips__eq_ cm_Slips__eq_ km_Slips__eq_).binds (ps := ["self", "other"]) fun _ _ _ _ _ _ us hl => match us, hl with | [_, _], _ => rfl), hm_Slips__eq_⟩,
    d_is_own := def3_mk (fun_mk (st := s_is_own) lis_own cis_own kis_own) (PySem.W.mg_of X G ais_own) ((fun_mk (st := s_is_own) lis_own cis_own kis_own).binds (ps := ["thing"]) fun _ _ _ _ _ _ us hl => match us, hl with | [_], _ => rfl) (fun _ _ _ _ _ _ ws hl => match ws, hl with | [_], _ => rfl),
    d_is_entry := def3_mk (fun_mk (st := s_is_entry) lis_entry cis_entry kis_entry) (PySem.W.mg_of X G ais_entry) ((fun_mk (st := s_is_entry) lis_entry cis_entry kis_entry).binds (ps := ["thing"]) fun _ _ _ _ _ _ us hl => match us, hl with | [_], _ => rfl) (fun _ _ _ _ _ _ ws hl => match ws, hl with | [_], _ => rfl),
    d_need_entries := def3_mk (fun_mk (st := s_need_entries) lneed_entries cneed_entries kneed_entries) (PySem.W.mg_of X G aneed_entries) ((fun_mk (st := s_need_entries) lneed_entries cneed_entries kneed_entries).binds (ps := ["entries"]) fun _ _ _ _ _ _ us hl => match us, hl with | [_], _ => rfl) (fun _ _ _ _ _ _ ws hl => match ws, hl with | [_], _ => rfl),
    i_Speller__init_ := ⟨CSpeller, fPI, _, gCSpeller, ⟨mkPI, aPI, iPI, kcPI⟩, FPI, sp_bind3 FPI⟩,
    p_Speller_entries := ⟨CSpeller, qp_Speller_entries, fp_Speller_entries, _, gCSpeller, ⟨atp_Speller_entries, gtp_Speller_entries, tkp_Speller_entries, ⟨_, ap_Speller_entries⟩⟩, fun_mk (st := s_Speller_entries) lp_Speller_entries cp_Speller_entries kp_Speller_entries, (fun_mk (st := s_Speller_entries) lp_Speller_entries cp_Speller_entries kp_Speller_entries).binds (ps := ["self"]) fun _ _ _ _ _ _ us hl => match us, hl with | [_], _ => rfl⟩,
    p_Speller_slips := ⟨CSpeller, qp_Speller_slips, fp_Speller_slips, _, gCSpeller, ⟨atp_Speller_slips, gtp_Speller_slips, tkp_Speller_slips, ⟨_, ap_Speller_slips⟩⟩, fun_mk (st := s_Speller_slips) lp_Speller_slips cp_Speller_slips kp_Speller_slips, (fun_mk (st := s_Speller_slips) lp_Speller_slips cp_Speller_slips kp_Speller_slips).binds (ps := ["self"]) fun _ _ _ _ _ _ us hl => match us, hl with | [_], _ => rfl⟩,
    m_Speller__eq_ := ⟨CSpeller, fm_Speller__eq_, _, gCSpeller, ⟨am_Speller__eq_, im_Speller__eq_, km_Speller__eq_⟩, fun_mk (st := s_Speller__eq_) lm_Speller__eq_ cm_Speller__eq_ km_Speller__eq_, ((fun_mk (st := s_Speller__eq_) lm_Speller__eq_ cm_Speller__eq_ km_Speller__eq_).binds (ps := ["self", "other"]) fun _ _ _ _ _ _ us hl => match us, hl with | [_, _], _ => rfl), hm_Speller__eq_⟩,
    d_is_number := def3_mk (fun_mk (st := s_is_number) lis_number cis_number kis_number) (PySem.W.mg_of X G ais_number) ((fun_mk (st := s_is_number) lis_number cis_number kis_number).binds (ps := ["word"]) fun _ _ _ _ _ _ us hl => match us, hl with | [_], _ => rfl) (fun _ _ _ _ _ _ ws hl => match ws, hl with | [_], _ => rfl),
    d_is_line := def3_mk (fun_mk (st := s_is_line) lis_line cis_line kis_line) (PySem.W.mg_of X G ais_line) ((fun_mk (st := s_is_line) lis_line cis_line kis_line).binds (ps := ["at", "words"]) fun _ _ _ _ _ _ us hl => match us, hl with | [_, _], _ => rfl) (fun _ _ _ _ _ _ ws hl => match ws, hl with | [_, _], _ => rfl),
    d_speller_text := def3_mk (fun_mk (st := s_speller_text) lspeller_text cspeller_text kspeller_text) (PySem.W.mg_of X G aspeller_text) ((fun_mk (st := s_speller_text) lspeller_text cspeller_text kspeller_text).binds (ps := ["speller"]) fun _ _ _ _ _ _ us hl => match us, hl with | [_], _ => rfl) (fun _ _ _ _ _ _ ws hl => match ws, hl with | [_], _ => rfl),
    d_slips_of := def3_mk (fun_mk (st := s_slips_of) lslips_of cslips_of kslips_of) (PySem.W.mg_of X G aslips_of) ((fun_mk (st := s_slips_of) lslips_of cslips_of kslips_of).binds (ps := ["words"]) fun _ _ _ _ _ _ us hl => match us, hl with | [_], _ => rfl) (fun _ _ _ _ _ _ ws hl => match ws, hl with | [_], _ => rfl),
    d_read_speller := def3_mk (fun_mk (st := s_read_speller) lread_speller cread_speller kread_speller) (PySem.W.mg_of X G aread_speller) ((fun_mk (st := s_read_speller) lread_speller cread_speller kread_speller).binds (ps := ["text"]) fun _ _ _ _ _ _ us hl => match us, hl with | [_], _ => rfl) (fun _ _ _ _ _ _ ws hl => match ws, hl with | [_], _ => rfl),
    d_L_pick := def3_mk (fun_mk (st := s_L_pick) lL_pick cL_pick kL_pick) (PySem.W.mg_of X G aL_pick) ((fun_mk (st := s_L_pick) lL_pick cL_pick kL_pick).binds (ps := ["_law_draw", "_law_some"]) fun _ _ _ _ _ _ us hl => match us, hl with | [_, _], _ => rfl) (fun _ _ _ _ _ _ ws hl => match ws, hl with | [_, _], _ => rfl),
    d_L_slips := def3_mk (fun_mk (st := s_L_slips) lL_slips cL_slips kL_slips) (PySem.W.mg_of X G aL_slips) ((fun_mk (st := s_L_slips) lL_slips cL_slips kL_slips).binds (ps := ["_law_prices"]) fun _ _ _ _ _ _ us hl => match us, hl with | [_], _ => rfl) (fun _ _ _ _ _ _ ws hl => match ws, hl with | [_], _ => rfl),
    d_L_speller := def3_mk (fun_mk (st := s_L_speller) lL_speller cL_speller kL_speller) (PySem.W.mg_of X G aL_speller) ((fun_mk (st := s_L_speller) lL_speller cL_speller kL_speller).binds (ps := ["_law_case"]) fun _ _ _ _ _ _ us hl => match us, hl with | [_], _ => rfl) (fun _ _ _ _ _ _ ws hl => match ws, hl with | [_], _ => rfl),
    d_L_any_letters := def3_mk (fun_mk (st := s_L_any_letters) lL_any_letters cL_any_letters kL_any_letters) (PySem.W.mg_of X G aL_any_letters) ((fun_mk (st := s_L_any_letters) lL_any_letters cL_any_letters kL_any_letters).binds (ps := ["_law_draw", "_law_many"]) fun _ _ _ _ _ _ us hl => match us, hl with | [_, _], _ => rfl) (fun _ _ _ _ _ _ ws hl => match ws, hl with | [_, _], _ => rfl),
    d_L_far_prices := def3_mk (fun_mk (st := s_L_far_prices) lL_far_prices cL_far_prices kL_far_prices) (PySem.W.mg_of X G aL_far_prices) ((fun_mk (st := s_L_far_prices) lL_far_prices cL_far_prices kL_far_prices).binds (ps := ["_law_draw"]) fun _ _ _ _ _ _ us hl => match us, hl with | [_], _ => rfl) (fun _ _ _ _ _ _ ws hl => match ws, hl with | [_], _ => rfl),
    d_L_row_of := def3_mk (fun_mk (st := s_L_row_of) lL_row_of cL_row_of kL_row_of) (PySem.W.mg_of X G aL_row_of) ((fun_mk (st := s_L_row_of) lL_row_of cL_row_of kL_row_of).binds (ps := ["_law_prices"]) fun _ _ _ _ _ _ us hl => match us, hl with | [_], _ => rfl) (fun _ _ _ _ _ _ ws hl => match ws, hl with | [_], _ => rfl),
    d_L_lines := def3_mk (fun_mk (st := s_L_lines) lL_lines cL_lines kL_lines) (PySem.W.mg_of X G aL_lines) ((fun_mk (st := s_L_lines) lL_lines cL_lines kL_lines).binds (ps := ["_law_case"]) fun _ _ _ _ _ _ us hl => match us, hl with | [_], _ => rfl) (fun _ _ _ _ _ _ ws hl => match ws, hl with | [_], _ => rfl),
    cf0 := cf_mk gCSlips clCSlips noCSlips,
    oc0 := oc_mk gCSlips ⟨o1Slips, o2Slips, o3Slips, o4Slips, o5Slips⟩,
    cf1 := cf_mk gCSpeller clCSpeller noCSpeller,
    oc1 := oc_mk gCSpeller ⟨o1Speller, o2Speller, o3Speller, o4Speller, o5Speller⟩,
    d_L_begin := def3_mk (fun_mk (st := sBegin) lL_begin cL_begin kL_begin) (PySem.W.mg_of X G aL_begin) ((fun_mk (st := sBegin) lL_begin cL_begin kL_begin).binds (ps := ["_law_script"]) fun _ _ _ _ _ _ us hl => match us, hl with | [_], _ => rfl) (fun _ _ _ _ _ _ ws hl => match ws, hl with | [_], _ => rfl),
    d_L_take := def3_mk (fun_mk (st := sTake) lL_take cL_take kL_take) (PySem.W.mg_of X G aL_take) ((fun_mk (st := sTake) lL_take cL_take kL_take).binds (ps := ["_law_draw", "_law_size"]) fun _ _ _ _ _ _ us hl => match us, hl with | [_, _], _ => rfl) (fun _ _ _ _ _ _ ws hl => match ws, hl with | [_, _], _ => rfl),
    d_L_wide := def3_mk (fun_mk (st := sWide) lL_wide cL_wide kL_wide) (PySem.W.mg_of X G aL_wide) ((fun_mk (st := sWide) lL_wide cL_wide kL_wide).binds (ps := ["_law_draw"]) fun _ _ _ _ _ _ us hl => match us, hl with | [_], _ => rfl) (fun _ _ _ _ _ _ ws hl => match ws, hl with | [_], _ => rfl) }
  exact ⟨_, fun s v => (.of_eq rfl : BindsTo s (PySem.W.fnOf "law" "law" (defArgs s_law) (defBody s_law) (defScope s_law) .none kVLaw dcLaw pmLaw anLaw cdLaw ctLaw) ⟨[v], []⟩ [("_law_script", v)]), fun base _ _ => c_law A k84_law (fun_mk (st := s_law) lLaw cLaw kLaw)⟩
end G69
open PySem PySem.W PyProof.Rows
set_option maxRecDepth 100000 in
set_option maxHeartbeats 0 in
theorem PySem.Challenge.cw_meantword_k84_texts_of_spellers_holds : PySem.Challenge.rw_meantword_k84_texts_of_spellers.Holds := by
  w_on; o_law; k_head; (case hw => w_witness2)
  k_fill
  refine L2.walk_of (l := PySem.Challenge.rw_meantword_k84_texts_of_spellers) (n := 63) (k := 8) (x := "_law_script") (CX := fun _ => L2.CX0) (sp := fun w => G69.spLaw _) rfl (by decide) rfl ⟨rfl, by decide, by decide⟩ (fun w h Y => PySem.W.kIn_of Y) ?F (fun _ _ a ns hl _ hS => ⟨a, ns, rfl, hS, hl, fun _ => rfl⟩) (fun _ _ _ _ _ h => h)
  case F =>
    intro w mg fa h KX G hmg
    refine' G69.all_mk KX G hmg ?z_abs ?z_all ?z_any ?z_bool ?z_dict ?z_divmod ?z_enumerate ?z_int ?z_isinstance ?z_len ?z_list ?z_max ?z_min ?z_range ?z_repr ?z_set ?z_sorted ?z_str ?z_sum ?z_tuple ?z_zip ?g_LETTERS ?g_LONGEST ?g_DEAREST ?g_MOST_WORDS ?g_DEAREST_OWN ?g_DIGITS ?ais_integer ?lis_integer ?cis_integer ?kis_integer ?ais_text ?lis_text ?cis_text ?kis_text ?ais_word ?lis_word ?cis_word ?kis_word ?ais_price ?lis_price ?cis_price ?kis_price ?aneed_text ?lneed_text ?cneed_text ?kneed_text ?aCSlips ?pgSlips ?hdSlips ?poSlips ?saSlips ?n_Slips_z_extra ?n_Slips_z_missing ?n_Slips_z_wrong ?n_Slips_z_swapped ?aSI ?lSI ?cSI ?kSI ?iSI ?eSI ?w1 ?w2 ?w3 ?w4 ?mkSI ?kcSI ?atp_Slips_extra ?gtp_Slips_extra ?tkp_Slips_extra ?ap_Slips_extra ?lp_Slips_extra ?cp_Slips_extra ?kp_Slips_extra ?atp_Slips_missing ?gtp_Slips_missing ?tkp_Slips_missing ?ap_Slips_missing ?lp_Slips_missing ?cp_Slips_missing ?kp_Slips_missing ?atp_Slips_wrong ?gtp_Slips_wrong ?tkp_Slips_wrong ?ap_Slips_wrong ?lp_Slips_wrong ?cp_Slips_wrong ?kp_Slips_wrong ?atp_Slips_swapped ?gtp_Slips_swapped ?tkp_Slips_swapped ?ap_Slips_swapped ?lp_Slips_swapped ?cp_Slips_swapped ?kp_Slips_swapped ?am_Slips__eq_ ?lm_Slips__eq_ ?cm_Slips__eq_ ?km_Slips__eq_ ?im_Slips__eq_ ?hm_Slips__eq_ ?ais_own ?lis_own ?cis_own ?kis_own ?ais_entry ?lis_entry ?cis_entry ?kis_entry ?aneed_entries ?lneed_entries ?cneed_entries ?kneed_entries ?aCSpeller ?pgSpeller ?hdSpeller ?poSpeller ?saSpeller ?n_Speller_e_entries ?n_Speller_e_slips ?aPI ?lPI ?cPI ?kPI ?iPI ?ePI ?tPI ?mkPI ?kcPI ?atp_Speller_entries ?gtp_Speller_entries ?tkp_Speller_entries ?ap_Speller_entries ?lp_Speller_entries ?cp_Speller_entries ?kp_Speller_entries ?atp_Speller_slips ?gtp_Speller_slips ?tkp_Speller_slips ?ap_Speller_slips ?lp_Speller_slips ?cp_Speller_slips ?kp_Speller_slips ?am_Speller__eq_ ?lm_Speller__eq_ ?cm_Speller__eq_ ?km_Speller__eq_ ?im_Speller__eq_ ?hm_Speller__eq_ ?ais_number ?lis_number ?cis_number ?kis_number ?ais_line ?lis_line ?cis_line ?kis_line ?aspeller_text ?lspeller_text ?cspeller_text ?kspeller_text ?aslips_of ?lslips_of ?cslips_of ?kslips_of ?aread_speller ?lread_speller ?cread_speller ?kread_speller ?aL_pick ?lL_pick ?cL_pick ?kL_pick ?aL_slips ?lL_slips ?cL_slips ?kL_slips ?aL_speller ?lL_speller ?cL_speller ?kL_speller ?aL_any_letters ?lL_any_letters ?cL_any_letters ?kL_any_letters ?aL_far_prices ?lL_far_prices ?cL_far_prices ?kL_far_prices ?aL_row_of ?lL_row_of ?cL_row_of ?kL_row_of ?aL_lines ?lL_lines ?cL_lines ?kL_lines ?o1Slips ?o2Slips ?o3Slips ?o4Slips ?o5Slips ?o1Speller ?o2Speller ?o3Speller ?o4Speller ?o5Speller ?aL_begin ?lL_begin ?cL_begin ?kL_begin ?aL_take ?lL_take ?cL_take ?kL_take ?aL_wide ?lL_wide ?cL_wide ?kL_wide ?aLaw ?lLaw ?cLaw ?kLaw
    (case z_abs => k_is)
    (case z_all => k_is)
    (case z_any => k_is)
    (case z_bool => k_is)
    (case z_dict => k_is)
    (case z_divmod => k_is)
    (case z_enumerate => k_is)
    (case z_int => k_is)
    (case z_isinstance => k_is)
    (case z_len => k_is)
    (case z_list => k_is)
    (case z_max => k_is)
    (case z_min => k_is)
    (case z_range => k_is)
    (case z_repr => k_is)
    (case z_set => k_is)
    (case z_sorted => k_is)
    (case z_str => k_is)
    (case z_sum => k_is)
    (case z_tuple => k_is)
    (case z_zip => k_is)
    (case g_LETTERS => k_is)
    (case g_LONGEST => k_is)
    (case g_DEAREST => k_is)
    (case g_MOST_WORDS => k_is)
    (case g_DEAREST_OWN => k_is)
    (case g_DIGITS => k_is)
    (case ais_integer => k_is)
    (case lis_integer => k_is)
    (case cis_integer => k_is)
    (case kis_integer => k_is)
    (case ais_text => k_is)
    (case lis_text => k_is)
    (case cis_text => k_is)
    (case kis_text => k_is)
    (case ais_word => k_is)
    (case lis_word => k_is)
    (case cis_word => k_is)
    (case kis_word => k_is)
    (case ais_price => k_is)
    (case lis_price => k_is)
    (case cis_price => k_is)
    (case kis_price => k_is)
    (case aneed_text => k_is)
    (case lneed_text => k_is)
    (case cneed_text => k_is)
    (case kneed_text => k_is)
    (case aCSlips => k_is)
    (case pgSlips => k_is)
    (case hdSlips => k_is)
    (case poSlips => k_is)
    (case saSlips => k_is)
    (case n_Slips_z_extra => k_is)
    (case n_Slips_z_missing => k_is)
    (case n_Slips_z_wrong => k_is)
    (case n_Slips_z_swapped => k_is)
    (case aSI => k_is)
    (case lSI => k_is)
    (case cSI => k_is)
    (case kSI => k_is)
    (case iSI => k_is)
    (case eSI => first | k_is | rfl)
    (case w1 => k_is)
    (case w2 => k_is)
    (case w3 => k_is)
    (case w4 => k_is)
    (case mkSI => k_is)
    (case kcSI => k_is)
    (case atp_Slips_extra => k_is)
    (case gtp_Slips_extra => k_is)
    (case tkp_Slips_extra => k_is)
    (case ap_Slips_extra => k_is)
    (case lp_Slips_extra => k_is)
    (case cp_Slips_extra => k_is)
    (case kp_Slips_extra => k_is)
    (case atp_Slips_missing => k_is)
    (case gtp_Slips_missing => k_is)
    (case tkp_Slips_missing => k_is)
    (case ap_Slips_missing => k_is)
    (case lp_Slips_missing => k_is)
    (case cp_Slips_missing => k_is)
    (case kp_Slips_missing => k_is)
    (case atp_Slips_wrong => k_is)
    (case gtp_Slips_wrong => k_is)
    (case tkp_Slips_wrong => k_is)
    (case ap_Slips_wrong => k_is)
    (case lp_Slips_wrong => k_is)
    (case cp_Slips_wrong => k_is)
    (case kp_Slips_wrong => k_is)
    (case atp_Slips_swapped => k_is)
    (case gtp_Slips_swapped => k_is)
    (case tkp_Slips_swapped => k_is)
    (case ap_Slips_swapped => k_is)
    (case lp_Slips_swapped => k_is)
    (case cp_Slips_swapped => k_is)
    (case kp_Slips_swapped => k_is)
    (case am_Slips__eq_ => k_is)
    (case lm_Slips__eq_ => k_is)
    (case cm_Slips__eq_ => k_is)
    (case km_Slips__eq_ => k_is)
    (case im_Slips__eq_ => k_is)
    (case hm_Slips__eq_ => k_is)
    (case ais_own => k_is)
    (case lis_own => k_is)
    (case cis_own => k_is)
    (case kis_own => k_is)
    (case ais_entry => k_is)
    (case lis_entry => k_is)
    (case cis_entry => k_is)
    (case kis_entry => k_is)
    (case aneed_entries => k_is)
    (case lneed_entries => k_is)
    (case cneed_entries => k_is)
    (case kneed_entries => k_is)
    (case aCSpeller => k_is)
    (case pgSpeller => k_is)
    (case hdSpeller => k_is)
    (case poSpeller => k_is)
    (case saSpeller => k_is)
    (case n_Speller_e_entries => k_is)
    (case n_Speller_e_slips => k_is)
    (case aPI => k_is)
    (case lPI => k_is)
    (case cPI => k_is)
    (case kPI => k_is)
    (case iPI => k_is)
    (case ePI => first | k_is | rfl)
    (case tPI => k_is)
    (case mkPI => k_is)
    (case kcPI => k_is)
    (case atp_Speller_entries => k_is)
    (case gtp_Speller_entries => k_is)
    (case tkp_Speller_entries => k_is)
    (case ap_Speller_entries => k_is)
    (case lp_Speller_entries => k_is)
    (case cp_Speller_entries => k_is)
    (case kp_Speller_entries => k_is)
    (case atp_Speller_slips => k_is)
    (case gtp_Speller_slips => k_is)
    (case tkp_Speller_slips => k_is)
    (case ap_Speller_slips => k_is)
    (case lp_Speller_slips => k_is)
    (case cp_Speller_slips => k_is)
    (case kp_Speller_slips => k_is)
    (case am_Speller__eq_ => k_is)
    (case lm_Speller__eq_ => k_is)
    (case cm_Speller__eq_ => k_is)
    (case km_Speller__eq_ => k_is)
    (case im_Speller__eq_ => k_is)
    (case hm_Speller__eq_ => k_is)
    (case ais_number => k_is)
    (case lis_number => k_is)
    (case cis_number => k_is)
    (case kis_number => k_is)
    (case ais_line => k_is)
    (case lis_line => k_is)
    (case cis_line => k_is)
    (case kis_line => k_is)
    (case aspeller_text => k_is)
    (case lspeller_text => k_is)
    (case cspeller_text => k_is)
    (case kspeller_text => k_is)
    (case aslips_of => k_is)
    (case lslips_of => k_is)
    (case cslips_of => k_is)
    (case kslips_of => k_is)
    (case aread_speller => k_is)
    (case lread_speller => k_is)
    (case cread_speller => k_is)
    (case kread_speller => k_is)
    (case aL_pick => k_is)
    (case lL_pick => k_is)
    (case cL_pick => k_is)
    (case kL_pick => k_is)
    (case aL_slips => k_is)
    (case lL_slips => k_is)
    (case cL_slips => k_is)
    (case kL_slips => k_is)
    (case aL_speller => k_is)
    (case lL_speller => k_is)
    (case cL_speller => k_is)
    (case kL_speller => k_is)
    (case aL_any_letters => k_is)
    (case lL_any_letters => k_is)
    (case cL_any_letters => k_is)
    (case kL_any_letters => k_is)
    (case aL_far_prices => k_is)
    (case lL_far_prices => k_is)
    (case cL_far_prices => k_is)
    (case kL_far_prices => k_is)
    (case aL_row_of => k_is)
    (case lL_row_of => k_is)
    (case cL_row_of => k_is)
    (case kL_row_of => k_is)
    (case aL_lines => k_is)
    (case lL_lines => k_is)
    (case cL_lines => k_is)
    (case kL_lines => k_is)
    (case o1Slips => k_is)
    (case o2Slips => k_is)
    (case o3Slips => k_is)
    (case o4Slips => k_is)
    (case o5Slips => k_is)
    (case o1Speller => k_is)
    (case o2Speller => k_is)
    (case o3Speller => k_is)
    (case o4Speller => k_is)
    (case o5Speller => k_is)
    (case aL_begin => k_is)
    (case lL_begin => k_is)
    (case cL_begin => k_is)
    (case kL_begin => k_is)
    (case aL_take => k_is)
    (case lL_take => k_is)
    (case cL_take => k_is)
    (case kL_take => k_is)
    (case aL_wide => k_is)
    (case lL_wide => k_is)
    (case cL_wide => k_is)
    (case kL_wide => k_is)
    (case aLaw => k_is)
    (case lLaw => k_is)
    (case cLaw => k_is)
    (case kLaw => k_is)
