import PyProof.Rows.All
import Wide.All
import OpenK.AllK
import Wide.FinOn
import HandS.ForMost
import HandS.ForExc
import HandS.EndBits
import HandS.MakeKwOnly
import HandS.Property
import HandS.Style
import HandS.StrMore
import HandS.IsInst
import HandS.Flow
import HandS.Small
import HandS.RaiseMore
import HandS.NoneIn
import HandS.DictTup
import HandS.CallSlots
import HandS.ExcSuper
import HandS.Codes
import HandS.Walk
import HandS.Replace
import KE.SortData
import KE.GoesEnum
import KE.DataMinMax
import PyProof.Rows.SortWalk
import PySem.Challenge.RW_meantword_k14_whole_every_short_text
set_option Elab.async false
set_option linter.all false
set_option maxRecDepth 100000
set_option maxHeartbeats 4000000
namespace G69
open PySem PySem.Spec PyProof.Rows L2
/-! ### the text by places -/
def topS (i : Nat) : Stmt := PySem.Challenge.pw_meantword_k14_whole_every_short_text.main.body.getD i (.Pass ⟨0, 0, 0, 0⟩)
/-! ### heaps: all but some addresses is kept -/
def Kp (S : List Addr) (H H' : Hp) : Prop := ∀ a o, H a = some o → a ∉ S → H' a = some o
theorem Kp.rfl' {S : List Addr} {H : Hp} : Kp S H H := fun _ _ h _ => h
theorem Kp.trans {S : List Addr} {H H1 H2 : Hp} (x : Kp S H H1) (y : Kp S H1 H2) : Kp S H H2 := fun a o h n => y a o (x a o h n) n
theorem Kp.new {S : List Addr} {H : Hp} {p : Addr} {o : HO} (h : H p = none) : Kp S H (upd H p o) := fun a u e _ => by
  rw [upd_ne (ne_of_none e h)]
  exact e
theorem Kp.put {S : List Addr} {H : Hp} {p : Addr} {o : HO} (h : p ∈ S) : Kp S H (upd H p o) := fun a u e n => by
  rw [upd_ne (fun z => n (by rw [z]; exact h))]
  exact e
/-- an address that H does not know may change -/
theorem Kp.mut {S : List Addr} {H H' : Hp} {p : Addr} {o : HO} (x : Kp S H H') (h : H p = none) : Kp S H (upd H' p o) := fun a u e n => by
  rw [upd_ne (ne_of_none e h)]
  exact x a u e n
theorem Kp.mono {S S' : List Addr} {H H' : Hp} (x : Kp S H H') (h : ∀ a ∈ S, a ∈ S') : Kp S' H H' := fun a o e n => x a o e (fun z => n (h a z))
theorem Kp.free {H H' : Hp} {p : Addr} (x : Kp [] H H') (h : H' p = none) : H p = none := by
  cases e : H p with
  | none => rfl
  | some o =>
    have := x p o e (fun z => by cases z)
    rw [h] at this
    cases this
/-- an address that was free and is not among S stays out of what was known -/
theorem Kp.back {S : List Addr} {H H' : Hp} {p : Addr} (x : Kp S H H') (n : p ∉ S) (h : H' p = none) : H p = none := by
  cases e : H p with
  | none => rfl
  | some o =>
    have := x p o e n
    rw [h] at this
    cases this
theorem Kp.rd {S : List Addr} {H H' : Hp} {a : Addr} {u : HO} (x : Kp S H H') (n : a ∉ S) (h : Rd H a u) : Rd H' a u := by
  rcases h with h | ⟨o, h⟩
  · exact .inl (x a _ h n)
  · exact .inr ⟨o, x a _ h n⟩
theorem Kp.l {K : PySem.W.Frag} {S : List Addr} {H H' : Hp} {a : Addr} {xs : List V} (x : Kp S H H') (n : a ∉ S) (h : SqL K H a xs) : SqL K H' a xs := by
  rcases h with h | h
  · exact .inl (x.rd n h)
  · exact .inr h
theorem Kp.t {K : PySem.W.Frag} {S : List Addr} {H H' : Hp} {a : Addr} {xs : List V} (x : Kp S H H') (n : a ∉ S) (h : SqT K H a xs) : SqT K H' a xs := by
  rcases h with h | h
  · exact .inl (x.rd n h)
  · exact .inr h
theorem intAt {ns : List Int} {i : Nat} {x : V} (hi : (ns.map V.int)[i]? = some x) : ∃ z, ns[i]? = some z ∧ x = V.int z := by
  rw [List.getElem?_map] at hi
  cases e : ns[i]? with
  | none => rw [e] at hi; cases hi
  | some z => rw [e] at hi; exact ⟨z, rfl, (Option.some.inj hi).symm⟩
theorem perm_erase {α : Type} : ∀ (l : List α) (i : Nat) (h : i < l.length), (l[i] :: l.eraseIdx i).Perm l
  | x :: r, 0, _ => List.Perm.refl _
  | x :: r, i + 1, h => by
    have ih := perm_erase r i (Nat.lt_of_succ_lt_succ h)
    exact (List.Perm.swap _ _ _).trans (List.Perm.cons x ih)
theorem map_erase {α β : Type} (f : α → β) : ∀ (l : List α) (i : Nat), (l.map f).eraseIdx i = (l.eraseIdx i).map f
  | [], _ => rfl
  | x :: r, 0 => rfl
  | x :: r, i + 1 => congrArg (f x :: ·) (map_erase f r i)
theorem notnil {a : Addr} : a ∉ ([] : List Addr) := fun z => by cases z
theorem not1 {a b : Addr} (h : a ≠ b) : a ∉ [b] := fun z => by
  cases z with
  | head => exact h rfl
  | tail _ z => cases z
theorem not2 {a b c : Addr} (h : a ≠ b) (g : a ≠ c) : a ∉ [b, c] := fun z => by
  cases z with
  | head => exact h rfl
  | tail _ z =>
    cases z with
    | head => exact g rfl
    | tail _ z => cases z
/-- fewer than some size is within the line -/
theorem szle {n : Nat} (h : n ≤ 1000000) : n ≤ sizeLine := Nat.le_trans h (by decide)
theorem szlt {n : Nat} (h : n ≤ 1000000) : n < sizeLine := Nat.lt_of_le_of_lt h (by decide)
end G69
namespace G69
open PySem PySem.Spec PyProof.Rows L2
/-! ### the drawing -/
abbrev kLarge : Key := Sum.inr "large"
abbrev kCells : Key := Sum.inr "cells"
abbrev kRest : Key := Sum.inr "rest"
abbrev kTurn : Key := Sum.inr "turn"
abbrev kMix : Key := Sum.inr "mix"
def drawK (l c : Addr) (r t m : Int) : List (Key × V) := [(kLarge, .ref l), (kCells, .ref c), (kRest, .int r), (kTurn, .int t), (kMix, .int m)]
structure DrX (H : Hp) (d l c : Addr) (ls cs : List Int) (r t m : Int) : Prop where
  dd : H d = some (.dK (drawK l c r t m))
  hl : H l = some (.lst (ls.map V.int))
  hc : H c = some (.lst (cs.map V.int))
  ne : l ≠ c
  ll : ls.length ≤ 100
  lc : cs.length ≤ 100
  mm : 0 ≤ m ∧ m < 2147483629
  pr : 0 ≤ r
  pl : ∀ z ∈ ls, 0 ≤ z
def Dr (H : Hp) (d l c : Addr) : Prop := ∃ ls cs r t m, DrX H d l c ls cs r t m
theorem DrX.dl {H : Hp} {d l c : Addr} {ls cs : List Int} {r t m : Int} (x : DrX H d l c ls cs r t m) : d ≠ l := ne_of x.dd x.hl (by intro z; cases z)
theorem DrX.dc {H : Hp} {d l c : Addr} {ls cs : List Int} {r t m : Int} (x : DrX H d l c ls cs r t m) : d ≠ c := ne_of x.dd x.hc (by intro z; cases z)
theorem valRest {l c : Addr} {r t m : Int} : valV (drawK l c r t m) kRest = some (.int r) := by rfl
theorem valLarge {l c : Addr} {r t m : Int} : valV (drawK l c r t m) kLarge = some (.ref l) := by rfl
theorem valCells {l c : Addr} {r t m : Int} : valV (drawK l c r t m) kCells = some (.ref c) := by rfl
theorem valTurn {l c : Addr} {r t m : Int} : valV (drawK l c r t m) kTurn = some (.int t) := by rfl
theorem valMix {l c : Addr} {r t m : Int} : valV (drawK l c r t m) kMix = some (.int m) := by rfl
theorem putRest {l c : Addr} {r t m r' : Int} : putK (drawK l c r t m) kRest (.int r') = drawK l c r' t m := by rfl
theorem putTurn {l c : Addr} {r t m r' : Int} : putK (drawK l c r t m) kTurn (.int r') = drawK l c r r' m := by rfl
theorem putMix {l c : Addr} {r t m r' : Int} : putK (drawK l c r t m) kMix (.int r') = drawK l c r t r' := by rfl
section
variable {H H' : Hp} {d l c p : Addr} {ls cs : List Int} {r t m r' : Int} {o : HO} {S : List Addr}
theorem DrX.new (x : DrX H d l c ls cs r t m) (h : H p = none) : DrX (upd H p o) d l c ls cs r t m :=
  ⟨by rw [upd_ne (ne_of_none x.dd h)]; exact x.dd, by rw [upd_ne (ne_of_none x.hl h)]; exact x.hl, by rw [upd_ne (ne_of_none x.hc h)]; exact x.hc, x.ne, x.ll, x.lc, x.mm, x.pr, x.pl⟩
theorem DrX.upd_d (x : DrX H d l c ls cs r t m) {r' t' m' : Int} (h1 : 0 ≤ r') (h2 : 0 ≤ m' ∧ m' < 2147483629) : DrX (upd H d (.dK (drawK l c r' t' m'))) d l c ls cs r' t' m' :=
  ⟨upd_same, by rw [upd_ne x.dl.symm]; exact x.hl, by rw [upd_ne x.dc.symm]; exact x.hc, x.ne, x.ll, x.lc, h2, h1, x.pl⟩
theorem DrX.upd_l (x : DrX H d l c ls cs r t m) {ls' : List Int} (h1 : ls'.length ≤ 100) (h2 : ∀ z ∈ ls', 0 ≤ z) : DrX (upd H l (.lst (ls'.map V.int))) d l c ls' cs r t m :=
  ⟨by rw [upd_ne x.dl]; exact x.dd, upd_same, by rw [upd_ne x.ne.symm]; exact x.hc, x.ne, h1, x.lc, x.mm, x.pr, h2⟩
theorem DrX.keep (x : DrX H d l c ls cs r t m) (k : Kp S H H') (nd : d ∉ S) (nl : l ∉ S) (nc : c ∉ S) : DrX H' d l c ls cs r t m :=
  ⟨k _ _ x.dd nd, k _ _ x.hl nl, k _ _ x.hc nc, x.ne, x.ll, x.lc, x.mm, x.pr, x.pl⟩
theorem Dr.new (x : Dr H d l c) (h : H p = none) : Dr (upd H p o) d l c := let ⟨ls, cs, r, t, m, x⟩ := x; ⟨ls, cs, r, t, m, x.new h⟩
theorem Dr.keep (x : Dr H d l c) (k : Kp S H H') (nd : d ∉ S) (nl : l ∉ S) (nc : c ∉ S) : Dr H' d l c := let ⟨ls, cs, r, t, m, x⟩ := x; ⟨ls, cs, r, t, m, x.keep k nd nl nc⟩
theorem Dr.nes (x : Dr H d l c) (h : H p = none) : p ≠ d ∧ p ≠ l ∧ p ≠ c := let ⟨_, _, _, _, _, x⟩ := x; ⟨(ne_of_none x.dd h).symm, (ne_of_none x.hl h).symm, (ne_of_none x.hc h).symm⟩
theorem Dr.off (x : Dr H d l c) (h : p ≠ d ∧ p ≠ l ∧ p ≠ c) : Dr (upd H p o) d l c := by
  obtain ⟨ls, cs, r, t, m, x⟩ := x
  exact ⟨ls, cs, r, t, m, by rw [upd_ne h.1.symm]; exact x.dd, by rw [upd_ne h.2.1.symm]; exact x.hl, by rw [upd_ne h.2.2.symm]; exact x.hc, x.ne, x.ll, x.lc, x.mm, x.pr, x.pl⟩
theorem off2 (h : p ≠ d ∧ p ≠ l ∧ p ≠ c) : p ∉ [d, l] := not2 h.1 h.2.1
theorem Dr.keep0 (x : Dr H d l c) (k : Kp [] H H') : Dr H' d l c := x.keep k notnil notnil notnil
end
end G69
namespace G69
open PySem PySem.Spec PyProof.Rows L2
section
variable {P : Program} {w : World} {K : PySem.W.Frag} {mg : Str → Option Value} {base : Heap}
/-! ### data: lists of ints -/
theorem dpInts {H : Hp} : ∀ ns : List Int, DpAll K H (ns.map V.int) (ns.map PyData.int)
  | [] => .nil
  | n :: r => .cons (.int n) (dpInts r)
theorem layInts : ∀ ns : List Int, PyData.canLayAll0 (ns.map PyData.int) = true
  | [] => by simp only [List.map_nil, PyData.canLayAll0]
  | n :: r => by simp only [List.map_cons, PyData.canLayAll0, PyData.canLay0, layInts r, Bool.and_self]
theorem depthInts : ∀ ns : List Int, PyData.depthAll (ns.map PyData.int) = 0
  | [] => by simp only [List.map_nil, PyData.depthAll]
  | n :: r => by simp only [List.map_cons, PyData.depthAll, PyData.depth, depthInts r, Nat.max_self]
theorem shapedInts (ns : List Int) : SeqAt.shaped (.list (ns.map PyData.int)) = true := by
  unfold SeqAt.shaped
  simp only [PyData.canLay0, layInts, PyData.depth, depthInts]
  decide
theorem eqvNil (ns : List Int) : PyData.eqv (.list (ns.map PyData.int)) (.list []) = ns.isEmpty := by
  cases ns with
  | nil => simp only [List.map_nil, PyData.eqv, PyData.eqvAll, List.isEmpty_nil]
  | cons n r => simp only [List.map_cons, PyData.eqv, PyData.eqvAll, List.isEmpty_cons]
theorem seq0 (x : Int) (xs : List Int) : seqIndex? 0 (List.map V.int (x :: xs)).length = some 0 := by
  rw [List.length_map, List.length_cons]
  have h : (0 : Int) < ((xs.length + 1 : Nat) : Int) := by omega
  simp [seqIndex?, h]
/-! ### _law_take -/
abbrev sTake : Stmt := topS 41
theorem scTake : FnScope ["_law_draw", "_law_size", "_law_found", "_law_cell"] ["_law_draw", "_law_size"] (defScope sTake) := ⟨rfl, rfl, rfl, by decide +kernel, rfl, by decide +kernel, by decide +kernel⟩
def spTake : Sp := fun vs H Q _ => ∃ (d l c : Addr) (n : Int), vs = [.ref d, .int n] ∧ Dr H d l c ∧ 0 < n ∧ n < 1073741824 ∧
  ∀ (r : Int) (H' : Hp), 0 ≤ r → r < n → Dr H' d l c → Kp [d, l] H H' → Q (.int r) H'
set_option maxHeartbeats 1000000 in
theorem ok_take {f : Addr} {fd : FuncData} {k : Nat} (F : Fun K "_law_take" "_law_take" sTake f fd) (mI : mg "int" = none) (mD : mg "divmod" = none) :
    FnOk P w K mg base CX0 (k + 1) f fd ["_law_draw", "_law_size"] spTake := by
  refine F.ok scTake (fun vs H Q E h => ?_) (fun cdv A outer s H vs Q E hr h => ?_)
  · obtain ⟨d, l, c, n, rfl, _⟩ := h
    rfl
  · obtain ⟨d, l, c, n, rfl, ⟨ls, cs, r, t, m, D⟩, hn0, hn1, q⟩ := h
    have hu := hu_of hr
    refine ⟨_, C8.pss_cut (ps_if (PW.pt (pw_and (pt_cmpR op_eq (pe_dget hu (pv 0) pe_str (fun _ _ => rfl)) pe_int (nomark _))
          (pw_and1 (pt_cmpR (op_neD hr.units) (pe_dget hu (pv 0) pe_str (fun _ _ => rfl)) (pe_lst pa_nil) (nomark _)))))
        (pss_one (ps_dput hu (pv 0) pe_str (pe_bm PySem.F.plainAttrs_list PySem.F.slot_list_pop PySem.F.type_list_pop mt_popAt (pe_dget hu (pv 0) pe_str (fun _ _ => rfl)) (pa_cons pe_int pa_nil)) rfl))
        (pss_one (ps_if (pt_cmpR op_eq (pe_dget hu (pv 0) pe_str (fun _ _ => rfl)) pe_int (nomark _))
          (pss_cons (ps_dput hu (pv 0) pe_str (pe_op op_add (pe_dget hu (pv 0) pe_str (fun _ _ => rfl)) pe_int) rfl)
          (pss_cons (ps_for PassesOwn.never rfl (pi_list (pe_op op_cat (pe_lst (pa_cons (pe_dget hu (pv 0) pe_str (fun _ _ => rfl)) pa_nil)) (pe_dget hu (pv 0) pe_str (fun _ _ => rfl))))
              (pg_name (i := 3) scTake.nd rfl (.inl rfl))
              (pss_one (ps_dput hu (pv 0) pe_str (pe_op op_mod (pe_callTy call_int1 (by rfl) mI (by decide +kernel) (pa_cons (pe_op op_add (pe_op op_add
                (pe_op op_mul (pe_dget hu (pv 0) pe_str (fun _ _ => rfl)) pe_int) (pe_op op_mul (pv 3) pe_int)) pe_int) pa_nil)) pe_int) rfl)))
          (pss_one (ps_dput hu (pv 0) pe_str (pe_op op_mod (pe_callTy call_int1 (by rfl) mI (by decide +kernel) (pa_cons (pe_op op_pow (pe_dget hu (pv 0) pe_str (fun _ _ => rfl)) pe_int) pa_nil)) pe_int) rfl))))
          pss_nil)))
      (pss_cons (ps_asg (pe_callB call_divmod (by rfl) mD (by decide +kernel) (pa_cons (pe_dget hu (pv 0) pe_str (fun _ _ => rfl)) (pa_cons (pv 1) pa_nil)))
          (pg_tup rfl (pgs_cons (pg_sub (pv 0) pe_str (set_dict hu)) (pgs_cons (pg_name (i := 2) scTake.nd rfl (.inl rfl)) pgs_nil))))
        (pss_one (ps_ret (pv 2)))), ?_⟩
    refine ⟨fun σ H2 => ∃ y ls' r' t' m', σ = [some (.ref d), some (.int n), none, y] ∧ DrX H2 d l c ls' cs r' t' m' ∧ Kp [d, l] H H2, ?_, ?_⟩
    · -- rest == 0 and large != []
      refine ⟨_, rfl, d, .int r, rfl, DGet.k (k := kRest) D.dd, rfl, _, rfl, ite2 (fun e => ?_) (fun e => ?_)⟩
      · -- the way with rest = 0
        refine ⟨_, rfl, d, .ref l, rfl, DGet.k (k := kLarge) D.dd, by decide, fun p hp => ?_⟩
        have D1 : DrX (upd H p (.lst [])) d l c ls cs r t m := D.new hp
        have k1 : Kp [d, l] H (upd H p (.lst [])) := Kp.new hp
        refine ⟨_, _, .lst (.inl (.inl D1.hl)) (dpInts ls), .lst (.inl (.inl upd_same)) .nil, shapedInts ls, by decide +kernel, _, rfl, ?_⟩
        rw [eqvNil]
        cases ls with
        | cons x xs =>
          refine iteT ?_
          refine ⟨_, rfl, d, .ref l, rfl, DGet.k (k := kLarge) D1.dd, .inl ⟨rfl, _, .inl (.inl D1.hl)⟩, l, _, 0, 0, .int x, rfl, rfl, D1.hl, by decide, by decide, seq0 _ _, rfl, ?_⟩
          have D2 : DrX (upd (upd H p (.lst [])) l (.lst (xs.map V.int))) d l c xs cs r t m :=
            D1.upd_l (by have := D.ll; rw [List.length_cons] at this; omega) (fun z hz => D.pl z (List.mem_cons_of_mem _ hz))
          refine ⟨_, rfl, d, _, rfl, DPut.k (k := kRest) D2.dd (by show 5 < sizeLine; decide), ?_⟩
          exact ⟨none, xs, x, t, m, rfl, D2.upd_d (D.pl x List.mem_cons_self) D.mm, k1.trans ((Kp.put (by simp)).trans (Kp.put (by simp)))⟩
        | nil =>
          refine iteF ?_
          refine ⟨_, rfl, d, .int r, rfl, DGet.k (k := kRest) D1.dd, rfl, _, rfl, ?_⟩
          rw [e]
          refine iteT ?_
          refine ⟨_, rfl, d, .int t, rfl, DGet.k (k := kTurn) D1.dd, _, _, rfl, rfl, _, rfl, d, _, rfl, DPut.k (k := kTurn) D1.dd (by show 5 < sizeLine; decide), ?_⟩
          have D2 : DrX (upd (upd H p (.lst [])) d (.dK (drawK l c r (t + 1) m))) d l c [] cs r (t + 1) m := D1.upd_d D.pr D.mm
          have k2 : Kp [d, l] H (upd (upd H p (.lst [])) d (.dK (drawK l c r (t + 1) m))) := k1.trans (Kp.put (by simp))
          -- the list that is walked
          refine ⟨_, rfl, d, .int (t + 1), rfl, DGet.k (k := kTurn) D2.dd, szle (by show 1 ≤ 1000000; decide), fun p1 hp1 => ?_⟩
          have D3 := D2.new (o := .lst [.int (t + 1)]) hp1
          have k3 := k2.trans (Kp.new (o := .lst [.int (t + 1)]) hp1)
          refine ⟨_, rfl, d, .ref c, rfl, DGet.k (k := kCells) D3.dd, p1, c, _, _, rfl, rfl, upd_same, D3.hc, ?_, fun p2 hp2 => ?_⟩
          · have := D.lc
            exact szle (by rw [List.length_map]; show 1 + cs.length ≤ 1000000; omega)
          · have D4 := D3.new (o := .lst ([V.int (t + 1)] ++ cs.map V.int)) hp2
            have k4 := k3.trans (Kp.new (o := .lst ([V.int (t + 1)] ++ cs.map V.int)) hp2)
            have nd : p2 ≠ d := (ne_of_none D3.dd hp2).symm
            have e2 : ([V.int (t + 1)] ++ cs.map V.int) = ((t + 1) :: cs).map V.int := rfl
            refine ⟨p2, rfl, ⟨_, .inl (.inl upd_same)⟩, for_list (K := K) (a := p2) (xs := ((t + 1) :: cs).map V.int)
              (fun i σ H5 => ∃ (y : Option V) (m' : Int), σ = [some (.ref d), some (.int n), none, y] ∧ DrX H5 d l c [] cs r (t + 1) m' ∧ Kp [d, l] H H5 ∧ H5 p2 = some (.lst (((t + 1) :: cs).map V.int)))
              ⟨none, m, rfl, D4, k4, upd_same⟩ (fun i σ H5 _ h5 => ?_) ?_ ?_⟩
            · obtain ⟨y, m', rfl, D5, k5, e5⟩ := h5
              exact .inl (.inl e5)
            · rintro i x σ H5 hi ⟨y, m', rfl, D5, k5, e5⟩
              obtain ⟨z, rfl⟩ : ∃ z, x = V.int z := by
                rw [List.getElem?_map] at hi
                cases e : ((t + 1) :: cs)[i]? with
                | none => rw [e] at hi; cases hi
                | some z => rw [e] at hi; exact ⟨z, (Option.some.inj hi).symm⟩
              refine ⟨_, rfl, d, .int m', rfl, DGet.k (k := kMix) D5.dd, _, _, rfl, rfl, .inr ⟨by decide, by decide⟩, _, rfl, _, _, rfl, rfl, .inr ⟨by decide, by decide⟩, _, _, rfl, rfl, _, _, rfl, rfl, .inl ⟨_, rfl, ?_⟩⟩
              refine ⟨_, _, rfl, rfl, (by show (0 : Int) < 2147483629; decide), _, rfl, d, _, rfl, DPut.k (k := kMix) D5.dd (by show 5 < sizeLine; decide), ?_⟩
              exact ⟨_, _, rfl, D5.upd_d D5.pr ⟨Int.emod_nonneg _ (by decide), Int.emod_lt_of_pos _ (by decide)⟩, k5.trans (Kp.put (by simp)), by rw [upd_ne nd]; exact e5⟩
            · rintro σ H5 ⟨y, m', rfl, D5, k5, e5⟩
              refine ⟨_, rfl, d, .int m', rfl, DGet.k (k := kMix) D5.dd, _, _, rfl, rfl, ⟨by decide, by decide, ?_⟩, .inl ⟨_, rfl, ?_⟩⟩
              · have := D5.mm
                omega
              · refine ⟨_, _, rfl, rfl, (by show (0 : Int) < 2305843009213693951; decide), _, rfl, d, _, rfl, DPut.k (k := kRest) D5.dd (by show 5 < sizeLine; decide), ?_⟩
                exact ⟨y, [], _, t + 1, m', rfl, D5.upd_d (Int.emod_nonneg _ (by decide)) D5.mm, k5.trans (Kp.put (by simp))⟩
      · refine iteF ?_
        refine ⟨_, rfl, d, .int r, rfl, DGet.k (k := kRest) D.dd, rfl, _, rfl, ?_⟩
        rw [eq_false_of_ne_true e]
        refine iteF ?_
        exact ⟨none, ls, r, t, m, rfl, D, Kp.rfl'⟩
    · rintro σ' H2 ⟨y, ls', r', t', m', rfl, D2, k2⟩
      have hp2 : ∀ p, H2 p = none → p ≠ d := fun p hp => (ne_of_none D2.dd hp).symm
      refine ⟨_, rfl, d, .int r', rfl, DGet.k (k := kRest) D2.dd, _, rfl, r', n, rfl, ⟨hn0, hn1⟩, fun p hp => ?_⟩
      refine ⟨p, [.int (r' / n), .int (r' % n)], rfl, .inl (.inl upd_same), rfl, _, [.int (r' % n)], rfl, .ref d, rfl, d, _, rfl, DPut.k (k := kRest) (D2.new hp).dd (by show 5 < sizeLine; decide), _, [], rfl, rfl, _, rfl, ?_⟩
      exact q (r' % n) _ (Int.emod_nonneg _ (by omega)) (Int.emod_lt_of_pos _ hn0) ⟨_, _, _, _, _, (D2.new hp).upd_d (Int.ediv_nonneg D2.pr (by omega)) D2.mm⟩ (k2.trans ((Kp.new hp).trans (Kp.put (by simp))))
end
end G69
namespace G69
open PySem PySem.Spec PyProof.Rows L2
/-- a comprehension without a test -/
theorem yes1 {σ : L2.St} {H : Hp} {A B : Hp → Prop} (h : A H) : tYes σ H (fun b H3 => if b = true then A H3 else B H3) := by
  show if true = true then A H else B H
  rw [if_pos rfl]
  exact h
section
variable {X : Cx}
/-! ### own rules of the layer -/
theorem valsSigns {z : Str} {acc : Array Value} (h : ItemsOf (SignAt z) acc z.cps.size) : Vals (z.cps.toList.map fun c => V.str ⟨#[c]⟩) acc.toList := by
  obtain ⟨hl, hi⟩ := h
  have gen : ∀ (cs : List Nat) (us : List Value), cs.length = us.length → (∀ (i : Nat) (u : Value), us[i]? = some u → ∃ c t, cs[i]? = some c ∧ u = Value.str ⟨#[c]⟩ t) → Vals (cs.map fun c => V.str ⟨#[c]⟩) us := by
    intro cs
    induction cs with
    | nil =>
      intro us hlen _
      cases us with
      | nil => exact .nil
      | cons u r => cases hlen
    | cons c r ih =>
      intro us hlen hall
      cases us with
      | nil => cases hlen
      | cons u us =>
        obtain ⟨c', t, e1, e2⟩ := hall 0 u rfl
        have e3 : c = c' := Option.some.inj e1
        subst e3
        exact .cons ⟨t, e2⟩ (ih us (Nat.succ.inj hlen) fun i v hv => hall (i + 1) v hv)
  refine gen _ _ ?_ fun i u hu => ?_
  · rw [Array.length_toList, Array.length_toList, hl]
  · obtain ⟨c, t, e1, e2⟩ := hi i u (by rw [← Array.getElem?_toList]; exact hu)
    exact ⟨c, t, by rw [Array.getElem?_toList]; exact e1, e2⟩
/-- list(text) -/
theorem call_listS (hc : X.calm = true) : CallR X (.type "list") (fun xs H Q => ∃ z : Str, xs = [.str z] ∧ z.length ≤ sizeLine ∧ ∀ l, H l = none → Q (.ref l) (upd H l (.lst (z.cps.toList.map fun c => V.str ⟨#[c]⟩)))) := by
  intro pins s σ H xs us Q I r h
  obtain ⟨z, rfl, hz, q⟩ := h
  obtain ⟨u, rfl, ⟨t, rfl⟩⟩ := vals1 r
  refine call_list_str (I.ok.hd hc) z t (fun h' tk acc' c' kp e it => ?_) hz
  have hr := valsSigns it
  refine ⟨.ref s.heap.objs.size, _, I.laid (t' := tk) kp (Nat.le_refl _) (show ObjOk X.prog X.w _ h' _ (.lst _) from ⟨?_, acc'.toList, c', hr, ?_⟩), rfl, q _ (I.hok.fresh (Nat.le_refl _))⟩
  · rw [List.length_map, Array.length_toList]
    exact hz
  · rw [Array.toArray_toList]
    exact e
/-- the text read backwards -/
def revS (z : Str) : Str := ⟨z.cps.toList.reverse.toArray⟩
theorem revS_list (z : Str) : (revS z).cps.toList = z.cps.toList.reverse := rfl
theorem revS_eq (z : Str) (u : Tok) : Txt.sliceBy z none none (-1, u) = revS z := by
  apply ext_toList
  rw [step_rev_list, revS_list]
  apply List.ext_getElem?
  intro i
  rw [List.getElem?_map]
  have hz : z.length = z.cps.toList.length := by first | rfl | exact (Array.length_toList).symm
  by_cases hi : i < z.length
  · rw [List.getElem?_range hi, List.getElem?_reverse (by omega)]
    show some (z.cps.getD (z.length - 1 - i) 0) = _
    rw [← hz, Array.getElem?_toList, Array.getD_eq_getD_getElem?, Array.getElem?_eq_getElem (show z.length - 1 - i < z.cps.size by show _ < z.length; omega)]
    rfl
  · rw [List.getElem?_eq_none (by rw [List.length_range]; omega), List.getElem?_eq_none (by rw [List.length_reverse]; omega)]
    rfl
theorem revS_length (z : Str) : (revS z).length = z.length := by
  show (z.cps.toList.reverse.toArray).size = z.cps.size
  rw [List.size_toArray, List.length_reverse, Array.length_toList]
def tRevS (te : TE) : TE := fun σ H Q => te σ H fun x H1 => ∃ z : Str, x = .str z ∧ z.length ≤ sizeLine ∧ Q (.str (revS z)) H1
/-- text[::-1] -/
theorem pe_revS {e : Expr} {te : TE} {k : Nat} {p1 p2 p3 pos : Pos} (he : PE X e te) :
    PE X (.Subscript e (.Slice none none (some (.UnaryOp .USub (.Constant (.int 1) k p1) p2)) p3) pos) (tRevS te) := by
  refine ⟨fun pins s σ H Q I h => ?_⟩
  refine Subscript_ (thn (he.run pins s σ H _ I h) fun v s1 ⟨x, H1, I1, r1, z, ex, hz, q⟩ => ?_)
  subst ex
  obtain ⟨t, rfl⟩ := r1
  have hst : PO X (some (.UnaryOp .USub (.Constant (.int 1) k p1) p2)) (tPart (tUn (rU fun i => .int (-i)) (tC (.int 1)))) := po_some (pe_un un_neg pe_int)
  refine wpAny_Slice (thn (po_none.run pins s1 σ H1 (fun o H2 => o = none ∧ H2 = H1) I1 ⟨rfl, rfl⟩) fun vl s2 ⟨l, H2, I2, pl, el, e2⟩ => ?_)
  subst el
  subst e2
  refine thn (po_none.run pins s2 σ H2 (fun o H3 => o = none ∧ H3 = H2) I2 ⟨rfl, rfl⟩) fun vu s3 ⟨u, H3, I3, pu, eu, e3⟩ => ?_
  subst eu
  subst e3
  refine thn (hst.run pins s3 σ H3 (fun o H4 => o = some (-1) ∧ H4 = H3) I3 ⟨1, rfl, -1, rfl, rfl, rfl⟩) fun vs s4 ⟨o, H4, I4, ps, eo, e4⟩ => ?_
  subst eo
  subst e4
  obtain ⟨l', rfl, hl'⟩ := IsPart.raw pl
  obtain ⟨u', rfl, hu'⟩ := IsPart.raw pu
  obtain ⟨s', rfl, hs'⟩ := IsPart.raw ps
  obtain rfl : l' = none := by cases l' with
    | none => rfl
    | some x => cases hl'
  obtain rfl : u' = none := by cases u' with
    | none => rfl
    | some x => cases hu'
  obtain ⟨⟨i, tk⟩, rfl⟩ : ∃ y, s' = some y := by cases s' with
    | none => cases hs'
    | some x => exact ⟨x, rfl⟩
  obtain rfl : i = -1 := Option.some.inj hs'
  have I5 : Inv X pins σ H4 { s4 with heap := s4.heap.push { cls := .type "slice", data := .fields #[partValue none, partValue none, partValue (some (-1, tk))] } } := I4.kept (t' := s4.toks) fun b ob q => Heap.get?_push_of_some _ q
  refine tail_any (ops := [.str z t, .ref s4.heap.objs.size]) (typeIs_str _ z t) (F.slot_str_getitem.lookup) ?_ (by with_unfolding_all rfl)
  refine wpAny_getItem_str_slice (l := none) (u := none) (st := some (-1, tk)) ⟨_, Heap.get?_push_size _ rfl, rfl, rfl⟩ rfl ?_
  have hm : sliceMade z t none none (some (-1, tk)) = Made.str (Txt.sliceBy z none none (-1, tk)) := by rfl
  rw [hm, revS_eq]
  exact ⟨by rw [revS_length]; exact hz, .str _, H4, I5.tok _, ⟨_, rfl⟩, q⟩
/-! in a comprehension's block: the written part by its own name -/
theorem ix_listK {K : PySem.W.Frag} (h : X.K = K) : IxR X (rIxL K) := by
  subst h
  exact ix_list
theorem ix_tupK {K : PySem.W.Frag} (h : X.K = K) : IxR X (rIxT K) := by
  subst h
  exact ix_tup
theorem pe_bmK {K : PySem.W.Frag} {T : String} {name : Str} {id : String} {r : V → List V → Hp → VK → Prop} {o e : Expr} {es : List Expr} {apos cpos : Pos} {to : TE} {t : TA} (hK : X.K = K) (pa : PlainAttrs T) (slot : Slot T name id) (hty : typeOf (.builtin id) = pure (.type "method_descriptor"))
    (hm : MtR X id r) (ho : PE X o to) (ha : PA X (e :: es) t) (hbase : attributeBase o name X.env (eval o X.env) = eval o X.env := by rfl)
    (hfew : ((backTo cpos (starEach (e :: es) X.env)).all (fun x => !x.1) && (backToKw cpos (keywordEach [] X.env)).all (fun x => x.1.isSome) && decide ((e :: es).length + ([] : List Keyword).length + (if ([] : List Keyword).isEmpty then 0 else 1) < 30)) = true := by rfl)
    (hline : (apos.endLine == cpos.line) = true := by rfl) (hs : starEach (e :: es) X.env = (false, eval e X.env) :: starEach es X.env := by rfl) (hplain : (backTo cpos (starEach es X.env)).any (·.1) = false := by rfl) :
    PE X (.Call (.Attribute o name apos) (e :: es) [] cpos) (tBM K T r to t) := by
  subst hK
  exact pe_bm pa slot hty hm ho ha hbase hfew hline hs hplain
end
end G69
namespace G69
open PySem PySem.Spec PyProof.Rows L2
/-! ### enumerate over a tuple -/
abbrev tIt (t : Addr) : Obj := { cls := .type "tuple_iterator", data := .fields #[.ref t, .int 0 0] }
abbrev eOb (i : Addr) : Obj := { cls := .type "enumerate", data := .fields #[.none, .bool false, .ref i, rawInt 0, .none, .none] }
set_option maxHeartbeats 1000000 in
theorem meets_enumT (t : Addr) (its : Array Value) :
    Meets (Builtin.«enumerate.__new__» ⟨[.type "enumerate", .ref t], []⟩) (fun _ R s => s.heap.IsTuple t its ∧
      R (.ok (.ret (.ref (s.heap.push (tIt t)).objs.size))) { s with heap := (s.heap.push (tIt t)).push (eOb s.heap.objs.size) }) :=
  .of_wp fun prog w A R s h => by
    obtain ⟨hp, g, d, tk, os⟩ := s
    obtain ⟨h1, h⟩ := h
    have hsub := sub_enumerate
    have q1 : ∀ {A' : Around} {E : Value → Shared → Prop} {Q : Value → Shared → Prop}, Q (.ref hp.objs.size) ⟨hp.push (tIt t), g, d, tk, os⟩ → wpAny (model prog w) A' (pyIter (.ref t)) Q E ⟨hp, g, d, tk, os⟩ :=
      fun q => (begins_tuple t its).iter prog w _ _ ⟨hp, g, d, tk, os⟩ _ h1 q
    wp_walk using q1
    refine wpAny_stack_any fun st => wpAny_pure ?_
    split
    · rename_i c _ _ _ _ _
      cases (c == Value.type "enumerate") <;> (wp_walk using q1; exact ⟨_, rfl, h⟩)
    · wp_walk using q1
      exact ⟨_, rfl, h⟩
theorem call_enumT {prog : Program} {w : World} {A : Around} {E : Value → Shared → Prop} {s : Shared} {t : Addr} {its : Array Value} {Q : Value → Shared → Prop} (hL : s.heap.IsTuple t its)
    (h : ∀ h', IsEnum h' (s.heap.objs.size + 1) s.heap.objs.size 0 .none → h'.IsTupleIter s.heap.objs.size t 0 → (∀ b o, s.heap.get? b = some o → h'.get? b = some o) → Q (.ref (s.heap.objs.size + 1)) { s with heap := h' }) :
    wpAny (model prog w) A (call (.type "enumerate") [.ref t]) Q E s := by
  refine callType_new F.called_enumerate (by decide) (F.typeCall_enumerate_1 _) (F.newCall_enumerate_1 _) (fun obj => F.args_object_init_2 obj _) F.entry_enumerate_new (meets_enumT t its) ⟨hL, ?_⟩
  have hz : (s.heap.push (tIt t)).objs.size = s.heap.objs.size + 1 := Heap.size_push ..
  show _ ∧ _
  rw [hz]
  have he : IsEnum ((s.heap.push (tIt t)).push (eOb s.heap.objs.size)) (s.heap.objs.size + 1) s.heap.objs.size 0 .none := by
    have := Heap.get?_push_size (s.heap.push (tIt t)) (o := eOb s.heap.objs.size) rfl
    rw [hz] at this
    exact this
  exact ⟨⟨_, he, rfl⟩, h _ he ⟨_, Heap.get?_push_of_some _ (Heap.get?_push_size _ rfl), rfl, rfl⟩ fun b o x => Heap.get?_push_of_some _ (Heap.get?_push_of_some _ x)⟩
theorem next_enumT_end {prog : Program} {w : World} {A : Around} {E : Value → Shared → Prop} {s : Shared} {e it a : Addr} {i : Nat} {c : Int} {its : Array Value} {old : Value} {Q : Option Value → Shared → Prop} (hh : A.handled = none)
    (he : IsEnum s.heap e it c old) (hit : s.heap.IsTupleIter it a i) (ht : s.heap.IsTuple a its) (hx : its[i]? = none) (hQ : ∀ h', Heap.ExtBut it s.heap h' → Q none { s with heap := h' }) : wpAny (model prog w) A (pyNext (.ref e)) Q E s := by
  have hT : s.TypeIs (.ref e) "enumerate" := ⟨_, he, rfl⟩
  unfold pyNext
  refine wpAny_bind (wpAny_attempt (wpAny_callSpecial?_slot (name := Str.ofString "__next__") hT F.slot_enumerate_next (wpAny_call_entry F.slot_enumerate_next hT F.entry_enumerate_next ?_ (F.args_enumerate_next_1 _))))
  show wpAny _ _ (field (.ref e) 2 >>= _) _ _ _
  refine wpAny_bind (wpAny_field he rfl (x := .ref it) rfl ?_)
  refine wpAny_bind (wpAny_nextOf_tuple_end hh hit ht hx fun h' y he' hx' => ?_)
  obtain ⟨o, ho, hc⟩ := hx'
  refine wpAny_bind (wpAny_isInstance (T := "StopIteration") (b := true) ⟨o, ho, hc⟩ isSubtype_stop ?_)
  exact wpAny_pure (hQ _ he')
/-- a tuple as it stands, each item in a new pair with its place -/
def IteT (K : PySem.W.Frag) (a : Addr) : It :=
  ⟨fun i H => ∃ (xs : List V) (x : V), SqT K H a xs ∧ xs[i]? = some x, fun i H v H' => ∃ T x, v = .ref T ∧ H T = none ∧ H' = upd H T (.tup [.int (i : Nat), x]) ∧ ∀ xs, SqT K H a xs → xs[i]? = some x, fun i H => ∃ xs : List V, SqT K H a xs ∧ xs.length ≤ i⟩
theorem turn_enumT {P : Program} {w : World} {K : PySem.W.Frag} {elts : List Expr} {kk : Nat} {tpos : Pos} (a e it : Addr) (hai : a ≠ it) (hae : a ≠ e) :
    Turn P w K (.Tuple elts kk tpos) (IteT K a) [e, it] e (fun i h => (∃ old, IsEnum h e it ((i : Nat) : Int) old) ∧ h.IsTupleIter it a i ∧ e ≠ it) where
  mem := by simp
  obj := fun i h st b hb => by
    obtain ⟨⟨old, he⟩, ⟨o, ho, hc, hd⟩, _⟩ := st
    rcases (by simpa using hb : b = e ∨ b = it) with z | z
    · rw [z]; exact ⟨_, he, fun v q => nomatch q⟩
    · rw [z]; exact ⟨o, ho, fun v q => by rw [hd] at q; cases q⟩
  keep := fun i h h' st k => let ⟨⟨old, he⟩, hi, hne⟩ := st; ⟨⟨old, k e (by simp) _ he⟩, hi.at fun o q => k it (by simp) o q, hne⟩
  item := by
    intro X hP hw hK hc i pins s σ H E I hf st hg
    subst hP hw hK
    obtain ⟨⟨old, he⟩, hit, hne⟩ := st
    obtain ⟨xs, x, hq, hx⟩ := hg
    obtain ⟨its, rv, p, hz⟩ := I.tuple hq
    obtain ⟨u, hu, ru⟩ := rv.get hx
    have hel : e < s.heap.objs.size := Heap.lt_size he
    have hil : it < s.heap.objs.size := by obtain ⟨_, q, _⟩ := hit; exact Heap.lt_size q
    have p' : s.heap.IsTuple a its.toArray := p
    have hlt : i < its.toArray.size := by
      rw [List.size_toArray]
      exact (List.getElem?_eq_some_iff.mp hu).1
    refine wpAny_pyNext_enum_itemD (Draws.tuple (A := X.A.in1) (show X.A.in1.handled = none from I.ok.hd hc) it a hai its.toArray) he ⟨hit, p'⟩ hlt hne (not2 hne hae.symm) fun y h' tk hy ho hst hT hsz hk => ?_
    have ey : y = u := by
      have e1 : its.toArray[i]? = some u := by simpa using hu
      exact Option.some.inj (hy.symm.trans e1)
    subst ey
    refine ⟨_, rfl, wpAny_letOwnedTupleGo_enum (s := { s with heap := h', toks := tk + 1 }) ho fun h'' he' sb => ?_⟩
    have hT2 : h''.get? s.heap.objs.size = some { cls := .type "tuple", data := .seq #[.int i tk, y] } := (sb.2 _ (Nat.ne_of_gt hel)).trans hT
    have new : ObjOk X.prog X.w (upd H s.heap.objs.size (.tup [.int (i : Nat), x])) h'' s.heap.objs.size (.tup [.int (i : Nat), x]) :=
      ⟨by show 2 ≤ sizeLine; decide, [.int i tk, y], .cons ⟨_, rfl⟩ (.cons ru .nil), ⟨_, hT2, rfl, _, rfl⟩⟩
    have I1 : Inv X pins σ (upd H s.heap.objs.size (.tup [.int (i : Nat), x])) { s with heap := h'', toks := tk + 1 } :=
      I.turnedNew (ch := [e, it]) (fun b ob hb q => (sb.2 b (fun z => hb (by simp [z]))).trans (hk b ob (fun z => hb (by simp [z])) (fun z => hb (by simp [z])) q)) hf (Nat.le_refl _) new
    refine ⟨.ref s.heap.objs.size, _, I1, rfl, ⟨_, x, rfl, I.hok.fresh (Nat.le_refl _), rfl, fun ys hys => by rw [I.tuple_inj hys hq]; exact hx⟩, ⟨⟨y, ?_⟩, hst.1.at fun o q => (sb.2 it (Ne.symm hne)).trans q, hne⟩, fun b hb => ?_⟩
    · rw [show ((i + 1 : Nat) : Int) = (i : Int) + 1 by omega]
      exact he'
    · have hb' : b < s.heap.objs.size := by
        rcases (by simpa using hb : b = e ∨ b = it) with z | z
        · rw [z]; exact hel
        · rw [z]; exact hil
      rw [upd_ne (Nat.ne_of_lt hb')]
      exact (hf b hb).1
  done := by
    intro X hP hw hK hc i pins s σ H E I hf st hg
    subst hP hw hK
    obtain ⟨⟨old, he⟩, hit, hne⟩ := st
    obtain ⟨xs, hq, hx⟩ := hg
    obtain ⟨its, rv, p, hz⟩ := I.tuple hq
    obtain ⟨f0, f1, f2, f3, f4, f5⟩ := hf it (by simp)
    have hl := rv.length
    exact next_enumT_end (I.ok.hd hc) he hit (show s.heap.IsTuple a its.toArray from p) (by simp; omega) fun h' eb => ⟨rfl, I.turned (t' := s.toks) (fun b o hb q => eb b o hb q) f0 f1 f3 f4 f5⟩
  self := fun A i s Q E st h => let ⟨⟨_, he⟩, _⟩ := st; wpAny_pyIter_enum he h
def iEnumT (K : PySem.W.Frag) (ta : TA) : TI := fun σ H R => ta σ H fun vs H1 => ∃ a xs, vs = [.ref a] ∧ SqT K H1 a xs ∧ R (IteT K a) H1
theorem pi_enumT {X : Cx} {e : Expr} {ta : TA} {p pos tpos : Pos} {elts : List Expr} {kk : Nat} (hg : Gl X "enumerate") (hm : X.mg "enumerate" = none) (ha : PA X [e] ta) (hs : starEach [e] X.env = [(false, eval e X.env)] := by rfl) :
    PI X (.Tuple elts kk tpos) (.Call (.Name "enumerate" p) [e] [] pos) (iEnumT X.K ta) := by
  refine ⟨fun pins s σ H R I h => ?_⟩
  refine Call_ (ld_blt I hg hm boot_enumerate (PyProof.Rows.callWith_type1 (thn (ha.run pos pins s σ H _ I h) fun us s1 ⟨vs, H1, I1, r1, q1⟩ => ?_) hs rfl))
  obtain ⟨a, xs, ex, hq, q⟩ := q1
  subst ex
  cases r1 with
  | cons r rr =>
    cases rr
    cases r
    obtain ⟨its, rv, p', hz⟩ := I1.tuple hq
    have ht : s1.heap.IsTuple a its.toArray := p'
    have hal : a < s1.heap.objs.size := by
      obtain ⟨_, q, _⟩ := ht
      exact Heap.lt_size q
    refine call_enumT ht fun h' he hit hk => wpAny_pyIter_enum he ?_
    have I2 : Inv X pins σ H1 { s1 with heap := h' } := I1.kept (t' := s1.toks) hk
    refine ⟨s1.heap.objs.size + 1, [s1.heap.objs.size + 1, s1.heap.objs.size], _, _, H1, rfl, I2, turn_enumT a (s1.heap.objs.size + 1) s1.heap.objs.size (Nat.ne_of_lt hal) (Nat.ne_of_lt (Nat.lt_succ_of_lt hal)), ⟨⟨.none, he⟩, hit, Nat.succ_ne_self _⟩, fun b hb => ?_, q⟩
    have hle : s1.heap.objs.size ≤ b := by
      rcases (by simpa using hb : b = s1.heap.objs.size + 1 ∨ b = s1.heap.objs.size) with z | z
      · rw [z]; exact Nat.le_add_right _ _
      · rw [z]; exact Nat.le_refl _
    exact I1.fpOk hle (I1.hok.fresh hle)
theorem walk_enumT {K : PySem.W.Frag} {a : Addr} {xs : List V} : Walk (IteT K a) xs.length (fun H => SqT K H a xs) (YPair (fun i => some (.int (i : Nat))) (fun i => xs[i]?)) := by
  refine ⟨fun i _ hi q => ⟨xs, xs[i], q, List.getElem?_eq_getElem hi⟩, fun _ q => ⟨xs, q, Nat.le_refl _⟩, fun i H v H' _ q y => ?_⟩
  obtain ⟨T, x, h1, h2, h3, h4⟩ := y
  exact ⟨T, .int (i : Nat), x, h1, h2, h3, rfl, h4 xs q⟩
/-- enumerate of a list or a tuple -/
def iEnumS (K : PySem.W.Frag) (ta : TA) : TI := fun σ H R => ta σ H fun vs H1 => ∃ a xs, vs = [.ref a] ∧ ((SqL K H1 a xs ∧ R (Ite K a) H1) ∨ (SqT K H1 a xs ∧ R (IteT K a) H1))
theorem pi_enumS {X : Cx} {e : Expr} {ta : TA} {p pos tpos : Pos} {elts : List Expr} {kk : Nat} (hg : Gl X "enumerate") (hm : X.mg "enumerate" = none) (ha : PA X [e] ta) (hs : starEach [e] X.env = [(false, eval e X.env)] := by rfl) :
    PI X (.Tuple elts kk tpos) (.Call (.Name "enumerate" p) [e] [] pos) (iEnumS X.K ta) := by
  refine ⟨fun pins s σ H R I h => ?_⟩
  refine Call_ (ld_blt I hg hm boot_enumerate (PyProof.Rows.callWith_type1 (thn (ha.run pos pins s σ H _ I h) fun us s1 ⟨vs, H1, I1, r1, q1⟩ => ?_) hs rfl))
  obtain ⟨a, xs, ex, q⟩ := q1
  subst ex
  cases r1 with
  | cons r rr =>
    cases rr
    cases r
    have hin : ∀ b ∈ [s1.heap.objs.size + 1, s1.heap.objs.size], s1.heap.objs.size ≤ b := fun b hb => by
      rcases (by simpa using hb : b = s1.heap.objs.size + 1 ∨ b = s1.heap.objs.size) with z | z
      · rw [z]; exact Nat.le_add_right _ _
      · rw [z]; exact Nat.le_refl _
    rcases q with ⟨hq, q⟩ | ⟨hq, q⟩
    · obtain ⟨its, rv, p', hz⟩ := I1.list hq
      refine call_enumerate_list p'.isList fun h' he hit hsz hk => wpAny_pyIter_enum he ?_
      have I2 : Inv X pins σ H1 { s1 with heap := h' } := I1.kept (t' := s1.toks) hk
      exact ⟨s1.heap.objs.size + 1, [s1.heap.objs.size + 1, s1.heap.objs.size], _, _, H1, rfl, I2, turn_enum a (s1.heap.objs.size + 1) s1.heap.objs.size, ⟨⟨.none, he⟩, hit, Nat.succ_ne_self _⟩, fun b hb => I1.fpOk (hin b hb) (I1.hok.fresh (hin b hb)), q⟩
    · obtain ⟨its, rv, p', hz⟩ := I1.tuple hq
      have ht : s1.heap.IsTuple a its.toArray := p'
      have hal : a < s1.heap.objs.size := by
        obtain ⟨_, q, _⟩ := ht
        exact Heap.lt_size q
      refine call_enumT ht fun h' he hit hk => wpAny_pyIter_enum he ?_
      have I2 : Inv X pins σ H1 { s1 with heap := h' } := I1.kept (t' := s1.toks) hk
      exact ⟨s1.heap.objs.size + 1, [s1.heap.objs.size + 1, s1.heap.objs.size], _, _, H1, rfl, I2, turn_enumT a (s1.heap.objs.size + 1) s1.heap.objs.size (Nat.ne_of_lt hal) (Nat.ne_of_lt (Nat.lt_succ_of_lt hal)), ⟨⟨.none, he⟩, hit, Nat.succ_ne_self _⟩, fun b hb => I1.fpOk (hin b hb) (I1.hok.fresh (hin b hb)), q⟩
end G69
namespace G69
open PySem PySem.Spec PyProof.Rows L2
section
variable {P : Program} {w : World} {K : PySem.W.Frag} {mg : Str → Option Value} {base : Heap}
/-! ### _law_begin -/
abbrev sBegin : Stmt := topS 40
abbrev nBegin : List Str := ["_law_script", "_law_large", "_law_cell"]
theorem scBegin : FnScope nBegin ["_law_script"] (defScope sBegin) := ⟨rfl, rfl, rfl, by decide +kernel, rfl, by decide +kernel, by decide +kernel⟩
def spBegin (K : PySem.W.Frag) : Sp := fun vs H Q _ => ∃ (a : Addr) (ns : List Int), vs = [.ref a] ∧ SqL K H a (ns.map V.int) ∧ ns.length ≤ 63 ∧
  ∀ (d l c : Addr) (H' : Hp), H d = none → H l = none → H c = none → Dr H' d l c → Kp [] H H' → Q (.ref d) H'
theorem ok_begin {f : Addr} {fd : FuncData} {k : Nat} (F : Fun K "_law_begin" "_law_begin" sBegin f fd) (mA : mg "abs" = none) (mL : mg "list" = none) :
    FnOk P w K mg base CX0 (k + 1) f fd ["_law_script"] (spBegin K) := by
  refine F.ok scBegin (fun vs H Q E h => ?_) (fun cdv A outer s H vs Q E hr h => ?_)
  · obtain ⟨a, ns, rfl, _⟩ := h
    rfl
  · obtain ⟨a, ns, rfl, hS, hlen, q⟩ := h
    have hu := hu_of hr
    refine ⟨_, pss_cons (ps_setLc (i := 1) (own := [("_law_cell", 2)]) (g := gName 2) rfl scBegin.nd rfl rfl (sw_true rfl rfl rfl (by decide +kernel)) (pi_list (pv 0))
          (blkOk_by (N := nBegin) (sc := defScope sBegin) (by decide +kernel)) (fun _ _ _ _ _ => pg_name (i := 2) scBegin.nd rfl (Or.inl rfl))
          (fun _ _ _ _ _ => pts_one (pt_cmpR op_ge (pe_callB call_abs (by rfl) mA (by decide +kernel) (pa_cons (pv 2) pa_nil)) (pe_op op_pow pe_int pe_int) (nomark _)))
          (fun _ _ _ _ _ => pe_callB call_abs (by rfl) mA (by decide +kernel) (pa_cons (pv 2) pa_nil)))
      (pss_one (ps_ret (pe_disp (pps_cons pe_str (pv 1) (pps_cons pe_str (pe_callTy call_list_of (by rfl) mL (by decide +kernel) (pa_cons (pv 0) pa_nil))
        (pps_cons pe_str pe_int (pps_cons pe_str pe_int (pps_cons pe_str pe_int pps_nil))))) (by rfl) (by rfl) (fun z => by cases z) (by decide)))), ?_⟩
    refine ⟨.ref a, rfl, a, rfl, ⟨_, hS⟩, fun D hD => lc_list (K := K) (a := a) (xs := ns.map V.int)
      (fun i H2 => ∃ ls : List Int, H2 D = some (.lst (ls.map V.int)) ∧ ls.length ≤ i ∧ (∀ z ∈ ls, 0 ≤ z) ∧ Kp [] H H2)
      ⟨[], upd_same, Nat.le_refl _, (fun z hz => nomatch hz), Kp.new hD⟩ ?_ ?_ ?_⟩
    · rintro i H2 _ ⟨ls, e, _, _, k2⟩
      exact k2.l notnil hS
    · rintro i x H2 hi ⟨ls, e, hl, hp, k2⟩
      obtain ⟨z, hz, rfl⟩ := intAt hi
      have hil : i < ns.length := (List.getElem?_eq_some_iff.mp hz).1
      refine ⟨rfl, _, rfl, z, rfl, _, _, rfl, rfl, ⟨by decide, by decide, by decide⟩, _, _, rfl, rfl, _, rfl, ite2 (fun e1 => ?_) (fun e1 => ?_)⟩
      · refine ⟨_, rfl, z, rfl, _, e, szlt (by rw [List.length_map]; omega), ls ++ [if z < 0 then -z else z], ?_, ?_, ?_, k2.mut hD⟩
        · rw [upd_same, List.map_append]
          rfl
        · rw [List.length_append]
          show ls.length + 1 ≤ i + 1
          omega
        · intro y hy
          rcases List.mem_append.mp hy with h | h
          · exact hp y h
          · rw [List.mem_singleton] at h
            subst h
            split <;> omega
      · exact ⟨ls, e, by omega, hp, k2⟩
    · rintro H2 ⟨ls, e, hl, hp, k2⟩
      rw [List.length_map] at hl
      refine fun d hd => ?_
      have k3 : Kp [] H (upd H2 d (.dK [])) := k2.trans (Kp.new hd)
      refine ⟨_, rfl, _, rfl, a, _, rfl, .inl (k3.l notnil hS), fun c hc => ?_⟩
      have hdc : d ≠ c := ne_of_none upd_same hc
      have hDd : D ≠ d := ne_of_none e hd
      have hc2 : H2 c = none := by rw [upd_ne hdc.symm] at hc; exact hc
      have hDc : D ≠ c := ne_of_none e hc2
      refine ⟨by rw [upd_ne hdc]; exact upd_same, [(kLarge, .ref D), (kCells, .ref c), (kRest, .int 0), (kTurn, .int 0), (kMix, .int 7)], rfl, (by show 5 ≤ 15; decide), ?_⟩
      refine q d D c _ (k2.free hd) hD (k2.free hc2) ⟨ls, ns, 0, 0, 7, upd_same, ?_, ?_, hDc, by omega, by omega, ⟨by decide, by decide⟩, by decide, hp⟩ ((k3.trans (Kp.new hc)).mut (k2.free hd))
      · rw [upd_ne hDd, upd_ne hDc, upd_ne hDd]
        exact e
      · rw [upd_ne hdc.symm, upd_same]
end
end G69
namespace G69
open PySem PySem.Spec PyProof.Rows L2
/-- the built-in names are not the module's -/
structure Bt (mg : Str → Option Value) : Prop where
  abs : mg "abs" = none
  all : mg "all" = none
  any : mg "any" = none
  bool : mg "bool" = none
  dict : mg "dict" = none
  divmod : mg "divmod" = none
  enumerate : mg "enumerate" = none
  int : mg "int" = none
  isinst : mg "isinstance" = none
  len : mg "len" = none
  list : mg "list" = none
  max : mg "max" = none
  min : mg "min" = none
  range : mg "range" = none
  repr : mg "repr" = none
  set : mg "set" = none
  sorted : mg "sorted" = none
  str : mg "str" = none
  sum : mg "sum" = none
  tuple : mg "tuple" = none
  zip : mg "zip" = none
/-! ### a def that may be called -/
structure Cal (P : Program) (w : World) (K : PySem.W.Frag) (mg : Str → Option Value) (base : Heap) (x : Str) (ps : List Str) (k : Nat) (sp : Sp) : Prop where
  ex : ∃ (f : Addr) (fd : FuncData), FnOk P w K mg base CX0 k f fd ps sp ∧ mg x = some (.ref f) ∧ PySem.W.keepIn K (.ref f) = true ∧ Binds K fd ps []
structure Def (K : PySem.W.Frag) (mg : Str → Option Value) (x : Str) (st : Stmt) (ps : List Str) (f : Addr) (fd : FuncData) : Prop where
  F : Fun K x x st f fd
  g : mg x = some (.ref f)
  b : Binds K fd ps []
theorem Def.cal {P : Program} {w : World} {K : PySem.W.Frag} {mg : Str → Option Value} {base : Heap} {x : Str} {st : Stmt} {ps : List Str} {f : Addr} {fd : FuncData} {k : Nat} {sp : Sp} (D : Def K mg x st ps f fd) (G : FnOk P w K mg base CX0 k f fd ps sp) :
    Cal P w K mg base x ps k sp := ⟨f, fd, G, D.g, D.F.kp, D.b⟩
theorem Cal.imp {P : Program} {w : World} {K : PySem.W.Frag} {mg : Str → Option Value} {base : Heap} {x : Str} {ps : List Str} {k : Nat} {sp sp' : Sp} (C : Cal P w K mg base x ps k sp) (h : ∀ vs H Q E, sp' vs H Q E → sp vs H Q E) :
    Cal P w K mg base x ps k sp' := let ⟨f, fd, G, a, b, c⟩ := C.ex; ⟨f, fd, G.imp h, a, b, c⟩
/-- f(e, ..) -/
theorem pe_cal {X : Cx} {x : Str} {ps : List Str} {k j : Nat} {sp : Sp} {e : Expr} {es : List Expr} {t : TA} {p pos : Pos} (C : Cal X.prog X.w X.K X.mg X.base x ps k sp) (hr : Room j X.A) (hj : k ≤ j) (hg : Gl X x) (ha : PA X (e :: es) t)
    (hdb : (x == ("__debug__" : Str)) = false := by decide) (he : starEach (e :: es) X.env = (false, eval e X.env) :: starEach es X.env := by rfl) (hpl : (backTo pos (starEach es X.env)).any (·.1) = false := by rfl) :
    PE X (.Call (.Name x p) (e :: es) [] pos) (tCall sp [] E0 t) := by
  obtain ⟨f, fd, G, g, kp, b⟩ := C.ex
  exact pe_call G (hr.mono hj) hg g kp b .nil pass0 ha hdb he hpl
end G69
namespace G69
open PySem PySem.Spec PyProof.Rows L2
section
variable {P : Program} {w : World} {K : PySem.W.Frag} {mg : Str → Option Value} {base : Heap}
/-! ### _law_pick -/
abbrev sPick : Stmt := topS 42
theorem scPick : FnScope ["_law_draw", "_law_some"] ["_law_draw", "_law_some"] (defScope sPick) := ⟨rfl, rfl, rfl, by decide +kernel, rfl, by decide +kernel, by decide +kernel⟩
/-- a sign as a text -/
abbrev sg (c : Nat) : Str := ⟨#[c]⟩
def spPick (K : PySem.W.Frag) : Sp := fun vs H Q _ => ∃ (d l c : Addr) (y : V), vs = [.ref d, y] ∧ Dr H d l c ∧
  ((∃ (a : Addr) (xs : List V), y = .ref a ∧ SqL K H a xs ∧ a ≠ d ∧ a ≠ l ∧ xs ≠ [] ∧ xs.length ≤ 1000 ∧ ∀ (i : Nat) (x : V) (H' : Hp), xs[i]? = some x → Dr H' d l c → Kp [d, l] H H' → Q x H') ∨
   (∃ (a : Addr) (xs : List V), y = .ref a ∧ SqT K H a xs ∧ a ≠ d ∧ a ≠ l ∧ xs ≠ [] ∧ xs.length ≤ 1000 ∧ ∀ (i : Nat) (x : V) (H' : Hp), xs[i]? = some x → Dr H' d l c → Kp [d, l] H H' → Q x H') ∨
   (∃ (z : Str), y = .str z ∧ z.cps.toList ≠ [] ∧ z.length ≤ 1000 ∧ ∀ (i : Nat) (x : Nat) (H' : Hp), z.cps.toList[i]? = some x → Dr H' d l c → Kp [d, l] H H' → Q (.str (sg x)) H'))
theorem at_lt {α : Type} {xs : List α} {r : Int} (h0 : 0 ≤ r) (h1 : r < xs.length) : ∃ x, xs[r.toNat]? = some x ∧ atI xs r = some x := by
  have h : r.toNat < xs.length := by omega
  refine ⟨xs[r.toNat], List.getElem?_eq_getElem h, ?_⟩
  have e : ((r.toNat : Nat) : Int) = r := Int.toNat_of_nonneg h0
  have := atI_nat (xs := xs) (j := r.toNat) (List.getElem?_eq_getElem h)
  rw [e] at this
  exact this
theorem ok_pick {f : Addr} {fd : FuncData} (F : Fun K "_law_pick" "_law_pick" sPick f fd) (CT : Cal P w K mg base "_law_take" ["_law_draw", "_law_size"] 1 spTake) (mL : mg "len" = none) :
    FnOk P w K mg base CX0 2 f fd ["_law_draw", "_law_some"] (spPick K) := by
  refine F.ok scPick (fun vs H Q E h => ?_) (fun cdv A outer s H vs Q E hr h => ?_)
  · obtain ⟨d, l, c, y, rfl, _⟩ := h
    rfl
  · obtain ⟨d, l, c, y, rfl, D, h⟩ := h
    refine ⟨_, pss_one (ps_ret (pe_ix ix_seq (pv 1) (pe_cal CT hr (by decide) (by rfl) (pa_cons (pv 0) (pa_cons (pe_callB call_len (by rfl) mL PySem.boot_len (pa_cons (pv 1) pa_nil)) pa_nil))) (fun _ _ => rfl))), ?_⟩
    rcases h with ⟨a, xs, rfl, hS, nd, nl, h0, h1, q⟩ | ⟨a, xs, rfl, hS, nd, nl, h0, h1, q⟩ | ⟨z, rfl, h0, h1, q⟩
    · have hp : 0 < xs.length := List.length_pos_iff.mpr h0
      refine ⟨.ref a, rfl, .ref d, rfl, .ref a, rfl, _, xs.length, rfl, .inl ⟨xs, hS, rfl⟩, d, l, c, xs.length, rfl, D, by omega, by omega, fun r H' r0 r1 D' k => ?_⟩
      obtain ⟨x, e1, e2⟩ := at_lt r0 r1
      exact .inl ⟨a, xs, r, x, rfl, rfl, k.l (not2 nd nl) hS, e2, q _ x H' e1 D' k⟩
    · have hp : 0 < xs.length := List.length_pos_iff.mpr h0
      refine ⟨.ref a, rfl, .ref d, rfl, .ref a, rfl, _, xs.length, rfl, .inr ⟨xs, hS, rfl⟩, d, l, c, xs.length, rfl, D, by omega, by omega, fun r H' r0 r1 D' k => ?_⟩
      obtain ⟨x, e1, e2⟩ := at_lt r0 r1
      exact .inr (.inl ⟨a, xs, r, x, rfl, rfl, k.t (not2 nd nl) hS, e2, q _ x H' e1 D' k⟩)
    · have hp : 0 < z.cps.toList.length := List.length_pos_iff.mpr h0
      have hz : z.length = z.cps.toList.length := by first | rfl | exact (Array.length_toList).symm
      refine ⟨.str z, rfl, .ref d, rfl, .str z, rfl, _, z.length, rfl, ⟨szle (by omega), rfl⟩, d, l, c, z.length, rfl, D, by omega, by omega, fun r H' r0 r1 D' k => ?_⟩
      obtain ⟨x, e1, e2⟩ := at_lt (xs := z.cps.toList) r0 (by omega)
      exact .inr (.inr ⟨z, r, x, rfl, rfl, szle (by omega), e2, q _ x H' e1 D' k⟩)
end
end G69
namespace G69
open PySem PySem.Spec PyProof.Rows L2
/-! ### letters -/
def abc : Str := "abcdefghijklmnopqrstuvwxyz"
def isL (c : Nat) : Prop := 97 ≤ c ∧ c ≤ 122
instance (c : Nat) : Decidable (isL c) := inferInstanceAs (Decidable (97 ≤ c ∧ c ≤ 122))
theorem abc_L : ∀ c ∈ abc.cps.toList, isL c := by decide +kernel
theorem abc_len : abc.length = 26 := by decide +kernel
theorem abc_llen : abc.cps.toList.length = 26 := by decide +kernel
theorem abc_ne : abc.cps.toList ≠ [] := by decide +kernel
theorem abc_nd : abc.cps.toList.Nodup := by decide +kernel
abbrev sgs (cs : List Nat) : List V := cs.map fun c => V.str ⟨#[c]⟩
theorem sgs_snoc (cs : List Nat) (x : Nat) : sgs (cs ++ [x]) = sgs cs ++ [V.str (sg x)] := by
  show List.map _ _ = _
  rw [List.map_append]
  rfl
end G69
namespace G69
open PySem PySem.Spec PyProof.Rows L2
section
variable {P : Program} {w : World} {K : PySem.W.Frag} {mg : Str → Option Value} {base : Heap}
/-! ### _law_letters -/
abbrev sLett : Stmt := topS 43
abbrev nLett : List Str := ["_law_draw", "_law_many", "_law_left", "_law_found", "_law_turn"]
theorem scLett : FnScope nLett ["_law_draw", "_law_many"] (defScope sLett) := ⟨rfl, rfl, rfl, by decide +kernel, rfl, by decide +kernel, by decide +kernel⟩
def spLett : Sp := fun vs H Q _ => ∃ (d l c : Addr) (n : Nat), vs = [.ref d, .int n] ∧ Dr H d l c ∧ n ≤ 26 ∧
  ∀ (p : Addr) (cs : List Nat) (H' : Hp), H p = none → cs.length = n → cs.Nodup → (∀ c ∈ cs, isL c) → H' p = some (.lst (sgs cs)) → Dr H' d l c → Kp [d, l] H H' → Q (.ref p) H'
theorem ok_lett {f : Addr} {fd : FuncData} (F : Fun K "_law_letters" "_law_letters" sLett f fd) (CT : Cal P w K mg base "_law_take" ["_law_draw", "_law_size"] 1 spTake) (mR : mg "range" = none) (mL : mg "list" = none) (mN : mg "len" = none) :
    FnOk P w K mg base CX0 2 f fd ["_law_draw", "_law_many"] spLett := by
  refine F.ok scLett (fun vs H Q E h => ?_) (fun cdv A outer s H vs Q E hr h => ?_)
  · obtain ⟨d, l, c, n, rfl, _⟩ := h
    rfl
  · obtain ⟨d, l, c, n, rfl, D0, hn, q⟩ := h
    refine ⟨_, pss_cons (ps_par (i := 2) (j := 3) (by rfl) scLett.nd rfl rfl (by decide) rfl rfl (pa_cons (pe_callTy (call_listS rfl) (by rfl) mL (by decide +kernel) (pa_cons pe_str pa_nil)) (pa_cons (pe_lst pa_nil) pa_nil)) (by rfl))
      (pss_cons (ps_for PassesOwn.never rfl (pi_range1 (by rfl) mR (pa_cons (pv 1) pa_nil)) (pg_name (i := 4) scLett.nd rfl (.inl rfl))
        (pss_one (ps_expr (pe_bm PySem.F.plainAttrs_list PySem.F.slot_list_append PySem.F.type_list_append mt_append (pv 3) (pa_cons (pe_bm PySem.F.plainAttrs_list PySem.F.slot_list_pop PySem.F.type_list_pop mt_popAt (pv 2)
          (pa_cons (pe_cal CT hr (by decide) (by rfl) (pa_cons (pv 0) (pa_cons (pe_callB call_len_seq (by rfl) mN PySem.boot_len (pa_cons (pv 2) pa_nil)) pa_nil))) pa_nil)) pa_nil)))))
      (pss_one (ps_ret (pv 3)))), ?_⟩
    refine ⟨abc, rfl, by rw [abc_len]; decide, fun a1 h1 => ⟨by decide, fun a2 h2 => ⟨_, _, rfl, ?_⟩⟩⟩
    have n1 := D0.nes h1
    have D1 := D0.new (o := .lst (sgs abc.cps.toList)) h1
    have n2 := D1.nes h2
    have e12 : a1 ≠ a2 := ne_of_none upd_same h2
    have h2' : H a2 = none := by rw [upd_ne e12.symm] at h2; exact h2
    have D2 := D1.new (o := .lst []) h2
    have k2 : Kp [d, l] H (upd (upd H a1 (.lst (sgs abc.cps.toList))) a2 (.lst [])) := (Kp.new h1).trans (Kp.new h2)
    refine ⟨_, rfl, n, rfl, by omega, by omega, for_range (lo := 0) (n := n)
      (fun i σ H3 => ∃ (y : Option V) (cs1 cs2 : List Nat), σ = [some (.ref d), some (.int n), some (.ref a1), some (.ref a2), y] ∧ cs1.length = 26 - i ∧ cs2.length = i ∧ (cs1 ++ cs2).Perm abc.cps.toList ∧
        H3 a1 = some (.lst (sgs cs1)) ∧ H3 a2 = some (.lst (sgs cs2)) ∧ Dr H3 d l c ∧ Kp [d, l] H H3)
      ⟨none, abc.cps.toList, [], rfl, by rw [abc_llen], rfl, by rw [List.append_nil], by rw [upd_ne e12, upd_same], upd_same, D2, k2⟩ ?_ ?_⟩
    · rintro i σ H3 hi ⟨y, cs1, cs2, rfl, l1, l2, pm, g1, g2, D3, k3⟩
      refine ⟨_, rfl, .inl ⟨rfl, _, .inl (.inl g2)⟩, _, rfl, .inl ⟨rfl, _, .inl (.inl g1)⟩, _, rfl, _, rfl, a1, _, rfl, .inl (.inl (.inl g1)), d, l, c, _, rfl, D3, ?_, ?_, fun r H4 r0 r1 D4 k4 => ?_⟩
      · rw [List.length_map, l1]
        omega
      · rw [List.length_map, l1]
        omega
      · rw [List.length_map] at r1
        have hr1 : r.toNat < cs1.length := by omega
        have f1 := k4 _ _ g1 (off2 n1)
        have f2 := k4 _ _ g2 (off2 n2)
        have hix : seqIndex? r (sgs cs1).length = some r.toNat := by
          rw [List.length_map]
          simp [seqIndex?, r0, r1, show ¬ r < 0 by omega]
        have hg : (sgs cs1)[r.toNat]? = some (V.str (sg cs1[r.toNat])) := by
          rw [List.getElem?_map, List.getElem?_eq_getElem hr1]
          rfl
        refine ⟨a1, _, r, r.toNat, _, rfl, rfl, f1, by omega, by omega, hix, hg, a2, _, _, rfl, rfl, by rw [upd_ne e12.symm]; exact f2, szlt (by rw [List.length_map]; omega), ?_⟩
        refine ⟨_, cs1.eraseIdx r.toNat, cs2 ++ [cs1[r.toNat]], rfl, ?_, ?_, ?_, ?_, ?_, (D4.off n1).off n2, ((k3.trans k4).mut h1).mut h2'⟩
        · rw [List.length_eraseIdx_of_lt hr1]
          omega
        · rw [List.length_append, l2]
          rfl
        · refine List.Perm.trans ?_ pm
          have p1 : (cs1[r.toNat] :: cs1.eraseIdx r.toNat).Perm cs1 := perm_erase _ _ hr1
          have p2 : (cs1.eraseIdx r.toNat ++ (cs2 ++ [cs1[r.toNat]])).Perm (cs1[r.toNat] :: cs1.eraseIdx r.toNat ++ cs2) := by
            rw [← List.append_assoc]
            exact List.perm_append_comm
          exact p2.trans (List.Perm.append_right cs2 p1)
        · rw [upd_ne e12, upd_same]
          exact congrArg (fun z => some (HO.lst z)) (map_erase _ _ _)
        · rw [upd_same, sgs_snoc]
    · rintro σ H3 ⟨y, cs1, cs2, rfl, l1, l2, pm, g1, g2, D3, k3⟩
      have nd := pm.nodup_iff.mpr abc_nd
      refine ⟨_, rfl, q a2 cs2 H3 h2' l2 (List.nodup_append.mp nd).2.1 (fun x hx => abc_L x (pm.mem_iff.mp (List.mem_append.mpr (.inr hx)))) g2 D3 k3⟩
end
end G69
namespace G69
open PySem PySem.Spec PyProof.Rows L2
section
variable {P : Program} {w : World} {K : PySem.W.Frag} {mg : Str → Option Value} {base : Heap}
theorem joinSigns (cs : List Nat) : Txt.join "" (cs.map sg) = ⟨cs.toArray⟩ := by
  have gen : ∀ (cs : List Nat) (acc : Array Nat), ((cs.map sg).foldl (fun acc p => acc ++ (Str.ofString "").cps ++ p.cps) acc).toList = acc.toList ++ cs := by
    intro cs
    induction cs with
    | nil => intro acc; simp
    | cons x r ih =>
      intro acc
      rw [List.map_cons, List.foldl_cons, ih]
      have e0 : (Str.ofString "").cps = #[] := by decide +kernel
      rw [e0]
      simp
  apply ext_toList
  show (Builtin.Str.glued (Str.ofString "") (cs.map sg)).cps.toList = cs
  cases cs with
  | nil => rfl
  | cons x r =>
    show ((r.map sg).foldl _ (sg x).cps).toList = x :: r
    rw [gen]
    rfl
theorem joinLen (cs : List Nat) : ((cs.map sg).map (·.length)).sum = cs.length := by
  induction cs with
  | nil => rfl
  | cons x r ih =>
    rw [List.map_cons, List.map_cons, List.sum_cons, ih, List.length_cons]
    show 1 + r.length = r.length + 1
    omega
theorem sgs_eq (cs : List Nat) : sgs cs = (cs.map sg).map V.str := by
  rw [List.map_map]
  rfl
/-! ### _law_string -/
abbrev sString : Stmt := topS 44
abbrev nString : List Str := ["_law_draw", "_law_letters_here", "_law_least", "_law_most", "_law_turn"]
abbrev pString : List Str := ["_law_draw", "_law_letters_here", "_law_least", "_law_most"]
theorem scString : FnScope nString ["_law_draw", "_law_letters_here", "_law_least", "_law_most"] (defScope sString) := ⟨rfl, rfl, rfl, by decide +kernel, rfl, by decide +kernel, by decide +kernel⟩
def spString (K : PySem.W.Frag) : Sp := fun vs H Q _ => ∃ (d l c a : Addr) (cs : List Nat) (lo hi : Nat), vs = [.ref d, .ref a, .int lo, .int hi] ∧ Dr H d l c ∧ SqL K H a (sgs cs) ∧ a ≠ d ∧ a ≠ l ∧ cs ≠ [] ∧ cs.length ≤ 1000 ∧ lo ≤ hi ∧ hi ≤ 1000 ∧
  ∀ (z : Str) (H' : Hp), lo ≤ z.length → z.length ≤ hi → (∀ x ∈ z.cps.toList, x ∈ cs) → Dr H' d l c → Kp [d, l] H H' → Q (.str z) H'
theorem ok_string {f : Addr} {fd : FuncData} (F : Fun K "_law_string" "_law_string" sString f fd) (CT : Cal P w K mg base "_law_take" ["_law_draw", "_law_size"] 1 spTake) (CP : Cal P w K mg base "_law_pick" ["_law_draw", "_law_some"] 2 (spPick K)) (mR : mg "range" = none) :
    FnOk P w K mg base CX0 3 f fd ["_law_draw", "_law_letters_here", "_law_least", "_law_most"] (spString K) := by
  refine F.ok scString (fun vs H Q E h => ?_) (fun cdv A outer s H vs Q E hr h => ?_)
  · obtain ⟨d, l, c, a, cs, lo, hi, rfl, _⟩ := h
    rfl
  · obtain ⟨d, l, c, a, cs, lo, hi, rfl, D0, hS, nad, nal, c0, c1, h01, h1, q⟩ := h
    refine ⟨_, pss_one (ps_ret (pe_bm PySem.F.plainAttrs_str PySem.F.slot_str_join PySem.F.type_str_join mt_join pe_str (pa_cons (pe_lc (own := [("_law_turn", 4)]) (g := gName 4) (tt := tYes) (by rfl) scString.nd
      (pi_range1 (by rfl) mR (pa_cons (pe_op op_add (pv 2) (pe_cal CT hr (by decide) (by rfl) (pa_cons (pv 0) (pa_cons (pe_op op_add (pe_op op_sub (pv 3) (pv 2)) pe_int) pa_nil)))) pa_nil))
      (blkOk_by (own := [("_law_turn", 4)]) (N := nString) (sc := defScope sString) (by decide +kernel)) (fun _ _ _ _ _ => pg_name (i := 4) scString.nd rfl (Or.inl rfl)) (fun _ _ _ _ _ => pts_nil)
      (fun _ _ _ _ _ => pe_cal CP hr (by decide) (by rfl) (pa_cons (pv 0) (pa_cons (pv 1) pa_nil)))) pa_nil))), ?_⟩
    refine ⟨rfl, _, rfl, _, rfl, _, rfl, _, rfl, _, _, rfl, rfl, _, _, rfl, rfl, d, l, c, _, rfl, D0, by omega, by omega, fun r H1 r0 r1 D1 k1 => ?_⟩
    have hb : ((lo : Int) + r) = ((lo + r.toNat : Nat) : Int) := by omega
    refine ⟨_, _, rfl, rfl, ((lo + r.toNat : Nat) : Int), by show [V.int ((lo : Int) + r)] = _; rw [hb], by omega, by omega, fun L hL => lc_range (lo := 0) (n := lo + r.toNat)
      (fun i H2 => ∃ xs : List Nat, xs.length = i ∧ (∀ x ∈ xs, x ∈ cs) ∧ H2 L = some (.lst (sgs xs)) ∧ Dr H2 d l c ∧ Kp [d, l] H H2)
      ⟨[], rfl, (fun z hz => nomatch hz), upd_same, D1.new hL, k1.trans (Kp.new hL)⟩ ?_ ?_⟩
    · rintro i H2 hi2 ⟨xs, hc, ha, e, D, k⟩
      have hne := D1.nes hL
      refine ⟨rfl, yes1 ?_⟩
      refine ⟨_, rfl, _, rfl, d, l, c, _, rfl, D, .inl ⟨a, sgs cs, rfl, k.l (not2 nad nal) hS, nad, nal, by rw [Ne, List.map_eq_nil_iff]; exact c0, by rw [List.length_map]; exact c1, fun j x H4 hx D4 k4 => ?_⟩⟩
      obtain ⟨y, hy, rfl⟩ : ∃ y, cs[j]? = some y ∧ x = V.str (sg y) := by
        rw [List.getElem?_map] at hx
        cases e : cs[j]? with
        | none => rw [e] at hx; cases hx
        | some y => rw [e] at hx; exact ⟨y, rfl, (Option.some.inj hx).symm⟩
      refine ⟨_, k4 _ _ e (off2 hne), szlt (by rw [List.length_map]; omega), xs ++ [y], by rw [List.length_append, hc]; rfl, fun v hv => ?_, by rw [upd_same, ← sgs_snoc], D4.off hne, (k.trans k4).mut (k1.back (off2 hne) hL)⟩
      rcases List.mem_append.mp hv with h | h
      · exact ha v h
      · rw [List.mem_singleton.mp h]
        exact List.mem_of_getElem? hy
    · rintro H2 ⟨xs, hc, ha, e, D, k⟩
      refine ⟨"", L, xs.map sg, rfl, rfl, .inl (.inl (.inl (by rw [e, sgs_eq]))), ?_, ?_⟩
      · rw [joinLen, hc]
        show lo + r.toNat + _ * 0 ≤ 16777216
        omega
      · rw [joinSigns]
        have hlen : (⟨xs.toArray⟩ : Str).length = xs.length := List.size_toArray ..
        exact q ⟨xs.toArray⟩ H2 (by rw [hlen, hc]; omega) (by rw [hlen, hc]; omega) ha D k
end
end G69
namespace G69
open PySem PySem.Spec PyProof.Rows L2
/-! ### prices -/
def swV : Option Int → V
  | none => .non
  | some i => .int i
structure PrOk (e m w : Int) (s : Option Int) : Prop where
  e0 : 1 ≤ e
  e9 : e ≤ 9
  m0 : 1 ≤ m
  m9 : m ≤ 9
  w0 : 1 ≤ w
  w9 : w ≤ 9
  s0 : ∀ i, s = some i → 1 ≤ i ∧ i ≤ 9
end G69
namespace G69
open PySem PySem.Spec PyProof.Rows L2
/-! ### kinds of values -/
def kl : List String := ["NoneType", "bool", "int", "str", "list", "tuple", "dict"]
def Knd (K : PySem.W.Frag) (H : Hp) (v : V) (T : String) : Prop := TyX K H v (.type T) ∧ T ∈ kl
def isI : V → Bool
  | .int _ => true
  | _ => false
def isS : V → Bool
  | .str _ => true
  | _ => false
section
variable {P : Program} {w : World} {K : PySem.W.Frag} {mg : Str → Option Value} {base : Heap} {H : Hp}
theorem Knd.non : Knd K H .non "NoneType" := ⟨.base .non, by decide⟩
theorem Knd.bl {b : Bool} : Knd K H (.bl b) "bool" := ⟨.base (.bl b), by decide⟩
theorem Knd.int {i : Int} : Knd K H (.int i) "int" := ⟨.base (.int i), by decide⟩
theorem Knd.str {z : Str} : Knd K H (.str z) "str" := ⟨.base (.str z), by decide⟩
theorem Knd.lst {a : Addr} {xs : List V} (h : H a = some (.lst xs)) : Knd K H (.ref a) "list" := ⟨.base (.lst h), by decide⟩
theorem Knd.tup {a : Addr} {xs : List V} (h : H a = some (.tup xs)) : Knd K H (.ref a) "tuple" := ⟨.base (.tup h), by decide⟩
theorem Knd.dK {a : Addr} {xs : List (Key × V)} (h : H a = some (.dK xs)) : Knd K H (.ref a) "dict" := ⟨.base (.dK h), by decide⟩
theorem Knd.isI_eq {v : V} {T : String} (h : Knd K H v T) : isI v = decide (T = "int") := by
  obtain ⟨h, _⟩ := h
  cases h with
  | base h => cases h <;> rfl
  | _ => rfl
theorem Knd.isS_eq {v : V} {T : String} (h : Knd K H v T) : isS v = decide (T = "str") := by
  obtain ⟨h, _⟩ := h
  cases h with
  | base h => cases h <;> rfl
  | _ => rfl
theorem Knd.of_int {v : V} (h : Knd K H v "int") : ∃ i, v = .int i := by
  have e := h.isI_eq
  cases v with
  | int i => exact ⟨i, rfl⟩
  | _ => cases e
theorem Knd.of_str {v : V} (h : Knd K H v "str") : ∃ i, v = .str i := by
  have e := h.isS_eq
  cases v with
  | str i => exact ⟨i, rfl⟩
  | _ => cases e
/-! ### is_integer -/
abbrev sIsInt : Stmt := topS 12
theorem scIsInt : FnScope ["thing"] ["thing"] (defScope sIsInt) := ⟨rfl, rfl, rfl, by decide +kernel, rfl, by decide +kernel, by decide +kernel⟩
def spIsInt (K : PySem.W.Frag) : Sp := fun vs H Q _ => ∃ (v : V) (T : String), vs = [v] ∧ Knd K H v T ∧ Q (.bl (isI v)) H
theorem ok_isInt {f : Addr} {fd : FuncData} (F : Fun K "is_integer" "is_integer" sIsInt f fd) (mS : mg "isinstance" = none) (mI : mg "int" = none) (mB : mg "bool" = none) :
    FnOk P w K mg base CX0 1 f fd ["thing"] (spIsInt K) := by
  refine F.ok scIsInt (fun vs H Q E h => ?_) (fun cdv A outer s H vs Q E hr h => ?_)
  · obtain ⟨v, T, rfl, _⟩ := h
    rfl
  · obtain ⟨v, T, rfl, ht, q⟩ := h
    refine ⟨_, pss_one (ps_ret (pe_and (pe_callB call_isi (by rfl) mS (by decide +kernel) (pa_cons (pv 0) (pa_cons (pe_bltn (v := .ty "int") (by rfl) mI (by decide +kernel) rfl) pa_nil)))
      (pe_one (pe_not (pe_callB call_isi (by rfl) mS (by decide +kernel) (pa_cons (pv 0) (pa_cons (pe_bltn (v := .ty "bool") (by rfl) mB (by decide +kernel) rfl) pa_nil))))))), ?_⟩
    rw [ht.isI_eq] at q
    obtain ⟨ty, hm⟩ := ht
    simp only [kl, List.mem_cons, List.not_mem_nil, or_false] at hm
    rcases hm with rfl | rfl | rfl | rfl | rfl | rfl | rfl
    · exact ⟨_, rfl, v, _, _, _, false, rfl, .ty "int", ty, kit_ty (by decide +kernel), false, rfl, iteF q⟩
    · exact ⟨_, rfl, v, _, _, _, true, rfl, .ty "int", ty, kit_ty (by decide +kernel), true, rfl, iteT ⟨_, rfl, v, _, _, _, true, rfl, .ty "bool", ty, kit_ty (by decide +kernel), true, rfl, q⟩⟩
    · exact ⟨_, rfl, v, _, _, _, true, rfl, .ty "int", ty, kit_ty (by decide +kernel), true, rfl, iteT ⟨_, rfl, v, _, _, _, false, rfl, .ty "bool", ty, kit_ty (by decide +kernel), false, rfl, q⟩⟩
    · exact ⟨_, rfl, v, _, _, _, false, rfl, .ty "int", ty, kit_ty (by decide +kernel), false, rfl, iteF q⟩
    · exact ⟨_, rfl, v, _, _, _, false, rfl, .ty "int", ty, kit_ty (by decide +kernel), false, rfl, iteF q⟩
    · exact ⟨_, rfl, v, _, _, _, false, rfl, .ty "int", ty, kit_ty (by decide +kernel), false, rfl, iteF q⟩
    · exact ⟨_, rfl, v, _, _, _, false, rfl, .ty "int", ty, kit_ty (by decide +kernel), false, rfl, iteF q⟩
/-! ### is_price -/
abbrev sIsPrice : Stmt := topS 16
theorem scIsPrice : FnScope ["thing"] ["thing"] (defScope sIsPrice) := ⟨rfl, rfl, rfl, by decide +kernel, rfl, by decide +kernel, by decide +kernel⟩
def isP : V → Bool
  | .int i => decide (1 ≤ i) && decide (i ≤ 9)
  | _ => false
def spIsPrice (K : PySem.W.Frag) : Sp := fun vs H Q _ => ∃ (v : V) (T : String), vs = [v] ∧ Knd K H v T ∧ Q (.bl (isP v)) H
theorem ok_isPrice {f : Addr} {fd : FuncData} (F : Fun K "is_price" "is_price" sIsPrice f fd) (CI : Cal P w K mg base "is_integer" ["thing"] 1 (spIsInt K)) {t : Tok} (mD : mg "DEAREST" = some (.int 9 t)) :
    FnOk P w K mg base CX0 2 f fd ["thing"] (spIsPrice K) := by
  refine F.ok scIsPrice (fun vs H Q E h => ?_) (fun cdv A outer s H vs Q E hr h => ?_)
  · obtain ⟨v, T, rfl, _⟩ := h
    rfl
  · obtain ⟨v, T, rfl, ht, q⟩ := h
    refine ⟨_, pss_one (ps_ret (pe_and (pe_cal CI hr (by decide) (by rfl) (pa_cons (pv 0) pa_nil))
      (pe_one (pe_chain op_le op_le pe_int (pv 0) (pe_glob (v := .int 9) rfl mD ⟨_, rfl⟩))))), ?_⟩
    refine ⟨_, rfl, v, T, rfl, ht, _, rfl, ?_⟩
    cases v with
    | int i =>
      refine iteT ⟨_, rfl, _, _, rfl, rfl, _, rfl, ?_⟩
      have e : isP (.int i) = (decide (1 ≤ i) && decide (i ≤ 9)) := rfl
      rw [e] at q
      by_cases h : (1 : Int) ≤ i
      · rw [decide_eq_true h] at q ⊢
        exact iteT ⟨_, _, rfl, rfl, q⟩
      · rw [decide_eq_false h] at q ⊢
        exact iteF q
    | _ => exact iteF q
end
end G69
namespace G69
open PySem PySem.Spec PyProof.Rows L2
/-! ### texts -/
def isLb (c : Nat) : Bool := decide (97 ≤ c) && decide (c ≤ 122)
theorem abc_mem (c : Nat) : decide (c ∈ abc.cps.toList) = isLb c := by
  have e : abc.cps.toList = (List.range 26).map (· + 97) := by decide +kernel
  rw [e]
  unfold isLb
  rw [Bool.eq_iff_iff]
  simp only [decide_eq_true_eq, Bool.and_eq_true, List.mem_map, List.mem_range]
  constructor
  · rintro ⟨a, h, rfl⟩
    omega
  · rintro ⟨h1, h2⟩
    exact ⟨c - 97, by omega, by omega⟩
def isT : V → Bool
  | .str z => z.cps.toList.all isLb
  | _ => false
def szV : V → Prop
  | .str z => z.length ≤ 100000
  | _ => True
section
variable {P : Program} {w : World} {K : PySem.W.Frag} {mg : Str → Option Value} {base : Heap}
/-! ### is_text -/
abbrev sIsText : Stmt := topS 13
theorem scIsText : FnScope ["thing", "sign"] ["thing"] (defScope sIsText) := ⟨rfl, rfl, rfl, by decide +kernel, rfl, by decide +kernel, by decide +kernel⟩
def spIsText (K : PySem.W.Frag) : Sp := fun vs H Q _ => ∃ (v : V) (T : String), vs = [v] ∧ Knd K H v T ∧ szV v ∧ ∀ H', Kp [] H H' → Q (.bl (isT v)) H'
theorem ok_isText {f : Addr} {fd : FuncData} (F : Fun K "is_text" "is_text" sIsText f fd) (mS : mg "isinstance" = none) (mT : mg "str" = none) (mA : mg "all" = none) {t : Tok} (mL : mg "LETTERS" = some (.str abc t)) :
    FnOk P w K mg base CX0 1 f fd ["thing"] (spIsText K) := by
  refine F.ok scIsText (fun vs H Q E h => ?_) (fun cdv A outer s H vs Q E hr h => ?_)
  · obtain ⟨v, T, rfl, _⟩ := h
    rfl
  · obtain ⟨v, T, rfl, ht, hz, q⟩ := h
    refine ⟨_, pss_one (ps_ret (pe_and (pe_callB call_isi (by rfl) mS (by decide +kernel) (pa_cons (pv 0) (pa_cons (pe_bltn (v := .ty "str") (by rfl) mT (by decide +kernel) rfl) pa_nil)))
      (pe_one (pe_callB (cr_all rfl) (by rfl) mA (by decide +kernel) (pa_cons (pe_lc (own := [("sign", 1)]) (g := gName 1) (tt := tYes) (by rfl) scIsText.nd (pi_str (pv 0))
        (blkOk_by (own := [("sign", 1)]) (N := ["thing", "sign"]) (sc := defScope sIsText) (by decide +kernel)) (fun _ _ _ _ _ => pg_name (i := 1) scIsText.nd rfl (Or.inl rfl)) (fun _ _ _ _ _ => pts_nil)
        (fun _ _ _ _ _ => pe_cmpR op_in_sign (pv 1) (pe_glob (v := .str abc) rfl mL ⟨_, rfl⟩) (by rfl))) pa_nil))))), ?_⟩
    by_cases hT : T = "str"
    · subst hT
      obtain ⟨z, rfl⟩ := ht.of_str
      refine ⟨_, rfl, .str z, _, _, _, true, rfl, .ty "str", ht.1, kit_ty (by decide +kernel), true, rfl, iteT ?_⟩
      refine ⟨_, rfl, z, rfl, fun L hL => lc_it walk_str
        (fun i H2 => H2 L = some (.lst (((z.cps.toList.take i).map isLb).map V.bl)) ∧ Kp [] H H2)
        ⟨upd_same, Kp.new hL⟩ (fun _ _ _ _ => trivial) ?_ ?_⟩
      · rintro i x H2 H2' hi ⟨e, k⟩ ⟨rfl, c, hc, rfl⟩
        refine ⟨rfl, yes1 ⟨_, rfl, c, abc, rfl, rfl, _, e, ?_, ?_, k.mut hL⟩⟩
        · refine szlt ?_
          rw [List.length_map, List.length_map, List.length_take, Array.length_toList]
          have : z.cps.size ≤ 100000 := hz
          omega
        · rw [upd_same, abc_mem]
          have hc' : z.cps.toList[i]? = some c := by rw [Array.getElem?_toList]; exact hc
          rw [List.take_add_one, hc', List.map_append, List.map_append]
          rfl
      · rintro H2 ⟨e, k⟩
        have e' : z.cps.toList.take z.cps.size = z.cps.toList := List.take_of_length_le (by rw [Array.length_toList]; exact Nat.le_refl _)
        rw [e'] at e
        refine ⟨L, _, rfl, .inl (.inl e), ?_⟩
        have e2 : (z.cps.toList.map isLb).all id = isT (.str z) := by
          show _ = z.cps.toList.all isLb
          rw [List.all_map]
          rfl
        rw [e2]
        exact q H2 k
    · have hk : kitB T "str" = some false := by
        have hm := ht.2
        simp only [kl, List.mem_cons, List.not_mem_nil, or_false] at hm
        rcases hm with rfl | rfl | rfl | rfl | rfl | rfl | rfl
        all_goals first | decide +kernel | exact absurd rfl hT
      refine ⟨_, rfl, v, _, _, _, false, rfl, .ty "str", ht.1, kit_ty hk, false, rfl, iteF ?_⟩
      have e : isT v = false := by
        have := ht.isS_eq
        rw [decide_eq_false hT] at this
        cases v with
        | str z => cases this
        | _ => rfl
      have q' := q H Kp.rfl'
      rw [e] at q'
      exact q'
/-! ### need_text, of a text -/
abbrev sNeed : Stmt := topS 17
theorem scNeed : FnScope ["thing"] ["thing"] (defScope sNeed) := ⟨rfl, rfl, rfl, by decide +kernel, rfl, by decide +kernel, by decide +kernel⟩
def spNeed0 : Sp := fun vs H Q _ => ∃ (z : Str), vs = [.str z] ∧ isT (.str z) = true ∧ z.length ≤ 100000 ∧ ∀ H', Kp [] H H' → Q .non H'
theorem ok_need0 {f : Addr} {fd : FuncData} (F : Fun K "need_text" "need_text" sNeed f fd) (CI : Cal P w K mg base "is_text" ["thing"] 1 (spIsText K)) :
    FnOk P w K mg base CX0 2 f fd ["thing"] spNeed0 := by
  refine F.ok scNeed (fun vs H Q E h => ?_) (fun cdv A outer s H vs Q E hr h => ?_)
  · obtain ⟨z, rfl, _⟩ := h
    rfl
  · obtain ⟨z, rfl, ht, hz, q⟩ := h
    refine ⟨_, pss_one (ps_if (pt_not (pt_val (pe_cal CI hr (by decide) (by rfl) (pa_cons (pv 0) pa_nil)))) (pss_one ps_never) pss_nil), ?_⟩
    refine ⟨_, rfl, .str z, _, rfl, Knd.str, hz, fun H' k => ⟨_, rfl, ?_⟩⟩
    rw [ht]
    exact iteF (q H' k)
end
end G69
namespace G69
open PySem PySem.Spec PyProof.Rows L2
/-! ### slips: the class -/
def sfl (e m w : Int) (s : Option Int) : List (Str × V) := [("z_extra", .int e), ("z_missing", .int m), ("z_wrong", .int w), ("z_swapped", swV s)]
structure SlC (K : PySem.W.Frag) (mg : Str → Option Value) (C : Addr) : Prop where
  cl : Cls K C
  nE : NoAttr K C "z_extra"
  nM : NoAttr K C "z_missing"
  nW : NoAttr K C "z_wrong"
  nS : NoAttr K C "z_swapped"
  mgC : mg "Slips" = some (.ref C)
def SlAt (C : Addr) (H : Hp) (x : Addr) (e m w : Int) (s : Option Int) : Prop := ∃ dx, H x = some (.ins C dx (sfl e m w s))
theorem SlAt.keep {C x : Addr} {H H' : Hp} {S : List Addr} {e m w : Int} {s : Option Int} (h : SlAt C H x e m w s) (k : Kp S H H') (n : x ∉ S) : SlAt C H' x e m w s := let ⟨dx, h⟩ := h; ⟨dx, k _ _ h n⟩
section
variable {P : Program} {w : World} {K : PySem.W.Frag} {mg : Str → Option Value} {base : Heap}
abbrev sSInit : Stmt := inClass (topS 18) 0
abbrev nSInit : List Str := ["self", "extra", "missing", "wrong", "swapped"]
abbrev kwS : List (Str × V) := [("extra", .int 1), ("missing", .int 1), ("wrong", .int 1), ("swapped", .non)]
theorem scSInit : FnScope nSInit nSInit (defScope sSInit) := ⟨rfl, rfl, rfl, by decide +kernel, rfl, by decide +kernel, by decide +kernel⟩
def spSInit0 (C : Addr) : Sp := fun vs H Q _ => ∃ (p dx : Addr) (e m w : Int) (s : Option Int), vs = [.ref p, .int e, .int m, .int w, swV s] ∧ PrOk e m w s ∧ H p = some (.ins C dx []) ∧
  ∀ H', H' p = some (.ins C dx (sfl e m w s)) → Kp [p] H H' → Q .non H'
theorem isP_ok {i : Int} (h0 : 1 ≤ i) (h9 : i ≤ 9) : isP (.int i) = true := by
  show (decide (1 ≤ i) && decide (i ≤ 9)) = true
  rw [decide_eq_true h0, decide_eq_true h9]
  rfl
theorem ok_sinit0 {f C : Addr} {fd : FuncData} (F : FunD K "__init__" "Slips.__init__" (defArgs sSInit) (defBody sSInit) (defScope sSInit) [] kwS f fd) (T : SlC K mg C) (CP : Cal P w K mg base "is_price" ["thing"] 2 (spIsPrice K)) :
    FnOk P w K mg base CX0 3 f fd nSInit (spSInit0 C) := by
  refine F.ok scSInit (fun vs H Q E h => ?_) (fun cdv A outer s H vs Q E hr h => ?_)
  · obtain ⟨p, dx, e, m, w, s, rfl, _⟩ := h
    rfl
  · obtain ⟨p, dx, e, m, w, s, rfl, ok, hp, q⟩ := h
    refine ⟨_, pss_cons (ps_if (pt_not (pt_val (pe_cal CP hr (by decide) (by rfl) (pa_cons (pv 1) pa_nil)))) (pss_one ps_never) pss_nil)
      (pss_cons (ps_if (pt_not (pt_val (pe_cal CP hr (by decide) (by rfl) (pa_cons (pv 2) pa_nil)))) (pss_one ps_never) pss_nil)
      (pss_cons (ps_if (pt_not (pt_val (pe_cal CP hr (by decide) (by rfl) (pa_cons (pv 3) pa_nil)))) (pss_one ps_never) pss_nil)
      (pss_cons (ps_if (PW.pt (pw_and (pt_cmpR op_notN (pv 4) pe_non (nomark _)) (pw_and1 (pt_not (pt_val (pe_cal CP hr (by decide) (by rfl) (pa_cons (pv 4) pa_nil))))))) (pss_one ps_never) pss_nil)
      (pss_cons (ps_fld (pv 0) (pv 1) rfl) (pss_cons (ps_fld (pv 0) (pv 2) rfl) (pss_cons (ps_fld (pv 0) (pv 3) rfl) (pss_one (ps_fld (pv 0) (pv 4) rfl)))))))), ?_⟩
    refine ⟨_, rfl, _, _, rfl, Knd.int, _, rfl, ?_⟩
    rw [isP_ok ok.e0 ok.e9]
    refine iteF ⟨_, rfl, _, _, rfl, Knd.int, _, rfl, ?_⟩
    rw [isP_ok ok.m0 ok.m9]
    refine iteF ⟨_, rfl, _, _, rfl, Knd.int, _, rfl, ?_⟩
    rw [isP_ok ok.w0 ok.w9]
    refine iteF ?_
    have rest : (tSeq (sFld K (tVar 0) (tVar 1) "z_extra") (tSeq (sFld K (tVar 0) (tVar 2) "z_missing") (tSeq (sFld K (tVar 0) (tVar 3) "z_wrong") (sFld K (tVar 0) (tVar 4) "z_swapped"))))
        { nx := fun _ H' => Q .non H', rt := Q } [some (.ref p), some (.int e), some (.int m), some (.int w), some (swV s)] H := by
      refine ⟨_, rfl, _, rfl, p, C, dx, [], rfl, hp, T.cl, T.nE, (by show 0 < 1000; decide), ?_⟩
      refine ⟨_, rfl, _, rfl, p, C, dx, _, rfl, upd_same, T.cl, T.nM, (by show 1 < 1000; decide), ?_⟩
      refine ⟨_, rfl, _, rfl, p, C, dx, _, rfl, upd_same, T.cl, T.nW, (by show 2 < 1000; decide), ?_⟩
      refine ⟨_, rfl, _, rfl, p, C, dx, _, rfl, upd_same, T.cl, T.nS, (by show 3 < 1000; decide), ?_⟩
      exact q _ (by rw [upd_same]; rfl) ((Kp.put (by simp)).trans ((Kp.put (by simp)).trans ((Kp.put (by simp)).trans (Kp.put (by simp)))))
    cases s with
    | none => exact ⟨_, rfl, rfl, _, rfl, iteF (iteF rest)⟩
    | some i =>
      refine ⟨_, rfl, rfl, _, rfl, iteT ⟨_, rfl, _, _, rfl, Knd.int, _, rfl, ?_⟩⟩
      have ei : isP (swV (some i)) = true := isP_ok (ok.s0 i rfl).1 (ok.s0 i rfl).2
      rw [ei]
      exact iteF rest
end
end G69
namespace G69
open PySem PySem.Spec PyProof.Rows L2
/-! ### slips: made, their prices read -/
/-- a property that hands back a field -/
def Prp (P : Program) (w : World) (K : PySem.W.Frag) (mg : Str → Option Value) (base : Heap) (C : Addr) (f fld : Str) : Prop :=
  ∃ (p g : Addr) (fd : FuncData), PropOf K C f p g ∧ FnOk P w K mg base CX0 1 g fd ["self"] (getSp C fld) ∧ Binds K fd ["self"] []
abbrev ksS : List Str := ["extra", "missing", "wrong", "swapped"]
def MkS (P : Program) (w : World) (K : PySem.W.Frag) (mg : Str → Option Value) (base : Heap) (C : Addr) (sp : Sp) : Prop :=
  ∃ (f : Addr) (fd : FuncData) (g : List Value → List Value → List Value), Mk K C f ∧ FnOk P w K mg base CX0 3 f fd nSInit sp ∧ KBn K fd nSInit 1 ksS g (fun vs zs => vs ++ zs)
structure SlP (P : Program) (w : World) (K : PySem.W.Frag) (mg : Str → Option Value) (base : Heap) (C : Addr) : Prop where
  T : SlC K mg C
  mkc : MkS P w K mg base C (spSInit0 C)
  pE : Prp P w K mg base C "extra" "z_extra"
  pM : Prp P w K mg base C "missing" "z_missing"
  pW : Prp P w K mg base C "wrong" "z_wrong"
  pS : Prp P w K mg base C "swapped" "z_swapped"
section
variable {X : Cx} {C : Addr} {j : Nat} {p pos : Pos}
theorem pe_prp {f fld : Str} {e : Expr} {ta : TE} (he : PE X e ta) (T : Cls X.K C) (h : Prp X.prog X.w X.K X.mg X.base C f fld) (hr : Room j X.A) (hj : 2 ≤ j) (hab : attributeBase e f X.env (eval e X.env) = eval e X.env) :
    PE X (.Attribute e f pos) (tProp C (getSp C fld) [] E0 ta) := by
  obtain ⟨p, g, fd, hp, F, b⟩ := h
  exact pe_prop he T hp F (hr.mono hj) b .nil pass0 hab
theorem pe_mkS {kws : List Keyword} {tk : TA} {sp : Sp} (M : MkS X.prog X.w X.K X.mg X.base C sp) (hm : X.mg "Slips" = some (.ref C)) (hr : Room j X.A) (hj : 4 ≤ j) (hg : Gl X "Slips") (hkw : PK X kws tk)
    (hall : (backToKw pos (keywordEach kws X.env)).all (·.1.isSome) = true := by rfl) (hks : (backToKw pos (keywordEach kws X.env)).filterMap (·.1) = ksS := by rfl)
    (hpl : ((backTo pos (starEach [] X.env)).any (·.1) || (backToKw pos (keywordEach kws X.env)).any (·.1.isNone)) = false := by rfl) :
    PE X (.Call (.Name "Slips" p) [] kws pos) (tMakeK C 0 4 sp (fun vs zs => vs ++ zs) E0 tNil tk) := by
  obtain ⟨f, fd, g, mk, F, kb⟩ := M
  exact pe_makeK0 (ks := ksS) mk F (hr.mono hj) hg hm kb pass0 hkw hall hks (by decide) hpl
end
section
variable {P : Program} {w : World} {K : PySem.W.Frag} {mg : Str → Option Value} {base : Heap}
theorem sl_bind {f : Addr} {fd : FuncData} (F : FunD K "__init__" "Slips.__init__" (defArgs sSInit) (defBody sSInit) (defScope sSInit) [] kwS f fd) :
    ∃ g : List Value → List Value → List Value, KBn K fd nSInit 1 ksS g (fun vs zs => vs ++ zs) := by
  obtain ⟨mv, h⟩ := F.kbinds0 (ps := nSInit) 1 ksS [] (fun us _ ws => us ++ ws) (by intro z; cases z) (fun q hq => by cases hq) (fun r1 _ r3 => r1.append r3)
    (fun D doc pm an cdv ct us mv ws hu hm hw => by
      match us, hu, mv, hm, ws, hw with
      | [u], _, [], _, [w1, w2, w3, w4], _ => rfl)
  exact ⟨_, h⟩
/-! ### _law_slips -/
abbrev sLSlips : Stmt := topS 47
abbrev pLSlips : List Str := ["_law_prices_here"]
theorem scLSlips : FnScope ["_law_prices_here"] ["_law_prices_here"] (defScope sLSlips) := ⟨rfl, rfl, rfl, by decide +kernel, rfl, by decide +kernel, by decide +kernel⟩
def spLSlips (K : PySem.W.Frag) (C : Addr) : Sp := fun vs H Q _ => ∃ (a : Addr) (e m w : Int) (s : Option Int), vs = [.ref a] ∧ SqT K H a [.int e, .int m, .int w, swV s] ∧ PrOk e m w s ∧
  ∀ (x : Addr) (H' : Hp), H x = none → SlAt C H' x e m w s → Kp [] H H' → Q (.ref x) H'
theorem ok_lslips {f C : Addr} {fd : FuncData} (F : Fun K "_law_slips" "_law_slips" sLSlips f fd) (S : SlP P w K mg base C) : FnOk P w K mg base CX0 5 f fd ["_law_prices_here"] (spLSlips K C) := by
  refine F.ok scLSlips (fun vs H Q E h => ?_) (fun cdv A outer s H vs Q E hr h => ?_)
  · obtain ⟨a, e, m, w, s, rfl, _⟩ := h
    rfl
  · obtain ⟨a, e, m, w, s, rfl, hT, ok, q⟩ := h
    refine ⟨_, pss_one (ps_ret (pe_mkS S.mkc S.T.mgC hr (by decide) (by rfl) (pk_cons (pe_ix ix_tup (pv 0) pe_int (fun _ _ => rfl)) (pk_cons (pe_ix ix_tup (pv 0) pe_int (fun _ _ => rfl))
      (pk_cons (pe_ix ix_tup (pv 0) pe_int (fun _ _ => rfl)) (pk_cons (pe_ix ix_tup (pv 0) pe_int (fun _ _ => rfl)) pk_nil)))))), ?_⟩
    refine ⟨_, rfl, a, _, 0, _, rfl, rfl, hT, atI_nat (j := 0) rfl, _, rfl, a, _, 1, _, rfl, rfl, hT, atI_nat (j := 1) rfl, _, rfl, a, _, 2, _, rfl, rfl, hT, atI_nat (j := 2) rfl, _, rfl, a, _, 3, _, rfl, rfl, hT, atI_nat (j := 3) rfl, rfl, rfl, ?_⟩
    intro x dx hx hdx nex
    refine ⟨x, dx, e, m, w, s, rfl, ok, upd_same, fun H' h1 k => ⟨rfl, q x H' hx ⟨dx, h1⟩ ?_⟩⟩
    exact fun b o eb _ => k b o (by rw [upd_ne (ne_of_none eb hx), upd_ne (ne_of_none eb hdx)]; exact eb) (not1 (ne_of_none eb hx))
end
end G69
namespace G69
/-! ### readings and least costs: plain mathematics -/
structure Pz where
  e : Int
  m : Int
  w : Int
  s : Option Int
inductive Step where
  | same (a : Nat)
  | wrong (a b : Nat)
  | extra (b : Nat)
  | missing (a : Nat)
  | swapped (a b : Nat)
  deriving DecidableEq
def Step.meant : Step → List Nat
  | .same a => [a]
  | .wrong a _ => [a]
  | .extra _ => []
  | .missing a => [a]
  | .swapped a b => [a, b]
def Step.typed : Step → List Nat
  | .same a => [a]
  | .wrong _ b => [b]
  | .extra b => [b]
  | .missing _ => []
  | .swapped a b => [b, a]
def Step.pr (p : Pz) : Step → Int
  | .same _ => 0
  | .wrong _ _ => p.w
  | .extra _ => p.e
  | .missing _ => p.m
  | .swapped _ _ => p.s.getD 0
def Step.ok (p : Pz) : Step → Prop
  | .wrong a b => a ≠ b
  | .swapped a b => a ≠ b ∧ p.s ≠ none
  | _ => True
/-- the prices are at least 0 -/
structure Pz.Pos (p : Pz) : Prop where
  e : 0 ≤ p.e
  m : 0 ≤ p.m
  w : 0 ≤ p.w
  s : ∀ i, p.s = some i → 0 ≤ i
theorem Step.pr_nonneg {p : Pz} (h : p.Pos) (st : Step) : 0 ≤ st.pr p := by
  cases st with
  | same a => exact Int.le_refl _
  | wrong a b => exact h.w
  | extra b => exact h.e
  | missing a => exact h.m
  | swapped a b =>
    show 0 ≤ p.s.getD 0
    cases e : p.s with
    | none => exact Int.le_refl _
    | some i => exact h.s i e
def cost (p : Pz) (rs : List Step) : Int := (rs.map (Step.pr p)).sum
theorem cost_nil (p : Pz) : cost p [] = 0 := rfl
theorem cost_cons (p : Pz) (st : Step) (rs : List Step) : cost p (st :: rs) = st.pr p + cost p rs := by
  unfold cost
  rw [List.map_cons, List.sum_cons]
theorem cost_append (p : Pz) (a b : List Step) : cost p (a ++ b) = cost p a + cost p b := by
  induction a with
  | nil => rw [List.nil_append, cost_nil, Int.zero_add]
  | cons x r ih => rw [List.cons_append, cost_cons, cost_cons, ih, Int.add_assoc]
theorem cost_nonneg {p : Pz} (h : p.Pos) (rs : List Step) : 0 ≤ cost p rs := by
  induction rs with
  | nil => exact Int.le_refl _
  | cons x r ih =>
    rw [cost_cons]
    have := x.pr_nonneg h
    omega
structure Rdg (p : Pz) (t x : List Nat) (rs : List Step) : Prop where
  ok : ∀ st ∈ rs, st.ok p
  mt : rs.flatMap Step.meant = t
  ty : rs.flatMap Step.typed = x
structure Least (p : Pz) (t x : List Nat) (c : Int) : Prop where
  at_ : ∃ rs, Rdg p t x rs ∧ cost p rs = c
  le : ∀ rs, Rdg p t x rs → c ≤ cost p rs
theorem Least.unique {p : Pz} {t x : List Nat} {c d : Int} (h : Least p t x c) (g : Least p t x d) : c = d := by
  obtain ⟨rs, r1, e1⟩ := h.at_
  obtain ⟨qs, q1, f1⟩ := g.at_
  have a := h.le qs q1
  have b := g.le rs r1
  omega
theorem Rdg.nil {p : Pz} : Rdg p [] [] [] := ⟨fun _ h => (nomatch h), rfl, rfl⟩
theorem Rdg.append {p : Pz} {t x t' x' : List Nat} {a b : List Step} (h : Rdg p t x a) (g : Rdg p t' x' b) : Rdg p (t ++ t') (x ++ x') (a ++ b) where
  ok := fun st hs => (List.mem_append.mp hs).elim (h.ok st) (g.ok st)
  mt := by rw [List.flatMap_append, h.mt, g.mt]
  ty := by rw [List.flatMap_append, h.ty, g.ty]
theorem Rdg.one {p : Pz} {st : Step} (h : st.ok p) : Rdg p st.meant st.typed [st] where
  ok := fun s hs => by rw [List.mem_singleton.mp hs]; exact h
  mt := by rw [List.flatMap_cons, List.flatMap_nil, List.append_nil]
  ty := by rw [List.flatMap_cons, List.flatMap_nil, List.append_nil]
/-- all letters missing, then all extra: some reading there is -/
theorem Rdg.some (p : Pz) (t x : List Nat) : Rdg p t x (t.map Step.missing ++ x.map Step.extra) := by
  have h1 : ∀ t : List Nat, Rdg p t [] (t.map Step.missing) := by
    intro t
    induction t with
    | nil => exact Rdg.nil
    | cons a r ih => exact Rdg.append (t := [a]) (x := []) (Rdg.one (st := .missing a) trivial) ih
  have h2 : ∀ x : List Nat, Rdg p [] x (x.map Step.extra) := by
    intro x
    induction x with
    | nil => exact Rdg.nil
    | cons a r ih => exact Rdg.append (t := []) (x := [a]) (Rdg.one (st := .extra a) trivial) ih
  have h3 := (h1 t).append (h2 x)
  rw [List.append_nil, List.nil_append] at h3
  exact h3
theorem Least.exists_ {p : Pz} (h : p.Pos) (t x : List Nat) : ∃ c, Least p t x c := by
  have step : ∀ (n : Nat) (rs : List Step), Rdg p t x rs → (cost p rs).toNat ≤ n → ∃ c, Least p t x c := by
    intro n
    induction n with
    | zero =>
      intro rs hr hc
      refine ⟨cost p rs, ⟨rs, hr, rfl⟩, fun qs _ => ?_⟩
      have := cost_nonneg h qs
      have := cost_nonneg h rs
      omega
    | succ n ih =>
      intro rs hr hc
      by_cases hq : ∃ qs, Rdg p t x qs ∧ cost p qs < cost p rs
      · obtain ⟨qs, hq1, hq2⟩ := hq
        have := cost_nonneg h qs
        exact ih qs hq1 (by omega)
      · refine ⟨cost p rs, ⟨rs, hr, rfl⟩, fun qs hqs => ?_⟩
        by_cases hl : cost p qs < cost p rs
        · exact absurd ⟨qs, hqs, hl⟩ hq
        · omega
  exact step _ _ (Rdg.some p t x) (Nat.le_refl _)
open Classical in
noncomputable def lc (p : Pz) (t x : List Nat) : Int := if h : ∃ c, Least p t x c then Classical.choose h else 0
theorem lc_least {p : Pz} (h : p.Pos) (t x : List Nat) : Least p t x (lc p t x) := by
  have h1 := Least.exists_ h t x
  unfold lc
  rw [dif_pos h1]
  exact Classical.choose_spec h1
theorem lc_eq {p : Pz} (h : p.Pos) {t x : List Nat} {c : Int} (g : Least p t x c) : lc p t x = c := (lc_least h t x).unique g
/-! #### the last steps -/
/-- the last steps that may stand, in the program's order -/
def ls1 (x : List Nat) : List Step := match x.getLast? with | some b => [Step.extra b] | none => []
def ls2 (t : List Nat) : List Step := match t.getLast? with | some a => [Step.missing a] | none => []
def ls3 (t x : List Nat) : List Step := match x.getLast?, t.getLast? with | some b, some a => [if b = a then Step.same a else Step.wrong a b] | _, _ => []
def ls4 (p : Pz) (t x : List Nat) : List Step := match p.s, x.getLast?, x.dropLast.getLast?, t.getLast?, t.dropLast.getLast? with
  | some _, some b, some b2, some a, some a2 => if b = a2 ∧ b2 = a ∧ b ≠ b2 then [Step.swapped a2 a] else []
  | _, _, _, _, _ => []
def lastSteps (p : Pz) (t x : List Nat) : List Step := ls1 x ++ (ls2 t ++ (ls3 t x ++ ls4 p t x))
theorem snoc_of_last {l : List Nat} {a : Nat} (h : l.getLast? = some a) : l = l.dropLast ++ [a] := by
  have hn : l ≠ [] := by
    intro z
    subst z
    cases h
  have e := List.dropLast_concat_getLast hn
  rw [List.getLast?_eq_some_getLast hn] at h
  rw [Option.some.inj h] at e
  exact e.symm
theorem last_snoc (l : List Nat) (a : Nat) : (l ++ [a]).getLast? = some a := by simp
theorem mem_lastSteps {p : Pz} {t x : List Nat} {st : Step} : st ∈ lastSteps p t x ↔ st.ok p ∧ ∃ t' x', t = t' ++ st.meant ∧ x = x' ++ st.typed := by
  constructor
  · intro h
    unfold lastSteps ls1 ls2 ls3 ls4 at h
    rcases List.mem_append.mp h with h | h
    · cases e : x.getLast? with
      | none => rw [e] at h; cases h
      | some b =>
        rw [e] at h
        rw [List.mem_singleton.mp h]
        exact ⟨trivial, t, x.dropLast, by rw [Step.meant, List.append_nil], snoc_of_last e⟩
    rcases List.mem_append.mp h with h | h
    · cases e : t.getLast? with
      | none => rw [e] at h; cases h
      | some b =>
        rw [e] at h
        rw [List.mem_singleton.mp h]
        exact ⟨trivial, t.dropLast, x, snoc_of_last e, by rw [Step.typed, List.append_nil]⟩
    rcases List.mem_append.mp h with h | h
    · cases e : x.getLast? with
      | none => rw [e] at h; cases h
      | some b =>
        cases f : t.getLast? with
        | none => rw [e, f] at h; cases h
        | some a =>
          rw [e, f] at h
          rw [List.mem_singleton.mp h]
          by_cases hab : b = a
          · rw [if_pos hab]
            subst hab
            exact ⟨trivial, t.dropLast, x.dropLast, snoc_of_last f, snoc_of_last e⟩
          · rw [if_neg hab]
            exact ⟨fun z => hab z.symm, t.dropLast, x.dropLast, snoc_of_last f, snoc_of_last e⟩
    · split at h
      · rename_i b b2 a a2 hs hb hb2 ha ha2
        split at h
        · rename_i hc
          obtain ⟨h1, h2, h3⟩ := hc
          rw [List.mem_singleton.mp h]
          refine ⟨⟨fun z => h3 (by rw [h1, h2, z]), by rw [hs]; exact fun z => nomatch z⟩, t.dropLast.dropLast, x.dropLast.dropLast, ?_, ?_⟩
          · have e1 := snoc_of_last ha
            have e2 := snoc_of_last ha2
            rw [Step.meant]
            calc t = t.dropLast ++ [a] := e1
              _ = (t.dropLast.dropLast ++ [a2]) ++ [a] := by rw [← e2]
              _ = _ := by rw [List.append_assoc]; rfl
          · have e1 := snoc_of_last hb
            have e2 := snoc_of_last hb2
            rw [Step.typed]
            calc x = x.dropLast ++ [b] := e1
              _ = (x.dropLast.dropLast ++ [b2]) ++ [b] := by rw [← e2]
              _ = _ := by rw [List.append_assoc, h1, h2]; rfl
        · cases h
      · cases h
  · rintro ⟨hok, t', x', rfl, rfl⟩
    unfold lastSteps ls1 ls2 ls3 ls4
    cases st with
    | extra b =>
      apply List.mem_append_left
      rw [Step.typed, last_snoc]
      exact List.mem_singleton.mpr rfl
    | missing a =>
      apply List.mem_append_right
      apply List.mem_append_left
      rw [Step.meant, last_snoc]
      exact List.mem_singleton.mpr rfl
    | same a =>
      apply List.mem_append_right
      apply List.mem_append_right
      apply List.mem_append_left
      rw [Step.meant, Step.typed, last_snoc, last_snoc]
      show _ ∈ [if a = a then _ else _]
      rw [if_pos rfl]
      exact List.mem_singleton.mpr rfl
    | wrong a b =>
      apply List.mem_append_right
      apply List.mem_append_right
      apply List.mem_append_left
      rw [Step.meant, Step.typed, last_snoc, last_snoc]
      show _ ∈ [if b = a then _ else _]
      rw [if_neg (fun z => hok z.symm)]
      exact List.mem_singleton.mpr rfl
    | swapped a b =>
      apply List.mem_append_right
      apply List.mem_append_right
      apply List.mem_append_right
      have e1 : t' ++ [a, b] = (t' ++ [a]) ++ [b] := by simp
      have e2 : x' ++ [b, a] = (x' ++ [b]) ++ [a] := by simp
      rw [Step.meant, Step.typed, e1, e2, last_snoc, last_snoc, List.dropLast_concat, List.dropLast_concat, last_snoc, last_snoc]
      obtain ⟨h1, h2⟩ := hok
      cases hs : p.s with
      | none => exact absurd hs h2
      | some k =>
        show _ ∈ if a = a ∧ b = b ∧ a ≠ b then _ else _
        rw [if_pos ⟨rfl, rfl, h1⟩]
        exact List.mem_singleton.mpr rfl
/-- one turn of the table: the least cost by the last step -/
theorem least_step {p : Pz} {t x : List Nat} (f : Step → Int) (hne : lastSteps p t x ≠ [])
    (hf : ∀ st ∈ lastSteps p t x, Least p (t.take (t.length - st.meant.length)) (x.take (x.length - st.typed.length)) (f st))
    {c : Int} (hc : ∃ st ∈ lastSteps p t x, c = f st + st.pr p) (hm : ∀ st ∈ lastSteps p t x, c ≤ f st + st.pr p) : Least p t x c := by
  have cut : ∀ st ∈ lastSteps p t x, t = t.take (t.length - st.meant.length) ++ st.meant ∧ x = x.take (x.length - st.typed.length) ++ st.typed := by
    intro st hs
    obtain ⟨_, t', x', e1, e2⟩ := mem_lastSteps.mp hs
    constructor
    · rw [e1, List.length_append, Nat.add_sub_cancel, List.take_left]
    · rw [e2, List.length_append, Nat.add_sub_cancel, List.take_left]
  constructor
  · obtain ⟨st, hs, rfl⟩ := hc
    obtain ⟨rs, hr, he⟩ := (hf st hs).at_
    obtain ⟨e1, e2⟩ := cut st hs
    refine ⟨rs ++ [st], ?_, ?_⟩
    · have := hr.append (Rdg.one (mem_lastSteps.mp hs).1)
      rw [← e1, ← e2] at this
      exact this
    · rw [cost_append, he, cost_cons, cost_nil, Int.add_zero]
  · intro rs hr
    rcases List.eq_nil_or_concat rs with rfl | ⟨qs, st, e⟩
    · have ht : t = [] := hr.mt.symm
      have hx : x = [] := hr.ty.symm
      subst ht
      subst hx
      exact absurd (show lastSteps p [] [] = [] from by unfold lastSteps ls1 ls2 ls3 ls4; cases p.s <;> rfl) hne
    · rw [List.concat_eq_append] at e
      subst e
      have hok : st.ok p := hr.ok st (by simp)
      have ht : t = qs.flatMap Step.meant ++ st.meant := by
        rw [← hr.mt, List.flatMap_append, List.flatMap_cons, List.flatMap_nil, List.append_nil]
      have hx : x = qs.flatMap Step.typed ++ st.typed := by
        rw [← hr.ty, List.flatMap_append, List.flatMap_cons, List.flatMap_nil, List.append_nil]
      have hs : st ∈ lastSteps p t x := mem_lastSteps.mpr ⟨hok, _, _, ht, hx⟩
      have hl := (hf st hs).le qs ⟨fun s h => hr.ok s (List.mem_append_left _ h), by rw [ht, List.length_append, Nat.add_sub_cancel, List.take_left], by rw [hx, List.length_append, Nat.add_sub_cancel, List.take_left]⟩
      have := hm st hs
      rw [cost_append, cost_cons, cost_nil, Int.add_zero]
      omega
theorem least_nil {p : Pz} (h : p.Pos) : Least p [] [] 0 := ⟨⟨[], Rdg.nil, rfl⟩, fun rs _ => cost_nonneg h rs⟩
theorem lastSteps_nil {p : Pz} {t x : List Nat} : lastSteps p t x = [] ↔ t = [] ∧ x = [] := by
  constructor
  · intro h
    constructor
    · cases e : t.getLast? with
      | none => exact List.getLast?_eq_none_iff.mp e
      | some a =>
        have := mem_lastSteps (p := p) (t := t) (x := x) (st := .missing a) |>.mpr ⟨trivial, t.dropLast, x, snoc_of_last e, by rw [Step.typed, List.append_nil]⟩
        rw [h] at this
        cases this
    · cases e : x.getLast? with
      | none => exact List.getLast?_eq_none_iff.mp e
      | some a =>
        have := mem_lastSteps (p := p) (t := t) (x := x) (st := .extra a) |>.mpr ⟨trivial, t, x.dropLast, by rw [Step.meant, List.append_nil], snoc_of_last e⟩
        rw [h] at this
        cases this
  · rintro ⟨rfl, rfl⟩
    unfold lastSteps ls1 ls2 ls3 ls4
    cases p.s <;> rfl
end G69
namespace G69
open PySem PySem.Spec PyProof.Rows L2
/-! ### steps in the heap -/
def stepV : Step → List V
  | .same a => [.str "same", .str (sg a)]
  | .wrong a b => [.str "wrong", .str (sg a), .str (sg b)]
  | .extra b => [.str "extra", .str (sg b)]
  | .missing a => [.str "missing", .str (sg a)]
  | .swapped a b => [.str "swapped", .str (sg a), .str (sg b)]
def StepAt (H : Hp) (v : V) (st : Step) : Prop := ∃ p q, v = .ref p ∧ H p = some (.tup [.ref q, .int (st.meant.length : Int), .int (st.typed.length : Int)]) ∧ H q = some (.tup (stepV st))
theorem StepAt.keep {H H' : Hp} {v : V} {st : Step} (h : StepAt H v st) (k : ∀ a xs, H a = some (.tup xs) → H' a = some (.tup xs)) : StepAt H' v st := let ⟨p, q, e, h1, h2⟩ := h; ⟨p, q, e, k _ _ h1, k _ _ h2⟩
theorem Paired.map2 {α β : Type} {F G : α → β → Prop} : ∀ {l : List α} {m : List β}, Paired F l m → (∀ a b, F a b → G a b) → Paired G l m
  | _, _, .nil, _ => .nil
  | _, _, .cons r t, f => .cons (f _ _ r) (Paired.map2 t f)
theorem Paired.snoc {α β : Type} {F : α → β → Prop} {a : α} {b : β} (h : F a b) : ∀ {l : List α} {m : List β}, Paired F l m → Paired F (l ++ [a]) (m ++ [b])
  | _, _, .nil => .cons h .nil
  | _, _, .cons r t => .cons r (Paired.snoc h t)
structure LsI (H0 : Hp) (L : Addr) (H : Hp) (vs : List V) (acc : List Step) : Prop where
  hL : H L = some (.lst vs)
  pr : Paired (StepAt H) vs acc
  kp : Kp [] H0 H
  f0 : H0 L = none
theorem LsI.push {H0 H : Hp} {L p q : Addr} {vs : List V} {acc : List Step} {st : Step} (x : LsI H0 L H vs acc) (hq : H q = none) (hp : (upd H q (.tup (stepV st))) p = none) :
    LsI H0 L (upd (upd (upd H q (.tup (stepV st))) p (.tup [.ref q, .int (st.meant.length : Int), .int (st.typed.length : Int)])) L (.lst (vs ++ [.ref p]))) (vs ++ [.ref p]) (acc ++ [st]) := by
  have hqL : L ≠ q := ne_of_none x.hL hq
  have hpq : q ≠ p := ne_of_none upd_same hp
  have hpL : L ≠ p := by
    intro z
    subst z
    rw [upd_ne hqL, x.hL] at hp
    cases hp
  have keep : ∀ a xs, H a = some (.tup xs) → (upd (upd (upd H q (.tup (stepV st))) p (.tup [.ref q, .int (st.meant.length : Int), .int (st.typed.length : Int)])) L (.lst (vs ++ [.ref p]))) a = some (.tup xs) := by
    intro a xs e
    have e1 : a ≠ L := ne_of e x.hL (by intro z; cases z)
    have e2 : a ≠ q := ne_of_none e hq
    have e3 : a ≠ p := by
      intro z
      subst z
      rw [upd_ne e2, e] at hp
      cases hp
    rw [upd_ne e1, upd_ne e3, upd_ne e2]
    exact e
  refine ⟨upd_same, Paired.snoc ⟨p, q, rfl, ?_, ?_⟩ (Paired.map2 x.pr fun v s h => h.keep keep), (((x.kp.trans (Kp.new hq)).trans (Kp.new hp))).mut x.f0, x.f0⟩
  · rw [upd_ne hpL.symm, upd_same]
  · rw [upd_ne hqL.symm, upd_ne hpq, upd_same]
theorem LsI.still {H0 H : Hp} {L p q : Addr} {vs : List V} {acc : List Step} {o u : HO} (x : LsI H0 L H vs acc) (hq : H q = none) (hp : (upd H q o) p = none) : (upd (upd H q o) p u) L = some (.lst vs) := by
  have n1 : L ≠ q := ne_of_none x.hL hq
  have n2 : L ≠ p := ne_of_none (by rw [upd_ne n1]; exact x.hL) hp
  rw [upd_ne n2, upd_ne n1]
  exact x.hL
theorem Paired.len {α β : Type} {F : α → β → Prop} : ∀ {l : List α} {m : List β}, Paired F l m → l.length = m.length
  | _, _, .nil => rfl
  | _, _, .cons _ t => congrArg Nat.succ (Paired.len t)
theorem LsI.small {H0 H : Hp} {L : Addr} {vs : List V} {acc : List Step} (x : LsI H0 L H vs acc) (h : acc.length ≤ 100) : vs.length < sizeLine := szlt (by rw [Paired.len x.pr]; omega)
theorem ls1_len (x : List Nat) : (ls1 x).length ≤ 1 := by
  unfold ls1
  split
  · exact Nat.le_refl _
  · exact Nat.zero_le _
theorem ls2_len (x : List Nat) : (ls2 x).length ≤ 1 := by
  unfold ls2
  split
  · exact Nat.le_refl _
  · exact Nat.zero_le _
theorem ls3_len (t x : List Nat) : (ls3 t x).length ≤ 1 := by
  unfold ls3
  split
  · exact Nat.le_refl _
  · decide
theorem two_last {l : List Nat} (h : 2 ≤ l.length) : ∃ b b2, l.getLast? = some b ∧ l.dropLast.getLast? = some b2 := by
  have h1 : l ≠ [] := by
    intro z
    subst z
    exact absurd h (by decide)
  have h2 : l.dropLast ≠ [] := by
    intro z
    have := congrArg List.length z
    rw [List.length_dropLast] at this
    have e : ([] : List Nat).length = 0 := rfl
    omega
  exact ⟨_, _, List.getLast?_eq_some_getLast h1, List.getLast?_eq_some_getLast h2⟩
theorem drop_none {l : List Nat} (h : l.length ≤ 1) : l.dropLast.getLast? = none := by
  match l, h with
  | [], _ => rfl
  | [a], _ => rfl
theorem ls4_short {p : Pz} {t x : List Nat} (h : t.length ≤ 1 ∨ x.length ≤ 1) : ls4 p t x = [] := by
  unfold ls4
  rcases h with h | h
  · rw [drop_none h]
    split
    · rename_i z
      cases z
    · rfl
  · rw [drop_none h]
    split
    · rename_i z _ _
      cases z
    · rfl
/-! ### codes of texts -/
abbrev cd (z : Str) : List Nat := z.cps.toList
theorem cd_len (z : Str) : (cd z).length = z.length := Array.length_toList
theorem cd_inj {a b : Str} (h : cd a = cd b) : a = b := ext_toList h
theorem str_nil (z : Str) : decide (V.str z = V.str "") = (cd z).isEmpty := by
  have e : cd "" = [] := by decide +kernel
  by_cases h : cd z = []
  · have : z = "" := cd_inj (by rw [h, e])
    rw [this, e]
    decide
  · have h2 : ¬ V.str z = V.str "" := fun q => h (by rw [V.str.inj q, e])
    rw [decide_eq_false h2]
    cases h3 : cd z with
    | nil => exact absurd h3 h
    | cons a r => rfl
theorem at_last {l : List Nat} {b : Nat} (h : l.getLast? = some b) : atI l (-1) = some b := by
  have e := snoc_of_last h
  rw [e]
  exact atI_last _ _
theorem at_last2 {l : List Nat} {b b2 : Nat} (h : l.getLast? = some b) (h2 : l.dropLast.getLast? = some b2) : atI l (-2) = some b2 := by
  have e := snoc_of_last h
  have e2 := snoc_of_last h2
  rw [e2] at e
  have hl : l.length = l.dropLast.dropLast.length + 2 := by
    have := congrArg List.length e
    rw [List.length_append, List.length_append] at this
    exact this
  unfold atI ixN
  rw [if_neg (by decide), if_pos (by omega)]
  show l[((-2 : Int) + l.length).toNat]? = some b2
  have e3 : ((-2 : Int) + l.length).toNat = l.dropLast.dropLast.length := by omega
  rw [e3]
  have e4 : l[l.dropLast.dropLast.length]? = (l.dropLast.dropLast ++ [b2] ++ [b])[l.dropLast.dropLast.length]? := congrArg (fun m : List Nat => m[l.dropLast.dropLast.length]?) e
  rw [e4, List.append_assoc, List.getElem?_append_right (Nat.le_refl _), Nat.sub_self]
  rfl
theorem emp_none {l : List Nat} (h : l.getLast? = none) : l.isEmpty = true := by rw [List.getLast?_eq_none_iff.mp h]; rfl
theorem emp_some {l : List Nat} {b : Nat} (h : l.getLast? = some b) : l.isEmpty = false := by
  cases l with
  | nil => cases h
  | cons a r => rfl
theorem sg_inj (a b : Nat) : decide (V.str (sg a) = V.str (sg b)) = decide (a = b) := by
  by_cases h : a = b
  · subst h
    rw [decide_eq_true rfl, decide_eq_true rfl]
  · rw [decide_eq_false h, decide_eq_false]
    intro q
    have := congrArg cd (V.str.inj q)
    exact h (List.cons.inj this).1
section
variable {P : Program} {w : World} {K : PySem.W.Frag} {mg : Str → Option Value} {base : Heap}
/-! ### last_steps -/
abbrev sLast : Stmt := topS 19
abbrev nLast : List Str := ["slips", "target", "text", "found", "is_same"]
theorem scLast : FnScope nLast ["slips", "target", "text"] (defScope sLast) := ⟨rfl, rfl, rfl, by decide +kernel, rfl, by decide +kernel, by decide +kernel⟩
def spLast (C : Addr) : Sp := fun vs H Q _ => ∃ (x : Addr) (e m w : Int) (s : Option Int) (t z : Str), vs = [.ref x, .str t, .str z] ∧ SlAt C H x e m w s ∧ t.length ≤ 100000 ∧ z.length ≤ 100000 ∧
  ∀ (L : Addr) (vs' : List V) (H' : Hp), LsI H L H' vs' (lastSteps ⟨e, m, w, s⟩ (cd t) (cd z)) → Q (.ref L) H'
theorem ok_last {f C : Addr} {fd : FuncData} (F : Fun K "last_steps" "last_steps" sLast f fd) (S : SlP P w K mg base C) (mN : mg "len" = none) : FnOk P w K mg base CX0 3 f fd ["slips", "target", "text"] (spLast C) := by
  refine F.ok scLast (fun vs H Q E h => ?_) (fun cdv A outer sh H vs Q E hr h => ?_)
  · obtain ⟨x, e, m, w, s, t, z, rfl, _⟩ := h
    rfl
  · obtain ⟨x, e, m, w, s, t, z, rfl, hx, ht, hz, q⟩ := h
    refine ⟨_, pss_cons (ps_set (i := 3) scLast.nd rfl (.inl rfl) (pe_lst pa_nil))
      (C8.pss_cut (ps_if (pt_cmpR op_ne (pv 2) pe_str (nomark _)) (pss_one (ps_expr (pe_bm PySem.F.plainAttrs_list PySem.F.slot_list_append PySem.F.type_list_append mt_append (pv 3) (pa_cons (pe_tup (pa_cons
          (pe_tup (pa_cons pe_str (pa_cons (pe_ix ix_str (pv 2) (pe_un un_neg pe_int) (fun _ _ => rfl)) pa_nil))) (pa_cons pe_int (pa_cons pe_int pa_nil)))) pa_nil)))) pss_nil)
      (C8.pss_cut (ps_if (pt_cmpR op_ne (pv 1) pe_str (nomark _)) (pss_one (ps_expr (pe_bm PySem.F.plainAttrs_list PySem.F.slot_list_append PySem.F.type_list_append mt_append (pv 3) (pa_cons (pe_tup (pa_cons
          (pe_tup (pa_cons pe_str (pa_cons (pe_ix ix_str (pv 1) (pe_un un_neg pe_int) (fun _ _ => rfl)) pa_nil))) (pa_cons pe_int (pa_cons pe_int pa_nil)))) pa_nil)))) pss_nil)
      (C8.pss_cut (ps_if (PW.pt (pw_and (pt_cmpR op_ne (pv 2) pe_str (nomark _)) (pw_and1 (pt_cmpR op_ne (pv 1) pe_str (nomark _)))))
          (pss_cons (ps_set (i := 4) scLast.nd rfl (.inl rfl) (pe_cmpR op_eq (pe_ix ix_str (pv 2) (pe_un un_neg pe_int) (fun _ _ => rfl)) (pe_ix ix_str (pv 1) (pe_un un_neg pe_int) (fun _ _ => rfl)) (nomark _)))
          (pss_one (ps_expr (pe_bm PySem.F.plainAttrs_list PySem.F.slot_list_append PySem.F.type_list_append mt_append (pv 3) (pa_cons (pe_tup (pa_cons
            (pe_ifExp (pt_val (pv 4)) (pe_tup (pa_cons pe_str (pa_cons (pe_ix ix_str (pv 1) (pe_un un_neg pe_int) (fun _ _ => rfl)) pa_nil)))
              (pe_tup (pa_cons pe_str (pa_cons (pe_ix ix_str (pv 1) (pe_un un_neg pe_int) (fun _ _ => rfl)) (pa_cons (pe_ix ix_str (pv 2) (pe_un un_neg pe_int) (fun _ _ => rfl)) pa_nil)))))
            (pa_cons pe_int (pa_cons pe_int pa_nil)))) pa_nil))))) pss_nil)
      (C8.pss_cut (ps_if (PW.pt (pw_and (pt_cmpR op_notN (pe_prp (pv 0) S.T.cl S.pS hr (by decide) rfl) pe_non (nomark _)) (pw_and (pt_cmpR op_gt (pe_callB call_len_str (by rfl) mN PySem.boot_len (pa_cons (pv 2) pa_nil)) pe_int (nomark _))
            (pw_and1 (pt_cmpR op_gt (pe_callB call_len_str (by rfl) mN PySem.boot_len (pa_cons (pv 1) pa_nil)) pe_int (nomark _))))))
          (pss_one (ps_if (PW.pt (pw_and (pt_cmpR op_eq (pe_ix ix_str (pv 2) (pe_un un_neg pe_int) (fun _ _ => rfl)) (pe_ix ix_str (pv 1) (pe_un un_neg pe_int) (fun _ _ => rfl)) (nomark _))
              (pw_and (pt_cmpR op_eq (pe_ix ix_str (pv 2) (pe_un un_neg pe_int) (fun _ _ => rfl)) (pe_ix ix_str (pv 1) (pe_un un_neg pe_int) (fun _ _ => rfl)) (nomark _))
              (pw_and1 (pt_cmpR op_ne (pe_ix ix_str (pv 2) (pe_un un_neg pe_int) (fun _ _ => rfl)) (pe_ix ix_str (pv 2) (pe_un un_neg pe_int) (fun _ _ => rfl)) (nomark _))))))
            (pss_one (ps_expr (pe_bm PySem.F.plainAttrs_list PySem.F.slot_list_append PySem.F.type_list_append mt_append (pv 3) (pa_cons (pe_tup (pa_cons
              (pe_tup (pa_cons pe_str (pa_cons (pe_ix ix_str (pv 1) (pe_un un_neg pe_int) (fun _ _ => rfl)) (pa_cons (pe_ix ix_str (pv 1) (pe_un un_neg pe_int) (fun _ _ => rfl)) pa_nil)))) (pa_cons pe_int (pa_cons pe_int pa_nil)))) pa_nil)))) pss_nil)) pss_nil)
      (pss_one (ps_ret (pv 3))))))), ?_⟩
    refine ⟨szle (by show 0 ≤ 1000000; decide), fun L hL => ?_⟩
    have I0 : LsI H L (upd H L (.lst [])) [] [] := ⟨upd_same, .nil, Kp.new hL, hL⟩
    have hz' : z.length ≤ sizeLine := szle (by omega)
    have ht' : t.length ≤ sizeLine := szle (by omega)
    refine ⟨fun σ H2 => ∃ vs, σ = [some (.ref x), some (.str t), some (.str z), some (.ref L), none] ∧ LsI H L H2 vs (ls1 (cd z)), ?_, ?_⟩
    · refine ⟨_, rfl, rfl, _, rfl, ?_⟩
      rw [str_nil]
      cases e1 : (cd z).getLast? with
      | none =>
        rw [emp_none e1]
        exact iteF ⟨[], rfl, by unfold ls1; rw [e1]; exact I0⟩
      | some b =>
        rw [emp_some e1]
        have f1 : ls1 (cd z) = [.extra b] := by unfold ls1; rw [e1]
        rw [f1]
        refine iteT ⟨_, rfl, .inl ⟨rfl, _, .inl (.inl I0.hL)⟩, _, rfl, 1, rfl, z, -1, b, rfl, rfl, hz', at_last e1, szle (by show 2 ≤ 1000000; decide), fun q1 hq1 => ⟨szle (by show 3 ≤ 1000000; decide), fun p1 hp1 => ?_⟩⟩
        have I1 := I0.push (st := .extra b) hq1 hp1
        have hk : (upd (upd (upd H L (.lst [])) q1 (.tup (stepV (.extra b)))) p1 (.tup [.ref q1, .int 0, .int 1])) L = some (.lst []) := by
          have n1 : L ≠ q1 := ne_of_none I0.hL hq1
          have n2 : L ≠ p1 := ne_of_none (by rw [upd_ne n1]; exact I0.hL) hp1
          rw [upd_ne n2, upd_ne n1]
          exact I0.hL
        exact ⟨L, _, _, rfl, rfl, hk, szlt (by show 0 ≤ 1000000; decide), _, rfl, I1⟩
    · rintro σ2 H2 ⟨vs2, rfl, I2⟩
      refine ⟨fun σ H3 => ∃ vs, σ = [some (.ref x), some (.str t), some (.str z), some (.ref L), none] ∧ LsI H L H3 vs (ls1 (cd z) ++ ls2 (cd t)), ?_, ?_⟩
      · refine ⟨_, rfl, rfl, _, rfl, ?_⟩
        rw [str_nil]
        cases e1 : (cd t).getLast? with
        | none =>
          rw [emp_none e1]
          exact iteF ⟨vs2, rfl, by unfold ls2; rw [e1, List.append_nil]; exact I2⟩
        | some b =>
          rw [emp_some e1]
          have f2 : ls2 (cd t) = [.missing b] := by unfold ls2; rw [e1]
          rw [f2]
          refine iteT ⟨_, rfl, .inl ⟨rfl, _, .inl (.inl I2.hL)⟩, _, rfl, 1, rfl, t, -1, b, rfl, rfl, ht', at_last e1, szle (by show 2 ≤ 1000000; decide), fun q1 hq1 => ⟨szle (by show 3 ≤ 1000000; decide), fun p1 hp1 => ?_⟩⟩
          have I3 := I2.push (st := .missing b) hq1 hp1
          exact ⟨L, _, _, rfl, rfl, I2.still hq1 hp1, I2.small (by have := ls1_len (cd z); omega), _, rfl, I3⟩
      · rintro σ3 H3 ⟨vs3, rfl, I3⟩
        refine ⟨fun σ H4 => ∃ vs y, σ = [some (.ref x), some (.str t), some (.str z), some (.ref L), y] ∧ LsI H L H4 vs ((ls1 (cd z) ++ ls2 (cd t)) ++ ls3 (cd t) (cd z)), ?_, ?_⟩
        · refine ⟨_, rfl, rfl, _, rfl, ?_⟩
          rw [str_nil]
          cases e1 : (cd z).getLast? with
          | none =>
            rw [emp_none e1]
            refine iteF (iteF ⟨vs3, none, rfl, ?_⟩)
            unfold ls3
            rw [e1, List.append_nil]
            exact I3
          | some b =>
            rw [emp_some e1]
            refine iteT ⟨_, rfl, rfl, _, rfl, ?_⟩
            rw [str_nil]
            cases e2 : (cd t).getLast? with
            | none =>
              rw [emp_none e2]
              refine iteF ⟨vs3, none, rfl, ?_⟩
              unfold ls3
              rw [e1, e2, List.append_nil]
              exact I3
            | some a =>
              rw [emp_some e2]
              refine iteT ⟨_, rfl, 1, rfl, z, -1, b, rfl, rfl, hz', at_last e1, _, rfl, 1, rfl, t, -1, a, rfl, rfl, ht', at_last e2, rfl, ?_⟩
              refine ⟨_, rfl, .inl ⟨rfl, _, .inl (.inl I3.hL)⟩, _, rfl, _, rfl, ?_⟩
              rw [sg_inj]
              have hlen : (ls1 (cd z) ++ ls2 (cd t)).length ≤ 100 := by
                rw [List.length_append]
                have := ls1_len (cd z)
                have := ls2_len (cd t)
                omega
              have e3 : ls3 (cd t) (cd z) = [if b = a then Step.same a else Step.wrong a b] := by
                unfold ls3
                rw [e1, e2]
              rw [e3]
              by_cases hab : b = a
              · rw [decide_eq_true hab, if_pos hab]
                refine iteT ⟨_, rfl, 1, rfl, t, -1, a, rfl, rfl, ht', at_last e2, szle (by show 2 ≤ 1000000; decide), fun q1 hq1 => ⟨szle (by show 3 ≤ 1000000; decide), fun p1 hp1 => ?_⟩⟩
                have I4 := I3.push (st := .same a) hq1 hp1
                exact ⟨L, _, _, rfl, rfl, I3.still hq1 hp1, I3.small hlen, _, _, rfl, I4⟩
              · rw [decide_eq_false hab, if_neg hab]
                refine iteF ⟨_, rfl, 1, rfl, t, -1, a, rfl, rfl, ht', at_last e2, _, rfl, 1, rfl, z, -1, b, rfl, rfl, hz', at_last e1, szle (by show 3 ≤ 1000000; decide), fun q1 hq1 => ⟨szle (by show 3 ≤ 1000000; decide), fun p1 hp1 => ?_⟩⟩
                have I4 := I3.push (st := .wrong a b) hq1 hp1
                exact ⟨L, _, _, rfl, rfl, I3.still hq1 hp1, I3.small hlen, _, _, rfl, I4⟩
        · rintro σ4 H4 ⟨vs4, y, rfl, I4⟩
          refine ⟨fun σ H5 => ∃ vs, σ = [some (.ref x), some (.str t), some (.str z), some (.ref L), y] ∧ LsI H L H5 vs (((ls1 (cd z) ++ ls2 (cd t)) ++ ls3 (cd t) (cd z)) ++ ls4 ⟨e, m, w, s⟩ (cd t) (cd z)), ?_, ?_⟩
          · obtain ⟨dx, hx4⟩ := hx.keep I4.kp notnil
            refine ⟨_, rfl, x, dx, _, rfl, hx4, x, dx, _, swV s, rfl, hx4, rfl, rfl, _, rfl, ?_⟩
            cases s with
            | none =>
              refine iteF (iteF ⟨vs4, rfl, ?_⟩)
              unfold ls4
              rw [List.append_nil]
              exact I4
            | some k =>
              refine iteT ⟨_, rfl, z, rfl, hz', _, _, rfl, rfl, _, rfl, ?_⟩
              by_cases h1 : (1 : Int) < z.length
              · rw [decide_eq_true h1]
                refine iteT ⟨_, rfl, t, rfl, ht', _, _, rfl, rfl, _, rfl, ?_⟩
                by_cases h2 : (1 : Int) < t.length
                · rw [decide_eq_true h2]
                  obtain ⟨b, b2, eb, eb2⟩ := two_last (l := cd z) (by rw [cd_len]; omega)
                  obtain ⟨a, a2, ea, ea2⟩ := two_last (l := cd t) (by rw [cd_len]; omega)
                  have e4 : ls4 ⟨e, m, w, some k⟩ (cd t) (cd z) = if b = a2 ∧ b2 = a ∧ b ≠ b2 then [Step.swapped a2 a] else [] := by
                    unfold ls4
                    rw [eb, eb2, ea, ea2]
                  rw [e4]
                  refine iteT ⟨_, rfl, 1, rfl, z, -1, b, rfl, rfl, hz', at_last eb, _, rfl, 2, rfl, t, -2, a2, rfl, rfl, ht', at_last2 ea ea2, rfl, _, rfl, ?_⟩
                  rw [sg_inj]
                  by_cases c1 : b = a2
                  · rw [decide_eq_true c1]
                    refine iteT ⟨_, rfl, 2, rfl, z, -2, b2, rfl, rfl, hz', at_last2 eb eb2, _, rfl, 1, rfl, t, -1, a, rfl, rfl, ht', at_last ea, rfl, _, rfl, ?_⟩
                    rw [sg_inj]
                    by_cases c2 : b2 = a
                    · rw [decide_eq_true c2]
                      refine iteT ⟨_, rfl, 1, rfl, z, -1, b, rfl, rfl, hz', at_last eb, _, rfl, 2, rfl, z, -2, b2, rfl, rfl, hz', at_last2 eb eb2, rfl, _, rfl, ?_⟩
                      rw [sg_inj]
                      by_cases c3 : b = b2
                      · rw [decide_eq_true c3, if_neg (fun h => h.2.2 c3)]
                        exact iteF ⟨vs4, rfl, by rw [List.append_nil]; exact I4⟩
                      · rw [decide_eq_false c3, if_pos ⟨c1, c2, c3⟩]
                        refine iteT ⟨_, rfl, .inl ⟨rfl, _, .inl (.inl I4.hL)⟩, _, rfl, 2, rfl, t, -2, a2, rfl, rfl, ht', at_last2 ea ea2, _, rfl, 1, rfl, t, -1, a, rfl, rfl, ht', at_last ea,
                          szle (by show 3 ≤ 1000000; decide), fun q1 hq1 => ⟨szle (by show 3 ≤ 1000000; decide), fun p1 hp1 => ?_⟩⟩
                        have I5 := I4.push (st := .swapped a2 a) hq1 hp1
                        refine ⟨L, _, _, rfl, rfl, I4.still hq1 hp1, I4.small ?_, _, rfl, I5⟩
                        rw [List.length_append, List.length_append]
                        have := ls1_len (cd z)
                        have := ls2_len (cd t)
                        have := ls3_len (cd t) (cd z)
                        omega
                    · rw [decide_eq_false c2, if_neg (fun h => c2 h.2.1)]
                      exact iteF (iteF ⟨vs4, rfl, by rw [List.append_nil]; exact I4⟩)
                  · rw [decide_eq_false c1, if_neg (fun h => c1 h.1)]
                    exact iteF (iteF ⟨vs4, rfl, by rw [List.append_nil]; exact I4⟩)
                · rw [decide_eq_false h2]
                  refine iteF ⟨vs4, rfl, ?_⟩
                  rw [ls4_short (.inl (by rw [cd_len]; omega)), List.append_nil]
                  exact I4
              · rw [decide_eq_false h1]
                refine iteF (iteF ⟨vs4, rfl, ?_⟩)
                rw [ls4_short (.inr (by rw [cd_len]; omega)), List.append_nil]
                exact I4
          · rintro σ5 H5 ⟨vs5, rfl, I5⟩
            refine ⟨_, rfl, q L vs5 H5 ?_⟩
            unfold lastSteps
            rw [List.append_assoc, List.append_assoc] at I5
            exact I5
end
end G69
namespace G69
open PySem PySem.Spec PyProof.Rows L2
theorem cd_upto (z : Str) (j : Nat) : cd (cutS z none (some (j : Int))) = (cd z).take j := by
  unfold cutS cd
  rw [HT.sIx_nat, HT.sIx_none]
  show List.take (min j z.length - 0) z.cps.toList = _
  have hl : z.cps.toList.length = z.length := cd_len z
  rcases Nat.le_total j z.length with h | h
  · rw [Nat.min_eq_left h, Nat.sub_zero]
  · rw [Nat.min_eq_right h, Nat.sub_zero, List.take_of_length_le (by omega), List.take_of_length_le (by omega)]
theorem cd_from (z : Str) (j : Nat) : cd (cutS z (some (j : Int)) none) = (cd z).drop j := by
  unfold cutS cd
  rw [HT.sIx_nat, HT.sIx_none]
  show List.take (z.length - min j z.length) (List.drop (min j z.length) z.cps.toList) = _
  have hl : z.cps.toList.length = z.length := cd_len z
  rcases Nat.le_total j z.length with h | h
  · rw [Nat.min_eq_left h]
    exact List.take_of_length_le (by rw [List.length_drop]; omega)
  · rw [Nat.min_eq_right h, Nat.sub_self, List.drop_of_length_le (show z.cps.toList.length ≤ j by omega)]
    rfl
theorem cut_len (z : Str) (lo hi : Option Int) : (cutS z lo hi).length ≤ z.length := cutS_length z lo hi
theorem cat_cd (a b : Str) : cd (a ++ b) = cd a ++ cd b := by
  show (a ++ b).cps.toList = _
  rw [Str.cps_append, Array.toList_append]
section
variable {P : Program} {w : World} {K : PySem.W.Frag} {mg : Str → Option Value} {base : Heap}
/-! ### step_price -/
abbrev sStepP : Stmt := topS 20
theorem scStepP : FnScope ["slips", "step"] ["slips", "step"] (defScope sStepP) := ⟨rfl, rfl, rfl, by decide +kernel, rfl, by decide +kernel, by decide +kernel⟩
def spStepP (K : PySem.W.Frag) (C : Addr) : Sp := fun vs H Q _ => ∃ (x q : Addr) (e m w : Int) (s : Option Int) (st : Step), vs = [.ref x, .ref q] ∧ SlAt C H x e m w s ∧ SqT K H q (stepV st) ∧ st.ok ⟨e, m, w, s⟩ ∧ Q (.int (st.pr ⟨e, m, w, s⟩)) H
theorem ok_stepP {f C : Addr} {fd : FuncData} (F : Fun K "step_price" "step_price" sStepP f fd) (S : SlP P w K mg base C) : FnOk P w K mg base CX0 3 f fd ["slips", "step"] (spStepP K C) := by
  refine F.ok scStepP (fun vs H Q E h => ?_) (fun cdv A outer sh H vs Q E hr h => ?_)
  · obtain ⟨x, q, e, m, w, s, st, rfl, _⟩ := h
    rfl
  · obtain ⟨x, q, e, m, w, s, st, rfl, ⟨dx, hx⟩, hq, hok, k⟩ := h
    refine ⟨_, pss_cons (ps_if (pt_cmpR op_eq (pe_ix ix_tup (pv 1) pe_int (fun _ _ => rfl)) pe_str (nomark _)) (pss_one (ps_ret pe_int)) pss_nil)
      (pss_cons (ps_if (pt_cmpR op_eq (pe_ix ix_tup (pv 1) pe_int (fun _ _ => rfl)) pe_str (nomark _)) (pss_one (ps_ret (pe_prp (pv 0) S.T.cl S.pW hr (by decide) rfl))) pss_nil)
      (pss_cons (ps_if (pt_cmpR op_eq (pe_ix ix_tup (pv 1) pe_int (fun _ _ => rfl)) pe_str (nomark _)) (pss_one (ps_ret (pe_prp (pv 0) S.T.cl S.pE hr (by decide) rfl))) pss_nil)
      (pss_one (ps_ret (pe_ifExp (pt_cmpR op_eq (pe_ix ix_tup (pv 1) pe_int (fun _ _ => rfl)) pe_str (nomark _)) (pe_prp (pv 0) S.T.cl S.pM hr (by decide) rfl) (pe_prp (pv 0) S.T.cl S.pS hr (by decide) rfl)))))), ?_⟩
    cases st with
    | same a => exact ⟨_, rfl, q, _, 0, _, rfl, rfl, hq, atI_nat (j := 0) rfl, rfl, _, rfl, iteT k⟩
    | wrong a b =>
      refine ⟨_, rfl, q, _, 0, _, rfl, rfl, hq, atI_nat (j := 0) rfl, rfl, _, rfl, iteF ?_⟩
      exact ⟨_, rfl, q, _, 0, _, rfl, rfl, hq, atI_nat (j := 0) rfl, rfl, _, rfl, iteT ⟨_, rfl, x, dx, _, rfl, hx, x, dx, _, _, rfl, hx, rfl, k⟩⟩
    | extra b =>
      refine ⟨_, rfl, q, _, 0, _, rfl, rfl, hq, atI_nat (j := 0) rfl, rfl, _, rfl, iteF ?_⟩
      refine ⟨_, rfl, q, _, 0, _, rfl, rfl, hq, atI_nat (j := 0) rfl, rfl, _, rfl, iteF ?_⟩
      exact ⟨_, rfl, q, _, 0, _, rfl, rfl, hq, atI_nat (j := 0) rfl, rfl, _, rfl, iteT ⟨_, rfl, x, dx, _, rfl, hx, x, dx, _, _, rfl, hx, rfl, k⟩⟩
    | missing a =>
      refine ⟨_, rfl, q, _, 0, _, rfl, rfl, hq, atI_nat (j := 0) rfl, rfl, _, rfl, iteF ?_⟩
      refine ⟨_, rfl, q, _, 0, _, rfl, rfl, hq, atI_nat (j := 0) rfl, rfl, _, rfl, iteF ?_⟩
      refine ⟨_, rfl, q, _, 0, _, rfl, rfl, hq, atI_nat (j := 0) rfl, rfl, _, rfl, iteF ?_⟩
      exact ⟨_, rfl, q, _, 0, _, rfl, rfl, hq, atI_nat (j := 0) rfl, rfl, _, rfl, iteT ⟨_, rfl, x, dx, _, rfl, hx, x, dx, _, _, rfl, hx, rfl, k⟩⟩
    | swapped a b =>
      refine ⟨_, rfl, q, _, 0, _, rfl, rfl, hq, atI_nat (j := 0) rfl, rfl, _, rfl, iteF ?_⟩
      refine ⟨_, rfl, q, _, 0, _, rfl, rfl, hq, atI_nat (j := 0) rfl, rfl, _, rfl, iteF ?_⟩
      refine ⟨_, rfl, q, _, 0, _, rfl, rfl, hq, atI_nat (j := 0) rfl, rfl, _, rfl, iteF ?_⟩
      refine ⟨_, rfl, q, _, 0, _, rfl, rfl, hq, atI_nat (j := 0) rfl, rfl, _, rfl, iteF ⟨_, rfl, x, dx, _, rfl, hx, x, dx, _, swV s, rfl, hx, rfl, ?_⟩⟩
      cases s with
      | none => exact absurd rfl hok.2
      | some i => exact k
theorem ls4_len (p : Pz) (t x : List Nat) : (ls4 p t x).length ≤ 1 := by
  unfold ls4
  split
  · split
    · exact Nat.le_refl _
    · exact Nat.zero_le _
  · exact Nat.zero_le _
theorem Paired.at {α β : Type} {F : α → β → Prop} : ∀ {l : List α} {m : List β} {k : Nat} {a : α}, Paired F l m → l[k]? = some a → ∃ b, m[k]? = some b ∧ F a b
  | _, _, 0, _, .cons r _, h => ⟨_, rfl, by cases h; exact r⟩
  | _, _, k + 1, _, .cons _ t, h => Paired.at (k := k) t h
/-! ### price_lines -/
abbrev sLines : Stmt := topS 21
abbrev nLines : List Str := ["slips", "target", "text", "lines", "typed", "line", "meant", "some", "step", "less", "fewer", "ahead"]
theorem scLines : FnScope nLines ["slips", "target", "text"] (defScope sLines) := ⟨rfl, rfl, rfl, by decide +kernel, rfl, by decide +kernel, by decide +kernel⟩
noncomputable def val (p : Pz) (t x : List Nat) (i j : Nat) : Int := lc p (t.take j) (x.take i)
noncomputable def rowV (p : Pz) (t x : List Nat) (i n : Nat) : List V := (List.range n).map fun j => V.int (val p t x i j)
def RowsAt (p : Pz) (t x : List Nat) (H : Hp) (rs : List V) (i : Nat) : Prop := rs.length = i ∧ ∀ k : Nat, k < i → ∃ a, rs[k]? = some (.ref a) ∧ H a = some (.lst (rowV p t x k (t.length + 1)))
theorem RowsAt.keep {p : Pz} {t x : List Nat} {H H' : Hp} {rs : List V} {i : Nat} (h : RowsAt p t x H rs i) (k : Kp [] H H') : RowsAt p t x H' rs i := ⟨h.1, fun n hn => let ⟨a, e1, e2⟩ := h.2 n hn; ⟨a, e1, k _ _ e2 notnil⟩⟩
theorem rowV_at {p : Pz} {t x : List Nat} {i n j : Nat} (h : j < n) : (rowV p t x i n)[j]? = some (V.int (val p t x i j)) := by
  unfold rowV
  rw [List.getElem?_map, List.getElem?_range h]
  rfl
theorem rowV_succ (p : Pz) (t x : List Nat) (i n : Nat) : rowV p t x i (n + 1) = rowV p t x i n ++ [V.int (val p t x i n)] := by
  unfold rowV
  rw [List.range_succ, List.map_append]
  rfl
theorem rowV_len (p : Pz) (t x : List Nat) (i n : Nat) : (rowV p t x i n).length = n := by
  unfold rowV
  rw [List.length_map, List.length_range]
def spLines (C : Addr) : Sp := fun vs H Q _ => ∃ (x : Addr) (e m w : Int) (s : Option Int) (t z : Str), vs = [.ref x, .str t, .str z] ∧ SlAt C H x e m w s ∧ PrOk e m w s ∧ t.length ≤ 1000 ∧ z.length ≤ 1000 ∧
  ∀ (L : Addr) (rs : List V) (H' : Hp), H L = none → H' L = some (.lst rs) → RowsAt ⟨e, m, w, s⟩ (cd t) (cd z) H' rs (z.length + 1) → Kp [] H H' → Q (.ref L) H'
theorem PrOk.pos {e m w : Int} {s : Option Int} (h : PrOk e m w s) : Pz.Pos ⟨e, m, w, s⟩ := ⟨by have := h.e0; show 0 ≤ e; omega, by have := h.m0; show 0 ≤ m; omega, by have := h.w0; show 0 ≤ w; omega, fun i hi => by have := h.s0 i hi; omega⟩
/-- the sum behind a last step -/
noncomputable def vSt (p : Pz) (t x : List Nat) (st : Step) : Int := lc p (t.take (t.length - st.meant.length)) (x.take (x.length - st.typed.length)) + st.pr p
set_option maxHeartbeats 1000000 in
theorem ok_lines {f C : Addr} {fd : FuncData} (F : Fun K "price_lines" "price_lines" sLines f fd) (S : SlP P w K mg base C) (CL : Cal P w K mg base "last_steps" ["slips", "target", "text"] 3 (spLast C)) (CS : Cal P w K mg base "step_price" ["slips", "step"] 3 (spStepP K C))
    (mN : mg "len" = none) (mR : mg "range" = none) (mM : mg "min" = none) : FnOk P w K mg base CX0 4 f fd ["slips", "target", "text"] (spLines C) := by
  refine F.ok scLines (fun vs H Q E h => ?_) (fun cdv A outer sh H vs Q E hr h => ?_)
  · obtain ⟨x, e, m, w, s, t, z, rfl, _⟩ := h
    rfl
  · obtain ⟨x, e, m, w, s, t, z, rfl, hx, ok, ht, hz, q⟩ := h
    have hu := hu_of hr
    refine ⟨_, pss_cons (ps_set (i := 3) scLines.nd rfl (.inl rfl) (pe_lst pa_nil))
      (pss_cons (ps_for PassesOwn.never rfl (pi_range1 (by rfl) mR (pa_cons (pe_op op_add (pe_callB call_len_str (by rfl) mN PySem.boot_len (pa_cons (pv 2) pa_nil)) pe_int) pa_nil)) (pg_name (i := 4) scLines.nd rfl (.inl rfl))
        (pss_cons (ps_set (i := 5) scLines.nd rfl (.inl rfl) (pe_lst pa_nil))
        (pss_cons (ps_for PassesOwn.never rfl (pi_range1 (by rfl) mR (pa_cons (pe_op op_add (pe_callB call_len_str (by rfl) mN PySem.boot_len (pa_cons (pv 1) pa_nil)) pe_int) pa_nil)) (pg_name (i := 6) scLines.nd rfl (.inl rfl))
          (pss_cons (ps_set (i := 7) scLines.nd rfl (.inl rfl) (pe_lst pa_nil))
          (pss_cons (ps_for PassesOwn.never rfl (pi_list (pe_cal CL hr (by decide) (by rfl) (pa_cons (pv 0) (pa_cons (pe_slice sl_str (pv 1) po_none (po_some (pv 6))) (pa_cons (pe_slice sl_str (pv 2) po_none (po_some (pv 4))) pa_nil)))))
              (pg_tup rfl (pgs_cons (pg_name (i := 8) scLines.nd rfl (.inl rfl)) (pgs_cons (pg_name (i := 9) scLines.nd rfl (.inl rfl)) (pgs_cons (pg_name (i := 10) scLines.nd rfl (.inl rfl)) pgs_nil))))
            (pss_cons (ps_set (i := 11) scLines.nd rfl (.inl rfl) (pe_ifExp (pt_cmpR op_eq (pv 10) pe_int (nomark _)) (pe_ix ix_list (pv 5) (pe_op op_sub (pv 6) (pv 9)) (fun _ _ => rfl))
                (pe_ix ix_list (pe_ix ix_list (pv 3) (pe_op op_sub (pv 4) (pv 10)) (fun _ _ => rfl)) (pe_op op_sub (pv 6) (pv 9)) (fun _ _ => rfl))))
            (pss_one (ps_expr (pe_bm PySem.F.plainAttrs_list PySem.F.slot_list_append PySem.F.type_list_append mt_append (pv 7) (pa_cons (pe_op op_add (pv 11) (pe_cal CS hr (by decide) (by rfl) (pa_cons (pv 0) (pa_cons (pv 8) pa_nil)))) pa_nil))))))
          (pss_one (ps_expr (pe_bm PySem.F.plainAttrs_list PySem.F.slot_list_append PySem.F.type_list_append mt_append (pv 5) (pa_cons (pe_ifExp (pt_cmpR (op_neD hr.units) (pv 7) (pe_lst pa_nil) (nomark _))
            (pe_callB (cr_min rfl) (by rfl) mM (by decide +kernel) (pa_cons (pv 7) pa_nil)) pe_int) pa_nil)))))))
        (pss_one (ps_expr (pe_bm PySem.F.plainAttrs_list PySem.F.slot_list_append PySem.F.type_list_append mt_append (pv 3) (pa_cons (pv 5) pa_nil)))))))
      (pss_one (ps_ret (pv 3)))), ?_⟩
    have hz' : z.length ≤ sizeLine := szle (by omega)
    have ht' : t.length ≤ sizeLine := szle (by omega)
    have hlt : (cd t).length = t.length := cd_len t
    have hlz : (cd z).length = z.length := cd_len z
    have pos : Pz.Pos ⟨e, m, w, s⟩ := ok.pos
    refine ⟨szle (by show 0 ≤ 1000000; decide), fun L hL => ?_⟩
    refine ⟨_, rfl, z, rfl, hz', _, _, rfl, rfl, ((z.length + 1 : Nat) : Int), rfl, by omega, by omega, for_range (lo := 0) (n := z.length + 1)
      (fun i σ H2 => ∃ (y4 y5 y6 y7 y8 y9 y10 y11 : Option V) (rs : List V), σ = [some (.ref x), some (.str t), some (.str z), some (.ref L), y4, y5, y6, y7, y8, y9, y10, y11] ∧ H2 L = some (.lst rs) ∧ RowsAt ⟨e, m, w, s⟩ (cd t) (cd z) H2 rs i ∧ Kp [] H H2)
      ⟨none, none, none, none, none, none, none, none, [], rfl, upd_same, ⟨rfl, fun k hk => absurd hk (Nat.not_lt_zero k)⟩, Kp.new hL⟩ ?_ ?_⟩
    · rintro i σ H1 hi ⟨y4, y5, y6, y7, y8, y9, y10, y11, rs, rfl, hrs, hro, k1⟩
      -- line = []
      refine ⟨szle (by show 0 ≤ 1000000; decide), fun ln hln => ?_⟩
      have nLl : L ≠ ln := ne_of_none hrs hln
      refine ⟨_, rfl, t, rfl, ht', _, _, rfl, rfl, ((t.length + 1 : Nat) : Int), rfl, by omega, by omega, for_range (lo := 0) (n := t.length + 1)
        (fun j σ H2 => ∃ (y6 y7 y8 y9 y10 y11 : Option V), σ = [some (.ref x), some (.str t), some (.str z), some (.ref L), some (.int (0 + (i : Int))), some (.ref ln), y6, y7, y8, y9, y10, y11] ∧ H2 ln = some (.lst (rowV ⟨e, m, w, s⟩ (cd t) (cd z) i j)) ∧ Kp [] H1 H2)
        ⟨y6, y7, y8, y9, y10, y11, rfl, by rw [upd_same]; rfl, Kp.new hln⟩ ?_ ?_⟩
      · rintro j σ H3 hj ⟨y6, y7, y8, y9, y10, y11, rfl, hl3, k3⟩
        -- some = []
        refine ⟨szle (by show 0 ≤ 1000000; decide), fun so hso => ?_⟩
        have nLs : ln ≠ so := ne_of_none hl3 hso
        have k13 : Kp [] H1 (upd H3 so (.lst [])) := k3.trans (Kp.new hso)
        have hxs : SlAt C (upd H3 so (.lst [])) x e m w s := (hx.keep k1 notnil).keep k13 notnil
        have ej : ((0 : Int) + (j : Int)) = ((j : Nat) : Int) := Int.zero_add _
        have ei : ((0 : Int) + (i : Int)) = ((i : Nat) : Int) := Int.zero_add _
        rw [ej, ei]
        have l1 := cut_len t none (some (j : Int))
        have l2 := cut_len z none (some (i : Int))
        refine ⟨_, rfl, _, rfl, _, rfl, (j : Int), rfl, t, rfl, ht', _, rfl, _, rfl, (i : Int), rfl, z, rfl, hz', x, e, m, w, s, _, _, rfl, hxs, by omega, by omega, fun Ls vs H4 I4 => ?_⟩
        rw [cd_upto, cd_upto] at I4
        have hso4 : H4 so = some (.lst []) := I4.kp _ _ upd_same notnil
        have nLss : Ls ≠ so := by
          intro zz
          have := I4.f0
          rw [zz, upd_same] at this
          cases this
        have hlv : vs.length = (lastSteps ⟨e, m, w, s⟩ ((cd t).take j) ((cd z).take i)).length := Paired.len I4.pr
        have hst : ∀ st ∈ lastSteps ⟨e, m, w, s⟩ ((cd t).take j) ((cd z).take i), st.meant.length ≤ j ∧ st.typed.length ≤ i ∧ st.ok ⟨e, m, w, s⟩ := by
          intro st hs
          obtain ⟨o1, t', x', e1, e2⟩ := mem_lastSteps.mp hs
          have f1 := congrArg List.length e1
          have f2 := congrArg List.length e2
          rw [List.length_append, List.length_take] at f1 f2
          exact ⟨by omega, by omega, o1⟩
        have hl5 : (lastSteps ⟨e, m, w, s⟩ ((cd t).take j) ((cd z).take i)).length ≤ 100 := by
          unfold lastSteps
          rw [List.length_append, List.length_append, List.length_append]
          have := ls1_len ((cd z).take i)
          have := ls2_len ((cd t).take j)
          have := ls3_len ((cd t).take j) ((cd z).take i)
          have := ls4_len ⟨e, m, w, s⟩ ((cd t).take j) ((cd z).take i)
          omega
        refine ⟨Ls, rfl, ⟨_, .inl (.inl I4.hL)⟩, for_list (K := K) (a := Ls) (xs := vs)
          (fun k σ H5 => ∃ (y8 y9 y10 y11 : Option V), σ = [some (.ref x), some (.str t), some (.str z), some (.ref L), some (.int (i : Int)), some (.ref ln), some (.int (j : Int)), some (.ref so), y8, y9, y10, y11] ∧
            H5 so = some (.lst ((((lastSteps ⟨e, m, w, s⟩ ((cd t).take j) ((cd z).take i)).take k).map (vSt ⟨e, m, w, s⟩ ((cd t).take j) ((cd z).take i))).map V.int)) ∧ Kp [so] H4 H5)
          ⟨y8, y9, y10, y11, rfl, hso4, Kp.rfl'⟩ ?_ ?_ ?_⟩
        · rintro k σ H5 _ ⟨y8, y9, y10, y11, rfl, h5, k5⟩
          exact .inl (.inl (k5 _ _ I4.hL (not1 nLss)))
        · rintro k v σ H5 hv ⟨y8, y9, y10, y11, rfl, h5, k5⟩
          obtain ⟨st, hst1, ⟨p, qq, rfl, hp, hqq⟩⟩ := Paired.at I4.pr hv
          have hmem := List.mem_of_getElem? hst1
          obtain ⟨lm, lt, lo⟩ := hst st hmem
          have hp5 := k5 _ _ hp (not1 (ne_of hp hso4 (by intro z; cases z)))
          have hq5 := k5 _ _ hqq (not1 (ne_of hqq hso4 (by intro z; cases z)))
          have kk : Kp [so] H3 H5 := ((Kp.new hso).trans (I4.kp.mono (fun a ha => nomatch ha))).trans k5
          have hx5 : SlAt C H5 x e m w s := (((hx.keep k1 notnil).keep k3 notnil)).keep kk (not1 (by
            intro zz
            obtain ⟨dx, hh⟩ := (hx.keep k1 notnil).keep k3 notnil
            rw [zz, hso] at hh
            cases hh))
          have hl5' := kk _ _ hl3 (not1 nLs)
          have hrs5 : H5 L = some (.lst rs) := kk _ _ (k3 _ _ hrs notnil) (not1 (ne_of_none (k3 _ _ hrs notnil) hso))
          refine ⟨p, _, rfl, .inl (.inl hp5), rfl, _, _, rfl, _, _, rfl, _, _, rfl, rfl, ?_⟩
          have fin : ∀ y, (lc ⟨e, m, w, s⟩ (((cd t).take j).take (((cd t).take j).length - st.meant.length)) (((cd z).take i).take (((cd z).take i).length - st.typed.length))) = y →
              H5 so = some (.lst ((((lastSteps ⟨e, m, w, s⟩ ((cd t).take j) ((cd z).take i)).take k).map (vSt ⟨e, m, w, s⟩ ((cd t).take j) ((cd z).take i))).map V.int)) →
              (((lastSteps ⟨e, m, w, s⟩ ((cd t).take j) ((cd z).take i)).take k).map (vSt ⟨e, m, w, s⟩ ((cd t).take j) ((cd z).take i))).map V.int ++ [V.int (y + st.pr ⟨e, m, w, s⟩)] =
              (((lastSteps ⟨e, m, w, s⟩ ((cd t).take j) ((cd z).take i)).take (k + 1)).map (vSt ⟨e, m, w, s⟩ ((cd t).take j) ((cd z).take i))).map V.int := by
            intro y hy _
            rw [List.take_add_one, hst1, List.map_append, List.map_append, ← hy]
            rfl
          have hsz : ((((lastSteps ⟨e, m, w, s⟩ ((cd t).take j) ((cd z).take i)).take k).map (vSt ⟨e, m, w, s⟩ ((cd t).take j) ((cd z).take i))).map V.int).length < sizeLine := by
            refine szlt ?_
            rw [List.length_map, List.length_map, List.length_take]
            omega
          have ea : ∀ a : Nat, a = i - st.typed.length → lc ⟨e, m, w, s⟩ (((cd t).take j).take (((cd t).take j).length - st.meant.length)) (((cd z).take i).take (((cd z).take i).length - st.typed.length)) = val ⟨e, m, w, s⟩ (cd t) (cd z) a (j - st.meant.length) := by
            intro a ha
            unfold val
            rw [List.length_take, List.length_take, List.take_take, List.take_take]
            rw [show min (min j (cd t).length - st.meant.length) j = j - st.meant.length by omega, show min (min i (cd z).length - st.typed.length) i = a by omega]
          have ndx : (j : Int) - (st.meant.length : Int) = ((j - st.meant.length : Nat) : Int) := by omega
          have ndi : (i : Int) - (st.typed.length : Int) = ((i - st.typed.length : Nat) : Int) := by omega
          refine ⟨_, rfl, rfl, _, rfl, ?_⟩
          by_cases hf : st.typed.length = 0
          · have hd : decide (V.int (st.typed.length : Int) = V.int 0) = true := decide_eq_true (by rw [hf]; rfl)
            rw [hd]
            have hm1 : 0 < st.meant.length := by
              cases st with
              | extra b => exact absurd hf (Nat.succ_ne_zero 0)
              | _ => exact Nat.succ_pos _
            refine iteT ⟨_, rfl, _, rfl, _, rfl, _, _, rfl, rfl, ln, _, _, V.int (val ⟨e, m, w, s⟩ (cd t) (cd z) i (j - st.meant.length)), rfl, rfl, .inl (.inl hl5'), ?_, ?_⟩
            · show atI _ ((j : Int) - (st.meant.length : Int)) = _
              rw [ndx]
              exact atI_nat (rowV_at (by omega))
            · refine ⟨_, rfl, .inl ⟨rfl, _, .inl (.inl h5)⟩, _, rfl, _, rfl, _, rfl, x, qq, e, m, w, s, st, rfl, hx5, .inl (.inl hq5), lo, _, _, rfl, rfl, so, _, _, rfl, rfl, h5, hsz, ?_⟩
              refine ⟨_, _, _, _, rfl, ?_, k5.trans (Kp.put (by simp))⟩
              rw [upd_same]
              exact congrArg (fun l => some (HO.lst l)) (fin _ (ea i (by omega)) h5)
          · have hd : decide (V.int (st.typed.length : Int) = V.int 0) = false := decide_eq_false (by intro zz; have := V.int.inj zz; omega)
            rw [hd]
            obtain ⟨ra, hra1, hra2⟩ := hro.2 (i - st.typed.length) (by omega)
            have hra5 : H5 ra = some (.lst (rowV ⟨e, m, w, s⟩ (cd t) (cd z) (i - st.typed.length) ((cd t).length + 1))) := kk _ _ (k3 _ _ hra2 notnil) (not1 (ne_of_none (k3 _ _ hra2 notnil) hso))
            refine iteF ⟨_, rfl, _, rfl, _, rfl, _, _, rfl, rfl, L, rs, _, .ref ra, rfl, rfl, .inl (.inl hrs5), ?_, _, rfl, _, rfl, _, _, rfl, rfl, ra, _, _, V.int (val ⟨e, m, w, s⟩ (cd t) (cd z) (i - st.typed.length) (j - st.meant.length)), rfl, rfl, .inl (.inl hra5), ?_, ?_⟩
            · show atI _ ((i : Int) - (st.typed.length : Int)) = _
              rw [ndi]
              exact atI_nat hra1
            · show atI _ ((j : Int) - (st.meant.length : Int)) = _
              rw [ndx]
              exact atI_nat (rowV_at (by omega))
            · refine ⟨_, rfl, .inl ⟨rfl, _, .inl (.inl h5)⟩, _, rfl, _, rfl, _, rfl, x, qq, e, m, w, s, st, rfl, hx5, .inl (.inl hq5), lo, _, _, rfl, rfl, so, _, _, rfl, rfl, h5, hsz, ?_⟩
              refine ⟨_, _, _, _, rfl, ?_, k5.trans (Kp.put (by simp))⟩
              rw [upd_same]
              exact congrArg (fun l => some (HO.lst l)) (fin _ (ea _ rfl) h5)
        · rintro σ H5 ⟨y8, y9, y10, y11, rfl, h5, k5⟩
          have kk : Kp [so] H3 H5 := ((Kp.new hso).trans (I4.kp.mono (fun a ha => nomatch ha))).trans k5
          have hl5' := kk _ _ hl3 (not1 nLs)
          have k15 : Kp [] H1 H5 := fun a o h _ => kk a o (k3 a o h notnil) (not1 (ne_of_none (k3 a o h notnil) hso))
          rw [hlv, List.take_length] at h5
          refine ⟨_, rfl, .inl ⟨rfl, _, .inl (.inl hl5')⟩, _, rfl, szle (by show 0 ≤ 1000000; decide), fun p1 hp1 => ?_⟩
          have h6 : (upd H5 p1 (.lst [])) so = some (.lst (((lastSteps ⟨e, m, w, s⟩ ((cd t).take j) ((cd z).take i)).map (vSt ⟨e, m, w, s⟩ ((cd t).take j) ((cd z).take i))).map V.int)) := by
            rw [upd_ne (ne_of_none h5 hp1)]
            exact h5
          have hl6 : (upd H5 p1 (.lst [])) ln = some (.lst (rowV ⟨e, m, w, s⟩ (cd t) (cd z) i j)) := by
            rw [upd_ne (ne_of_none hl5' hp1)]
            exact hl5'
          have k16 : Kp [] H1 (upd H5 p1 (.lst [])) := k15.trans (Kp.new hp1)
          refine ⟨_, _, .lst (.inl (.inl h6)) (dpInts _), .lst (.inl (.inl upd_same)) .nil, shapedInts _, by decide +kernel, _, rfl, ?_⟩
          rw [eqvNil]
          have done : ∀ c, c = val ⟨e, m, w, s⟩ (cd t) (cd z) i j → ∃ (v6 v7 v8 v9 v10 v11 : Option V), ([some (.ref x), some (.str t), some (.str z), some (.ref L), some (.int (i : Int)), some (.ref ln), some (.int (j : Int)), some (.ref so), y8, y9, y10, y11] : L2.St) = [some (.ref x), some (.str t), some (.str z), some (.ref L), some (.int (i : Int)), some (.ref ln), v6, v7, v8, v9, v10, v11] ∧
              (upd (upd H5 p1 (.lst [])) ln (.lst (rowV ⟨e, m, w, s⟩ (cd t) (cd z) i j ++ [V.int c]))) ln = some (.lst (rowV ⟨e, m, w, s⟩ (cd t) (cd z) i (j + 1))) ∧ Kp [] H1 (upd (upd H5 p1 (.lst [])) ln (.lst (rowV ⟨e, m, w, s⟩ (cd t) (cd z) i j ++ [V.int c]))) := by
            intro c hc
            exact ⟨_, _, _, _, _, _, rfl, by rw [upd_same, rowV_succ, hc], k16.mut hln⟩
          have hsl : (rowV ⟨e, m, w, s⟩ (cd t) (cd z) i j).length < sizeLine := szlt (by rw [rowV_len]; omega)
          by_cases hnil : lastSteps ⟨e, m, w, s⟩ ((cd t).take j) ((cd z).take i) = []
          · rw [hnil]
            refine iteF ⟨ln, _, _, rfl, rfl, hl6, hsl, ?_⟩
            refine done 0 ?_
            obtain ⟨e1, e2⟩ := lastSteps_nil.mp hnil
            unfold val
            rw [e1, e2]
            exact (lc_eq pos (least_nil pos)).symm
          · have hne : ((lastSteps ⟨e, m, w, s⟩ ((cd t).take j) ((cd z).take i)).map (vSt ⟨e, m, w, s⟩ ((cd t).take j) ((cd z).take i))).isEmpty = false := by
              cases hh : lastSteps ⟨e, m, w, s⟩ ((cd t).take j) ((cd z).take i) with
              | nil => exact absurd hh hnil
              | cons a r => rfl
            rw [hne]
            refine iteT ⟨_, rfl, so, _, rfl, .inl (.inl h6), ?_, fun c hc1 hc2 => ⟨ln, _, _, rfl, rfl, hl6, hsl, ?_⟩⟩
            · rw [List.length_map]
              exact List.length_pos_iff.mpr hnil
            · refine done c ?_
              have hL : Least ⟨e, m, w, s⟩ ((cd t).take j) ((cd z).take i) c := by
                refine least_step (fun st => lc ⟨e, m, w, s⟩ (((cd t).take j).take (((cd t).take j).length - st.meant.length)) (((cd z).take i).take (((cd z).take i).length - st.typed.length))) hnil (fun st _ => lc_least pos _ _) ?_ ?_
                · obtain ⟨st, h1, h2⟩ := List.mem_map.mp hc1
                  exact ⟨st, h1, h2.symm⟩
                · intro st hs
                  exact hc2 _ (List.mem_map.mpr ⟨st, hs, rfl⟩)
              exact (lc_eq pos hL).symm
      · rintro σ H3 ⟨y6, y7, y8, y9, y10, y11, rfl, hl3, k3⟩
        refine ⟨_, rfl, .inl ⟨rfl, _, .inl (.inl (k3 _ _ hrs notnil))⟩, _, rfl, L, rs, _, rfl, rfl, k3 _ _ hrs notnil, szlt (by rw [hro.1]; omega), ?_⟩
        refine ⟨_, _, _, _, _, _, _, _, rs ++ [.ref ln], rfl, upd_same, ⟨by rw [List.length_append, hro.1]; rfl, fun k hk => ?_⟩, (k1.trans k3).mut hL⟩
        by_cases hki : k < i
        · obtain ⟨a, e1, e2⟩ := hro.2 k hki
          refine ⟨a, by rw [List.getElem?_append_left (by rw [hro.1]; exact hki)]; exact e1, ?_⟩
          have hne : a ≠ L := by
            intro zz
            rw [zz, hrs] at e2
            have e3 : rs = rowV ⟨e, m, w, s⟩ (cd t) (cd z) k ((cd t).length + 1) := HO.lst.inj (Option.some.inj e2)
            have e4 : k < (cd t).length + 1 := by
              have := congrArg List.length e3
              rw [rowV_len, hro.1] at this
              omega
            rw [e3, rowV_at e4] at e1
            cases e1
          rw [upd_ne hne]
          exact k3 _ _ e2 notnil
        · have e5 : k = i := by omega
          subst e5
          refine ⟨ln, by rw [List.getElem?_append_right (by rw [hro.1]; exact Nat.le_refl _), hro.1, Nat.sub_self]; rfl, ?_⟩
          rw [upd_ne nLl.symm, hlt]
          exact hl3
    · rintro σ H2 ⟨y4, y5, y6, y7, y8, y9, y10, y11, rs, rfl, hrs, hro, k⟩
      exact ⟨_, rfl, q L rs H2 hL hrs hro k⟩
/-! ### price -/
abbrev sPrice : Stmt := topS 22
theorem scPrice : FnScope ["slips", "target", "text"] ["slips", "target", "text"] (defScope sPrice) := ⟨rfl, rfl, rfl, by decide +kernel, rfl, by decide +kernel, by decide +kernel⟩
def spPrice0 (C : Addr) : Sp := fun vs H Q _ => ∃ (x : Addr) (e m w : Int) (s : Option Int) (t z : Str), vs = [.ref x, .str t, .str z] ∧ SlAt C H x e m w s ∧ PrOk e m w s ∧ isT (.str t) = true ∧ isT (.str z) = true ∧ t.length ≤ 1000 ∧ z.length ≤ 1000 ∧
  ∀ (H' : Hp), Kp [] H H' → Q (.int (lc ⟨e, m, w, s⟩ (cd t) (cd z))) H'
theorem ok_price0 {f C : Addr} {fd : FuncData} (F : Fun K "price" "price" sPrice f fd) (CL : Cal P w K mg base "price_lines" ["slips", "target", "text"] 4 (spLines C)) (CN : Cal P w K mg base "need_text" ["thing"] 2 spNeed0) :
    FnOk P w K mg base CX0 5 f fd ["slips", "target", "text"] (spPrice0 C) := by
  refine F.ok scPrice (fun vs H Q E h => ?_) (fun cdv A outer sh H vs Q E hr h => ?_)
  · obtain ⟨x, e, m, w, s, t, z, rfl, _⟩ := h
    rfl
  · obtain ⟨x, e, m, w, s, t, z, rfl, hx, ok, tt, tz, ht, hz, q⟩ := h
    refine ⟨_, pss_cons (ps_expr (pe_cal CN hr (by decide) (by rfl) (pa_cons (pv 1) pa_nil))) (pss_cons (ps_expr (pe_cal CN hr (by decide) (by rfl) (pa_cons (pv 2) pa_nil)))
      (pss_one (ps_ret (pe_ix ix_list (pe_ix ix_list (pe_cal CL hr (by decide) (by rfl) (pa_cons (pv 0) (pa_cons (pv 1) (pa_cons (pv 2) pa_nil)))) (pe_un un_neg pe_int) (fun _ _ => rfl)) (pe_un un_neg pe_int) (fun _ _ => rfl))))), ?_⟩
    refine ⟨_, rfl, t, rfl, tt, by omega, fun H1 k1 => ⟨_, rfl, z, rfl, tz, by omega, fun H2 k2 => ?_⟩⟩
    have k12 := k1.trans k2
    refine ⟨_, rfl, _, rfl, _, rfl, x, e, m, w, s, t, z, rfl, hx.keep k12 notnil, ok, ht, hz, fun L rs H3 hL hrs hro k3 => ?_⟩
    obtain ⟨a, e1, e2⟩ := hro.2 z.length (Nat.lt_succ_self _)
    refine ⟨1, rfl, L, rs, -1, .ref a, rfl, rfl, .inl (.inl hrs), ?_, 1, rfl, a, _, -1, _, rfl, rfl, .inl (.inl e2), ?_, q H3 (k12.trans k3)⟩
    · have hl : rs.length = z.length + 1 := hro.1
      unfold atI ixN
      rw [if_neg (by decide), if_pos (by omega)]
      show rs[((-1 : Int) + rs.length).toNat]? = _
      rw [show ((-1 : Int) + rs.length).toNat = z.length by omega]
      exact e1
    · rw [rowV_succ]
      have := atI_last (rowV ⟨e, m, w, s⟩ (cd t) (cd z) z.length (cd t).length) (V.int (val ⟨e, m, w, s⟩ (cd t) (cd z) z.length (cd t).length))
      rw [this]
      unfold val
      rw [List.take_length, ← cd_len z, List.take_length]
end
end G69
namespace G69
open PySem PySem.Spec PyProof.Rows L2
/-! ### things that stay: tuples, instances -/
def firm : HO → Prop
  | .tup _ => True
  | .ins _ _ _ => True
  | _ => False
def Kf (H H' : Hp) : Prop := ∀ a o, H a = some o → firm o → H' a = some o
theorem Kf.rfl' {H : Hp} : Kf H H := fun _ _ h _ => h
theorem Kf.trans {H H1 H2 : Hp} (x : Kf H H1) (y : Kf H1 H2) : Kf H H2 := fun a o h f => y a o (x a o h f) f
theorem Kp.kf {H H' : Hp} (k : Kp [] H H') : Kf H H' := fun a o h _ => k a o h notnil
theorem Kf.new {H : Hp} {p : Addr} {o : HO} (h : H p = none) : Kf H (upd H p o) := (Kp.new h : Kp [] H _).kf
theorem Kf.lst {H : Hp} {p : Addr} {o : HO} {xs : List V} (h : H p = some (.lst xs)) : Kf H (upd H p o) := fun a u e f => by
  rw [upd_ne (ne_of e h (by rintro rfl; exact f))]
  exact e
theorem Dr.kf {H H' : Hp} {d l c : Addr} (D : Dr H d l c) (k : Kp [d, l] H H') : Kf H H' := fun a o h f => by
  obtain ⟨ls, cs, r, t, m, x⟩ := D
  exact k a o h (not2 (ne_of h x.dd (by rintro rfl; exact f)) (ne_of h x.hl (by rintro rfl; exact f)))
theorem Kf.tup {H H' : Hp} {a : Addr} {xs : List V} (k : Kf H H') (h : H a = some (.tup xs)) : H' a = some (.tup xs) := k _ _ h trivial
theorem Kf.ins {H H' : Hp} {a C dx : Addr} {fs : List (Str × V)} (k : Kf H H') (h : H a = some (.ins C dx fs)) : H' a = some (.ins C dx fs) := k _ _ h trivial
theorem SlAt.kf {C x : Addr} {H H' : Hp} {e m w : Int} {s : Option Int} (h : SlAt C H x e m w s) (k : Kf H H') : SlAt C H' x e m w s := let ⟨dx, h⟩ := h; ⟨dx, k.ins h⟩
/-- off a drawing: a thing that stays -/
theorem Dr.offF {H : Hp} {d l c a : Addr} {o : HO} (D : Dr H d l c) (h : H a = some o) (f : firm o) : a ≠ d ∧ a ≠ l ∧ a ≠ c := by
  obtain ⟨ls, cs, r, t, m, x⟩ := D
  exact ⟨ne_of h x.dd (by rintro rfl; exact f), ne_of h x.hl (by rintro rfl; exact f), ne_of h x.hc (by rintro rfl; exact f)⟩
/-! ### in a comprehension's block -/
section
variable {X : Cx} {K : PySem.W.Frag}
theorem pg_tupK {es : List Expr} {k : Nat} {t : TGs} {n : Nat} {pos : Pos} (hK : X.K = K) (hc : X.calm = true) (hp : PGs X es t)
    (hn : (assignEach es X.env).length = n := by rfl) (hst : (assignEach es X.env).findIdx? (·.1) = none := by rfl) : PG X (.Tuple es k pos) (gTup K n t) := by
  subst hK
  exact pg_tup hc hp hn hst
theorem op_in_seqK (h : X.K = K) : OpR X (compareOp .In) (rIn K false) := by
  subst h
  exact op_in_seq
theorem op_notIn_seqK (h : X.K = K) : OpR X (compareOp .NotIn) (rIn K true) := by
  subst h
  exact op_notIn_seq
end
/-! ### methods of an own class -/
/-- a method that may be called -/
def Mth (P : Program) (w : World) (K : PySem.W.Frag) (mg : Str → Option Value) (base : Heap) (C : Addr) (m : Str) (ps : List Str) (k : Nat) (sp : Sp) : Prop :=
  ∃ (f : Addr) (fd : FuncData), FnOk P w K mg base CX0 k f fd ps sp ∧ Meth K C m f ∧ Binds K fd ps [] ∧ PySem.W.fnIn K f = true
section
variable {X : Cx} {C : Addr} {j k : Nat} {m : Str} {ps : List Str} {sp : Sp} {o a b e : Expr} {es : List Expr} {ta tb : TE} {t : TA} {p pos apos : Pos}
/-- x.m(e, ..) -/
theorem pe_mth {pl : Sem Bool} (he : PE X o ta) (T : Cls X.K C) (M : Mth X.prog X.w X.K X.mg X.base C m ps k sp) (hr : Room j X.A) (hj : k ≤ j) (ha : PA X (e :: es) t)
    (hst : starEach (e :: es) X.env = (false, eval e X.env) :: starEach es X.env := by rfl) (hpl : (backTo pos (starEach es X.env)).any (·.1) = false := by rfl)
    (ht : eval (.Call (.Attribute o m apos) (e :: es) [] pos) X.env = (do
      let ov ← eval o X.env
      standAt apos.atName
      let (f, first) ← holding [ov] (getMethod ov m pl)
      callWith pos f first (backTo pos (starEach (e :: es) X.env)) (backToKw pos (keywordEach [] X.env))) := by rfl) :
    PE X (.Call (.Attribute o m apos) (e :: es) [] pos) (tMeth C m sp [] E0 ta t) := by
  obtain ⟨f, fd, F, hm, hb, _⟩ := M
  exact pe_meth (pl := pl) he T hm F (hr.mono hj) hb .nil pass0 ha hst hpl ht
/-- the callee runs a step below -/
theorem run_fn1 {f : Addr} {fd : FuncData} {pins : List (Addr × Obj)} {σ : L2.St} {H : Hp} {s : Shared} {Q : VK} {us : List Value} {vs : List V} (F : FnOk X.prog X.w X.K X.mg X.base CX0 k f fd ps sp) (hr : Room (k + 1) X.A) (hb : Binds X.K fd ps [])
    (I : Inv X pins σ H s) (r : Vals vs us) (h : sp vs H Q E0) : wpAny (model X.prog X.w) X.A.in1 (call (.ref f) us) (EP X pins σ Q) X.xe s := by
  have hl : (us ++ []).length = ps.length := by
    rw [List.append_nil, ← r.length]
    exact F.len _ _ _ _ h
  have r2 : Vals vs (us ++ []) := by
    rw [List.append_nil]
    exact r
  refine wpAny_call (codeAny_mono (F.run X.A.in1 X.stack s H ⟨us, []⟩ (us ++ []) vs Q E0 hr.in1 I.env0.in1 (hb s us I.kIn hl) r2 h) fun r s' hq => ?_)
  cases r with
  | error e => exact pass0 pins σ H s e s' I hq
  | ok fl =>
    cases fl with
    | ret u => exact I.after hq
    | next => exact False.elim hq
    | brk => exact False.elim hq
    | cont => exact False.elim hq
/-- x[y], x an instance of the class at C with its own __getitem__ -/
def rIxO (C : Addr) (sp : Sp) : R2 := fun x y H Q => ∃ a dx fs, x = .ref a ∧ H a = some (.ins C dx fs) ∧ sp [.ref a, y] H Q E0
theorem pe_ixO (ha : PE X a ta) (hb : PE X b tb) (M : Mth X.prog X.w X.K X.mg X.base C "__getitem__" ps k sp) (hr : Room j X.A) (hj : k + 1 ≤ j)
    (hs : ∀ o i, subscripted b true o i = runValue (.builtin "lifetime.subscript" ⟨[o, i], []⟩) := by intro _ _; rfl) : PE X (.Subscript a b pos) (tOp (rIxO C sp) ta tb) := by
  obtain ⟨f, fd, F, hm, hbd, hfi⟩ := M
  refine ⟨fun pins s σ H Q I h => ?_⟩
  refine Subscript_ (binT ha hb I h fun v u s2 x y H2 I2 rx ry q => ?_)
  obtain ⟨p, dx, fs, rfl, ea, q⟩ := q
  cases (show v = Value.ref p from rx)
  obtain ⟨mA, O, _⟩ := ins_get I2.hok ea
  obtain ⟨od, J, _⟩ := O.look
  obtain ⟨m, hF⟩ := I2.fr
  exact PySem.W.sub_K hF I2.ok.mod.kin J hm.at_ hfi hm.fn (run_fn1 (vs := [.ref p, y]) F (hr.mono hj) hbd I2 (.cons rfl (.cons ry .nil)) q) (hs _ _)
end
end G69
namespace G69
open PySem PySem.Spec PyProof.Rows L2
/-! ### words, own prices, entries -/
abbrev En := Str × Int
def enV (en : En) : List V := [.str en.1, .int en.2]
def EnAt (H : Hp) (v : V) (en : En) : Prop := ∃ p, v = .ref p ∧ H p = some (.tup (enV en))
theorem EnAt.kf {H H' : Hp} {v : V} {en : En} (h : EnAt H v en) (k : Kf H H') : EnAt H' v en := let ⟨p, e, h⟩ := h; ⟨p, e, k.tup h⟩
theorem Paired.imp {α β : Type} {F G : α → β → Prop} (f : ∀ a b, F a b → G a b) : ∀ {l : List α} {m : List β}, Paired F l m → Paired G l m
  | _, _, .nil => .nil
  | _, _, .cons r t => .cons (f _ _ r) (Paired.imp f t)
theorem Paired.lens {α β : Type} {F : α → β → Prop} : ∀ {l : List α} {m : List β}, Paired F l m → l.length = m.length
  | _, _, .nil => rfl
  | _, _, .cons _ t => congrArg Nat.succ (Paired.lens t)
theorem Paired.get {α β : Type} {F : α → β → Prop} : ∀ {l : List α} {m : List β} {i : Nat} {a : α}, Paired F l m → l[i]? = some a → ∃ b, m[i]? = some b ∧ F a b
  | _, _, 0, _, .cons r _, h => by
    cases h
    exact ⟨_, rfl, r⟩
  | _, _, i + 1, _, .cons _ t, h => Paired.get (i := i) t h
theorem Paired.get2 {α β : Type} {F : α → β → Prop} : ∀ {l : List α} {m : List β} {i : Nat} {b : β}, Paired F l m → m[i]? = some b → ∃ a, l[i]? = some a ∧ F a b
  | _, _, 0, _, .cons r _, h => by
    cases h
    exact ⟨_, rfl, r⟩
  | _, _, i + 1, _, .cons _ t, h => Paired.get2 (i := i) t h
theorem Paired.app1 {α β : Type} {F : α → β → Prop} {a : α} {b : β} (h : F a b) : ∀ {l : List α} {m : List β}, Paired F l m → Paired F (l ++ [a]) (m ++ [b])
  | _, _, .nil => .cons h .nil
  | _, _, .cons r t => .cons r (Paired.app1 h t)
/-- entries in the heap -/
def EnsAt (H : Hp) (vs : List V) (es : List En) : Prop := Paired (EnAt H) vs es
theorem EnsAt.kf {H H' : Hp} {vs : List V} {es : List En} (h : EnsAt H vs es) (k : Kf H H') : EnsAt H' vs es := Paired.imp (fun _ _ x => x.kf k) h
structure EnOk1 (en : En) : Prop where
  tx : isT (.str en.1) = true
  l1 : 1 ≤ en.1.length
  l5 : en.1.length ≤ 5
  o0 : 0 ≤ en.2
  o9 : en.2 ≤ 999
structure EnOk (es : List En) : Prop where
  few : es.length ≤ 4
  all : ∀ en ∈ es, EnOk1 en
  nd : (es.map Prod.fst).Nodup
def isW (v : V) : Bool := isT v && (match v with | .str z => decide (1 ≤ z.length) && decide (z.length ≤ 5) | _ => false)
def isO : V → Bool
  | .int i => decide (0 ≤ i) && decide (i ≤ 999)
  | _ => false
abbrev wV (es : List En) : List V := es.map fun en => V.str en.1
theorem flat_wV (es : List En) : (wV es).all flatV = true := by
  induction es with
  | nil => rfl
  | cons x r ih =>
    show (flatV (V.str x.1) && (wV r).all flatV) = true
    rw [ih]
    rfl
theorem inV_wV (z : Str) (es : List En) : inV (.str z) (wV es) = decide (z ∈ es.map Prod.fst) := by
  induction es with
  | nil => rfl
  | cons x r ih =>
    have e : inV (.str z) (wV (x :: r)) = ((x.1 == z) || inV (.str z) (wV r)) := rfl
    rw [e, ih]
    by_cases h : x.1 = z
    · subst h
      rw [beq_self_eq_true, Bool.true_or, decide_eq_true]
      exact List.mem_cons_self
    · have h1 : (x.1 == z) = false := by
        rw [beq_eq_false_iff_ne]
        exact h
      rw [h1, Bool.false_or, decide_eq_decide, List.map_cons, List.mem_cons]
      exact ⟨fun q => .inr q, fun q => q.resolve_left fun y => h y.symm⟩
section
variable {P : Program} {w : World} {K : PySem.W.Frag} {mg : Str → Option Value} {base : Heap}
/-! ### is_word -/
abbrev sIsWord : Stmt := topS 15
theorem scIsWord : FnScope ["thing"] ["thing"] (defScope sIsWord) := ⟨rfl, rfl, rfl, by decide +kernel, rfl, by decide +kernel, by decide +kernel⟩
def spIsWord (K : PySem.W.Frag) : Sp := fun vs H Q _ => ∃ (v : V) (T : String), vs = [v] ∧ Knd K H v T ∧ szV v ∧ ∀ H', Kp [] H H' → Q (.bl (isW v)) H'
theorem ok_isWord {f : Addr} {fd : FuncData} (F : Fun K "is_word" "is_word" sIsWord f fd) (CI : Cal P w K mg base "is_text" ["thing"] 1 (spIsText K)) (B : Bt mg) {t : Tok} (mL : mg "LONGEST" = some (.int 5 t)) :
    FnOk P w K mg base CX0 2 f fd ["thing"] (spIsWord K) := by
  refine F.ok scIsWord (fun vs H Q E h => ?_) (fun cdv A outer s H vs Q E hr h => ?_)
  · obtain ⟨v, T, rfl, _⟩ := h
    rfl
  · obtain ⟨v, T, rfl, ht, hz, q⟩ := h
    refine ⟨_, pss_one (ps_ret (pe_and (pe_cal CI hr (by decide) (by rfl) (pa_cons (pv 0) pa_nil))
      (pe_one (pe_chain op_le op_le pe_int (pe_callB call_len_str (by rfl) B.len PySem.boot_len (pa_cons (pv 0) pa_nil)) (pe_glob (v := .int 5) rfl mL ⟨_, rfl⟩))))), ?_⟩
    refine ⟨_, rfl, v, T, rfl, ht, hz, fun H' k => ⟨_, rfl, ?_⟩⟩
    have q := q H' k
    unfold isW at q
    cases hv : isT v with
    | false =>
      rw [hv] at q
      exact iteF q
    | true =>
      rw [hv] at q
      cases v with
      | str z =>
        have q2 : Q (.bl (decide ((1 : Int) ≤ (z.length : Nat)) && decide (((z.length : Nat) : Int) ≤ 5))) H' := by
          have e1 : decide ((1 : Int) ≤ (z.length : Nat)) = decide (1 ≤ z.length) := by
            rw [decide_eq_decide]
            omega
          have e2 : decide (((z.length : Nat) : Int) ≤ 5) = decide (z.length ≤ 5) := by
            rw [decide_eq_decide]
            omega
          rw [e1, e2]
          exact q
        refine iteT ⟨_, rfl, z, rfl, szle (by have : z.length ≤ 100000 := hz; omega), _, _, rfl, rfl, _, rfl, ?_⟩
        by_cases h : (1 : Int) ≤ (z.length : Nat)
        · rw [decide_eq_true h] at q2 ⊢
          exact iteT ⟨_, _, rfl, rfl, q2⟩
        · rw [decide_eq_false h] at q2 ⊢
          exact iteF q2
      | _ => cases hv
/-! ### is_own -/
abbrev sIsOwn : Stmt := topS 32
theorem scIsOwn : FnScope ["thing"] ["thing"] (defScope sIsOwn) := ⟨rfl, rfl, rfl, by decide +kernel, rfl, by decide +kernel, by decide +kernel⟩
def spIsOwn (K : PySem.W.Frag) : Sp := fun vs H Q _ => ∃ (v : V) (T : String), vs = [v] ∧ Knd K H v T ∧ Q (.bl (isO v)) H
theorem ok_isOwn {f : Addr} {fd : FuncData} (F : Fun K "is_own" "is_own" sIsOwn f fd) (CI : Cal P w K mg base "is_integer" ["thing"] 1 (spIsInt K)) {t : Tok} (mD : mg "DEAREST_OWN" = some (.int 999 t)) :
    FnOk P w K mg base CX0 2 f fd ["thing"] (spIsOwn K) := by
  refine F.ok scIsOwn (fun vs H Q E h => ?_) (fun cdv A outer s H vs Q E hr h => ?_)
  · obtain ⟨v, T, rfl, _⟩ := h
    rfl
  · obtain ⟨v, T, rfl, ht, q⟩ := h
    refine ⟨_, pss_one (ps_ret (pe_and (pe_cal CI hr (by decide) (by rfl) (pa_cons (pv 0) pa_nil))
      (pe_one (pe_chain op_le op_le pe_int (pv 0) (pe_glob (v := .int 999) rfl mD ⟨_, rfl⟩))))), ?_⟩
    refine ⟨_, rfl, v, T, rfl, ht, _, rfl, ?_⟩
    cases v with
    | int i =>
      refine iteT ⟨_, rfl, _, _, rfl, rfl, _, rfl, ?_⟩
      have e : isO (.int i) = (decide (0 ≤ i) && decide (i ≤ 999)) := rfl
      rw [e] at q
      by_cases h : (0 : Int) ≤ i
      · rw [decide_eq_true h] at q ⊢
        exact iteT ⟨_, _, rfl, rfl, q⟩
      · rw [decide_eq_false h] at q ⊢
        exact iteF q
    | _ => exact iteF q
/-! ### is_entry, of an entry -/
abbrev sIsEntry : Stmt := topS 33
theorem scIsEntry : FnScope ["thing"] ["thing"] (defScope sIsEntry) := ⟨rfl, rfl, rfl, by decide +kernel, rfl, by decide +kernel, by decide +kernel⟩
def spIsEntry0 : Sp := fun vs H Q _ => ∃ (v : V) (en : En), vs = [v] ∧ EnAt H v en ∧ EnOk1 en ∧ ∀ H', Kp [] H H' → Q (.bl true) H'
theorem isW_ok {en : En} (h : EnOk1 en) : isW (.str en.1) = true := by
  show (isT (.str en.1) && (decide (1 ≤ en.1.length) && decide (en.1.length ≤ 5))) = true
  rw [h.tx, decide_eq_true h.l1, decide_eq_true h.l5]
  rfl
theorem isO_ok {en : En} (h : EnOk1 en) : isO (.int en.2) = true := by
  show (decide (0 ≤ en.2) && decide (en.2 ≤ 999)) = true
  rw [decide_eq_true h.o0, decide_eq_true h.o9]
  rfl
theorem ok_isEntry0 {f : Addr} {fd : FuncData} (F : Fun K "is_entry" "is_entry" sIsEntry f fd) (CW : Cal P w K mg base "is_word" ["thing"] 2 (spIsWord K)) (CO : Cal P w K mg base "is_own" ["thing"] 2 (spIsOwn K)) (B : Bt mg) :
    FnOk P w K mg base CX0 3 f fd ["thing"] spIsEntry0 := by
  refine F.ok scIsEntry (fun vs H Q E h => ?_) (fun cdv A outer s H vs Q E hr h => ?_)
  · obtain ⟨v, en, rfl, _⟩ := h
    rfl
  · obtain ⟨v, en, rfl, ⟨p, rfl, hp⟩, ok, q⟩ := h
    refine ⟨_, pss_one (ps_ret (pe_and (pe_callB call_isi (by rfl) B.isinst (by decide +kernel) (pa_cons (pv 0) (pa_cons (pe_bltn (v := .ty "tuple") (by rfl) B.tuple (by decide +kernel) rfl) pa_nil)))
      (pe_and (pe_cmpR op_eq (pe_callB call_len_seq (by rfl) B.len PySem.boot_len (pa_cons (pv 0) pa_nil)) pe_int (nomark _))
      (pe_and (pe_cal CW hr (by decide) (by rfl) (pa_cons (pe_ix ix_tup (pv 0) pe_int (fun _ _ => rfl)) pa_nil))
      (pe_one (pe_cal CO hr (by decide) (by rfl) (pa_cons (pe_ix ix_tup (pv 0) pe_int (fun _ _ => rfl)) pa_nil))))))), ?_⟩
    refine ⟨_, rfl, _, _, _, _, true, rfl, .ty "tuple", (Knd.tup (K := K) hp).1, kit_ty (by decide +kernel), true, rfl, iteT ?_⟩
    refine ⟨_, rfl, p, _, rfl, .inr (.inl (.inl hp)), rfl, true, rfl, iteT ?_⟩
    refine ⟨_, rfl, p, _, 0, _, rfl, rfl, .inl (.inl hp), atI_nat (j := 0) rfl, _, _, rfl, Knd.str, (by show en.1.length ≤ 100000; have := ok.l5; omega), fun H1 k1 => ⟨_, rfl, ?_⟩⟩
    rw [isW_ok ok]
    refine iteT ⟨_, rfl, p, _, 1, _, rfl, rfl, .inl (.inl (k1 _ _ hp notnil)), atI_nat (j := 1) rfl, _, _, rfl, Knd.int, ?_⟩
    rw [isO_ok ok]
    exact q H1 k1
end
end G69
namespace G69
open PySem PySem.Spec PyProof.Rows L2
section
variable {P : Program} {w : World} {K : PySem.W.Frag} {mg : Str → Option Value} {base : Heap}
/-! ### need_entries, of entries -/
abbrev sNeedE : Stmt := topS 34
abbrev nNeedE : List Str := ["entries", "words", "at", "entry"]
theorem scNeedE : FnScope nNeedE ["entries"] (defScope sNeedE) := ⟨rfl, rfl, rfl, by decide +kernel, rfl, by decide +kernel, by decide +kernel⟩
def spNeedE : Sp := fun vs H Q _ => ∃ (a : Addr) (xs : List V) (es : List En), vs = [.ref a] ∧ (H a = some (.lst xs) ∨ H a = some (.tup xs)) ∧ EnsAt H xs es ∧ EnOk es ∧ ∀ H', Kp [] H H' → Q .non H'
theorem wV_snoc (es : List En) (en : En) : wV (es ++ [en]) = wV es ++ [V.str en.1] := List.map_append ..
theorem take_snoc {α : Type} {l : List α} {i : Nat} {x : α} (h : l[i]? = some x) : l.take (i + 1) = l.take i ++ [x] := by
  rw [List.take_add_one, h]
  rfl
theorem nodup_take {l : List Str} {i : Nat} {x : Str} (h : l[i]? = some x) (n : l.Nodup) : x ∉ l.take i := by
  intro hm
  obtain ⟨j, hj, e⟩ := List.getElem_of_mem hm
  have hj2 : j < l.length := Nat.lt_of_lt_of_le hj (by rw [List.length_take]; exact Nat.min_le_right _ _)
  have hji : j < i := Nat.lt_of_lt_of_le hj (by rw [List.length_take]; exact Nat.min_le_left _ _)
  obtain ⟨hi, e2⟩ := List.getElem?_eq_some_iff.mp h
  have e3 : l[j] = l[i] := by
    rw [List.getElem_take] at e
    rw [e, e2]
  exact (List.pairwise_iff_getElem.mp n) j i hj2 hi hji e3
theorem ok_needE {f : Addr} {fd : FuncData} (F : Fun K "need_entries" "need_entries" sNeedE f fd) (CE : Cal P w K mg base "is_entry" ["thing"] 3 spIsEntry0) (B : Bt mg) {t : Tok} (mM : mg "MOST_WORDS" = some (.int 4 t)) :
    FnOk P w K mg base CX0 4 f fd ["entries"] spNeedE := by
  refine F.ok scNeedE (fun vs H Q E h => ?_) (fun cdv A outer s H vs Q E hr h => ?_)
  · obtain ⟨v, xs, es, rfl, _⟩ := h
    rfl
  · obtain ⟨a, xs, es, rfl, ha, hes, ok, q⟩ := h
    refine ⟨_, pss_cons (ps_if (pt_not (pt_val (pe_callB call_isiT (by rfl) B.isinst (by decide +kernel) (pa_cons (pv 0) (pa_cons (pe_tup (pa_cons (pe_bltn (v := .ty "list") (by rfl) B.list (by decide +kernel) rfl) (pa_cons (pe_bltn (v := .ty "tuple") (by rfl) B.tuple (by decide +kernel) rfl) pa_nil))) pa_nil))))) (pss_one ps_never) pss_nil)
      (pss_cons (ps_set (i := 1) scNeedE.nd rfl (.inl rfl) (pe_lst pa_nil))
      (pss_one (ps_for PassesOwn.never rfl (pi_enumS (by rfl) B.enumerate (pa_cons (pv 0) pa_nil)) (pg_tup rfl (pgs_cons (pg_name (i := 2) scNeedE.nd rfl (.inl rfl)) (pgs_cons (pg_name (i := 3) scNeedE.nd rfl (.inl rfl)) pgs_nil)))
        (pss_cons (ps_if (PW.pt (pw_or (pt_cmpR op_eq (pv 2) (pe_glob (v := .int 4) rfl mM ⟨_, rfl⟩) (nomark _)) (pw_or (pt_not (pt_val (pe_cal CE hr (by decide) (by rfl) (pa_cons (pv 3) pa_nil))))
            (pw_or1 (pt_cmpR op_in_seq (pe_ix ix_tup (pv 3) pe_int (fun _ _ => rfl)) (pv 1) (by rfl)))))) (pss_one ps_never) pss_nil)
          (pss_one (ps_set (i := 1) scNeedE.nd rfl (.inl rfl) (pe_op op_cat (pv 1) (pe_lst (pa_cons (pe_ix ix_tup (pv 3) pe_int (fun _ _ => rfl)) pa_nil))))))))), ?_⟩
    obtain ⟨T, hT, hT2⟩ : ∃ T, (∀ H' : Hp, H' a = H a → TyX K H' (.ref a) (.type T)) ∧ PySem.W.kitAny K (.type T) [.type "list", .type "tuple"] = some true := by
      rcases ha with ha | ha
      · exact ⟨"list", fun H' e => (Knd.lst (e.trans ha)).1, kitAny_cons (b := true) (kit_ty (by decide +kernel)) (fun z => by cases z) (fun _ => rfl)⟩
      · exact ⟨"tuple", fun H' e => (Knd.tup (e.trans ha)).1, kitAny_cons (b := false) (kit_ty (by decide +kernel)) (fun _ => kitAny_cons (b := true) (kit_ty (by decide +kernel)) (fun z => by cases z) (fun _ => rfl)) (fun _ => rfl)⟩
    obtain ⟨oa, hoa⟩ : ∃ o, H a = some o := by
      rcases ha with ha | ha
      · exact ⟨_, ha⟩
      · exact ⟨_, ha⟩
    refine ⟨_, rfl, szle (by show 2 ≤ 1000000; decide), fun p0 hp0 => ?_⟩
    have kp0 : Kp [] H (upd H p0 (.tup [.ty "list", .ty "tuple"])) := Kp.new hp0
    refine ⟨_, p0, _, _, _, true, rfl, upd_same, .cons (.ty "list") (.cons (.ty "tuple") .nil), hT _ ((kp0 _ _ hoa notnil).trans hoa.symm), hT2, true, rfl, iteF ⟨szle (by show 0 ≤ 1000000; decide), fun p1 hp1 => ?_⟩⟩
    have k1 := kp0.trans (Kp.new (o := .lst []) hp1)
    refine ⟨_, rfl, a, xs, rfl, ?_⟩
    rcases ha with ha | ha
    · refine .inl ⟨.inl (.inl (k1 _ _ ha notnil)), for_it (walk_enum (K := K) (a := a) (xs := xs))
        (fun i σ H2 => ∃ y1 y2 wp, σ = [some (.ref a), some (.ref wp), y1, y2] ∧ H2 wp = some (.lst (wV (es.take i))) ∧ Kp [] H H2)
        ⟨none, none, p1, rfl, upd_same, k1⟩ (fun i σ H2 _ h2 => ?_) ?_ ?_⟩
      · obtain ⟨y1, y2, wp, rfl, hw, k2⟩ := h2
        exact .inl (.inl (k2 _ _ ha notnil))
      · rintro i x σ H2 H3 hi ⟨y1, y2, wp, rfl, hw, k2⟩ ⟨T', xi, yi, rfl, hTn, rfl, hx, hy⟩
        cases hx
        obtain ⟨en, hen, p, rfl, hp⟩ := Paired.get hes hy
        have k3 : Kp [] H (upd H2 T' (.tup [.int (i : Nat), .ref p])) := k2.trans (Kp.new hTn)
        have hw3 : (upd H2 T' (.tup [.int (i : Nat), .ref p])) wp = some (.lst (wV (es.take i))) := (Kp.new hTn : Kp [] H2 _) _ _ hw notnil
        have hp3 := k3 _ _ hp notnil
        have hi4 : i < es.length := (List.getElem?_eq_some_iff.mp hen).1
        refine ⟨T', _, rfl, .inl (.inl upd_same), rfl, _, _, rfl, _, _, rfl, rfl, ?_⟩
        have n4 : ¬ (V.int (i : Nat) = V.int 4) := fun z => by
          have := V.int.inj z
          have := ok.few
          omega
        refine ⟨_, rfl, rfl, _, rfl, ?_⟩
        rw [decide_eq_false n4]
        refine iteF ⟨_, rfl, _, en, rfl, ⟨p, rfl, hp3⟩, ok.all en (List.mem_of_getElem? hen), fun H4 k4 => ⟨_, rfl, iteF ?_⟩⟩
        have hw4 := k4 _ _ hw3 notnil
        have hp4 := k4 _ _ hp3 notnil
        refine ⟨_, rfl, p, _, 0, _, rfl, rfl, .inl (.inl hp4), atI_nat (j := 0) rfl, _, rfl, wp, _, rfl, .inl (.inl (.inl hw4)), rfl, flat_wV _, _, rfl, ?_⟩
        have nin : inV (.str en.1) (wV (es.take i)) = false := by
          rw [inV_wV, decide_eq_false]
          rw [List.map_take]
          exact nodup_take (by rw [List.getElem?_map, hen]; rfl) ok.nd
        rw [show (if false = true then !inV (.str en.1) (wV (es.take i)) else inV (.str en.1) (wV (es.take i))) = false from nin]
        refine iteF ⟨_, rfl, _, rfl, p, _, 0, _, rfl, rfl, .inl (.inl hp4), atI_nat (j := 0) rfl, szle (by show 1 ≤ 1000000; decide), fun p5 hp5 => ?_⟩
        have k5 : Kp [] H4 (upd H4 p5 (.lst [.str en.1])) := Kp.new hp5
        have hl : (wV (es.take i)).length ≤ 4 := by
          rw [List.length_map, List.length_take]
          have := ok.few
          omega
        refine ⟨wp, p5, _, _, rfl, rfl, k5 _ _ hw4 notnil, upd_same, szle (by show _ + 1 ≤ 1000000; omega), fun p6 hp6 => ?_⟩
        refine ⟨_, _, p6, rfl, ?_, k3.trans (k4.trans (k5.trans (Kp.new hp6)))⟩
        rw [upd_same, take_snoc hen, wV_snoc]
      · rintro σ H2 ⟨y1, y2, wp, rfl, hw, k2⟩
        exact q H2 k2
    · refine .inr ⟨.inl (.inl (k1 _ _ ha notnil)), for_it (walk_enumT (K := K) (a := a) (xs := xs))
        (fun i σ H2 => ∃ y1 y2 wp, σ = [some (.ref a), some (.ref wp), y1, y2] ∧ H2 wp = some (.lst (wV (es.take i))) ∧ Kp [] H H2)
        ⟨none, none, p1, rfl, upd_same, k1⟩ (fun i σ H2 _ h2 => ?_) ?_ ?_⟩
      · obtain ⟨y1, y2, wp, rfl, hw, k2⟩ := h2
        exact .inl (.inl (k2 _ _ ha notnil))
      · rintro i x σ H2 H3 hi ⟨y1, y2, wp, rfl, hw, k2⟩ ⟨T', xi, yi, rfl, hTn, rfl, hx, hy⟩
        cases hx
        obtain ⟨en, hen, p, rfl, hp⟩ := Paired.get hes hy
        have k3 : Kp [] H (upd H2 T' (.tup [.int (i : Nat), .ref p])) := k2.trans (Kp.new hTn)
        have hw3 : (upd H2 T' (.tup [.int (i : Nat), .ref p])) wp = some (.lst (wV (es.take i))) := (Kp.new hTn : Kp [] H2 _) _ _ hw notnil
        have hp3 := k3 _ _ hp notnil
        have hi4 : i < es.length := (List.getElem?_eq_some_iff.mp hen).1
        refine ⟨T', _, rfl, .inl (.inl upd_same), rfl, _, _, rfl, _, _, rfl, rfl, ?_⟩
        have n4 : ¬ (V.int (i : Nat) = V.int 4) := fun z => by
          have := V.int.inj z
          have := ok.few
          omega
        refine ⟨_, rfl, rfl, _, rfl, ?_⟩
        rw [decide_eq_false n4]
        refine iteF ⟨_, rfl, _, en, rfl, ⟨p, rfl, hp3⟩, ok.all en (List.mem_of_getElem? hen), fun H4 k4 => ⟨_, rfl, iteF ?_⟩⟩
        have hw4 := k4 _ _ hw3 notnil
        have hp4 := k4 _ _ hp3 notnil
        refine ⟨_, rfl, p, _, 0, _, rfl, rfl, .inl (.inl hp4), atI_nat (j := 0) rfl, _, rfl, wp, _, rfl, .inl (.inl (.inl hw4)), rfl, flat_wV _, _, rfl, ?_⟩
        have nin : inV (.str en.1) (wV (es.take i)) = false := by
          rw [inV_wV, decide_eq_false]
          rw [List.map_take]
          exact nodup_take (by rw [List.getElem?_map, hen]; rfl) ok.nd
        rw [show (if false = true then !inV (.str en.1) (wV (es.take i)) else inV (.str en.1) (wV (es.take i))) = false from nin]
        refine iteF ⟨_, rfl, _, rfl, p, _, 0, _, rfl, rfl, .inl (.inl hp4), atI_nat (j := 0) rfl, szle (by show 1 ≤ 1000000; decide), fun p5 hp5 => ?_⟩
        have k5 : Kp [] H4 (upd H4 p5 (.lst [.str en.1])) := Kp.new hp5
        have hl : (wV (es.take i)).length ≤ 4 := by
          rw [List.length_map, List.length_take]
          have := ok.few
          omega
        refine ⟨wp, p5, _, _, rfl, rfl, k5 _ _ hw4 notnil, upd_same, szle (by show _ + 1 ≤ 1000000; omega), fun p6 hp6 => ?_⟩
        refine ⟨_, _, p6, rfl, ?_, k3.trans (k4.trans (k5.trans (Kp.new hp6)))⟩
        rw [upd_same, take_snoc hen, wV_snoc]
      · rintro σ H2 ⟨y1, y2, wp, rfl, hw, k2⟩
        exact q H2 k2
end
end G69
namespace G69
open PySem PySem.Spec PyProof.Rows L2
/-- what is never reached -/
def tNo : TE := fun _ _ _ => False
theorem pe_no {X : Cx} {e : Expr} : PE X e tNo := ⟨fun _ _ _ _ _ _ h => h.elim⟩
/-! ### spellers -/
structure SpC (K : PySem.W.Frag) (mg : Str → Option Value) (CS : Addr) : Prop where
  cl : Cls K CS
  nE : NoAttr K CS "e_entries"
  nS : NoAttr K CS "e_slips"
  mgS : mg "Speller" = some (.ref CS)
def spf (tp sx : Addr) : List (Str × V) := [("e_entries", .ref tp), ("e_slips", .ref sx)]
def SpAt (C CS : Addr) (H : Hp) (x : Addr) (es : List En) (e m w : Int) (s : Option Int) : Prop :=
  ∃ dx tp sx xs, H x = some (.ins CS dx (spf tp sx)) ∧ H tp = some (.tup xs) ∧ EnsAt H xs es ∧ SlAt C H sx e m w s
theorem SpAt.kf {C CS x : Addr} {H H' : Hp} {es : List En} {e m w : Int} {s : Option Int} (h : SpAt C CS H x es e m w s) (k : Kf H H') : SpAt C CS H' x es e m w s :=
  let ⟨dx, tp, sx, xs, h1, h2, h3, h4⟩ := h; ⟨dx, tp, sx, xs, k.ins h1, k.tup h2, h3.kf k, h4.kf k⟩
section
variable {P : Program} {w : World} {K : PySem.W.Frag} {mg : Str → Option Value} {base : Heap}
/-! ### Speller.__init__ -/
abbrev sPInit : Stmt := inClass (topS 35) 0
abbrev nPInit : List Str := ["self", "entries", "slips"]
theorem scPInit : FnScope nPInit nPInit (defScope sPInit) := ⟨rfl, rfl, rfl, by decide +kernel, rfl, by decide +kernel, by decide +kernel⟩
def spPInit0 (CS : Addr) : Sp := fun vs H Q _ => ∃ (p dx a sx : Addr) (xs : List V) (es : List En), vs = [.ref p, .ref a, .ref sx] ∧ H p = some (.ins CS dx []) ∧ (H a = some (.lst xs) ∨ H a = some (.tup xs)) ∧ EnsAt H xs es ∧ EnOk es ∧
  ∀ H' tp, H' p = some (.ins CS dx (spf tp sx)) → H' tp = some (.tup xs) → Kp [p] H H' → Q .non H'
theorem ok_pinit0 {f CS : Addr} {fd : FuncData} (F : FunD K "__init__" "Speller.__init__" (defArgs sPInit) (defBody sPInit) (defScope sPInit) [.non] [] f fd) (T : SpC K mg CS) (CN : Cal P w K mg base "need_entries" ["entries"] 4 spNeedE) (B : Bt mg) :
    FnOk P w K mg base CX0 5 f fd nPInit (spPInit0 CS) := by
  refine F.ok scPInit (fun vs H Q E h => ?_) (fun cdv A outer s H vs Q E hr h => ?_)
  · obtain ⟨p, dx, a, sx, xs, es, rfl, _⟩ := h
    rfl
  · obtain ⟨p, dx, a, sx, xs, es, rfl, hp, ha, hes, ok, q⟩ := h
    refine ⟨_, pss_cons (ps_expr (pe_cal CN hr (by decide) (by rfl) (pa_cons (pv 1) pa_nil)))
      (pss_cons (ps_fld (pv 0) (pe_callTy call_tuple_of (by rfl) B.tuple (by decide +kernel) (pa_cons (pv 1) pa_nil)) rfl)
      (pss_one (ps_fld (pv 0) (pe_ifExp (pt_cmpR op_isN (pv 2) pe_non (nomark _)) pe_no (pv 2)) rfl))), ?_⟩
    refine ⟨_, rfl, a, xs, es, rfl, ha, hes, ok, fun H1 k1 => ?_⟩
    have hp1 := k1 _ _ hp notnil
    rcases ha with ha | ha
    · have ha1 := k1 _ _ ha notnil
      refine ⟨_, rfl, a, xs, rfl, .inl ⟨.inl (.inl ha1), fun tp htp => ?_⟩⟩
      have k2 : Kp [] H1 (upd H1 tp (.tup xs)) := Kp.new htp
      have hp2 := k2 _ _ hp1 notnil
      have ne : tp ≠ p := (ne_of_none hp1 htp).symm
      refine ⟨_, rfl, p, CS, dx, [], rfl, hp2, T.cl, T.nE, (by show 0 < 1000; decide), ?_⟩
      refine ⟨_, rfl, rfl, _, rfl, iteF ⟨_, rfl, _, rfl, p, CS, dx, _, rfl, upd_same, T.cl, T.nS, (by show 1 < 1000; decide), ?_⟩⟩
      refine q _ tp (by rw [upd_same]; rfl) (by rw [upd_ne ne, upd_ne ne, upd_same]) ?_
      exact ((k1.trans k2).mono (fun _ z => by cases z)).trans ((Kp.put (by simp)).trans (Kp.put (by simp)))
    · have ha1 := k1 _ _ ha notnil
      have ne : a ≠ p := ne_of ha1 hp1 (by intro z; cases z)
      refine ⟨_, rfl, a, xs, rfl, .inr ⟨.inl (.inl ha1), ?_⟩⟩
      refine ⟨_, rfl, p, CS, dx, [], rfl, hp1, T.cl, T.nE, (by show 0 < 1000; decide), ?_⟩
      refine ⟨_, rfl, rfl, _, rfl, iteF ⟨_, rfl, _, rfl, p, CS, dx, _, rfl, upd_same, T.cl, T.nS, (by show 1 < 1000; decide), ?_⟩⟩
      refine q _ a (by rw [upd_same]; rfl) (by rw [upd_ne ne, upd_ne ne]; exact ha1) ?_
      exact (k1.mono (fun _ z => by cases z)).trans ((Kp.put (by simp)).trans (Kp.put (by simp)))
theorem sp_bind {f : Addr} {fd : FuncData} (F : FunD K "__init__" "Speller.__init__" (defArgs sPInit) (defBody sPInit) (defScope sPInit) [.non] [] f fd) : Binds K fd nPInit [] := by
  obtain ⟨ds, h1, h2⟩ := F.binds1 (ps := nPInit) 3 1 (by intro z; cases z) rfl
    (fun T kV doc pm an cdv ct us its hu hi => by
      match us, hu, its, hi with
      | [u1, u2, u3], _, [i1], _ => exact ⟨_, rfl, rfl⟩)
  have e : ds = [] := by
    cases h1
    rfl
  rw [e] at h2
  exact h2
/-! ### place_of, of a word that is there -/
abbrev sPlace : Stmt := topS 36
abbrev nPlace : List Str := ["entries", "word", "words", "entry"]
theorem scPlace : FnScope nPlace ["entries", "word"] (defScope sPlace) := ⟨rfl, rfl, rfl, by decide +kernel, rfl, by decide +kernel, by decide +kernel⟩
def spPlace0 : Sp := fun vs H Q _ => ∃ (tp : Addr) (xs : List V) (es : List En) (j : Nat) (en : En), vs = [.ref tp, .str en.1] ∧ H tp = some (.tup xs) ∧ EnsAt H xs es ∧ EnOk es ∧ es[j]? = some en ∧ ∀ H', Kp [] H H' → Q (.int (j : Nat)) H'
theorem wV_at {es : List En} {j : Nat} {z : V} (h : (wV es)[j]? = some z) : ∃ en, es[j]? = some en ∧ z = .str en.1 := by
  rw [List.getElem?_map] at h
  cases e : es[j]? with
  | none => rw [e] at h; cases h
  | some en => rw [e] at h; exact ⟨en, rfl, (Option.some.inj h).symm⟩
theorem ok_place0 {f : Addr} {fd : FuncData} (F : Fun K "place_of" "place_of" sPlace f fd) (B : Bt mg) : FnOk P w K mg base CX0 1 f fd ["entries", "word"] spPlace0 := by
  refine F.ok scPlace (fun vs H Q E h => ?_) (fun cdv A outer s H vs Q E hr h => ?_)
  · obtain ⟨tp, xs, es, j, en, rfl, _⟩ := h
    rfl
  · obtain ⟨tp, xs, es, j, en, rfl, ht, hes, ok, hj, q⟩ := h
    refine ⟨_, pss_cons (ps_setLc (i := 2) (own := [("entry", 3)]) (g := gName 3) (tt := tYes) rfl scPlace.nd rfl rfl (sw_true rfl rfl rfl (by decide +kernel)) (pi_tup (pv 0)) (blkOk_by (own := [("entry", 3)]) (N := nPlace) (sc := defScope sPlace) (by decide +kernel))
        (fun _ _ _ _ _ => pg_name (i := 3) scPlace.nd rfl (.inl rfl)) (fun _ _ _ _ _ => pts_nil) (fun _ _ _ _ _ => pe_ix (ix_tupK (K := K) rfl) (pv 3) pe_int (fun _ _ => rfl)))
      (pss_cons (ps_if (PW.pt (pw_or (pt_not (pt_val (pe_callB call_isi (by rfl) B.isinst (by decide +kernel) (pa_cons (pv 1) (pa_cons (pe_bltn (v := .ty "str") (by rfl) B.str (by decide +kernel) rfl) pa_nil)))))
          (pw_or1 (pt_cmpR op_notIn_seq (pv 1) (pv 2) (by rfl))))) (pss_one ps_never) pss_nil)
      (pss_one (ps_ret (pe_bm PySem.F.plainAttrs_list PySem.F.slot_list_index PySem.F.type_list_index mt_index (pv 2) (pa_cons (pv 1) pa_nil))))), ?_⟩
    refine ⟨_, rfl, tp, rfl, ⟨_, .inl (.inl ht)⟩, fun L hL => lc_it (walk_tup (K := K) (a := tp) (xs := xs))
      (fun i H2 => H2 L = some (.lst (wV (es.take i))) ∧ Kp [] H H2) ⟨upd_same, Kp.new hL⟩ (fun i H2 _ h2 => .inl (.inl (h2.2 _ _ ht notnil))) ?_ ?_⟩
    · rintro i x H2 H3 hi ⟨e2, k2⟩ ⟨rfl, hx⟩
      obtain ⟨e1, he1, p, rfl, hp⟩ := Paired.get hes hx
      refine ⟨rfl, yes1 ⟨_, rfl, p, _, 0, _, rfl, rfl, .inl (.inl (k2 _ _ hp notnil)), atI_nat (j := 0) rfl, _, e2, szlt ?_, ?_, k2.mut hL⟩⟩
      · rw [List.length_map, List.length_take]
        have := ok.few
        omega
      · rw [upd_same, take_snoc he1, wV_snoc]
    · rintro H2 ⟨e2, k2⟩
      have hl : xs.length = es.length := Paired.lens hes
      rw [hl, List.take_length] at e2
      refine ⟨_, rfl, _, _, _, _, true, rfl, .ty "str", Knd.str.1, kit_ty (by decide +kernel), _, rfl, iteF ?_⟩
      have hin : inV (.str en.1) (wV es) = true := by
        rw [inV_wV, decide_eq_true]
        exact List.mem_map_of_mem (List.mem_of_getElem? hj)
      refine ⟨_, rfl, _, rfl, L, _, rfl, .inl (.inl (.inl e2)), rfl, flat_wV _, _, rfl, ?_⟩
      rw [show (if true = true then !inV (.str en.1) (wV es) else inV (.str en.1) (wV es)) = false by rw [hin]; rfl]
      refine iteF ⟨_, rfl, .inl ⟨rfl, _, .inl (.inl e2)⟩, _, rfl, L, wV es, _, j, .str en.1, rfl, rfl, .inl (.inl e2), rfl, flat_wV _, by rw [List.getElem?_map, hj]; rfl, by show (en.1 == en.1) = true; exact beq_self_eq_true _, ?_, q H2 k2⟩
      intro m z hm hz
      obtain ⟨e3, h3, rfl⟩ := wV_at hz
      show (e3.1 == en.1) = false
      rw [beq_eq_false_iff_ne]
      intro e4
      have := nodup_take (l := es.map Prod.fst) (i := j) (x := en.1) (by rw [List.getElem?_map, hj]; rfl) ok.nd
      refine this ?_
      rw [← e4]
      refine List.mem_of_getElem? (i := m) ?_
      rw [List.getElem?_take_of_lt hm, List.getElem?_map, h3]
      rfl
end
end G69
namespace G69
open PySem PySem.Spec PyProof.Rows L2
section
variable {P : Program} {w : World} {K : PySem.W.Frag} {mg : Str → Option Value} {base : Heap}
/-! ### Speller.total, of a word that is there and a text -/
abbrev sTotal : Stmt := inClass (topS 35) 11
abbrev nTotal : List Str := ["self", "word", "text", "at"]
theorem scTotal : FnScope nTotal ["self", "word", "text"] (defScope sTotal) := ⟨rfl, rfl, rfl, by decide +kernel, rfl, by decide +kernel, by decide +kernel⟩
def spTotal0 (C CS : Addr) : Sp := fun vs H Q _ => ∃ (x : Addr) (es : List En) (e m w : Int) (s : Option Int) (j : Nat) (en : En) (z : Str), vs = [.ref x, .str en.1, .str z] ∧ SpAt C CS H x es e m w s ∧ EnOk es ∧ PrOk e m w s ∧ es[j]? = some en ∧ isT (.str z) = true ∧ z.length ≤ 1000 ∧
  ∀ H', Kp [] H H' → Q (.int (lc ⟨e, m, w, s⟩ (cd en.1) (cd z) + en.2)) H'
theorem ok_total0 {f C CS : Addr} {fd : FuncData} (F : Fun K "total" "Speller.total" sTotal f fd) (T : SpC K mg CS) (CL : Cal P w K mg base "place_of" ["entries", "word"] 1 spPlace0) (CN : Cal P w K mg base "need_text" ["thing"] 2 spNeed0)
    (CP : Cal P w K mg base "price" ["slips", "target", "text"] 5 (spPrice0 C)) : FnOk P w K mg base CX0 6 f fd ["self", "word", "text"] (spTotal0 C CS) := by
  refine F.ok scTotal (fun vs H Q E h => ?_) (fun cdv A outer sh H vs Q E hr h => ?_)
  · obtain ⟨x, es, e, m, w, s, j, en, z, rfl, _⟩ := h
    rfl
  · obtain ⟨x, es, e, m, w, s, j, en, z, rfl, hx, ok, pk, hj, tz, hz, q⟩ := h
    refine ⟨_, pss_cons (ps_set (i := 3) scTotal.nd rfl (.inl rfl) (pe_cal CL hr (by decide) (by rfl) (pa_cons (pe_fld (pv 0) rfl) (pa_cons (pv 1) pa_nil))))
      (pss_cons (ps_expr (pe_cal CN hr (by decide) (by rfl) (pa_cons (pv 2) pa_nil)))
      (pss_one (ps_ret (pe_op op_add (pe_cal CP hr (by decide) (by rfl) (pa_cons (pe_fld (pv 0) rfl) (pa_cons (pv 1) (pa_cons (pv 2) pa_nil))))
        (pe_ix ix_tup (pe_ix ix_tup (pe_fld (pv 0) rfl) (pv 3) (fun _ _ => rfl)) pe_int (fun _ _ => rfl)))))), ?_⟩
    have ok1 := ok.all en (List.mem_of_getElem? hj)
    obtain ⟨dx, tp, sx, xs, h1, h2, h3, h4⟩ := id hx
    refine ⟨_, rfl, x, CS, dx, _, .ref tp, rfl, h1, T.cl, T.nE, rfl, _, rfl, tp, xs, es, j, en, rfl, h2, h3, ok, hj, fun H1 k1 => ?_⟩
    refine ⟨_, rfl, z, rfl, tz, by omega, fun H2 k2 => ?_⟩
    have k12 := k1.trans k2
    refine ⟨_, rfl, x, CS, dx, _, .ref sx, rfl, k12.kf.ins h1, T.cl, T.nS, rfl, _, rfl, _, rfl, sx, e, m, w, s, en.1, z, rfl, h4.kf k12.kf, pk, ok1.tx, tz, by have := ok1.l5; omega, hz, fun H3 k3 => ?_⟩
    have k13 := k12.trans k3
    obtain ⟨v, hv, p, rfl, hp⟩ := Paired.get2 (h3.kf k13.kf) hj
    refine ⟨_, rfl, x, CS, dx, _, .ref tp, rfl, k13.kf.ins h1, T.cl, T.nE, rfl, _, rfl, tp, xs, _, _, rfl, rfl, .inl (.inl (k13.kf.tup h2)), atI_nat hv, p, _, 1, _, rfl, rfl, .inl (.inl hp), atI_nat (j := 1) rfl, _, _, rfl, rfl, q H3 k13⟩
end
end G69
namespace G69
open PySem PySem.Spec PyProof.Rows L2
section
variable {X : Cx}
/-! ### sorted of data -/
theorem each_of : ∀ {bs : List (V × PyData)} {its : List Value}, Vals (bs.map (·.1)) its → PySem.W.EachIs (fun v (b : V × PyData) => RelV b.1 v) its bs
  | [], _, h => by
    cases h
    exact .nil
  | b :: bs, _, h => by
    cases h with
    | cons r t => exact .cons r (each_of t)
theorem of_each : ∀ {bs : List (V × PyData)} {its : List Value}, PySem.W.EachIs (fun v (b : V × PyData) => RelV b.1 v) its bs → Vals (bs.map (·.1)) its
  | _, _, .nil => .nil
  | _, _, .cons r t => .cons r (of_each t)
theorem each_reads {pins : List (Addr × Obj)} {σ : L2.St} {H : Hp} {s : Shared} (I : L2.Inv X pins σ H s) : ∀ {bs : List (V × PyData)} {its : List Value}, Vals (bs.map (·.1)) its → (∀ b ∈ bs, Dp X.K H b.1 b.2) →
    PySem.W.EachIs (fun v (b : V × PyData) => ∃ as, Reads s.heap v b.2 as) its bs
  | [], _, h, _ => by
    cases h
    exact .nil
  | b :: bs, _, h, hd => by
    cases h with
    | cons r t => exact .cons (Dp.reads I b.2 b.1 _ (hd b List.mem_cons_self) r) (each_reads I t fun c hc => hd c (List.mem_cons_of_mem _ hc))
/-- the sorted list of values that read as data -/
def srt (bs : List (V × PyData)) : List (V × PyData) := bs.mergeSort (PySem.W.dataLe false fun b => b.2)
def rSortD (K : PySem.W.Frag) : List V → Hp → VK → Prop := fun vs H Q => ∃ (a : Addr) (bs : List (V × PyData)), vs = [.ref a] ∧ SqL K H a (bs.map (·.1)) ∧ (∀ b ∈ bs, Dp K H b.1 b.2) ∧ PySem.W.AllAlike (bs.map (·.2)) ∧ PySem.W.Sortable (bs.map (·.2)) ∧ (∀ b ∈ bs, b.2.depth ≤ 60) ∧
  ∀ p, H p = none → Q (.ref p) (upd H p (.lst ((srt bs).map (·.1))))
theorem call_sortedD (hu : X.A.units + 64 < cLine) : CallR X (.builtin "sorted") (rSortD X.K) := by
  intro pins s σ H xs us Q I r h
  obtain ⟨a, bs, rfl, hS, hD, hal, hk, hdp, q⟩ := h
  obtain ⟨u, rfl, rx⟩ := vals1 r
  cases rx
  obtain ⟨its, rv, pl, hz⟩ := I.list hS
  rw [List.length_map] at hz
  refine PySem.W.sorted_data (R := fun v (b : V × PyData) => RelV b.1 v) (enc := fun b : V × PyData => b.2) pl.isList (each_of rv) (each_reads I rv hD) hal hk hz (fun b hb => by have := hdp b hb; omega) (fun out hlen hE => ?_)
  obtain ⟨ep, he⟩ := sortedAll_at s.heap its (List.toArray out)
  refine ⟨.ref (s.heap.objs.size + 1), _, I.laid (t' := s.toks) (o := .lst ((srt bs).map (·.1))) (fun b o ho => sortedAll_old ho) (Nat.le_succ _) ?_, rfl, q _ (I.hok.fresh (Nat.le_succ _))⟩
  exact ⟨by rw [List.length_map]; show (bs.mergeSort _).length ≤ _; rw [List.length_mergeSort]; exact hz, out, ep, of_each hE, he⟩
theorem call_sortedDK {K : PySem.W.Frag} (h : X.K = K) (hu : X.A.units + 64 < cLine) : CallR X (.builtin "sorted") (rSortD K) := by
  subst h
  exact call_sortedD hu
end
end G69
namespace G69
open PySem PySem.Spec PyProof.Rows L2
/-! ### rankings: the plain part -/
abbrev Tri := Int × Nat × Str
def tri (f : Str → Int) (es : List En) : List Tri := es.zipIdx.map fun p => (f p.1.1 + p.1.2, p.2, p.1.1)
def le3 (a b : Tri) : Bool := decide (a.1 < b.1 ∨ (a.1 = b.1 ∧ a.2.1 ≤ b.2.1))
def rk (f : Str → Int) (es : List En) : List (Int × Str) := ((tri f es).mergeSort le3).map fun t => (t.1, t.2.2)
theorem tri_at (f : Str → Int) (es : List En) (i : Nat) : (tri f es)[i]? = es[i]?.map fun en => (f en.1 + en.2, i, en.1) := by
  unfold tri
  rw [List.getElem?_map, List.getElem?_zipIdx, Option.map_map]
  have e : (0 + i) = i := Nat.zero_add i
  rw [e]
  rfl
theorem tri_len (f : Str → Int) (es : List En) : (tri f es).length = es.length := by
  unfold tri
  rw [List.length_map, List.length_zipIdx]
theorem tri_mem {f : Str → Int} {es : List En} {t : Tri} (h : t ∈ tri f es) : ∃ i en, es[i]? = some en ∧ t = (f en.1 + en.2, i, en.1) := by
  obtain ⟨i, hi⟩ := List.getElem?_of_mem h
  rw [tri_at] at hi
  cases e : es[i]? with
  | none => rw [e] at hi; cases hi
  | some en => rw [e] at hi; exact ⟨i, en, e, (Option.some.inj hi).symm⟩
theorem tri_uni {f : Str → Int} {es : List En} {a b : Tri} (ha : a ∈ tri f es) (hb : b ∈ tri f es) (h : a.2.1 = b.2.1) : a = b := by
  obtain ⟨i, en, e1, rfl⟩ := tri_mem ha
  obtain ⟨j, em, e2, rfl⟩ := tri_mem hb
  have : i = j := h
  subst this
  rw [e1] at e2
  cases e2
  rfl
def triD (t : Tri) : PyData := .tuple [.int t.1, .int (t.2.1 : Nat), .str t.2.2]
theorem triD_lt (a b : Tri) (h : a.2.1 = b.2.1 → a = b) : PySem.W.dataLe false (fun t : Tri => triD t) a b = le3 a b := by
  show (!PySem.W.dataLt (triD b) (triD a)) = _
  unfold triD le3
  rw [PySem.W.dataLt_tuple, PySem.W.dataLt_cons (by simp [PySem.W.alike]), PySem.W.dataLt_cons (by simp [PySem.W.alike]), PySem.W.dataLt_cons (by simp [PySem.W.alike])]
  have e : PyProof.Rows.lexLt PyProof.Rows.itemOrd (PySem.W.keyToksAll []) (PySem.W.keyToksAll []) = false := PyProof.Rows.lex_irrefl _
  rw [e, PySem.W.dataLt_int, PySem.W.dataLt_int, PySem.W.dataLt_str]
  simp only [PyData.eqv, beq_iff_eq]
  by_cases h1 : b.1 = a.1
  · rw [if_pos h1]
    by_cases h2 : (b.2.1 : Int) = (a.2.1 : Int)
    · have h3 := h (by omega)
      subst h3
      rw [if_pos h2, if_pos rfl]
      simp
    · rw [if_neg h2]
      have : a.2.1 ≠ b.2.1 := fun z => h2 (by omega)
      by_cases h4 : (b.2.1 : Int) < (a.2.1 : Int)
      · rw [decide_eq_true h4, decide_eq_false (by omega)]
        rfl
      · rw [decide_eq_false h4, decide_eq_true (by omega)]
        rfl
  · rw [if_neg h1]
    by_cases h4 : b.1 < a.1
    · rw [decide_eq_true h4, decide_eq_false (by omega)]
      rfl
    · rw [decide_eq_false h4, decide_eq_true (by omega)]
      rfl
theorem triD_alike (f : Str → Int) (es : List En) : PySem.W.AllAlike ((tri f es).map triD) := by
  intro d hd d' hd'
  obtain ⟨t, _, rfl⟩ := List.mem_map.mp hd
  obtain ⟨t', _, rfl⟩ := List.mem_map.mp hd'
  simp [triD, PySem.W.alike, PySem.W.alikeAll]
theorem triD_sortable (ts : List Tri) : PySem.W.Sortable (ts.map triD) := .inl fun d hd => by
  obtain ⟨t, _, rfl⟩ := List.mem_map.mp hd
  exact ⟨_, _, rfl⟩
theorem triD_depth (t : Tri) : (triD t).depth ≤ 60 := by
  simp [triD, PyData.depth, PyData.depthAll]
def TriAt (H : Hp) (v : V) (t : Tri) : Prop := ∃ p, v = .ref p ∧ H p = some (.tup [.int t.1, .int (t.2.1 : Nat), .str t.2.2])
theorem TriAt.kf {H H' : Hp} {v : V} {t : Tri} (h : TriAt H v t) (k : Kf H H') : TriAt H' v t := let ⟨p, e, h⟩ := h; ⟨p, e, k.tup h⟩
theorem TriAt.dp {K : PySem.W.Frag} {H : Hp} {v : V} {t : Tri} (h : TriAt H v t) : Dp K H v (triD t) := by
  obtain ⟨p, rfl, h⟩ := h
  exact .tup (.inl (.inl h)) (.cons (.int _) (.cons (.int _) (.cons (.str _) .nil)))
theorem Paired.zip {α β : Type} {F : α → β → Prop} : ∀ {l : List α} {m : List β}, Paired F l m → ∃ bs : List (α × β), bs.map (·.1) = l ∧ bs.map (·.2) = m ∧ ∀ b ∈ bs, F b.1 b.2
  | _, _, .nil => ⟨[], rfl, rfl, fun b hb => by cases hb⟩
  | _, _, .cons (a := a) (b := b) r t => by
    obtain ⟨bs, h1, h2, h3⟩ := Paired.zip t
    refine ⟨(a, b) :: bs, by rw [List.map_cons, h1], by rw [List.map_cons, h2], fun c hc => ?_⟩
    rcases List.mem_cons.mp hc with rfl | hc
    · exact r
    · exact h3 c hc
theorem Paired.of {α β : Type} {F : α → β → Prop} : ∀ {bs : List (α × β)}, (∀ b ∈ bs, F b.1 b.2) → Paired F (bs.map (·.1)) (bs.map (·.2))
  | [], _ => .nil
  | b :: bs, h => .cons (h b List.mem_cons_self) (Paired.of fun c hc => h c (List.mem_cons_of_mem _ hc))
/-- what sorted gives of the triples -/
theorem sort_tri {H : Hp} {f : Str → Int} {es : List En} {vs : List V} (h : Paired (TriAt H) vs (tri f es)) : ∃ bs : List (V × PyData), bs.map (·.1) = vs ∧ bs.map (·.2) = (tri f es).map triD ∧ (∀ b ∈ bs, ∀ K, Dp K H b.1 b.2) ∧
    ∃ us, (srt bs).map (·.1) = us ∧ Paired (TriAt H) us ((tri f es).mergeSort le3) := by
  obtain ⟨bs, h1, h2, h3⟩ := Paired.zip h
  have hm : ∀ b ∈ bs, b.2 ∈ tri f es := fun b hb => by
    rw [← h2]
    exact List.mem_map_of_mem hb
  have e1 : (bs.mergeSort fun a b => le3 a.2 b.2).map (fun b : V × Tri => (b.1, triD b.2)) = srt (bs.map fun b => (b.1, triD b.2)) := by
    refine PySem.W.sort_maps _ fun a ha b hb => ?_
    exact (triD_lt a.2 b.2 (fun z => tri_uni (hm a ha) (hm b hb) z)).symm
  have e2 : (bs.mergeSort fun a b => le3 a.2 b.2).map (·.2) = (tri f es).mergeSort le3 := by
    rw [← h2]
    exact PySem.W.sort_maps _ fun a _ b _ => rfl
  refine ⟨bs.map fun b => (b.1, triD b.2), ?_, ?_, fun b hb K => ?_, _, rfl, ?_⟩
  · rw [List.map_map]
    exact h1
  · rw [List.map_map, ← h2, List.map_map]
    rfl
  · obtain ⟨c, hc, rfl⟩ := List.mem_map.mp hb
    exact (h3 c hc).dp
  · rw [← e1, List.map_map, ← e2]
    exact Paired.of fun b hb => h3 b (List.mem_mergeSort.mp hb)
end G69
namespace G69
open PySem PySem.Spec PyProof.Rows L2
theorem sortU {k : Nat} {A : Around} (r : Room k A) : A.units + 64 < cLine := by
  have := r.un
  omega
/-- a ranking in the heap -/
def RkAt (H : Hp) (v : V) (t : Int × Str) : Prop := ∃ p, v = .ref p ∧ H p = some (.tup [.int t.1, .str t.2])
theorem RkAt.kf {H H' : Hp} {v : V} {t : Int × Str} (h : RkAt H v t) (k : Kf H H') : RkAt H' v t := let ⟨p, e, h⟩ := h; ⟨p, e, k.tup h⟩
section
variable {P : Program} {w : World} {K : PySem.W.Frag} {mg : Str → Option Value} {base : Heap}
/-! ### ranking_of -/
abbrev sRank : Stmt := topS 37
abbrev nRank : List Str := ["entries", "slips", "text", "found", "at", "word", "own", "total"]
theorem scRank : FnScope nRank ["entries", "slips", "text"] (defScope sRank) := ⟨rfl, rfl, rfl, by decide +kernel, rfl, by decide +kernel, by decide +kernel⟩
def spRank0 (C : Addr) : Sp := fun vs H Q _ => ∃ (tp x : Addr) (xs : List V) (es : List En) (e m w : Int) (s : Option Int) (z : Str), vs = [.ref tp, .ref x, .str z] ∧ H tp = some (.tup xs) ∧ EnsAt H xs es ∧ EnOk es ∧ SlAt C H x e m w s ∧ PrOk e m w s ∧ isT (.str z) = true ∧ z.length ≤ 1000 ∧
  ∀ (H' : Hp) (L : Addr) (us : List V), H L = none → H' L = some (.lst us) → Paired (RkAt H') us (rk (fun t => lc ⟨e, m, w, s⟩ (cd t) (cd z)) es) → Kp [] H H' → Q (.ref L) H'
theorem ok_rank0 {f C : Addr} {fd : FuncData} (F : Fun K "ranking_of" "ranking_of" sRank f fd) (CN : Cal P w K mg base "need_text" ["thing"] 2 spNeed0) (CP : Cal P w K mg base "price" ["slips", "target", "text"] 5 (spPrice0 C)) (B : Bt mg) :
    FnOk P w K mg base CX0 6 f fd ["entries", "slips", "text"] (spRank0 C) := by
  refine F.ok scRank (fun vs H Q E h => ?_) (fun cdv A outer sh H vs Q E hr h => ?_)
  · obtain ⟨tp, x, xs, es, e, m, w, s, z, rfl, _⟩ := h
    rfl
  · obtain ⟨tp, x, xs, es, e, m, w, s, z, rfl, ht, hes, ok, hx, pk, tz, hz, q⟩ := h
    refine ⟨_, pss_cons (ps_expr (pe_cal CN hr (by decide) (by rfl) (pa_cons (pv 2) pa_nil)))
      (pss_cons (ps_setLc (i := 3) (own := [("at", 4), ("word", 5), ("own", 6)]) (g := gTup K 2 (gCons (gName 4) (gCons (gTup K 2 (gCons (gName 5) (gCons (gName 6) gNil))) gNil))) (tt := tYes) rfl scRank.nd rfl rfl (sw_true rfl rfl rfl (by decide +kernel)) (pi_enumT (by rfl) B.enumerate (pa_cons (pv 0) pa_nil))
          (blkOk_by (own := [("at", 4), ("word", 5), ("own", 6)]) (N := nRank) (sc := defScope sRank) (by decide +kernel))
          (fun _ _ _ _ _ => pg_tupK rfl rfl (pgs_cons (pg_name (i := 4) scRank.nd rfl (.inl rfl)) (pgs_cons (pg_tupK rfl rfl (pgs_cons (pg_name (i := 5) scRank.nd rfl (.inl rfl)) (pgs_cons (pg_name (i := 6) scRank.nd rfl (.inl rfl)) pgs_nil))) pgs_nil)))
          (fun _ _ _ _ _ => pts_nil) (fun _ _ _ _ _ => pe_tup (pa_cons (pe_op op_add (pe_cal CP hr (by decide) (by rfl) (pa_cons (pv 1) (pa_cons (pv 5) (pa_cons (pv 2) pa_nil)))) (pv 6)) (pa_cons (pv 4) (pa_cons (pv 5) pa_nil)))))
      (pss_one (ps_ret (pe_lc (own := [("total", 7), ("at", 4), ("word", 5)]) (g := gTup K 3 (gCons (gName 7) (gCons (gName 4) (gCons (gName 5) gNil)))) (tt := tYes) (by rfl) scRank.nd (pi_list (pe_callB (call_sortedD (sortU hr)) (by rfl) B.sorted (by decide +kernel) (pa_cons (pv 3) pa_nil)))
          (blkOk_by (own := [("total", 7), ("at", 4), ("word", 5)]) (N := nRank) (sc := defScope sRank) (by decide +kernel))
          (fun _ _ _ _ _ => pg_tupK rfl rfl (pgs_cons (pg_name (i := 7) scRank.nd rfl (.inl rfl)) (pgs_cons (pg_name (i := 4) scRank.nd rfl (.inl rfl)) (pgs_cons (pg_name (i := 5) scRank.nd rfl (.inl rfl)) pgs_nil))))
          (fun _ _ _ _ _ => pts_nil) (fun _ _ _ _ _ => pe_tup (pa_cons (pv 7) (pa_cons (pv 5) pa_nil))))))), ?_⟩
    refine ⟨_, rfl, z, rfl, tz, by omega, fun H1 k1 => ?_⟩
    have hl : xs.length = es.length := Paired.lens hes
    have hfew := ok.few
    let ts := tri (fun t => lc ⟨e, m, w, s⟩ (cd t) (cd z)) es
    refine ⟨_, rfl, tp, xs, rfl, .inl (.inl (k1.kf.tup ht)), fun L hL => lc_it (walk_enumT (K := K) (a := tp) (xs := xs))
      (fun i H2 => ∃ vs, H2 L = some (.lst vs) ∧ Paired (TriAt H2) vs (ts.take i) ∧ Kp [] H H2) ⟨[], upd_same, .nil, k1.trans (Kp.new hL)⟩ (fun i H2 _ ⟨_, _, _, k2⟩ => .inl (.inl (k2.kf.tup ht))) ?_ ?_⟩
    · rintro i y H2 H3 hi ⟨vs, e2, p2, k2⟩ ⟨T', xi, yi, rfl, hTn, rfl, hx1, hy⟩
      cases hx1
      obtain ⟨en, hen, p, rfl, hp⟩ := Paired.get hes hy
      have ok1 := ok.all en (List.mem_of_getElem? hen)
      have k3 : Kp [] H2 (upd H2 T' (.tup [.int (i : Nat), .ref p])) := Kp.new hTn
      have k03 := k2.trans k3
      have hLn : H L = none := k1.free hL
      refine ⟨T', _, rfl, .inl (.inl upd_same), rfl, _, _, rfl, _, _, rfl, p, _, rfl, .inl (.inl (k03.kf.tup hp)), rfl, _, _, rfl, _, _, rfl, rfl, rfl, rfl, yes1 ?_⟩
      refine ⟨_, rfl, _, rfl, _, rfl, x, e, m, w, s, en.1, z, rfl, hx.kf k03.kf, pk, ok1.tx, tz, by have := ok1.l5; omega, hz, fun H4 k4 => ?_⟩
      refine ⟨_, rfl, _, _, rfl, rfl, _, rfl, _, rfl, szle (by show 3 ≤ 1000000; decide), fun r hr5 => ?_⟩
      have k5 : Kp [] H4 (upd H4 r (.tup [.int (lc ⟨e, m, w, s⟩ (cd en.1) (cd z) + en.2), .int (i : Nat), .str en.1])) := Kp.new hr5
      have k25 := k3.trans (k4.trans k5)
      have hlen : vs.length = (ts.take i).length := Paired.lens p2
      have e5 := k25 _ _ e2 notnil
      refine ⟨vs, e5, szlt (by rw [hlen, List.length_take]; omega), _, upd_same, ?_, (k2.trans k25).mut hLn⟩
      have hts : ts[i]? = some (lc ⟨e, m, w, s⟩ (cd en.1) (cd z) + en.2, i, en.1) := by
        show (tri _ es)[i]? = _
        rw [tri_at, hen]
        rfl
      rw [take_snoc hts]
      have kL := Kf.lst (o := .lst (vs ++ [V.ref r])) e5
      exact Paired.app1 ⟨r, rfl, kL.tup upd_same⟩ (Paired.imp (fun _ _ h => h.kf (k25.kf.trans kL)) p2)
    · rintro H2 ⟨vs, e2, p2, k2⟩
      have hts : ts.take xs.length = ts := by
        rw [hl]
        exact List.take_of_length_le (by show (tri _ es).length ≤ _; rw [tri_len]; exact Nat.le_refl _)
      rw [hts] at p2
      obtain ⟨bs, b1, b2, b3, us, u1, u2⟩ := sort_tri p2
      have hlu : us.length = es.length := by
        rw [Paired.lens u2, List.length_mergeSort, tri_len]
      refine ⟨_, rfl, L, bs, rfl, .inl (.inl (by rw [b1]; exact e2)), fun b hb => b3 b hb K, by rw [b2]; exact triD_alike _ _, by rw [b2]; exact triD_sortable _, fun b hb => ?_, fun p hp => ?_⟩
      · have : b.2 ∈ bs.map (·.2) := List.mem_map_of_mem hb
        rw [b2] at this
        obtain ⟨t, _, e3⟩ := List.mem_map.mp this
        rw [← e3]
        exact triD_depth t
      · rw [u1]
        have k3 : Kp [] H2 (upd H2 p (.lst us)) := Kp.new hp
        let rs := rk (fun t => lc ⟨e, m, w, s⟩ (cd t) (cd z)) es
        have hrs : rs.length = es.length := by
          show (List.map _ _).length = _
          rw [List.length_map, List.length_mergeSort, tri_len]
        refine ⟨p, rfl, ⟨_, .inl (.inl upd_same)⟩, fun D hD => lc_it (walk_list (K := K) (a := p) (xs := us))
          (fun i H4 => ∃ ws, H4 D = some (.lst ws) ∧ Paired (RkAt H4) ws (rs.take i) ∧ Kp [] (upd H2 p (.lst us)) H4) ⟨[], upd_same, .nil, Kp.new hD⟩ (fun i H4 _ ⟨_, _, _, k4⟩ => .inl (.inl (k4 _ _ upd_same notnil))) ?_ ?_⟩
        · rintro i y H4 H5 hi ⟨ws, e4, p4, k4⟩ ⟨rfl, hy⟩
          obtain ⟨t, ht3, p, rfl, hp5⟩ := Paired.get u2 hy
          have hp6 := (k3.kf.trans k4.kf).tup hp5
          refine ⟨p, _, rfl, .inl (.inl hp6), rfl, _, _, rfl, _, _, rfl, _, _, rfl, rfl, rfl, yes1 ⟨_, rfl, _, rfl, szle (by show 2 ≤ 1000000; decide), fun r hr7 => ?_⟩⟩
          have k7 : Kp [] H5 (upd H5 r (.tup [.int t.1, .str t.2.2])) := Kp.new hr7
          have e7 := k7 _ _ e4 notnil
          refine ⟨ws, e7, szlt (by rw [Paired.lens p4, List.length_take]; omega), _, upd_same, ?_, (k4.trans k7).mut hD⟩
          have hrt : rs[i]? = some (t.1, t.2.2) := by
            show (List.map _ _)[i]? = _
            rw [List.getElem?_map, ht3]
            rfl
          rw [take_snoc hrt]
          have kL := Kf.lst (o := .lst (ws ++ [V.ref r])) e7
          exact Paired.app1 ⟨r, rfl, kL.tup upd_same⟩ (Paired.imp (fun _ _ h => h.kf (k7.kf.trans kL)) p4)
        · rintro H4 ⟨ws, e4, p4, k4⟩
          have hts2 : rs.take us.length = rs := List.take_of_length_le (by omega)
          rw [hts2] at p4
          exact q H4 D ws (((k2.trans k3)).free hD) e4 p4 (k2.trans (k3.trans k4))
end
end G69
namespace G69
open PySem PySem.Spec PyProof.Rows L2
def rkD (t : Int × Str) : PyData := .tuple [.int t.1, .str t.2]
theorem strOk_of {z : Str} (h : isT (.str z) = true) : PyData.strOk z = true := by
  have h2 : z.cps.toList.all isLb = true := h
  show z.cps.all (· < 0x110000) = true
  rw [← Array.all_toList, List.all_eq_true]
  intro c hc
  have := List.all_eq_true.mp h2 c hc
  unfold isLb at this
  rw [Bool.and_eq_true, decide_eq_true_eq, decide_eq_true_eq] at this
  rw [decide_eq_true_eq]
  omega
theorem layRk : ∀ rs : List (Int × Str), (∀ t ∈ rs, isT (.str t.2) = true) → PyData.canLayAll0 (rs.map rkD) = true
  | [], _ => by simp only [List.map_nil, PyData.canLayAll0]
  | n :: r, h => by simp only [List.map_cons, PyData.canLayAll0, rkD, PyData.canLay0, layRk r (fun t ht => h t (List.mem_cons_of_mem _ ht)), strOk_of (h n List.mem_cons_self), Bool.and_self]
theorem depthRk : ∀ rs : List (Int × Str), PyData.depthAll (rs.map rkD) ≤ 1
  | [] => by simp only [List.map_nil, PyData.depthAll]; omega
  | n :: r => by
    have := depthRk r
    simp only [List.map_cons, PyData.depthAll, rkD, PyData.depth]
    omega
theorem shapedRk (rs : List (Int × Str)) (h : ∀ t ∈ rs, isT (.str t.2) = true) : SeqAt.shaped (.list (rs.map rkD)) = true := by
  have := depthRk rs
  unfold SeqAt.shaped
  simp only [PyData.canLay0, layRk rs h, PyData.depth]
  simp
  omega
theorem eqvNilL (ds : List PyData) : PyData.eqv (.list ds) (.list []) = ds.isEmpty := by
  cases ds with
  | nil => simp only [PyData.eqv, PyData.eqvAll, List.isEmpty_nil]
  | cons n r => simp only [PyData.eqv, PyData.eqvAll, List.isEmpty_cons]
theorem dpRk {K : PySem.W.Frag} {H : Hp} : ∀ {us : List V} {rs : List (Int × Str)}, Paired (RkAt H) us rs → DpAll K H us (rs.map rkD)
  | _, _, .nil => .nil
  | _, _, .cons ⟨p, e, h⟩ t => by
    subst e
    exact .cons (.tup (.inl (.inl h)) (.cons (.int _) (.cons (.str _) .nil))) (dpRk t)
theorem rk_mem {f : Str → Int} {es : List En} {t : Int × Str} (h : t ∈ rk f es) : ∃ (i : Nat) (en : En), es[i]? = some en ∧ t = (f en.1 + en.2, en.1) := by
  obtain ⟨a, ha, rfl⟩ := List.mem_map.mp h
  obtain ⟨i, en, h1, rfl⟩ := tri_mem (List.mem_mergeSort.mp ha)
  exact ⟨i, en, h1, rfl⟩
theorem rk_tx {f : Str → Int} {es : List En} (ok : EnOk es) : ∀ t ∈ rk f es, isT (.str t.2) = true := fun t ht => by
  obtain ⟨i, en, h1, rfl⟩ := rk_mem ht
  exact (ok.all en (List.mem_of_getElem? h1)).tx
def optS : Option Str → V
  | none => .non
  | some z => .str z
/-- the word that is meant -/
def mw (f : Str → Int) (es : List En) : Option Str := (rk f es).head?.map (·.2)
section
variable {P : Program} {w : World} {K : PySem.W.Frag} {mg : Str → Option Value} {base : Heap}
/-! ### meant_word -/
abbrev sMeant : Stmt := topS 38
abbrev nMeant : List Str := ["entries", "slips", "text", "found"]
theorem scMeant : FnScope nMeant ["entries", "slips", "text"] (defScope sMeant) := ⟨rfl, rfl, rfl, by decide +kernel, rfl, by decide +kernel, by decide +kernel⟩
def spMeant0 (C : Addr) : Sp := fun vs H Q _ => ∃ (tp x : Addr) (xs : List V) (es : List En) (e m w : Int) (s : Option Int) (z : Str), vs = [.ref tp, .ref x, .str z] ∧ H tp = some (.tup xs) ∧ EnsAt H xs es ∧ EnOk es ∧ SlAt C H x e m w s ∧ PrOk e m w s ∧ isT (.str z) = true ∧ z.length ≤ 1000 ∧
  ∀ H', Kp [] H H' → Q (optS (mw (fun t => lc ⟨e, m, w, s⟩ (cd t) (cd z)) es)) H'
theorem ok_meant0 {f C : Addr} {fd : FuncData} (F : Fun K "meant_word" "meant_word" sMeant f fd) (CR : Cal P w K mg base "ranking_of" ["entries", "slips", "text"] 6 (spRank0 C)) : FnOk P w K mg base CX0 7 f fd ["entries", "slips", "text"] (spMeant0 C) := by
  refine F.ok scMeant (fun vs H Q E h => ?_) (fun cdv A outer sh H vs Q E hr h => ?_)
  · obtain ⟨tp, x, xs, es, e, m, w, s, z, rfl, _⟩ := h
    rfl
  · obtain ⟨tp, x, xs, es, e, m, w, s, z, rfl, ht, hes, ok, hx, pk, tz, hz, q⟩ := h
    refine ⟨_, pss_cons (ps_set (i := 3) scMeant.nd rfl (.inl rfl) (pe_cal CR hr (by decide) (by rfl) (pa_cons (pv 0) (pa_cons (pv 1) (pa_cons (pv 2) pa_nil)))))
      (pss_one (ps_ret (pe_ifExp (pt_cmpR (op_neD hr.units) (pv 3) (pe_lst pa_nil) (nomark _)) (pe_ix ix_tup (pe_ix ix_list (pv 3) pe_int (fun _ _ => rfl)) pe_int (fun _ _ => rfl)) pe_non))), ?_⟩
    refine ⟨_, rfl, _, rfl, _, rfl, tp, x, xs, es, e, m, w, s, z, rfl, ht, hes, ok, hx, pk, tz, hz, fun H1 L us hL e1 p1 k1 => ?_⟩
    refine ⟨_, rfl, by decide, fun p hp => ?_⟩
    have k2 : Kp [] H1 (upd H1 p (.lst [])) := Kp.new hp
    have e2 := k2 _ _ e1 notnil
    have p2 := Paired.imp (fun _ _ h => RkAt.kf h k2.kf) p1
    have q := q _ (k1.trans k2)
    unfold mw at q
    refine ⟨_, _, .lst (.inl (.inl e2)) (dpRk p2), .lst (.inl (.inl upd_same)) .nil, shapedRk _ (rk_tx ok), by decide +kernel, _, rfl, ?_⟩
    rw [eqvNilL]
    cases hrk : rk (fun t => lc ⟨e, m, w, s⟩ (cd t) (cd z)) es with
    | nil =>
      rw [hrk] at q
      exact iteF q
    | cons a r =>
      rw [hrk] at q p2
      obtain ⟨v, hv, p3, rfl, h3⟩ := Paired.get2 (i := 0) p2 rfl
      exact iteT ⟨_, rfl, L, us, 0, _, rfl, rfl, .inl (.inl e2), atI_nat (j := 0) hv, p3, _, 1, _, rfl, rfl, .inl (.inl h3), atI_nat (j := 1) rfl, q⟩
/-! ### Speller.__getitem__ -/
abbrev sGetI : Stmt := inClass (topS 35) 7
abbrev nGetI : List Str := ["self", "at"]
theorem scGetI : FnScope nGetI nGetI (defScope sGetI) := ⟨rfl, rfl, rfl, by decide +kernel, rfl, by decide +kernel, by decide +kernel⟩
def spGetI0 (C CS : Addr) : Sp := fun vs H Q _ => ∃ (x : Addr) (es : List En) (e m w : Int) (s : Option Int) (z : Str), vs = [.ref x, .str z] ∧ SpAt C CS H x es e m w s ∧ EnOk es ∧ PrOk e m w s ∧ isT (.str z) = true ∧ z.length ≤ 1000 ∧
  ∀ H', Kp [] H H' → Q (optS (mw (fun t => lc ⟨e, m, w, s⟩ (cd t) (cd z)) es)) H'
theorem ok_getI0 {f C CS : Addr} {fd : FuncData} (F : Fun K "__getitem__" "Speller.__getitem__" sGetI f fd) (T : SpC K mg CS) (CM : Cal P w K mg base "meant_word" ["entries", "slips", "text"] 7 (spMeant0 C)) : FnOk P w K mg base CX0 8 f fd nGetI (spGetI0 C CS) := by
  refine F.ok scGetI (fun vs H Q E h => ?_) (fun cdv A outer sh H vs Q E hr h => ?_)
  · obtain ⟨x, es, e, m, w, s, z, rfl, _⟩ := h
    rfl
  · obtain ⟨x, es, e, m, w, s, z, rfl, hx, ok, pk, tz, hz, q⟩ := h
    refine ⟨_, pss_one (ps_ret (pe_cal CM hr (by decide) (by rfl) (pa_cons (pe_fld (pv 0) rfl) (pa_cons (pe_fld (pv 0) rfl) (pa_cons (pv 1) pa_nil))))), ?_⟩
    obtain ⟨dx, tp, sx, xs, h1, h2, h3, h4⟩ := hx
    exact ⟨_, rfl, x, CS, dx, _, .ref tp, rfl, h1, T.cl, T.nE, rfl, _, rfl, x, CS, dx, _, .ref sx, rfl, h1, T.cl, T.nS, rfl, _, rfl, tp, sx, xs, es, e, m, w, s, z, rfl, h2, h3, ok, h4, pk, tz, hz, q⟩
end
/-! ### what is meant: the first one of the least totals -/
theorem le3_trans (a b c : Tri) (h : le3 a b = true) (g : le3 b c = true) : le3 a c = true := by
  unfold le3 at *
  rw [decide_eq_true_eq] at *
  omega
theorem le3_total (a b : Tri) : (le3 a b || le3 b a) = true := by
  unfold le3
  rw [Bool.or_eq_true, decide_eq_true_eq, decide_eq_true_eq]
  omega
theorem mw_nil (f : Str → Int) : mw f [] = none := by
  unfold mw rk tri
  rw [List.zipIdx_nil, List.map_nil, List.mergeSort_nil]
  rfl
/-- at i: a total that no other is below, and that is above none ahead -/
theorem mw_at {f : Str → Int} {es : List En} {i : Nat} {en : En} (h : es[i]? = some en) (h1 : ∀ (j : Nat) (em : En), es[j]? = some em → f en.1 + en.2 ≤ f em.1 + em.2) (h2 : ∀ (j : Nat) (em : En), j < i → es[j]? = some em → f en.1 + en.2 < f em.1 + em.2) : mw f es = some en.1 := by
  have hs := List.pairwise_mergeSort (le := le3) le3_trans le3_total (tri f es)
  have hm : (f en.1 + en.2, i, en.1) ∈ tri f es := by
    refine List.mem_of_getElem? (i := i) ?_
    rw [tri_at, h]
    rfl
  unfold mw rk
  cases e : (tri f es).mergeSort le3 with
  | nil =>
    have := List.mem_mergeSort (le := le3) |>.mpr hm
    rw [e] at this
    cases this
  | cons a r =>
    have ha : a ∈ tri f es := List.mem_mergeSort (le := le3) |>.mp (by rw [e]; exact List.mem_cons_self)
    have hin : (f en.1 + en.2, i, en.1) ∈ a :: r := by
      rw [← e]
      exact List.mem_mergeSort.mpr hm
    rw [e] at hs
    obtain ⟨j, em, hj, rfl⟩ := tri_mem ha
    have ht : le3 (f em.1 + em.2, j, em.1) (f en.1 + en.2, i, en.1) = true := by
      rcases List.mem_cons.mp hin with h3 | h3
      · rw [← h3]
        unfold le3
        rw [decide_eq_true_eq]
        omega
      · exact List.rel_of_pairwise_cons hs h3
    unfold le3 at ht
    rw [decide_eq_true_eq] at ht
    have g1 := h1 j em hj
    have hji : ¬ j < i := fun hlt => by
      have := h2 j em hlt hj
      simp only at ht
      omega
    have hij : j = i := by
      simp only at ht
      omega
    subst hij
    rw [h] at hj
    cases hj
    rfl
end G69
namespace G69
open PySem PySem.Spec PyProof.Rows L2
section
variable {P : Program} {w : World} {K : PySem.W.Frag} {mg : Str → Option Value} {base : Heap}
/-! ### _law_prices -/
abbrev sLPr : Stmt := topS 45
abbrev nLPr : List Str := ["_law_draw", "_law_some", "_law_turn"]
theorem scLPr : FnScope nLPr ["_law_draw"] (defScope sLPr) := ⟨rfl, rfl, rfl, by decide +kernel, rfl, by decide +kernel, by decide +kernel⟩
def spLPr : Sp := fun vs H Q _ => ∃ (d l c : Addr), vs = [.ref d] ∧ Dr H d l c ∧
  ∀ (p : Addr) (e m w : Int) (s : Option Int) (H' : Hp), H p = none → PrOk e m w s → H' p = some (.tup [.int e, .int m, .int w, swV s]) → Dr H' d l c → Kp [d, l] H H' → Q (.ref p) H'
theorem ok_lpr {f : Addr} {fd : FuncData} (F : Fun K "_law_prices" "_law_prices" sLPr f fd) (CP : Cal P w K mg base "_law_pick" ["_law_draw", "_law_some"] 2 (spPick K)) (B : Bt mg) :
    FnOk P w K mg base CX0 3 f fd ["_law_draw"] spLPr := by
  refine F.ok scLPr (fun vs H Q E h => ?_) (fun cdv A outer s H vs Q E hr h => ?_)
  · obtain ⟨d, l, c, rfl, _⟩ := h
    rfl
  · obtain ⟨d, l, c, rfl, D0, q⟩ := h
    refine ⟨_, (pss_cons
 (ps_setLc (i := 1) (own := [("_law_turn", 2)]) (g := gName 2) (tt := tYes) rfl scLPr.nd rfl rfl (sw_true rfl rfl rfl (by decide +kernel)) (pi_range1 (by rfl) B.range (pa_cons pe_int pa_nil)) (blkOk_by (own := [("_law_turn", 2)]) (N := nLPr) (sc := defScope sLPr) (by decide +kernel)) (fun _ _ _ _ _ => (pg_name (i := 2) scLPr.nd rfl (.inl rfl))) (fun _ _ _ _ _ => pts_nil) (fun _ _ _ _ _ => (pe_cal CP hr (by decide) (by rfl) (pa_cons (pv 0) (pa_cons (pe_lst (pa_cons pe_int (pa_cons pe_int (pa_cons pe_int (pa_cons pe_int (pa_cons pe_int (pa_cons pe_int pa_nil))))))) pa_nil)))))
 (pss_one
 (ps_ret (pe_op op_catT (pe_callTy call_tuple_of (by rfl) B.tuple (by decide +kernel) (pa_cons (pv 1) pa_nil)) (pe_tup (pa_cons (pe_cal CP hr (by decide) (by rfl) (pa_cons (pv 0) (pa_cons (pe_lst (pa_cons pe_non (pa_cons pe_non (pa_cons pe_int (pa_cons pe_int (pa_cons pe_int (pa_cons pe_int pa_nil))))))) pa_nil))) pa_nil)))))), ?_⟩
    refine ⟨3, rfl, by decide, by decide, fun L hL => lc_range (lo := 0) (n := 3)
      (fun i H2 => ∃ ns : List Int, ns.length = i ∧ (∀ x ∈ ns, 1 ≤ x ∧ x ≤ 9) ∧ H2 L = some (.lst (ns.map V.int)) ∧ Dr H2 d l c ∧ Kp [d, l] H H2)
      ⟨[], rfl, (fun z hz => nomatch hz), upd_same, D0.new hL, Kp.new hL⟩ ?_ ?_⟩
    · rintro i H2 hi ⟨ns, hc, ha, e, D, k⟩
      have hne := D0.nes hL
      refine ⟨rfl, yes1 ?_⟩
      refine ⟨_, rfl, szle (by show 6 ≤ 1000000; decide), fun p1 hp1 => ?_⟩
      have n1 := D.nes hp1
      refine ⟨d, l, c, _, rfl, D.new hp1, .inl ⟨p1, [1,1,1,2,2,3].map V.int, rfl, .inl (.inl upd_same), n1.1, n1.2.1, (by intro z; cases z), (by show 6 ≤ 1000; decide), fun j x H4 hx D4 k4 => ?_⟩⟩
      obtain ⟨y, hy, rfl⟩ := intAt hx
      have hy9 : 1 ≤ y ∧ y ≤ 9 := by
        have := List.mem_of_getElem? hy
        simp only [List.mem_cons, List.not_mem_nil, or_false] at this
        omega
      have k24 : Kp [d, l] H2 H4 := (Kp.new hp1).trans k4
      refine ⟨_, k24 _ _ e (off2 hne), szlt (by rw [List.length_map]; omega), ns ++ [y], by rw [List.length_append, hc]; rfl, fun v hv => ?_, by rw [upd_same, List.map_append]; rfl, D4.off hne, (k.trans k24).mut hL⟩
      rcases List.mem_append.mp hv with h | h
      · exact ha v h
      · rw [List.mem_singleton.mp h]
        exact hy9
    · rintro H2 ⟨ns, hc, ha, e, D, k⟩
      have hne := D0.nes hL
      refine ⟨_, rfl, L, _, rfl, .inl ⟨.inl (.inl e), fun t1 ht1 => ?_⟩⟩
      have nt1 := D.nes ht1
      refine ⟨_, rfl, szle (by show 6 ≤ 1000000; decide), fun p1 hp1 => ?_⟩
      have D3 := D.new (o := .tup (ns.map V.int)) ht1
      have n1 := D3.nes hp1
      refine ⟨d, l, c, _, rfl, D3.new hp1, .inl ⟨p1, [none,none,some 1,some 1,some 2,some 3].map swV, rfl, .inl (.inl upd_same), n1.1, n1.2.1, (by intro z; cases z), (by show 6 ≤ 1000; decide), fun j x H4 hx D4 k4 => ?_⟩⟩
      obtain ⟨sw, rfl, hsw⟩ : ∃ sw : Option Int, x = swV sw ∧ ∀ i, sw = some i → 1 ≤ i ∧ i ≤ 9 := by
        have := List.mem_of_getElem? hx
        obtain ⟨sw, h1, h2⟩ := List.mem_map.mp this
        refine ⟨sw, h2.symm, fun i hi => ?_⟩
        subst hi
        simp only [List.mem_cons, List.not_mem_nil, or_false, Option.some.injEq, reduceCtorEq, false_or] at h1
        omega
      refine ⟨szle (by show 1 ≤ 1000000; decide), fun t2 ht2 => ?_⟩
      have kt : Kp [d, l] (upd H2 t1 (.tup (ns.map V.int))) H4 := (Kp.new hp1).trans k4
      have f1 := kt _ _ upd_same (off2 nt1)
      have f2 : (upd H4 t2 (.tup [swV sw])) t1 = some (.tup (ns.map V.int)) := by
        rw [upd_ne (ne_of_none f1 ht2)]
        exact f1
      obtain ⟨x1, x2, x3, rfl⟩ : ∃ x1 x2 x3, ns = [x1, x2, x3] := by
        match ns, hc with
        | [x1, x2, x3], _ => exact ⟨x1, x2, x3, rfl⟩
      refine ⟨t1, t2, _, _, rfl, rfl, .inl (.inl f2), .inl (.inl upd_same), (by intro z; cases z), szle (by show 4 ≤ 1000000; decide), (fun z => by cases z), fun _ p hp => ?_⟩
      have D5 := D4.new (o := .tup [swV sw]) ht2
      have k5 : Kp [d, l] H (upd H4 t2 (.tup [swV sw])) := k.trans ((Kp.new ht1).trans (kt.trans (Kp.new ht2)))
      have np := D5.nes hp
      refine q p x1 x2 x3 sw _ (k5.back (off2 np) hp) ?_ upd_same (D5.new hp) (k5.trans (Kp.new hp))
      have a1 := ha x1 (by simp)
      have a2 := ha x2 (by simp)
      have a3 := ha x3 (by simp)
      exact ⟨a1.1, a1.2, a2.1, a2.2, a3.1, a3.2, hsw⟩
end
end G69
namespace G69
open PySem PySem.Spec PyProof.Rows L2
/-! ### cases -/
abbrev kLet : Key := Sum.inr "letters"
abbrev kPri : Key := Sum.inr "prices"
abbrev kEnt : Key := Sum.inr "entries"
def caseK (lt pr en : Addr) : List (Key × V) := [(kLet, .ref lt), (kPri, .ref pr), (kEnt, .ref en)]
structure CaseI (H : Hp) (y lt pr en : Addr) (cs : List Nat) (xs : List V) (es : List En) (e m w : Int) (s : Option Int) : Prop where
  hy : H y = some (.dK (caseK lt pr en))
  hl : H lt = some (.lst (sgs cs))
  hp : H pr = some (.tup [.int e, .int m, .int w, swV s])
  he : H en = some (.lst xs)
  hs : EnsAt H xs es
  ne : lt ≠ en
structure CaseOk (many most : Nat) (cs : List Nat) (es : List En) (e m w : Int) (s : Option Int) : Prop where
  nd : cs.Nodup
  ca : ∀ c ∈ cs, isL c
  c2 : 2 ≤ cs.length
  c3 : cs.length ≤ 3
  pk : PrOk e m w s
  ok : EnOk es
  inn : ∀ en ∈ es, ∀ c ∈ cd en.1, c ∈ cs
  few : es.length ≤ many
  sh : ∀ en ∈ es, en.1.length ≤ most
structure CaseOff (d l c y lt en : Addr) : Prop where
  oy : y ≠ d ∧ y ≠ l ∧ y ≠ c
  ol : lt ≠ d ∧ lt ≠ l ∧ lt ≠ c
  oe : en ≠ d ∧ en ≠ l ∧ en ≠ c
section
variable {H H' : Hp} {d l c y lt pr en p : Addr} {cs : List Nat} {xs : List V} {es : List En} {e m w : Int} {s : Option Int} {o : HO}
theorem CaseI.keep (x : CaseI H y lt pr en cs xs es e m w s) (k : Kp [d, l] H H') (D : Dr H d l c) (f : CaseOff d l c y lt en) : CaseI H' y lt pr en cs xs es e m w s :=
  ⟨k _ _ x.hy (off2 f.oy), k _ _ x.hl (off2 f.ol), (D.kf k).tup x.hp, k _ _ x.he (off2 f.oe), x.hs.kf (D.kf k), x.ne⟩
theorem CaseI.kp (x : CaseI H y lt pr en cs xs es e m w s) (k : Kp [] H H') : CaseI H' y lt pr en cs xs es e m w s :=
  ⟨k _ _ x.hy notnil, k _ _ x.hl notnil, k _ _ x.hp notnil, k _ _ x.he notnil, x.hs.kf k.kf, x.ne⟩
theorem CaseI.new (x : CaseI H y lt pr en cs xs es e m w s) (h : H p = none) : CaseI (upd H p o) y lt pr en cs xs es e m w s := x.kp (Kp.new h)
theorem tx_of {z : Str} {cs : List Nat} (h : ∀ c ∈ cd z, c ∈ cs) (g : ∀ c ∈ cs, isL c) : isT (.str z) = true := by
  show z.cps.toList.all isLb = true
  rw [List.all_eq_true]
  intro c hc
  have := g c (h c hc)
  show (decide (97 ≤ c) && decide (c ≤ 122)) = true
  rw [decide_eq_true this.1, decide_eq_true this.2]
  rfl
/-- a further entry -/
theorem CaseI.push (x : CaseI H y lt pr en cs xs es e m w s) {q : Addr} {z : Str} {n : Int} (hq : H q = some (.tup (enV (z, n)))) : CaseI (upd H en (.lst (xs ++ [.ref q]))) y lt pr en cs (xs ++ [.ref q]) (es ++ [(z, n)]) e m w s := by
  have k := Kf.lst (o := .lst (xs ++ [.ref q])) x.he
  have n1 : y ≠ en := ne_of x.hy x.he (by intro z; cases z)
  refine ⟨by rw [upd_ne n1]; exact x.hy, by rw [upd_ne x.ne]; exact x.hl, k.tup x.hp, upd_same, Paired.app1 ⟨q, rfl, k.tup hq⟩ (x.hs.kf k), x.ne⟩
theorem EnOk.push (ok : EnOk es) {z : Str} {n : Int} (h1 : EnOk1 (z, n)) (h2 : z ∉ es.map Prod.fst) (h3 : es.length < 4) : EnOk (es ++ [(z, n)]) := by
  refine ⟨?_, fun x hx => ?_, ?_⟩
  · rw [List.length_append]
    show es.length + 1 ≤ 4
    omega
  · rcases List.mem_append.mp hx with h | h
    · exact ok.all x h
    · rw [List.mem_singleton.mp h]
      exact h1
  · rw [List.map_append, List.nodup_append]
    refine ⟨ok.nd, List.nodup_cons.mpr ⟨fun z => (nomatch z), List.nodup_nil⟩, fun a ha b hb => ?_⟩
    rw [List.mem_singleton.mp hb]
    rintro rfl
    exact h2 ha
end
section
variable {P : Program} {w : World} {K : PySem.W.Frag} {mg : Str → Option Value} {base : Heap}
/-! ### _law_case -/
abbrev sCase : Stmt := topS 46
abbrev nCase : List Str := ["_law_draw", "_law_many", "_law_most", "_law_case_here", "_law_turn", "_law_word", "_law_entry"]
abbrev pCase : List Str := nCase.take 3
theorem scCase : FnScope nCase pCase (defScope sCase) := ⟨rfl, rfl, rfl, by decide +kernel, rfl, by decide +kernel, by decide +kernel⟩
def spCase : Sp := fun vs H Q _ => ∃ (d l c : Addr) (many most : Nat), vs = [.ref d, .int many, .int most] ∧ Dr H d l c ∧ many ≤ 4 ∧ 1 ≤ most ∧ most ≤ 5 ∧
  ∀ (y lt pr en : Addr) (cs : List Nat) (xs : List V) (es : List En) (e m w : Int) (s : Option Int) (H' : Hp), H y = none → H lt = none → H pr = none → H en = none → CaseI H' y lt pr en cs xs es e m w s → CaseOk many most cs es e m w s → CaseOff d l c y lt en → Dr H' d l c → Kp [d, l] H H' → Q (.ref y) H'
theorem ok_case {f : Addr} {fd : FuncData} (F : Fun K "_law_case" "_law_case" sCase f fd) (CT : Cal P w K mg base "_law_take" ["_law_draw", "_law_size"] 1 spTake) (CP : Cal P w K mg base "_law_pick" ["_law_draw", "_law_some"] 2 (spPick K))
    (CL : Cal P w K mg base "_law_letters" ["_law_draw", "_law_many"] 2 spLett) (CS : Cal P w K mg base "_law_string" pString 3 (spString K)) (CR : Cal P w K mg base "_law_prices" ["_law_draw"] 3 spLPr) (B : Bt mg) :
    FnOk P w K mg base CX0 4 f fd pCase spCase := by
  refine F.ok scCase (fun vs H Q E h => ?_) (fun cdv A outer sh H vs Q E hr h => ?_)
  · obtain ⟨d, l, c, many, most, rfl, _⟩ := h
    rfl
  · obtain ⟨d, l, c, many, most, rfl, D0, hm, hm1, hm5, q⟩ := h
    have hu := hu_of hr
    refine ⟨_, (pss_cons
 (ps_set (i := 3) scCase.nd rfl (.inl rfl) (pe_disp (pps_cons pe_str (pe_cal CL hr (by decide) (by rfl) (pa_cons (pv 0) (pa_cons (pe_op op_add pe_int (pe_cal CT hr (by decide) (by rfl) (pa_cons (pv 0) (pa_cons pe_int pa_nil)))) pa_nil))) (pps_cons pe_str (pe_cal CR hr (by decide) (by rfl) (pa_cons (pv 0) pa_nil)) (pps_cons pe_str (pe_lst pa_nil) pps_nil))) (by rfl) (by rfl) (fun z => by cases z) (by decide)))
 (pss_cons
 (ps_for PassesOwn.never rfl (pi_range1 (by rfl) B.range (pa_cons (pe_cal CT hr (by decide) (by rfl) (pa_cons (pv 0) (pa_cons (pe_op op_add (pv 1) pe_int) pa_nil))) pa_nil)) (pg_name (i := 4) scCase.nd rfl (.inl rfl)) (pss_cons
 (ps_set (i := 5) scCase.nd rfl (.inl rfl) (pe_cal CS hr (by decide) (by rfl) (pa_cons (pv 0) (pa_cons (pe_dget hu (pv 3) pe_str (fun _ _ => rfl)) (pa_cons pe_int (pa_cons (pv 2) pa_nil))))))
 (pss_one
 (ps_if (pt_cmpR op_notIn_seq (pv 5) (pe_lc (own := [("_law_entry", 6)]) (g := gName 6) (tt := tYes) (by rfl) scCase.nd (pi_list (pe_dget hu (pv 3) pe_str (fun _ _ => rfl))) (blkOk_by (own := [("_law_entry", 6)]) (N := nCase) (sc := defScope sCase) (by decide +kernel)) (fun _ _ _ _ _ => (pg_name (i := 6) scCase.nd rfl (.inl rfl))) (fun _ _ _ _ _ => pts_nil) (fun _ _ _ _ _ => (pe_ix (ix_tupK (K := K) rfl) (pv 6) pe_int (fun _ _ => rfl)))) (by rfl)) (pss_one
 (ps_expr (pe_bm PySem.F.plainAttrs_list PySem.F.slot_list_append PySem.F.type_list_append mt_append (pe_dget hu (pv 3) pe_str (fun _ _ => rfl)) (pa_cons (pe_tup (pa_cons (pv 5) (pa_cons (pe_cal CP hr (by decide) (by rfl) (pa_cons (pv 0) (pa_cons (pe_lst (pa_cons pe_int (pa_cons pe_int (pa_cons pe_int (pa_cons pe_int (pa_cons pe_int (pa_cons pe_int (pa_cons pe_int (pa_cons (pe_cal CT hr (by decide) (by rfl) (pa_cons (pv 0) (pa_cons pe_int pa_nil))) pa_nil))))))))) pa_nil))) pa_nil))) pa_nil)))) pss_nil))))
 (pss_one
 (ps_ret (pv 3))))), ?_⟩
    refine fun y hy => ?_
    have D1 := D0.new (o := .dK []) hy
    have ny := D0.nes hy
    refine ⟨_, rfl, _, rfl, d, l, c, 2, rfl, D1, by decide, by decide, fun r H2 r0 r1 D2 k2 => ⟨_, _, rfl, rfl, d, l, c, (2 + r.toNat), ?_, D2, ?_, fun lt cs H3 hlt hcl hcn hca e3 D3 k3 => ?_⟩⟩
    · show [V.ref d, V.int (2 + r)] = _
      have : (2 : Int) + r = ((2 + r.toNat : Nat) : Int) := by omega
      rw [this]
    · omega
    · refine ⟨_, rfl, d, l, c, rfl, D3, fun pr e m w s H4 hpr pk e4 D4 k4 => ?_⟩
      refine ⟨szle (by show 0 ≤ 1000000; decide), fun en hen => ?_⟩
      have D5 := D4.new (o := .lst []) hen
      have nlt := D2.nes hlt
      have npr := D3.nes hpr
      have nen := D4.nes hen
      have k1 : Kp [d, l] H (upd H y (.dK [])) := Kp.new hy
      have k14 : Kp [d, l] (upd H y (.dK [])) H4 := k2.trans (k3.trans k4)
      have k15 := k14.trans (Kp.new (o := .lst []) hen)
      have f1 := k15 _ _ upd_same (off2 ny)
      have hlt4 := k4 _ _ e3 (off2 nlt)
      have hlt5 : (upd H4 en (.lst [])) lt = some (.lst (sgs cs)) := by
        rw [upd_ne (ne_of_none hlt4 hen)]
        exact hlt4
      have hpr5 : (upd H4 en (.lst [])) pr = some (.tup [.int e, .int m, .int w, swV s]) := by
        rw [upd_ne (ne_of_none e4 hen)]
        exact e4
      refine ⟨f1, caseK lt pr en, rfl, (by show 3 ≤ 15; decide), ?_⟩
      have nyl : y ≠ lt := ne_of f1 hlt5 (by intro z; cases z)
      have nye : y ≠ en := ne_of f1 upd_same (by intro z; cases z)
      have nyp : y ≠ pr := ne_of f1 hpr5 (by intro z; cases z)
      have nle : lt ≠ en := ne_of_none hlt4 hen
      have I0 : CaseI (upd (upd H4 en (.lst [])) y (.dK (caseK lt pr en))) y lt pr en cs [] [] e m w s :=
        ⟨upd_same, by rw [upd_ne nyl.symm]; exact hlt5, by rw [upd_ne nyp.symm]; exact hpr5, by rw [upd_ne nye.symm, upd_same], .nil, nle⟩
      have D6 := D5.off (o := .dK (caseK lt pr en)) ny
      have k06 : Kp [d, l] H (upd (upd H4 en (.lst [])) y (.dK (caseK lt pr en))) := (k1.trans k15).mut hy
      have of : CaseOff d l c y lt en := ⟨ny, nlt, nen⟩
      have hcs : cs ≠ [] := by
        rintro rfl
        exact absurd hcl (by show ¬ (0 = 2 + _); omega)
      refine ⟨_, rfl, _, rfl, _, _, rfl, rfl, d, l, c, ((many + 1 : Nat) : Int), rfl, D6, by omega, by omega, fun t H7 t0 t1 D7 k7 => ?_⟩
      have I7 := I0.keep k7 D6 of
      have k07 := k06.trans k7
      have hHl : H lt = none := k1.back (off2 nlt) (k2.back (off2 nlt) hlt)
      have hHp : H pr = none := (k1.trans (k2.trans k3)).back (off2 npr) hpr
      have hHe : H en = none := (k1.trans k14).back (off2 nen) hen
      have ht : t = ((t.toNat : Nat) : Int) := by omega
      rw [ht]
      refine ⟨t.toNat, rfl, by omega, by omega, for_range (lo := 0) (n := t.toNat)
        (fun i σ H8 => ∃ y4 y5 y6 xs es, σ = [some (.ref d), some (.int many), some (.int most), some (.ref y), y4, y5, y6] ∧ CaseI H8 y lt pr en cs xs es e m w s ∧ CaseOk i most cs es e m w s ∧ Dr H8 d l c ∧ Kp [d, l] H H8)
        ⟨none, none, none, [], [], rfl, I7, ⟨hcn, hca, by omega, by omega, pk, ⟨by decide, (fun _ z => by cases z), List.nodup_nil⟩, (fun _ z => by cases z), Nat.le_refl _, (fun _ z => by cases z)⟩, D7, k07⟩ ?_ ?_⟩
      · rintro i σ H8 hi ⟨y4, y5, y6, xs, es, rfl, I8, ok8, D8, k8⟩
        refine ⟨_, rfl, _, rfl, y, .ref lt, rfl, DGet.k (k := kLet) I8.hy, _, rfl, d, l, c, lt, cs, 1, most, rfl, D8, .inl (.inl I8.hl), nlt.1, nlt.2.1, hcs, by omega, hm1, by omega, fun z H9 z1 z2 z3 D9 k9 => ?_⟩
        have I9 := I8.keep k9 D8 of
        have hel : es.length ≤ 4 := ok8.ok.few
        refine ⟨_, rfl, _, rfl, y, .ref en, rfl, DGet.k (k := kEnt) I9.hy, en, rfl, ⟨_, .inl (.inl I9.he)⟩, fun L hL => lc_it (walk_list (K := K) (a := en) (xs := xs))
          (fun j Ha => Ha L = some (.lst (wV (es.take j))) ∧ Kp [] H9 Ha) ⟨upd_same, Kp.new hL⟩ (fun j Ha _ ha => .inl (.inl (ha.2 _ _ I9.he notnil))) ?_ ?_⟩
        · rintro j x Ha Hb hj ⟨ea, ka⟩ ⟨rfl, hx⟩
          obtain ⟨e1, he1, p, rfl, hp⟩ := Paired.get I9.hs hx
          refine ⟨rfl, yes1 ⟨_, rfl, p, _, 0, _, rfl, rfl, .inl (.inl (ka _ _ hp notnil)), atI_nat (j := 0) rfl, _, ea, szlt ?_, ?_, ka.mut hL⟩⟩
          · rw [List.length_map, List.length_take]
            omega
          · rw [upd_same, take_snoc he1, wV_snoc]
        · rintro Ha ⟨ea, ka⟩
          have hl : xs.length = es.length := Paired.lens I9.hs
          rw [hl, List.take_length] at ea
          have Ia := I9.kp ka
          have Da := D9.keep0 ka
          have k8a : Kp [d, l] H Ha := k8.trans (k9.trans (ka.mono (fun _ z => by cases z)))
          refine ⟨L, _, rfl, .inl (.inl (.inl ea)), rfl, flat_wV _, _, rfl, ?_⟩
          rw [show (if true = true then !inV (.str z) (wV es) else inV (.str z) (wV es)) = !decide (z ∈ es.map Prod.fst) by rw [inV_wV]; rfl]
          by_cases hin : z ∈ es.map Prod.fst
          · rw [decide_eq_true hin]
            exact iteF ⟨_, _, _, xs, es, rfl, Ia, ⟨ok8.nd, ok8.ca, ok8.c2, ok8.c3, ok8.pk, ok8.ok, ok8.inn, Nat.le_succ_of_le ok8.few, ok8.sh⟩, Da, k8a⟩
          · rw [decide_eq_false hin]
            refine iteT ⟨_, rfl, y, .ref en, rfl, DGet.k (k := kEnt) Ia.hy, .inl ⟨rfl, _, .inl (.inl Ia.he)⟩, _, rfl, _, rfl, _, rfl, d, l, c, 12, rfl, Da, by decide, by decide, fun u Hb u0 u1 Db kb => ⟨szle (by show 8 ≤ 1000000; decide), fun p1 hp1 => ?_⟩⟩
            have Ib := Ia.keep kb Da of
            have n1 := Db.nes hp1
            refine ⟨d, l, c, _, rfl, Db.new hp1, .inl ⟨p1, [0, 0, 0, 1, 1, 2, 3, u].map V.int, rfl, .inl (.inl upd_same), n1.1, n1.2.1, (by intro z; cases z), (by show 8 ≤ 1000; decide), fun j x Hc hx Dc kc => ?_⟩⟩
            obtain ⟨v, hv, rfl⟩ := intAt hx
            have hv12 : 0 ≤ v ∧ v ≤ 12 := by
              have := List.mem_of_getElem? hv
              simp only [List.mem_cons, List.not_mem_nil, or_false] at this
              omega
            have Ic := (Ib.new (o := .lst ([0, 0, 0, 1, 1, 2, 3, u].map V.int)) hp1).keep kc (Db.new hp1) of
            refine ⟨szle (by show 2 ≤ 1000000; decide), fun tq htq => ?_⟩
            have Id := Ic.new (o := .tup [.str z, .int v]) htq
            have hxl : xs.length ≤ 4 := by omega
            refine ⟨en, xs, _, rfl, rfl, Id.he, szlt (by omega), _, _, _, _, _, rfl, Id.push (z := z) (n := v) upd_same, ?_, (Dc.new htq).off nen, ?_⟩
            · have z2' : z.length ≤ 5 := Nat.le_trans z2 hm5
              refine ⟨ok8.nd, ok8.ca, ok8.c2, ok8.c3, ok8.pk, ok8.ok.push ⟨tx_of z3 hca, z1, z2', hv12.1, by show v ≤ 999; omega⟩ hin (by have := ok8.few; omega), fun a ha => ?_, by rw [List.length_append]; have := ok8.few; show es.length + 1 ≤ i + 1; omega, fun a ha => ?_⟩
              · rcases List.mem_append.mp ha with h | h
                · exact ok8.inn a h
                · rw [List.mem_singleton.mp h]
                  exact z3
              · rcases List.mem_append.mp ha with h | h
                · exact ok8.sh a h
                · rw [List.mem_singleton.mp h]
                  exact z2
            · exact (((k8a.trans kb).trans ((Kp.new hp1).trans kc)).trans (Kp.new htq)).mut hHe
      · rintro σ H8 ⟨y4, y5, y6, xs, es, rfl, I8, ok8, D8, k8⟩
        exact ⟨_, rfl, q y lt pr en cs xs es e m w s H8 hy hHl hHp hHe I8 ⟨ok8.nd, ok8.ca, ok8.c2, ok8.c3, ok8.pk, ok8.ok, ok8.inn, Nat.le_trans ok8.few (by omega), ok8.sh⟩ of D8 k8⟩
end
end G69
namespace G69
open PySem PySem.Spec PyProof.Rows L2
/-! ### spellers made -/
def MkP (P : Program) (w : World) (K : PySem.W.Frag) (mg : Str → Option Value) (base : Heap) (CS : Addr) (sp : Sp) : Prop :=
  ∃ (f : Addr) (fd : FuncData), Mk K CS f ∧ FnOk P w K mg base CX0 5 f fd nPInit sp ∧ Binds K fd nPInit []
theorem pe_mkP {X : Cx} {CS : Addr} {j : Nat} {p pos : Pos} {sp : Sp} {e : Expr} {es : List Expr} {t : TA} (M : MkP X.prog X.w X.K X.mg X.base CS sp) (hm : X.mg "Speller" = some (.ref CS)) (hr : Room j X.A) (hj : 6 ≤ j) (hg : Gl X "Speller") (ha : PA X (e :: es) t)
    (he : starEach (e :: es) X.env = (false, eval e X.env) :: starEach es X.env := by rfl) (hpl : (backTo pos (starEach es X.env)).any (·.1) = false := by rfl) :
    PE X (.Call (.Name "Speller" p) (e :: es) [] pos) (tMake CS sp [] E0 t) := by
  obtain ⟨f, fd, mk, F, b⟩ := M
  exact pe_make mk F (hr.mono hj) hg hm b .nil pass0 ha (by decide) he hpl
/-- what a new speller is -/
theorem sp_new {C CS x dx sx : Addr} {H H' : Hp} {xs : List V} {es : List En} {e m w : Int} {s : Option Int} {tp : Addr} (hx : H x = none) (hd : H dx = none) (hs : EnsAt H xs es) (sl : SlAt C H sx e m w s)
    (h1 : H' x = some (.ins CS dx (spf tp sx))) (h2 : H' tp = some (.tup xs)) (k : Kp [x] (upd (upd H dx (.own x)) x (.ins CS dx [])) H') : SpAt C CS H' x es e m w s ∧ Kp [] H H' := by
  have k2 : Kp [] H H' := fun b o eb _ => k b o (by rw [upd_ne (ne_of_none eb hx), upd_ne (ne_of_none eb hd)]; exact eb) (not1 (ne_of_none eb hx))
  exact ⟨⟨dx, tp, sx, xs, h1, h2, hs.kf k2.kf, sl.kf k2.kf⟩, k2⟩
/-- entries, as the heap of a new instance has them -/
theorem ens_new {x dx CS : Addr} {H : Hp} {xs : List V} {es : List En} (hx : H x = none) (hd : H dx = none) (ne : dx ≠ x) (h : EnsAt H xs es) : EnsAt (upd (upd H dx (.own x)) x (.ins CS dx [])) xs es :=
  h.kf (fun b o eb _ => by rw [upd_ne (ne_of_none eb hx), upd_ne (ne_of_none eb hd)]; exact eb)
theorem at_new {x dx CS a : Addr} {H : Hp} {o : HO} (hx : H x = none) (hd : H dx = none) (h : H a = some o) : (upd (upd H dx (.own x)) x (.ins CS dx [])) a = some o := by
  rw [upd_ne (ne_of_none h hx), upd_ne (ne_of_none h hd)]
  exact h
def tot (f : Str → Int) (es : List En) : List Int := es.map fun en => f en.1 + en.2
theorem tot_at (f : Str → Int) (es : List En) (i : Nat) : (tot f es)[i]? = es[i]?.map fun en => f en.1 + en.2 := List.getElem?_map
theorem first_at {m : Int} : ∀ {ns : List Int}, m ∈ ns → ∃ j : Nat, ns[j]? = some m ∧ ∀ i : Nat, i < j → ns[i]? ≠ some m
  | n :: r, h => by
    by_cases e : n = m
    · exact ⟨0, by rw [e]; rfl, fun i hi => absurd hi (Nat.not_lt_zero _)⟩
    · obtain ⟨j, h1, h2⟩ := first_at (ns := r) ((List.mem_cons.mp h).resolve_left fun z => e z.symm)
      refine ⟨j + 1, h1, fun i hi => ?_⟩
      cases i with
      | zero => exact fun z => e (Option.some.inj z)
      | succ i => exact h2 i (Nat.lt_of_succ_lt_succ hi)
/-- the first place of the least total -/
theorem mw_first {f : Str → Int} {es : List En} {m : Int} {j : Nat} (h1 : ∀ y ∈ tot f es, m ≤ y) (h2 : (tot f es)[j]? = some m) (h3 : ∀ i, i < j → (tot f es)[i]? ≠ some m) : ∃ en, es[j]? = some en ∧ mw f es = some en.1 := by
  rw [tot_at] at h2
  cases e : es[j]? with
  | none => rw [e] at h2; cases h2
  | some en =>
    rw [e] at h2
    have em : f en.1 + en.2 = m := Option.some.inj h2
    refine ⟨en, rfl, mw_at e (fun i x hx => ?_) (fun i x hi hx => ?_)⟩
    · rw [em]
      exact h1 _ (List.mem_map_of_mem (List.mem_of_getElem? hx))
    · have g1 := h1 _ (List.mem_map_of_mem (f := fun en : En => f en.1 + en.2) (List.mem_of_getElem? hx))
      have g2 := h3 i hi
      rw [tot_at, hx] at g2
      have g3 : f x.1 + x.2 ≠ m := fun z => g2 (congrArg some z)
      omega
theorem flat_ints (ns : List Int) : (ns.map V.int).all flatV = true := by
  induction ns with
  | nil => rfl
  | cons x r ih =>
    show (flatV (V.int x) && (r.map V.int).all flatV) = true
    rw [ih]
    rfl
section
variable {P : Program} {w : World} {K : PySem.W.Frag} {mg : Str → Option Value} {base : Heap}
/-! ### _law_speller -/
abbrev sSpe : Stmt := topS 48
abbrev nSpe : List Str := ["_law_case_here"]
theorem scSpe : FnScope nSpe nSpe (defScope sSpe) := ⟨rfl, rfl, rfl, by decide +kernel, rfl, by decide +kernel, by decide +kernel⟩
def spSpe (C CS : Addr) : Sp := fun vs H Q _ => ∃ (y lt pr en : Addr) (cs : List Nat) (xs : List V) (es : List En) (e m w : Int) (s : Option Int), vs = [.ref y] ∧ CaseI H y lt pr en cs xs es e m w s ∧ PrOk e m w s ∧ EnOk es ∧
  ∀ x H', H x = none → SpAt C CS H' x es e m w s → Kp [] H H' → Q (.ref x) H'
theorem ok_spe {f C CS : Addr} {fd : FuncData} (F : Fun K "_law_speller" "_law_speller" sSpe f fd) (T : SpC K mg CS) (CL : Cal P w K mg base "_law_slips" pLSlips 5 (spLSlips K C)) (M : MkP P w K mg base CS (spPInit0 CS)) :
    FnOk P w K mg base CX0 7 f fd nSpe (spSpe C CS) := by
  refine F.ok scSpe (fun vs H Q E h => ?_) (fun cdv A outer sh H vs Q E hr h => ?_)
  · obtain ⟨y, lt, pr, en, cs, xs, es, e, m, w, s, rfl, _⟩ := h
    rfl
  · obtain ⟨y, lt, pr, en, cs, xs, es, e, m, w, s, rfl, I, pk, ok, q⟩ := h
    have hu := hu_of hr
    refine ⟨_, (pss_one
 (ps_ret (pe_mkP M T.mgS hr (by decide) (by rfl) (pa_cons (pe_dget hu (pv 0) pe_str (fun _ _ => rfl)) (pa_cons (pe_cal CL hr (by decide) (by rfl) (pa_cons (pe_dget hu (pv 0) pe_str (fun _ _ => rfl)) pa_nil)) pa_nil))))), ?_⟩
    refine ⟨_, rfl, y, .ref en, rfl, DGet.k (k := kEnt) I.hy, _, rfl, y, .ref pr, rfl, DGet.k (k := kPri) I.hy, pr, e, m, w, s, rfl, .inl (.inl I.hp), pk, fun sx H1 hsx sl k1 => ?_⟩
    have I1 := I.kp k1
    intro x dx hx hdx nex
    refine ⟨x, dx, en, sx, xs, es, rfl, upd_same, .inl (at_new hx hdx I1.he), ens_new hx hdx nex I1.hs, ok, fun H' tp h1 h2 k => ⟨rfl, ?_⟩⟩
    obtain ⟨g1, g2⟩ := sp_new hx hdx I1.hs sl h1 h2 k
    exact q x H' (k1.free hx) g1 (k1.trans g2)
/-! ### _law_other_letter -/
abbrev sOth : Stmt := topS 49
abbrev nOth : List Str := ["_law_case_here", "_law_letter"]
abbrev pOth : List Str := nOth.take 1
theorem scOth : FnScope nOth pOth (defScope sOth) := ⟨rfl, rfl, rfl, by decide +kernel, rfl, by decide +kernel, by decide +kernel⟩
def spOth : Sp := fun vs H Q _ => ∃ (y lt pr en : Addr) (cs : List Nat) (xs : List V) (es : List En) (e m w : Int) (s : Option Int), vs = [.ref y] ∧ CaseI H y lt pr en cs xs es e m w s ∧ cs.length ≤ 20 ∧
  ∀ c H', isL c → c ∉ cs → Kp [] H H' → Q (.str (sg c)) H'
theorem inV_sgs (c : Nat) (cs : List Nat) : inV (.str (sg c)) (sgs cs) = decide (c ∈ cs) := by
  induction cs with
  | nil => rfl
  | cons x r ih =>
    have e : inV (.str (sg c)) (sgs (x :: r)) = ((sg x == sg c) || inV (.str (sg c)) (sgs r)) := rfl
    rw [e, ih]
    by_cases h : x = c
    · subst h
      rw [beq_self_eq_true, Bool.true_or, decide_eq_true]
      exact List.mem_cons_self
    · have h1 : (sg x == sg c) = false := by
        rw [beq_eq_false_iff_ne]
        intro z
        exact h (List.cons.inj (congrArg cd z)).1
      rw [h1, Bool.false_or, decide_eq_decide, List.mem_cons]
      exact ⟨fun q => .inr q, fun q => q.resolve_left fun y => h y.symm⟩
theorem flat_sgs (cs : List Nat) : (sgs cs).all flatV = true := by
  induction cs with
  | nil => rfl
  | cons x r ih =>
    show (flatV (V.str (sg x)) && (sgs r).all flatV) = true
    rw [ih]
    rfl
theorem nodup_sub_len : ∀ {l m : List Nat}, l.Nodup → (∀ a ∈ l, a ∈ m) → l.length ≤ m.length
  | [], _, _, _ => Nat.zero_le _
  | a :: r, m, n, h => by
    have n2 := List.nodup_cons.mp n
    have ha : a ∈ m := h a List.mem_cons_self
    have ih := nodup_sub_len (l := r) (m := m.erase a) n2.2 fun b hb => by
      have hne : b ≠ a := fun z => n2.1 (z ▸ hb)
      exact (List.mem_erase_of_ne hne).mpr (h b (List.mem_cons_of_mem _ hb))
    rw [List.length_erase_of_mem ha] at ih
    have : 0 < m.length := List.length_pos_of_mem ha
    show r.length + 1 ≤ m.length
    omega
theorem ok_oth {f : Addr} {fd : FuncData} (F : Fun K "_law_other_letter" "_law_other_letter" sOth f fd) (B : Bt mg) : FnOk P w K mg base CX0 1 f fd pOth spOth := by
  refine F.ok scOth (fun vs H Q E h => ?_) (fun cdv A outer sh H vs Q E hr h => ?_)
  · obtain ⟨y, lt, pr, en, cs, xs, es, e, m, w, s, rfl, _⟩ := h
    rfl
  · obtain ⟨y, lt, pr, en, cs, xs, es, e, m, w, s, rfl, I, hl, q⟩ := h
    have hu := hu_of hr
    refine ⟨_, (pss_one
 (ps_ret (pe_ix ix_list (pe_lc (own := [("_law_letter", 1)]) (g := gName 1)  (by rfl) scOth.nd (pi_str pe_str) (blkOk_by (own := [("_law_letter", 1)]) (N := nOth) (sc := defScope sOth) (by decide +kernel)) (fun _ _ _ _ _ => (pg_name (i := 1) scOth.nd rfl (.inl rfl))) (fun _ _ _ _ _ => (pts_one (pt_cmpR (op_notIn_seqK (K := K) rfl) (pv 1) (pe_dget hu (pv 0) pe_str (fun _ _ => rfl)) (by rfl)))) (fun _ _ _ _ _ => (pv 1))) (pe_un un_neg pe_int) (fun _ _ => rfl)))), ?_⟩
    refine ⟨abc, rfl, fun L hL => lc_it walk_str
      (fun i H2 => ∃ ds, H2 L = some (.lst (sgs ds)) ∧ (∀ a ∈ ds, isL a ∧ a ∉ cs) ∧ ds.length ≤ i ∧ (∀ a ∈ (cd abc).take i, a ∈ cs ∨ a ∈ ds) ∧ Kp [] H H2)
      ⟨[], upd_same, (fun _ z => by cases z), Nat.le_refl _, (fun _ z => by rw [List.take_zero] at z; cases z), Kp.new hL⟩ (fun _ _ _ _ => trivial) ?_ ?_⟩
    · rintro i x H2 H2' hi ⟨ds, e2, a2, l2, c2, k2⟩ ⟨rfl, c, hc, rfl⟩
      have I2 := I.kp k2
      have hc' : (cd abc)[i]? = some c := by rw [Array.getElem?_toList]; exact hc
      have hi26 : i < 26 := by
        have := (List.getElem?_eq_some_iff.mp hc').1
        rw [abc_llen] at this
        exact this
      refine ⟨rfl, _, rfl, _, rfl, y, .ref lt, rfl, DGet.k (k := kLet) I2.hy, lt, _, rfl, .inl (.inl (.inl I2.hl)), rfl, flat_sgs _, _, rfl, ?_⟩
      rw [show (if true = true then !inV (.str (sg c)) (sgs cs) else inV (.str (sg c)) (sgs cs)) = !decide (c ∈ cs) by rw [inV_sgs]; rfl]
      by_cases hin : c ∈ cs
      · rw [decide_eq_true hin]
        refine iteF ⟨ds, e2, a2, by omega, fun a ha => ?_, k2⟩
        rw [take_snoc hc'] at ha
        rcases List.mem_append.mp ha with h | h
        · exact c2 a h
        · rw [List.mem_singleton.mp h]
          exact .inl hin
      · rw [decide_eq_false hin]
        refine iteT ⟨_, rfl, _, e2, szlt (by rw [List.length_map]; omega), ds ++ [c], by rw [upd_same, ← sgs_snoc], fun a ha => ?_, by rw [List.length_append]; show ds.length + 1 ≤ i + 1; omega, fun a ha => ?_, k2.mut hL⟩
        · rcases List.mem_append.mp ha with h | h
          · exact a2 a h
          · rw [List.mem_singleton.mp h]
            exact ⟨abc_L c (List.mem_of_getElem? hc'), hin⟩
        · rw [take_snoc hc'] at ha
          rcases List.mem_append.mp ha with h | h
          · rcases c2 a h with g | g
            · exact .inl g
            · exact .inr (List.mem_append.mpr (.inl g))
          · rw [List.mem_singleton.mp h]
            exact .inr (List.mem_append.mpr (.inr List.mem_cons_self))
    · rintro H2 ⟨ds, e2, a2, l2, c2, k2⟩
      have hne : ds ≠ [] := by
        rintro rfl
        have := nodup_sub_len abc_nd (m := cs) fun a ha => by
          have e : (cd abc).take abc.cps.size = cd abc := List.take_of_length_le (by rw [Array.length_toList]; exact Nat.le_refl _)
          rcases c2 a (by rw [e]; exact ha) with h | h
          · exact h
          · cases h
        rw [abc_llen] at this
        omega
      obtain ⟨b, hb⟩ : ∃ b, ds.getLast? = some b := ⟨_, List.getLast?_eq_some_getLast hne⟩
      have hm : b ∈ ds := List.mem_of_getLast? hb
      have hat : atI (sgs ds) (-1) = some (.str (sg b)) := by
        have e := snoc_of_last hb
        rw [e, sgs_snoc]
        exact atI_last _ _
      exact ⟨1, rfl, L, _, -1, _, rfl, rfl, .inl (.inl e2), hat, q b H2 (a2 b hm).1 (a2 b hm).2 k2⟩
end
end G69
namespace G69
/-! ### least costs by the first step -/
noncomputable def f0 (t x : List Nat) : List Int := match t, x with | [], [] => [0] | _, _ => []
noncomputable def f1 (p : Pz) (t x : List Nat) : List Int := match x with | _ :: x' => [p.e + lc p t x'] | [] => []
noncomputable def f2 (p : Pz) (t x : List Nat) : List Int := match t with | _ :: t' => [p.m + lc p t' x] | [] => []
noncomputable def f3 (p : Pz) (t x : List Nat) : List Int := match t, x with | a :: t', b :: x' => [(if a = b then 0 else p.w) + lc p t' x'] | _, _ => []
noncomputable def f4 (p : Pz) (t x : List Nat) : List Int := match p.s, t, x with
  | some k, a :: a2 :: t2, b :: b2 :: x2 => if b = a2 ∧ b2 = a ∧ a ≠ a2 then [k + lc p t2 x2] else []
  | _, _, _ => []
noncomputable def fo (p : Pz) (t x : List Nat) : List Int := f0 t x ++ (f1 p t x ++ (f2 p t x ++ (f3 p t x ++ f4 p t x)))
theorem cons_rdg {p : Pz} {t x : List Nat} {qs : List Step} {st : Step} (ok : st.ok p) (h : Rdg p t x qs) : Rdg p (st.meant ++ t) (st.typed ++ x) (st :: qs) := by
  have := (Rdg.one ok).append h
  exact this
theorem fo_reach {p : Pz} (h : p.Pos) (t x : List Nat) (y : Int) : y ∈ fo p t x → ∃ rs, Rdg p t x rs ∧ cost p rs = y := by
  have mk : ∀ (st : Step) (t' x' : List Nat), st.ok p → ∃ rs, Rdg p (st.meant ++ t') (st.typed ++ x') rs ∧ cost p rs = st.pr p + lc p t' x' := by
    intro st t' x' ok
    obtain ⟨qs, h1, h2⟩ := (lc_least h t' x').at_
    exact ⟨st :: qs, cons_rdg ok h1, by rw [cost_cons, h2]⟩
  have r0 : y ∈ f0 t x → ∃ rs, Rdg p t x rs ∧ cost p rs = y := by
    intro hy
    unfold f0 at hy
    split at hy
    · rw [List.mem_singleton.mp hy]
      exact ⟨[], Rdg.nil, rfl⟩
    · cases hy
  have r1 : y ∈ f1 p t x → ∃ rs, Rdg p t x rs ∧ cost p rs = y := by
    intro hy
    unfold f1 at hy
    split at hy
    · rename_i b x'
      rw [List.mem_singleton.mp hy]
      exact mk (.extra b) t x' trivial
    · cases hy
  have r2 : y ∈ f2 p t x → ∃ rs, Rdg p t x rs ∧ cost p rs = y := by
    intro hy
    unfold f2 at hy
    split at hy
    · rename_i a t'
      rw [List.mem_singleton.mp hy]
      exact mk (.missing a) t' x trivial
    · cases hy
  have r3 : y ∈ f3 p t x → ∃ rs, Rdg p t x rs ∧ cost p rs = y := by
    intro hy
    unfold f3 at hy
    split at hy
    · rename_i a t' b x'
      rw [List.mem_singleton.mp hy]
      by_cases hab : a = b
      · subst hab
        rw [if_pos rfl]
        exact mk (.same a) t' x' trivial
      · rw [if_neg hab]
        exact mk (.wrong a b) t' x' hab
    · cases hy
  have r4 : y ∈ f4 p t x → ∃ rs, Rdg p t x rs ∧ cost p rs = y := by
    intro hy
    unfold f4 at hy
    split at hy
    · rename_i k a a2 t2 b b2 x2 hs
      split at hy
      · rename_i hc
        obtain ⟨h1, h2, h3⟩ := hc
        rw [List.mem_singleton.mp hy]
        obtain ⟨rs, r1, r2⟩ := mk (.swapped a a2) t2 x2 ⟨h3, by rw [hs]; exact fun z => nomatch z⟩
        refine ⟨rs, ?_, ?_⟩
        · rw [h1, h2]
          exact r1
        · rw [r2]
          show p.s.getD 0 + _ = _
          rw [hs]
          rfl
      · cases hy
    · cases hy
  intro hy
  unfold fo at hy
  rcases List.mem_append.mp hy with hy | hy
  · exact r0 hy
  rcases List.mem_append.mp hy with hy | hy
  · exact r1 hy
  rcases List.mem_append.mp hy with hy | hy
  · exact r2 hy
  rcases List.mem_append.mp hy with hy | hy
  · exact r3 hy
  · exact r4 hy
theorem fo_below {p : Pz} (h : p.Pos) (t x : List Nat) (rs : List Step) (hr : Rdg p t x rs) : ∃ y ∈ fo p t x, y ≤ cost p rs := by
  cases rs with
  | nil =>
    have ht : t = [] := hr.mt.symm
    have hx : x = [] := hr.ty.symm
    subst ht
    subst hx
    exact ⟨0, List.mem_append_left _ (List.mem_singleton.mpr rfl), Int.le_refl _⟩
  | cons st qs =>
    have hok : st.ok p := hr.ok st (List.mem_cons_self)
    have ht : t = st.meant ++ qs.flatMap Step.meant := by rw [← hr.mt, List.flatMap_cons]
    have hx : x = st.typed ++ qs.flatMap Step.typed := by rw [← hr.ty, List.flatMap_cons]
    have hq : Rdg p (qs.flatMap Step.meant) (qs.flatMap Step.typed) qs := ⟨fun s hs => hr.ok s (List.mem_cons_of_mem _ hs), rfl, rfl⟩
    have hl := (lc_least h (qs.flatMap Step.meant) (qs.flatMap Step.typed)).le qs hq
    rw [cost_cons]
    generalize qs.flatMap Step.meant = t' at ht hl
    generalize qs.flatMap Step.typed = x' at hx hl
    subst ht
    subst hx
    refine ⟨st.pr p + lc p t' x', ?_, by omega⟩
    unfold fo
    cases st with
    | extra b =>
      apply List.mem_append_right
      apply List.mem_append_left
      exact List.mem_singleton.mpr rfl
    | missing a =>
      apply List.mem_append_right
      apply List.mem_append_right
      apply List.mem_append_left
      exact List.mem_singleton.mpr rfl
    | same a =>
      apply List.mem_append_right
      apply List.mem_append_right
      apply List.mem_append_right
      apply List.mem_append_left
      show _ ∈ [(if a = a then 0 else p.w) + lc p t' x']
      rw [if_pos rfl]
      exact List.mem_singleton.mpr rfl
    | wrong a b =>
      apply List.mem_append_right
      apply List.mem_append_right
      apply List.mem_append_right
      apply List.mem_append_left
      show _ ∈ [(if a = b then 0 else p.w) + lc p t' x']
      rw [if_neg hok]
      exact List.mem_singleton.mpr rfl
    | swapped a b =>
      apply List.mem_append_right
      apply List.mem_append_right
      apply List.mem_append_right
      apply List.mem_append_right
      obtain ⟨o1, o2⟩ := hok
      cases hs : p.s with
      | none => exact absurd hs o2
      | some k =>
        have e4 : f4 p (a :: b :: t') (b :: a :: x') = [k + lc p t' x'] := by
          unfold f4
          rw [hs]
          show (if b = b ∧ a = a ∧ a ≠ b then _ else _) = _
          rw [if_pos ⟨rfl, rfl, o1⟩]
        show _ ∈ f4 p (a :: b :: t') (b :: a :: x')
        rw [e4]
        have : Step.pr p (.swapped a b) = k := by
          show p.s.getD 0 = k
          rw [hs]
          rfl
        rw [this]
        exact List.mem_singleton.mpr rfl
theorem lc_front {p : Pz} (h : p.Pos) {t x : List Nat} {c : Int} (h1 : c ∈ fo p t x) (h2 : ∀ y ∈ fo p t x, c ≤ y) : lc p t x = c := by
  refine lc_eq h ⟨fo_reach h t x c h1, fun rs hr => ?_⟩
  obtain ⟨y, hy, hle⟩ := fo_below h t x rs hr
  have := h2 y hy
  omega
end G69
namespace G69
open PySem PySem.Spec PyProof.Rows L2
theorem cd_mid (z : Str) (i j : Nat) (h : i ≤ j) : cd (cutS z (some (i : Int)) (some (j : Int))) = ((cd z).drop i).take (j - i) := by
  unfold cutS cd
  rw [HT.sIx_nat, HT.sIx_nat]
  show List.take (min j z.length - min i z.length) (List.drop (min i z.length) z.cps.toList) = _
  have hl : z.cps.toList.length = z.length := cd_len z
  rcases Nat.le_total i z.length with h1 | h1
  · rw [Nat.min_eq_left h1]
    rcases Nat.le_total j z.length with h2 | h2
    · rw [Nat.min_eq_left h2]
    · rw [Nat.min_eq_right h2, List.take_of_length_le (by rw [List.length_drop]; omega), List.take_of_length_le (by rw [List.length_drop]; omega)]
  · rw [Nat.min_eq_right h1, List.drop_of_length_le (show z.cps.toList.length ≤ i by omega), Nat.min_eq_right (by omega), List.drop_of_length_le (by omega)]
    simp
theorem fo_ne (p : Pz) (t x : List Nat) : fo p t x ≠ [] := by
  unfold fo
  cases t with
  | nil =>
    cases x with
    | nil => intro z; cases z
    | cons b r => intro z; cases z
  | cons a r =>
    cases x with
    | nil => intro z; cases z
    | cons b r => intro z; cases z
structure LP (H : Hp) (tb : Addr) (kvs : List (List Key × V)) (so : Addr) (acc : List Int) (H' : Hp) : Prop where
  hs : H' so = some (.lst (acc.map V.int))
  ht : H' tb = some (.dT kvs)
  kp : Kp [] H H'
  fs : H so = none
  ft : H tb = none
theorem LP.ne {H H' : Hp} {tb so : Addr} {kvs : List (List Key × V)} {acc : List Int} (x : LP H tb kvs so acc H') : tb ≠ so := ne_of x.ht x.hs (by intro z; cases z)
theorem LP.new {H H' : Hp} {tb so p : Addr} {kvs : List (List Key × V)} {acc : List Int} {o : HO} (x : LP H tb kvs so acc H') (h : H' p = none) : LP H tb kvs so acc (upd H' p o) :=
  ⟨by rw [upd_ne (ne_of_none x.hs h)]; exact x.hs, by rw [upd_ne (ne_of_none x.ht h)]; exact x.ht, x.kp.trans (Kp.new h), x.fs, x.ft⟩
theorem LP.push {H H' : Hp} {tb so : Addr} {kvs : List (List Key × V)} {acc : List Int} {y : Int} (x : LP H tb kvs so acc H') : LP H tb kvs so (acc ++ [y]) (upd H' so (.lst (acc.map V.int ++ [V.int y]))) :=
  ⟨by rw [upd_same, List.map_append]; rfl, by rw [upd_ne x.ne]; exact x.ht, x.kp.mut x.fs, x.fs, x.ft⟩
abbrev k2 (i j : Nat) : List Key := [Sum.inl (i : Int), Sum.inl (j : Int)]
theorem k2_inj {i j i' j' : Nat} : k2 i j = k2 i' j' ↔ i = i' ∧ j = j' := by
  constructor
  · intro h
    have h1 := List.cons.inj h
    have h2 := List.cons.inj h1.2
    have h3 := Sum.inl.inj h1.1
    have h4 := Sum.inl.inj h2.1
    omega
  · rintro ⟨rfl, rfl⟩
    rfl
/-- the table knows the least costs of the ends (i, j) -/
def Tk (p : Pz) (t x : List Nat) (kvs : List (List Key × V)) (P : Nat → Nat → Prop) : Prop := ∀ i j, P i j → valV kvs (k2 i j) = some (.int (lc p (t.drop i) (x.drop j)))
theorem putK_le {kvs : List (List Key × V)} {k : List Key} {v : V} : (putK kvs k v).length ≤ kvs.length + 1 := by
  unfold putK
  split
  · rw [List.length_map]
    omega
  · rw [List.length_append]
    exact Nat.le_refl _
theorem LP.get {H H' : Hp} {tb so p : Addr} {kvs : List (List Key × V)} {acc : List Int} {i j : Nat} {v : V} (x : LP H tb kvs so acc H') (hp : H' p = some (.tup ((k2 i j).map kV))) (hv : valV kvs (k2 i j) = some v) : DGet H' tb (.ref p) (some v) := by
  have := DGet.t (k := k2 i j) x.ht hp
  rw [hv] at this
  exact this
theorem LP.small {H H' : Hp} {tb so : Addr} {kvs : List (List Key × V)} {acc : List Int} (_ : LP H tb kvs so acc H') (h : acc.length ≤ 100) : (acc.map V.int).length < sizeLine := szlt (by rw [List.length_map]; omega)
theorem f0_len (t x : List Nat) : (f0 t x).length ≤ 1 := by
  unfold f0
  split
  · exact Nat.le_refl _
  · exact Nat.zero_le _
theorem f1_len (p : Pz) (t x : List Nat) : (f1 p t x).length ≤ 1 := by
  unfold f1
  split
  · exact Nat.le_refl _
  · exact Nat.zero_le _
theorem f2_len (p : Pz) (t x : List Nat) : (f2 p t x).length ≤ 1 := by
  unfold f2
  split
  · exact Nat.le_refl _
  · exact Nat.zero_le _
theorem f3_len (p : Pz) (t x : List Nat) : (f3 p t x).length ≤ 1 := by
  unfold f3
  split
  · exact Nat.le_refl _
  · exact Nat.zero_le _
/-- the slots within a turn of the own account -/
def lpS (a : Addr) (t z : Str) (e m w : Int) (s : Option Int) (tb : Addr) (i j : Nat) (so : Addr) (y11 y12 : Option V) : L2.St :=
  [some (.ref a), some (.str t), some (.str z), some (.int e), some (.int m), some (.int w), some (swV s), some (.ref tb), some (.int (i : Int)), some (.int (j : Int)), some (.ref so), y11, y12]
section
variable {P : Program} {w : World} {K : PySem.W.Frag} {mg : Str → Option Value} {base : Heap}
/-! ### _law_price -/
abbrev sLPrice : Stmt := topS 50
abbrev nLPrice : List Str := ["_law_prices_here", "_law_target", "_law_text", "_law_further", "_law_lack", "_law_fault", "_law_turned", "_law_table", "_law_i", "_law_j", "_law_some", "_law_pair", "_law_other"]
abbrev pLPrice : List Str := nLPrice.take 3
theorem scLPrice : FnScope nLPrice pLPrice (defScope sLPrice) := ⟨rfl, rfl, rfl, by decide +kernel, rfl, by decide +kernel, by decide +kernel⟩
def spLPrice (K : PySem.W.Frag) : Sp := fun vs H Q _ => ∃ (a : Addr) (e m w : Int) (s : Option Int) (t z : Str), vs = [.ref a, .str t, .str z] ∧ SqT K H a [.int e, .int m, .int w, swV s] ∧ PrOk e m w s ∧ t.length ≤ 1000 ∧ z.length ≤ 1000 ∧
  ∀ (H' : Hp), Kp [] H H' → Q (.int (lc ⟨e, m, w, s⟩ (cd t) (cd z))) H'
set_option maxHeartbeats 0 in
theorem ok_lprice {f : Addr} {fd : FuncData} (F : Fun K "_law_price" "_law_price" sLPrice f fd) (B : Bt mg) : FnOk P w K mg base CX0 1 f fd pLPrice (spLPrice K) := by
  refine F.ok scLPrice (fun vs H Q E h => ?_) (fun cdv A outer sh H vs Q E hr h => ?_)
  · obtain ⟨a, e, m, w, s, t, z, rfl, _⟩ := h
    rfl
  · obtain ⟨a, e, m, w, s, t, z, rfl, hT, ok, ht, hz, q⟩ := h
    have hu := hu_of hr
    refine ⟨_, (pss_cons
 (ps_asg (pv 0) (pg_tup rfl (pgs_cons (pg_name (i := 3) scLPrice.nd rfl (.inl rfl)) (pgs_cons (pg_name (i := 4) scLPrice.nd rfl (.inl rfl)) (pgs_cons (pg_name (i := 5) scLPrice.nd rfl (.inl rfl)) (pgs_cons (pg_name (i := 6) scLPrice.nd rfl (.inl rfl)) pgs_nil))))))
 (pss_cons
 (ps_set (i := 7) scLPrice.nd rfl (.inl rfl) pe_dnewT)
 (pss_cons
 (ps_for PassesOwn.never rfl (pi_range3 (by rfl) B.range (pa_cons (pe_callB call_len_str (by rfl) B.len PySem.boot_len (pa_cons (pv 1) pa_nil)) (pa_cons (pe_un un_neg pe_int) (pa_cons (pe_un un_neg pe_int) pa_nil)))) (pg_name (i := 8) scLPrice.nd rfl (.inl rfl)) (pss_one
 (ps_for PassesOwn.never rfl (pi_range3 (by rfl) B.range (pa_cons (pe_callB call_len_str (by rfl) B.len PySem.boot_len (pa_cons (pv 2) pa_nil)) (pa_cons (pe_un un_neg pe_int) (pa_cons (pe_un un_neg pe_int) pa_nil)))) (pg_name (i := 9) scLPrice.nd rfl (.inl rfl)) (C8.pss_cut
 (ps_set (i := 10) scLPrice.nd rfl (.inl rfl) (pe_ifExp (PW.pt (pw_and (pt_cmpR op_eq (pv 8) (pe_callB call_len_str (by rfl) B.len PySem.boot_len (pa_cons (pv 1) pa_nil)) (nomark _)) (pw_and1 (pt_cmpR op_eq (pv 9) (pe_callB call_len_str (by rfl) B.len PySem.boot_len (pa_cons (pv 2) pa_nil)) (nomark _))))) (pe_lst (pa_cons pe_int pa_nil)) (pe_lst pa_nil)))
 (C8.pss_cut
 (ps_if (pt_cmpR op_lt (pv 9) (pe_callB call_len_str (by rfl) B.len PySem.boot_len (pa_cons (pv 2) pa_nil)) (nomark _)) (pss_one
 (ps_expr (pe_bm PySem.F.plainAttrs_list PySem.F.slot_list_append PySem.F.type_list_append mt_append (pv 10) (pa_cons (pe_op op_add (pv 3) (pe_dget hu (pv 7) (pe_tup (pa_cons (pv 8) (pa_cons (pe_op op_add (pv 9) pe_int) pa_nil))) (fun _ _ => rfl))) pa_nil)))) pss_nil)
 (C8.pss_cut
 (ps_if (pt_cmpR op_lt (pv 8) (pe_callB call_len_str (by rfl) B.len PySem.boot_len (pa_cons (pv 1) pa_nil)) (nomark _)) (pss_one
 (ps_expr (pe_bm PySem.F.plainAttrs_list PySem.F.slot_list_append PySem.F.type_list_append mt_append (pv 10) (pa_cons (pe_op op_add (pv 4) (pe_dget hu (pv 7) (pe_tup (pa_cons (pe_op op_add (pv 8) pe_int) (pa_cons (pv 9) pa_nil))) (fun _ _ => rfl))) pa_nil)))) pss_nil)
 (C8.pss_cut
 (ps_if (PW.pt (pw_and (pt_cmpR op_lt (pv 8) (pe_callB call_len_str (by rfl) B.len PySem.boot_len (pa_cons (pv 1) pa_nil)) (nomark _)) (pw_and1 (pt_cmpR op_lt (pv 9) (pe_callB call_len_str (by rfl) B.len PySem.boot_len (pa_cons (pv 2) pa_nil)) (nomark _))))) (pss_one
 (ps_expr (pe_bm PySem.F.plainAttrs_list PySem.F.slot_list_append PySem.F.type_list_append mt_append (pv 10) (pa_cons (pe_op op_add (pe_ifExp (pt_cmpR op_eq (pe_ix ix_str (pv 1) (pv 8) (fun _ _ => rfl)) (pe_ix ix_str (pv 2) (pv 9) (fun _ _ => rfl)) (nomark _)) pe_int (pv 5)) (pe_dget hu (pv 7) (pe_tup (pa_cons (pe_op op_add (pv 8) pe_int) (pa_cons (pe_op op_add (pv 9) pe_int) pa_nil))) (fun _ _ => rfl))) pa_nil)))) pss_nil)
 (C8.pss_cut
 (ps_par (i := 11) (j := 12) (by rfl) scLPrice.nd rfl rfl (by decide) rfl rfl (pa_cons (pe_slice sl_str (pv 1) (po_some (pv 8)) (po_some (pe_op op_add (pv 8) pe_int))) (pa_cons (pe_slice sl_str (pv 2) (po_some (pv 9)) (po_some (pe_op op_add (pv 9) pe_int))) pa_nil)) (by rfl))
 (C8.pss_cut
 (ps_if (PW.pt (pw_and (pt_cmpR op_notN (pv 6) pe_non (nomark _)) (pw_and (pt_cmpR op_eq (pe_callB call_len_str (by rfl) B.len PySem.boot_len (pa_cons (pv 11) pa_nil)) pe_int (nomark _)) (pw_and (pt_cmpR op_eq (pv 12) (pe_revS (pv 11)) (nomark _)) (pw_and1 (pt_cmpR op_ne (pv 12) (pv 11) (nomark _))))))) (pss_one
 (ps_expr (pe_bm PySem.F.plainAttrs_list PySem.F.slot_list_append PySem.F.type_list_append mt_append (pv 10) (pa_cons (pe_op op_add (pv 6) (pe_dget hu (pv 7) (pe_tup (pa_cons (pe_op op_add (pv 8) pe_int) (pa_cons (pe_op op_add (pv 9) pe_int) pa_nil))) (fun _ _ => rfl))) pa_nil)))) pss_nil)
 (pss_one
 (ps_dput hu (pv 7) (pe_tup (pa_cons (pv 8) (pa_cons (pv 9) pa_nil))) (pe_callB (cr_min rfl) (by rfl) B.min (by decide +kernel) (pa_cons (pv 10) pa_nil)) rfl)))))))))))
 (pss_one
 (ps_ret (pe_dget hu (pv 7) (pe_tup (pa_cons pe_int (pa_cons pe_int pa_nil))) (fun _ _ => rfl))))))), ?_⟩
    have tl : t.length ≤ sizeLine := szle (by omega)
    have zl : z.length ≤ sizeLine := szle (by omega)
    have lt : (cd t).length = t.length := cd_len t
    have lz : (cd z).length = z.length := cd_len z
    have pos : Pz.Pos ⟨e, m, w, s⟩ := ok.pos
    refine ⟨_, rfl, a, _, rfl, hT, rfl, _, _, rfl, _, _, rfl, _, _, rfl, _, _, rfl, rfl, ?_⟩
    intro tb htb
    refine ⟨_, rfl, t, rfl, tl, 1, rfl, 1, rfl, (t.length : Int), -1, -1, t.length + 1, rfl, ?_, for_rangeC (lo := (t.length : Int)) (c := -1) (n := t.length + 1)
      (fun k σ H2 => ∃ (y8 y9 y10 y11 y12 : Option V) (kvs : List (List Key × V)), σ = [some (.ref a), some (.str t), some (.str z), some (.int e), some (.int m), some (.int w), some (swV s), some (.ref tb), y8, y9, y10, y11, y12] ∧
        H2 tb = some (.dT kvs) ∧ kvs.length ≤ k * (z.length + 1) ∧ Tk ⟨e, m, w, s⟩ (cd t) (cd z) kvs (fun i' j' => t.length < i' + k ∧ i' ≤ t.length ∧ j' ≤ z.length) ∧ Kp [] H H2)
      ⟨none, none, none, none, none, [], rfl, upd_same, Nat.zero_le _, fun i' j' h => by omega, Kp.new htb⟩ ?_ ?_⟩
    · have := RgC.neg (i := (t.length : Int)) (j := -1) (by omega) (by omega) (by decide) (by decide)
      rw [show ((t.length : Int) - (-1)).toNat = t.length + 1 by omega] at this
      exact this
    · rintro k σ H2 hk ⟨y8, y9, y10, y11, y12, kvs, rfl, htb2, hkl, htk, kk⟩
      have ei : (t.length : Int) + ((k : Nat) : Int) * (-1) = ((t.length - k : Nat) : Int) := by omega
      rw [ei]
      generalize hgi : t.length - k = i at *
      refine ⟨_, rfl, z, rfl, zl, 1, rfl, 1, rfl, (z.length : Int), -1, -1, z.length + 1, rfl, ?_, for_rangeC (lo := (z.length : Int)) (c := -1) (n := z.length + 1)
        (fun k' σ H2 => ∃ (y9 y10 y11 y12 : Option V) (kvs : List (List Key × V)), σ = [some (.ref a), some (.str t), some (.str z), some (.int e), some (.int m), some (.int w), some (swV s), some (.ref tb), some (.int (i : Int)), y9, y10, y11, y12] ∧
          H2 tb = some (.dT kvs) ∧ kvs.length ≤ k * (z.length + 1) + k' ∧ Tk ⟨e, m, w, s⟩ (cd t) (cd z) kvs (fun i' j' => i' ≤ t.length ∧ j' ≤ z.length ∧ (i < i' ∨ (i = i' ∧ z.length < j' + k'))) ∧ Kp [] H H2)
        ⟨y9, y10, y11, y12, kvs, rfl, htb2, hkl, fun i' j' h => htk i' j' (by omega), kk⟩ ?_ ?_⟩
      · have := RgC.neg (i := (z.length : Int)) (j := -1) (by omega) (by omega) (by decide) (by decide)
        rw [show ((z.length : Int) - (-1)).toNat = z.length + 1 by omega] at this
        exact this
      · rintro k' σ H3 hk' ⟨y9, y10, y11, y12, kvs, rfl, htb3, hkl, htk, kk3⟩
        have ej : (z.length : Int) + ((k' : Nat) : Int) * (-1) = ((z.length - k' : Nat) : Int) := by omega
        rw [ej]
        generalize hgj : z.length - k' = j at *
        have hil : i ≤ t.length := by omega
        have hjl : j ≤ z.length := by omega
        -- what stands behind the places
        have hTi : i < t.length → ∃ a0, (cd t)[i]? = some a0 ∧ (cd t).drop i = a0 :: (cd t).drop (i + 1) := fun h => ⟨(cd t)[i]'(by omega), List.getElem?_eq_getElem (by omega), List.drop_eq_getElem_cons (by omega)⟩
        have hXj : j < z.length → ∃ b0, (cd z)[j]? = some b0 ∧ (cd z).drop j = b0 :: (cd z).drop (j + 1) := fun h => ⟨(cd z)[j]'(by omega), List.getElem?_eq_getElem (by omega), List.drop_eq_getElem_cons (by omega)⟩
        have hTn : ¬ i < t.length → (cd t).drop i = [] := fun h => List.drop_of_length_le (by omega)
        have hXn : ¬ j < z.length → (cd z).drop j = [] := fun h => List.drop_of_length_le (by omega)
        -- some
        refine ⟨fun σ H' => ∃ so, lpS a t z e m w s tb i j so y11 y12 = σ ∧ LP H tb kvs so (f0 ((cd t).drop i) ((cd z).drop j)) H', ?_, ?_⟩
        · refine ⟨_, rfl, _, rfl, t, rfl, tl, rfl, _, rfl, ?_⟩
          by_cases hi : i = t.length
          · rw [decide_eq_true (show V.int (i : Int) = V.int (t.length : Int) by rw [hi])]
            refine iteT ⟨_, rfl, _, rfl, z, rfl, zl, rfl, _, rfl, ?_⟩
            rw [hTn (by omega)]
            by_cases hj : j = z.length
            · rw [decide_eq_true (show V.int (j : Int) = V.int (z.length : Int) by rw [hj]), hXn (by omega)]
              refine iteT ⟨szle (by show 1 ≤ 1000000; decide), fun so hso => ⟨so, rfl, ?_⟩⟩
              exact ⟨upd_same, by rw [upd_ne (ne_of_none htb3 hso)]; exact htb3, kk3.trans (Kp.new hso), kk3.free hso, htb⟩
            · rw [decide_eq_false (show ¬ V.int (j : Int) = V.int (z.length : Int) from fun h => hj (by have := V.int.inj h; omega))]
              obtain ⟨b0, _, hb⟩ := hXj (by omega)
              rw [hb]
              refine iteF ⟨szle (by show 0 ≤ 1000000; decide), fun so hso => ⟨so, rfl, ?_⟩⟩
              exact ⟨upd_same, by rw [upd_ne (ne_of_none htb3 hso)]; exact htb3, kk3.trans (Kp.new hso), kk3.free hso, htb⟩
          · rw [decide_eq_false (show ¬ V.int (i : Int) = V.int (t.length : Int) from fun h => hi (by have := V.int.inj h; omega))]
            obtain ⟨a0, _, ha⟩ := hTi (by omega)
            rw [ha]
            refine iteF (iteF ⟨szle (by show 0 ≤ 1000000; decide), fun so hso => ⟨so, rfl, ?_⟩⟩)
            exact ⟨upd_same, by rw [upd_ne (ne_of_none htb3 hso)]; exact htb3, kk3.trans (Kp.new hso), kk3.free hso, htb⟩
        rintro σ H4 ⟨so, rfl, L0⟩
        -- an extra letter
        refine ⟨fun σ H' => lpS a t z e m w s tb i j so y11 y12 = σ ∧ LP H tb kvs so (f0 ((cd t).drop i) ((cd z).drop j) ++ f1 ⟨e, m, w, s⟩ ((cd t).drop i) ((cd z).drop j)) H', ?_, ?_⟩
        · refine ⟨_, rfl, _, rfl, z, rfl, zl, _, _, rfl, rfl, _, rfl, ?_⟩
          by_cases hj : j < z.length
          · obtain ⟨b0, _, hb⟩ := hXj hj
            have e1 : f1 ⟨e, m, w, s⟩ ((cd t).drop i) ((cd z).drop j) = [e + lc ⟨e, m, w, s⟩ ((cd t).drop i) ((cd z).drop (j + 1))] := by rw [hb]; rfl
            rw [decide_eq_true (show (j : Int) < (z.length : Int) by omega), e1]
            refine iteT ⟨_, rfl, .inl ⟨rfl, _, .inl (.inl L0.hs)⟩, _, rfl, _, rfl, _, rfl, _, rfl, _, _, rfl, rfl, szle (by show 2 ≤ 1000000; decide), fun p1 hp1 => ?_⟩
            have L1 := L0.new (o := .tup [.int (i : Int), .int ((j : Int) + 1)]) hp1
            exact ⟨tb, _, rfl, L1.get (i := i) (j := j + 1) upd_same (htk i (j + 1) (by omega)), _, _, rfl, rfl, so, _, _, rfl, rfl, L1.hs, L1.small (by have := f0_len ((cd t).drop i) ((cd z).drop j); omega), rfl, L1.push⟩
          · rw [decide_eq_false (show ¬ (j : Int) < (z.length : Int) by omega), hXn hj]
            refine iteF ⟨rfl, ?_⟩
            rw [hXn hj] at L0
            rw [show f1 ⟨e, m, w, s⟩ ((cd t).drop i) [] = [] from rfl, List.append_nil]
            exact L0
        rintro σ H5 ⟨rfl, L1⟩
        -- a missing letter
        refine ⟨fun σ H' => lpS a t z e m w s tb i j so y11 y12 = σ ∧ LP H tb kvs so ((f0 ((cd t).drop i) ((cd z).drop j) ++ f1 ⟨e, m, w, s⟩ ((cd t).drop i) ((cd z).drop j)) ++ f2 ⟨e, m, w, s⟩ ((cd t).drop i) ((cd z).drop j)) H', ?_, ?_⟩
        · refine ⟨_, rfl, _, rfl, t, rfl, tl, _, _, rfl, rfl, _, rfl, ?_⟩
          by_cases hi : i < t.length
          · obtain ⟨a0, _, ha⟩ := hTi hi
            have e1 : f2 ⟨e, m, w, s⟩ ((cd t).drop i) ((cd z).drop j) = [m + lc ⟨e, m, w, s⟩ ((cd t).drop (i + 1)) ((cd z).drop j)] := by rw [ha]; rfl
            rw [decide_eq_true (show (i : Int) < (t.length : Int) by omega), e1]
            refine iteT ⟨_, rfl, .inl ⟨rfl, _, .inl (.inl L1.hs)⟩, _, rfl, _, rfl, _, rfl, _, _, rfl, rfl, _, rfl, szle (by show 2 ≤ 1000000; decide), fun p1 hp1 => ?_⟩
            have L2 := L1.new (o := .tup [.int ((i : Int) + 1), .int (j : Int)]) hp1
            exact ⟨tb, _, rfl, L2.get (i := i + 1) (j := j) upd_same (htk (i + 1) j (by omega)), _, _, rfl, rfl, so, _, _, rfl, rfl, L2.hs, L2.small (by rw [List.length_append]; have := f0_len ((cd t).drop i) ((cd z).drop j); have := f1_len ⟨e, m, w, s⟩ ((cd t).drop i) ((cd z).drop j); omega), rfl, L2.push⟩
          · rw [decide_eq_false (show ¬ (i : Int) < (t.length : Int) by omega), hTn hi]
            refine iteF ⟨rfl, ?_⟩
            rw [hTn hi] at L1
            rw [show f2 ⟨e, m, w, s⟩ [] ((cd z).drop j) = [] from rfl, List.append_nil]
            exact L1
        rintro σ H6 ⟨rfl, L2⟩
        -- the same or a wrong letter
        refine ⟨fun σ H' => lpS a t z e m w s tb i j so y11 y12 = σ ∧ LP H tb kvs so (((f0 ((cd t).drop i) ((cd z).drop j) ++ f1 ⟨e, m, w, s⟩ ((cd t).drop i) ((cd z).drop j)) ++ f2 ⟨e, m, w, s⟩ ((cd t).drop i) ((cd z).drop j)) ++ f3 ⟨e, m, w, s⟩ ((cd t).drop i) ((cd z).drop j)) H', ?_, ?_⟩
        · refine ⟨_, rfl, _, rfl, t, rfl, tl, _, _, rfl, rfl, _, rfl, ?_⟩
          by_cases hi : i < t.length
          · obtain ⟨a0, ha0, ha⟩ := hTi hi
            rw [decide_eq_true (show (i : Int) < (t.length : Int) by omega)]
            refine iteT ⟨_, rfl, _, rfl, z, rfl, zl, _, _, rfl, rfl, _, rfl, ?_⟩
            by_cases hj : j < z.length
            · obtain ⟨b0, hb0, hb⟩ := hXj hj
              have e1 : f3 ⟨e, m, w, s⟩ ((cd t).drop i) ((cd z).drop j) = [(if a0 = b0 then 0 else w) + lc ⟨e, m, w, s⟩ ((cd t).drop (i + 1)) ((cd z).drop (j + 1))] := by rw [ha, hb]; rfl
              rw [decide_eq_true (show (j : Int) < (z.length : Int) by omega), e1]
              have sm : ((f0 ((cd t).drop i) ((cd z).drop j) ++ f1 ⟨e, m, w, s⟩ ((cd t).drop i) ((cd z).drop j)) ++ f2 ⟨e, m, w, s⟩ ((cd t).drop i) ((cd z).drop j)).length ≤ 100 := by
                rw [List.length_append, List.length_append]
                have := f0_len ((cd t).drop i) ((cd z).drop j)
                have := f1_len ⟨e, m, w, s⟩ ((cd t).drop i) ((cd z).drop j)
                have := f2_len ⟨e, m, w, s⟩ ((cd t).drop i) ((cd z).drop j)
                omega
              refine iteT ⟨_, rfl, .inl ⟨rfl, _, .inl (.inl L2.hs)⟩, _, rfl, _, rfl, t, (i : Int), a0, rfl, rfl, tl, atI_nat ha0, _, rfl, _, rfl, z, (j : Int), b0, rfl, rfl, zl, atI_nat hb0, rfl, _, rfl, ?_⟩
              rw [sg_inj]
              by_cases hab : a0 = b0
              · rw [decide_eq_true hab, if_pos hab]
                refine iteT ⟨_, rfl, _, rfl, _, _, rfl, rfl, _, rfl, _, _, rfl, rfl, szle (by show 2 ≤ 1000000; decide), fun p1 hp1 => ?_⟩
                have L3 := L2.new (o := .tup [.int ((i : Int) + 1), .int ((j : Int) + 1)]) hp1
                exact ⟨tb, _, rfl, L3.get (i := i + 1) (j := j + 1) upd_same (htk (i + 1) (j + 1) (by omega)), _, _, rfl, rfl, so, _, _, rfl, rfl, L3.hs, L3.small sm, rfl, L3.push⟩
              · rw [decide_eq_false hab, if_neg hab]
                refine iteF ⟨_, rfl, _, rfl, _, rfl, _, _, rfl, rfl, _, rfl, _, _, rfl, rfl, szle (by show 2 ≤ 1000000; decide), fun p1 hp1 => ?_⟩
                have L3 := L2.new (o := .tup [.int ((i : Int) + 1), .int ((j : Int) + 1)]) hp1
                exact ⟨tb, _, rfl, L3.get (i := i + 1) (j := j + 1) upd_same (htk (i + 1) (j + 1) (by omega)), _, _, rfl, rfl, so, _, _, rfl, rfl, L3.hs, L3.small sm, rfl, L3.push⟩
            · rw [decide_eq_false (show ¬ (j : Int) < (z.length : Int) by omega)]
              refine iteF ⟨rfl, ?_⟩
              have e1 : f3 ⟨e, m, w, s⟩ ((cd t).drop i) ((cd z).drop j) = [] := by rw [ha, hXn hj]; rfl
              rw [e1, List.append_nil]
              exact L2
          · rw [decide_eq_false (show ¬ (i : Int) < (t.length : Int) by omega)]
            refine iteF (iteF ⟨rfl, ?_⟩)
            have e1 : f3 ⟨e, m, w, s⟩ ((cd t).drop i) ((cd z).drop j) = [] := by rw [hTn hi]; rfl
            rw [e1, List.append_nil]
            exact L2
        rintro σ H7 ⟨rfl, L3⟩
        -- two letters of each
        have i2 : (i : Int) + 2 = ((i + 2 : Nat) : Int) := rfl
        have j2 : (j : Int) + 2 = ((j + 2 : Nat) : Int) := rfl
        refine ⟨fun σ H' => ∃ u v : Str, cd u = ((cd t).drop i).take 2 ∧ cd v = ((cd z).drop j).take 2 ∧ lpS a t z e m w s tb i j so (some (.str u)) (some (.str v)) = σ ∧ H' = H7, ?_, ?_⟩
        · refine ⟨_, rfl, _, rfl, (i : Int), rfl, _, rfl, _, _, rfl, rfl, (i : Int) + 2, rfl, t, rfl, tl, _, rfl, _, rfl, (j : Int), rfl, _, rfl, _, _, rfl, rfl, (j : Int) + 2, rfl, z, rfl, zl, _, _, rfl, ?_⟩
          refine ⟨_, _, ?_, ?_, rfl, rfl⟩
          · rw [i2, cd_mid t i (i + 2) (by omega), show i + 2 - i = 2 by omega]
          · rw [j2, cd_mid z j (j + 2) (by omega), show j + 2 - j = 2 by omega]
        rintro σ H8 ⟨u, v, hu2, hv2, rfl, rfl⟩
        have ul : u.length ≤ 2 := by rw [← cd_len, hu2, List.length_take]; omega
        have vl : v.length ≤ 2 := by rw [← cd_len, hv2, List.length_take]; omega
        have ull : u.length = min 2 (t.length - i) := by rw [← cd_len, hu2, List.length_take, List.length_drop, lt]
        refine ⟨fun σ H' => lpS a t z e m w s tb i j so (some (.str u)) (some (.str v)) = σ ∧ LP H tb kvs so ((((f0 ((cd t).drop i) ((cd z).drop j) ++ f1 ⟨e, m, w, s⟩ ((cd t).drop i) ((cd z).drop j)) ++ f2 ⟨e, m, w, s⟩ ((cd t).drop i) ((cd z).drop j)) ++ f3 ⟨e, m, w, s⟩ ((cd t).drop i) ((cd z).drop j)) ++ f4 ⟨e, m, w, s⟩ ((cd t).drop i) ((cd z).drop j)) H', ?_, ?_⟩
        · refine ⟨_, rfl, rfl, _, rfl, ?_⟩
          cases s with
          | none =>
            refine iteF (iteF ⟨rfl, ?_⟩)
            have e1 : f4 ⟨e, m, w, none⟩ ((cd t).drop i) ((cd z).drop j) = [] := rfl
            rw [e1, List.append_nil]
            exact L3
          | some k0 =>
            refine iteT ⟨_, rfl, u, rfl, szle (by omega), rfl, _, rfl, ?_⟩
            by_cases h2 : u.length = 2
            · rw [decide_eq_true (show V.int (u.length : Int) = V.int 2 by rw [h2]; rfl)]
              -- the two letters of the target
              have hi2 : i + 2 ≤ t.length := by omega
              obtain ⟨a0, _, ha⟩ := hTi (by omega)
              obtain ⟨a1, ha1⟩ : ∃ a1, (cd t).drop (i + 1) = a1 :: (cd t).drop (i + 2) := ⟨(cd t)[i + 1]'(by omega), List.drop_eq_getElem_cons (by omega)⟩
              have hu : cd u = [a0, a1] := by rw [hu2, ha, ha1]; rfl
              have hru : cd (revS u) = [a1, a0] := by rw [show cd (revS u) = (cd u).reverse from revS_list u, hu]; rfl
              refine iteT ⟨_, rfl, _, rfl, u, rfl, szle (by omega), rfl, _, rfl, ?_⟩
              by_cases hc : v = revS u
              · rw [decide_eq_true (show V.str v = V.str (revS u) by rw [hc])]
                have hv : cd v = [a1, a0] := by rw [hc, hru]
                have hj2 : j + 2 ≤ z.length := by
                  have := congrArg List.length hv
                  rw [hv2, List.length_take, List.length_drop, lz] at this
                  have e9 : [a1, a0].length = 2 := rfl
                  omega
                obtain ⟨b0, _, hb⟩ := hXj (by omega)
                obtain ⟨b1, hb1⟩ : ∃ b1, (cd z).drop (j + 1) = b1 :: (cd z).drop (j + 2) := ⟨(cd z)[j + 1]'(by omega), List.drop_eq_getElem_cons (by omega)⟩
                have hbb : [b0, b1] = [a1, a0] := by rw [← hv, hv2, hb, hb1]; rfl
                have hb0 : b0 = a1 := (List.cons.inj hbb).1
                have hb1' : b1 = a0 := (List.cons.inj (List.cons.inj hbb).2).1
                refine iteT ⟨_, rfl, _, rfl, rfl, _, rfl, ?_⟩
                by_cases hd : v = u
                · rw [decide_eq_true (show V.str v = V.str u by rw [hd])]
                  have haa : a0 = a1 := by
                    rw [hd, hu] at hv
                    exact (List.cons.inj hv).1
                  have e1 : f4 ⟨e, m, w, some k0⟩ ((cd t).drop i) ((cd z).drop j) = [] := by
                    rw [ha, ha1, hb, hb1]
                    show (if b0 = a1 ∧ b1 = a0 ∧ a0 ≠ a1 then _ else _) = _
                    rw [if_neg (fun h => h.2.2 haa)]
                  rw [e1, List.append_nil]
                  exact iteF ⟨rfl, L3⟩
                · rw [decide_eq_false (show ¬ V.str v = V.str u from fun h => hd (V.str.inj h))]
                  have haa : a0 ≠ a1 := by
                    intro h
                    apply hd
                    apply cd_inj
                    rw [hv, hu, h]
                  have e1 : f4 ⟨e, m, w, some k0⟩ ((cd t).drop i) ((cd z).drop j) = [k0 + lc ⟨e, m, w, some k0⟩ ((cd t).drop (i + 2)) ((cd z).drop (j + 2))] := by
                    rw [ha, ha1, hb, hb1]
                    show (if b0 = a1 ∧ b1 = a0 ∧ a0 ≠ a1 then _ else _) = _
                    rw [if_pos ⟨hb0, hb1', haa⟩]
                  rw [e1]
                  have sm : (((f0 ((cd t).drop i) ((cd z).drop j) ++ f1 ⟨e, m, w, some k0⟩ ((cd t).drop i) ((cd z).drop j)) ++ f2 ⟨e, m, w, some k0⟩ ((cd t).drop i) ((cd z).drop j)) ++ f3 ⟨e, m, w, some k0⟩ ((cd t).drop i) ((cd z).drop j)).length ≤ 100 := by
                    rw [List.length_append, List.length_append, List.length_append]
                    have := f0_len ((cd t).drop i) ((cd z).drop j)
                    have := f1_len ⟨e, m, w, some k0⟩ ((cd t).drop i) ((cd z).drop j)
                    have := f2_len ⟨e, m, w, some k0⟩ ((cd t).drop i) ((cd z).drop j)
                    have := f3_len ⟨e, m, w, some k0⟩ ((cd t).drop i) ((cd z).drop j)
                    omega
                  refine iteT ⟨_, rfl, .inl ⟨rfl, _, .inl (.inl L3.hs)⟩, _, rfl, _, rfl, _, rfl, _, _, rfl, rfl, _, rfl, _, _, rfl, rfl, szle (by show 2 ≤ 1000000; decide), fun p1 hp1 => ?_⟩
                  have L4 := L3.new (o := .tup [.int ((i : Int) + 2), .int ((j : Int) + 2)]) hp1
                  exact ⟨tb, _, rfl, L4.get (i := i + 2) (j := j + 2) upd_same (htk (i + 2) (j + 2) (by omega)), _, _, rfl, rfl, so, _, _, rfl, rfl, L4.hs, L4.small sm, rfl, L4.push⟩
              · rw [decide_eq_false (show ¬ V.str v = V.str (revS u) from fun h => hc (V.str.inj h))]
                have e1 : f4 ⟨e, m, w, some k0⟩ ((cd t).drop i) ((cd z).drop j) = [] := by
                  rw [ha, ha1]
                  match hx : (cd z).drop j with
                  | [] => rfl
                  | [b0] => rfl
                  | b0 :: b1 :: x2 =>
                    show (if b0 = a1 ∧ b1 = a0 ∧ a0 ≠ a1 then _ else _) = _
                    rw [if_neg]
                    rintro ⟨h1, h3, _⟩
                    apply hc
                    apply cd_inj
                    rw [hv2, hx, hru, h1, h3]
                    rfl
                rw [e1, List.append_nil]
                exact iteF (iteF ⟨rfl, L3⟩)
            · rw [decide_eq_false (show ¬ V.int (u.length : Int) = V.int 2 from fun h => h2 (by have := V.int.inj h; omega))]
              have e1 : f4 ⟨e, m, w, some k0⟩ ((cd t).drop i) ((cd z).drop j) = [] := by
                match hx : (cd t).drop i with
                | [] => rfl
                | [b0] => rfl
                | b0 :: b1 :: x2 =>
                  exfalso
                  have := congrArg List.length hx
                  rw [List.length_drop, lt] at this
                  have e9 : (b0 :: b1 :: x2).length = x2.length + 2 := rfl
                  omega
              rw [e1, List.append_nil]
              exact iteF (iteF ⟨rfl, L3⟩)
        rintro σ H9 ⟨rfl, L4⟩
        rw [List.append_assoc, List.append_assoc, List.append_assoc] at L4
        have hfo : f0 ((cd t).drop i) ((cd z).drop j) ++ (f1 ⟨e, m, w, s⟩ ((cd t).drop i) ((cd z).drop j) ++ (f2 ⟨e, m, w, s⟩ ((cd t).drop i) ((cd z).drop j) ++ (f3 ⟨e, m, w, s⟩ ((cd t).drop i) ((cd z).drop j) ++ f4 ⟨e, m, w, s⟩ ((cd t).drop i) ((cd z).drop j)))) = fo ⟨e, m, w, s⟩ ((cd t).drop i) ((cd z).drop j) := rfl
        rw [hfo] at L4
        have hkb : kvs.length < sizeLine := by
          have h1 : k * (z.length + 1) ≤ 1000 * 1001 := Nat.mul_le_mul (by omega) (by omega)
          refine Nat.lt_of_le_of_lt (show kvs.length ≤ 1003000 by omega) (by decide)
        refine ⟨_, rfl, so, _, rfl, .inl (.inl L4.hs), List.length_pos_iff.mpr (fo_ne _ _ _), fun y hy1 hy2 => ⟨_, rfl, _, rfl, _, rfl, szle (by show 2 ≤ 1000000; decide), fun p1 hp1 => ?_⟩⟩
        have L5 := L4.new (o := .tup [.int (i : Int), .int (j : Int)]) hp1
        have hy : y = lc ⟨e, m, w, s⟩ ((cd t).drop i) ((cd z).drop j) := (lc_front pos hy1 hy2).symm
        refine ⟨tb, _, rfl, DPut.t (k := k2 i j) L5.ht upd_same hkb, ?_⟩
        refine ⟨_, _, _, _, putK kvs (k2 i j) (.int y), rfl, upd_same, ?_, fun i' j' h => ?_, L5.kp.mut htb⟩
        · have := putK_le (kvs := kvs) (k := k2 i j) (v := .int y)
          omega
        · rw [valV_put]
          by_cases he : k2 i' j' = k2 i j
          · rw [if_pos he]
            obtain ⟨h1, h2⟩ := k2_inj.mp he
            rw [h1, h2, hy]
          · rw [if_neg he]
            have hne : ¬ (i' = i ∧ j' = j) := fun h => he (k2_inj.mpr h)
            exact htk i' j' (by omega)
      · rintro σ H3 ⟨y9, y10, y11, y12, kvs, rfl, htb3, hkl, htk, kk3⟩
        refine ⟨_, _, _, _, _, kvs, rfl, htb3, ?_, fun i' j' h => htk i' j' (by omega), kk3⟩
        rw [Nat.add_mul, Nat.one_mul]
        exact hkl
    · rintro σ H2 ⟨y8, y9, y10, y11, y12, kvs, rfl, htb2, hkl, htk, kk⟩
      refine ⟨_, rfl, szle (by show 2 ≤ 1000000; decide), fun p1 hp1 => ?_⟩
      have hv := htk 0 0 (by omega)
      rw [List.drop_zero, List.drop_zero] at hv
      have hd : DGet (upd H2 p1 (.tup [.int 0, .int 0])) tb (.ref p1) (valV kvs (k2 0 0)) := DGet.t (by rw [upd_ne (ne_of_none htb2 hp1)]; exact htb2) upd_same
      rw [hv] at hd
      exact ⟨tb, _, rfl, hd, q _ (kk.trans (Kp.new hp1))⟩
end
end G69
namespace G69
open PySem PySem.Spec PyProof.Rows L2
section
variable {P : Program} {w : World} {K : PySem.W.Frag} {mg : Str → Option Value} {base : Heap}
/-! ### _law_totals -/
abbrev sTots : Stmt := topS 51
abbrev nTots : List Str := ["_law_case_here", "_law_text", "_law_word", "_law_own"]
abbrev pTots : List Str := nTots.take 2
theorem scTots : FnScope nTots pTots (defScope sTots) := ⟨rfl, rfl, rfl, by decide +kernel, rfl, by decide +kernel, by decide +kernel⟩
def spTots : Sp := fun vs H Q _ => ∃ (y lt pr en : Addr) (cs : List Nat) (xs : List V) (es : List En) (e m w : Int) (s : Option Int) (z : Str), vs = [.ref y, .str z] ∧ CaseI H y lt pr en cs xs es e m w s ∧ PrOk e m w s ∧ EnOk es ∧ z.length ≤ 1000 ∧
  ∀ L H', H L = none → H' L = some (.lst ((tot (fun t => lc ⟨e, m, w, s⟩ (cd t) (cd z)) es).map V.int)) → Kp [] H H' → Q (.ref L) H'
theorem ok_tots {f : Addr} {fd : FuncData} (F : Fun K "_law_totals" "_law_totals" sTots f fd) (CP : Cal P w K mg base "_law_price" pLPrice 1 (spLPrice K)) : FnOk P w K mg base CX0 2 f fd pTots spTots := by
  refine F.ok scTots (fun vs H Q E h => ?_) (fun cdv A outer sh H vs Q E hr h => ?_)
  · obtain ⟨y, lt, pr, en, cs, xs, es, e, m, w, s, z, rfl, _⟩ := h
    rfl
  · obtain ⟨y, lt, pr, en, cs, xs, es, e, m, w, s, z, rfl, I, pk, ok, hz, q⟩ := h
    have hu := hu_of hr
    refine ⟨_, (pss_one
 (ps_ret (pe_lc (own := [("_law_word", 2), ("_law_own", 3)]) (g := gTup K 2 (gCons (gName 2) (gCons (gName 3) gNil))) (tt := tYes) (by rfl) scTots.nd (pi_list (pe_dget hu (pv 0) pe_str (fun _ _ => rfl))) (blkOk_by (own := [("_law_word", 2), ("_law_own", 3)]) (N := nTots) (sc := defScope sTots) (by decide +kernel)) (fun _ _ _ _ _ => (pg_tupK rfl rfl (pgs_cons (pg_name (i := 2) scTots.nd rfl (.inl rfl)) (pgs_cons (pg_name (i := 3) scTots.nd rfl (.inl rfl)) pgs_nil)))) (fun _ _ _ _ _ => pts_nil) (fun _ _ _ _ _ => (pe_op op_add (pe_cal CP hr (by decide) (by rfl) (pa_cons (pe_dget hu (pv 0) pe_str (fun _ _ => rfl)) (pa_cons (pv 2) (pa_cons (pv 1) pa_nil)))) (pv 3)))))), ?_⟩
    let ts := tot (fun t => lc ⟨e, m, w, s⟩ (cd t) (cd z)) es
    have hfew := ok.few
    refine ⟨_, rfl, y, .ref en, rfl, DGet.k (k := kEnt) I.hy, en, rfl, ⟨_, .inl (.inl I.he)⟩, fun L hL => lc_it (walk_list (K := K) (a := en) (xs := xs))
      (fun i H2 => H2 L = some (.lst ((ts.take i).map V.int)) ∧ Kp [] H H2) ⟨upd_same, Kp.new hL⟩ (fun i H2 _ h2 => .inl (.inl (h2.2 _ _ I.he notnil))) ?_ ?_⟩
    · rintro i x H2 H3 hi ⟨e2, k2⟩ ⟨rfl, hx⟩
      obtain ⟨e1, he1, p, rfl, hp⟩ := Paired.get I.hs hx
      have I2 := I.kp k2
      have ok1 := ok.all e1 (List.mem_of_getElem? he1)
      have hi4 : i < es.length := (List.getElem?_eq_some_iff.mp he1).1
      refine ⟨p, _, rfl, .inl (.inl (k2 _ _ hp notnil)), rfl, _, _, rfl, _, _, rfl, rfl, rfl, yes1 ?_⟩
      refine ⟨_, rfl, y, .ref pr, rfl, DGet.k (k := kPri) I2.hy, _, rfl, _, rfl, pr, e, m, w, s, e1.1, z, rfl, .inl (.inl I2.hp), pk, by have := ok1.l5; omega, hz, fun H4 k4 => ?_⟩
      refine ⟨_, rfl, _, _, rfl, rfl, _, k4 _ _ e2 notnil, szlt (by rw [List.length_map, List.length_take]; omega), ?_, (k2.trans k4).mut hL⟩
      have hts : ts[i]? = some (lc ⟨e, m, w, s⟩ (cd e1.1) (cd z) + e1.2) := by
        show (tot _ es)[i]? = _
        rw [tot_at, he1]
        rfl
      rw [upd_same, take_snoc hts, List.map_append]
      rfl
    · rintro H2 ⟨e2, k2⟩
      have hts : ts.take xs.length = ts := by
        rw [Paired.lens I.hs]
        exact List.take_of_length_le (by show (List.map _ es).length ≤ _; rw [List.length_map]; exact Nat.le_refl _)
      rw [hts] at e2
      exact q L H2 hL e2 k2
/-! ### _law_meant -/
abbrev sLMe : Stmt := topS 52
abbrev nLMe : List Str := ["_law_case_here", "_law_text", "_law_totals_here"]
abbrev pLMe : List Str := nLMe.take 2
theorem scLMe : FnScope nLMe pLMe (defScope sLMe) := ⟨rfl, rfl, rfl, by decide +kernel, rfl, by decide +kernel, by decide +kernel⟩
def spLMe : Sp := fun vs H Q _ => ∃ (y lt pr en : Addr) (cs : List Nat) (xs : List V) (es : List En) (e m w : Int) (s : Option Int) (z : Str), vs = [.ref y, .str z] ∧ CaseI H y lt pr en cs xs es e m w s ∧ PrOk e m w s ∧ EnOk es ∧ z.length ≤ 1000 ∧
  ∀ H', Kp [] H H' → Q (optS (mw (fun t => lc ⟨e, m, w, s⟩ (cd t) (cd z)) es)) H'
theorem ok_lme {f : Addr} {fd : FuncData} (F : Fun K "_law_meant" "_law_meant" sLMe f fd) (CT : Cal P w K mg base "_law_totals" pTots 2 spTots) (B : Bt mg) : FnOk P w K mg base CX0 3 f fd pLMe spLMe := by
  refine F.ok scLMe (fun vs H Q E h => ?_) (fun cdv A outer sh H vs Q E hr h => ?_)
  · obtain ⟨y, lt, pr, en, cs, xs, es, e, m, w, s, z, rfl, _⟩ := h
    rfl
  · obtain ⟨y, lt, pr, en, cs, xs, es, e, m, w, s, z, rfl, I, pk, ok, hz, q⟩ := h
    have hu := hu_of hr
    refine ⟨_, (pss_cons
 (ps_set (i := 2) scLMe.nd rfl (.inl rfl) (pe_cal CT hr (by decide) (by rfl) (pa_cons (pv 0) (pa_cons (pv 1) pa_nil))))
 (pss_one
 (ps_ret (pe_ifExp (pt_cmpR (op_neD hr.units) (pv 2) (pe_lst pa_nil) (nomark _)) (pe_ix ix_seq (pe_ix ix_list (pe_dget hu (pv 0) pe_str (fun _ _ => rfl)) (pe_bm PySem.F.plainAttrs_list PySem.F.slot_list_index PySem.F.type_list_index mt_index (pv 2) (pa_cons (pe_callB (cr_min rfl) (by rfl) B.min (by decide +kernel) (pa_cons (pv 2) pa_nil)) pa_nil)) (fun _ _ => rfl)) pe_int (fun _ _ => rfl)) pe_non)))), ?_⟩
    refine ⟨_, rfl, _, rfl, y, lt, pr, en, cs, xs, es, e, m, w, s, z, rfl, I, pk, ok, hz, fun L H1 hL e1 k1 => ?_⟩
    refine ⟨_, rfl, by decide, fun p hp => ?_⟩
    have k2 : Kp [] H (upd H1 p (.lst [])) := k1.trans (Kp.new hp)
    have e2 : (upd H1 p (.lst [])) L = some (.lst ((tot (fun t => lc ⟨e, m, w, s⟩ (cd t) (cd z)) es).map V.int)) := by
      rw [upd_ne (ne_of_none e1 hp)]
      exact e1
    have q := q _ k2
    have I2 := I.kp k2
    refine ⟨_, _, .lst (.inl (.inl e2)) (dpInts _), .lst (.inl (.inl upd_same)) .nil, shapedInts _, by decide +kernel, _, rfl, ?_⟩
    rw [eqvNil]
    cases hes : es with
    | nil =>
      subst hes
      rw [mw_nil] at q
      exact iteF q
    | cons a r =>
      have hne : tot (fun t => lc ⟨e, m, w, s⟩ (cd t) (cd z)) es ≠ [] := by
        rw [hes]
        intro z
        cases z
      rw [← hes]
      have he : (tot (fun t => lc ⟨e, m, w, s⟩ (cd t) (cd z)) es).isEmpty = false := by
        rw [List.isEmpty_eq_false_iff]
        exact hne
      rw [he]
      refine iteT ⟨_, rfl, y, .ref en, rfl, DGet.k (k := kEnt) I2.hy, _, rfl, .inl ⟨rfl, _, .inl (.inl e2)⟩, _, rfl, L, _, rfl, .inl (.inl e2), List.length_pos_iff.mpr hne, fun v hv hv2 => ?_⟩
      obtain ⟨j, j1, j2⟩ := first_at hv
      obtain ⟨en1, g1, g2⟩ := mw_first hv2 j1 j2
      rw [g2] at q
      obtain ⟨u, hu2, pp, rfl, hpp⟩ := Paired.get2 I2.hs g1
      refine ⟨L, _, _, j, .int v, rfl, rfl, .inl (.inl e2), rfl, flat_ints _, by rw [List.getElem?_map, j1]; rfl, by show (v == v) = true; exact beq_self_eq_true _, fun i z' hi hz' => ?_, ?_⟩
      · obtain ⟨v', hv', rfl⟩ := intAt hz'
        show (v' == v) = false
        rw [beq_eq_false_iff_ne]
        rintro rfl
        exact j2 i hi hv'
      · exact ⟨en, xs, _, _, rfl, rfl, .inl (.inl I2.he), atI_nat hu2, .inr (.inl ⟨pp, _, 0, _, rfl, rfl, .inl (.inl hpp), atI_nat (j := 0) rfl, q⟩)⟩
end
end G69
namespace G69
open PySem PySem.Spec PyProof.Rows L2
/-! ### min of rows that begin with a number -/
def cD (b : Int × List PyData) : PyData := .tuple (.int b.1 :: b.2)
theorem cD_inj {a b : Int × List PyData} (h : cD a = cD b) : a = b := by
  obtain ⟨a1, a2⟩ := a
  obtain ⟨b1, b2⟩ := b
  unfold cD at h
  simp only [PyData.tuple.injEq, List.cons.injEq, PyData.int.injEq] at h
  rw [h.1, h.2]
theorem cD_lt {a b : Int × List PyData} (h : a.1 ≠ b.1) : PySem.W.dataLt (cD a) (cD b) = decide (a.1 < b.1) := by
  unfold cD
  rw [PySem.W.dataLt_tuple, PySem.W.dataLt_cons (by simp [PySem.W.alike])]
  rw [if_neg (by simp only [PyData.eqv, beq_iff_eq]; exact h), PySem.W.dataLt_int]
theorem minD_c : ∀ (xs : List (Int × List PyData)) (x : Int × List PyData), ∃ y ∈ x :: xs, PySem.W.minD (cD x) (xs.map cD) = cD y ∧ ∀ z ∈ x :: xs, y.1 ≤ z.1
  | [], x => ⟨x, List.mem_cons_self, rfl, fun z hz => by
    rw [List.mem_singleton.mp hz]
    exact Int.le_refl _⟩
  | a :: r, x => by
    have e : PySem.W.minD (cD x) ((a :: r).map cD) = PySem.W.minD (if PySem.W.dataLt (cD a) (cD x) then cD a else cD x) (r.map cD) := rfl
    have go : ∀ u : Int × List PyData, (u = a ∨ u = x) → u.1 ≤ a.1 → u.1 ≤ x.1 → (if PySem.W.dataLt (cD a) (cD x) then cD a else cD x) = cD u → ∃ y ∈ x :: a :: r, PySem.W.minD (cD x) ((a :: r).map cD) = cD y ∧ ∀ z ∈ x :: a :: r, y.1 ≤ z.1 := by
      intro u hu h1 h2 h3
      obtain ⟨y, y1, y2, y3⟩ := minD_c r u
      rw [e, h3]
      refine ⟨y, ?_, y2, fun z hz => ?_⟩
      · rcases List.mem_cons.mp y1 with rfl | h
        · rcases hu with rfl | rfl
          · exact List.mem_cons_of_mem _ List.mem_cons_self
          · exact List.mem_cons_self
        · exact List.mem_cons_of_mem _ (List.mem_cons_of_mem _ h)
      · have g := y3 u List.mem_cons_self
        rcases List.mem_cons.mp hz with rfl | h
        · omega
        · rcases List.mem_cons.mp h with rfl | h
          · omega
          · exact y3 z (List.mem_cons_of_mem _ h)
    by_cases hl : PySem.W.dataLt (cD a) (cD x) = true
    · refine go a (.inl rfl) (Int.le_refl _) ?_ (if_pos hl)
      by_cases hq : a.1 = x.1
      · omega
      · rw [cD_lt hq, decide_eq_true_eq] at hl
        omega
    · refine go x (.inr rfl) ?_ (Int.le_refl _) (if_neg hl)
      by_cases hq : a.1 = x.1
      · omega
      · rw [cD_lt hq, decide_eq_true_eq] at hl
        omega
section
variable {X : Cx}
def rMinC (K : PySem.W.Frag) : List V → Hp → VK → Prop := fun vs H Q => ∃ (a : Addr) (us : List V) (ds : List (Int × List PyData)), vs = [.ref a] ∧ SqL K H a us ∧ ds ≠ [] ∧ DpAll K H us (ds.map cD) ∧ (∀ x ∈ ds, ∀ y ∈ ds, PySem.W.alike (cD x) (cD y) = true) ∧ PyData.depthAll (ds.map cD) ≤ 60 ∧
  ∀ (i : Nat) (v : V) (d : Int × List PyData), us[i]? = some v → ds[i]? = some d → (∀ z ∈ ds, d.1 ≤ z.1) → Q v H
theorem call_minC (hc : X.calm = true) (hu : X.A.units + 64 < cLine) : CallR X (.builtin "min") (rMinC X.K) := by
  intro pins s σ H xs us0 Q I r h
  obtain ⟨a, us, ds, rfl, hS, hne, hD, hal, hdp, q⟩ := h
  obtain ⟨u, rfl, rx⟩ := vals1 r
  cases rx
  obtain ⟨its, rv, pl, hz⟩ := I.list hS
  obtain ⟨as, hR⟩ := Dp.readsAll I _ _ _ hD rv
  cases ds with
  | nil => exact absurd rfl hne
  | cons d0 dr =>
    obtain ⟨y, y1, y2, y3⟩ := minD_c dr d0
    refine PySem.W.min_list_data (x := cD d0) (xs := dr.map cD) (vs := its.toArray) (I.ok.hd hc) pl.isList (by simpa using hR) ⟨fun x hx y hy => ?_, fun x hx => ?_⟩ ?_ ?_
    · obtain ⟨x', hx', rfl⟩ := List.mem_map.mp (show x ∈ (d0 :: dr).map cD from hx)
      obtain ⟨y', hy', rfl⟩ := List.mem_map.mp (show y ∈ (d0 :: dr).map cD from hy)
      exact hal x' hx' y' hy'
    · obtain ⟨x', hx', rfl⟩ := List.mem_map.mp (show x ∈ (d0 :: dr).map cD from hx)
      intro z
      cases z
    · have : PyData.depthAll (cD d0 :: dr.map cD) ≤ 60 := hdp
      omega
    · intro i v h' tk bs hv hr hk
      have hv' : its[i]? = some v := by simpa using hv
      have hil : i < its.length := (List.getElem?_eq_some_iff.mp hv').1
      have hll := rv.length
      have hui : us[i]? = some us[i] := List.getElem?_eq_getElem (by omega)
      obtain ⟨u, hu1, hu2⟩ := rv.get hui
      have euv : u = v := Option.some.inj (hu1.symm.trans hv')
      subst euv
      obtain ⟨bs2, g1, g2, _, _⟩ := PySem.W.readsAll_at hR i u hv'
      rw [List.length_map] at g2
      have hdi : (d0 :: dr)[i]? = some (d0 :: dr)[i] := List.getElem?_eq_getElem g2
      have e1 : ((d0 :: dr).map cD).getD i .none = cD (d0 :: dr)[i] := by
        rw [List.getD_eq_getElem?_getD, List.getElem?_map, hdi]
        rfl
      rw [e1] at g1
      rw [y2] at hr
      have e2 : cD (d0 :: dr)[i] = cD y := PySem.W.alike_unique _ _ _ _ _ (hal _ (List.getElem_mem g2) y y1) (PySem.W.reads_keeps hk g1) hr
      have e3 := cD_inj e2
      exact ⟨us[i], H, I.kept hk, hu2, q i _ _ hui hdi (by rw [e3]; exact y3)⟩
end
end G69
namespace G69
open PySem PySem.Spec PyProof.Rows L2
/-! ### readings that are found from behind: the plain part -/
theorem step_some (st : Step) : 0 < st.meant.length + st.typed.length := by
  cases st with
  | extra b => exact Nat.succ_pos 0
  | missing b => exact Nat.succ_pos 0
  | _ => exact Nat.succ_pos _
theorem vSt_val (p : Pz) {t x : List Nat} {j i : Nat} (hj : j ≤ t.length) (hi : i ≤ x.length) (st : Step) (h1 : st.meant.length ≤ j) (h2 : st.typed.length ≤ i) :
    vSt p (t.take j) (x.take i) st = val p t x (i - st.typed.length) (j - st.meant.length) + st.pr p := by
  unfold vSt val
  rw [List.length_take, List.length_take, List.take_take, List.take_take]
  rw [show min (min j t.length - st.meant.length) j = j - st.meant.length by omega, show min (min i x.length - st.typed.length) i = i - st.typed.length by omega]
theorem read_step {p : Pz} (pos : p.Pos) {t x : List Nat} {j i : Nat} (hj : j ≤ t.length) (hi : i ≤ x.length) {st : Step} (hs : st ∈ lastSteps p (t.take j) (x.take i))
    (hm : ∀ st' ∈ lastSteps p (t.take j) (x.take i), vSt p (t.take j) (x.take i) st ≤ vSt p (t.take j) (x.take i) st') {fs : List Step} {c : Int} (hr : Rdg p (t.drop j) (x.drop i) fs.reverse) (hc : val p t x i j + cost p fs = c) :
    Rdg p (t.drop (j - st.meant.length)) (x.drop (i - st.typed.length)) (fs ++ [st]).reverse ∧ val p t x (i - st.typed.length) (j - st.meant.length) + cost p (fs ++ [st]) = c := by
  obtain ⟨o1, t', x', e1, e2⟩ := mem_lastSteps.mp hs
  have f1 := congrArg List.length e1
  have f2 := congrArg List.length e2
  rw [List.length_append, List.length_take] at f1 f2
  have l1 : st.meant.length ≤ j := by omega
  have l2 : st.typed.length ≤ i := by omega
  have hne : lastSteps p (t.take j) (x.take i) ≠ [] := List.ne_nil_of_mem hs
  have hv : val p t x i j = vSt p (t.take j) (x.take i) st := by
    refine lc_eq pos (least_step (fun st => lc p ((t.take j).take ((t.take j).length - st.meant.length)) ((x.take i).take ((x.take i).length - st.typed.length))) hne (fun st _ => lc_least pos _ _) ⟨st, hs, rfl⟩ hm)
  have d1 : t.drop (j - st.meant.length) = st.meant ++ t.drop j := by
    have : t = t' ++ (st.meant ++ t.drop j) := by
      rw [← List.append_assoc, ← e1, List.take_append_drop]
    have hl : j - st.meant.length = t'.length := by omega
    rw [hl]
    conv => lhs; rw [this]
    rw [List.drop_left]
  have d2 : x.drop (i - st.typed.length) = st.typed ++ x.drop i := by
    have : x = x' ++ (st.typed ++ x.drop i) := by
      rw [← List.append_assoc, ← e2, List.take_append_drop]
    have hl : i - st.typed.length = x'.length := by omega
    rw [hl]
    conv => lhs; rw [this]
    rw [List.drop_left]
  refine ⟨?_, ?_⟩
  · rw [List.reverse_append, d1, d2]
    exact cons_rdg o1 hr
  · rw [cost_append, cost_cons, cost_nil]
    rw [vSt_val p hj hi st l1 l2] at hv
    omega
/-! ### steps as data -/
def stepD : Step → List PyData
  | .same a => [.str "same", .str (sg a)]
  | .wrong a b => [.str "wrong", .str (sg a), .str (sg b)]
  | .extra b => [.str "extra", .str (sg b)]
  | .missing a => [.str "missing", .str (sg a)]
  | .swapped a b => [.str "swapped", .str (sg a), .str (sg b)]
theorem dpStep {K : PySem.W.Frag} {H : Hp} (st : Step) : DpAll K H (stepV st) (stepD st) := by
  cases st with
  | same a => exact .cons (.str _) (.cons (.str _) .nil)
  | wrong a b => exact .cons (.str _) (.cons (.str _) (.cons (.str _) .nil))
  | extra b => exact .cons (.str _) (.cons (.str _) .nil)
  | missing a => exact .cons (.str _) (.cons (.str _) .nil)
  | swapped a b => exact .cons (.str _) (.cons (.str _) (.cons (.str _) .nil))
noncomputable def rowD (f : Step → Int) (st : Step) : Int × List PyData := (f st, [.tuple (stepD st), .int (st.meant.length : Int), .int (st.typed.length : Int)])
theorem rowD_alike (f : Step → Int) (a b : Step) : PySem.W.alike (cD (rowD f a)) (cD (rowD f b)) = true := by
  cases a <;> cases b <;> simp [cD, rowD, stepD, PySem.W.alike, PySem.W.alikeAll]
theorem rowD_depth (f : Step → Int) : ∀ l : List Step, PyData.depthAll ((l.map (rowD f)).map cD) ≤ 60
  | [] => by simp only [List.map_nil, PyData.depthAll]; omega
  | a :: r => by
    have := rowD_depth f r
    simp only [List.map_cons, PyData.depthAll]
    have h : (cD (rowD f a)).depth ≤ 60 := by
      cases a <;> simp [cD, rowD, stepD, PyData.depth, PyData.depthAll]
    omega
theorem Paired.appT {α β : Type} {F : α → β → Prop} {l2 : List α} {m2 : List β} (h : Paired F l2 m2) : ∀ {l : List α} {m : List β}, Paired F l m → Paired F (l ++ l2) (m ++ m2)
  | _, _, .nil => h
  | _, _, .cons r t => .cons r (Paired.appT h t)
theorem Paired.rev {α β : Type} {F : α → β → Prop} : ∀ {l : List α} {m : List β}, Paired F l m → Paired F l.reverse m.reverse
  | _, _, .nil => .nil
  | _, _, .cons r t => by
    rw [List.reverse_cons, List.reverse_cons]
    exact Paired.appT (.cons r .nil) (Paired.rev t)
theorem cost_reverse (p : Pz) (l : List Step) : cost p l.reverse = cost p l := by
  induction l with
  | nil => rfl
  | cons a r ih =>
    rw [List.reverse_cons, cost_append, ih, cost_cons, cost_cons, cost_nil]
    omega
/-- a step in the heap -/
def SpsAt (H : Hp) (v : V) (st : Step) : Prop := ∃ q, v = .ref q ∧ H q = some (.tup (stepV st))
theorem SpsAt.kf {H H' : Hp} {v : V} {st : Step} (h : SpsAt H v st) (k : Kf H H') : SpsAt H' v st := let ⟨p, e, h⟩ := h; ⟨p, e, k.tup h⟩
def ItAt (f : Step → Int) (H : Hp) (v : V) (st : Step) : Prop := ∃ r q, v = .ref r ∧ H r = some (.tup [.int (f st), .ref q, .int (st.meant.length : Int), .int (st.typed.length : Int)]) ∧ H q = some (.tup (stepV st))
theorem ItAt.kf {f : Step → Int} {H H' : Hp} {v : V} {st : Step} (h : ItAt f H v st) (k : Kf H H') : ItAt f H' v st := let ⟨r, q, e, h, g⟩ := h; ⟨r, q, e, k.tup h, k.tup g⟩
theorem dpIts {K : PySem.W.Frag} {f : Step → Int} {H : Hp} : ∀ {us : List V} {l : List Step}, Paired (ItAt f H) us l → DpAll K H us ((l.map (rowD f)).map cD)
  | _, _, .nil => .nil
  | _, _, .cons ⟨r, q, e, h, g⟩ t => by
    subst e
    exact .cons (.tup (.inl (.inl h)) (.cons (.int _) (.cons (.tup (.inl (.inl g)) (dpStep _)) (.cons (.int _) (.cons (.int _) .nil))))) (dpIts t)
section
variable {P : Program} {w : World} {K : PySem.W.Frag} {mg : Str → Option Value} {base : Heap}
/-! ### reading -/
abbrev sRead : Stmt := topS 23
abbrev nRead : List Str := ["slips", "target", "text", "lines", "meant", "typed", "found", "some", "step", "less", "fewer", "worth"]
theorem scRead : FnScope nRead ["slips", "target", "text"] (defScope sRead) := ⟨rfl, rfl, rfl, by decide +kernel, rfl, by decide +kernel, by decide +kernel⟩
def spRead0 (C : Addr) : Sp := fun vs H Q _ => ∃ (x : Addr) (e m w : Int) (s : Option Int) (t z : Str), vs = [.ref x, .str t, .str z] ∧ SlAt C H x e m w s ∧ PrOk e m w s ∧ isT (.str t) = true ∧ isT (.str z) = true ∧ t.length ≤ 1000 ∧ z.length ≤ 1000 ∧
  ∀ (L : Addr) (us : List V) (rs : List Step) (H' : Hp), H L = none → H' L = some (.tup us) → Paired (SpsAt H') us rs → Rdg ⟨e, m, w, s⟩ (cd t) (cd z) rs → cost ⟨e, m, w, s⟩ rs = lc ⟨e, m, w, s⟩ (cd t) (cd z) → rs.length ≤ 2000 → Kp [] H H' → Q (.ref L) H'
set_option pp.maxSteps 1500 in
set_option maxHeartbeats 2000000 in
theorem ok_read0 {f C : Addr} {fd : FuncData} (F : Fun K "reading" "reading" sRead f fd) (CI : Cal P w K mg base "price_lines" ["slips", "target", "text"] 4 (spLines C)) (CN : Cal P w K mg base "need_text" ["thing"] 2 spNeed0)
    (CL : Cal P w K mg base "last_steps" ["slips", "target", "text"] 3 (spLast C)) (CS : Cal P w K mg base "step_price" ["slips", "step"] 3 (spStepP K C)) (B : Bt mg) : FnOk P w K mg base CX0 5 f fd ["slips", "target", "text"] (spRead0 C) := by
  refine F.ok scRead (fun vs H Q E h => ?_) (fun cdv A outer sh H vs Q E hr h => ?_)
  · obtain ⟨x, e, m, w, s, t, z, rfl, _⟩ := h
    rfl
  · obtain ⟨x, e, m, w, s, t, z, rfl, hx, ok, tt, tz, ht, hz, q⟩ := h
    have hu := hu_of hr
    have hz' : z.length ≤ sizeLine := szle (by omega)
    have ht' : t.length ≤ sizeLine := szle (by omega)
    have hlt : (cd t).length = t.length := cd_len t
    have hlz : (cd z).length = z.length := cd_len z
    have pos : Pz.Pos ⟨e, m, w, s⟩ := ok.pos
    refine ⟨_, (pss_cons
 (ps_expr (pe_cal CN hr (by decide) (by rfl) (pa_cons (pv 1) pa_nil)))
 (pss_cons
 (ps_expr (pe_cal CN hr (by decide) (by rfl) (pa_cons (pv 2) pa_nil)))
 (pss_cons
 (ps_set (i := 3) scRead.nd rfl (.inl rfl) (pe_cal CI hr (by decide) (by rfl) (pa_cons (pv 0) (pa_cons (pv 1) (pa_cons (pv 2) pa_nil)))))
 (pss_cons
 (ps_par3 (i := 4) (j := 5) (l := 6) (by rfl) scRead.nd rfl rfl rfl (by decide) (by decide) (by decide) rfl rfl rfl (pa_cons (pe_callB call_len_str (by rfl) B.len PySem.boot_len (pa_cons (pv 1) pa_nil)) (pa_cons (pe_callB call_len_str (by rfl) B.len PySem.boot_len (pa_cons (pv 2) pa_nil)) (pa_cons (pe_lst pa_nil) pa_nil))) (by rfl))
 (pss_cons
 (ps_while PassesOwn.never (PW.pt (pw_or (pt_cmpR op_gt (pv 4) pe_int (nomark _)) (pw_or1 (pt_cmpR op_gt (pv 5) pe_int (nomark _))))) (pss_cons
 (ps_set (i := 7) scRead.nd rfl (.inl rfl) (pe_lst pa_nil))
 (pss_cons
 (ps_for PassesOwn.never rfl (pi_list (pe_cal CL hr (by decide) (by rfl) (pa_cons (pv 0) (pa_cons (pe_slice sl_str (pv 1) po_none (po_some (pv 4))) (pa_cons (pe_slice sl_str (pv 2) po_none (po_some (pv 5))) pa_nil))))) (pg_tup rfl (pgs_cons (pg_name (i := 8) scRead.nd rfl (.inl rfl)) (pgs_cons (pg_name (i := 9) scRead.nd rfl (.inl rfl)) (pgs_cons (pg_name (i := 10) scRead.nd rfl (.inl rfl)) pgs_nil)))) (pss_one
 (ps_expr (pe_bm PySem.F.plainAttrs_list PySem.F.slot_list_append PySem.F.type_list_append mt_append (pv 7) (pa_cons (pe_tup (pa_cons (pe_op op_add (pe_ix ix_list (pe_ix ix_list (pv 3) (pe_op op_sub (pv 5) (pv 10)) (fun _ _ => rfl)) (pe_op op_sub (pv 4) (pv 9)) (fun _ _ => rfl)) (pe_cal CS hr (by decide) (by rfl) (pa_cons (pv 0) (pa_cons (pv 8) pa_nil)))) (pa_cons (pv 8) (pa_cons (pv 9) (pa_cons (pv 10) pa_nil))))) pa_nil)))))
 (pss_cons
 (ps_asg (pe_callB (call_minC rfl (sortU hr)) (by rfl) B.min (by decide +kernel) (pa_cons (pv 7) pa_nil)) (pg_tup rfl (pgs_cons (pg_name (i := 11) scRead.nd rfl (.inl rfl)) (pgs_cons (pg_name (i := 8) scRead.nd rfl (.inl rfl)) (pgs_cons (pg_name (i := 9) scRead.nd rfl (.inl rfl)) (pgs_cons (pg_name (i := 10) scRead.nd rfl (.inl rfl)) pgs_nil))))))
 (pss_cons
 (ps_expr (pe_bm PySem.F.plainAttrs_list PySem.F.slot_list_append PySem.F.type_list_append mt_append (pv 6) (pa_cons (pv 8) pa_nil)))
 (pss_one
 (ps_par (i := 4) (j := 5) (by rfl) scRead.nd rfl rfl (by decide) rfl rfl (pa_cons (pe_op op_sub (pv 4) (pv 9)) (pa_cons (pe_op op_sub (pv 5) (pv 10)) pa_nil)) (by rfl))))))))
 (pss_one
 (ps_ret (pe_callTy call_tuple_of (by rfl) B.tuple (by decide +kernel) (pa_cons (pe_revL (pv 6)) pa_nil))))))))), ?_⟩
    refine ⟨_, rfl, t, rfl, tt, by omega, fun H1 k1 => ?_⟩
    refine ⟨_, rfl, z, rfl, tz, by omega, fun H2 k2 => ?_⟩
    refine ⟨_, rfl, _, rfl, _, rfl, x, e, m, w, s, t, z, rfl, hx.kf (k1.trans k2).kf, ok, ht, hz, fun L rs H3 hL hrs hro k3 => ?_⟩
    have k03 := k1.trans (k2.trans k3)
    refine ⟨_, rfl, t, rfl, ht', _, rfl, z, rfl, hz', szle (by show 0 ≤ 1000000; decide), fun fo hfo => ⟨_, _, _, rfl, ?_⟩⟩
    refine ⟨fun mm σ H4 => ∃ (j i : Nat) (y7 y8 y9 y10 y11 : Option V) (us : List V) (fs : List Step), σ = [some (.ref x), some (.str t), some (.str z), some (.ref L), some (.int (j : Int)), some (.int (i : Int)), some (.ref fo), y7, y8, y9, y10, y11] ∧ mm = j + i ∧ j ≤ t.length ∧ i ≤ z.length ∧
        H4 fo = some (.lst us) ∧ Paired (SpsAt H4) us fs ∧ Rdg ⟨e, m, w, s⟩ ((cd t).drop j) ((cd z).drop i) fs.reverse ∧ val ⟨e, m, w, s⟩ (cd t) (cd z) i j + cost ⟨e, m, w, s⟩ fs = lc ⟨e, m, w, s⟩ (cd t) (cd z) ∧ fs.length + j + i ≤ t.length + z.length ∧ Kp [] H3 H4,
      ⟨t.length + z.length, t.length, z.length, none, none, none, none, none, [], [], rfl, rfl, Nat.le_refl _, Nat.le_refl _, upd_same, .nil, ?_, ?_, by show 0 + _ + _ ≤ _; omega, Kp.new hfo⟩, ?_⟩
    · rw [List.drop_of_length_le (by omega), List.drop_of_length_le (by omega)]
      exact Rdg.nil
    · unfold val
      rw [List.take_of_length_le (by omega), List.take_of_length_le (by omega), cost_nil, Int.add_zero]
    · rintro mm σ H4 ⟨j, i, y7, y8, y9, y10, y11, us, fs, rfl, rfl, hj, hi, hus, hps, hrd, hco, hln, k4⟩
      refine ⟨_, rfl, _, _, rfl, rfl, _, rfl, ?_⟩
      by_cases hj0 : (0 : Int) < (j : Int)
      · rw [show decide ((j : Int) > 0) = true from decide_eq_true hj0]
        refine iteT (iteT ⟨fun σ' H' => ∃ m', m' < j + i ∧ _, fun _ _ h => h, ?_⟩)
        refine ⟨szle (by show 0 ≤ 1000000; decide), fun so hso => ?_⟩
        have k45 : Kp [] H4 (upd H4 so (.lst [])) := Kp.new hso
        have hx5 : SlAt C (upd H4 so (.lst [])) x e m w s := hx.kf (k03.kf.trans (k4.kf.trans k45.kf))
        have l1 := cut_len t none (some (j : Int))
        have l2 := cut_len z none (some (i : Int))
        refine ⟨_, rfl, _, rfl, _, rfl, (j : Int), rfl, t, rfl, ht', _, rfl, _, rfl, (i : Int), rfl, z, rfl, hz', x, e, m, w, s, _, _, rfl, hx5, by omega, by omega, fun Ls vs H6 I6 => ?_⟩
        rw [cd_upto, cd_upto] at I6
        have hso6 : H6 so = some (.lst []) := I6.kp _ _ upd_same notnil
        have nLss : Ls ≠ so := by
          intro zz
          have := I6.f0
          rw [zz, upd_same] at this
          cases this
        have hlv : vs.length = (lastSteps ⟨e, m, w, s⟩ ((cd t).take j) ((cd z).take i)).length := Paired.len I6.pr
        have hst : ∀ st ∈ lastSteps ⟨e, m, w, s⟩ ((cd t).take j) ((cd z).take i), st.meant.length ≤ j ∧ st.typed.length ≤ i ∧ st.ok ⟨e, m, w, s⟩ := by
          intro st hs
          obtain ⟨o1, t', x', e1, e2⟩ := mem_lastSteps.mp hs
          have f1 := congrArg List.length e1
          have f2 := congrArg List.length e2
          rw [List.length_append, List.length_take] at f1 f2
          exact ⟨by omega, by omega, o1⟩
        have hl5 : (lastSteps ⟨e, m, w, s⟩ ((cd t).take j) ((cd z).take i)).length ≤ 100 := by
          unfold lastSteps
          rw [List.length_append, List.length_append, List.length_append]
          have := ls1_len ((cd z).take i)
          have := ls2_len ((cd t).take j)
          have := ls3_len ((cd t).take j) ((cd z).take i)
          have := ls4_len ⟨e, m, w, s⟩ ((cd t).take j) ((cd z).take i)
          omega
        have k46 : Kp [] H4 H6 := k45.trans I6.kp
        refine ⟨Ls, rfl, ⟨_, .inl (.inl I6.hL)⟩, for_list (K := K) (a := Ls) (xs := vs)
          (fun k σ H7 => ∃ (y8 y9 y10 : Option V) (ws : List V), σ = [some (.ref x), some (.str t), some (.str z), some (.ref L), some (.int (j : Int)), some (.int (i : Int)), some (.ref fo), some (.ref so), y8, y9, y10, y11] ∧
            H7 so = some (.lst ws) ∧ Paired (ItAt (vSt ⟨e, m, w, s⟩ ((cd t).take j) ((cd z).take i)) H7) ws ((lastSteps ⟨e, m, w, s⟩ ((cd t).take j) ((cd z).take i)).take k) ∧ Kp [so] H6 H7 ∧ Kp [] H4 H7)
          ⟨y8, y9, y10, [], rfl, hso6, .nil, Kp.rfl', k46⟩ ?_ ?_ ?_⟩
        · rintro k σ H7 _ ⟨y8, y9, y10, ws, rfl, h7, p7, k7, k47⟩
          exact .inl (.inl (k7 _ _ I6.hL (not1 nLss)))
        · rintro k v σ H7 hv ⟨y8, y9, y10, ws, rfl, h7, p7, k7, k47⟩
          obtain ⟨st, hst1, ⟨p, qq, rfl, hp, hqq⟩⟩ := Paired.at I6.pr hv
          have hmem := List.mem_of_getElem? hst1
          obtain ⟨lm, lt, lo⟩ := hst st hmem
          have hp7 := k7 _ _ hp (not1 (ne_of hp hso6 (by intro z; cases z)))
          have hq7 := k7 _ _ hqq (not1 (ne_of hqq hso6 (by intro z; cases z)))
          have hx7 : SlAt C H7 x e m w s := hx.kf (k03.kf.trans (k4.kf.trans k47.kf))
          have hrs7 : H7 L = some (.lst rs) := (k4.trans k47) _ _ hrs notnil
          obtain ⟨ra, hra1, hra2⟩ := (hro.keep (k4.trans k47)).2 (i - st.typed.length) (by omega)
          have ndx : (j : Int) - (st.meant.length : Int) = ((j - st.meant.length : Nat) : Int) := by omega
          have ndi : (i : Int) - (st.typed.length : Int) = ((i - st.typed.length : Nat) : Int) := by omega
          refine ⟨p, _, rfl, .inl (.inl hp7), rfl, _, _, rfl, _, _, rfl, _, _, rfl, rfl, ?_⟩
          refine ⟨_, rfl, .inl ⟨rfl, _, .inl (.inl h7)⟩, _, rfl, _, rfl, _, rfl, _, _, rfl, rfl, L, rs, _, .ref ra, rfl, rfl, .inl (.inl hrs7), ?_, _, rfl, _, rfl, _, _, rfl, rfl, ra, _, _, V.int (val ⟨e, m, w, s⟩ (cd t) (cd z) (i - st.typed.length) (j - st.meant.length)), rfl, rfl, .inl (.inl hra2), ?_, ?_⟩
          · show atI _ ((i : Int) - (st.typed.length : Int)) = _
            rw [ndi]
            exact atI_nat hra1
          · show atI _ ((j : Int) - (st.meant.length : Int)) = _
            rw [ndx]
            exact atI_nat (rowV_at (by omega))
          · refine ⟨_, rfl, _, rfl, x, qq, e, m, w, s, st, rfl, hx7, .inl (.inl hq7), lo, _, _, rfl, rfl, _, rfl, _, rfl, _, rfl, szle (by show 4 ≤ 1000000; decide), fun r hr8 => ?_⟩
            have ev : val ⟨e, m, w, s⟩ (cd t) (cd z) (i - st.typed.length) (j - st.meant.length) + st.pr ⟨e, m, w, s⟩ = vSt ⟨e, m, w, s⟩ ((cd t).take j) ((cd z).take i) st := (vSt_val _ (by omega) (by omega) st lm lt).symm
            have k78 : Kp [] H7 (upd H7 r (.tup [.int (val ⟨e, m, w, s⟩ (cd t) (cd z) (i - st.typed.length) (j - st.meant.length) + st.pr ⟨e, m, w, s⟩), .ref qq, .int (st.meant.length : Int), .int (st.typed.length : Int)])) := Kp.new hr8
            have h8 := k78 _ _ h7 notnil
            have hwl : ws.length ≤ 100 := by
              rw [Paired.len p7, List.length_take]
              omega
            refine ⟨so, _, _, rfl, rfl, h8, szlt (by omega), _, _, _, _, rfl, upd_same, ?_, (k7.trans (k78.mono (fun _ z => by cases z))).trans (Kp.put (by simp)), (k47.trans k78).mut hso⟩
            have kL := Kf.lst (o := .lst (ws ++ [V.ref r])) h8
            rw [take_snoc hst1]
            exact Paired.app1 ⟨r, qq, rfl, by rw [← ev]; exact kL.tup upd_same, kL.tup (k78.kf.tup hq7)⟩ (Paired.imp (fun _ _ h => h.kf (k78.kf.trans kL)) p7)
        · rintro σ H7 ⟨y8, y9, y10, ws, rfl, h7, p7, k7, k47⟩
          rw [hlv, List.take_length] at p7
          have hnil : lastSteps ⟨e, m, w, s⟩ ((cd t).take j) ((cd z).take i) ≠ [] := by
            intro hn
            obtain ⟨e1, e2⟩ := lastSteps_nil.mp hn
            have f1 := congrArg List.length e1
            have f2 := congrArg List.length e2
            rw [List.length_take] at f1 f2
            have e0 : ([] : List Nat).length = 0 := rfl
            omega
          refine ⟨_, rfl, so, ws, (lastSteps ⟨e, m, w, s⟩ ((cd t).take j) ((cd z).take i)).map (rowD (vSt ⟨e, m, w, s⟩ ((cd t).take j) ((cd z).take i))), rfl, .inl (.inl h7), by rw [Ne, List.map_eq_nil_iff]; exact hnil, dpIts p7, ?_, rowD_depth _ _, fun k v d hv hd hmin => ?_⟩
          · intro a ha b hb
            obtain ⟨a', _, rfl⟩ := List.mem_map.mp ha
            obtain ⟨b', _, rfl⟩ := List.mem_map.mp hb
            exact rowD_alike _ _ _
          · obtain ⟨st, hst1, r, qq, rfl, hr7, hq7⟩ := Paired.get p7 hv
            rw [List.getElem?_map, hst1] at hd
            cases hd
            have hmem := List.mem_of_getElem? hst1
            obtain ⟨lm, lt, lo⟩ := hst st hmem
            have hmin2 : ∀ st' ∈ lastSteps ⟨e, m, w, s⟩ ((cd t).take j) ((cd z).take i), vSt ⟨e, m, w, s⟩ ((cd t).take j) ((cd z).take i) st ≤ vSt ⟨e, m, w, s⟩ ((cd t).take j) ((cd z).take i) st' := fun st' hs' => hmin _ (List.mem_map_of_mem hs')
            obtain ⟨g1, g2⟩ := read_step pos (by omega) (by omega) hmem hmin2 hrd hco
            have ndx : (j : Int) - (st.meant.length : Int) = ((j - st.meant.length : Nat) : Int) := by omega
            have ndi : (i : Int) - (st.typed.length : Int) = ((i - st.typed.length : Nat) : Int) := by omega
            have hus7 := k47 _ _ hus notnil
            have hul : us.length = fs.length := Paired.len hps
            have sp := step_some st
            refine ⟨r, _, rfl, .inl (.inl hr7), rfl, _, _, rfl, _, _, rfl, _, _, rfl, _, _, rfl, rfl, ?_⟩
            refine ⟨_, rfl, .inl ⟨rfl, _, .inl (.inl hus7)⟩, _, rfl, fo, us, _, rfl, rfl, hus7, szlt (by omega), ?_⟩
            refine ⟨_, rfl, _, rfl, _, _, rfl, rfl, _, rfl, _, rfl, _, _, rfl, rfl, _, _, rfl, ?_⟩
            have kL := Kf.lst (o := .lst (us ++ [V.ref qq])) hus7
            refine ⟨_, ?_, j - st.meant.length, i - st.typed.length, _, _, _, _, _, us ++ [.ref qq], fs ++ [st], (by rw [← ndx, ← ndi]; rfl), rfl, by omega, by omega, upd_same, Paired.app1 ⟨qq, rfl, kL.tup hq7⟩ (Paired.imp (fun _ _ h => h.kf (k47.kf.trans kL)) hps), g1, g2, by rw [List.length_append]; show fs.length + 1 + _ + _ ≤ _; omega, (k4.trans k47).mut hfo⟩
            omega
      · rw [show decide ((j : Int) > 0) = false from decide_eq_false hj0]
        refine iteF ⟨_, rfl, _, _, rfl, rfl, _, rfl, ?_⟩
        by_cases hi0 : (0 : Int) < (i : Int)
        · rw [show decide ((i : Int) > 0) = true from decide_eq_true hi0]
          refine iteT ⟨fun σ' H' => ∃ m', m' < j + i ∧ _, fun _ _ h => h, ?_⟩
          refine ⟨szle (by show 0 ≤ 1000000; decide), fun so hso => ?_⟩
          have k45 : Kp [] H4 (upd H4 so (.lst [])) := Kp.new hso
          have hx5 : SlAt C (upd H4 so (.lst [])) x e m w s := hx.kf (k03.kf.trans (k4.kf.trans k45.kf))
          have l1 := cut_len t none (some (j : Int))
          have l2 := cut_len z none (some (i : Int))
          refine ⟨_, rfl, _, rfl, _, rfl, (j : Int), rfl, t, rfl, ht', _, rfl, _, rfl, (i : Int), rfl, z, rfl, hz', x, e, m, w, s, _, _, rfl, hx5, by omega, by omega, fun Ls vs H6 I6 => ?_⟩
          rw [cd_upto, cd_upto] at I6
          have hso6 : H6 so = some (.lst []) := I6.kp _ _ upd_same notnil
          have nLss : Ls ≠ so := by
            intro zz
            have := I6.f0
            rw [zz, upd_same] at this
            cases this
          have hlv : vs.length = (lastSteps ⟨e, m, w, s⟩ ((cd t).take j) ((cd z).take i)).length := Paired.len I6.pr
          have hst : ∀ st ∈ lastSteps ⟨e, m, w, s⟩ ((cd t).take j) ((cd z).take i), st.meant.length ≤ j ∧ st.typed.length ≤ i ∧ st.ok ⟨e, m, w, s⟩ := by
            intro st hs
            obtain ⟨o1, t', x', e1, e2⟩ := mem_lastSteps.mp hs
            have f1 := congrArg List.length e1
            have f2 := congrArg List.length e2
            rw [List.length_append, List.length_take] at f1 f2
            exact ⟨by omega, by omega, o1⟩
          have hl5 : (lastSteps ⟨e, m, w, s⟩ ((cd t).take j) ((cd z).take i)).length ≤ 100 := by
            unfold lastSteps
            rw [List.length_append, List.length_append, List.length_append]
            have := ls1_len ((cd z).take i)
            have := ls2_len ((cd t).take j)
            have := ls3_len ((cd t).take j) ((cd z).take i)
            have := ls4_len ⟨e, m, w, s⟩ ((cd t).take j) ((cd z).take i)
            omega
          have k46 : Kp [] H4 H6 := k45.trans I6.kp
          refine ⟨Ls, rfl, ⟨_, .inl (.inl I6.hL)⟩, for_list (K := K) (a := Ls) (xs := vs)
            (fun k σ H7 => ∃ (y8 y9 y10 : Option V) (ws : List V), σ = [some (.ref x), some (.str t), some (.str z), some (.ref L), some (.int (j : Int)), some (.int (i : Int)), some (.ref fo), some (.ref so), y8, y9, y10, y11] ∧
              H7 so = some (.lst ws) ∧ Paired (ItAt (vSt ⟨e, m, w, s⟩ ((cd t).take j) ((cd z).take i)) H7) ws ((lastSteps ⟨e, m, w, s⟩ ((cd t).take j) ((cd z).take i)).take k) ∧ Kp [so] H6 H7 ∧ Kp [] H4 H7)
            ⟨y8, y9, y10, [], rfl, hso6, .nil, Kp.rfl', k46⟩ ?_ ?_ ?_⟩
          · rintro k σ H7 _ ⟨y8, y9, y10, ws, rfl, h7, p7, k7, k47⟩
            exact .inl (.inl (k7 _ _ I6.hL (not1 nLss)))
          · rintro k v σ H7 hv ⟨y8, y9, y10, ws, rfl, h7, p7, k7, k47⟩
            obtain ⟨st, hst1, ⟨p, qq, rfl, hp, hqq⟩⟩ := Paired.at I6.pr hv
            have hmem := List.mem_of_getElem? hst1
            obtain ⟨lm, lt, lo⟩ := hst st hmem
            have hp7 := k7 _ _ hp (not1 (ne_of hp hso6 (by intro z; cases z)))
            have hq7 := k7 _ _ hqq (not1 (ne_of hqq hso6 (by intro z; cases z)))
            have hx7 : SlAt C H7 x e m w s := hx.kf (k03.kf.trans (k4.kf.trans k47.kf))
            have hrs7 : H7 L = some (.lst rs) := (k4.trans k47) _ _ hrs notnil
            obtain ⟨ra, hra1, hra2⟩ := (hro.keep (k4.trans k47)).2 (i - st.typed.length) (by omega)
            have ndx : (j : Int) - (st.meant.length : Int) = ((j - st.meant.length : Nat) : Int) := by omega
            have ndi : (i : Int) - (st.typed.length : Int) = ((i - st.typed.length : Nat) : Int) := by omega
            refine ⟨p, _, rfl, .inl (.inl hp7), rfl, _, _, rfl, _, _, rfl, _, _, rfl, rfl, ?_⟩
            refine ⟨_, rfl, .inl ⟨rfl, _, .inl (.inl h7)⟩, _, rfl, _, rfl, _, rfl, _, _, rfl, rfl, L, rs, _, .ref ra, rfl, rfl, .inl (.inl hrs7), ?_, _, rfl, _, rfl, _, _, rfl, rfl, ra, _, _, V.int (val ⟨e, m, w, s⟩ (cd t) (cd z) (i - st.typed.length) (j - st.meant.length)), rfl, rfl, .inl (.inl hra2), ?_, ?_⟩
            · show atI _ ((i : Int) - (st.typed.length : Int)) = _
              rw [ndi]
              exact atI_nat hra1
            · show atI _ ((j : Int) - (st.meant.length : Int)) = _
              rw [ndx]
              exact atI_nat (rowV_at (by omega))
            · refine ⟨_, rfl, _, rfl, x, qq, e, m, w, s, st, rfl, hx7, .inl (.inl hq7), lo, _, _, rfl, rfl, _, rfl, _, rfl, _, rfl, szle (by show 4 ≤ 1000000; decide), fun r hr8 => ?_⟩
              have ev : val ⟨e, m, w, s⟩ (cd t) (cd z) (i - st.typed.length) (j - st.meant.length) + st.pr ⟨e, m, w, s⟩ = vSt ⟨e, m, w, s⟩ ((cd t).take j) ((cd z).take i) st := (vSt_val _ (by omega) (by omega) st lm lt).symm
              have k78 : Kp [] H7 (upd H7 r (.tup [.int (val ⟨e, m, w, s⟩ (cd t) (cd z) (i - st.typed.length) (j - st.meant.length) + st.pr ⟨e, m, w, s⟩), .ref qq, .int (st.meant.length : Int), .int (st.typed.length : Int)])) := Kp.new hr8
              have h8 := k78 _ _ h7 notnil
              have hwl : ws.length ≤ 100 := by
                rw [Paired.len p7, List.length_take]
                omega
              refine ⟨so, _, _, rfl, rfl, h8, szlt (by omega), _, _, _, _, rfl, upd_same, ?_, (k7.trans (k78.mono (fun _ z => by cases z))).trans (Kp.put (by simp)), (k47.trans k78).mut hso⟩
              have kL := Kf.lst (o := .lst (ws ++ [V.ref r])) h8
              rw [take_snoc hst1]
              exact Paired.app1 ⟨r, qq, rfl, by rw [← ev]; exact kL.tup upd_same, kL.tup (k78.kf.tup hq7)⟩ (Paired.imp (fun _ _ h => h.kf (k78.kf.trans kL)) p7)
          · rintro σ H7 ⟨y8, y9, y10, ws, rfl, h7, p7, k7, k47⟩
            rw [hlv, List.take_length] at p7
            have hnil : lastSteps ⟨e, m, w, s⟩ ((cd t).take j) ((cd z).take i) ≠ [] := by
              intro hn
              obtain ⟨e1, e2⟩ := lastSteps_nil.mp hn
              have f1 := congrArg List.length e1
              have f2 := congrArg List.length e2
              rw [List.length_take] at f1 f2
              have e0 : ([] : List Nat).length = 0 := rfl
              omega
            refine ⟨_, rfl, so, ws, (lastSteps ⟨e, m, w, s⟩ ((cd t).take j) ((cd z).take i)).map (rowD (vSt ⟨e, m, w, s⟩ ((cd t).take j) ((cd z).take i))), rfl, .inl (.inl h7), by rw [Ne, List.map_eq_nil_iff]; exact hnil, dpIts p7, ?_, rowD_depth _ _, fun k v d hv hd hmin => ?_⟩
            · intro a ha b hb
              obtain ⟨a', _, rfl⟩ := List.mem_map.mp ha
              obtain ⟨b', _, rfl⟩ := List.mem_map.mp hb
              exact rowD_alike _ _ _
            · obtain ⟨st, hst1, r, qq, rfl, hr7, hq7⟩ := Paired.get p7 hv
              rw [List.getElem?_map, hst1] at hd
              cases hd
              have hmem := List.mem_of_getElem? hst1
              obtain ⟨lm, lt, lo⟩ := hst st hmem
              have hmin2 : ∀ st' ∈ lastSteps ⟨e, m, w, s⟩ ((cd t).take j) ((cd z).take i), vSt ⟨e, m, w, s⟩ ((cd t).take j) ((cd z).take i) st ≤ vSt ⟨e, m, w, s⟩ ((cd t).take j) ((cd z).take i) st' := fun st' hs' => hmin _ (List.mem_map_of_mem hs')
              obtain ⟨g1, g2⟩ := read_step pos (by omega) (by omega) hmem hmin2 hrd hco
              have ndx : (j : Int) - (st.meant.length : Int) = ((j - st.meant.length : Nat) : Int) := by omega
              have ndi : (i : Int) - (st.typed.length : Int) = ((i - st.typed.length : Nat) : Int) := by omega
              have hus7 := k47 _ _ hus notnil
              have hul : us.length = fs.length := Paired.len hps
              have sp := step_some st
              refine ⟨r, _, rfl, .inl (.inl hr7), rfl, _, _, rfl, _, _, rfl, _, _, rfl, _, _, rfl, rfl, ?_⟩
              refine ⟨_, rfl, .inl ⟨rfl, _, .inl (.inl hus7)⟩, _, rfl, fo, us, _, rfl, rfl, hus7, szlt (by omega), ?_⟩
              refine ⟨_, rfl, _, rfl, _, _, rfl, rfl, _, rfl, _, rfl, _, _, rfl, rfl, _, _, rfl, ?_⟩
              have kL := Kf.lst (o := .lst (us ++ [V.ref qq])) hus7
              refine ⟨_, ?_, j - st.meant.length, i - st.typed.length, _, _, _, _, _, us ++ [.ref qq], fs ++ [st], (by rw [← ndx, ← ndi]; rfl), rfl, by omega, by omega, upd_same, Paired.app1 ⟨qq, rfl, kL.tup hq7⟩ (Paired.imp (fun _ _ h => h.kf (k47.kf.trans kL)) hps), g1, g2, by rw [List.length_append]; show fs.length + 1 + _ + _ ≤ _; omega, (k4.trans k47).mut hfo⟩
              omega
        · rw [show decide ((i : Int) > 0) = false from decide_eq_false hi0]
          obtain rfl : j = 0 := by omega
          obtain rfl : i = 0 := by omega
          refine iteF ⟨_, rfl, fo, us, rfl, .inl (.inl hus), fun p hp => ?_⟩
          have kp1 : Kp [] H4 (upd H4 p (.lst us.reverse)) := Kp.new hp
          refine ⟨p, _, rfl, .inl ⟨.inl (.inl upd_same), fun T hT => ?_⟩⟩
          have kp2 : Kp [] (upd H4 p (.lst us.reverse)) (upd (upd H4 p (.lst us.reverse)) T (.tup us.reverse)) := Kp.new hT
          have k0T := k03.trans (k4.trans (kp1.trans kp2))
          have hv : val ⟨e, m, w, s⟩ (cd t) (cd z) 0 0 = 0 := by
            unfold val
            rw [List.take_zero, List.take_zero]
            exact lc_eq pos (least_nil pos)
          rw [hv] at hco
          refine q T us.reverse fs.reverse _ ((k03.trans (k4.trans kp1)).free hT) upd_same (Paired.rev (Paired.imp (fun _ _ h => h.kf (kp1.kf.trans kp2.kf)) hps)) ?_ ?_ ?_ k0T
          · exact hrd
          · rw [cost_reverse]
            omega
          · rw [List.length_reverse]
            omega
end
end G69
namespace G69
open PySem PySem.Spec PyProof.Rows L2
/-! ### letters and steps judged, of steps -/
def isLt (v : V) : Bool := isT v && (match v with | .str z => decide (z.length = 1) | _ => false)
def stL (st : Step) : Prop := ∀ c, c ∈ st.meant ∨ c ∈ st.typed → isL c
theorem isT_sg {c : Nat} (h : isL c) : isT (.str (sg c)) = true := by
  show ([c] : List Nat).all isLb = true
  rw [List.all_cons, List.all_nil, Bool.and_true]
  show (decide (97 ≤ c) && decide (c ≤ 122)) = true
  rw [decide_eq_true h.1, decide_eq_true h.2]
  rfl
theorem isLt_sg {c : Nat} (h : isL c) : isLt (.str (sg c)) = true := by
  show (isT (.str (sg c)) && decide (1 = 1)) = true
  rw [isT_sg h]
  rfl
/-- the letters of a step -/
def stC : Step → List Nat
  | .same a => [a]
  | .wrong a b => [a, b]
  | .extra b => [b]
  | .missing a => [a]
  | .swapped a b => [a, b]
theorem stC_L {st : Step} (h : stL st) : ∀ c ∈ stC st, isL c := by
  intro c hc
  refine h c ?_
  cases st with
  | same a => exact .inl hc
  | wrong a b =>
    rcases List.mem_cons.mp hc with rfl | h1
    · exact .inl List.mem_cons_self
    · exact .inr h1
  | extra b => exact .inr hc
  | missing a => exact .inl hc
  | swapped a b => exact .inl hc
def stN : Step → Str
  | .same _ => "same"
  | .wrong _ _ => "wrong"
  | .extra _ => "extra"
  | .missing _ => "missing"
  | .swapped _ _ => "swapped"
theorem stepV_eq (st : Step) : stepV st = V.str (stN st) :: sgs (stC st) := by cases st <;> rfl
section
variable {P : Program} {w : World} {K : PySem.W.Frag} {mg : Str → Option Value} {base : Heap}
/-! ### is_letter -/
abbrev sIsLet : Stmt := topS 14
abbrev nIsLet : List Str := ["thing"]
theorem scIsLet : FnScope nIsLet nIsLet (defScope sIsLet) := ⟨rfl, rfl, rfl, by decide +kernel, rfl, by decide +kernel, by decide +kernel⟩
def spIsLet (K : PySem.W.Frag) : Sp := fun vs H Q _ => ∃ (v : V) (T : String), vs = [v] ∧ Knd K H v T ∧ szV v ∧ ∀ H', Kp [] H H' → Q (.bl (isLt v)) H'
theorem ok_isLet {f : Addr} {fd : FuncData} (F : Fun K "is_letter" "is_letter" sIsLet f fd) (CI : Cal P w K mg base "is_text" ["thing"] 1 (spIsText K)) (B : Bt mg) : FnOk P w K mg base CX0 2 f fd ["thing"] (spIsLet K) := by
  refine F.ok scIsLet (fun vs H Q E h => ?_) (fun cdv A outer s H vs Q E hr h => ?_)
  · obtain ⟨v, T, rfl, _⟩ := h
    rfl
  · obtain ⟨v, T, rfl, ht, hz, q⟩ := h
    refine ⟨_, (pss_one
 (ps_ret (pe_and (pe_cal CI hr (by decide) (by rfl) (pa_cons (pv 0) pa_nil)) (pe_one (pe_cmpR op_eq (pe_callB call_len_str (by rfl) B.len PySem.boot_len (pa_cons (pv 0) pa_nil)) pe_int (nomark _)))))), ?_⟩
    refine ⟨_, rfl, v, T, rfl, ht, hz, fun H' k => ⟨_, rfl, ?_⟩⟩
    have q := q H' k
    unfold isLt at q
    cases hv : isT v with
    | false =>
      rw [hv] at q
      exact iteF q
    | true =>
      rw [hv] at q
      cases v with
      | str z =>
        refine iteT ⟨_, rfl, z, rfl, szle (by have : z.length ≤ 100000 := hz; omega), rfl, ?_⟩
        have e : decide (V.int ((z.length : Nat) : Int) = V.int 1) = decide (z.length = 1) := by
          rw [decide_eq_decide]
          constructor
          · intro h
            have := V.int.inj h
            omega
          · intro h
            rw [h]
            rfl
        rw [e]
        exact q
      | _ => cases hv
/-! ### is_step, of a step -/
abbrev sIsStep : Stmt := topS 24
abbrev nIsStep : List Str := ["slips", "thing", "letter"]
theorem scIsStep : FnScope nIsStep ["slips", "thing"] (defScope sIsStep) := ⟨rfl, rfl, rfl, by decide +kernel, rfl, by decide +kernel, by decide +kernel⟩
def spIsStep0 (C : Addr) : Sp := fun vs H Q _ => ∃ (x q : Addr) (e m w : Int) (s : Option Int) (st : Step), vs = [.ref x, .ref q] ∧ SlAt C H x e m w s ∧ H q = some (.tup (stepV st)) ∧ st.ok ⟨e, m, w, s⟩ ∧ stL st ∧ ∀ H', Kp [] H H' → Q (.bl true) H'
theorem stepV_len (st : Step) : (stepV st).length = 1 + (stC st).length := by
  rw [stepV_eq, List.length_cons, List.length_map]
  omega
theorem stC_len (st : Step) : (stC st).length = 1 ∨ (stC st).length = 2 := by cases st <;> simp [stC]
theorem ok_isStep0 {f C : Addr} {fd : FuncData} (F : Fun K "is_step" "is_step" sIsStep f fd) (S : SlP P w K mg base C) (CL : Cal P w K mg base "is_letter" ["thing"] 2 (spIsLet K)) (B : Bt mg) : FnOk P w K mg base CX0 3 f fd ["slips", "thing"] (spIsStep0 C) := by
  refine F.ok scIsStep (fun vs H Q E h => ?_) (fun cdv A outer sh H vs Q E hr h => ?_)
  · obtain ⟨x, q, e, m, w, s, st, rfl, _⟩ := h
    rfl
  · obtain ⟨x, p, e, m, w, s, st, rfl, hx, hp, ok, hL', q⟩ := h
    refine ⟨_, (pss_cons
 (ps_if (PW.pt (pw_or (pt_not (pt_val (pe_callB call_isi (by rfl) B.isinst (by decide +kernel) (pa_cons (pv 1) (pa_cons (pe_bltn (v := .ty "tuple") (by rfl) B.tuple (by decide +kernel) rfl) pa_nil))))) (pw_or1 (pt_cmpR op_notIn_seq (pe_callB call_len_seq (by rfl) B.len PySem.boot_len (pa_cons (pv 1) pa_nil)) (pe_tup (pa_cons pe_int (pa_cons pe_int pa_nil))) (by rfl))))) (pss_one
 (ps_ret pe_bl)) pss_nil)
 (pss_cons
 (ps_if (PW.pt (pw_or (pt_not (pt_val (pe_callB call_isi (by rfl) B.isinst (by decide +kernel) (pa_cons (pe_ix ix_tup (pv 1) pe_int (fun _ _ => rfl)) (pa_cons (pe_bltn (v := .ty "str") (by rfl) B.str (by decide +kernel) rfl) pa_nil))))) (pw_or1 (pt_not (pt_val (pe_callB (cr_all rfl) (by rfl) B.all (by decide +kernel) (pa_cons (pe_lc (own := [("letter", 2)]) (g := gName 2) (tt := tYes) (by rfl) scIsStep.nd (pi_tup (pe_slice sl_tup (pv 1) (po_some pe_int) po_none)) (blkOk_by (own := [("letter", 2)]) (N := nIsStep) (sc := defScope sIsStep) (by decide +kernel)) (fun _ _ _ _ _ => (pg_name (i := 2) scIsStep.nd rfl (.inl rfl))) (fun _ _ _ _ _ => pts_nil) (fun _ _ _ _ _ => (pe_cal CL hr (by decide) (by rfl) (pa_cons (pv 2) pa_nil)))) pa_nil))))))) (pss_one
 (ps_ret pe_bl)) pss_nil)
 (pss_cons
 (ps_if (pt_cmpR op_eq (pe_callB call_len_seq (by rfl) B.len PySem.boot_len (pa_cons (pv 1) pa_nil)) pe_int (nomark _)) (pss_one
 (ps_ret (pe_cmpR op_in_seq (pe_ix ix_tup (pv 1) pe_int (fun _ _ => rfl)) (pe_tup (pa_cons pe_str (pa_cons pe_str (pa_cons pe_str pa_nil)))) (by rfl)))) pss_nil)
 (pss_cons
 (ps_if (pt_cmpR op_eq (pe_ix ix_tup (pv 1) pe_int (fun _ _ => rfl)) (pe_ix ix_tup (pv 1) pe_int (fun _ _ => rfl)) (nomark _)) (pss_one
 (ps_ret pe_bl)) pss_nil)
 (pss_one
 (ps_ret (pe_or (pe_cmpR op_eq (pe_ix ix_tup (pv 1) pe_int (fun _ _ => rfl)) pe_str (nomark _)) (pe_one (pe_and (pe_cmpR op_eq (pe_ix ix_tup (pv 1) pe_int (fun _ _ => rfl)) pe_str (nomark _)) (pe_one (pe_cmpR op_notN (pe_prp (pv 0) S.T.cl S.pS hr (by decide) rfl) pe_non (nomark _)))))))))))), ?_⟩
    have hlen := stepV_len st
    have hl12 := stC_len st
    refine ⟨_, rfl, _, _, _, _, true, rfl, .ty "tuple", (Knd.tup (K := K) hp).1, kit_ty (by decide +kernel), true, rfl, iteF ?_⟩
    refine ⟨_, rfl, p, _, rfl, .inr (.inl (.inl hp)), szle (by show 2 ≤ 1000000; decide), fun p1 hp1 => ?_⟩
    have k1 : Kp [] H (upd H p1 (.tup [.int 2, .int 3])) := Kp.new hp1
    refine ⟨p1, _, rfl, .inr (.inl (.inl upd_same)), rfl, rfl, _, rfl, ?_⟩
    have h1 : (if true = true then !inV (V.int ((stepV st).length : Nat)) [V.int 2, V.int 3] else inV (V.int ((stepV st).length : Nat)) [V.int 2, V.int 3]) = false := by cases st <;> rfl
    rw [h1]
    have hp1' := k1 _ _ hp notnil
    refine iteF ⟨_, rfl, p, _, 0, V.str (stN st), rfl, rfl, .inl (.inl hp1'), atI_nat (j := 0) (by rw [stepV_eq]; rfl), _, _, _, _, true, rfl, .ty "str", Knd.str.1, kit_ty (by decide +kernel), true, rfl, iteF ?_⟩
    refine ⟨_, rfl, 1, rfl, p, _, rfl, .inl (.inl hp1'), (by rw [stepV_len]; rcases hl12 with h | h <;> rw [h] <;> decide), fun p2 hp2 => ?_⟩
    have hcut : cutV (stepV st) (some 1) none = sgs (stC st) := by cases st <;> rfl
    rw [hcut]
    have k2 := k1.trans (Kp.new (o := .tup (sgs (stC st))) hp2)
    refine ⟨p2, rfl, ⟨_, .inl (.inl upd_same)⟩, fun L hL => lc_it (walk_tup (K := K) (a := p2) (xs := sgs (stC st)))
      (fun i H2 => H2 L = some (.lst ((List.replicate i true).map V.bl)) ∧ Kp [] _ H2) ⟨upd_same, Kp.new hL⟩ (fun i H2 _ h2 => .inl (.inl (h2.2 _ _ upd_same notnil))) ?_ ?_⟩
    · rintro i v H2 H3 hi ⟨e2, k3⟩ ⟨rfl, hv⟩
      obtain ⟨c, hc, rfl⟩ : ∃ c, (stC st)[i]? = some c ∧ v = V.str (sg c) := by
        rw [List.getElem?_map] at hv
        cases e : (stC st)[i]? with
        | none => rw [e] at hv; cases hv
        | some y => rw [e] at hv; exact ⟨y, rfl, (Option.some.inj hv).symm⟩
      refine ⟨rfl, yes1 ⟨_, rfl, _, _, rfl, Knd.str, (by show 1 ≤ 100000; decide), fun H4 k4 => ⟨_, k4 _ _ e2 notnil, szlt (by rw [List.length_map, List.length_replicate]; rw [List.length_map] at hi; omega), ?_, (k3.trans k4).mut hL⟩⟩⟩
      rw [upd_same, isLt_sg (stC_L hL' c (List.mem_of_getElem? hc)), List.replicate_succ', List.map_append]
      rfl
    · rintro H2 ⟨e2, k3⟩
      have k02 := k2.trans k3
      have hpz := k02 _ _ hp notnil
      have hall : ∀ n : Nat, (List.replicate n true).all id = true := fun n => by
        rw [List.all_eq_true]
        intro b hb
        rw [(List.mem_replicate.mp hb).2]
        rfl
      refine ⟨L, _, rfl, .inl (.inl e2), ?_⟩
      rw [hall]
      refine ⟨_, rfl, iteF ?_⟩
      refine ⟨_, rfl, p, _, rfl, .inr (.inl (.inl hpz)), rfl, _, rfl, ?_⟩
      cases st with
      | same a =>
        refine iteT ⟨_, rfl, p, _, 0, _, rfl, rfl, .inl (.inl hpz), atI_nat (j := 0) rfl, szle (by show 3 ≤ 1000000; decide), fun p3 hp3 => ?_⟩
        exact ⟨p3, _, rfl, .inr (.inl (.inl upd_same)), rfl, rfl, q _ (k02.trans (Kp.new hp3))⟩
      | extra a =>
        refine iteT ⟨_, rfl, p, _, 0, _, rfl, rfl, .inl (.inl hpz), atI_nat (j := 0) rfl, szle (by show 3 ≤ 1000000; decide), fun p3 hp3 => ?_⟩
        exact ⟨p3, _, rfl, .inr (.inl (.inl upd_same)), rfl, rfl, q _ (k02.trans (Kp.new hp3))⟩
      | missing a =>
        refine iteT ⟨_, rfl, p, _, 0, _, rfl, rfl, .inl (.inl hpz), atI_nat (j := 0) rfl, szle (by show 3 ≤ 1000000; decide), fun p3 hp3 => ?_⟩
        exact ⟨p3, _, rfl, .inr (.inl (.inl upd_same)), rfl, rfl, q _ (k02.trans (Kp.new hp3))⟩
      | wrong a b =>
        refine iteF ⟨_, rfl, p, _, 1, _, rfl, rfl, .inl (.inl hpz), atI_nat (j := 1) rfl, _, rfl, p, _, 2, _, rfl, rfl, .inl (.inl hpz), atI_nat (j := 2) rfl, rfl, _, rfl, ?_⟩
        rw [sg_inj, decide_eq_false (show ¬ a = b from ok)]
        exact iteF ⟨_, rfl, p, _, 0, _, rfl, rfl, .inl (.inl hpz), atI_nat (j := 0) rfl, rfl, _, rfl, iteT (q _ k02)⟩
      | swapped a b =>
        refine iteF ⟨_, rfl, p, _, 1, _, rfl, rfl, .inl (.inl hpz), atI_nat (j := 1) rfl, _, rfl, p, _, 2, _, rfl, rfl, .inl (.inl hpz), atI_nat (j := 2) rfl, rfl, _, rfl, ?_⟩
        rw [sg_inj, decide_eq_false (show ¬ a = b from ok.1)]
        refine iteF ⟨_, rfl, p, _, 0, _, rfl, rfl, .inl (.inl hpz), atI_nat (j := 0) rfl, rfl, _, rfl, iteF ⟨_, rfl, p, _, 0, _, rfl, rfl, .inl (.inl hpz), atI_nat (j := 0) rfl, rfl, _, rfl, iteT ?_⟩⟩
        obtain ⟨dx, hdx⟩ := hx.kf k02.kf
        have q := q _ k02
        refine ⟨_, rfl, x, dx, _, rfl, hdx, x, dx, _, swV s, rfl, hdx, rfl, rfl, ?_⟩
        cases s with
        | none => exact absurd rfl ok.2
        | some i => exact q
/-! ### meant_letters, keyed_letters, of a step -/
abbrev ws (l : List Nat) : Str := ⟨l.toArray⟩
theorem ws_two (a b : Nat) : (sg a ++ sg b : Str) = ws [a, b] := rfl
abbrev sMeL : Stmt := topS 25
abbrev nMeL : List Str := ["step"]
theorem scMeL : FnScope nMeL nMeL (defScope sMeL) := ⟨rfl, rfl, rfl, by decide +kernel, rfl, by decide +kernel, by decide +kernel⟩
def spMeL : Sp := fun vs H Q _ => ∃ (q : Addr) (st : Step), vs = [.ref q] ∧ H q = some (.tup (stepV st)) ∧ Q (.str (ws st.meant)) H
theorem ok_meL {f : Addr} {fd : FuncData} (F : Fun K "meant_letters" "meant_letters" sMeL f fd) : FnOk P w K mg base CX0 1 f fd ["step"] spMeL := by
  refine F.ok scMeL (fun vs H Q E h => ?_) (fun cdv A outer sh H vs Q E hr h => ?_)
  · obtain ⟨q, st, rfl, _⟩ := h
    rfl
  · obtain ⟨p, st, rfl, hp, q⟩ := h
    refine ⟨_, (pss_cons
 (ps_if (pt_cmpR op_eq (pe_ix ix_tup (pv 0) pe_int (fun _ _ => rfl)) pe_str (nomark _)) (pss_one
 (ps_ret (pe_op op_add_str (pe_ix ix_tup (pv 0) pe_int (fun _ _ => rfl)) (pe_ix ix_tup (pv 0) pe_int (fun _ _ => rfl))))) pss_nil)
 (pss_one
 (ps_ret (pe_ifExp (pt_cmpR op_eq (pe_ix ix_tup (pv 0) pe_int (fun _ _ => rfl)) pe_str (nomark _)) pe_str (pe_ix ix_tup (pv 0) pe_int (fun _ _ => rfl)))))), ?_⟩
    refine ⟨_, rfl, p, _, 0, V.str (stN st), rfl, rfl, .inl (.inl hp), atI_nat (j := 0) (by rw [stepV_eq]; rfl), rfl, _, rfl, ?_⟩
    cases st with
    | same a => exact iteF ⟨_, rfl, p, _, 0, _, rfl, rfl, .inl (.inl hp), atI_nat (j := 0) rfl, rfl, _, rfl, iteF ⟨_, rfl, p, _, 1, _, rfl, rfl, .inl (.inl hp), atI_nat (j := 1) rfl, q⟩⟩
    | wrong a b => exact iteF ⟨_, rfl, p, _, 0, _, rfl, rfl, .inl (.inl hp), atI_nat (j := 0) rfl, rfl, _, rfl, iteF ⟨_, rfl, p, _, 1, _, rfl, rfl, .inl (.inl hp), atI_nat (j := 1) rfl, q⟩⟩
    | missing a => exact iteF ⟨_, rfl, p, _, 0, _, rfl, rfl, .inl (.inl hp), atI_nat (j := 0) rfl, rfl, _, rfl, iteF ⟨_, rfl, p, _, 1, _, rfl, rfl, .inl (.inl hp), atI_nat (j := 1) rfl, q⟩⟩
    | extra a => exact iteF ⟨_, rfl, p, _, 0, _, rfl, rfl, .inl (.inl hp), atI_nat (j := 0) rfl, rfl, _, rfl, iteT q⟩
    | swapped a b => exact iteT ⟨_, rfl, p, _, 1, _, rfl, rfl, .inl (.inl hp), atI_nat (j := 1) rfl, _, rfl, p, _, 2, _, rfl, rfl, .inl (.inl hp), atI_nat (j := 2) rfl, _, _, rfl, rfl, szle (by show 2 ≤ 1000000; decide), q⟩
abbrev sKeL : Stmt := topS 26
abbrev nKeL : List Str := ["step"]
theorem scKeL : FnScope nKeL nKeL (defScope sKeL) := ⟨rfl, rfl, rfl, by decide +kernel, rfl, by decide +kernel, by decide +kernel⟩
def spKeL : Sp := fun vs H Q _ => ∃ (q : Addr) (st : Step), vs = [.ref q] ∧ H q = some (.tup (stepV st)) ∧ Q (.str (ws st.typed)) H
theorem ok_keL {f : Addr} {fd : FuncData} (F : Fun K "keyed_letters" "keyed_letters" sKeL f fd) : FnOk P w K mg base CX0 1 f fd ["step"] spKeL := by
  refine F.ok scKeL (fun vs H Q E h => ?_) (fun cdv A outer sh H vs Q E hr h => ?_)
  · obtain ⟨q, st, rfl, _⟩ := h
    rfl
  · obtain ⟨p, st, rfl, hp, q⟩ := h
    refine ⟨_, (pss_cons
 (ps_if (pt_cmpR op_eq (pe_ix ix_tup (pv 0) pe_int (fun _ _ => rfl)) pe_str (nomark _)) (pss_one
 (ps_ret (pe_op op_add_str (pe_ix ix_tup (pv 0) pe_int (fun _ _ => rfl)) (pe_ix ix_tup (pv 0) pe_int (fun _ _ => rfl))))) pss_nil)
 (pss_one
 (ps_ret (pe_ifExp (pt_cmpR op_eq (pe_ix ix_tup (pv 0) pe_int (fun _ _ => rfl)) pe_str (nomark _)) pe_str (pe_ix ix_tup (pv 0) (pe_un un_neg pe_int) (fun _ _ => rfl)))))), ?_⟩
    refine ⟨_, rfl, p, _, 0, V.str (stN st), rfl, rfl, .inl (.inl hp), atI_nat (j := 0) (by rw [stepV_eq]; rfl), rfl, _, rfl, ?_⟩
    cases st with
    | same a => exact iteF ⟨_, rfl, p, _, 0, _, rfl, rfl, .inl (.inl hp), atI_nat (j := 0) rfl, rfl, _, rfl, iteF ⟨_, rfl, 1, rfl, p, _, -1, _, rfl, rfl, .inl (.inl hp), atI_last [V.str "same"] (V.str (sg a)), q⟩⟩
    | wrong a b => exact iteF ⟨_, rfl, p, _, 0, _, rfl, rfl, .inl (.inl hp), atI_nat (j := 0) rfl, rfl, _, rfl, iteF ⟨_, rfl, 1, rfl, p, _, -1, _, rfl, rfl, .inl (.inl hp), atI_last [V.str "wrong", V.str (sg a)] (V.str (sg b)), q⟩⟩
    | extra a => exact iteF ⟨_, rfl, p, _, 0, _, rfl, rfl, .inl (.inl hp), atI_nat (j := 0) rfl, rfl, _, rfl, iteF ⟨_, rfl, 1, rfl, p, _, -1, _, rfl, rfl, .inl (.inl hp), atI_last [V.str "extra"] (V.str (sg a)), q⟩⟩
    | missing a => exact iteF ⟨_, rfl, p, _, 0, _, rfl, rfl, .inl (.inl hp), atI_nat (j := 0) rfl, rfl, _, rfl, iteT q⟩
    | swapped a b => exact iteT ⟨_, rfl, p, _, 2, _, rfl, rfl, .inl (.inl hp), atI_nat (j := 2) rfl, _, rfl, p, _, 1, _, rfl, rfl, .inl (.inl hp), atI_nat (j := 1) rfl, _, _, rfl, rfl, szle (by show 2 ≤ 1000000; decide), q⟩
/-! ### cost -/
abbrev sCost : Stmt := topS 27
abbrev nCost : List Str := ["slips", "steps", "step"]
theorem scCost : FnScope nCost ["slips", "steps"] (defScope sCost) := ⟨rfl, rfl, rfl, by decide +kernel, rfl, by decide +kernel, by decide +kernel⟩
def spCost0 (C : Addr) : Sp := fun vs H Q _ => ∃ (x T : Addr) (e m w : Int) (s : Option Int) (us : List V) (rs : List Step), vs = [.ref x, .ref T] ∧ SlAt C H x e m w s ∧ H T = some (.tup us) ∧ Paired (SpsAt H) us rs ∧ (∀ st ∈ rs, st.ok ⟨e, m, w, s⟩) ∧ rs.length ≤ 2000 ∧ ∀ H', Kp [] H H' → Q (.int (cost ⟨e, m, w, s⟩ rs)) H'
theorem ok_cost0 {f C : Addr} {fd : FuncData} (F : Fun K "cost" "cost" sCost f fd) (CS : Cal P w K mg base "step_price" ["slips", "step"] 3 (spStepP K C)) (B : Bt mg) : FnOk P w K mg base CX0 4 f fd ["slips", "steps"] (spCost0 C) := by
  refine F.ok scCost (fun vs H Q E h => ?_) (fun cdv A outer sh H vs Q E hr h => ?_)
  · obtain ⟨x, T, e, m, w, s, us, rs, rfl, _⟩ := h
    rfl
  · obtain ⟨x, T, e, m, w, s, us, rs, rfl, hx, hT, hps, hok, hl, q⟩ := h
    refine ⟨_, (pss_one
 (ps_ret (pe_callB (cr_sum rfl) (by rfl) B.sum (by decide +kernel) (pa_cons (pe_lc (own := [("step", 2)]) (g := gName 2) (tt := tYes) (by rfl) scCost.nd (pi_tup (pv 1)) (blkOk_by (own := [("step", 2)]) (N := nCost) (sc := defScope sCost) (by decide +kernel)) (fun _ _ _ _ _ => (pg_name (i := 2) scCost.nd rfl (.inl rfl))) (fun _ _ _ _ _ => pts_nil) (fun _ _ _ _ _ => (pe_cal CS hr (by decide) (by rfl) (pa_cons (pv 0) (pa_cons (pv 2) pa_nil))))) pa_nil)))), ?_⟩
    refine ⟨_, rfl, T, rfl, ⟨_, .inl (.inl hT)⟩, fun L hL => lc_it (walk_tup (K := K) (a := T) (xs := us))
      (fun i H2 => H2 L = some (.lst (((rs.take i).map (Step.pr ⟨e, m, w, s⟩)).map V.int)) ∧ Kp [] H H2) ⟨upd_same, Kp.new hL⟩ (fun i H2 _ h2 => .inl (.inl (h2.2 _ _ hT notnil))) ?_ ?_⟩
    · rintro i v H2 H3 hi ⟨e2, k2⟩ ⟨rfl, hv⟩
      obtain ⟨st, hst, p, rfl, hp⟩ := Paired.get hps hv
      refine ⟨rfl, yes1 ⟨_, rfl, _, rfl, x, p, e, m, w, s, st, rfl, hx.kf k2.kf, .inl (.inl (k2 _ _ hp notnil)), hok st (List.mem_of_getElem? hst), _, e2, szlt (by rw [List.length_map, List.length_map, List.length_take]; omega), ?_, k2.mut hL⟩⟩
      rw [upd_same, take_snoc hst, List.map_append, List.map_append]
      rfl
    · rintro H2 ⟨e2, k2⟩
      rw [Paired.lens hps, List.take_length] at e2
      exact ⟨L, _, rfl, .inl (.inl e2), q H2 k2⟩
end
end G69
namespace G69
open PySem PySem.Spec PyProof.Rows L2
theorem joinCd (zs : List Str) : cd (Txt.join "" zs) = zs.flatMap cd := by
  have gen : ∀ (zs : List Str) (acc : Array Nat), (zs.foldl (fun acc p => acc ++ (Str.ofString "").cps ++ p.cps) acc).toList = acc.toList ++ zs.flatMap cd := by
    intro zs
    induction zs with
    | nil => intro acc; simp
    | cons x r ih =>
      intro acc
      rw [List.foldl_cons, ih]
      have e0 : (Str.ofString "").cps = #[] := by decide +kernel
      rw [e0]
      simp
  show (Builtin.Str.glued (Str.ofString "") zs).cps.toList = zs.flatMap cd
  cases zs with
  | nil => rfl
  | cons x r =>
    show (r.foldl _ x.cps).toList = _
    rw [gen]
    rfl
theorem sumLen (zs : List Str) : (zs.map (·.length)).sum = (zs.flatMap cd).length := by
  rw [List.length_flatMap]
  congr 1
theorem isL_of {z : Str} (h : isT (.str z) = true) : ∀ c ∈ cd z, isL c := fun c hc => by
  have h2 : (cd z).all isLb = true := h
  have := List.all_eq_true.mp h2 c hc
  unfold isLb at this
  rw [Bool.and_eq_true, decide_eq_true_eq, decide_eq_true_eq] at this
  exact this
theorem flat_ws (f : Step → List Nat) (rs : List Step) : (rs.map fun st => ws (f st)).flatMap cd = rs.flatMap f := by
  rw [List.flatMap_map]
section
variable {P : Program} {w : World} {K : PySem.W.Frag} {mg : Str → Option Value} {base : Heap}
/-! ### is_reading, of a reading -/
abbrev sIsRd : Stmt := topS 28
abbrev nIsRd : List Str := ["slips", "target", "text", "thing", "step", "is_meant"]
theorem scIsRd : FnScope nIsRd ["slips", "target", "text", "thing"] (defScope sIsRd) := ⟨rfl, rfl, rfl, by decide +kernel, rfl, by decide +kernel, by decide +kernel⟩
def spIsRd0 (C : Addr) : Sp := fun vs H Q _ => ∃ (x T : Addr) (e m w : Int) (s : Option Int) (t z : Str) (us : List V) (rs : List Step), vs = [.ref x, .str t, .str z, .ref T] ∧ SlAt C H x e m w s ∧ isT (.str t) = true ∧ isT (.str z) = true ∧ t.length ≤ 1000 ∧ z.length ≤ 1000 ∧
  H T = some (.tup us) ∧ Paired (SpsAt H) us rs ∧ Rdg ⟨e, m, w, s⟩ (cd t) (cd z) rs ∧ rs.length ≤ 2000 ∧ ∀ H', Kp [] H H' → Q (.bl true) H'
theorem ok_isRd0 {f C : Addr} {fd : FuncData} (F : Fun K "is_reading" "is_reading" sIsRd f fd) (CN : Cal P w K mg base "need_text" ["thing"] 2 spNeed0) (CT : Cal P w K mg base "is_step" ["slips", "thing"] 3 (spIsStep0 C))
    (CM : Cal P w K mg base "meant_letters" ["step"] 1 spMeL) (CK : Cal P w K mg base "keyed_letters" ["step"] 1 spKeL) (B : Bt mg) : FnOk P w K mg base CX0 4 f fd ["slips", "target", "text", "thing"] (spIsRd0 C) := by
  refine F.ok scIsRd (fun vs H Q E h => ?_) (fun cdv A outer sh H vs Q E hr h => ?_)
  · obtain ⟨x, T, e, m, w, s, t, z, us, rs, rfl, _⟩ := h
    rfl
  · obtain ⟨x, T, e, m, w, s, t, z, us, rs, rfl, hx, tt, tz, ht, hz, hT, hps, hrd, hl, q⟩ := h
    refine ⟨_, (pss_cons
 (ps_expr (pe_cal CN hr (by decide) (by rfl) (pa_cons (pv 1) pa_nil)))
 (pss_cons
 (ps_expr (pe_cal CN hr (by decide) (by rfl) (pa_cons (pv 2) pa_nil)))
 (pss_cons
 (ps_if (PW.pt (pw_or (pt_not (pt_val (pe_callB call_isi (by rfl) B.isinst (by decide +kernel) (pa_cons (pv 3) (pa_cons (pe_bltn (v := .ty "tuple") (by rfl) B.tuple (by decide +kernel) rfl) pa_nil))))) (pw_or1 (pt_not (pt_val (pe_callB (cr_all rfl) (by rfl) B.all (by decide +kernel) (pa_cons (pe_lc (own := [("step", 4)]) (g := gName 4) (tt := tYes) (by rfl) scIsRd.nd (pi_tup (pv 3)) (blkOk_by (own := [("step", 4)]) (N := nIsRd) (sc := defScope sIsRd) (by decide +kernel)) (fun _ _ _ _ _ => (pg_name (i := 4) scIsRd.nd rfl (.inl rfl))) (fun _ _ _ _ _ => pts_nil) (fun _ _ _ _ _ => (pe_cal CT hr (by decide) (by rfl) (pa_cons (pv 0) (pa_cons (pv 4) pa_nil))))) pa_nil))))))) (pss_one
 (ps_ret pe_bl)) pss_nil)
 (pss_cons
 (ps_set (i := 5) scIsRd.nd rfl (.inl rfl) (pe_cmpR op_eq (pe_bm PySem.F.plainAttrs_str PySem.F.slot_str_join PySem.F.type_str_join mt_join pe_str (pa_cons (pe_lc (own := [("step", 4)]) (g := gName 4) (tt := tYes) (by rfl) scIsRd.nd (pi_tup (pv 3)) (blkOk_by (own := [("step", 4)]) (N := nIsRd) (sc := defScope sIsRd) (by decide +kernel)) (fun _ _ _ _ _ => (pg_name (i := 4) scIsRd.nd rfl (.inl rfl))) (fun _ _ _ _ _ => pts_nil) (fun _ _ _ _ _ => (pe_cal CM hr (by decide) (by rfl) (pa_cons (pv 4) pa_nil)))) pa_nil)) (pv 1) (nomark _)))
 (pss_one
 (ps_ret (pe_and (pv 5) (pe_one (pe_cmpR op_eq (pe_bm PySem.F.plainAttrs_str PySem.F.slot_str_join PySem.F.type_str_join mt_join pe_str (pa_cons (pe_lc (own := [("step", 4)]) (g := gName 4) (tt := tYes) (by rfl) scIsRd.nd (pi_tup (pv 3)) (blkOk_by (own := [("step", 4)]) (N := nIsRd) (sc := defScope sIsRd) (by decide +kernel)) (fun _ _ _ _ _ => (pg_name (i := 4) scIsRd.nd rfl (.inl rfl))) (fun _ _ _ _ _ => pts_nil) (fun _ _ _ _ _ => (pe_cal CK hr (by decide) (by rfl) (pa_cons (pv 4) pa_nil)))) pa_nil)) (pv 2) (nomark _)))))))))), ?_⟩
    refine ⟨_, rfl, t, rfl, tt, by omega, fun H1 k1 => ?_⟩
    refine ⟨_, rfl, z, rfl, tz, by omega, fun H2 k2 => ?_⟩
    have k02 := k1.trans k2
    have hT2 := k02 _ _ hT notnil
    have hul : us.length = rs.length := Paired.lens hps
    refine ⟨_, rfl, _, _, _, _, true, rfl, .ty "tuple", (Knd.tup (K := K) hT2).1, kit_ty (by decide +kernel), true, rfl, iteF ?_⟩
    refine ⟨_, rfl, T, rfl, ⟨_, .inl (.inl hT2)⟩, fun L hL => lc_it (walk_tup (K := K) (a := T) (xs := us))
      (fun i H3 => H3 L = some (.lst ((List.replicate i true).map V.bl)) ∧ Kp [] H2 H3) ⟨upd_same, Kp.new hL⟩ (fun i H3 _ h3 => .inl (.inl (h3.2 _ _ hT2 notnil))) ?_ ?_⟩
    · rintro i v H3 H4 hi ⟨e3, k3⟩ ⟨rfl, hv⟩
      obtain ⟨st, hst, p, rfl, hp⟩ := Paired.get hps hv
      have hmem := List.mem_of_getElem? hst
      have k03 := k02.trans k3
      refine ⟨rfl, yes1 ⟨_, rfl, _, rfl, x, p, e, m, w, s, st, rfl, hx.kf k03.kf, k03 _ _ hp notnil, hrd.ok st hmem, fun c hc => ?_, fun H5 k5 => ⟨_, k5 _ _ e3 notnil, szlt (by rw [List.length_map, List.length_replicate]; omega), ?_, (k3.trans k5).mut hL⟩⟩⟩
      · rcases hc with h | h
        · exact isL_of tt c (by rw [← hrd.mt]; exact List.mem_flatMap.mpr ⟨st, hmem, h⟩)
        · exact isL_of tz c (by rw [← hrd.ty]; exact List.mem_flatMap.mpr ⟨st, hmem, h⟩)
      · rw [upd_same, List.replicate_succ', List.map_append]
        rfl
    · rintro H3 ⟨e3, k3⟩
      have k03 := k02.trans k3
      have hT3 := k03 _ _ hT notnil
      have hall : ∀ n : Nat, (List.replicate n true).all id = true := fun n => by
        rw [List.all_eq_true]
        intro b hb
        rw [(List.mem_replicate.mp hb).2]
        rfl
      refine ⟨L, _, rfl, .inl (.inl e3), ?_⟩
      rw [hall]
      refine ⟨_, rfl, iteF ?_⟩
      refine ⟨rfl, _, rfl, T, rfl, ⟨_, .inl (.inl hT3)⟩, fun M hM => lc_it (walk_tup (K := K) (a := T) (xs := us))
        (fun i H4 => H4 M = some (.lst (((rs.take i).map fun st => ws st.meant).map V.str)) ∧ Kp [] H3 H4) ⟨upd_same, Kp.new hM⟩ (fun i H4 _ h4 => .inl (.inl (h4.2 _ _ hT3 notnil))) ?_ ?_⟩
      · rintro i v H4 H5 hi ⟨e4, k4⟩ ⟨rfl, hv⟩
        obtain ⟨st, hst, p, rfl, hp⟩ := Paired.get hps hv
        refine ⟨rfl, yes1 ⟨_, rfl, p, st, rfl, (k03.trans k4) _ _ hp notnil, _, e4, szlt (by rw [List.length_map, List.length_map, List.length_take]; omega), ?_, k4.mut hM⟩⟩
        rw [upd_same, take_snoc hst, List.map_append, List.map_append]
        rfl
      · rintro H4 ⟨e4, k4⟩
        rw [hul, List.take_length] at e4
        have k04 := k03.trans k4
        have hT4 := k04 _ _ hT notnil
        have j1 : Txt.join "" (rs.map fun st => ws st.meant) = t := cd_inj (by rw [joinCd, flat_ws, hrd.mt])
        refine ⟨"", M, rs.map fun st => ws st.meant, rfl, rfl, .inl (.inl (.inl e4)), ?_, ?_⟩
        · rw [sumLen, flat_ws, hrd.mt, cd_len]
          show t.length + _ * 0 ≤ 16777216
          omega
        · refine ⟨_, rfl, rfl, ?_⟩
          rw [j1]
          refine ⟨_, rfl, true, congrArg V.bl (decide_eq_true rfl), iteT ?_⟩
          refine ⟨rfl, _, rfl, T, rfl, ⟨_, .inl (.inl hT4)⟩, fun N hN => lc_it (walk_tup (K := K) (a := T) (xs := us))
            (fun i H5 => H5 N = some (.lst (((rs.take i).map fun st => ws st.typed).map V.str)) ∧ Kp [] H4 H5) ⟨upd_same, Kp.new hN⟩ (fun i H5 _ h5 => .inl (.inl (h5.2 _ _ hT4 notnil))) ?_ ?_⟩
          · rintro i v H5 H6 hi ⟨e5, k5⟩ ⟨rfl, hv⟩
            obtain ⟨st, hst, p, rfl, hp⟩ := Paired.get hps hv
            refine ⟨rfl, yes1 ⟨_, rfl, p, st, rfl, (k04.trans k5) _ _ hp notnil, _, e5, szlt (by rw [List.length_map, List.length_map, List.length_take]; omega), ?_, k5.mut hN⟩⟩
            rw [upd_same, take_snoc hst, List.map_append, List.map_append]
            rfl
          · rintro H5 ⟨e5, k5⟩
            rw [hul, List.take_length] at e5
            have j2 : Txt.join "" (rs.map fun st => ws st.typed) = z := cd_inj (by rw [joinCd, flat_ws, hrd.ty])
            refine ⟨"", N, rs.map fun st => ws st.typed, rfl, rfl, .inl (.inl (.inl e5)), ?_, ?_⟩
            · rw [sumLen, flat_ws, hrd.ty, cd_len]
              show z.length + _ * 0 ≤ 16777216
              omega
            · refine ⟨_, rfl, rfl, ?_⟩
              rw [j2]
              have := q H5 (k04.trans k5)
              rw [← show decide (V.str z = V.str z) = true from decide_eq_true rfl] at this
              exact this
end
end G69
namespace G69
open PySem PySem.Spec PyProof.Rows L2
section
variable {P : Program} {w : World} {K : PySem.W.Frag} {mg : Str → Option Value} {base : Heap}
/-! ### _law_texts -/
abbrev sTexts : Stmt := topS 53
abbrev nTexts : List Str := ["_law_letters_here", "_law_most", "_law_found", "_law_line", "_law_turn", "_law_longer", "_law_text", "_law_letter"]
abbrev pTexts : List Str := nTexts.take 2
theorem scTexts : FnScope nTexts pTexts (defScope sTexts) := ⟨rfl, rfl, rfl, by decide +kernel, rfl, by decide +kernel, by decide +kernel⟩
/-- texts of these letters, of at most n -/
def Txs (cs : List Nat) (n : Nat) (zs : List Str) : Prop := ∀ z ∈ zs, (∀ c ∈ cd z, c ∈ cs) ∧ z.length ≤ n
def spTexts (K : PySem.W.Frag) : Sp := fun vs H Q _ => ∃ (a : Addr) (cs : List Nat) (most : Nat), vs = [.ref a, .int most] ∧ SqL K H a (sgs cs) ∧ cs.length ≤ 3 ∧ most ≤ 6 ∧
  ∀ (L : Addr) (zs : List Str) (H' : Hp), H L = none → H' L = some (.lst (zs.map V.str)) → Txs cs most zs → zs.length ≤ 10000 → Kp [] H H' → Q (.ref L) H'
theorem cat_sg {z : Str} {c : Nat} {cs : List Nat} {n : Nat} (h1 : ∀ a ∈ cd z, a ∈ cs) (h2 : z.length ≤ n) (hc : c ∈ cs) : (∀ a ∈ cd (z ++ sg c), a ∈ cs) ∧ (z ++ sg c).length ≤ n + 1 := by
  have e : cd (z ++ sg c) = cd z ++ [c] := by rw [cat_cd]
  refine ⟨fun a ha => ?_, ?_⟩
  · rw [e] at ha
    rcases List.mem_append.mp ha with h | h
    · exact h1 a h
    · rw [List.mem_singleton.mp h]
      exact hc
  · rw [← cd_len, e, List.length_append, cd_len]
    show z.length + 1 ≤ n + 1
    omega
theorem ok_texts {f : Addr} {fd : FuncData} (F : Fun K "_law_texts" "_law_texts" sTexts f fd) (B : Bt mg) : FnOk P w K mg base CX0 1 f fd pTexts (spTexts K) := by
  refine F.ok scTexts (fun vs H Q E h => ?_) (fun cdv A outer sh H vs Q E hr h => ?_)
  · obtain ⟨a, cs, most, rfl, _⟩ := h
    rfl
  · obtain ⟨a, cs, most, rfl, hS, hc3, hm, q⟩ := h
    refine ⟨_, (pss_cons
 (ps_par (i := 2) (j := 3) (by rfl) scTexts.nd rfl rfl (by decide) rfl rfl (pa_cons (pe_lst (pa_cons pe_str pa_nil)) (pa_cons (pe_lst (pa_cons pe_str pa_nil)) pa_nil)) (by rfl))
 (pss_cons
 (ps_for PassesOwn.never rfl (pi_range1 (by rfl) B.range (pa_cons (pv 1) pa_nil)) (pg_name (i := 4) scTexts.nd rfl (.inl rfl)) (pss_cons
 (ps_set (i := 5) scTexts.nd rfl (.inl rfl) (pe_lst pa_nil))
 (pss_cons
 (ps_for PassesOwn.never rfl (pi_list (pv 3)) (pg_name (i := 6) scTexts.nd rfl (.inr rfl)) (pss_one
 (ps_set (i := 5) scTexts.nd rfl (.inl rfl) (pe_op op_cat (pv 5) (pe_lc (own := [("_law_letter", 7)]) (g := gName 7) (tt := tYes) (by rfl) scTexts.nd (pi_list (pv 0)) (blkOk_by (own := [("_law_letter", 7)]) (N := nTexts) (sc := defScope sTexts) (by decide +kernel)) (fun _ _ _ _ _ => (pg_name (i := 7) scTexts.nd rfl (.inl rfl))) (fun _ _ _ _ _ => pts_nil) (fun _ _ _ _ _ => (pe_op op_add_str (pv 6) (pv 7))))))))
 (pss_cons
 (ps_set (i := 3) scTexts.nd rfl (.inl rfl) (pv 5))
 (pss_one
 (ps_set (i := 2) scTexts.nd rfl (.inl rfl) (pe_op op_cat (pv 2) (pv 3))))))))
 (pss_one
 (ps_ret (pv 2))))), ?_⟩
    refine ⟨szle (by show 1 ≤ 1000000; decide), fun a1 h1 => ⟨szle (by show 1 ≤ 1000000; decide), fun a2 h2 => ⟨_, _, rfl, ?_⟩⟩⟩
    have h2' : H a2 = none := (Kp.new h1 : Kp [] H _).free h2
    have k2 : Kp [] H (upd (upd H a1 (.lst [.str ""])) a2 (.lst [.str ""])) := (Kp.new h1).trans (Kp.new h2)
    refine ⟨_, rfl, most, rfl, by omega, by omega, for_range (lo := 0) (n := most)
      (fun i σ H3 => ∃ (y4 y5 y6 y7 : Option V) (b1 b2 : Addr) (zs ls : List Str), σ = [some (.ref a), some (.int most), some (.ref b1), some (.ref b2), y4, y5, y6, y7] ∧ H3 b1 = some (.lst (zs.map V.str)) ∧ H3 b2 = some (.lst (ls.map V.str)) ∧
        Txs cs i zs ∧ Txs cs i ls ∧ ls.length ≤ 3 ^ i ∧ zs.length ≤ 4 ^ i ∧ H b1 = none ∧ Kp [] H H3)
      ⟨none, none, none, none, a1, a2, [""], [""], rfl, by rw [upd_ne (ne_of_none upd_same h2), upd_same]; rfl, by rw [upd_same]; rfl, ?_, ?_, by decide, by decide, h1, k2⟩ ?_ ?_⟩
    · intro z hz
      rw [List.mem_singleton.mp hz]
      exact ⟨(fun c hc => by cases hc), by decide⟩
    · intro z hz
      rw [List.mem_singleton.mp hz]
      exact ⟨(fun c hc => by cases hc), by decide⟩
    · rintro i σ H3 hi ⟨y4, y5, y6, y7, b1, b2, zs, ls, rfl, e1, e2, t1, t2, l1, l2, hb1, k3⟩
      refine ⟨szle (by show 0 ≤ 1000000; decide), fun lg hlg => ?_⟩
      have k4 : Kp [] H3 (upd H3 lg (.lst [])) := Kp.new hlg
      have hp3 : 3 ^ i ≤ 729 := Nat.le_trans (Nat.pow_le_pow_right (by decide) (show i ≤ 6 by omega)) (by decide)
      have hp4 : 4 ^ i ≤ 4096 := Nat.le_trans (Nat.pow_le_pow_right (by decide) (show i ≤ 6 by omega)) (by decide)
      have hp34 : 3 ^ i ≤ 4 ^ i := Nat.pow_le_pow_left (by decide) i
      have e3i : 3 ^ (i + 1) = 3 * 3 ^ i := by rw [Nat.pow_succ, Nat.mul_comm]
      have e4i : 4 ^ (i + 1) = 4 * 4 ^ i := by rw [Nat.pow_succ, Nat.mul_comm]
      refine ⟨_, rfl, b2, rfl, ⟨_, .inl (.inl (k4 _ _ e2 notnil))⟩, for_list (K := K) (a := b2) (xs := ls.map V.str)
        (fun j σ H4 => ∃ (y6 y7 : Option V) (g : Addr) (xs : List Str), σ = [some (.ref a), some (.int most), some (.ref b1), some (.ref b2), some (.int (0 + (i : Int))), some (.ref g), y6, y7] ∧ H4 g = some (.lst (xs.map V.str)) ∧ Txs cs (i + 1) xs ∧ xs.length ≤ 3 * j ∧ Kp [] H3 H4)
        ⟨y6, y7, lg, [], rfl, upd_same, (fun _ z => by cases z), Nat.le_refl _, k4⟩ ?_ ?_ ?_⟩
      · rintro j σ H4 _ ⟨y6, y7, g, xs, rfl, e5, t5, l5, k5⟩
        exact .inl (.inl (k5 _ _ e2 notnil))
      · rintro j v σ H4 hv ⟨y6, y7, g, xs, rfl, e5, t5, l5, k5⟩
        obtain ⟨z, hz, rfl⟩ : ∃ z, ls[j]? = some z ∧ v = V.str z := by
          rw [List.getElem?_map] at hv
          cases e : ls[j]? with
          | none => rw [e] at hv; cases hv
          | some y => rw [e] at hv; exact ⟨y, rfl, (Option.some.inj hv).symm⟩
        have hjl : j < ls.length := (List.getElem?_eq_some_iff.mp hz).1
        have tz := t2 z (List.mem_of_getElem? hz)
        have hS5 : SqL K H4 a (sgs cs) := (k3.trans k5).l notnil hS
        refine ⟨_, rfl, _, rfl, a, rfl, ⟨_, hS5⟩, fun M hM => lc_it (walk_list (K := K) (a := a) (xs := sgs cs))
          (fun k H5 => H5 M = some (.lst (((cs.take k).map fun c => z ++ sg c).map V.str)) ∧ Kp [] H4 H5) ⟨upd_same, Kp.new hM⟩ (fun k H5 _ h5 => h5.2.l notnil hS5) ?_ ?_⟩
        · rintro k v H5 H6 hk ⟨e6, k6⟩ ⟨rfl, hv6⟩
          obtain ⟨c, hc, rfl⟩ : ∃ c, cs[k]? = some c ∧ v = V.str (sg c) := by
            rw [List.getElem?_map] at hv6
            cases e : cs[k]? with
            | none => rw [e] at hv6; cases hv6
            | some y => rw [e] at hv6; exact ⟨y, rfl, (Option.some.inj hv6).symm⟩
          refine ⟨rfl, yes1 ⟨_, rfl, _, rfl, _, _, rfl, rfl, szle (by have := tz.2; show z.length + 1 ≤ 1000000; omega), _, e6, szlt (by rw [List.length_map, List.length_map, List.length_take]; omega), ?_, k6.mut hM⟩⟩
          rw [upd_same, take_snoc hc, List.map_append, List.map_append]
          rfl
        · rintro H5 ⟨e6, k6⟩
          rw [List.length_map, List.take_length] at e6
          have e5' := k6 _ _ e5 notnil
          refine ⟨g, M, _, _, rfl, rfl, e5', e6, szle (by rw [List.length_map, List.length_map, List.length_map]; omega), fun p hp => ?_⟩
          refine ⟨_, _, p, xs ++ cs.map fun c => z ++ sg c, rfl, by rw [upd_same, List.map_append], fun y hy => ?_, ?_, k5.trans (k6.trans (Kp.new hp))⟩
          · rcases List.mem_append.mp hy with h | h
            · exact t5 y h
            · obtain ⟨c, hc, rfl⟩ := List.mem_map.mp h
              exact cat_sg tz.1 tz.2 hc
          · rw [List.length_append, List.length_map]
            omega
      · rintro σ H4 ⟨y6, y7, g, xs, rfl, e5, t5, l5, k5⟩
        rw [List.length_map] at l5
        have e1' := k5 _ _ e1 notnil
        refine ⟨_, rfl, _, rfl, _, rfl, b1, g, _, _, rfl, rfl, e1', e5, szle (by rw [List.length_map, List.length_map]; omega), fun p hp => ?_⟩
        refine ⟨_, _, _, _, p, g, zs ++ xs, xs, rfl, by rw [upd_same, List.map_append], (Kp.new hp : Kp [] H4 _) _ _ e5 notnil, fun y hy => ?_, t5, by omega, by rw [List.length_append]; omega, (k3.trans k5).free hp, k3.trans (k5.trans (Kp.new hp))⟩
        rcases List.mem_append.mp hy with h | h
        · exact ⟨(t1 y h).1, Nat.le_succ_of_le (t1 y h).2⟩
        · exact t5 y h
    · rintro σ H3 ⟨y4, y5, y6, y7, b1, b2, zs, ls, rfl, e1, e2, t1, t2, l1, l2, hb1, k3⟩
      refine ⟨_, rfl, q b1 zs H3 hb1 e1 t1 (Nat.le_trans l2 (Nat.le_trans (Nat.pow_le_pow_right (by decide) hm) (by decide))) k3⟩
end
end G69
namespace G69
open PySem PySem.Spec PyProof.Rows L2
section
variable {P : Program} {w : World} {K : PySem.W.Frag} {mg : Str → Option Value} {base : Heap}
/-! ### the law -/
abbrev sLaw : Stmt := topS 54
abbrev nLaw : List Str := ["_law_script", "_law_draw", "_law_turn", "_law_case_here", "_law_speller_here", "_law_slips_here", "_law_text", "_law_totals_here", "_law_word", "_law_own", "_law_steps"]
theorem scLaw : FnScope nLaw ["_law_script"] (defScope sLaw) := ⟨rfl, rfl, rfl, by decide +kernel, rfl, by decide +kernel, by decide +kernel⟩
def spLaw (K : PySem.W.Frag) : Sp := fun vs H Q _ => ∃ (a : Addr) (ns : List Int), vs = [.ref a] ∧ SqL K H a (ns.map V.int) ∧ ns.length ≤ 63 ∧ ∀ H', Q (.bl true) H'
structure CalsA (P : Program) (w : World) (K : PySem.W.Frag) (mg : Str → Option Value) (base : Heap) (C CS : Addr) : Prop where
  T : SpC K mg CS
  bg : Cal P w K mg base "_law_begin" ["_law_script"] 1 (spBegin K)
  cs : Cal P w K mg base "_law_case" pCase 4 spCase
  sp : Cal P w K mg base "_law_speller" nSpe 7 (spSpe C CS)
  sl : Cal P w K mg base "_law_slips" pLSlips 5 (spLSlips K C)
  tx : Cal P w K mg base "_law_texts" pTexts 1 (spTexts K)
  ot : Cal P w K mg base "_law_other_letter" pOth 1 spOth
  rd : Cal P w K mg base "reading" ["slips", "target", "text"] 5 (spRead0 C)
  ir : Cal P w K mg base "is_reading" ["slips", "target", "text", "thing"] 4 (spIsRd0 C)
  co : Cal P w K mg base "cost" ["slips", "steps"] 4 (spCost0 C)
  tt : Cal P w K mg base "_law_totals" pTots 2 spTots
  me : Cal P w K mg base "_law_meant" pLMe 3 spLMe
  gi : Mth P w K mg base CS "__getitem__" nGetI 8 (spGetI0 C CS)
  to : Mth P w K mg base CS "total" ["self", "word", "text"] 6 (spTotal0 C CS)
theorem cut2 : ∀ cs : List Nat, 2 ≤ cs.length → cs.length ≤ 3 → ∃ c1 c2, cutV (sgs cs) none (some 2) = sgs [c1, c2] ∧ ∀ x ∈ [c1, c2], x ∈ cs
  | [], h, _ => absurd h (by decide)
  | [_], h, _ => absurd h (by show ¬ 2 ≤ 1; decide)
  | [c1, c2], _, _ => ⟨c1, c2, rfl, fun x hx => hx⟩
  | [c1, c2, c3], _, _ => ⟨c1, c2, rfl, fun x hx => by
      rcases List.mem_cons.mp hx with rfl | h
      · exact List.mem_cons_self
      · rw [List.mem_singleton.mp h]
        exact List.mem_cons_of_mem _ List.mem_cons_self⟩
  | _ :: _ :: _ :: _ :: r, _, h => absurd h (by show ¬ r.length + 4 ≤ 3; omega)
structure MB (C CS d l c y lt pr en xS sx : Addr) (cs : List Nat) (xs : List V) (es : List En) (e m w : Int) (s : Option Int) (H : Hp) : Prop where
  I : CaseI H y lt pr en cs xs es e m w s
  ok : CaseOk 3 2 cs es e m w s
  of : CaseOff d l c y lt en
  D : Dr H d l c
  SP : SpAt C CS H xS es e m w s
  SL : SlAt C H sx e m w s
theorem MB.kp {C CS d l c y lt pr en xS sx : Addr} {cs : List Nat} {xs : List V} {es : List En} {e m w : Int} {s : Option Int} {H H' : Hp} (M : MB C CS d l c y lt pr en xS sx cs xs es e m w s H) (k : Kp [] H H') : MB C CS d l c y lt pr en xS sx cs xs es e m w s H' :=
  ⟨M.I.kp k, M.ok, M.of, M.D.keep0 k, M.SP.kf k.kf, M.SL.kf k.kf⟩
theorem eqvSame : ∀ ns : List Int, PyData.eqv (.list (ns.map PyData.int)) (.list (ns.map PyData.int)) = true := by
  have h : ∀ ns : List Int, PyData.eqvAll (ns.map PyData.int) (ns.map PyData.int) = true := by
    intro ns
    induction ns with
    | nil => simp only [List.map_nil, PyData.eqvAll]
    | cons n r ih => simp only [List.map_cons, PyData.eqvAll, PyData.eqv, ih, beq_self_eq_true, Bool.and_self]
  intro ns
  simp only [PyData.eqv]
  exact h ns
set_option maxHeartbeats 0 in
theorem ok_law {f C CS : Addr} {fd : FuncData} (F : Fun K "law" "law" sLaw f fd) (A : CalsA P w K mg base C CS) (B : Bt mg) : FnOk P w K mg base CX0 10 f fd ["_law_script"] (spLaw K) := by
  refine F.ok scLaw (fun vs H Q E h => ?_) (fun cdv Ar outer sh H vs Q E hr h => ?_)
  · obtain ⟨a, ns, rfl, _⟩ := h
    rfl
  · obtain ⟨a, ns, rfl, hS, hlen, q⟩ := h
    have hu := hu_of hr
    refine ⟨_, (pss_cons
 (ps_set (i := 1) scLaw.nd rfl (.inl rfl) (pe_cal A.bg hr (by decide) (by rfl) (pa_cons (pv 0) pa_nil)))
 (pss_cons
 (ps_for PassesOwn.never rfl (pi_range1 (by rfl) B.range (pa_cons (pe_op op_add pe_int (pe_callB (call_min2 rfl) (by rfl) B.min (by decide +kernel) (pa_cons (pe_callB call_len_seq (by rfl) B.len PySem.boot_len (pa_cons (pv 0) pa_nil)) (pa_cons pe_int pa_nil)))) pa_nil)) (pg_name (i := 2) scLaw.nd rfl (.inl rfl)) (C8.pss_cut
 (ps_set (i := 3) scLaw.nd rfl (.inl rfl) (pe_cal A.cs hr (by decide) (by rfl) (pa_cons (pv 1) (pa_cons pe_int (pa_cons pe_int pa_nil)))))
 (C8.pss_cut
 (ps_asg (pe_tup (pa_cons (pe_cal A.sp hr (by decide) (by rfl) (pa_cons (pv 3) pa_nil)) (pa_cons (pe_cal A.sl hr (by decide) (by rfl) (pa_cons (pe_dget hu (pv 3) pe_str (fun _ _ => rfl)) pa_nil)) pa_nil))) (pg_tup rfl (pgs_cons (pg_name (i := 4) scLaw.nd rfl (.inr rfl)) (pgs_cons (pg_name (i := 5) scLaw.nd rfl (.inl rfl)) pgs_nil))))
 (pss_one
 (ps_for PassesOwn.never rfl (pi_list (pe_cal A.tx hr (by decide) (by rfl) (pa_cons (pe_op op_cat (pe_slice sl_list (pe_dget hu (pv 3) pe_str (fun _ _ => rfl)) po_none (po_some pe_int)) (pe_lst (pa_cons (pe_cal A.ot hr (by decide) (by rfl) (pa_cons (pv 3) pa_nil)) pa_nil))) (pa_cons pe_int pa_nil)))) (pg_name (i := 6) scLaw.nd rfl (.inr rfl)) (C8.pss_cut
 (ps_set (i := 7) scLaw.nd rfl (.inl rfl) (pe_lst pa_nil))
 (C8.pss_cut
 (ps_for PassesOwn.never rfl (pi_list (pe_dget hu (pv 3) pe_str (fun _ _ => rfl))) (pg_tup rfl (pgs_cons (pg_name (i := 8) scLaw.nd rfl (.inl rfl)) (pgs_cons (pg_name (i := 9) scLaw.nd rfl (.inl rfl)) pgs_nil))) (pss_cons
 (ps_set (i := 10) scLaw.nd rfl (.inl rfl) (pe_cal A.rd hr (by decide) (by rfl) (pa_cons (pv 5) (pa_cons (pv 8) (pa_cons (pv 6) pa_nil)))))
 (pss_cons
 (ps_if (pt_not (pt_val (pe_cal A.ir hr (by decide) (by rfl) (pa_cons (pv 5) (pa_cons (pv 8) (pa_cons (pv 6) (pa_cons (pv 10) pa_nil))))))) (pss_one
 (ps_ret pe_bl)) pss_nil)
 (pss_one
 (ps_expr (pe_bm PySem.F.plainAttrs_list PySem.F.slot_list_append PySem.F.type_list_append mt_append (pv 7) (pa_cons (pe_op op_add (pe_cal A.co hr (by decide) (by rfl) (pa_cons (pv 5) (pa_cons (pv 10) pa_nil))) (pv 9)) pa_nil)))))))
 (C8.pss_cut
 (ps_if (PW.pt (pw_or (pt_cmpR (op_neD hr.units) (pv 7) (pe_cal A.tt hr (by decide) (by rfl) (pa_cons (pv 3) (pa_cons (pv 6) pa_nil))) (nomark _)) (pw_or1 (pt_cmpR op_ne (pe_ixO (pv 4) (pv 6) A.gi hr (by decide)) (pe_cal A.me hr (by decide) (by rfl) (pa_cons (pv 3) (pa_cons (pv 6) pa_nil))) (nomark _))))) (pss_one
 (ps_ret pe_bl)) pss_nil)
 (pss_one
 (ps_if (pt_cmpR (op_neD hr.units) (pe_lc (own := [("_law_word", 8), ("_law_own", 9)]) (g := gTup K 2 (gCons (gName 8) (gCons (gName 9) gNil))) (tt := tYes) (by rfl) scLaw.nd (pi_list (pe_dget hu (pv 3) pe_str (fun _ _ => rfl))) (blkOk_by (own := [("_law_word", 8), ("_law_own", 9)]) (N := nLaw) (sc := defScope sLaw) (by decide +kernel)) (fun _ _ _ _ _ => (pg_tupK rfl rfl (pgs_cons (pg_name (i := 8) scLaw.nd rfl (.inl rfl)) (pgs_cons (pg_name (i := 9) scLaw.nd rfl (.inl rfl)) pgs_nil)))) (fun _ _ _ _ _ => pts_nil) (fun _ _ _ _ _ => (pe_mth (pv 4) A.T.cl A.to hr (by decide) (pa_cons (pv 8) (pa_cons (pv 6) pa_nil))))) (pv 7) (nomark _)) (pss_one
 (ps_ret pe_bl)) pss_nil))))))))))
 (pss_one
 (ps_ret pe_bl)))), ?_⟩
    refine ⟨_, rfl, a, ns, rfl, hS, hlen, fun d l c H1 hd hl hc D1 k1 => ?_⟩
    have hS1 := k1.l notnil hS
    have hb : ∃ n : Nat, ((1 : Int) + (if (3 : Int) < ((ns.map V.int).length : Int) then (3 : Int) else ((ns.map V.int).length : Int))) = (n : Int) ∧ n ≤ 4 := by
      rw [List.length_map]
      by_cases h : (3 : Int) < (ns.length : Int)
      · rw [if_pos h]
        exact ⟨4, rfl, by omega⟩
      · rw [if_neg h]
        exact ⟨1 + ns.length, by omega, by omega⟩
    obtain ⟨n, hn, hn30⟩ := hb
    refine ⟨_, rfl, a, _, rfl, .inl hS1, _, _, rfl, _, _, rfl, rfl, (n : Int), congrArg (fun z => [V.int z]) hn, by omega, by omega, for_range (lo := 0) (n := n)
      (fun i σ H2 => ∃ (y2 y3 y4 y5 y6 y7 y8 y9 y10 : Option V), σ = [some (.ref a), some (.ref d), y2, y3, y4, y5, y6, y7, y8, y9, y10] ∧ Dr H2 d l c)
      ⟨none, none, none, none, none, none, none, none, none, rfl, D1⟩ ?_ ?_⟩
    · rintro i σ H2 hi ⟨y2, y3, y4, y5, y6, y7, y8, y9, y10, rfl, D2⟩
      refine ⟨fun σ H3 => ∃ (y2 y4 y5 y6 y7 y8 y9 y10 : Option V) (y lt pr en : Addr) (cs : List Nat) (xs : List V) (es : List En) (e m w : Int) (s : Option Int), σ = [some (.ref a), some (.ref d), y2, some (.ref y), y4, y5, y6, y7, y8, y9, y10] ∧
        CaseI H3 y lt pr en cs xs es e m w s ∧ CaseOk 3 2 cs es e m w s ∧ CaseOff d l c y lt en ∧ Dr H3 d l c, ?_, ?_⟩
      · refine ⟨_, rfl, d, l, c, 3, 2, rfl, D2, by decide, by decide, by decide, fun y lt pr en cs xs es e m w s H3 _ _ _ _ I3 ok3 of3 D3 k3 => ?_⟩
        exact ⟨_, _, _, _, _, _, _, _, y, lt, pr, en, cs, xs, es, e, m, w, s, rfl, I3, ok3, of3, D3⟩
      · rintro σ H3 ⟨y2, y4, y5, y6, y7, y8, y9, y10, y, lt, pr, en, cs, xs, es, e, m, w, s, rfl, I3, ok3, of3, D3⟩
        refine ⟨fun σ H4 => ∃ (y6 y7 y8 y9 y10 : Option V) (xS sx : Addr), σ = [some (.ref a), some (.ref d), y2, some (.ref y), some (.ref xS), some (.ref sx), y6, y7, y8, y9, y10] ∧ MB C CS d l c y lt pr en xS sx cs xs es e m w s H4, ?_, ?_⟩
        · refine ⟨_, rfl, y, lt, pr, en, cs, xs, es, e, m, w, s, rfl, I3, ok3.pk, ok3.ok, fun xS H4 hxS sp4 k4 => ?_⟩
          have I4 := I3.kp k4
          refine ⟨_, rfl, y, .ref pr, rfl, DGet.k (k := kPri) I4.hy, pr, e, m, w, s, rfl, .inl (.inl I4.hp), ok3.pk, fun sx H5 hsx sl5 k5 => ⟨szle (by show 2 ≤ 1000000; decide), fun tp htp => ?_⟩⟩
          have k6 := k5.trans (Kp.new (o := .tup [.ref xS, .ref sx]) htp)
          refine ⟨tp, _, rfl, .inl (.inl upd_same), rfl, _, _, rfl, _, _, rfl, rfl, ?_⟩
          exact ⟨_, _, _, _, _, xS, sx, rfl, I4.kp k6, ok3, of3, (D3.keep0 k4).keep0 k6, sp4.kf k6.kf, sl5.kf (Kf.new htp)⟩
        · rintro σ H4 ⟨y6, y7, y8, y9, y10, xS, sx, rfl, M4⟩
          obtain ⟨c1, c2, hcut, hc12⟩ := cut2 cs M4.ok.c2 M4.ok.c3
          refine ⟨_, rfl, y, .ref lt, rfl, DGet.k (k := kLet) M4.I.hy, 2, rfl, lt, _, rfl, .inl (.inl M4.I.hl), fun p1 hp1 => ?_⟩
          rw [hcut]
          have k5 : Kp [] H4 (upd H4 p1 (.lst (sgs [c1, c2]))) := Kp.new hp1
          have M5 := M4.kp k5
          refine ⟨_, rfl, y, lt, pr, en, cs, xs, es, e, m, w, s, rfl, M5.I, by have := M4.ok.c3; omega, fun o H6 ho1 ho2 k6 => ⟨szle (by show 1 ≤ 1000000; decide), fun p2 hp2 => ?_⟩⟩
          have k7 : Kp [] H6 (upd H6 p2 (.lst [.str (sg o)])) := Kp.new hp2
          have M7 := (M5.kp k6).kp k7
          refine ⟨p1, p2, _, _, rfl, rfl, (k6.trans k7) _ _ upd_same notnil, upd_same, szle (by show 3 ≤ 1000000; decide), fun p3 hp3 => ?_⟩
          have k8 : Kp [] (upd H6 p2 (.lst [.str (sg o)])) (upd (upd H6 p2 (.lst [.str (sg o)])) p3 (.lst (sgs [c1, c2] ++ [.str (sg o)]))) := Kp.new hp3
          have M8 := M7.kp k8
          refine ⟨p3, [c1, c2, o], 3, rfl, .inl (.inl upd_same), (by show 3 ≤ 3; decide), by decide, fun L zs H9 hL eL tL lL k9 => ?_⟩
          have M9 := M8.kp k9
          have hLs : ∀ x ∈ [c1, c2, o], isL x := by
            intro x hx
            rcases List.mem_cons.mp hx with rfl | h
            · exact M4.ok.ca _ (hc12 _ List.mem_cons_self)
            · rcases List.mem_cons.mp h with rfl | h
              · exact M4.ok.ca _ (hc12 _ (List.mem_cons_of_mem _ List.mem_cons_self))
              · rw [List.mem_singleton.mp h]
                exact ho1
          refine ⟨L, rfl, ⟨_, .inl (.inl eL)⟩, for_list (K := K) (a := L) (xs := zs.map V.str)
            (fun k σ Ha => ∃ (y6 y7 y8 y9 y10 : Option V), σ = [some (.ref a), some (.ref d), y2, some (.ref y), some (.ref xS), some (.ref sx), y6, y7, y8, y9, y10] ∧ Kp [] H9 Ha)
            ⟨y6, y7, y8, y9, y10, rfl, Kp.rfl'⟩ ?_ ?_ ?_⟩
          · rintro k σ Ha _ ⟨y6, y7, y8, y9, y10, rfl, ka⟩
            exact .inl (.inl (ka _ _ eL notnil))
          · rintro k v σ Ha hv ⟨y6, y7, y8, y9, y10, rfl, ka⟩
            obtain ⟨z, hz, rfl⟩ : ∃ z, zs[k]? = some z ∧ v = V.str z := by
              rw [List.getElem?_map] at hv
              cases e : zs[k]? with
              | none => rw [e] at hv; cases hv
              | some y => rw [e] at hv; exact ⟨y, rfl, (Option.some.inj hv).symm⟩
            have tz0 := tL z (List.mem_of_getElem? hz)
            have tz : isT (.str z) = true := tx_of tz0.1 hLs
            have hz3 : z.length ≤ 1000 := by have := tz0.2; omega
            have Ma := M9.kp ka
            have ok := Ma.ok.ok
            have pk := Ma.ok.pk
            have hfew := ok.few
            -- totals_here = []
            refine ⟨fun σ Hb => ∃ (tl : Addr), σ = [some (.ref a), some (.ref d), y2, some (.ref y), some (.ref xS), some (.ref sx), some (.str z), some (.ref tl), y8, y9, y10] ∧ Hb tl = some (.lst []) ∧ Ha tl = none ∧ Kp [] Ha Hb, ?_, ?_⟩
            · exact ⟨szle (by show 0 ≤ 1000000; decide), fun tl htl => ⟨tl, rfl, upd_same, htl, Kp.new htl⟩⟩
            · rintro σ Hb ⟨tl, rfl, eb, htl, kb⟩
              have Mb := Ma.kp kb
              refine ⟨fun σ Hc => ∃ (y8 y9 y10 : Option V), σ = [some (.ref a), some (.ref d), y2, some (.ref y), some (.ref xS), some (.ref sx), some (.str z), some (.ref tl), y8, y9, y10] ∧ Hc tl = some (.lst ((tot (fun t => lc ⟨e, m, w, s⟩ (cd t) (cd z)) es).map V.int)) ∧ Kp [] Ha Hc, ?_, ?_⟩
              · refine ⟨_, rfl, y, .ref en, rfl, DGet.k (k := kEnt) Mb.I.hy, en, rfl, ⟨_, .inl (.inl Mb.I.he)⟩, for_list (K := K) (a := en) (xs := xs)
                  (fun k σ Hc => ∃ (y8 y9 y10 : Option V), σ = [some (.ref a), some (.ref d), y2, some (.ref y), some (.ref xS), some (.ref sx), some (.str z), some (.ref tl), y8, y9, y10] ∧ Hc tl = some (.lst (((tot (fun t => lc ⟨e, m, w, s⟩ (cd t) (cd z)) es).take k).map V.int)) ∧ Kp [] Ha Hc)
                  ⟨y8, y9, y10, rfl, eb, kb⟩ ?_ ?_ ?_⟩
                · rintro k σ Hc _ ⟨y8, y9, y10, rfl, ec, kc⟩
                  exact .inl (.inl (kc _ _ Ma.I.he notnil))
                · rintro k v σ Hc hv ⟨y8, y9, y10, rfl, ec, kc⟩
                  obtain ⟨e1, he1, p, rfl, hp⟩ := Paired.get Ma.I.hs hv
                  have ok1 := ok.all e1 (List.mem_of_getElem? he1)
                  have l5 := ok1.l5
                  refine ⟨p, _, rfl, .inl (.inl (kc _ _ hp notnil)), rfl, _, _, rfl, _, _, rfl, rfl, ?_⟩
                  refine ⟨_, rfl, _, rfl, _, rfl, sx, e, m, w, s, e1.1, z, rfl, (Ma.kp kc).SL, pk, ok1.tx, tz, by omega, hz3, fun T us rs Hd hT eT pT rT cT lT kd => ?_⟩
                  have kcd := kc.trans kd
                  refine ⟨_, rfl, _, rfl, _, rfl, _, rfl, sx, T, e, m, w, s, e1.1, z, us, rs, rfl, (Ma.kp kcd).SL, ok1.tx, tz, by omega, hz3, eT, pT, rT, lT, fun He ke => ⟨_, rfl, iteF ?_⟩⟩
                  have kce := kcd.trans ke
                  have ec2 := (kd.trans ke) _ _ ec notnil
                  refine ⟨_, rfl, .inl ⟨rfl, _, .inl (.inl ec2)⟩, _, rfl, _, rfl, sx, T, e, m, w, s, us, rs, rfl, (Ma.kp kce).SL, ke _ _ eT notnil, Paired.imp (fun _ _ h => h.kf ke.kf) pT, rT.ok, lT, fun Hf kf => ?_⟩
                  have ec3 := kf _ _ ec2 notnil
                  refine ⟨_, rfl, _, _, rfl, rfl, tl, _, _, rfl, rfl, ec3, szlt (by rw [List.length_map, List.length_take]; unfold tot; rw [List.length_map]; omega), _, _, _, rfl, ?_, (kce.trans kf).mut htl⟩
                  have hts : (tot (fun t => lc ⟨e, m, w, s⟩ (cd t) (cd z)) es)[k]? = some (cost ⟨e, m, w, s⟩ rs + e1.2) := by
                    rw [tot_at, he1, cT]
                    rfl
                  rw [upd_same, take_snoc hts, List.map_append]
                  rfl
                · rintro σ Hc ⟨y8, y9, y10, rfl, ec, kc⟩
                  rw [Paired.lens Ma.I.hs] at ec
                  rw [List.take_of_length_le (by unfold tot; rw [List.length_map]; exact Nat.le_refl _)] at ec
                  exact ⟨_, _, _, rfl, ec, kc⟩
              · rintro σ Hc ⟨y8, y9, y10, rfl, ec, kc⟩
                have Mc := Ma.kp kc
                refine ⟨fun σ Hd => σ = [some (.ref a), some (.ref d), y2, some (.ref y), some (.ref xS), some (.ref sx), some (.str z), some (.ref tl), y8, y9, y10] ∧ Kp [] Hc Hd, ?_, ?_⟩
                · refine ⟨_, rfl, _, rfl, _, rfl, y, lt, pr, en, cs, xs, es, e, m, w, s, z, rfl, Mc.I, pk, ok, hz3, fun L2 Hd hL2 e2 kd => ?_⟩
                  refine ⟨_, _, .lst (.inl (.inl (kd _ _ ec notnil))) (dpInts _), .lst (.inl (.inl e2)) (dpInts _), shapedInts _, shapedInts _, _, rfl, ?_⟩
                  rw [eqvSame]
                  refine iteF ?_
                  obtain ⟨dx, tp, sx2, xs2, hi1, _⟩ := id (Mc.kp kd).SP
                  refine ⟨_, rfl, _, rfl, xS, dx, _, rfl, hi1, xS, es, e, m, w, s, z, rfl, (Mc.kp kd).SP, ok, pk, tz, hz3, fun He ke => ?_⟩
                  refine ⟨_, rfl, _, rfl, y, lt, pr, en, cs, xs, es, e, m, w, s, z, rfl, ((Mc.kp kd).kp ke).I, pk, ok, hz3, fun Hf kf => ?_⟩
                  have kk := kd.trans (ke.trans kf)
                  cases mw (fun t => lc ⟨e, m, w, s⟩ (cd t) (cd z)) es with
                  | none => exact ⟨rfl, _, rfl, iteF ⟨rfl, kk⟩⟩
                  | some z' =>
                    refine ⟨rfl, _, rfl, ?_⟩
                    rw [show decide (optS (some z') = optS (some z')) = true from decide_eq_true rfl]
                    exact iteF ⟨rfl, kk⟩
                · rintro σ Hd ⟨rfl, kd⟩
                  have Md := Mc.kp kd
                  refine ⟨_, rfl, y, .ref en, rfl, DGet.k (k := kEnt) Md.I.hy, en, rfl, ⟨_, .inl (.inl Md.I.he)⟩, fun N hN => lc_it (walk_list (K := K) (a := en) (xs := xs))
                    (fun k He => He N = some (.lst (((tot (fun t => lc ⟨e, m, w, s⟩ (cd t) (cd z)) es).take k).map V.int)) ∧ Kp [] Hd He) ⟨upd_same, Kp.new hN⟩ (fun k He _ he => .inl (.inl (he.2 _ _ Md.I.he notnil))) ?_ ?_⟩
                  · rintro k v He Hf hk ⟨ee, ke⟩ ⟨rfl, hv⟩
                    obtain ⟨e1, he1, p, rfl, hp⟩ := Paired.get Md.I.hs hv
                    have Me := Md.kp ke
                    obtain ⟨dx, tp, sx2, xs2, hi1, _⟩ := id Me.SP
                    have hk4 : k < es.length := (List.getElem?_eq_some_iff.mp he1).1
                    refine ⟨p, _, rfl, .inl (.inl (ke _ _ hp notnil)), rfl, _, _, rfl, _, _, rfl, rfl, rfl, yes1 ?_⟩
                    refine ⟨_, rfl, xS, dx, _, rfl, hi1, rfl, _, rfl, _, rfl, xS, es, e, m, w, s, k, e1, z, rfl, Me.SP, ok, pk, he1, tz, hz3, fun Hg kg => ?_⟩
                    refine ⟨_, kg _ _ ee notnil, szlt (by rw [List.length_map, List.length_take]; unfold tot; rw [List.length_map]; omega), ?_, (ke.trans kg).mut hN⟩
                    have hts : (tot (fun t => lc ⟨e, m, w, s⟩ (cd t) (cd z)) es)[k]? = some (lc ⟨e, m, w, s⟩ (cd e1.1) (cd z) + e1.2) := by
                      rw [tot_at, he1]
                      rfl
                    rw [upd_same, take_snoc hts, List.map_append]
                    rfl
                  · rintro He ⟨ee, ke⟩
                    rw [Paired.lens Md.I.hs] at ee
                    rw [List.take_of_length_le (by unfold tot; rw [List.length_map]; exact Nat.le_refl _)] at ee
                    refine ⟨_, rfl, _, _, .lst (.inl (.inl ee)) (dpInts _), .lst (.inl (.inl ((kd.trans ke) _ _ ec notnil))) (dpInts _), shapedInts _, shapedInts _, _, rfl, ?_⟩
                    rw [eqvSame]
                    exact iteF ⟨_, _, _, _, _, rfl, ka.trans (kc.trans (kd.trans ke))⟩
          · rintro σ Ha ⟨y6, y7, y8, y9, y10, rfl, ka⟩
            exact ⟨_, _, _, _, _, _, _, _, _, rfl, (M9.kp ka).D⟩
    · rintro σ H2 ⟨y2, y3, y4, y5, y6, y7, y8, y9, y10, rfl, D2⟩
      exact q H2
end
end G69
namespace G69
open PySem PySem.Spec PyProof.Rows L2
abbrev sG_extra : Stmt := inClass (topS 18) 1
theorem scG_extra : FnScope ["self"] ["self"] (defScope sG_extra) := ⟨rfl, rfl, rfl, by decide +kernel, rfl, by decide +kernel, by decide +kernel⟩
abbrev sG_missing : Stmt := inClass (topS 18) 2
theorem scG_missing : FnScope ["self"] ["self"] (defScope sG_missing) := ⟨rfl, rfl, rfl, by decide +kernel, rfl, by decide +kernel, by decide +kernel⟩
abbrev sG_wrong : Stmt := inClass (topS 18) 3
theorem scG_wrong : FnScope ["self"] ["self"] (defScope sG_wrong) := ⟨rfl, rfl, rfl, by decide +kernel, rfl, by decide +kernel, by decide +kernel⟩
abbrev sG_swapped : Stmt := inClass (topS 18) 4
theorem scG_swapped : FnScope ["self"] ["self"] (defScope sG_swapped) := ⟨rfl, rfl, rfl, by decide +kernel, rfl, by decide +kernel, by decide +kernel⟩
set_option maxHeartbeats 0 in
theorem all_mk {l : PySem.W.OpenLaw} {w : World} {K : PySem.W.Frag} {h : Heap} {mg : Str → Option Value} {fa : Addr} (X : K.In h) (G : h.Ns mainGlobals mg) (hfa : mg "law" = some (.ref fa))
    {fBegin : Addr} {odBegin anBegin : Option Addr} {slBegin : Array (Option Value)} {ocBegin kVBegin dcBegin pmBegin cdBegin ctBegin : Value}
    {fTake : Addr} {odTake anTake : Option Addr} {slTake : Array (Option Value)} {ocTake kVTake dcTake pmTake cdTake ctTake : Value}
    {fPick : Addr} {odPick anPick : Option Addr} {slPick : Array (Option Value)} {ocPick kVPick dcPick pmPick cdPick ctPick : Value}
    {fIsInt : Addr} {odIsInt anIsInt : Option Addr} {slIsInt : Array (Option Value)} {ocIsInt kVIsInt dcIsInt pmIsInt cdIsInt ctIsInt : Value}
    {fIsText : Addr} {odIsText anIsText : Option Addr} {slIsText : Array (Option Value)} {ocIsText kVIsText dcIsText pmIsText cdIsText ctIsText : Value}
    {fIsPrice : Addr} {odIsPrice anIsPrice : Option Addr} {slIsPrice : Array (Option Value)} {ocIsPrice kVIsPrice dcIsPrice pmIsPrice cdIsPrice ctIsPrice : Value}
    {fNeed : Addr} {odNeed anNeed : Option Addr} {slNeed : Array (Option Value)} {ocNeed kVNeed dcNeed pmNeed cdNeed ctNeed : Value}
    {fLast : Addr} {odLast anLast : Option Addr} {slLast : Array (Option Value)} {ocLast kVLast dcLast pmLast cdLast ctLast : Value}
    {fStepP : Addr} {odStepP anStepP : Option Addr} {slStepP : Array (Option Value)} {ocStepP kVStepP dcStepP pmStepP cdStepP ctStepP : Value}
    {fLines : Addr} {odLines anLines : Option Addr} {slLines : Array (Option Value)} {ocLines kVLines dcLines pmLines cdLines ctLines : Value}
    {fPrice : Addr} {odPrice anPrice : Option Addr} {slPrice : Array (Option Value)} {ocPrice kVPrice dcPrice pmPrice cdPrice ctPrice : Value}
    {fIsWord : Addr} {odIsWord anIsWord : Option Addr} {slIsWord : Array (Option Value)} {ocIsWord kVIsWord dcIsWord pmIsWord cdIsWord ctIsWord : Value}
    {fIsOwn : Addr} {odIsOwn anIsOwn : Option Addr} {slIsOwn : Array (Option Value)} {ocIsOwn kVIsOwn dcIsOwn pmIsOwn cdIsOwn ctIsOwn : Value}
    {fIsEntry : Addr} {odIsEntry anIsEntry : Option Addr} {slIsEntry : Array (Option Value)} {ocIsEntry kVIsEntry dcIsEntry pmIsEntry cdIsEntry ctIsEntry : Value}
    {fNeedE : Addr} {odNeedE anNeedE : Option Addr} {slNeedE : Array (Option Value)} {ocNeedE kVNeedE dcNeedE pmNeedE cdNeedE ctNeedE : Value}
    {fPlace : Addr} {odPlace anPlace : Option Addr} {slPlace : Array (Option Value)} {ocPlace kVPlace dcPlace pmPlace cdPlace ctPlace : Value}
    {fRank : Addr} {odRank anRank : Option Addr} {slRank : Array (Option Value)} {ocRank kVRank dcRank pmRank cdRank ctRank : Value}
    {fMeant : Addr} {odMeant anMeant : Option Addr} {slMeant : Array (Option Value)} {ocMeant kVMeant dcMeant pmMeant cdMeant ctMeant : Value}
    {fRead : Addr} {odRead anRead : Option Addr} {slRead : Array (Option Value)} {ocRead kVRead dcRead pmRead cdRead ctRead : Value}
    {fIsLet : Addr} {odIsLet anIsLet : Option Addr} {slIsLet : Array (Option Value)} {ocIsLet kVIsLet dcIsLet pmIsLet cdIsLet ctIsLet : Value}
    {fIsStep : Addr} {odIsStep anIsStep : Option Addr} {slIsStep : Array (Option Value)} {ocIsStep kVIsStep dcIsStep pmIsStep cdIsStep ctIsStep : Value}
    {fMeL : Addr} {odMeL anMeL : Option Addr} {slMeL : Array (Option Value)} {ocMeL kVMeL dcMeL pmMeL cdMeL ctMeL : Value}
    {fKeL : Addr} {odKeL anKeL : Option Addr} {slKeL : Array (Option Value)} {ocKeL kVKeL dcKeL pmKeL cdKeL ctKeL : Value}
    {fCost : Addr} {odCost anCost : Option Addr} {slCost : Array (Option Value)} {ocCost kVCost dcCost pmCost cdCost ctCost : Value}
    {fIsRd : Addr} {odIsRd anIsRd : Option Addr} {slIsRd : Array (Option Value)} {ocIsRd kVIsRd dcIsRd pmIsRd cdIsRd ctIsRd : Value}
    {fLett : Addr} {odLett anLett : Option Addr} {slLett : Array (Option Value)} {ocLett kVLett dcLett pmLett cdLett ctLett : Value}
    {fString : Addr} {odString anString : Option Addr} {slString : Array (Option Value)} {ocString kVString dcString pmString cdString ctString : Value}
    {fLPr : Addr} {odLPr anLPr : Option Addr} {slLPr : Array (Option Value)} {ocLPr kVLPr dcLPr pmLPr cdLPr ctLPr : Value}
    {fCase : Addr} {odCase anCase : Option Addr} {slCase : Array (Option Value)} {ocCase kVCase dcCase pmCase cdCase ctCase : Value}
    {fLSlips : Addr} {odLSlips anLSlips : Option Addr} {slLSlips : Array (Option Value)} {ocLSlips kVLSlips dcLSlips pmLSlips cdLSlips ctLSlips : Value}
    {fSpe : Addr} {odSpe anSpe : Option Addr} {slSpe : Array (Option Value)} {ocSpe kVSpe dcSpe pmSpe cdSpe ctSpe : Value}
    {fOth : Addr} {odOth anOth : Option Addr} {slOth : Array (Option Value)} {ocOth kVOth dcOth pmOth cdOth ctOth : Value}
    {fLPrice : Addr} {odLPrice anLPrice : Option Addr} {slLPrice : Array (Option Value)} {ocLPrice kVLPrice dcLPrice pmLPrice cdLPrice ctLPrice : Value}
    {fTots : Addr} {odTots anTots : Option Addr} {slTots : Array (Option Value)} {ocTots kVTots dcTots pmTots cdTots ctTots : Value}
    {fLMe : Addr} {odLMe anLMe : Option Addr} {slLMe : Array (Option Value)} {ocLMe kVLMe dcLMe pmLMe cdLMe ctLMe : Value}
    {fTexts : Addr} {odTexts anTexts : Option Addr} {slTexts : Array (Option Value)} {ocTexts kVTexts dcTexts pmTexts cdTexts ctTexts : Value}
    {fLaw : Addr} {odLaw anLaw : Option Addr} {slLaw : Array (Option Value)} {ocLaw kVLaw dcLaw pmLaw cdLaw ctLaw : Value}
    {tkLETTERS : Tok}
    {tkDEAREST : Tok}
    {tkLONGEST : Tok}
    {tkDEAREST_OWN : Tok}
    {tkMOST_WORDS : Tok}
    {C : Addr}
    {fSI : Addr} {odSI anSI : Option Addr} {slSI : Array (Option Value)} {ocSI kVSI dcSI pmSI cdSI ctSI : Value}
    {DSI : Addr} {tkE tkM tkW : Tok}
    {pPextra : Addr} {restPextra : List Value}
    {fPextra : Addr} {odPextra anPextra : Option Addr} {slPextra : Array (Option Value)} {ocPextra kVPextra dcPextra pmPextra cdPextra ctPextra : Value}
    {pPmissing : Addr} {restPmissing : List Value}
    {fPmissing : Addr} {odPmissing anPmissing : Option Addr} {slPmissing : Array (Option Value)} {ocPmissing kVPmissing dcPmissing pmPmissing cdPmissing ctPmissing : Value}
    {pPwrong : Addr} {restPwrong : List Value}
    {fPwrong : Addr} {odPwrong anPwrong : Option Addr} {slPwrong : Array (Option Value)} {ocPwrong kVPwrong dcPwrong pmPwrong cdPwrong ctPwrong : Value}
    {pPswapped : Addr} {restPswapped : List Value}
    {fPswapped : Addr} {odPswapped anPswapped : Option Addr} {slPswapped : Array (Option Value)} {ocPswapped kVPswapped dcPswapped pmPswapped cdPswapped ctPswapped : Value}
    {CS : Addr}
    {dVPI : Value} {TPI nTPI : Nat} {ocT : Value} {odT : Option Addr} {slT : Array (Option Value)}
    {fPI : Addr} {odPI anPI : Option Addr} {slPI : Array (Option Value)} {ocPI kVPI dcPI pmPI cdPI ctPI : Value}
    {fGetI : Addr} {odGetI anGetI : Option Addr} {slGetI : Array (Option Value)} {ocGetI kVGetI dcGetI pmGetI cdGetI ctGetI : Value}
    {fTotal : Addr} {odTotal anTotal : Option Addr} {slTotal : Array (Option Value)} {ocTotal kVTotal dcTotal pmTotal cdTotal ctTotal : Value}
    (aBegin : PySem.W.nsIn K mainGlobals "_law_begin" = some (some (.ref fBegin)))
    (lBegin : K.lookup fBegin = some ⟨ocBegin, odBegin, .func (PySem.W.fnOf "_law_begin" "_law_begin" (defArgs sBegin) (defBody sBegin) (defScope sBegin) .none kVBegin dcBegin pmBegin anBegin cdBegin ctBegin), slBegin⟩)
    (cBegin : PySem.W.codeIn K cdBegin "_law_begin" = true)
    (kBegin : PySem.W.keepIn K (.ref fBegin) = true)
    (aTake : PySem.W.nsIn K mainGlobals "_law_take" = some (some (.ref fTake)))
    (lTake : K.lookup fTake = some ⟨ocTake, odTake, .func (PySem.W.fnOf "_law_take" "_law_take" (defArgs sTake) (defBody sTake) (defScope sTake) .none kVTake dcTake pmTake anTake cdTake ctTake), slTake⟩)
    (cTake : PySem.W.codeIn K cdTake "_law_take" = true)
    (kTake : PySem.W.keepIn K (.ref fTake) = true)
    (aPick : PySem.W.nsIn K mainGlobals "_law_pick" = some (some (.ref fPick)))
    (lPick : K.lookup fPick = some ⟨ocPick, odPick, .func (PySem.W.fnOf "_law_pick" "_law_pick" (defArgs sPick) (defBody sPick) (defScope sPick) .none kVPick dcPick pmPick anPick cdPick ctPick), slPick⟩)
    (cPick : PySem.W.codeIn K cdPick "_law_pick" = true)
    (kPick : PySem.W.keepIn K (.ref fPick) = true)
    (aIsInt : PySem.W.nsIn K mainGlobals "is_integer" = some (some (.ref fIsInt)))
    (lIsInt : K.lookup fIsInt = some ⟨ocIsInt, odIsInt, .func (PySem.W.fnOf "is_integer" "is_integer" (defArgs sIsInt) (defBody sIsInt) (defScope sIsInt) .none kVIsInt dcIsInt pmIsInt anIsInt cdIsInt ctIsInt), slIsInt⟩)
    (cIsInt : PySem.W.codeIn K cdIsInt "is_integer" = true)
    (kIsInt : PySem.W.keepIn K (.ref fIsInt) = true)
    (aIsText : PySem.W.nsIn K mainGlobals "is_text" = some (some (.ref fIsText)))
    (lIsText : K.lookup fIsText = some ⟨ocIsText, odIsText, .func (PySem.W.fnOf "is_text" "is_text" (defArgs sIsText) (defBody sIsText) (defScope sIsText) .none kVIsText dcIsText pmIsText anIsText cdIsText ctIsText), slIsText⟩)
    (cIsText : PySem.W.codeIn K cdIsText "is_text" = true)
    (kIsText : PySem.W.keepIn K (.ref fIsText) = true)
    (aIsPrice : PySem.W.nsIn K mainGlobals "is_price" = some (some (.ref fIsPrice)))
    (lIsPrice : K.lookup fIsPrice = some ⟨ocIsPrice, odIsPrice, .func (PySem.W.fnOf "is_price" "is_price" (defArgs sIsPrice) (defBody sIsPrice) (defScope sIsPrice) .none kVIsPrice dcIsPrice pmIsPrice anIsPrice cdIsPrice ctIsPrice), slIsPrice⟩)
    (cIsPrice : PySem.W.codeIn K cdIsPrice "is_price" = true)
    (kIsPrice : PySem.W.keepIn K (.ref fIsPrice) = true)
    (aNeed : PySem.W.nsIn K mainGlobals "need_text" = some (some (.ref fNeed)))
    (lNeed : K.lookup fNeed = some ⟨ocNeed, odNeed, .func (PySem.W.fnOf "need_text" "need_text" (defArgs sNeed) (defBody sNeed) (defScope sNeed) .none kVNeed dcNeed pmNeed anNeed cdNeed ctNeed), slNeed⟩)
    (cNeed : PySem.W.codeIn K cdNeed "need_text" = true)
    (kNeed : PySem.W.keepIn K (.ref fNeed) = true)
    (aLast : PySem.W.nsIn K mainGlobals "last_steps" = some (some (.ref fLast)))
    (lLast : K.lookup fLast = some ⟨ocLast, odLast, .func (PySem.W.fnOf "last_steps" "last_steps" (defArgs sLast) (defBody sLast) (defScope sLast) .none kVLast dcLast pmLast anLast cdLast ctLast), slLast⟩)
    (cLast : PySem.W.codeIn K cdLast "last_steps" = true)
    (kLast : PySem.W.keepIn K (.ref fLast) = true)
    (aStepP : PySem.W.nsIn K mainGlobals "step_price" = some (some (.ref fStepP)))
    (lStepP : K.lookup fStepP = some ⟨ocStepP, odStepP, .func (PySem.W.fnOf "step_price" "step_price" (defArgs sStepP) (defBody sStepP) (defScope sStepP) .none kVStepP dcStepP pmStepP anStepP cdStepP ctStepP), slStepP⟩)
    (cStepP : PySem.W.codeIn K cdStepP "step_price" = true)
    (kStepP : PySem.W.keepIn K (.ref fStepP) = true)
    (aLines : PySem.W.nsIn K mainGlobals "price_lines" = some (some (.ref fLines)))
    (lLines : K.lookup fLines = some ⟨ocLines, odLines, .func (PySem.W.fnOf "price_lines" "price_lines" (defArgs sLines) (defBody sLines) (defScope sLines) .none kVLines dcLines pmLines anLines cdLines ctLines), slLines⟩)
    (cLines : PySem.W.codeIn K cdLines "price_lines" = true)
    (kLines : PySem.W.keepIn K (.ref fLines) = true)
    (aPrice : PySem.W.nsIn K mainGlobals "price" = some (some (.ref fPrice)))
    (lPrice : K.lookup fPrice = some ⟨ocPrice, odPrice, .func (PySem.W.fnOf "price" "price" (defArgs sPrice) (defBody sPrice) (defScope sPrice) .none kVPrice dcPrice pmPrice anPrice cdPrice ctPrice), slPrice⟩)
    (cPrice : PySem.W.codeIn K cdPrice "price" = true)
    (kPrice : PySem.W.keepIn K (.ref fPrice) = true)
    (aIsWord : PySem.W.nsIn K mainGlobals "is_word" = some (some (.ref fIsWord)))
    (lIsWord : K.lookup fIsWord = some ⟨ocIsWord, odIsWord, .func (PySem.W.fnOf "is_word" "is_word" (defArgs sIsWord) (defBody sIsWord) (defScope sIsWord) .none kVIsWord dcIsWord pmIsWord anIsWord cdIsWord ctIsWord), slIsWord⟩)
    (cIsWord : PySem.W.codeIn K cdIsWord "is_word" = true)
    (kIsWord : PySem.W.keepIn K (.ref fIsWord) = true)
    (aIsOwn : PySem.W.nsIn K mainGlobals "is_own" = some (some (.ref fIsOwn)))
    (lIsOwn : K.lookup fIsOwn = some ⟨ocIsOwn, odIsOwn, .func (PySem.W.fnOf "is_own" "is_own" (defArgs sIsOwn) (defBody sIsOwn) (defScope sIsOwn) .none kVIsOwn dcIsOwn pmIsOwn anIsOwn cdIsOwn ctIsOwn), slIsOwn⟩)
    (cIsOwn : PySem.W.codeIn K cdIsOwn "is_own" = true)
    (kIsOwn : PySem.W.keepIn K (.ref fIsOwn) = true)
    (aIsEntry : PySem.W.nsIn K mainGlobals "is_entry" = some (some (.ref fIsEntry)))
    (lIsEntry : K.lookup fIsEntry = some ⟨ocIsEntry, odIsEntry, .func (PySem.W.fnOf "is_entry" "is_entry" (defArgs sIsEntry) (defBody sIsEntry) (defScope sIsEntry) .none kVIsEntry dcIsEntry pmIsEntry anIsEntry cdIsEntry ctIsEntry), slIsEntry⟩)
    (cIsEntry : PySem.W.codeIn K cdIsEntry "is_entry" = true)
    (kIsEntry : PySem.W.keepIn K (.ref fIsEntry) = true)
    (aNeedE : PySem.W.nsIn K mainGlobals "need_entries" = some (some (.ref fNeedE)))
    (lNeedE : K.lookup fNeedE = some ⟨ocNeedE, odNeedE, .func (PySem.W.fnOf "need_entries" "need_entries" (defArgs sNeedE) (defBody sNeedE) (defScope sNeedE) .none kVNeedE dcNeedE pmNeedE anNeedE cdNeedE ctNeedE), slNeedE⟩)
    (cNeedE : PySem.W.codeIn K cdNeedE "need_entries" = true)
    (kNeedE : PySem.W.keepIn K (.ref fNeedE) = true)
    (aPlace : PySem.W.nsIn K mainGlobals "place_of" = some (some (.ref fPlace)))
    (lPlace : K.lookup fPlace = some ⟨ocPlace, odPlace, .func (PySem.W.fnOf "place_of" "place_of" (defArgs sPlace) (defBody sPlace) (defScope sPlace) .none kVPlace dcPlace pmPlace anPlace cdPlace ctPlace), slPlace⟩)
    (cPlace : PySem.W.codeIn K cdPlace "place_of" = true)
    (kPlace : PySem.W.keepIn K (.ref fPlace) = true)
    (aRank : PySem.W.nsIn K mainGlobals "ranking_of" = some (some (.ref fRank)))
    (lRank : K.lookup fRank = some ⟨ocRank, odRank, .func (PySem.W.fnOf "ranking_of" "ranking_of" (defArgs sRank) (defBody sRank) (defScope sRank) .none kVRank dcRank pmRank anRank cdRank ctRank), slRank⟩)
    (cRank : PySem.W.codeIn K cdRank "ranking_of" = true)
    (kRank : PySem.W.keepIn K (.ref fRank) = true)
    (aMeant : PySem.W.nsIn K mainGlobals "meant_word" = some (some (.ref fMeant)))
    (lMeant : K.lookup fMeant = some ⟨ocMeant, odMeant, .func (PySem.W.fnOf "meant_word" "meant_word" (defArgs sMeant) (defBody sMeant) (defScope sMeant) .none kVMeant dcMeant pmMeant anMeant cdMeant ctMeant), slMeant⟩)
    (cMeant : PySem.W.codeIn K cdMeant "meant_word" = true)
    (kMeant : PySem.W.keepIn K (.ref fMeant) = true)
    (aRead : PySem.W.nsIn K mainGlobals "reading" = some (some (.ref fRead)))
    (lRead : K.lookup fRead = some ⟨ocRead, odRead, .func (PySem.W.fnOf "reading" "reading" (defArgs sRead) (defBody sRead) (defScope sRead) .none kVRead dcRead pmRead anRead cdRead ctRead), slRead⟩)
    (cRead : PySem.W.codeIn K cdRead "reading" = true)
    (kRead : PySem.W.keepIn K (.ref fRead) = true)
    (aIsLet : PySem.W.nsIn K mainGlobals "is_letter" = some (some (.ref fIsLet)))
    (lIsLet : K.lookup fIsLet = some ⟨ocIsLet, odIsLet, .func (PySem.W.fnOf "is_letter" "is_letter" (defArgs sIsLet) (defBody sIsLet) (defScope sIsLet) .none kVIsLet dcIsLet pmIsLet anIsLet cdIsLet ctIsLet), slIsLet⟩)
    (cIsLet : PySem.W.codeIn K cdIsLet "is_letter" = true)
    (kIsLet : PySem.W.keepIn K (.ref fIsLet) = true)
    (aIsStep : PySem.W.nsIn K mainGlobals "is_step" = some (some (.ref fIsStep)))
    (lIsStep : K.lookup fIsStep = some ⟨ocIsStep, odIsStep, .func (PySem.W.fnOf "is_step" "is_step" (defArgs sIsStep) (defBody sIsStep) (defScope sIsStep) .none kVIsStep dcIsStep pmIsStep anIsStep cdIsStep ctIsStep), slIsStep⟩)
    (cIsStep : PySem.W.codeIn K cdIsStep "is_step" = true)
    (kIsStep : PySem.W.keepIn K (.ref fIsStep) = true)
    (aMeL : PySem.W.nsIn K mainGlobals "meant_letters" = some (some (.ref fMeL)))
    (lMeL : K.lookup fMeL = some ⟨ocMeL, odMeL, .func (PySem.W.fnOf "meant_letters" "meant_letters" (defArgs sMeL) (defBody sMeL) (defScope sMeL) .none kVMeL dcMeL pmMeL anMeL cdMeL ctMeL), slMeL⟩)
    (cMeL : PySem.W.codeIn K cdMeL "meant_letters" = true)
    (kMeL : PySem.W.keepIn K (.ref fMeL) = true)
    (aKeL : PySem.W.nsIn K mainGlobals "keyed_letters" = some (some (.ref fKeL)))
    (lKeL : K.lookup fKeL = some ⟨ocKeL, odKeL, .func (PySem.W.fnOf "keyed_letters" "keyed_letters" (defArgs sKeL) (defBody sKeL) (defScope sKeL) .none kVKeL dcKeL pmKeL anKeL cdKeL ctKeL), slKeL⟩)
    (cKeL : PySem.W.codeIn K cdKeL "keyed_letters" = true)
    (kKeL : PySem.W.keepIn K (.ref fKeL) = true)
    (aCost : PySem.W.nsIn K mainGlobals "cost" = some (some (.ref fCost)))
    (lCost : K.lookup fCost = some ⟨ocCost, odCost, .func (PySem.W.fnOf "cost" "cost" (defArgs sCost) (defBody sCost) (defScope sCost) .none kVCost dcCost pmCost anCost cdCost ctCost), slCost⟩)
    (cCost : PySem.W.codeIn K cdCost "cost" = true)
    (kCost : PySem.W.keepIn K (.ref fCost) = true)
    (aIsRd : PySem.W.nsIn K mainGlobals "is_reading" = some (some (.ref fIsRd)))
    (lIsRd : K.lookup fIsRd = some ⟨ocIsRd, odIsRd, .func (PySem.W.fnOf "is_reading" "is_reading" (defArgs sIsRd) (defBody sIsRd) (defScope sIsRd) .none kVIsRd dcIsRd pmIsRd anIsRd cdIsRd ctIsRd), slIsRd⟩)
    (cIsRd : PySem.W.codeIn K cdIsRd "is_reading" = true)
    (kIsRd : PySem.W.keepIn K (.ref fIsRd) = true)
    (aLett : PySem.W.nsIn K mainGlobals "_law_letters" = some (some (.ref fLett)))
    (lLett : K.lookup fLett = some ⟨ocLett, odLett, .func (PySem.W.fnOf "_law_letters" "_law_letters" (defArgs sLett) (defBody sLett) (defScope sLett) .none kVLett dcLett pmLett anLett cdLett ctLett), slLett⟩)
    (cLett : PySem.W.codeIn K cdLett "_law_letters" = true)
    (kLett : PySem.W.keepIn K (.ref fLett) = true)
    (aString : PySem.W.nsIn K mainGlobals "_law_string" = some (some (.ref fString)))
    (lString : K.lookup fString = some ⟨ocString, odString, .func (PySem.W.fnOf "_law_string" "_law_string" (defArgs sString) (defBody sString) (defScope sString) .none kVString dcString pmString anString cdString ctString), slString⟩)
    (cString : PySem.W.codeIn K cdString "_law_string" = true)
    (kString : PySem.W.keepIn K (.ref fString) = true)
    (aLPr : PySem.W.nsIn K mainGlobals "_law_prices" = some (some (.ref fLPr)))
    (lLPr : K.lookup fLPr = some ⟨ocLPr, odLPr, .func (PySem.W.fnOf "_law_prices" "_law_prices" (defArgs sLPr) (defBody sLPr) (defScope sLPr) .none kVLPr dcLPr pmLPr anLPr cdLPr ctLPr), slLPr⟩)
    (cLPr : PySem.W.codeIn K cdLPr "_law_prices" = true)
    (kLPr : PySem.W.keepIn K (.ref fLPr) = true)
    (aCase : PySem.W.nsIn K mainGlobals "_law_case" = some (some (.ref fCase)))
    (lCase : K.lookup fCase = some ⟨ocCase, odCase, .func (PySem.W.fnOf "_law_case" "_law_case" (defArgs sCase) (defBody sCase) (defScope sCase) .none kVCase dcCase pmCase anCase cdCase ctCase), slCase⟩)
    (cCase : PySem.W.codeIn K cdCase "_law_case" = true)
    (kCase : PySem.W.keepIn K (.ref fCase) = true)
    (aLSlips : PySem.W.nsIn K mainGlobals "_law_slips" = some (some (.ref fLSlips)))
    (lLSlips : K.lookup fLSlips = some ⟨ocLSlips, odLSlips, .func (PySem.W.fnOf "_law_slips" "_law_slips" (defArgs sLSlips) (defBody sLSlips) (defScope sLSlips) .none kVLSlips dcLSlips pmLSlips anLSlips cdLSlips ctLSlips), slLSlips⟩)
    (cLSlips : PySem.W.codeIn K cdLSlips "_law_slips" = true)
    (kLSlips : PySem.W.keepIn K (.ref fLSlips) = true)
    (aSpe : PySem.W.nsIn K mainGlobals "_law_speller" = some (some (.ref fSpe)))
    (lSpe : K.lookup fSpe = some ⟨ocSpe, odSpe, .func (PySem.W.fnOf "_law_speller" "_law_speller" (defArgs sSpe) (defBody sSpe) (defScope sSpe) .none kVSpe dcSpe pmSpe anSpe cdSpe ctSpe), slSpe⟩)
    (cSpe : PySem.W.codeIn K cdSpe "_law_speller" = true)
    (kSpe : PySem.W.keepIn K (.ref fSpe) = true)
    (aOth : PySem.W.nsIn K mainGlobals "_law_other_letter" = some (some (.ref fOth)))
    (lOth : K.lookup fOth = some ⟨ocOth, odOth, .func (PySem.W.fnOf "_law_other_letter" "_law_other_letter" (defArgs sOth) (defBody sOth) (defScope sOth) .none kVOth dcOth pmOth anOth cdOth ctOth), slOth⟩)
    (cOth : PySem.W.codeIn K cdOth "_law_other_letter" = true)
    (kOth : PySem.W.keepIn K (.ref fOth) = true)
    (aLPrice : PySem.W.nsIn K mainGlobals "_law_price" = some (some (.ref fLPrice)))
    (lLPrice : K.lookup fLPrice = some ⟨ocLPrice, odLPrice, .func (PySem.W.fnOf "_law_price" "_law_price" (defArgs sLPrice) (defBody sLPrice) (defScope sLPrice) .none kVLPrice dcLPrice pmLPrice anLPrice cdLPrice ctLPrice), slLPrice⟩)
    (cLPrice : PySem.W.codeIn K cdLPrice "_law_price" = true)
    (kLPrice : PySem.W.keepIn K (.ref fLPrice) = true)
    (aTots : PySem.W.nsIn K mainGlobals "_law_totals" = some (some (.ref fTots)))
    (lTots : K.lookup fTots = some ⟨ocTots, odTots, .func (PySem.W.fnOf "_law_totals" "_law_totals" (defArgs sTots) (defBody sTots) (defScope sTots) .none kVTots dcTots pmTots anTots cdTots ctTots), slTots⟩)
    (cTots : PySem.W.codeIn K cdTots "_law_totals" = true)
    (kTots : PySem.W.keepIn K (.ref fTots) = true)
    (aLMe : PySem.W.nsIn K mainGlobals "_law_meant" = some (some (.ref fLMe)))
    (lLMe : K.lookup fLMe = some ⟨ocLMe, odLMe, .func (PySem.W.fnOf "_law_meant" "_law_meant" (defArgs sLMe) (defBody sLMe) (defScope sLMe) .none kVLMe dcLMe pmLMe anLMe cdLMe ctLMe), slLMe⟩)
    (cLMe : PySem.W.codeIn K cdLMe "_law_meant" = true)
    (kLMe : PySem.W.keepIn K (.ref fLMe) = true)
    (aTexts : PySem.W.nsIn K mainGlobals "_law_texts" = some (some (.ref fTexts)))
    (lTexts : K.lookup fTexts = some ⟨ocTexts, odTexts, .func (PySem.W.fnOf "_law_texts" "_law_texts" (defArgs sTexts) (defBody sTexts) (defScope sTexts) .none kVTexts dcTexts pmTexts anTexts cdTexts ctTexts), slTexts⟩)
    (cTexts : PySem.W.codeIn K cdTexts "_law_texts" = true)
    (kTexts : PySem.W.keepIn K (.ref fTexts) = true)
    (aLaw : PySem.W.nsIn K mainGlobals "law" = some (some (.ref fLaw)))
    (lLaw : K.lookup fLaw = some ⟨ocLaw, odLaw, .func (PySem.W.fnOf "law" "law" (defArgs sLaw) (defBody sLaw) (defScope sLaw) .none kVLaw dcLaw pmLaw anLaw cdLaw ctLaw), slLaw⟩)
    (cLaw : PySem.W.codeIn K cdLaw "law" = true)
    (kLaw : PySem.W.keepIn K (.ref fLaw) = true)
    (z_abs : PySem.W.nsIn K mainGlobals "abs" = some none)
    (z_all : PySem.W.nsIn K mainGlobals "all" = some none)
    (z_any : PySem.W.nsIn K mainGlobals "any" = some none)
    (z_bool : PySem.W.nsIn K mainGlobals "bool" = some none)
    (z_dict : PySem.W.nsIn K mainGlobals "dict" = some none)
    (z_divmod : PySem.W.nsIn K mainGlobals "divmod" = some none)
    (z_enumerate : PySem.W.nsIn K mainGlobals "enumerate" = some none)
    (z_int : PySem.W.nsIn K mainGlobals "int" = some none)
    (z_isinstance : PySem.W.nsIn K mainGlobals "isinstance" = some none)
    (z_len : PySem.W.nsIn K mainGlobals "len" = some none)
    (z_list : PySem.W.nsIn K mainGlobals "list" = some none)
    (z_max : PySem.W.nsIn K mainGlobals "max" = some none)
    (z_min : PySem.W.nsIn K mainGlobals "min" = some none)
    (z_range : PySem.W.nsIn K mainGlobals "range" = some none)
    (z_repr : PySem.W.nsIn K mainGlobals "repr" = some none)
    (z_set : PySem.W.nsIn K mainGlobals "set" = some none)
    (z_sorted : PySem.W.nsIn K mainGlobals "sorted" = some none)
    (z_str : PySem.W.nsIn K mainGlobals "str" = some none)
    (z_sum : PySem.W.nsIn K mainGlobals "sum" = some none)
    (z_tuple : PySem.W.nsIn K mainGlobals "tuple" = some none)
    (z_zip : PySem.W.nsIn K mainGlobals "zip" = some none)
    (g_LETTERS : PySem.W.nsIn K mainGlobals "LETTERS" = some (some (.str abc tkLETTERS)))
    (g_DEAREST : PySem.W.nsIn K mainGlobals "DEAREST" = some (some (.int 9 tkDEAREST)))
    (g_LONGEST : PySem.W.nsIn K mainGlobals "LONGEST" = some (some (.int 5 tkLONGEST)))
    (g_DEAREST_OWN : PySem.W.nsIn K mainGlobals "DEAREST_OWN" = some (some (.int 999 tkDEAREST_OWN)))
    (g_MOST_WORDS : PySem.W.nsIn K mainGlobals "MOST_WORDS" = some (some (.int 4 tkMOST_WORDS)))
    (aC : PySem.W.nsIn K mainGlobals "Slips" = some (some (.ref C)))
    (aSI : PySem.W.findIn K (.ref C) "__init__" = some (some (.ref fSI)))
    (lSI : K.lookup fSI = some ⟨ocSI, odSI, .func (PySem.W.fnOf "__init__" "Slips.__init__" (defArgs sSInit) (defBody sSInit) (defScope sSInit) .none kVSI dcSI pmSI anSI cdSI ctSI), slSI⟩)
    (cSI : PySem.W.codeIn K cdSI "Slips.__init__" = true)
    (kSI : PySem.W.keepIn K (.ref fSI) = true)
    (iSI : PySem.W.isFn K (.ref fSI) = true)
    (eSI : kVSI = .ref DSI)
    (w1 : PySem.W.nsIn K DSI "extra" = some (some (.int 1 tkE)))
    (w2 : PySem.W.nsIn K DSI "missing" = some (some (.int 1 tkM)))
    (w3 : PySem.W.nsIn K DSI "wrong" = some (some (.int 1 tkW)))
    (w4 : PySem.W.nsIn K DSI "swapped" = some (some .none))
    (pg : PySem.W.plainGet K C Str.empty = true)
    (hd : PySem.W.hasDictIn K C = true)
    (po : PySem.W.plainOver K C = true)
    (sa : PySem.W.findIn K (.ref C) "__setattr__" = some (some (.builtin "object.__setattr__")))
    (mk : PySem.W.makesIn K C = true)
    (kc : PySem.W.keepIn K (.ref C) = true)
    (n_extra : PySem.W.findIn K (.ref C) "z_extra" = some none)
    (n_missing : PySem.W.findIn K (.ref C) "z_missing" = some none)
    (n_wrong : PySem.W.findIn K (.ref C) "z_wrong" = some none)
    (n_swapped : PySem.W.findIn K (.ref C) "z_swapped" = some none)
    (atPextra : PySem.W.findIn K (.ref C) "extra" = some (some (.ref pPextra)))
    (gtPextra : PySem.W.specialIn K (.ref pPextra) "__get__" = some (some (.builtin "property.__get__")))
    (tkPextra : PySem.W.takesIn K (.ref pPextra) = some true)
    (aPextra : PySem.W.recIn K pPextra "property" = some (.ref fPextra :: restPextra))
    (lPextra : K.lookup fPextra = some ⟨ocPextra, odPextra, .func (PySem.W.fnOf "extra" "Slips.extra" (defArgs sG_extra) (defBody sG_extra) (defScope sG_extra) .none kVPextra dcPextra pmPextra anPextra cdPextra ctPextra), slPextra⟩)
    (cPextra : PySem.W.codeIn K cdPextra "Slips.extra" = true)
    (kPextra : PySem.W.keepIn K (.ref fPextra) = true)
    (atPmissing : PySem.W.findIn K (.ref C) "missing" = some (some (.ref pPmissing)))
    (gtPmissing : PySem.W.specialIn K (.ref pPmissing) "__get__" = some (some (.builtin "property.__get__")))
    (tkPmissing : PySem.W.takesIn K (.ref pPmissing) = some true)
    (aPmissing : PySem.W.recIn K pPmissing "property" = some (.ref fPmissing :: restPmissing))
    (lPmissing : K.lookup fPmissing = some ⟨ocPmissing, odPmissing, .func (PySem.W.fnOf "missing" "Slips.missing" (defArgs sG_missing) (defBody sG_missing) (defScope sG_missing) .none kVPmissing dcPmissing pmPmissing anPmissing cdPmissing ctPmissing), slPmissing⟩)
    (cPmissing : PySem.W.codeIn K cdPmissing "Slips.missing" = true)
    (kPmissing : PySem.W.keepIn K (.ref fPmissing) = true)
    (atPwrong : PySem.W.findIn K (.ref C) "wrong" = some (some (.ref pPwrong)))
    (gtPwrong : PySem.W.specialIn K (.ref pPwrong) "__get__" = some (some (.builtin "property.__get__")))
    (tkPwrong : PySem.W.takesIn K (.ref pPwrong) = some true)
    (aPwrong : PySem.W.recIn K pPwrong "property" = some (.ref fPwrong :: restPwrong))
    (lPwrong : K.lookup fPwrong = some ⟨ocPwrong, odPwrong, .func (PySem.W.fnOf "wrong" "Slips.wrong" (defArgs sG_wrong) (defBody sG_wrong) (defScope sG_wrong) .none kVPwrong dcPwrong pmPwrong anPwrong cdPwrong ctPwrong), slPwrong⟩)
    (cPwrong : PySem.W.codeIn K cdPwrong "Slips.wrong" = true)
    (kPwrong : PySem.W.keepIn K (.ref fPwrong) = true)
    (atPswapped : PySem.W.findIn K (.ref C) "swapped" = some (some (.ref pPswapped)))
    (gtPswapped : PySem.W.specialIn K (.ref pPswapped) "__get__" = some (some (.builtin "property.__get__")))
    (tkPswapped : PySem.W.takesIn K (.ref pPswapped) = some true)
    (aPswapped : PySem.W.recIn K pPswapped "property" = some (.ref fPswapped :: restPswapped))
    (lPswapped : K.lookup fPswapped = some ⟨ocPswapped, odPswapped, .func (PySem.W.fnOf "swapped" "Slips.swapped" (defArgs sG_swapped) (defBody sG_swapped) (defScope sG_swapped) .none kVPswapped dcPswapped pmPswapped anPswapped cdPswapped ctPswapped), slPswapped⟩)
    (cPswapped : PySem.W.codeIn K cdPswapped "Slips.swapped" = true)
    (kPswapped : PySem.W.keepIn K (.ref fPswapped) = true)
    (aCS : PySem.W.nsIn K mainGlobals "Speller" = some (some (.ref CS)))
    (aPI : PySem.W.findIn K (.ref CS) "__init__" = some (some (.ref fPI)))
    (lPI : K.lookup fPI = some ⟨ocPI, odPI, .func (PySem.W.fnOf "__init__" "Speller.__init__" (defArgs sPInit) (defBody sPInit) (defScope sPInit) dVPI kVPI dcPI pmPI anPI cdPI ctPI), slPI⟩)
    (cPI : PySem.W.codeIn K cdPI "Speller.__init__" = true)
    (kPI : PySem.W.keepIn K (.ref fPI) = true)
    (iPI : PySem.W.isFn K (.ref fPI) = true)
    (ePI : dVPI = .ref TPI)
    (tPI : K.lookup TPI = some ⟨ocT, odT, .seq #[.none] nTPI, slT⟩)
    (pgS : PySem.W.plainGet K CS Str.empty = true)
    (hdS : PySem.W.hasDictIn K CS = true)
    (poS : PySem.W.plainOver K CS = true)
    (saS : PySem.W.findIn K (.ref CS) "__setattr__" = some (some (.builtin "object.__setattr__")))
    (mkS : PySem.W.makesIn K CS = true)
    (kcS : PySem.W.keepIn K (.ref CS) = true)
    (n_e_entries : PySem.W.findIn K (.ref CS) "e_entries" = some none)
    (n_e_slips : PySem.W.findIn K (.ref CS) "e_slips" = some none)
    (aGetI : PySem.W.findIn K (.ref CS) "__getitem__" = some (some (.ref fGetI)))
    (lGetI : K.lookup fGetI = some ⟨ocGetI, odGetI, .func (PySem.W.fnOf "__getitem__" "Speller.__getitem__" (defArgs sGetI) (defBody sGetI) (defScope sGetI) .none kVGetI dcGetI pmGetI anGetI cdGetI ctGetI), slGetI⟩)
    (cGetI : PySem.W.codeIn K cdGetI "Speller.__getitem__" = true)
    (kGetI : PySem.W.keepIn K (.ref fGetI) = true)
    (iGetI : PySem.W.isFn K (.ref fGetI) = true)
    (hGetI : PySem.W.fnIn K fGetI = true)
    (aTotal : PySem.W.findIn K (.ref CS) "total" = some (some (.ref fTotal)))
    (lTotal : K.lookup fTotal = some ⟨ocTotal, odTotal, .func (PySem.W.fnOf "total" "Speller.total" (defArgs sTotal) (defBody sTotal) (defScope sTotal) .none kVTotal dcTotal pmTotal anTotal cdTotal ctTotal), slTotal⟩)
    (cTotal : PySem.W.codeIn K cdTotal "Speller.total" = true)
    (kTotal : PySem.W.keepIn K (.ref fTotal) = true)
    (iTotal : PySem.W.isFn K (.ref fTotal) = true)
    (hTotal : PySem.W.fnIn K fTotal = true) :
    ∃ fd : FuncData, (∀ (s : Shared) (v : Value), BindsTo s fd ⟨[v], []⟩ [("_law_script", v)]) ∧ ∀ base : Heap, K.In base → base.Ns mainGlobals mg → FnOk l.prog w K mg base CX0 10 fa fd ["_law_script"] (spLaw K) := by
  have e := hfa.symm.trans (PySem.W.mg_of X G aLaw)
  cases e
  have dBegin : Def K mg "_law_begin" sBegin ["_law_script"] _ _ := ⟨fun_mk (st := sBegin) lBegin cBegin kBegin, PySem.W.mg_of X G aBegin, (fun_mk (st := sBegin) lBegin cBegin kBegin).binds (ps := ["_law_script"]) fun _ _ _ _ _ _ us hl => match us, hl with | [_], _ => rfl⟩
  have dTake : Def K mg "_law_take" sTake ["_law_draw", "_law_size"] _ _ := ⟨fun_mk (st := sTake) lTake cTake kTake, PySem.W.mg_of X G aTake, (fun_mk (st := sTake) lTake cTake kTake).binds (ps := ["_law_draw", "_law_size"]) fun _ _ _ _ _ _ us hl => match us, hl with | [_, _], _ => rfl⟩
  have dPick : Def K mg "_law_pick" sPick ["_law_draw", "_law_some"] _ _ := ⟨fun_mk (st := sPick) lPick cPick kPick, PySem.W.mg_of X G aPick, (fun_mk (st := sPick) lPick cPick kPick).binds (ps := ["_law_draw", "_law_some"]) fun _ _ _ _ _ _ us hl => match us, hl with | [_, _], _ => rfl⟩
  have dIsInt : Def K mg "is_integer" sIsInt ["thing"] _ _ := ⟨fun_mk (st := sIsInt) lIsInt cIsInt kIsInt, PySem.W.mg_of X G aIsInt, (fun_mk (st := sIsInt) lIsInt cIsInt kIsInt).binds (ps := ["thing"]) fun _ _ _ _ _ _ us hl => match us, hl with | [_], _ => rfl⟩
  have dIsText : Def K mg "is_text" sIsText ["thing"] _ _ := ⟨fun_mk (st := sIsText) lIsText cIsText kIsText, PySem.W.mg_of X G aIsText, (fun_mk (st := sIsText) lIsText cIsText kIsText).binds (ps := ["thing"]) fun _ _ _ _ _ _ us hl => match us, hl with | [_], _ => rfl⟩
  have dIsPrice : Def K mg "is_price" sIsPrice ["thing"] _ _ := ⟨fun_mk (st := sIsPrice) lIsPrice cIsPrice kIsPrice, PySem.W.mg_of X G aIsPrice, (fun_mk (st := sIsPrice) lIsPrice cIsPrice kIsPrice).binds (ps := ["thing"]) fun _ _ _ _ _ _ us hl => match us, hl with | [_], _ => rfl⟩
  have dNeed : Def K mg "need_text" sNeed ["thing"] _ _ := ⟨fun_mk (st := sNeed) lNeed cNeed kNeed, PySem.W.mg_of X G aNeed, (fun_mk (st := sNeed) lNeed cNeed kNeed).binds (ps := ["thing"]) fun _ _ _ _ _ _ us hl => match us, hl with | [_], _ => rfl⟩
  have dLast : Def K mg "last_steps" sLast ["slips", "target", "text"] _ _ := ⟨fun_mk (st := sLast) lLast cLast kLast, PySem.W.mg_of X G aLast, (fun_mk (st := sLast) lLast cLast kLast).binds (ps := ["slips", "target", "text"]) fun _ _ _ _ _ _ us hl => match us, hl with | [_, _, _], _ => rfl⟩
  have dStepP : Def K mg "step_price" sStepP ["slips", "step"] _ _ := ⟨fun_mk (st := sStepP) lStepP cStepP kStepP, PySem.W.mg_of X G aStepP, (fun_mk (st := sStepP) lStepP cStepP kStepP).binds (ps := ["slips", "step"]) fun _ _ _ _ _ _ us hl => match us, hl with | [_, _], _ => rfl⟩
  have dLines : Def K mg "price_lines" sLines ["slips", "target", "text"] _ _ := ⟨fun_mk (st := sLines) lLines cLines kLines, PySem.W.mg_of X G aLines, (fun_mk (st := sLines) lLines cLines kLines).binds (ps := ["slips", "target", "text"]) fun _ _ _ _ _ _ us hl => match us, hl with | [_, _, _], _ => rfl⟩
  have dPrice : Def K mg "price" sPrice ["slips", "target", "text"] _ _ := ⟨fun_mk (st := sPrice) lPrice cPrice kPrice, PySem.W.mg_of X G aPrice, (fun_mk (st := sPrice) lPrice cPrice kPrice).binds (ps := ["slips", "target", "text"]) fun _ _ _ _ _ _ us hl => match us, hl with | [_, _, _], _ => rfl⟩
  have dIsWord : Def K mg "is_word" sIsWord ["thing"] _ _ := ⟨fun_mk (st := sIsWord) lIsWord cIsWord kIsWord, PySem.W.mg_of X G aIsWord, (fun_mk (st := sIsWord) lIsWord cIsWord kIsWord).binds (ps := ["thing"]) fun _ _ _ _ _ _ us hl => match us, hl with | [_], _ => rfl⟩
  have dIsOwn : Def K mg "is_own" sIsOwn ["thing"] _ _ := ⟨fun_mk (st := sIsOwn) lIsOwn cIsOwn kIsOwn, PySem.W.mg_of X G aIsOwn, (fun_mk (st := sIsOwn) lIsOwn cIsOwn kIsOwn).binds (ps := ["thing"]) fun _ _ _ _ _ _ us hl => match us, hl with | [_], _ => rfl⟩
  have dIsEntry : Def K mg "is_entry" sIsEntry ["thing"] _ _ := ⟨fun_mk (st := sIsEntry) lIsEntry cIsEntry kIsEntry, PySem.W.mg_of X G aIsEntry, (fun_mk (st := sIsEntry) lIsEntry cIsEntry kIsEntry).binds (ps := ["thing"]) fun _ _ _ _ _ _ us hl => match us, hl with | [_], _ => rfl⟩
  have dNeedE : Def K mg "need_entries" sNeedE ["entries"] _ _ := ⟨fun_mk (st := sNeedE) lNeedE cNeedE kNeedE, PySem.W.mg_of X G aNeedE, (fun_mk (st := sNeedE) lNeedE cNeedE kNeedE).binds (ps := ["entries"]) fun _ _ _ _ _ _ us hl => match us, hl with | [_], _ => rfl⟩
  have dPlace : Def K mg "place_of" sPlace ["entries", "word"] _ _ := ⟨fun_mk (st := sPlace) lPlace cPlace kPlace, PySem.W.mg_of X G aPlace, (fun_mk (st := sPlace) lPlace cPlace kPlace).binds (ps := ["entries", "word"]) fun _ _ _ _ _ _ us hl => match us, hl with | [_, _], _ => rfl⟩
  have dRank : Def K mg "ranking_of" sRank ["entries", "slips", "text"] _ _ := ⟨fun_mk (st := sRank) lRank cRank kRank, PySem.W.mg_of X G aRank, (fun_mk (st := sRank) lRank cRank kRank).binds (ps := ["entries", "slips", "text"]) fun _ _ _ _ _ _ us hl => match us, hl with | [_, _, _], _ => rfl⟩
  have dMeant : Def K mg "meant_word" sMeant ["entries", "slips", "text"] _ _ := ⟨fun_mk (st := sMeant) lMeant cMeant kMeant, PySem.W.mg_of X G aMeant, (fun_mk (st := sMeant) lMeant cMeant kMeant).binds (ps := ["entries", "slips", "text"]) fun _ _ _ _ _ _ us hl => match us, hl with | [_, _, _], _ => rfl⟩
  have dRead : Def K mg "reading" sRead ["slips", "target", "text"] _ _ := ⟨fun_mk (st := sRead) lRead cRead kRead, PySem.W.mg_of X G aRead, (fun_mk (st := sRead) lRead cRead kRead).binds (ps := ["slips", "target", "text"]) fun _ _ _ _ _ _ us hl => match us, hl with | [_, _, _], _ => rfl⟩
  have dIsLet : Def K mg "is_letter" sIsLet ["thing"] _ _ := ⟨fun_mk (st := sIsLet) lIsLet cIsLet kIsLet, PySem.W.mg_of X G aIsLet, (fun_mk (st := sIsLet) lIsLet cIsLet kIsLet).binds (ps := ["thing"]) fun _ _ _ _ _ _ us hl => match us, hl with | [_], _ => rfl⟩
  have dIsStep : Def K mg "is_step" sIsStep ["slips", "thing"] _ _ := ⟨fun_mk (st := sIsStep) lIsStep cIsStep kIsStep, PySem.W.mg_of X G aIsStep, (fun_mk (st := sIsStep) lIsStep cIsStep kIsStep).binds (ps := ["slips", "thing"]) fun _ _ _ _ _ _ us hl => match us, hl with | [_, _], _ => rfl⟩
  have dMeL : Def K mg "meant_letters" sMeL ["step"] _ _ := ⟨fun_mk (st := sMeL) lMeL cMeL kMeL, PySem.W.mg_of X G aMeL, (fun_mk (st := sMeL) lMeL cMeL kMeL).binds (ps := ["step"]) fun _ _ _ _ _ _ us hl => match us, hl with | [_], _ => rfl⟩
  have dKeL : Def K mg "keyed_letters" sKeL ["step"] _ _ := ⟨fun_mk (st := sKeL) lKeL cKeL kKeL, PySem.W.mg_of X G aKeL, (fun_mk (st := sKeL) lKeL cKeL kKeL).binds (ps := ["step"]) fun _ _ _ _ _ _ us hl => match us, hl with | [_], _ => rfl⟩
  have dCost : Def K mg "cost" sCost ["slips", "steps"] _ _ := ⟨fun_mk (st := sCost) lCost cCost kCost, PySem.W.mg_of X G aCost, (fun_mk (st := sCost) lCost cCost kCost).binds (ps := ["slips", "steps"]) fun _ _ _ _ _ _ us hl => match us, hl with | [_, _], _ => rfl⟩
  have dIsRd : Def K mg "is_reading" sIsRd ["slips", "target", "text", "thing"] _ _ := ⟨fun_mk (st := sIsRd) lIsRd cIsRd kIsRd, PySem.W.mg_of X G aIsRd, (fun_mk (st := sIsRd) lIsRd cIsRd kIsRd).binds (ps := ["slips", "target", "text", "thing"]) fun _ _ _ _ _ _ us hl => match us, hl with | [_, _, _, _], _ => rfl⟩
  have dLett : Def K mg "_law_letters" sLett ["_law_draw", "_law_many"] _ _ := ⟨fun_mk (st := sLett) lLett cLett kLett, PySem.W.mg_of X G aLett, (fun_mk (st := sLett) lLett cLett kLett).binds (ps := ["_law_draw", "_law_many"]) fun _ _ _ _ _ _ us hl => match us, hl with | [_, _], _ => rfl⟩
  have dString : Def K mg "_law_string" sString ["_law_draw", "_law_letters_here", "_law_least", "_law_most"] _ _ := ⟨fun_mk (st := sString) lString cString kString, PySem.W.mg_of X G aString, (fun_mk (st := sString) lString cString kString).binds (ps := ["_law_draw", "_law_letters_here", "_law_least", "_law_most"]) fun _ _ _ _ _ _ us hl => match us, hl with | [_, _, _, _], _ => rfl⟩
  have dLPr : Def K mg "_law_prices" sLPr ["_law_draw"] _ _ := ⟨fun_mk (st := sLPr) lLPr cLPr kLPr, PySem.W.mg_of X G aLPr, (fun_mk (st := sLPr) lLPr cLPr kLPr).binds (ps := ["_law_draw"]) fun _ _ _ _ _ _ us hl => match us, hl with | [_], _ => rfl⟩
  have dCase : Def K mg "_law_case" sCase ["_law_draw", "_law_many", "_law_most"] _ _ := ⟨fun_mk (st := sCase) lCase cCase kCase, PySem.W.mg_of X G aCase, (fun_mk (st := sCase) lCase cCase kCase).binds (ps := ["_law_draw", "_law_many", "_law_most"]) fun _ _ _ _ _ _ us hl => match us, hl with | [_, _, _], _ => rfl⟩
  have dLSlips : Def K mg "_law_slips" sLSlips ["_law_prices_here"] _ _ := ⟨fun_mk (st := sLSlips) lLSlips cLSlips kLSlips, PySem.W.mg_of X G aLSlips, (fun_mk (st := sLSlips) lLSlips cLSlips kLSlips).binds (ps := ["_law_prices_here"]) fun _ _ _ _ _ _ us hl => match us, hl with | [_], _ => rfl⟩
  have dSpe : Def K mg "_law_speller" sSpe ["_law_case_here"] _ _ := ⟨fun_mk (st := sSpe) lSpe cSpe kSpe, PySem.W.mg_of X G aSpe, (fun_mk (st := sSpe) lSpe cSpe kSpe).binds (ps := ["_law_case_here"]) fun _ _ _ _ _ _ us hl => match us, hl with | [_], _ => rfl⟩
  have dOth : Def K mg "_law_other_letter" sOth ["_law_case_here"] _ _ := ⟨fun_mk (st := sOth) lOth cOth kOth, PySem.W.mg_of X G aOth, (fun_mk (st := sOth) lOth cOth kOth).binds (ps := ["_law_case_here"]) fun _ _ _ _ _ _ us hl => match us, hl with | [_], _ => rfl⟩
  have dLPrice : Def K mg "_law_price" sLPrice ["_law_prices_here", "_law_target", "_law_text"] _ _ := ⟨fun_mk (st := sLPrice) lLPrice cLPrice kLPrice, PySem.W.mg_of X G aLPrice, (fun_mk (st := sLPrice) lLPrice cLPrice kLPrice).binds (ps := ["_law_prices_here", "_law_target", "_law_text"]) fun _ _ _ _ _ _ us hl => match us, hl with | [_, _, _], _ => rfl⟩
  have dTots : Def K mg "_law_totals" sTots ["_law_case_here", "_law_text"] _ _ := ⟨fun_mk (st := sTots) lTots cTots kTots, PySem.W.mg_of X G aTots, (fun_mk (st := sTots) lTots cTots kTots).binds (ps := ["_law_case_here", "_law_text"]) fun _ _ _ _ _ _ us hl => match us, hl with | [_, _], _ => rfl⟩
  have dLMe : Def K mg "_law_meant" sLMe ["_law_case_here", "_law_text"] _ _ := ⟨fun_mk (st := sLMe) lLMe cLMe kLMe, PySem.W.mg_of X G aLMe, (fun_mk (st := sLMe) lLMe cLMe kLMe).binds (ps := ["_law_case_here", "_law_text"]) fun _ _ _ _ _ _ us hl => match us, hl with | [_, _], _ => rfl⟩
  have dTexts : Def K mg "_law_texts" sTexts ["_law_letters_here", "_law_most"] _ _ := ⟨fun_mk (st := sTexts) lTexts cTexts kTexts, PySem.W.mg_of X G aTexts, (fun_mk (st := sTexts) lTexts cTexts kTexts).binds (ps := ["_law_letters_here", "_law_most"]) fun _ _ _ _ _ _ us hl => match us, hl with | [_, _], _ => rfl⟩
  have dLaw : Def K mg "law" sLaw ["_law_script"] _ _ := ⟨fun_mk (st := sLaw) lLaw cLaw kLaw, PySem.W.mg_of X G aLaw, (fun_mk (st := sLaw) lLaw cLaw kLaw).binds (ps := ["_law_script"]) fun _ _ _ _ _ _ us hl => match us, hl with | [_], _ => rfl⟩
  have B : Bt mg := ⟨PySem.W.mg_none_of X G z_abs, PySem.W.mg_none_of X G z_all, PySem.W.mg_none_of X G z_any, PySem.W.mg_none_of X G z_bool, PySem.W.mg_none_of X G z_dict, PySem.W.mg_none_of X G z_divmod, PySem.W.mg_none_of X G z_enumerate, PySem.W.mg_none_of X G z_int, PySem.W.mg_none_of X G z_isinstance, PySem.W.mg_none_of X G z_len, PySem.W.mg_none_of X G z_list, PySem.W.mg_none_of X G z_max, PySem.W.mg_none_of X G z_min, PySem.W.mg_none_of X G z_range, PySem.W.mg_none_of X G z_repr, PySem.W.mg_none_of X G z_set, PySem.W.mg_none_of X G z_sorted, PySem.W.mg_none_of X G z_str, PySem.W.mg_none_of X G z_sum, PySem.W.mg_none_of X G z_tuple, PySem.W.mg_none_of X G z_zip⟩
  have mLETTERS := PySem.W.mg_of X G g_LETTERS
  have mDEAREST := PySem.W.mg_of X G g_DEAREST
  have mLONGEST := PySem.W.mg_of X G g_LONGEST
  have mDEAREST_OWN := PySem.W.mg_of X G g_DEAREST_OWN
  have mMOST_WORDS := PySem.W.mg_of X G g_MOST_WORDS
  have T : SlC K mg C := ⟨⟨pg, hd, po, sa⟩, n_extra, n_missing, n_wrong, n_swapped, PySem.W.mg_of X G aC⟩
  have FSI : FunD K "__init__" "Slips.__init__" (defArgs sSInit) (defBody sSInit) (defScope sSInit) [] kwS fSI _ := ⟨⟨ocSI, odSI, .none, kVSI, dcSI, pmSI, anSI, cdSI, ctSI, slSI, rfl, lSI, cSI, .inl ⟨rfl, rfl⟩, .inr ⟨DSI, eSI, fun q hq => by
      simp only [kwS, List.mem_cons, List.not_mem_nil, or_false] at hq
      rcases hq with rfl | rfl | rfl | rfl
      · exact ⟨_, w1, ⟨_, rfl⟩⟩
      · exact ⟨_, w2, ⟨_, rfl⟩⟩
      · exact ⟨_, w3, ⟨_, rfl⟩⟩
      · exact ⟨_, w4, rfl⟩⟩⟩, kSI⟩
  obtain ⟨gSI, kbSI⟩ := sl_bind FSI
  have MSI : Mk K C fSI := ⟨mk, aSI, iSI, kc⟩
  have TS : SpC K mg CS := ⟨⟨pgS, hdS, poS, saS⟩, n_e_entries, n_e_slips, PySem.W.mg_of X G aCS⟩
  have FPI : FunD K "__init__" "Speller.__init__" (defArgs sPInit) (defBody sPInit) (defScope sPInit) [.non] [] fPI _ := ⟨⟨ocPI, odPI, dVPI, kVPI, dcPI, pmPI, anPI, cdPI, ctPI, slPI, rfl, lPI, cPI, .inr ⟨(by intro z; cases z), TPI, _, [.none], nTPI, ePI, tPI, rfl, .cons rfl .nil⟩, .inl rfl⟩, kPI⟩
  have MPI : Mk K CS fPI := ⟨mkS, aPI, iPI, kcS⟩
  have BPI : Binds K _ nPInit [] := sp_bind FPI
  have FGetI : Fun K "__getitem__" "Speller.__getitem__" sGetI _ _ := fun_mk (st := sGetI) lGetI cGetI kGetI
  have bGetI := FGetI.binds (ps := ["self", "at"]) fun _ _ _ _ _ _ us hl => match us, hl with | [_, _], _ => rfl
  have mGetI : Meth K CS "__getitem__" fGetI := ⟨aGetI, iGetI, kGetI⟩
  have FTotal : Fun K "total" "Speller.total" sTotal _ _ := fun_mk (st := sTotal) lTotal cTotal kTotal
  have bTotal := FTotal.binds (ps := ["self", "word", "text"]) fun _ _ _ _ _ _ us hl => match us, hl with | [_, _, _], _ => rfl
  have mTotal : Meth K CS "total" fTotal := ⟨aTotal, iTotal, kTotal⟩
  refine ⟨_, fun s v => (.of_eq rfl : BindsTo s (PySem.W.fnOf "law" "law" (defArgs sLaw) (defBody sLaw) (defScope sLaw) .none kVLaw dcLaw pmLaw anLaw cdLaw ctLaw) ⟨[v], []⟩ [("_law_script", v)]), fun base _ _ => ?_⟩
  have SP : SlP l.prog w K mg base C := by
    refine ⟨T, ⟨fSI, _, gSI, MSI, ok_sinit0 FSI T (dIsPrice.cal (ok_isPrice dIsPrice.F (dIsInt.cal (ok_isInt dIsInt.F B.isinst B.int B.bool)) mDEAREST)), kbSI⟩, ?_, ?_, ?_, ?_⟩
    · exact ⟨pPextra, fPextra, _, ⟨atPextra, gtPextra, tkPextra, ⟨_, aPextra⟩⟩, fn_getter (f := "z_extra") lPextra cPextra scG_extra rfl rfl T.cl n_extra, (fun_mk (st := sG_extra) lPextra cPextra kPextra).binds (ps := ["self"]) fun _ _ _ _ _ _ us hl => match us, hl with | [_], _ => rfl⟩
    · exact ⟨pPmissing, fPmissing, _, ⟨atPmissing, gtPmissing, tkPmissing, ⟨_, aPmissing⟩⟩, fn_getter (f := "z_missing") lPmissing cPmissing scG_missing rfl rfl T.cl n_missing, (fun_mk (st := sG_missing) lPmissing cPmissing kPmissing).binds (ps := ["self"]) fun _ _ _ _ _ _ us hl => match us, hl with | [_], _ => rfl⟩
    · exact ⟨pPwrong, fPwrong, _, ⟨atPwrong, gtPwrong, tkPwrong, ⟨_, aPwrong⟩⟩, fn_getter (f := "z_wrong") lPwrong cPwrong scG_wrong rfl rfl T.cl n_wrong, (fun_mk (st := sG_wrong) lPwrong cPwrong kPwrong).binds (ps := ["self"]) fun _ _ _ _ _ _ us hl => match us, hl with | [_], _ => rfl⟩
    · exact ⟨pPswapped, fPswapped, _, ⟨atPswapped, gtPswapped, tkPswapped, ⟨_, aPswapped⟩⟩, fn_getter (f := "z_swapped") lPswapped cPswapped scG_swapped rfl rfl T.cl n_swapped, (fun_mk (st := sG_swapped) lPswapped cPswapped kPswapped).binds (ps := ["self"]) fun _ _ _ _ _ _ us hl => match us, hl with | [_], _ => rfl⟩
  have cTk := dTake.cal (ok_take (P := l.prog) (w := w) (base := base) (k := 0) dTake.F B.int B.divmod)
  have cPk := dPick.cal (ok_pick dPick.F cTk B.len)
  have cBg := dBegin.cal (ok_begin (P := l.prog) (w := w) (base := base) (k := 0) dBegin.F B.abs B.list)
  have cIT := dIsText.cal (ok_isText (P := l.prog) (w := w) (base := base) dIsText.F B.isinst B.str B.all mLETTERS)
  have cNd := dNeed.cal (ok_need0 dNeed.F cIT)
  have cLs := dLast.cal (ok_last dLast.F SP B.len)
  have cSP := dStepP.cal (ok_stepP dStepP.F SP)
  have cLi := dLines.cal (ok_lines dLines.F SP cLs cSP B.len B.range B.min)
  have cPr := dPrice.cal (ok_price0 dPrice.F cLi cNd)
  have cII := dIsInt.cal (ok_isInt (P := l.prog) (w := w) (base := base) dIsInt.F B.isinst B.int B.bool)
  have cWd := dIsWord.cal (ok_isWord dIsWord.F cIT B mLONGEST)
  have cOw := dIsOwn.cal (ok_isOwn dIsOwn.F cII mDEAREST_OWN)
  have cEn := dIsEntry.cal (ok_isEntry0 dIsEntry.F cWd cOw B)
  have cNE := dNeedE.cal (ok_needE dNeedE.F cEn B mMOST_WORDS)
  have MP : MkP l.prog w K mg base CS (spPInit0 CS) := ⟨fPI, _, MPI, ok_pinit0 FPI TS cNE B, BPI⟩
  have cPl := dPlace.cal (ok_place0 (P := l.prog) (w := w) (base := base) dPlace.F B)
  have cRk := dRank.cal (ok_rank0 dRank.F cNd cPr B)
  have cMw := dMeant.cal (ok_meant0 dMeant.F cRk)
  have cRd := dRead.cal (ok_read0 dRead.F cLi cNd cLs cSP B)
  have cLt := dIsLet.cal (ok_isLet dIsLet.F cIT B)
  have cIS := dIsStep.cal (ok_isStep0 dIsStep.F SP cLt B)
  have cMe := dMeL.cal (ok_meL (P := l.prog) (w := w) (base := base) dMeL.F)
  have cKe := dKeL.cal (ok_keL (P := l.prog) (w := w) (base := base) dKeL.F)
  have cCo := dCost.cal (ok_cost0 dCost.F cSP B)
  have cIR := dIsRd.cal (ok_isRd0 dIsRd.F cNd cIS cMe cKe B)
  have cLe := dLett.cal (ok_lett dLett.F cTk B.range B.list B.len)
  have cSt := dString.cal (ok_string dString.F cTk cPk B.range)
  have cLP := dLPr.cal (ok_lpr dLPr.F cPk B)
  have cCs := dCase.cal (ok_case dCase.F cTk cPk cLe cSt cLP B)
  have cSl := dLSlips.cal (ok_lslips dLSlips.F SP)
  have cSpe := dSpe.cal (ok_spe dSpe.F TS cSl MP)
  have cOt := dOth.cal (ok_oth (P := l.prog) (w := w) (base := base) dOth.F B)
  have cLp := dLPrice.cal (ok_lprice (P := l.prog) (w := w) (base := base) dLPrice.F B)
  have cTt := dTots.cal (ok_tots dTots.F cLp)
  have cLM := dLMe.cal (ok_lme dLMe.F cTt B)
  exact ok_law dLaw.F ⟨TS, cBg, cCs, cSpe, cSl, dTexts.cal (ok_texts (P := l.prog) (w := w) (base := base) dTexts.F B), cOt, cRd, cIR, cCo, cTt, cLM, ⟨fGetI, _, ok_getI0 FGetI TS cMw, mGetI, bGetI, hGetI⟩, ⟨fTotal, _, ok_total0 FTotal TS cPl cNd cPr, mTotal, bTotal, hTotal⟩⟩ B
end G69
open PySem PySem.W PyProof.Rows
set_option maxRecDepth 100000 in
set_option maxHeartbeats 0 in
theorem PySem.Challenge.cw_meantword_k14_whole_every_short_text_holds : PySem.Challenge.rw_meantword_k14_whole_every_short_text.Holds := by
  w_on; o_law; k_head; (case hw => w_witness2)
  k_fill
  refine L2.walk_of (l := PySem.Challenge.rw_meantword_k14_whole_every_short_text) (n := 63) (k := 10) (x := "_law_script") (CX := fun _ => L2.CX0) (sp := fun w => G69.spLaw _) rfl (by decide) rfl ⟨rfl, by decide, by decide⟩ (fun w h Y => PySem.W.kIn_of Y) ?F (fun _ _ a ns hl _ hS => ⟨a, ns, rfl, hS, hl, fun _ => rfl⟩) (fun _ _ _ _ _ h => h)
  case F =>
    intro w mg fa h KX G hmg
    refine' G69.all_mk KX G hmg ?aBegin ?lBegin ?cBegin ?kBegin ?aTake ?lTake ?cTake ?kTake ?aPick ?lPick ?cPick ?kPick ?aIsInt ?lIsInt ?cIsInt ?kIsInt ?aIsText ?lIsText ?cIsText ?kIsText ?aIsPrice ?lIsPrice ?cIsPrice ?kIsPrice ?aNeed ?lNeed ?cNeed ?kNeed ?aLast ?lLast ?cLast ?kLast ?aStepP ?lStepP ?cStepP ?kStepP ?aLines ?lLines ?cLines ?kLines ?aPrice ?lPrice ?cPrice ?kPrice ?aIsWord ?lIsWord ?cIsWord ?kIsWord ?aIsOwn ?lIsOwn ?cIsOwn ?kIsOwn ?aIsEntry ?lIsEntry ?cIsEntry ?kIsEntry ?aNeedE ?lNeedE ?cNeedE ?kNeedE ?aPlace ?lPlace ?cPlace ?kPlace ?aRank ?lRank ?cRank ?kRank ?aMeant ?lMeant ?cMeant ?kMeant ?aRead ?lRead ?cRead ?kRead ?aIsLet ?lIsLet ?cIsLet ?kIsLet ?aIsStep ?lIsStep ?cIsStep ?kIsStep ?aMeL ?lMeL ?cMeL ?kMeL ?aKeL ?lKeL ?cKeL ?kKeL ?aCost ?lCost ?cCost ?kCost ?aIsRd ?lIsRd ?cIsRd ?kIsRd ?aLett ?lLett ?cLett ?kLett ?aString ?lString ?cString ?kString ?aLPr ?lLPr ?cLPr ?kLPr ?aCase ?lCase ?cCase ?kCase ?aLSlips ?lLSlips ?cLSlips ?kLSlips ?aSpe ?lSpe ?cSpe ?kSpe ?aOth ?lOth ?cOth ?kOth ?aLPrice ?lLPrice ?cLPrice ?kLPrice ?aTots ?lTots ?cTots ?kTots ?aLMe ?lLMe ?cLMe ?kLMe ?aTexts ?lTexts ?cTexts ?kTexts ?aLaw ?lLaw ?cLaw ?kLaw ?z_abs ?z_all ?z_any ?z_bool ?z_dict ?z_divmod ?z_enumerate ?z_int ?z_isinstance ?z_len ?z_list ?z_max ?z_min ?z_range ?z_repr ?z_set ?z_sorted ?z_str ?z_sum ?z_tuple ?z_zip ?g_LETTERS ?g_DEAREST ?g_LONGEST ?g_DEAREST_OWN ?g_MOST_WORDS ?aC ?aSI ?lSI ?cSI ?kSI ?iSI ?eSI ?w1 ?w2 ?w3 ?w4 ?pg ?hd ?po ?sa ?mk ?kc ?n_extra ?n_missing ?n_wrong ?n_swapped ?atPextra ?gtPextra ?tkPextra ?aPextra ?lPextra ?cPextra ?kPextra ?atPmissing ?gtPmissing ?tkPmissing ?aPmissing ?lPmissing ?cPmissing ?kPmissing ?atPwrong ?gtPwrong ?tkPwrong ?aPwrong ?lPwrong ?cPwrong ?kPwrong ?atPswapped ?gtPswapped ?tkPswapped ?aPswapped ?lPswapped ?cPswapped ?kPswapped ?aCS ?aPI ?lPI ?cPI ?kPI ?iPI ?ePI ?tPI ?pgS ?hdS ?poS ?saS ?mkS ?kcS ?n_e_entries ?n_e_slips ?aGetI ?lGetI ?cGetI ?kGetI ?iGetI ?hGetI ?aTotal ?lTotal ?cTotal ?kTotal ?iTotal ?hTotal
    (case aBegin => k_is)
    (case lBegin => k_is)
    (case cBegin => k_is)
    (case kBegin => k_is)
    (case aTake => k_is)
    (case lTake => k_is)
    (case cTake => k_is)
    (case kTake => k_is)
    (case aPick => k_is)
    (case lPick => k_is)
    (case cPick => k_is)
    (case kPick => k_is)
    (case aIsInt => k_is)
    (case lIsInt => k_is)
    (case cIsInt => k_is)
    (case kIsInt => k_is)
    (case aIsText => k_is)
    (case lIsText => k_is)
    (case cIsText => k_is)
    (case kIsText => k_is)
    (case aIsPrice => k_is)
    (case lIsPrice => k_is)
    (case cIsPrice => k_is)
    (case kIsPrice => k_is)
    (case aNeed => k_is)
    (case lNeed => k_is)
    (case cNeed => k_is)
    (case kNeed => k_is)
    (case aLast => k_is)
    (case lLast => k_is)
    (case cLast => k_is)
    (case kLast => k_is)
    (case aStepP => k_is)
    (case lStepP => k_is)
    (case cStepP => k_is)
    (case kStepP => k_is)
    (case aLines => k_is)
    (case lLines => k_is)
    (case cLines => k_is)
    (case kLines => k_is)
    (case aPrice => k_is)
    (case lPrice => k_is)
    (case cPrice => k_is)
    (case kPrice => k_is)
    (case aIsWord => k_is)
    (case lIsWord => k_is)
    (case cIsWord => k_is)
    (case kIsWord => k_is)
    (case aIsOwn => k_is)
    (case lIsOwn => k_is)
    (case cIsOwn => k_is)
    (case kIsOwn => k_is)
    (case aIsEntry => k_is)
    (case lIsEntry => k_is)
    (case cIsEntry => k_is)
    (case kIsEntry => k_is)
    (case aNeedE => k_is)
    (case lNeedE => k_is)
    (case cNeedE => k_is)
    (case kNeedE => k_is)
    (case aPlace => k_is)
    (case lPlace => k_is)
    (case cPlace => k_is)
    (case kPlace => k_is)
    (case aRank => k_is)
    (case lRank => k_is)
    (case cRank => k_is)
    (case kRank => k_is)
    (case aMeant => k_is)
    (case lMeant => k_is)
    (case cMeant => k_is)
    (case kMeant => k_is)
    (case aRead => k_is)
    (case lRead => k_is)
    (case cRead => k_is)
    (case kRead => k_is)
    (case aIsLet => k_is)
    (case lIsLet => k_is)
    (case cIsLet => k_is)
    (case kIsLet => k_is)
    (case aIsStep => k_is)
    (case lIsStep => k_is)
    (case cIsStep => k_is)
    (case kIsStep => k_is)
    (case aMeL => k_is)
    (case lMeL => k_is)
    (case cMeL => k_is)
    (case kMeL => k_is)
    (case aKeL => k_is)
    (case lKeL => k_is)
    (case cKeL => k_is)
    (case kKeL => k_is)
    (case aCost => k_is)
    (case lCost => k_is)
    (case cCost => k_is)
    (case kCost => k_is)
    (case aIsRd => k_is)
    (case lIsRd => k_is)
    (case cIsRd => k_is)
    (case kIsRd => k_is)
    (case aLett => k_is)
    (case lLett => k_is)
    (case cLett => k_is)
    (case kLett => k_is)
    (case aString => k_is)
    (case lString => k_is)
    (case cString => k_is)
    (case kString => k_is)
    (case aLPr => k_is)
    (case lLPr => k_is)
    (case cLPr => k_is)
    (case kLPr => k_is)
    (case aCase => k_is)
    (case lCase => k_is)
    (case cCase => k_is)
    (case kCase => k_is)
    (case aLSlips => k_is)
    (case lLSlips => k_is)
    (case cLSlips => k_is)
    (case kLSlips => k_is)
    (case aSpe => k_is)
    (case lSpe => k_is)
    (case cSpe => k_is)
    (case kSpe => k_is)
    (case aOth => k_is)
    (case lOth => k_is)
    (case cOth => k_is)
    (case kOth => k_is)
    (case aLPrice => k_is)
    (case lLPrice => k_is)
    (case cLPrice => k_is)
    (case kLPrice => k_is)
    (case aTots => k_is)
    (case lTots => k_is)
    (case cTots => k_is)
    (case kTots => k_is)
    (case aLMe => k_is)
    (case lLMe => k_is)
    (case cLMe => k_is)
    (case kLMe => k_is)
    (case aTexts => k_is)
    (case lTexts => k_is)
    (case cTexts => k_is)
    (case kTexts => k_is)
    (case aLaw => k_is)
    (case lLaw => k_is)
    (case cLaw => k_is)
    (case kLaw => k_is)
    (case z_abs => k_is)
    (case z_all => k_is)
    (case z_any => k_is)
    (case z_bool => k_is)
    (case z_dict => k_is)
    (case z_divmod => k_is)
    (case z_enumerate => k_is)
    (case z_int => k_is)
    (case z_isinstance => k_is)
    (case z_len => k_is)
    (case z_list => k_is)
    (case z_max => k_is)
    (case z_min => k_is)
    (case z_range => k_is)
    (case z_repr => k_is)
    (case z_set => k_is)
    (case z_sorted => k_is)
    (case z_str => k_is)
    (case z_sum => k_is)
    (case z_tuple => k_is)
    (case z_zip => k_is)
    (case g_LETTERS => k_is)
    (case g_DEAREST => k_is)
    (case g_LONGEST => k_is)
    (case g_DEAREST_OWN => k_is)
    (case g_MOST_WORDS => k_is)
    (case aC => k_is)
    (case aSI => k_is)
    (case lSI => k_is)
    (case cSI => k_is)
    (case kSI => k_is)
    (case iSI => k_is)
    (case eSI => first | k_is | rfl)
    (case w1 => k_is)
    (case w2 => k_is)
    (case w3 => k_is)
    (case w4 => k_is)
    (case pg => k_is)
    (case hd => k_is)
    (case po => k_is)
    (case sa => k_is)
    (case mk => k_is)
    (case kc => k_is)
    (case n_extra => k_is)
    (case n_missing => k_is)
    (case n_wrong => k_is)
    (case n_swapped => k_is)
    (case atPextra => k_is)
    (case gtPextra => k_is)
    (case tkPextra => k_is)
    (case aPextra => k_is)
    (case lPextra => k_is)
    (case cPextra => k_is)
    (case kPextra => k_is)
    (case atPmissing => k_is)
    (case gtPmissing => k_is)
    (case tkPmissing => k_is)
    (case aPmissing => k_is)
    (case lPmissing => k_is)
    (case cPmissing => k_is)
    (case kPmissing => k_is)
    (case atPwrong => k_is)
    (case gtPwrong => k_is)
    (case tkPwrong => k_is)
    (case aPwrong => k_is)
    (case lPwrong => k_is)
    (case cPwrong => k_is)
    (case kPwrong => k_is)
    (case atPswapped => k_is)
    (case gtPswapped => k_is)
    (case tkPswapped => k_is)
    (case aPswapped => k_is)
    (case lPswapped => k_is)
    (case cPswapped => k_is)
    (case kPswapped => k_is)
    (case aCS => k_is)
    (case aPI => k_is)
    (case lPI => k_is)
    (case cPI => k_is)
    (case kPI => k_is)
    (case iPI => k_is)
    (case ePI => first | k_is | rfl)
    (case tPI => k_is)
    (case pgS => k_is)
    (case hdS => k_is)
    (case poS => k_is)
    (case saS => k_is)
    (case mkS => k_is)
    (case kcS => k_is)
    (case n_e_entries => k_is)
    (case n_e_slips => k_is)
    (case aGetI => k_is)
    (case lGetI => k_is)
    (case cGetI => k_is)
    (case kGetI => k_is)
    (case iGetI => k_is)
    (case hGetI => k_is)
    (case aTotal => k_is)
    (case lTotal => k_is)
    (case cTotal => k_is)
    (case kTotal => k_is)
    (case iTotal => k_is)
    (case hTotal => k_is)
