import PyProof.Rows.All
import Wide.All
import OpenK.AllK
import Wide.FinOn
import HandS.ForMost
import HandS.ForExc
import HandS.EndBits
import HandS.MakeKwOnly
import HandS.Property
import HandS.Style
import HandS.StrMore
import HandS.IsInst
import HandS.Flow
import HandS.Small
import HandS.RaiseMore
import HandS.NoneIn
import HandS.DictTup
import HandS.CallSlots
import HandS.ExcSuper
import HandS.Codes
import HandS.Walk
import HandS.Replace
import PySem.Challenge.RW_meantword_k06_whole_prices_hang_together
set_option Elab.async false
set_option linter.all false
set_option maxRecDepth 100000
set_option maxHeartbeats 4000000
namespace G69
open PySem PySem.Spec PyProof.Rows L2
/-! ### the text by places -/
def topS (i : Nat) : Stmt := PySem.Challenge.pw_meantword_k06_whole_prices_hang_together.main.body.getD i (.Pass ⟨0, 0, 0, 0⟩)
/-! ### heaps: all but some addresses is kept -/
def Kp (S : List Addr) (H H' : Hp) : Prop := ∀ a o, H a = some o → a ∉ S → H' a = some o
theorem Kp.rfl' {S : List Addr} {H : Hp} : Kp S H H := fun _ _ h _ => h
theorem Kp.trans {S : List Addr} {H H1 H2 : Hp} (x : Kp S H H1) (y : Kp S H1 H2) : Kp S H H2 := fun a o h n => y a o (x a o h n) n
theorem Kp.new {S : List Addr} {H : Hp} {p : Addr} {o : HO} (h : H p = none) : Kp S H (upd H p o) := fun a u e _ => by
  rw [upd_ne (ne_of_none e h)]
  exact e
theorem Kp.put {S : List Addr} {H : Hp} {p : Addr} {o : HO} (h : p ∈ S) : Kp S H (upd H p o) := fun a u e n => by
  rw [upd_ne (fun z => n (by rw [z]; exact h))]
  exact e
/-- an address that H does not know may change -/
theorem Kp.mut {S : List Addr} {H H' : Hp} {p : Addr} {o : HO} (x : Kp S H H') (h : H p = none) : Kp S H (upd H' p o) := fun a u e n => by
  rw [upd_ne (ne_of_none e h)]
  exact x a u e n
theorem Kp.mono {S S' : List Addr} {H H' : Hp} (x : Kp S H H') (h : ∀ a ∈ S, a ∈ S') : Kp S' H H' := fun a o e n => x a o e (fun z => n (h a z))
theorem Kp.free {H H' : Hp} {p : Addr} (x : Kp [] H H') (h : H' p = none) : H p = none := by
  cases e : H p with
  | none => rfl
  | some o =>
    have := x p o e (fun z => by cases z)
    rw [h] at this
    cases this
/-- an address that was free and is not among S stays out of what was known -/
theorem Kp.back {S : List Addr} {H H' : Hp} {p : Addr} (x : Kp S H H') (n : p ∉ S) (h : H' p = none) : H p = none := by
  cases e : H p with
  | none => rfl
  | some o =>
    have := x p o e n
    rw [h] at this
    cases this
theorem Kp.rd {S : List Addr} {H H' : Hp} {a : Addr} {u : HO} (x : Kp S H H') (n : a ∉ S) (h : Rd H a u) : Rd H' a u := by
  rcases h with h | ⟨o, h⟩
  · exact .inl (x a _ h n)
  · exact .inr ⟨o, x a _ h n⟩
theorem Kp.l {K : PySem.W.Frag} {S : List Addr} {H H' : Hp} {a : Addr} {xs : List V} (x : Kp S H H') (n : a ∉ S) (h : SqL K H a xs) : SqL K H' a xs := by
  rcases h with h | h
  · exact .inl (x.rd n h)
  · exact .inr h
theorem Kp.t {K : PySem.W.Frag} {S : List Addr} {H H' : Hp} {a : Addr} {xs : List V} (x : Kp S H H') (n : a ∉ S) (h : SqT K H a xs) : SqT K H' a xs := by
  rcases h with h | h
  · exact .inl (x.rd n h)
  · exact .inr h
theorem intAt {ns : List Int} {i : Nat} {x : V} (hi : (ns.map V.int)[i]? = some x) : ∃ z, ns[i]? = some z ∧ x = V.int z := by
  rw [List.getElem?_map] at hi
  cases e : ns[i]? with
  | none => rw [e] at hi; cases hi
  | some z => rw [e] at hi; exact ⟨z, rfl, (Option.some.inj hi).symm⟩
theorem perm_erase {α : Type} : ∀ (l : List α) (i : Nat) (h : i < l.length), (l[i] :: l.eraseIdx i).Perm l
  | x :: r, 0, _ => List.Perm.refl _
  | x :: r, i + 1, h => by
    have ih := perm_erase r i (Nat.lt_of_succ_lt_succ h)
    exact (List.Perm.swap _ _ _).trans (List.Perm.cons x ih)
theorem map_erase {α β : Type} (f : α → β) : ∀ (l : List α) (i : Nat), (l.map f).eraseIdx i = (l.eraseIdx i).map f
  | [], _ => rfl
  | x :: r, 0 => rfl
  | x :: r, i + 1 => congrArg (f x :: ·) (map_erase f r i)
theorem notnil {a : Addr} : a ∉ ([] : List Addr) := fun z => by cases z
theorem not1 {a b : Addr} (h : a ≠ b) : a ∉ [b] := fun z => by
  cases z with
  | head => exact h rfl
  | tail _ z => cases z
theorem not2 {a b c : Addr} (h : a ≠ b) (g : a ≠ c) : a ∉ [b, c] := fun z => by
  cases z with
  | head => exact h rfl
  | tail _ z =>
    cases z with
    | head => exact g rfl
    | tail _ z => cases z
/-- fewer than some size is within the line -/
theorem szle {n : Nat} (h : n ≤ 1000000) : n ≤ sizeLine := Nat.le_trans h (by decide)
theorem szlt {n : Nat} (h : n ≤ 1000000) : n < sizeLine := Nat.lt_of_le_of_lt h (by decide)
end G69
namespace G69
open PySem PySem.Spec PyProof.Rows L2
/-! ### the drawing -/
abbrev kLarge : Key := Sum.inr "large"
abbrev kCells : Key := Sum.inr "cells"
abbrev kRest : Key := Sum.inr "rest"
abbrev kTurn : Key := Sum.inr "turn"
abbrev kMix : Key := Sum.inr "mix"
def drawK (l c : Addr) (r t m : Int) : List (Key × V) := [(kLarge, .ref l), (kCells, .ref c), (kRest, .int r), (kTurn, .int t), (kMix, .int m)]
structure DrX (H : Hp) (d l c : Addr) (ls cs : List Int) (r t m : Int) : Prop where
  dd : H d = some (.dK (drawK l c r t m))
  hl : H l = some (.lst (ls.map V.int))
  hc : H c = some (.lst (cs.map V.int))
  ne : l ≠ c
  ll : ls.length ≤ 100
  lc : cs.length ≤ 100
  mm : 0 ≤ m ∧ m < 2147483629
  pr : 0 ≤ r
  pl : ∀ z ∈ ls, 0 ≤ z
def Dr (H : Hp) (d l c : Addr) : Prop := ∃ ls cs r t m, DrX H d l c ls cs r t m
theorem DrX.dl {H : Hp} {d l c : Addr} {ls cs : List Int} {r t m : Int} (x : DrX H d l c ls cs r t m) : d ≠ l := ne_of x.dd x.hl (by intro z; cases z)
theorem DrX.dc {H : Hp} {d l c : Addr} {ls cs : List Int} {r t m : Int} (x : DrX H d l c ls cs r t m) : d ≠ c := ne_of x.dd x.hc (by intro z; cases z)
theorem valRest {l c : Addr} {r t m : Int} : valV (drawK l c r t m) kRest = some (.int r) := by rfl
theorem valLarge {l c : Addr} {r t m : Int} : valV (drawK l c r t m) kLarge = some (.ref l) := by rfl
theorem valCells {l c : Addr} {r t m : Int} : valV (drawK l c r t m) kCells = some (.ref c) := by rfl
theorem valTurn {l c : Addr} {r t m : Int} : valV (drawK l c r t m) kTurn = some (.int t) := by rfl
theorem valMix {l c : Addr} {r t m : Int} : valV (drawK l c r t m) kMix = some (.int m) := by rfl
theorem putRest {l c : Addr} {r t m r' : Int} : putK (drawK l c r t m) kRest (.int r') = drawK l c r' t m := by rfl
theorem putTurn {l c : Addr} {r t m r' : Int} : putK (drawK l c r t m) kTurn (.int r') = drawK l c r r' m := by rfl
theorem putMix {l c : Addr} {r t m r' : Int} : putK (drawK l c r t m) kMix (.int r') = drawK l c r t r' := by rfl
section
variable {H H' : Hp} {d l c p : Addr} {ls cs : List Int} {r t m r' : Int} {o : HO} {S : List Addr}
theorem DrX.new (x : DrX H d l c ls cs r t m) (h : H p = none) : DrX (upd H p o) d l c ls cs r t m :=
  ⟨by rw [upd_ne (ne_of_none x.dd h)]; exact x.dd, by rw [upd_ne (ne_of_none x.hl h)]; exact x.hl, by rw [upd_ne (ne_of_none x.hc h)]; exact x.hc, x.ne, x.ll, x.lc, x.mm, x.pr, x.pl⟩
theorem DrX.upd_d (x : DrX H d l c ls cs r t m) {r' t' m' : Int} (h1 : 0 ≤ r') (h2 : 0 ≤ m' ∧ m' < 2147483629) : DrX (upd H d (.dK (drawK l c r' t' m'))) d l c ls cs r' t' m' :=
  ⟨upd_same, by rw [upd_ne x.dl.symm]; exact x.hl, by rw [upd_ne x.dc.symm]; exact x.hc, x.ne, x.ll, x.lc, h2, h1, x.pl⟩
theorem DrX.upd_l (x : DrX H d l c ls cs r t m) {ls' : List Int} (h1 : ls'.length ≤ 100) (h2 : ∀ z ∈ ls', 0 ≤ z) : DrX (upd H l (.lst (ls'.map V.int))) d l c ls' cs r t m :=
  ⟨by rw [upd_ne x.dl]; exact x.dd, upd_same, by rw [upd_ne x.ne.symm]; exact x.hc, x.ne, h1, x.lc, x.mm, x.pr, h2⟩
theorem DrX.keep (x : DrX H d l c ls cs r t m) (k : Kp S H H') (nd : d ∉ S) (nl : l ∉ S) (nc : c ∉ S) : DrX H' d l c ls cs r t m :=
  ⟨k _ _ x.dd nd, k _ _ x.hl nl, k _ _ x.hc nc, x.ne, x.ll, x.lc, x.mm, x.pr, x.pl⟩
theorem Dr.new (x : Dr H d l c) (h : H p = none) : Dr (upd H p o) d l c := let ⟨ls, cs, r, t, m, x⟩ := x; ⟨ls, cs, r, t, m, x.new h⟩
theorem Dr.keep (x : Dr H d l c) (k : Kp S H H') (nd : d ∉ S) (nl : l ∉ S) (nc : c ∉ S) : Dr H' d l c := let ⟨ls, cs, r, t, m, x⟩ := x; ⟨ls, cs, r, t, m, x.keep k nd nl nc⟩
theorem Dr.nes (x : Dr H d l c) (h : H p = none) : p ≠ d ∧ p ≠ l ∧ p ≠ c := let ⟨_, _, _, _, _, x⟩ := x; ⟨(ne_of_none x.dd h).symm, (ne_of_none x.hl h).symm, (ne_of_none x.hc h).symm⟩
theorem Dr.off (x : Dr H d l c) (h : p ≠ d ∧ p ≠ l ∧ p ≠ c) : Dr (upd H p o) d l c := by
  obtain ⟨ls, cs, r, t, m, x⟩ := x
  exact ⟨ls, cs, r, t, m, by rw [upd_ne h.1.symm]; exact x.dd, by rw [upd_ne h.2.1.symm]; exact x.hl, by rw [upd_ne h.2.2.symm]; exact x.hc, x.ne, x.ll, x.lc, x.mm, x.pr, x.pl⟩
theorem off2 (h : p ≠ d ∧ p ≠ l ∧ p ≠ c) : p ∉ [d, l] := not2 h.1 h.2.1
theorem Dr.keep0 (x : Dr H d l c) (k : Kp [] H H') : Dr H' d l c := x.keep k notnil notnil notnil
end
end G69
namespace G69
open PySem PySem.Spec PyProof.Rows L2
section
variable {P : Program} {w : World} {K : PySem.W.Frag} {mg : Str → Option Value} {base : Heap}
/-! ### data: lists of ints -/
theorem dpInts {H : Hp} : ∀ ns : List Int, DpAll K H (ns.map V.int) (ns.map PyData.int)
  | [] => .nil
  | n :: r => .cons (.int n) (dpInts r)
theorem layInts : ∀ ns : List Int, PyData.canLayAll0 (ns.map PyData.int) = true
  | [] => by simp only [List.map_nil, PyData.canLayAll0]
  | n :: r => by simp only [List.map_cons, PyData.canLayAll0, PyData.canLay0, layInts r, Bool.and_self]
theorem depthInts : ∀ ns : List Int, PyData.depthAll (ns.map PyData.int) = 0
  | [] => by simp only [List.map_nil, PyData.depthAll]
  | n :: r => by simp only [List.map_cons, PyData.depthAll, PyData.depth, depthInts r, Nat.max_self]
theorem shapedInts (ns : List Int) : SeqAt.shaped (.list (ns.map PyData.int)) = true := by
  unfold SeqAt.shaped
  simp only [PyData.canLay0, layInts, PyData.depth, depthInts]
  decide
theorem eqvNil (ns : List Int) : PyData.eqv (.list (ns.map PyData.int)) (.list []) = ns.isEmpty := by
  cases ns with
  | nil => simp only [List.map_nil, PyData.eqv, PyData.eqvAll, List.isEmpty_nil]
  | cons n r => simp only [List.map_cons, PyData.eqv, PyData.eqvAll, List.isEmpty_cons]
theorem seq0 (x : Int) (xs : List Int) : seqIndex? 0 (List.map V.int (x :: xs)).length = some 0 := by
  rw [List.length_map, List.length_cons]
  have h : (0 : Int) < ((xs.length + 1 : Nat) : Int) := by omega
  simp [seqIndex?, h]
/-! ### _law_take -/
abbrev sTake : Stmt := topS 18
theorem scTake : FnScope ["_law_draw", "_law_size", "_law_found", "_law_cell"] ["_law_draw", "_law_size"] (defScope sTake) := ⟨rfl, rfl, rfl, by decide +kernel, rfl, by decide +kernel, by decide +kernel⟩
def spTake : Sp := fun vs H Q _ => ∃ (d l c : Addr) (n : Int), vs = [.ref d, .int n] ∧ Dr H d l c ∧ 0 < n ∧ n < 1073741824 ∧
  ∀ (r : Int) (H' : Hp), 0 ≤ r → r < n → Dr H' d l c → Kp [d, l] H H' → Q (.int r) H'
set_option maxHeartbeats 1000000 in
theorem ok_take {f : Addr} {fd : FuncData} {k : Nat} (F : Fun K "_law_take" "_law_take" sTake f fd) (mI : mg "int" = none) (mD : mg "divmod" = none) :
    FnOk P w K mg base CX0 (k + 1) f fd ["_law_draw", "_law_size"] spTake := by
  refine F.ok scTake (fun vs H Q E h => ?_) (fun cdv A outer s H vs Q E hr h => ?_)
  · obtain ⟨d, l, c, n, rfl, _⟩ := h
    rfl
  · obtain ⟨d, l, c, n, rfl, ⟨ls, cs, r, t, m, D⟩, hn0, hn1, q⟩ := h
    have hu := hu_of hr
    refine ⟨_, C8.pss_cut (ps_if (PW.pt (pw_and (pt_cmpR op_eq (pe_dget hu (pv 0) pe_str (fun _ _ => rfl)) pe_int (nomark _))
          (pw_and1 (pt_cmpR (op_neD hr.units) (pe_dget hu (pv 0) pe_str (fun _ _ => rfl)) (pe_lst pa_nil) (nomark _)))))
        (pss_one (ps_dput hu (pv 0) pe_str (pe_bm PySem.F.plainAttrs_list PySem.F.slot_list_pop PySem.F.type_list_pop mt_popAt (pe_dget hu (pv 0) pe_str (fun _ _ => rfl)) (pa_cons pe_int pa_nil)) rfl))
        (pss_one (ps_if (pt_cmpR op_eq (pe_dget hu (pv 0) pe_str (fun _ _ => rfl)) pe_int (nomark _))
          (pss_cons (ps_dput hu (pv 0) pe_str (pe_op op_add (pe_dget hu (pv 0) pe_str (fun _ _ => rfl)) pe_int) rfl)
          (pss_cons (ps_for PassesOwn.never rfl (pi_list (pe_op op_cat (pe_lst (pa_cons (pe_dget hu (pv 0) pe_str (fun _ _ => rfl)) pa_nil)) (pe_dget hu (pv 0) pe_str (fun _ _ => rfl))))
              (pg_name (i := 3) scTake.nd rfl (.inl rfl))
              (pss_one (ps_dput hu (pv 0) pe_str (pe_op op_mod (pe_callTy call_int1 (by rfl) mI (by decide +kernel) (pa_cons (pe_op op_add (pe_op op_add
                (pe_op op_mul (pe_dget hu (pv 0) pe_str (fun _ _ => rfl)) pe_int) (pe_op op_mul (pv 3) pe_int)) pe_int) pa_nil)) pe_int) rfl)))
          (pss_one (ps_dput hu (pv 0) pe_str (pe_op op_mod (pe_callTy call_int1 (by rfl) mI (by decide +kernel) (pa_cons (pe_op op_pow (pe_dget hu (pv 0) pe_str (fun _ _ => rfl)) pe_int) pa_nil)) pe_int) rfl))))
          pss_nil)))
      (pss_cons (ps_asg (pe_callB call_divmod (by rfl) mD (by decide +kernel) (pa_cons (pe_dget hu (pv 0) pe_str (fun _ _ => rfl)) (pa_cons (pv 1) pa_nil)))
          (pg_tup rfl (pgs_cons (pg_sub (pv 0) pe_str (set_dict hu)) (pgs_cons (pg_name (i := 2) scTake.nd rfl (.inl rfl)) pgs_nil))))
        (pss_one (ps_ret (pv 2)))), ?_⟩
    refine ⟨fun σ H2 => ∃ y ls' r' t' m', σ = [some (.ref d), some (.int n), none, y] ∧ DrX H2 d l c ls' cs r' t' m' ∧ Kp [d, l] H H2, ?_, ?_⟩
    · -- rest == 0 and large != []
      refine ⟨_, rfl, d, .int r, rfl, DGet.k (k := kRest) D.dd, rfl, _, rfl, ite2 (fun e => ?_) (fun e => ?_)⟩
      · -- the way with rest = 0
        refine ⟨_, rfl, d, .ref l, rfl, DGet.k (k := kLarge) D.dd, by decide, fun p hp => ?_⟩
        have D1 : DrX (upd H p (.lst [])) d l c ls cs r t m := D.new hp
        have k1 : Kp [d, l] H (upd H p (.lst [])) := Kp.new hp
        refine ⟨_, _, .lst (.inl (.inl D1.hl)) (dpInts ls), .lst (.inl (.inl upd_same)) .nil, shapedInts ls, by decide +kernel, _, rfl, ?_⟩
        rw [eqvNil]
        cases ls with
        | cons x xs =>
          refine iteT ?_
          refine ⟨_, rfl, d, .ref l, rfl, DGet.k (k := kLarge) D1.dd, .inl ⟨rfl, _, .inl (.inl D1.hl)⟩, l, _, 0, 0, .int x, rfl, rfl, D1.hl, by decide, by decide, seq0 _ _, rfl, ?_⟩
          have D2 : DrX (upd (upd H p (.lst [])) l (.lst (xs.map V.int))) d l c xs cs r t m :=
            D1.upd_l (by have := D.ll; rw [List.length_cons] at this; omega) (fun z hz => D.pl z (List.mem_cons_of_mem _ hz))
          refine ⟨_, rfl, d, _, rfl, DPut.k (k := kRest) D2.dd (by show 5 < sizeLine; decide), ?_⟩
          exact ⟨none, xs, x, t, m, rfl, D2.upd_d (D.pl x List.mem_cons_self) D.mm, k1.trans ((Kp.put (by simp)).trans (Kp.put (by simp)))⟩
        | nil =>
          refine iteF ?_
          refine ⟨_, rfl, d, .int r, rfl, DGet.k (k := kRest) D1.dd, rfl, _, rfl, ?_⟩
          rw [e]
          refine iteT ?_
          refine ⟨_, rfl, d, .int t, rfl, DGet.k (k := kTurn) D1.dd, _, _, rfl, rfl, _, rfl, d, _, rfl, DPut.k (k := kTurn) D1.dd (by show 5 < sizeLine; decide), ?_⟩
          have D2 : DrX (upd (upd H p (.lst [])) d (.dK (drawK l c r (t + 1) m))) d l c [] cs r (t + 1) m := D1.upd_d D.pr D.mm
          have k2 : Kp [d, l] H (upd (upd H p (.lst [])) d (.dK (drawK l c r (t + 1) m))) := k1.trans (Kp.put (by simp))
          -- the list that is walked
          refine ⟨_, rfl, d, .int (t + 1), rfl, DGet.k (k := kTurn) D2.dd, szle (by show 1 ≤ 1000000; decide), fun p1 hp1 => ?_⟩
          have D3 := D2.new (o := .lst [.int (t + 1)]) hp1
          have k3 := k2.trans (Kp.new (o := .lst [.int (t + 1)]) hp1)
          refine ⟨_, rfl, d, .ref c, rfl, DGet.k (k := kCells) D3.dd, p1, c, _, _, rfl, rfl, upd_same, D3.hc, ?_, fun p2 hp2 => ?_⟩
          · have := D.lc
            exact szle (by rw [List.length_map]; show 1 + cs.length ≤ 1000000; omega)
          · have D4 := D3.new (o := .lst ([V.int (t + 1)] ++ cs.map V.int)) hp2
            have k4 := k3.trans (Kp.new (o := .lst ([V.int (t + 1)] ++ cs.map V.int)) hp2)
            have nd : p2 ≠ d := (ne_of_none D3.dd hp2).symm
            have e2 : ([V.int (t + 1)] ++ cs.map V.int) = ((t + 1) :: cs).map V.int := rfl
            refine ⟨p2, rfl, ⟨_, .inl (.inl upd_same)⟩, for_list (K := K) (a := p2) (xs := ((t + 1) :: cs).map V.int)
              (fun i σ H5 => ∃ (y : Option V) (m' : Int), σ = [some (.ref d), some (.int n), none, y] ∧ DrX H5 d l c [] cs r (t + 1) m' ∧ Kp [d, l] H H5 ∧ H5 p2 = some (.lst (((t + 1) :: cs).map V.int)))
              ⟨none, m, rfl, D4, k4, upd_same⟩ (fun i σ H5 _ h5 => ?_) ?_ ?_⟩
            · obtain ⟨y, m', rfl, D5, k5, e5⟩ := h5
              exact .inl (.inl e5)
            · rintro i x σ H5 hi ⟨y, m', rfl, D5, k5, e5⟩
              obtain ⟨z, rfl⟩ : ∃ z, x = V.int z := by
                rw [List.getElem?_map] at hi
                cases e : ((t + 1) :: cs)[i]? with
                | none => rw [e] at hi; cases hi
                | some z => rw [e] at hi; exact ⟨z, (Option.some.inj hi).symm⟩
              refine ⟨_, rfl, d, .int m', rfl, DGet.k (k := kMix) D5.dd, _, _, rfl, rfl, .inr ⟨by decide, by decide⟩, _, rfl, _, _, rfl, rfl, .inr ⟨by decide, by decide⟩, _, _, rfl, rfl, _, _, rfl, rfl, .inl ⟨_, rfl, ?_⟩⟩
              refine ⟨_, _, rfl, rfl, (by show (0 : Int) < 2147483629; decide), _, rfl, d, _, rfl, DPut.k (k := kMix) D5.dd (by show 5 < sizeLine; decide), ?_⟩
              exact ⟨_, _, rfl, D5.upd_d D5.pr ⟨Int.emod_nonneg _ (by decide), Int.emod_lt_of_pos _ (by decide)⟩, k5.trans (Kp.put (by simp)), by rw [upd_ne nd]; exact e5⟩
            · rintro σ H5 ⟨y, m', rfl, D5, k5, e5⟩
              refine ⟨_, rfl, d, .int m', rfl, DGet.k (k := kMix) D5.dd, _, _, rfl, rfl, ⟨by decide, by decide, ?_⟩, .inl ⟨_, rfl, ?_⟩⟩
              · have := D5.mm
                omega
              · refine ⟨_, _, rfl, rfl, (by show (0 : Int) < 2305843009213693951; decide), _, rfl, d, _, rfl, DPut.k (k := kRest) D5.dd (by show 5 < sizeLine; decide), ?_⟩
                exact ⟨y, [], _, t + 1, m', rfl, D5.upd_d (Int.emod_nonneg _ (by decide)) D5.mm, k5.trans (Kp.put (by simp))⟩
      · refine iteF ?_
        refine ⟨_, rfl, d, .int r, rfl, DGet.k (k := kRest) D.dd, rfl, _, rfl, ?_⟩
        rw [eq_false_of_ne_true e]
        refine iteF ?_
        exact ⟨none, ls, r, t, m, rfl, D, Kp.rfl'⟩
    · rintro σ' H2 ⟨y, ls', r', t', m', rfl, D2, k2⟩
      have hp2 : ∀ p, H2 p = none → p ≠ d := fun p hp => (ne_of_none D2.dd hp).symm
      refine ⟨_, rfl, d, .int r', rfl, DGet.k (k := kRest) D2.dd, _, rfl, r', n, rfl, ⟨hn0, hn1⟩, fun p hp => ?_⟩
      refine ⟨p, [.int (r' / n), .int (r' % n)], rfl, .inl (.inl upd_same), rfl, _, [.int (r' % n)], rfl, .ref d, rfl, d, _, rfl, DPut.k (k := kRest) (D2.new hp).dd (by show 5 < sizeLine; decide), _, [], rfl, rfl, _, rfl, ?_⟩
      exact q (r' % n) _ (Int.emod_nonneg _ (by omega)) (Int.emod_lt_of_pos _ hn0) ⟨_, _, _, _, _, (D2.new hp).upd_d (Int.ediv_nonneg D2.pr (by omega)) D2.mm⟩ (k2.trans ((Kp.new hp).trans (Kp.put (by simp))))
end
end G69
namespace G69
open PySem PySem.Spec PyProof.Rows L2
/-- a comprehension without a test -/
theorem yes1 {σ : L2.St} {H : Hp} {A B : Hp → Prop} (h : A H) : tYes σ H (fun b H3 => if b = true then A H3 else B H3) := by
  show if true = true then A H else B H
  rw [if_pos rfl]
  exact h
section
variable {X : Cx}
/-! ### own rules of the layer -/
theorem valsSigns {z : Str} {acc : Array Value} (h : ItemsOf (SignAt z) acc z.cps.size) : Vals (z.cps.toList.map fun c => V.str ⟨#[c]⟩) acc.toList := by
  obtain ⟨hl, hi⟩ := h
  have gen : ∀ (cs : List Nat) (us : List Value), cs.length = us.length → (∀ (i : Nat) (u : Value), us[i]? = some u → ∃ c t, cs[i]? = some c ∧ u = Value.str ⟨#[c]⟩ t) → Vals (cs.map fun c => V.str ⟨#[c]⟩) us := by
    intro cs
    induction cs with
    | nil =>
      intro us hlen _
      cases us with
      | nil => exact .nil
      | cons u r => cases hlen
    | cons c r ih =>
      intro us hlen hall
      cases us with
      | nil => cases hlen
      | cons u us =>
        obtain ⟨c', t, e1, e2⟩ := hall 0 u rfl
        have e3 : c = c' := Option.some.inj e1
        subst e3
        exact .cons ⟨t, e2⟩ (ih us (Nat.succ.inj hlen) fun i v hv => hall (i + 1) v hv)
  refine gen _ _ ?_ fun i u hu => ?_
  · rw [Array.length_toList, Array.length_toList, hl]
  · obtain ⟨c, t, e1, e2⟩ := hi i u (by rw [← Array.getElem?_toList]; exact hu)
    exact ⟨c, t, by rw [Array.getElem?_toList]; exact e1, e2⟩
/-- list(text) -/
theorem call_listS (hc : X.calm = true) : CallR X (.type "list") (fun xs H Q => ∃ z : Str, xs = [.str z] ∧ z.length ≤ sizeLine ∧ ∀ l, H l = none → Q (.ref l) (upd H l (.lst (z.cps.toList.map fun c => V.str ⟨#[c]⟩)))) := by
  intro pins s σ H xs us Q I r h
  obtain ⟨z, rfl, hz, q⟩ := h
  obtain ⟨u, rfl, ⟨t, rfl⟩⟩ := vals1 r
  refine call_list_str (I.ok.hd hc) z t (fun h' tk acc' c' kp e it => ?_) hz
  have hr := valsSigns it
  refine ⟨.ref s.heap.objs.size, _, I.laid (t' := tk) kp (Nat.le_refl _) (show ObjOk X.prog X.w _ h' _ (.lst _) from ⟨?_, acc'.toList, c', hr, ?_⟩), rfl, q _ (I.hok.fresh (Nat.le_refl _))⟩
  · rw [List.length_map, Array.length_toList]
    exact hz
  · rw [Array.toArray_toList]
    exact e
/-- the text read backwards -/
def revS (z : Str) : Str := ⟨z.cps.toList.reverse.toArray⟩
theorem revS_list (z : Str) : (revS z).cps.toList = z.cps.toList.reverse := rfl
theorem revS_eq (z : Str) (u : Tok) : Txt.sliceBy z none none (-1, u) = revS z := by
  apply ext_toList
  rw [step_rev_list, revS_list]
  apply List.ext_getElem?
  intro i
  rw [List.getElem?_map]
  have hz : z.length = z.cps.toList.length := by first | rfl | exact (Array.length_toList).symm
  by_cases hi : i < z.length
  · rw [List.getElem?_range hi, List.getElem?_reverse (by omega)]
    show some (z.cps.getD (z.length - 1 - i) 0) = _
    rw [← hz, Array.getElem?_toList, Array.getD_eq_getD_getElem?, Array.getElem?_eq_getElem (show z.length - 1 - i < z.cps.size by show _ < z.length; omega)]
    rfl
  · rw [List.getElem?_eq_none (by rw [List.length_range]; omega), List.getElem?_eq_none (by rw [List.length_reverse]; omega)]
    rfl
theorem revS_length (z : Str) : (revS z).length = z.length := by
  show (z.cps.toList.reverse.toArray).size = z.cps.size
  rw [List.size_toArray, List.length_reverse, Array.length_toList]
def tRevS (te : TE) : TE := fun σ H Q => te σ H fun x H1 => ∃ z : Str, x = .str z ∧ z.length ≤ sizeLine ∧ Q (.str (revS z)) H1
/-- text[::-1] -/
theorem pe_revS {e : Expr} {te : TE} {k : Nat} {p1 p2 p3 pos : Pos} (he : PE X e te) :
    PE X (.Subscript e (.Slice none none (some (.UnaryOp .USub (.Constant (.int 1) k p1) p2)) p3) pos) (tRevS te) := by
  refine ⟨fun pins s σ H Q I h => ?_⟩
  refine Subscript_ (thn (he.run pins s σ H _ I h) fun v s1 ⟨x, H1, I1, r1, z, ex, hz, q⟩ => ?_)
  subst ex
  obtain ⟨t, rfl⟩ := r1
  have hst : PO X (some (.UnaryOp .USub (.Constant (.int 1) k p1) p2)) (tPart (tUn (rU fun i => .int (-i)) (tC (.int 1)))) := po_some (pe_un un_neg pe_int)
  refine wpAny_Slice (thn (po_none.run pins s1 σ H1 (fun o H2 => o = none ∧ H2 = H1) I1 ⟨rfl, rfl⟩) fun vl s2 ⟨l, H2, I2, pl, el, e2⟩ => ?_)
  subst el
  subst e2
  refine thn (po_none.run pins s2 σ H2 (fun o H3 => o = none ∧ H3 = H2) I2 ⟨rfl, rfl⟩) fun vu s3 ⟨u, H3, I3, pu, eu, e3⟩ => ?_
  subst eu
  subst e3
  refine thn (hst.run pins s3 σ H3 (fun o H4 => o = some (-1) ∧ H4 = H3) I3 ⟨1, rfl, -1, rfl, rfl, rfl⟩) fun vs s4 ⟨o, H4, I4, ps, eo, e4⟩ => ?_
  subst eo
  subst e4
  obtain ⟨l', rfl, hl'⟩ := IsPart.raw pl
  obtain ⟨u', rfl, hu'⟩ := IsPart.raw pu
  obtain ⟨s', rfl, hs'⟩ := IsPart.raw ps
  obtain rfl : l' = none := by cases l' with
    | none => rfl
    | some x => cases hl'
  obtain rfl : u' = none := by cases u' with
    | none => rfl
    | some x => cases hu'
  obtain ⟨⟨i, tk⟩, rfl⟩ : ∃ y, s' = some y := by cases s' with
    | none => cases hs'
    | some x => exact ⟨x, rfl⟩
  obtain rfl : i = -1 := Option.some.inj hs'
  have I5 : Inv X pins σ H4 { s4 with heap := s4.heap.push { cls := .type "slice", data := .fields #[partValue none, partValue none, partValue (some (-1, tk))] } } := I4.kept (t' := s4.toks) fun b ob q => Heap.get?_push_of_some _ q
  refine tail_any (ops := [.str z t, .ref s4.heap.objs.size]) (typeIs_str _ z t) (F.slot_str_getitem.lookup) ?_ (by with_unfolding_all rfl)
  refine wpAny_getItem_str_slice (l := none) (u := none) (st := some (-1, tk)) ⟨_, Heap.get?_push_size _ rfl, rfl, rfl⟩ rfl ?_
  have hm : sliceMade z t none none (some (-1, tk)) = Made.str (Txt.sliceBy z none none (-1, tk)) := by rfl
  rw [hm, revS_eq]
  exact ⟨by rw [revS_length]; exact hz, .str _, H4, I5.tok _, ⟨_, rfl⟩, q⟩
/-! in a comprehension's block: the written part by its own name -/
theorem ix_listK {K : PySem.W.Frag} (h : X.K = K) : IxR X (rIxL K) := by
  subst h
  exact ix_list
theorem ix_tupK {K : PySem.W.Frag} (h : X.K = K) : IxR X (rIxT K) := by
  subst h
  exact ix_tup
theorem pe_bmK {K : PySem.W.Frag} {T : String} {name : Str} {id : String} {r : V → List V → Hp → VK → Prop} {o e : Expr} {es : List Expr} {apos cpos : Pos} {to : TE} {t : TA} (hK : X.K = K) (pa : PlainAttrs T) (slot : Slot T name id) (hty : typeOf (.builtin id) = pure (.type "method_descriptor"))
    (hm : MtR X id r) (ho : PE X o to) (ha : PA X (e :: es) t) (hbase : attributeBase o name X.env (eval o X.env) = eval o X.env := by rfl)
    (hfew : ((backTo cpos (starEach (e :: es) X.env)).all (fun x => !x.1) && (backToKw cpos (keywordEach [] X.env)).all (fun x => x.1.isSome) && decide ((e :: es).length + ([] : List Keyword).length + (if ([] : List Keyword).isEmpty then 0 else 1) < 30)) = true := by rfl)
    (hline : (apos.endLine == cpos.line) = true := by rfl) (hs : starEach (e :: es) X.env = (false, eval e X.env) :: starEach es X.env := by rfl) (hplain : (backTo cpos (starEach es X.env)).any (·.1) = false := by rfl) :
    PE X (.Call (.Attribute o name apos) (e :: es) [] cpos) (tBM K T r to t) := by
  subst hK
  exact pe_bm pa slot hty hm ho ha hbase hfew hline hs hplain
end
end G69
namespace G69
open PySem PySem.Spec PyProof.Rows L2
section
variable {P : Program} {w : World} {K : PySem.W.Frag} {mg : Str → Option Value} {base : Heap}
/-! ### _law_begin -/
abbrev sBegin : Stmt := topS 17
abbrev nBegin : List Str := ["_law_script", "_law_large", "_law_cell"]
theorem scBegin : FnScope nBegin ["_law_script"] (defScope sBegin) := ⟨rfl, rfl, rfl, by decide +kernel, rfl, by decide +kernel, by decide +kernel⟩
def spBegin (K : PySem.W.Frag) : Sp := fun vs H Q _ => ∃ (a : Addr) (ns : List Int), vs = [.ref a] ∧ SqL K H a (ns.map V.int) ∧ ns.length ≤ 63 ∧
  ∀ (d l c : Addr) (H' : Hp), H d = none → H l = none → H c = none → Dr H' d l c → Kp [] H H' → Q (.ref d) H'
theorem ok_begin {f : Addr} {fd : FuncData} {k : Nat} (F : Fun K "_law_begin" "_law_begin" sBegin f fd) (mA : mg "abs" = none) (mL : mg "list" = none) :
    FnOk P w K mg base CX0 (k + 1) f fd ["_law_script"] (spBegin K) := by
  refine F.ok scBegin (fun vs H Q E h => ?_) (fun cdv A outer s H vs Q E hr h => ?_)
  · obtain ⟨a, ns, rfl, _⟩ := h
    rfl
  · obtain ⟨a, ns, rfl, hS, hlen, q⟩ := h
    have hu := hu_of hr
    refine ⟨_, pss_cons (ps_setLc (i := 1) (own := [("_law_cell", 2)]) (g := gName 2) rfl scBegin.nd rfl rfl (sw_true rfl rfl rfl (by decide +kernel)) (pi_list (pv 0))
          (blkOk_by (N := nBegin) (sc := defScope sBegin) (by decide +kernel)) (fun _ _ _ _ _ => pg_name (i := 2) scBegin.nd rfl (Or.inl rfl))
          (fun _ _ _ _ _ => pts_one (pt_cmpR op_ge (pe_callB call_abs (by rfl) mA (by decide +kernel) (pa_cons (pv 2) pa_nil)) (pe_op op_pow pe_int pe_int) (nomark _)))
          (fun _ _ _ _ _ => pe_callB call_abs (by rfl) mA (by decide +kernel) (pa_cons (pv 2) pa_nil)))
      (pss_one (ps_ret (pe_disp (pps_cons pe_str (pv 1) (pps_cons pe_str (pe_callTy call_list_of (by rfl) mL (by decide +kernel) (pa_cons (pv 0) pa_nil))
        (pps_cons pe_str pe_int (pps_cons pe_str pe_int (pps_cons pe_str pe_int pps_nil))))) (by rfl) (by rfl) (fun z => by cases z) (by decide)))), ?_⟩
    refine ⟨.ref a, rfl, a, rfl, ⟨_, hS⟩, fun D hD => lc_list (K := K) (a := a) (xs := ns.map V.int)
      (fun i H2 => ∃ ls : List Int, H2 D = some (.lst (ls.map V.int)) ∧ ls.length ≤ i ∧ (∀ z ∈ ls, 0 ≤ z) ∧ Kp [] H H2)
      ⟨[], upd_same, Nat.le_refl _, (fun z hz => nomatch hz), Kp.new hD⟩ ?_ ?_ ?_⟩
    · rintro i H2 _ ⟨ls, e, _, _, k2⟩
      exact k2.l notnil hS
    · rintro i x H2 hi ⟨ls, e, hl, hp, k2⟩
      obtain ⟨z, hz, rfl⟩ := intAt hi
      have hil : i < ns.length := (List.getElem?_eq_some_iff.mp hz).1
      refine ⟨rfl, _, rfl, z, rfl, _, _, rfl, rfl, ⟨by decide, by decide, by decide⟩, _, _, rfl, rfl, _, rfl, ite2 (fun e1 => ?_) (fun e1 => ?_)⟩
      · refine ⟨_, rfl, z, rfl, _, e, szlt (by rw [List.length_map]; omega), ls ++ [if z < 0 then -z else z], ?_, ?_, ?_, k2.mut hD⟩
        · rw [upd_same, List.map_append]
          rfl
        · rw [List.length_append]
          show ls.length + 1 ≤ i + 1
          omega
        · intro y hy
          rcases List.mem_append.mp hy with h | h
          · exact hp y h
          · rw [List.mem_singleton] at h
            subst h
            split <;> omega
      · exact ⟨ls, e, by omega, hp, k2⟩
    · rintro H2 ⟨ls, e, hl, hp, k2⟩
      rw [List.length_map] at hl
      refine fun d hd => ?_
      have k3 : Kp [] H (upd H2 d (.dK [])) := k2.trans (Kp.new hd)
      refine ⟨_, rfl, _, rfl, a, _, rfl, .inl (k3.l notnil hS), fun c hc => ?_⟩
      have hdc : d ≠ c := ne_of_none upd_same hc
      have hDd : D ≠ d := ne_of_none e hd
      have hc2 : H2 c = none := by rw [upd_ne hdc.symm] at hc; exact hc
      have hDc : D ≠ c := ne_of_none e hc2
      refine ⟨by rw [upd_ne hdc]; exact upd_same, [(kLarge, .ref D), (kCells, .ref c), (kRest, .int 0), (kTurn, .int 0), (kMix, .int 7)], rfl, (by show 5 ≤ 15; decide), ?_⟩
      refine q d D c _ (k2.free hd) hD (k2.free hc2) ⟨ls, ns, 0, 0, 7, upd_same, ?_, ?_, hDc, by omega, by omega, ⟨by decide, by decide⟩, by decide, hp⟩ ((k3.trans (Kp.new hc)).mut (k2.free hd))
      · rw [upd_ne hDd, upd_ne hDc, upd_ne hDd]
        exact e
      · rw [upd_ne hdc.symm, upd_same]
end
end G69
namespace G69
open PySem PySem.Spec PyProof.Rows L2
/-- the built-in names are not the module's -/
structure Bt (mg : Str → Option Value) : Prop where
  abs : mg "abs" = none
  all : mg "all" = none
  any : mg "any" = none
  bool : mg "bool" = none
  dict : mg "dict" = none
  divmod : mg "divmod" = none
  enumerate : mg "enumerate" = none
  int : mg "int" = none
  isinst : mg "isinstance" = none
  len : mg "len" = none
  list : mg "list" = none
  max : mg "max" = none
  min : mg "min" = none
  range : mg "range" = none
  repr : mg "repr" = none
  set : mg "set" = none
  sorted : mg "sorted" = none
  str : mg "str" = none
  sum : mg "sum" = none
  tuple : mg "tuple" = none
  zip : mg "zip" = none
/-! ### a def that may be called -/
structure Cal (P : Program) (w : World) (K : PySem.W.Frag) (mg : Str → Option Value) (base : Heap) (x : Str) (ps : List Str) (k : Nat) (sp : Sp) : Prop where
  ex : ∃ (f : Addr) (fd : FuncData), FnOk P w K mg base CX0 k f fd ps sp ∧ mg x = some (.ref f) ∧ PySem.W.keepIn K (.ref f) = true ∧ Binds K fd ps []
structure Def (K : PySem.W.Frag) (mg : Str → Option Value) (x : Str) (st : Stmt) (ps : List Str) (f : Addr) (fd : FuncData) : Prop where
  F : Fun K x x st f fd
  g : mg x = some (.ref f)
  b : Binds K fd ps []
theorem Def.cal {P : Program} {w : World} {K : PySem.W.Frag} {mg : Str → Option Value} {base : Heap} {x : Str} {st : Stmt} {ps : List Str} {f : Addr} {fd : FuncData} {k : Nat} {sp : Sp} (D : Def K mg x st ps f fd) (G : FnOk P w K mg base CX0 k f fd ps sp) :
    Cal P w K mg base x ps k sp := ⟨f, fd, G, D.g, D.F.kp, D.b⟩
theorem Cal.imp {P : Program} {w : World} {K : PySem.W.Frag} {mg : Str → Option Value} {base : Heap} {x : Str} {ps : List Str} {k : Nat} {sp sp' : Sp} (C : Cal P w K mg base x ps k sp) (h : ∀ vs H Q E, sp' vs H Q E → sp vs H Q E) :
    Cal P w K mg base x ps k sp' := let ⟨f, fd, G, a, b, c⟩ := C.ex; ⟨f, fd, G.imp h, a, b, c⟩
/-- f(e, ..) -/
theorem pe_cal {X : Cx} {x : Str} {ps : List Str} {k j : Nat} {sp : Sp} {e : Expr} {es : List Expr} {t : TA} {p pos : Pos} (C : Cal X.prog X.w X.K X.mg X.base x ps k sp) (hr : Room j X.A) (hj : k ≤ j) (hg : Gl X x) (ha : PA X (e :: es) t)
    (hdb : (x == ("__debug__" : Str)) = false := by decide) (he : starEach (e :: es) X.env = (false, eval e X.env) :: starEach es X.env := by rfl) (hpl : (backTo pos (starEach es X.env)).any (·.1) = false := by rfl) :
    PE X (.Call (.Name x p) (e :: es) [] pos) (tCall sp [] E0 t) := by
  obtain ⟨f, fd, G, g, kp, b⟩ := C.ex
  exact pe_call G (hr.mono hj) hg g kp b .nil pass0 ha hdb he hpl
end G69
namespace G69
open PySem PySem.Spec PyProof.Rows L2
section
variable {P : Program} {w : World} {K : PySem.W.Frag} {mg : Str → Option Value} {base : Heap}
/-! ### _law_pick -/
abbrev sPick : Stmt := topS 19
theorem scPick : FnScope ["_law_draw", "_law_some"] ["_law_draw", "_law_some"] (defScope sPick) := ⟨rfl, rfl, rfl, by decide +kernel, rfl, by decide +kernel, by decide +kernel⟩
/-- a sign as a text -/
abbrev sg (c : Nat) : Str := ⟨#[c]⟩
def spPick (K : PySem.W.Frag) : Sp := fun vs H Q _ => ∃ (d l c : Addr) (y : V), vs = [.ref d, y] ∧ Dr H d l c ∧
  ((∃ (a : Addr) (xs : List V), y = .ref a ∧ SqL K H a xs ∧ a ≠ d ∧ a ≠ l ∧ xs ≠ [] ∧ xs.length ≤ 1000 ∧ ∀ (i : Nat) (x : V) (H' : Hp), xs[i]? = some x → Dr H' d l c → Kp [d, l] H H' → Q x H') ∨
   (∃ (a : Addr) (xs : List V), y = .ref a ∧ SqT K H a xs ∧ a ≠ d ∧ a ≠ l ∧ xs ≠ [] ∧ xs.length ≤ 1000 ∧ ∀ (i : Nat) (x : V) (H' : Hp), xs[i]? = some x → Dr H' d l c → Kp [d, l] H H' → Q x H') ∨
   (∃ (z : Str), y = .str z ∧ z.cps.toList ≠ [] ∧ z.length ≤ 1000 ∧ ∀ (i : Nat) (x : Nat) (H' : Hp), z.cps.toList[i]? = some x → Dr H' d l c → Kp [d, l] H H' → Q (.str (sg x)) H'))
theorem at_lt {α : Type} {xs : List α} {r : Int} (h0 : 0 ≤ r) (h1 : r < xs.length) : ∃ x, xs[r.toNat]? = some x ∧ atI xs r = some x := by
  have h : r.toNat < xs.length := by omega
  refine ⟨xs[r.toNat], List.getElem?_eq_getElem h, ?_⟩
  have e : ((r.toNat : Nat) : Int) = r := Int.toNat_of_nonneg h0
  have := atI_nat (xs := xs) (j := r.toNat) (List.getElem?_eq_getElem h)
  rw [e] at this
  exact this
theorem ok_pick {f : Addr} {fd : FuncData} (F : Fun K "_law_pick" "_law_pick" sPick f fd) (CT : Cal P w K mg base "_law_take" ["_law_draw", "_law_size"] 1 spTake) (mL : mg "len" = none) :
    FnOk P w K mg base CX0 2 f fd ["_law_draw", "_law_some"] (spPick K) := by
  refine F.ok scPick (fun vs H Q E h => ?_) (fun cdv A outer s H vs Q E hr h => ?_)
  · obtain ⟨d, l, c, y, rfl, _⟩ := h
    rfl
  · obtain ⟨d, l, c, y, rfl, D, h⟩ := h
    refine ⟨_, pss_one (ps_ret (pe_ix ix_seq (pv 1) (pe_cal CT hr (by decide) (by rfl) (pa_cons (pv 0) (pa_cons (pe_callB call_len (by rfl) mL PySem.boot_len (pa_cons (pv 1) pa_nil)) pa_nil))) (fun _ _ => rfl))), ?_⟩
    rcases h with ⟨a, xs, rfl, hS, nd, nl, h0, h1, q⟩ | ⟨a, xs, rfl, hS, nd, nl, h0, h1, q⟩ | ⟨z, rfl, h0, h1, q⟩
    · have hp : 0 < xs.length := List.length_pos_iff.mpr h0
      refine ⟨.ref a, rfl, .ref d, rfl, .ref a, rfl, _, xs.length, rfl, .inl ⟨xs, hS, rfl⟩, d, l, c, xs.length, rfl, D, by omega, by omega, fun r H' r0 r1 D' k => ?_⟩
      obtain ⟨x, e1, e2⟩ := at_lt r0 r1
      exact .inl ⟨a, xs, r, x, rfl, rfl, k.l (not2 nd nl) hS, e2, q _ x H' e1 D' k⟩
    · have hp : 0 < xs.length := List.length_pos_iff.mpr h0
      refine ⟨.ref a, rfl, .ref d, rfl, .ref a, rfl, _, xs.length, rfl, .inr ⟨xs, hS, rfl⟩, d, l, c, xs.length, rfl, D, by omega, by omega, fun r H' r0 r1 D' k => ?_⟩
      obtain ⟨x, e1, e2⟩ := at_lt r0 r1
      exact .inr (.inl ⟨a, xs, r, x, rfl, rfl, k.t (not2 nd nl) hS, e2, q _ x H' e1 D' k⟩)
    · have hp : 0 < z.cps.toList.length := List.length_pos_iff.mpr h0
      have hz : z.length = z.cps.toList.length := by first | rfl | exact (Array.length_toList).symm
      refine ⟨.str z, rfl, .ref d, rfl, .str z, rfl, _, z.length, rfl, ⟨szle (by omega), rfl⟩, d, l, c, z.length, rfl, D, by omega, by omega, fun r H' r0 r1 D' k => ?_⟩
      obtain ⟨x, e1, e2⟩ := at_lt (xs := z.cps.toList) r0 (by omega)
      exact .inr (.inr ⟨z, r, x, rfl, rfl, szle (by omega), e2, q _ x H' e1 D' k⟩)
end
end G69
namespace G69
open PySem PySem.Spec PyProof.Rows L2
/-! ### letters -/
def abc : Str := "abcdefghijklmnopqrstuvwxyz"
def isL (c : Nat) : Prop := 97 ≤ c ∧ c ≤ 122
instance (c : Nat) : Decidable (isL c) := inferInstanceAs (Decidable (97 ≤ c ∧ c ≤ 122))
theorem abc_L : ∀ c ∈ abc.cps.toList, isL c := by decide +kernel
theorem abc_len : abc.length = 26 := by decide +kernel
theorem abc_llen : abc.cps.toList.length = 26 := by decide +kernel
theorem abc_ne : abc.cps.toList ≠ [] := by decide +kernel
theorem abc_nd : abc.cps.toList.Nodup := by decide +kernel
abbrev sgs (cs : List Nat) : List V := cs.map fun c => V.str ⟨#[c]⟩
theorem sgs_snoc (cs : List Nat) (x : Nat) : sgs (cs ++ [x]) = sgs cs ++ [V.str (sg x)] := by
  show List.map _ _ = _
  rw [List.map_append]
  rfl
section
variable {P : Program} {w : World} {K : PySem.W.Frag} {mg : Str → Option Value} {base : Heap}
/-! ### _law_any_letters -/
abbrev sAnyL : Stmt := topS 23
abbrev nAnyL : List Str := ["_law_draw", "_law_many", "_law_turn"]
theorem scAnyL : FnScope nAnyL ["_law_draw", "_law_many"] (defScope sAnyL) := ⟨rfl, rfl, rfl, by decide +kernel, rfl, by decide +kernel, by decide +kernel⟩
def spAnyL : Sp := fun vs H Q _ => ∃ (d l c : Addr) (n : Nat), vs = [.ref d, .int n] ∧ Dr H d l c ∧ n ≤ 1000 ∧
  ∀ (p : Addr) (cs : List Nat) (H' : Hp), H p = none → cs.length = n → (∀ c ∈ cs, isL c) → H' p = some (.lst (sgs cs)) → Dr H' d l c → Kp [d, l] H H' → Q (.ref p) H'
theorem ok_anyL {f : Addr} {fd : FuncData} (F : Fun K "_law_any_letters" "_law_any_letters" sAnyL f fd) (CP : Cal P w K mg base "_law_pick" ["_law_draw", "_law_some"] 2 (spPick K)) (mR : mg "range" = none) :
    FnOk P w K mg base CX0 3 f fd ["_law_draw", "_law_many"] spAnyL := by
  refine F.ok scAnyL (fun vs H Q E h => ?_) (fun cdv A outer s H vs Q E hr h => ?_)
  · obtain ⟨d, l, c, n, rfl, _⟩ := h
    rfl
  · obtain ⟨d, l, c, n, rfl, D0, hn, q⟩ := h
    refine ⟨_, pss_one (ps_ret (pe_lc (own := [("_law_turn", 2)]) (g := gName 2) (tt := tYes) (by rfl) scAnyL.nd (pi_range1 (by rfl) mR (pa_cons (pv 1) pa_nil))
      (blkOk_by (own := [("_law_turn", 2)]) (N := nAnyL) (sc := defScope sAnyL) (by decide +kernel)) (fun _ _ _ _ _ => pg_name (i := 2) scAnyL.nd rfl (Or.inl rfl)) (fun _ _ _ _ _ => pts_nil)
      (fun _ _ _ _ _ => pe_cal CP hr (by decide) (by rfl) (pa_cons (pv 0) (pa_cons pe_str pa_nil))))), ?_⟩
    refine ⟨_, rfl, n, rfl, by omega, by omega, fun L hL => lc_range (lo := 0) (n := n)
      (fun i H2 => ∃ cs : List Nat, cs.length = i ∧ (∀ c ∈ cs, isL c) ∧ H2 L = some (.lst (sgs cs)) ∧ Dr H2 d l c ∧ Kp [d, l] H H2)
      ⟨[], rfl, (fun z hz => nomatch hz), upd_same, D0.new hL, Kp.new hL⟩ ?_ ?_⟩
    · rintro i H2 hi ⟨cs, hc, ha, e, D, k⟩
      have hne := D0.nes hL
      refine ⟨rfl, yes1 ?_⟩
      refine ⟨_, rfl, d, l, c, _, rfl, D, .inr (.inr ⟨abc, rfl, abc_ne, by rw [abc_len]; decide, fun j x H4 hx D4 k4 => ?_⟩)⟩
      refine ⟨_, k4 _ _ e (off2 hne), szlt (by rw [List.length_map]; omega), cs ++ [x], by rw [List.length_append, hc]; rfl, fun y hy => ?_, by rw [upd_same, ← sgs_snoc], D4.off hne, (k.trans k4).mut hL⟩
      rcases List.mem_append.mp hy with h | h
      · exact ha y h
      · rw [List.mem_singleton.mp h]
        exact abc_L x (List.mem_of_getElem? hx)
    · rintro H2 ⟨cs, hc, ha, e, D, k⟩
      exact q L cs H2 hL hc ha e D k
/-! ### _law_letters -/
abbrev sLett : Stmt := topS 20
abbrev nLett : List Str := ["_law_draw", "_law_many", "_law_left", "_law_found", "_law_turn"]
theorem scLett : FnScope nLett ["_law_draw", "_law_many"] (defScope sLett) := ⟨rfl, rfl, rfl, by decide +kernel, rfl, by decide +kernel, by decide +kernel⟩
def spLett : Sp := fun vs H Q _ => ∃ (d l c : Addr) (n : Nat), vs = [.ref d, .int n] ∧ Dr H d l c ∧ n ≤ 26 ∧
  ∀ (p : Addr) (cs : List Nat) (H' : Hp), H p = none → cs.length = n → cs.Nodup → (∀ c ∈ cs, isL c) → H' p = some (.lst (sgs cs)) → Dr H' d l c → Kp [d, l] H H' → Q (.ref p) H'
theorem ok_lett {f : Addr} {fd : FuncData} (F : Fun K "_law_letters" "_law_letters" sLett f fd) (CT : Cal P w K mg base "_law_take" ["_law_draw", "_law_size"] 1 spTake) (mR : mg "range" = none) (mL : mg "list" = none) (mN : mg "len" = none) :
    FnOk P w K mg base CX0 2 f fd ["_law_draw", "_law_many"] spLett := by
  refine F.ok scLett (fun vs H Q E h => ?_) (fun cdv A outer s H vs Q E hr h => ?_)
  · obtain ⟨d, l, c, n, rfl, _⟩ := h
    rfl
  · obtain ⟨d, l, c, n, rfl, D0, hn, q⟩ := h
    refine ⟨_, pss_cons (ps_par (i := 2) (j := 3) (by rfl) scLett.nd rfl rfl (by decide) rfl rfl (pa_cons (pe_callTy (call_listS rfl) (by rfl) mL (by decide +kernel) (pa_cons pe_str pa_nil)) (pa_cons (pe_lst pa_nil) pa_nil)) (by rfl))
      (pss_cons (ps_for PassesOwn.never rfl (pi_range1 (by rfl) mR (pa_cons (pv 1) pa_nil)) (pg_name (i := 4) scLett.nd rfl (.inl rfl))
        (pss_one (ps_expr (pe_bm PySem.F.plainAttrs_list PySem.F.slot_list_append PySem.F.type_list_append mt_append (pv 3) (pa_cons (pe_bm PySem.F.plainAttrs_list PySem.F.slot_list_pop PySem.F.type_list_pop mt_popAt (pv 2)
          (pa_cons (pe_cal CT hr (by decide) (by rfl) (pa_cons (pv 0) (pa_cons (pe_callB call_len_seq (by rfl) mN PySem.boot_len (pa_cons (pv 2) pa_nil)) pa_nil))) pa_nil)) pa_nil)))))
      (pss_one (ps_ret (pv 3)))), ?_⟩
    refine ⟨abc, rfl, by rw [abc_len]; decide, fun a1 h1 => ⟨by decide, fun a2 h2 => ⟨_, _, rfl, ?_⟩⟩⟩
    have n1 := D0.nes h1
    have D1 := D0.new (o := .lst (sgs abc.cps.toList)) h1
    have n2 := D1.nes h2
    have e12 : a1 ≠ a2 := ne_of_none upd_same h2
    have h2' : H a2 = none := by rw [upd_ne e12.symm] at h2; exact h2
    have D2 := D1.new (o := .lst []) h2
    have k2 : Kp [d, l] H (upd (upd H a1 (.lst (sgs abc.cps.toList))) a2 (.lst [])) := (Kp.new h1).trans (Kp.new h2)
    refine ⟨_, rfl, n, rfl, by omega, by omega, for_range (lo := 0) (n := n)
      (fun i σ H3 => ∃ (y : Option V) (cs1 cs2 : List Nat), σ = [some (.ref d), some (.int n), some (.ref a1), some (.ref a2), y] ∧ cs1.length = 26 - i ∧ cs2.length = i ∧ (cs1 ++ cs2).Perm abc.cps.toList ∧
        H3 a1 = some (.lst (sgs cs1)) ∧ H3 a2 = some (.lst (sgs cs2)) ∧ Dr H3 d l c ∧ Kp [d, l] H H3)
      ⟨none, abc.cps.toList, [], rfl, by rw [abc_llen], rfl, by rw [List.append_nil], by rw [upd_ne e12, upd_same], upd_same, D2, k2⟩ ?_ ?_⟩
    · rintro i σ H3 hi ⟨y, cs1, cs2, rfl, l1, l2, pm, g1, g2, D3, k3⟩
      refine ⟨_, rfl, .inl ⟨rfl, _, .inl (.inl g2)⟩, _, rfl, .inl ⟨rfl, _, .inl (.inl g1)⟩, _, rfl, _, rfl, a1, _, rfl, .inl (.inl (.inl g1)), d, l, c, _, rfl, D3, ?_, ?_, fun r H4 r0 r1 D4 k4 => ?_⟩
      · rw [List.length_map, l1]
        omega
      · rw [List.length_map, l1]
        omega
      · rw [List.length_map] at r1
        have hr1 : r.toNat < cs1.length := by omega
        have f1 := k4 _ _ g1 (off2 n1)
        have f2 := k4 _ _ g2 (off2 n2)
        have hix : seqIndex? r (sgs cs1).length = some r.toNat := by
          rw [List.length_map]
          simp [seqIndex?, r0, r1, show ¬ r < 0 by omega]
        have hg : (sgs cs1)[r.toNat]? = some (V.str (sg cs1[r.toNat])) := by
          rw [List.getElem?_map, List.getElem?_eq_getElem hr1]
          rfl
        refine ⟨a1, _, r, r.toNat, _, rfl, rfl, f1, by omega, by omega, hix, hg, a2, _, _, rfl, rfl, by rw [upd_ne e12.symm]; exact f2, szlt (by rw [List.length_map]; omega), ?_⟩
        refine ⟨_, cs1.eraseIdx r.toNat, cs2 ++ [cs1[r.toNat]], rfl, ?_, ?_, ?_, ?_, ?_, (D4.off n1).off n2, ((k3.trans k4).mut h1).mut h2'⟩
        · rw [List.length_eraseIdx_of_lt hr1]
          omega
        · rw [List.length_append, l2]
          rfl
        · refine List.Perm.trans ?_ pm
          have p1 : (cs1[r.toNat] :: cs1.eraseIdx r.toNat).Perm cs1 := perm_erase _ _ hr1
          have p2 : (cs1.eraseIdx r.toNat ++ (cs2 ++ [cs1[r.toNat]])).Perm (cs1[r.toNat] :: cs1.eraseIdx r.toNat ++ cs2) := by
            rw [← List.append_assoc]
            exact List.perm_append_comm
          exact p2.trans (List.Perm.append_right cs2 p1)
        · rw [upd_ne e12, upd_same]
          exact congrArg (fun z => some (HO.lst z)) (map_erase _ _ _)
        · rw [upd_same, sgs_snoc]
    · rintro σ H3 ⟨y, cs1, cs2, rfl, l1, l2, pm, g1, g2, D3, k3⟩
      have nd := pm.nodup_iff.mpr abc_nd
      refine ⟨_, rfl, q a2 cs2 H3 h2' l2 (List.nodup_append.mp nd).2.1 (fun x hx => abc_L x (pm.mem_iff.mp (List.mem_append.mpr (.inr hx)))) g2 D3 k3⟩
end
end G69
namespace G69
open PySem PySem.Spec PyProof.Rows L2
section
variable {P : Program} {w : World} {K : PySem.W.Frag} {mg : Str → Option Value} {base : Heap}
theorem joinSigns (cs : List Nat) : Txt.join "" (cs.map sg) = ⟨cs.toArray⟩ := by
  have gen : ∀ (cs : List Nat) (acc : Array Nat), ((cs.map sg).foldl (fun acc p => acc ++ (Str.ofString "").cps ++ p.cps) acc).toList = acc.toList ++ cs := by
    intro cs
    induction cs with
    | nil => intro acc; simp
    | cons x r ih =>
      intro acc
      rw [List.map_cons, List.foldl_cons, ih]
      have e0 : (Str.ofString "").cps = #[] := by decide +kernel
      rw [e0]
      simp
  apply ext_toList
  show (Builtin.Str.glued (Str.ofString "") (cs.map sg)).cps.toList = cs
  cases cs with
  | nil => rfl
  | cons x r =>
    show ((r.map sg).foldl _ (sg x).cps).toList = x :: r
    rw [gen]
    rfl
theorem joinLen (cs : List Nat) : ((cs.map sg).map (·.length)).sum = cs.length := by
  induction cs with
  | nil => rfl
  | cons x r ih =>
    rw [List.map_cons, List.map_cons, List.sum_cons, ih, List.length_cons]
    show 1 + r.length = r.length + 1
    omega
theorem sgs_eq (cs : List Nat) : sgs cs = (cs.map sg).map V.str := by
  rw [List.map_map]
  rfl
/-! ### _law_string -/
abbrev sString : Stmt := topS 21
abbrev nString : List Str := ["_law_draw", "_law_letters_here", "_law_least", "_law_most", "_law_turn"]
theorem scString : FnScope nString ["_law_draw", "_law_letters_here", "_law_least", "_law_most"] (defScope sString) := ⟨rfl, rfl, rfl, by decide +kernel, rfl, by decide +kernel, by decide +kernel⟩
def spString (K : PySem.W.Frag) : Sp := fun vs H Q _ => ∃ (d l c a : Addr) (cs : List Nat) (lo hi : Nat), vs = [.ref d, .ref a, .int lo, .int hi] ∧ Dr H d l c ∧ SqL K H a (sgs cs) ∧ a ≠ d ∧ a ≠ l ∧ cs ≠ [] ∧ cs.length ≤ 1000 ∧ lo ≤ hi ∧ hi ≤ 1000 ∧
  ∀ (z : Str) (H' : Hp), lo ≤ z.length → z.length ≤ hi → (∀ x ∈ z.cps.toList, x ∈ cs) → Dr H' d l c → Kp [d, l] H H' → Q (.str z) H'
theorem ok_string {f : Addr} {fd : FuncData} (F : Fun K "_law_string" "_law_string" sString f fd) (CT : Cal P w K mg base "_law_take" ["_law_draw", "_law_size"] 1 spTake) (CP : Cal P w K mg base "_law_pick" ["_law_draw", "_law_some"] 2 (spPick K)) (mR : mg "range" = none) :
    FnOk P w K mg base CX0 3 f fd ["_law_draw", "_law_letters_here", "_law_least", "_law_most"] (spString K) := by
  refine F.ok scString (fun vs H Q E h => ?_) (fun cdv A outer s H vs Q E hr h => ?_)
  · obtain ⟨d, l, c, a, cs, lo, hi, rfl, _⟩ := h
    rfl
  · obtain ⟨d, l, c, a, cs, lo, hi, rfl, D0, hS, nad, nal, c0, c1, h01, h1, q⟩ := h
    refine ⟨_, pss_one (ps_ret (pe_bm PySem.F.plainAttrs_str PySem.F.slot_str_join PySem.F.type_str_join mt_join pe_str (pa_cons (pe_lc (own := [("_law_turn", 4)]) (g := gName 4) (tt := tYes) (by rfl) scString.nd
      (pi_range1 (by rfl) mR (pa_cons (pe_op op_add (pv 2) (pe_cal CT hr (by decide) (by rfl) (pa_cons (pv 0) (pa_cons (pe_op op_add (pe_op op_sub (pv 3) (pv 2)) pe_int) pa_nil)))) pa_nil))
      (blkOk_by (own := [("_law_turn", 4)]) (N := nString) (sc := defScope sString) (by decide +kernel)) (fun _ _ _ _ _ => pg_name (i := 4) scString.nd rfl (Or.inl rfl)) (fun _ _ _ _ _ => pts_nil)
      (fun _ _ _ _ _ => pe_cal CP hr (by decide) (by rfl) (pa_cons (pv 0) (pa_cons (pv 1) pa_nil)))) pa_nil))), ?_⟩
    refine ⟨rfl, _, rfl, _, rfl, _, rfl, _, rfl, _, _, rfl, rfl, _, _, rfl, rfl, d, l, c, _, rfl, D0, by omega, by omega, fun r H1 r0 r1 D1 k1 => ?_⟩
    have hb : ((lo : Int) + r) = ((lo + r.toNat : Nat) : Int) := by omega
    refine ⟨_, _, rfl, rfl, ((lo + r.toNat : Nat) : Int), by show [V.int ((lo : Int) + r)] = _; rw [hb], by omega, by omega, fun L hL => lc_range (lo := 0) (n := lo + r.toNat)
      (fun i H2 => ∃ xs : List Nat, xs.length = i ∧ (∀ x ∈ xs, x ∈ cs) ∧ H2 L = some (.lst (sgs xs)) ∧ Dr H2 d l c ∧ Kp [d, l] H H2)
      ⟨[], rfl, (fun z hz => nomatch hz), upd_same, D1.new hL, k1.trans (Kp.new hL)⟩ ?_ ?_⟩
    · rintro i H2 hi2 ⟨xs, hc, ha, e, D, k⟩
      have hne := D1.nes hL
      refine ⟨rfl, yes1 ?_⟩
      refine ⟨_, rfl, _, rfl, d, l, c, _, rfl, D, .inl ⟨a, sgs cs, rfl, k.l (not2 nad nal) hS, nad, nal, by rw [Ne, List.map_eq_nil_iff]; exact c0, by rw [List.length_map]; exact c1, fun j x H4 hx D4 k4 => ?_⟩⟩
      obtain ⟨y, hy, rfl⟩ : ∃ y, cs[j]? = some y ∧ x = V.str (sg y) := by
        rw [List.getElem?_map] at hx
        cases e : cs[j]? with
        | none => rw [e] at hx; cases hx
        | some y => rw [e] at hx; exact ⟨y, rfl, (Option.some.inj hx).symm⟩
      refine ⟨_, k4 _ _ e (off2 hne), szlt (by rw [List.length_map]; omega), xs ++ [y], by rw [List.length_append, hc]; rfl, fun v hv => ?_, by rw [upd_same, ← sgs_snoc], D4.off hne, (k.trans k4).mut (k1.back (off2 hne) hL)⟩
      rcases List.mem_append.mp hv with h | h
      · exact ha v h
      · rw [List.mem_singleton.mp h]
        exact List.mem_of_getElem? hy
    · rintro H2 ⟨xs, hc, ha, e, D, k⟩
      refine ⟨"", L, xs.map sg, rfl, rfl, .inl (.inl (.inl (by rw [e, sgs_eq]))), ?_, ?_⟩
      · rw [joinLen, hc]
        show lo + r.toNat + _ * 0 ≤ 16777216
        omega
      · rw [joinSigns]
        have hlen : (⟨xs.toArray⟩ : Str).length = xs.length := List.size_toArray ..
        exact q ⟨xs.toArray⟩ H2 (by rw [hlen, hc]; omega) (by rw [hlen, hc]; omega) ha D k
end
end G69
namespace G69
open PySem PySem.Spec PyProof.Rows L2
/-! ### prices -/
def swV : Option Int → V
  | none => .non
  | some i => .int i
structure PrOk (e m w : Int) (s : Option Int) : Prop where
  e0 : 1 ≤ e
  e9 : e ≤ 9
  m0 : 1 ≤ m
  m9 : m ≤ 9
  w0 : 1 ≤ w
  w9 : w ≤ 9
  s0 : ∀ i, s = some i → 1 ≤ i ∧ i ≤ 9
section
variable {P : Program} {w : World} {K : PySem.W.Frag} {mg : Str → Option Value} {base : Heap}
/-! ### _law_far_prices -/
abbrev sFar : Stmt := topS 24
abbrev nFar : List Str := ["_law_draw", "_law_some", "_law_turn"]
theorem scFar : FnScope nFar ["_law_draw"] (defScope sFar) := ⟨rfl, rfl, rfl, by decide +kernel, rfl, by decide +kernel, by decide +kernel⟩
def spFar : Sp := fun vs H Q _ => ∃ (d l c : Addr), vs = [.ref d] ∧ Dr H d l c ∧
  ∀ (p : Addr) (e m w : Int) (s : Option Int) (H' : Hp), H p = none → PrOk e m w s → H' p = some (.tup [.int e, .int m, .int w, swV s]) → Dr H' d l c → Kp [d, l] H H' → Q (.ref p) H'
theorem ok_far {f : Addr} {fd : FuncData} (F : Fun K "_law_far_prices" "_law_far_prices" sFar f fd) (CT : Cal P w K mg base "_law_take" ["_law_draw", "_law_size"] 1 spTake) (CP : Cal P w K mg base "_law_pick" ["_law_draw", "_law_some"] 2 (spPick K)) (mR : mg "range" = none) (mT : mg "tuple" = none) :
    FnOk P w K mg base CX0 3 f fd ["_law_draw"] spFar := by
  refine F.ok scFar (fun vs H Q E h => ?_) (fun cdv A outer s H vs Q E hr h => ?_)
  · obtain ⟨d, l, c, rfl, _⟩ := h
    rfl
  · obtain ⟨d, l, c, rfl, D0, q⟩ := h
    refine ⟨_, pss_cons (ps_setLc (i := 1) (own := [("_law_turn", 2)]) (g := gName 2) (tt := tYes) rfl scFar.nd rfl rfl (sw_true rfl rfl rfl (by decide +kernel)) (pi_range1 (by rfl) mR (pa_cons pe_int pa_nil))
          (blkOk_by (N := nFar) (sc := defScope sFar) (by decide +kernel)) (fun _ _ _ _ _ => pg_name (i := 2) scFar.nd rfl (Or.inl rfl)) (fun _ _ _ _ _ => pts_nil)
          (fun _ _ _ _ _ => pe_cal CP hr (by decide) (by rfl) (pa_cons (pv 0) (pa_cons (pe_lst (pa_cons pe_int (pa_cons pe_int (pa_cons pe_int (pa_cons pe_int (pa_cons pe_int
            (pa_cons (pe_op op_add pe_int (pe_cal CT hr (by decide) (by rfl) (pa_cons (pv 0) (pa_cons pe_int pa_nil)))) pa_nil))))))) pa_nil))))
      (pss_one (ps_ret (pe_op op_catT (pe_callTy call_tuple_of (by rfl) mT (by decide +kernel) (pa_cons (pv 1) pa_nil))
        (pe_tup (pa_cons (pe_cal CP hr (by decide) (by rfl) (pa_cons (pv 0) (pa_cons (pe_lst (pa_cons pe_non (pa_cons pe_int (pa_cons pe_int
            (pa_cons (pe_op op_add pe_int (pe_cal CT hr (by decide) (by rfl) (pa_cons (pv 0) (pa_cons pe_int pa_nil)))) pa_nil))))) pa_nil))) pa_nil))))), ?_⟩
    refine ⟨3, rfl, by decide, by decide, fun L hL => lc_range (lo := 0) (n := 3)
      (fun i H2 => ∃ ns : List Int, ns.length = i ∧ (∀ x ∈ ns, 1 ≤ x ∧ x ≤ 9) ∧ H2 L = some (.lst (ns.map V.int)) ∧ Dr H2 d l c ∧ Kp [d, l] H H2)
      ⟨[], rfl, (fun z hz => nomatch hz), upd_same, D0.new hL, Kp.new hL⟩ ?_ ?_⟩
    · rintro i H2 hi ⟨ns, hc, ha, e, D, k⟩
      have hne := D0.nes hL
      refine ⟨rfl, yes1 ?_⟩
      refine ⟨_, rfl, _, rfl, d, l, c, 9, rfl, D, by decide, by decide, fun r H3 r0 r1 D3 k3 => ⟨_, _, rfl, rfl, szle (by show 6 ≤ 1000000; decide), fun p1 hp1 => ?_⟩⟩
      have n1 := D3.nes hp1
      refine ⟨d, l, c, _, rfl, D3.new hp1, .inl ⟨p1, [1, 1, 2, 3, 9, 1 + r].map V.int, rfl, .inl (.inl upd_same), n1.1, n1.2.1, (by intro z; cases z), (by show 6 ≤ 1000; decide), fun j x H4 hx D4 k4 => ?_⟩⟩
      obtain ⟨y, hy, rfl⟩ := intAt hx
      have hy9 : 1 ≤ y ∧ y ≤ 9 := by
        have := List.mem_of_getElem? hy
        simp only [List.mem_cons, List.not_mem_nil, or_false] at this
        omega
      have k24 : Kp [d, l] H2 H4 := k3.trans ((Kp.new hp1).trans k4)
      refine ⟨_, k24 _ _ e (off2 hne), szlt (by rw [List.length_map]; omega), ns ++ [y], by rw [List.length_append, hc]; rfl, fun v hv => ?_, by rw [upd_same, List.map_append]; rfl, D4.off hne, (k.trans k24).mut hL⟩
      rcases List.mem_append.mp hv with h | h
      · exact ha v h
      · rw [List.mem_singleton.mp h]
        exact hy9
    · rintro H2 ⟨ns, hc, ha, e, D, k⟩
      have hne := D0.nes hL
      refine ⟨_, rfl, L, _, rfl, .inl ⟨.inl (.inl e), fun t1 ht1 => ?_⟩⟩
      have nt1 := D.nes ht1
      refine ⟨_, rfl, _, rfl, d, l, c, 9, rfl, D.new ht1, by decide, by decide, fun r H3 r0 r1 D3 k3 => ⟨_, _, rfl, rfl, szle (by show 4 ≤ 1000000; decide), fun p1 hp1 => ?_⟩⟩
      have n1 := D3.nes hp1
      refine ⟨d, l, c, _, rfl, D3.new hp1, .inl ⟨p1, [.non, .int 1, .int 2, .int (1 + r)], rfl, .inl (.inl upd_same), n1.1, n1.2.1, (by intro z; cases z), (by show 4 ≤ 1000; decide), fun j x H4 hx D4 k4 => ?_⟩⟩
      obtain ⟨sw, rfl, hsw⟩ : ∃ sw : Option Int, x = swV sw ∧ ∀ i, sw = some i → 1 ≤ i ∧ i ≤ 9 := by
        have := List.mem_of_getElem? hx
        simp only [List.mem_cons, List.not_mem_nil, or_false] at this
        rcases this with h | h | h | h
        · exact ⟨none, h, fun i z => by cases z⟩
        · exact ⟨some 1, h, fun i z => by cases z; decide⟩
        · exact ⟨some 2, h, fun i z => by cases z; decide⟩
        · exact ⟨some (1 + r), h, fun i z => by cases z; omega⟩
      refine ⟨szle (by show 1 ≤ 1000000; decide), fun t2 ht2 => ?_⟩
      have kt : Kp [d, l] (upd H2 t1 (.tup (ns.map V.int))) H4 := k3.trans ((Kp.new hp1).trans k4)
      have f1 := kt _ _ upd_same (off2 nt1)
      have f2 : (upd H4 t2 (.tup [swV sw])) t1 = some (.tup (ns.map V.int)) := by
        rw [upd_ne (ne_of_none f1 ht2)]
        exact f1
      obtain ⟨x1, x2, x3, rfl⟩ : ∃ x1 x2 x3, ns = [x1, x2, x3] := by
        match ns, hc with
        | [x1, x2, x3], _ => exact ⟨x1, x2, x3, rfl⟩
      refine ⟨t1, t2, _, _, rfl, rfl, .inl (.inl f2), .inl (.inl upd_same), (by intro z; cases z), szle (by show 4 ≤ 1000000; decide), (fun z => by cases z), fun _ p hp => ?_⟩
      have D5 := D4.new (o := .tup [swV sw]) ht2
      have k5 : Kp [d, l] H (upd H4 t2 (.tup [swV sw])) := k.trans ((Kp.new ht1).trans (kt.trans (Kp.new ht2)))
      have np := D5.nes hp
      refine q p x1 x2 x3 sw _ (k5.back (off2 np) hp) ?_ upd_same (D5.new hp) (k5.trans (Kp.new hp))
      have a1 := ha x1 (by simp)
      have a2 := ha x2 (by simp)
      have a3 := ha x3 (by simp)
      exact ⟨a1.1, a1.2, a2.1, a2.2, a3.1, a3.2, hsw⟩
end
end G69
namespace G69
open PySem PySem.Spec PyProof.Rows L2
/-! ### kinds of values -/
def kl : List String := ["NoneType", "bool", "int", "str", "list", "tuple", "dict"]
def Knd (K : PySem.W.Frag) (H : Hp) (v : V) (T : String) : Prop := TyX K H v (.type T) ∧ T ∈ kl
def isI : V → Bool
  | .int _ => true
  | _ => false
def isS : V → Bool
  | .str _ => true
  | _ => false
section
variable {P : Program} {w : World} {K : PySem.W.Frag} {mg : Str → Option Value} {base : Heap} {H : Hp}
theorem Knd.non : Knd K H .non "NoneType" := ⟨.base .non, by decide⟩
theorem Knd.bl {b : Bool} : Knd K H (.bl b) "bool" := ⟨.base (.bl b), by decide⟩
theorem Knd.int {i : Int} : Knd K H (.int i) "int" := ⟨.base (.int i), by decide⟩
theorem Knd.str {z : Str} : Knd K H (.str z) "str" := ⟨.base (.str z), by decide⟩
theorem Knd.lst {a : Addr} {xs : List V} (h : H a = some (.lst xs)) : Knd K H (.ref a) "list" := ⟨.base (.lst h), by decide⟩
theorem Knd.tup {a : Addr} {xs : List V} (h : H a = some (.tup xs)) : Knd K H (.ref a) "tuple" := ⟨.base (.tup h), by decide⟩
theorem Knd.dK {a : Addr} {xs : List (Key × V)} (h : H a = some (.dK xs)) : Knd K H (.ref a) "dict" := ⟨.base (.dK h), by decide⟩
theorem Knd.isI_eq {v : V} {T : String} (h : Knd K H v T) : isI v = decide (T = "int") := by
  obtain ⟨h, _⟩ := h
  cases h with
  | base h => cases h <;> rfl
  | _ => rfl
theorem Knd.isS_eq {v : V} {T : String} (h : Knd K H v T) : isS v = decide (T = "str") := by
  obtain ⟨h, _⟩ := h
  cases h with
  | base h => cases h <;> rfl
  | _ => rfl
theorem Knd.of_int {v : V} (h : Knd K H v "int") : ∃ i, v = .int i := by
  have e := h.isI_eq
  cases v with
  | int i => exact ⟨i, rfl⟩
  | _ => cases e
theorem Knd.of_str {v : V} (h : Knd K H v "str") : ∃ i, v = .str i := by
  have e := h.isS_eq
  cases v with
  | str i => exact ⟨i, rfl⟩
  | _ => cases e
/-! ### is_integer -/
abbrev sIsInt : Stmt := topS 7
theorem scIsInt : FnScope ["thing"] ["thing"] (defScope sIsInt) := ⟨rfl, rfl, rfl, by decide +kernel, rfl, by decide +kernel, by decide +kernel⟩
def spIsInt (K : PySem.W.Frag) : Sp := fun vs H Q _ => ∃ (v : V) (T : String), vs = [v] ∧ Knd K H v T ∧ Q (.bl (isI v)) H
theorem ok_isInt {f : Addr} {fd : FuncData} (F : Fun K "is_integer" "is_integer" sIsInt f fd) (mS : mg "isinstance" = none) (mI : mg "int" = none) (mB : mg "bool" = none) :
    FnOk P w K mg base CX0 1 f fd ["thing"] (spIsInt K) := by
  refine F.ok scIsInt (fun vs H Q E h => ?_) (fun cdv A outer s H vs Q E hr h => ?_)
  · obtain ⟨v, T, rfl, _⟩ := h
    rfl
  · obtain ⟨v, T, rfl, ht, q⟩ := h
    refine ⟨_, pss_one (ps_ret (pe_and (pe_callB call_isi (by rfl) mS (by decide +kernel) (pa_cons (pv 0) (pa_cons (pe_bltn (v := .ty "int") (by rfl) mI (by decide +kernel) rfl) pa_nil)))
      (pe_one (pe_not (pe_callB call_isi (by rfl) mS (by decide +kernel) (pa_cons (pv 0) (pa_cons (pe_bltn (v := .ty "bool") (by rfl) mB (by decide +kernel) rfl) pa_nil))))))), ?_⟩
    rw [ht.isI_eq] at q
    obtain ⟨ty, hm⟩ := ht
    simp only [kl, List.mem_cons, List.not_mem_nil, or_false] at hm
    rcases hm with rfl | rfl | rfl | rfl | rfl | rfl | rfl
    · exact ⟨_, rfl, v, _, _, _, false, rfl, .ty "int", ty, kit_ty (by decide +kernel), false, rfl, iteF q⟩
    · exact ⟨_, rfl, v, _, _, _, true, rfl, .ty "int", ty, kit_ty (by decide +kernel), true, rfl, iteT ⟨_, rfl, v, _, _, _, true, rfl, .ty "bool", ty, kit_ty (by decide +kernel), true, rfl, q⟩⟩
    · exact ⟨_, rfl, v, _, _, _, true, rfl, .ty "int", ty, kit_ty (by decide +kernel), true, rfl, iteT ⟨_, rfl, v, _, _, _, false, rfl, .ty "bool", ty, kit_ty (by decide +kernel), false, rfl, q⟩⟩
    · exact ⟨_, rfl, v, _, _, _, false, rfl, .ty "int", ty, kit_ty (by decide +kernel), false, rfl, iteF q⟩
    · exact ⟨_, rfl, v, _, _, _, false, rfl, .ty "int", ty, kit_ty (by decide +kernel), false, rfl, iteF q⟩
    · exact ⟨_, rfl, v, _, _, _, false, rfl, .ty "int", ty, kit_ty (by decide +kernel), false, rfl, iteF q⟩
    · exact ⟨_, rfl, v, _, _, _, false, rfl, .ty "int", ty, kit_ty (by decide +kernel), false, rfl, iteF q⟩
/-! ### is_price -/
abbrev sIsPrice : Stmt := topS 9
theorem scIsPrice : FnScope ["thing"] ["thing"] (defScope sIsPrice) := ⟨rfl, rfl, rfl, by decide +kernel, rfl, by decide +kernel, by decide +kernel⟩
def isP : V → Bool
  | .int i => decide (1 ≤ i) && decide (i ≤ 9)
  | _ => false
def spIsPrice (K : PySem.W.Frag) : Sp := fun vs H Q _ => ∃ (v : V) (T : String), vs = [v] ∧ Knd K H v T ∧ Q (.bl (isP v)) H
theorem ok_isPrice {f : Addr} {fd : FuncData} (F : Fun K "is_price" "is_price" sIsPrice f fd) (CI : Cal P w K mg base "is_integer" ["thing"] 1 (spIsInt K)) {t : Tok} (mD : mg "DEAREST" = some (.int 9 t)) :
    FnOk P w K mg base CX0 2 f fd ["thing"] (spIsPrice K) := by
  refine F.ok scIsPrice (fun vs H Q E h => ?_) (fun cdv A outer s H vs Q E hr h => ?_)
  · obtain ⟨v, T, rfl, _⟩ := h
    rfl
  · obtain ⟨v, T, rfl, ht, q⟩ := h
    refine ⟨_, pss_one (ps_ret (pe_and (pe_cal CI hr (by decide) (by rfl) (pa_cons (pv 0) pa_nil))
      (pe_one (pe_chain op_le op_le pe_int (pv 0) (pe_glob (v := .int 9) rfl mD ⟨_, rfl⟩))))), ?_⟩
    refine ⟨_, rfl, v, T, rfl, ht, _, rfl, ?_⟩
    cases v with
    | int i =>
      refine iteT ⟨_, rfl, _, _, rfl, rfl, _, rfl, ?_⟩
      have e : isP (.int i) = (decide (1 ≤ i) && decide (i ≤ 9)) := rfl
      rw [e] at q
      by_cases h : (1 : Int) ≤ i
      · rw [decide_eq_true h] at q ⊢
        exact iteT ⟨_, _, rfl, rfl, q⟩
      · rw [decide_eq_false h] at q ⊢
        exact iteF q
    | _ => exact iteF q
end
end G69
namespace G69
open PySem PySem.Spec PyProof.Rows L2
/-! ### texts -/
def isLb (c : Nat) : Bool := decide (97 ≤ c) && decide (c ≤ 122)
theorem abc_mem (c : Nat) : decide (c ∈ abc.cps.toList) = isLb c := by
  have e : abc.cps.toList = (List.range 26).map (· + 97) := by decide +kernel
  rw [e]
  unfold isLb
  rw [Bool.eq_iff_iff]
  simp only [decide_eq_true_eq, Bool.and_eq_true, List.mem_map, List.mem_range]
  constructor
  · rintro ⟨a, h, rfl⟩
    omega
  · rintro ⟨h1, h2⟩
    exact ⟨c - 97, by omega, by omega⟩
def isT : V → Bool
  | .str z => z.cps.toList.all isLb
  | _ => false
def szV : V → Prop
  | .str z => z.length ≤ 100000
  | _ => True
section
variable {P : Program} {w : World} {K : PySem.W.Frag} {mg : Str → Option Value} {base : Heap}
/-! ### is_text -/
abbrev sIsText : Stmt := topS 8
theorem scIsText : FnScope ["thing", "sign"] ["thing"] (defScope sIsText) := ⟨rfl, rfl, rfl, by decide +kernel, rfl, by decide +kernel, by decide +kernel⟩
def spIsText (K : PySem.W.Frag) : Sp := fun vs H Q _ => ∃ (v : V) (T : String), vs = [v] ∧ Knd K H v T ∧ szV v ∧ ∀ H', Kp [] H H' → Q (.bl (isT v)) H'
theorem ok_isText {f : Addr} {fd : FuncData} (F : Fun K "is_text" "is_text" sIsText f fd) (mS : mg "isinstance" = none) (mT : mg "str" = none) (mA : mg "all" = none) {t : Tok} (mL : mg "LETTERS" = some (.str abc t)) :
    FnOk P w K mg base CX0 1 f fd ["thing"] (spIsText K) := by
  refine F.ok scIsText (fun vs H Q E h => ?_) (fun cdv A outer s H vs Q E hr h => ?_)
  · obtain ⟨v, T, rfl, _⟩ := h
    rfl
  · obtain ⟨v, T, rfl, ht, hz, q⟩ := h
    refine ⟨_, pss_one (ps_ret (pe_and (pe_callB call_isi (by rfl) mS (by decide +kernel) (pa_cons (pv 0) (pa_cons (pe_bltn (v := .ty "str") (by rfl) mT (by decide +kernel) rfl) pa_nil)))
      (pe_one (pe_callB (cr_all rfl) (by rfl) mA (by decide +kernel) (pa_cons (pe_lc (own := [("sign", 1)]) (g := gName 1) (tt := tYes) (by rfl) scIsText.nd (pi_str (pv 0))
        (blkOk_by (own := [("sign", 1)]) (N := ["thing", "sign"]) (sc := defScope sIsText) (by decide +kernel)) (fun _ _ _ _ _ => pg_name (i := 1) scIsText.nd rfl (Or.inl rfl)) (fun _ _ _ _ _ => pts_nil)
        (fun _ _ _ _ _ => pe_cmpR op_in_sign (pv 1) (pe_glob (v := .str abc) rfl mL ⟨_, rfl⟩) (by rfl))) pa_nil))))), ?_⟩
    by_cases hT : T = "str"
    · subst hT
      obtain ⟨z, rfl⟩ := ht.of_str
      refine ⟨_, rfl, .str z, _, _, _, true, rfl, .ty "str", ht.1, kit_ty (by decide +kernel), true, rfl, iteT ?_⟩
      refine ⟨_, rfl, z, rfl, fun L hL => lc_it walk_str
        (fun i H2 => H2 L = some (.lst (((z.cps.toList.take i).map isLb).map V.bl)) ∧ Kp [] H H2)
        ⟨upd_same, Kp.new hL⟩ (fun _ _ _ _ => trivial) ?_ ?_⟩
      · rintro i x H2 H2' hi ⟨e, k⟩ ⟨rfl, c, hc, rfl⟩
        refine ⟨rfl, yes1 ⟨_, rfl, c, abc, rfl, rfl, _, e, ?_, ?_, k.mut hL⟩⟩
        · refine szlt ?_
          rw [List.length_map, List.length_map, List.length_take, Array.length_toList]
          have : z.cps.size ≤ 100000 := hz
          omega
        · rw [upd_same, abc_mem]
          have hc' : z.cps.toList[i]? = some c := by rw [Array.getElem?_toList]; exact hc
          rw [List.take_add_one, hc', List.map_append, List.map_append]
          rfl
      · rintro H2 ⟨e, k⟩
        have e' : z.cps.toList.take z.cps.size = z.cps.toList := List.take_of_length_le (by rw [Array.length_toList]; exact Nat.le_refl _)
        rw [e'] at e
        refine ⟨L, _, rfl, .inl (.inl e), ?_⟩
        have e2 : (z.cps.toList.map isLb).all id = isT (.str z) := by
          show _ = z.cps.toList.all isLb
          rw [List.all_map]
          rfl
        rw [e2]
        exact q H2 k
    · have hk : kitB T "str" = some false := by
        have hm := ht.2
        simp only [kl, List.mem_cons, List.not_mem_nil, or_false] at hm
        rcases hm with rfl | rfl | rfl | rfl | rfl | rfl | rfl
        all_goals first | decide +kernel | exact absurd rfl hT
      refine ⟨_, rfl, v, _, _, _, false, rfl, .ty "str", ht.1, kit_ty hk, false, rfl, iteF ?_⟩
      have e : isT v = false := by
        have := ht.isS_eq
        rw [decide_eq_false hT] at this
        cases v with
        | str z => cases this
        | _ => rfl
      have q' := q H Kp.rfl'
      rw [e] at q'
      exact q'
/-! ### need_text, of a text -/
abbrev sNeed : Stmt := topS 10
theorem scNeed : FnScope ["thing"] ["thing"] (defScope sNeed) := ⟨rfl, rfl, rfl, by decide +kernel, rfl, by decide +kernel, by decide +kernel⟩
def spNeed0 : Sp := fun vs H Q _ => ∃ (z : Str), vs = [.str z] ∧ isT (.str z) = true ∧ z.length ≤ 100000 ∧ ∀ H', Kp [] H H' → Q .non H'
theorem ok_need0 {f : Addr} {fd : FuncData} (F : Fun K "need_text" "need_text" sNeed f fd) (CI : Cal P w K mg base "is_text" ["thing"] 1 (spIsText K)) :
    FnOk P w K mg base CX0 2 f fd ["thing"] spNeed0 := by
  refine F.ok scNeed (fun vs H Q E h => ?_) (fun cdv A outer s H vs Q E hr h => ?_)
  · obtain ⟨z, rfl, _⟩ := h
    rfl
  · obtain ⟨z, rfl, ht, hz, q⟩ := h
    refine ⟨_, pss_one (ps_if (pt_not (pt_val (pe_cal CI hr (by decide) (by rfl) (pa_cons (pv 0) pa_nil)))) (pss_one ps_never) pss_nil), ?_⟩
    refine ⟨_, rfl, .str z, _, rfl, Knd.str, hz, fun H' k => ⟨_, rfl, ?_⟩⟩
    rw [ht]
    exact iteF (q H' k)
end
end G69
namespace G69
open PySem PySem.Spec PyProof.Rows L2
/-! ### slips: the class -/
def sfl (e m w : Int) (s : Option Int) : List (Str × V) := [("z_extra", .int e), ("z_missing", .int m), ("z_wrong", .int w), ("z_swapped", swV s)]
structure SlC (K : PySem.W.Frag) (mg : Str → Option Value) (C : Addr) : Prop where
  cl : Cls K C
  nE : NoAttr K C "z_extra"
  nM : NoAttr K C "z_missing"
  nW : NoAttr K C "z_wrong"
  nS : NoAttr K C "z_swapped"
  mgC : mg "Slips" = some (.ref C)
def SlAt (C : Addr) (H : Hp) (x : Addr) (e m w : Int) (s : Option Int) : Prop := ∃ dx, H x = some (.ins C dx (sfl e m w s))
theorem SlAt.keep {C x : Addr} {H H' : Hp} {S : List Addr} {e m w : Int} {s : Option Int} (h : SlAt C H x e m w s) (k : Kp S H H') (n : x ∉ S) : SlAt C H' x e m w s := let ⟨dx, h⟩ := h; ⟨dx, k _ _ h n⟩
section
variable {P : Program} {w : World} {K : PySem.W.Frag} {mg : Str → Option Value} {base : Heap}
abbrev sSInit : Stmt := inClass (topS 11) 0
abbrev nSInit : List Str := ["self", "extra", "missing", "wrong", "swapped"]
abbrev kwS : List (Str × V) := [("extra", .int 1), ("missing", .int 1), ("wrong", .int 1), ("swapped", .non)]
theorem scSInit : FnScope nSInit nSInit (defScope sSInit) := ⟨rfl, rfl, rfl, by decide +kernel, rfl, by decide +kernel, by decide +kernel⟩
def spSInit0 (C : Addr) : Sp := fun vs H Q _ => ∃ (p dx : Addr) (e m w : Int) (s : Option Int), vs = [.ref p, .int e, .int m, .int w, swV s] ∧ PrOk e m w s ∧ H p = some (.ins C dx []) ∧
  ∀ H', H' p = some (.ins C dx (sfl e m w s)) → Kp [p] H H' → Q .non H'
theorem isP_ok {i : Int} (h0 : 1 ≤ i) (h9 : i ≤ 9) : isP (.int i) = true := by
  show (decide (1 ≤ i) && decide (i ≤ 9)) = true
  rw [decide_eq_true h0, decide_eq_true h9]
  rfl
theorem ok_sinit0 {f C : Addr} {fd : FuncData} (F : FunD K "__init__" "Slips.__init__" (defArgs sSInit) (defBody sSInit) (defScope sSInit) [] kwS f fd) (T : SlC K mg C) (CP : Cal P w K mg base "is_price" ["thing"] 2 (spIsPrice K)) :
    FnOk P w K mg base CX0 3 f fd nSInit (spSInit0 C) := by
  refine F.ok scSInit (fun vs H Q E h => ?_) (fun cdv A outer s H vs Q E hr h => ?_)
  · obtain ⟨p, dx, e, m, w, s, rfl, _⟩ := h
    rfl
  · obtain ⟨p, dx, e, m, w, s, rfl, ok, hp, q⟩ := h
    refine ⟨_, pss_cons (ps_if (pt_not (pt_val (pe_cal CP hr (by decide) (by rfl) (pa_cons (pv 1) pa_nil)))) (pss_one ps_never) pss_nil)
      (pss_cons (ps_if (pt_not (pt_val (pe_cal CP hr (by decide) (by rfl) (pa_cons (pv 2) pa_nil)))) (pss_one ps_never) pss_nil)
      (pss_cons (ps_if (pt_not (pt_val (pe_cal CP hr (by decide) (by rfl) (pa_cons (pv 3) pa_nil)))) (pss_one ps_never) pss_nil)
      (pss_cons (ps_if (PW.pt (pw_and (pt_cmpR op_notN (pv 4) pe_non (nomark _)) (pw_and1 (pt_not (pt_val (pe_cal CP hr (by decide) (by rfl) (pa_cons (pv 4) pa_nil))))))) (pss_one ps_never) pss_nil)
      (pss_cons (ps_fld (pv 0) (pv 1) rfl) (pss_cons (ps_fld (pv 0) (pv 2) rfl) (pss_cons (ps_fld (pv 0) (pv 3) rfl) (pss_one (ps_fld (pv 0) (pv 4) rfl)))))))), ?_⟩
    refine ⟨_, rfl, _, _, rfl, Knd.int, _, rfl, ?_⟩
    rw [isP_ok ok.e0 ok.e9]
    refine iteF ⟨_, rfl, _, _, rfl, Knd.int, _, rfl, ?_⟩
    rw [isP_ok ok.m0 ok.m9]
    refine iteF ⟨_, rfl, _, _, rfl, Knd.int, _, rfl, ?_⟩
    rw [isP_ok ok.w0 ok.w9]
    refine iteF ?_
    have rest : (tSeq (sFld K (tVar 0) (tVar 1) "z_extra") (tSeq (sFld K (tVar 0) (tVar 2) "z_missing") (tSeq (sFld K (tVar 0) (tVar 3) "z_wrong") (sFld K (tVar 0) (tVar 4) "z_swapped"))))
        { nx := fun _ H' => Q .non H', rt := Q } [some (.ref p), some (.int e), some (.int m), some (.int w), some (swV s)] H := by
      refine ⟨_, rfl, _, rfl, p, C, dx, [], rfl, hp, T.cl, T.nE, (by show 0 < 1000; decide), ?_⟩
      refine ⟨_, rfl, _, rfl, p, C, dx, _, rfl, upd_same, T.cl, T.nM, (by show 1 < 1000; decide), ?_⟩
      refine ⟨_, rfl, _, rfl, p, C, dx, _, rfl, upd_same, T.cl, T.nW, (by show 2 < 1000; decide), ?_⟩
      refine ⟨_, rfl, _, rfl, p, C, dx, _, rfl, upd_same, T.cl, T.nS, (by show 3 < 1000; decide), ?_⟩
      exact q _ (by rw [upd_same]; rfl) ((Kp.put (by simp)).trans ((Kp.put (by simp)).trans ((Kp.put (by simp)).trans (Kp.put (by simp)))))
    cases s with
    | none => exact ⟨_, rfl, rfl, _, rfl, iteF (iteF rest)⟩
    | some i =>
      refine ⟨_, rfl, rfl, _, rfl, iteT ⟨_, rfl, _, _, rfl, Knd.int, _, rfl, ?_⟩⟩
      have ei : isP (swV (some i)) = true := isP_ok (ok.s0 i rfl).1 (ok.s0 i rfl).2
      rw [ei]
      exact iteF rest
end
end G69
namespace G69
open PySem PySem.Spec PyProof.Rows L2
/-! ### slips: made, their prices read -/
/-- a property that hands back a field -/
def Prp (P : Program) (w : World) (K : PySem.W.Frag) (mg : Str → Option Value) (base : Heap) (C : Addr) (f fld : Str) : Prop :=
  ∃ (p g : Addr) (fd : FuncData), PropOf K C f p g ∧ FnOk P w K mg base CX0 1 g fd ["self"] (getSp C fld) ∧ Binds K fd ["self"] []
abbrev ksS : List Str := ["extra", "missing", "wrong", "swapped"]
def MkS (P : Program) (w : World) (K : PySem.W.Frag) (mg : Str → Option Value) (base : Heap) (C : Addr) (sp : Sp) : Prop :=
  ∃ (f : Addr) (fd : FuncData) (g : List Value → List Value → List Value), Mk K C f ∧ FnOk P w K mg base CX0 3 f fd nSInit sp ∧ KBn K fd nSInit 1 ksS g (fun vs zs => vs ++ zs)
structure SlP (P : Program) (w : World) (K : PySem.W.Frag) (mg : Str → Option Value) (base : Heap) (C : Addr) : Prop where
  T : SlC K mg C
  mkc : MkS P w K mg base C (spSInit0 C)
  pE : Prp P w K mg base C "extra" "z_extra"
  pM : Prp P w K mg base C "missing" "z_missing"
  pW : Prp P w K mg base C "wrong" "z_wrong"
  pS : Prp P w K mg base C "swapped" "z_swapped"
section
variable {X : Cx} {C : Addr} {j : Nat} {p pos : Pos}
theorem pe_prp {f fld : Str} {e : Expr} {ta : TE} (he : PE X e ta) (T : Cls X.K C) (h : Prp X.prog X.w X.K X.mg X.base C f fld) (hr : Room j X.A) (hj : 2 ≤ j) (hab : attributeBase e f X.env (eval e X.env) = eval e X.env) :
    PE X (.Attribute e f pos) (tProp C (getSp C fld) [] E0 ta) := by
  obtain ⟨p, g, fd, hp, F, b⟩ := h
  exact pe_prop he T hp F (hr.mono hj) b .nil pass0 hab
theorem pe_mkS {kws : List Keyword} {tk : TA} {sp : Sp} (M : MkS X.prog X.w X.K X.mg X.base C sp) (hm : X.mg "Slips" = some (.ref C)) (hr : Room j X.A) (hj : 4 ≤ j) (hg : Gl X "Slips") (hkw : PK X kws tk)
    (hall : (backToKw pos (keywordEach kws X.env)).all (·.1.isSome) = true := by rfl) (hks : (backToKw pos (keywordEach kws X.env)).filterMap (·.1) = ksS := by rfl)
    (hpl : ((backTo pos (starEach [] X.env)).any (·.1) || (backToKw pos (keywordEach kws X.env)).any (·.1.isNone)) = false := by rfl) :
    PE X (.Call (.Name "Slips" p) [] kws pos) (tMakeK C 0 4 sp (fun vs zs => vs ++ zs) E0 tNil tk) := by
  obtain ⟨f, fd, g, mk, F, kb⟩ := M
  exact pe_makeK0 (ks := ksS) mk F (hr.mono hj) hg hm kb pass0 hkw hall hks (by decide) hpl
end
section
variable {P : Program} {w : World} {K : PySem.W.Frag} {mg : Str → Option Value} {base : Heap}
theorem sl_bind {f : Addr} {fd : FuncData} (F : FunD K "__init__" "Slips.__init__" (defArgs sSInit) (defBody sSInit) (defScope sSInit) [] kwS f fd) :
    ∃ g : List Value → List Value → List Value, KBn K fd nSInit 1 ksS g (fun vs zs => vs ++ zs) := by
  obtain ⟨mv, h⟩ := F.kbinds0 (ps := nSInit) 1 ksS [] (fun us _ ws => us ++ ws) (by intro z; cases z) (fun q hq => by cases hq) (fun r1 _ r3 => r1.append r3)
    (fun D doc pm an cdv ct us mv ws hu hm hw => by
      match us, hu, mv, hm, ws, hw with
      | [u], _, [], _, [w1, w2, w3, w4], _ => rfl)
  exact ⟨_, h⟩
/-! ### _law_slips -/
abbrev sLSlips : Stmt := topS 22
theorem scLSlips : FnScope ["_law_prices"] ["_law_prices"] (defScope sLSlips) := ⟨rfl, rfl, rfl, by decide +kernel, rfl, by decide +kernel, by decide +kernel⟩
def spLSlips (K : PySem.W.Frag) (C : Addr) : Sp := fun vs H Q _ => ∃ (a : Addr) (e m w : Int) (s : Option Int), vs = [.ref a] ∧ SqT K H a [.int e, .int m, .int w, swV s] ∧ PrOk e m w s ∧
  ∀ (x : Addr) (H' : Hp), H x = none → SlAt C H' x e m w s → Kp [] H H' → Q (.ref x) H'
theorem ok_lslips {f C : Addr} {fd : FuncData} (F : Fun K "_law_slips" "_law_slips" sLSlips f fd) (S : SlP P w K mg base C) : FnOk P w K mg base CX0 5 f fd ["_law_prices"] (spLSlips K C) := by
  refine F.ok scLSlips (fun vs H Q E h => ?_) (fun cdv A outer s H vs Q E hr h => ?_)
  · obtain ⟨a, e, m, w, s, rfl, _⟩ := h
    rfl
  · obtain ⟨a, e, m, w, s, rfl, hT, ok, q⟩ := h
    refine ⟨_, pss_one (ps_ret (pe_mkS S.mkc S.T.mgC hr (by decide) (by rfl) (pk_cons (pe_ix ix_tup (pv 0) pe_int (fun _ _ => rfl)) (pk_cons (pe_ix ix_tup (pv 0) pe_int (fun _ _ => rfl))
      (pk_cons (pe_ix ix_tup (pv 0) pe_int (fun _ _ => rfl)) (pk_cons (pe_ix ix_tup (pv 0) pe_int (fun _ _ => rfl)) pk_nil)))))), ?_⟩
    refine ⟨_, rfl, a, _, 0, _, rfl, rfl, hT, atI_nat (j := 0) rfl, _, rfl, a, _, 1, _, rfl, rfl, hT, atI_nat (j := 1) rfl, _, rfl, a, _, 2, _, rfl, rfl, hT, atI_nat (j := 2) rfl, _, rfl, a, _, 3, _, rfl, rfl, hT, atI_nat (j := 3) rfl, rfl, rfl, ?_⟩
    intro x dx hx hdx nex
    refine ⟨x, dx, e, m, w, s, rfl, ok, upd_same, fun H' h1 k => ⟨rfl, q x H' hx ⟨dx, h1⟩ ?_⟩⟩
    exact fun b o eb _ => k b o (by rw [upd_ne (ne_of_none eb hx), upd_ne (ne_of_none eb hdx)]; exact eb) (not1 (ne_of_none eb hx))
end
end G69
namespace G69
/-! ### readings and least costs: plain mathematics -/
structure Pz where
  e : Int
  m : Int
  w : Int
  s : Option Int
inductive Step where
  | same (a : Nat)
  | wrong (a b : Nat)
  | extra (b : Nat)
  | missing (a : Nat)
  | swapped (a b : Nat)
  deriving DecidableEq
def Step.meant : Step → List Nat
  | .same a => [a]
  | .wrong a _ => [a]
  | .extra _ => []
  | .missing a => [a]
  | .swapped a b => [a, b]
def Step.typed : Step → List Nat
  | .same a => [a]
  | .wrong _ b => [b]
  | .extra b => [b]
  | .missing _ => []
  | .swapped a b => [b, a]
def Step.pr (p : Pz) : Step → Int
  | .same _ => 0
  | .wrong _ _ => p.w
  | .extra _ => p.e
  | .missing _ => p.m
  | .swapped _ _ => p.s.getD 0
def Step.ok (p : Pz) : Step → Prop
  | .wrong a b => a ≠ b
  | .swapped a b => a ≠ b ∧ p.s ≠ none
  | _ => True
/-- the prices are at least 0 -/
structure Pz.Pos (p : Pz) : Prop where
  e : 0 ≤ p.e
  m : 0 ≤ p.m
  w : 0 ≤ p.w
  s : ∀ i, p.s = some i → 0 ≤ i
theorem Step.pr_nonneg {p : Pz} (h : p.Pos) (st : Step) : 0 ≤ st.pr p := by
  cases st with
  | same a => exact Int.le_refl _
  | wrong a b => exact h.w
  | extra b => exact h.e
  | missing a => exact h.m
  | swapped a b =>
    show 0 ≤ p.s.getD 0
    cases e : p.s with
    | none => exact Int.le_refl _
    | some i => exact h.s i e
def cost (p : Pz) (rs : List Step) : Int := (rs.map (Step.pr p)).sum
theorem cost_nil (p : Pz) : cost p [] = 0 := rfl
theorem cost_cons (p : Pz) (st : Step) (rs : List Step) : cost p (st :: rs) = st.pr p + cost p rs := by
  unfold cost
  rw [List.map_cons, List.sum_cons]
theorem cost_append (p : Pz) (a b : List Step) : cost p (a ++ b) = cost p a + cost p b := by
  induction a with
  | nil => rw [List.nil_append, cost_nil, Int.zero_add]
  | cons x r ih => rw [List.cons_append, cost_cons, cost_cons, ih, Int.add_assoc]
theorem cost_nonneg {p : Pz} (h : p.Pos) (rs : List Step) : 0 ≤ cost p rs := by
  induction rs with
  | nil => exact Int.le_refl _
  | cons x r ih =>
    rw [cost_cons]
    have := x.pr_nonneg h
    omega
structure Rdg (p : Pz) (t x : List Nat) (rs : List Step) : Prop where
  ok : ∀ st ∈ rs, st.ok p
  mt : rs.flatMap Step.meant = t
  ty : rs.flatMap Step.typed = x
structure Least (p : Pz) (t x : List Nat) (c : Int) : Prop where
  at_ : ∃ rs, Rdg p t x rs ∧ cost p rs = c
  le : ∀ rs, Rdg p t x rs → c ≤ cost p rs
theorem Least.unique {p : Pz} {t x : List Nat} {c d : Int} (h : Least p t x c) (g : Least p t x d) : c = d := by
  obtain ⟨rs, r1, e1⟩ := h.at_
  obtain ⟨qs, q1, f1⟩ := g.at_
  have a := h.le qs q1
  have b := g.le rs r1
  omega
theorem Rdg.nil {p : Pz} : Rdg p [] [] [] := ⟨fun _ h => (nomatch h), rfl, rfl⟩
theorem Rdg.append {p : Pz} {t x t' x' : List Nat} {a b : List Step} (h : Rdg p t x a) (g : Rdg p t' x' b) : Rdg p (t ++ t') (x ++ x') (a ++ b) where
  ok := fun st hs => (List.mem_append.mp hs).elim (h.ok st) (g.ok st)
  mt := by rw [List.flatMap_append, h.mt, g.mt]
  ty := by rw [List.flatMap_append, h.ty, g.ty]
theorem Rdg.one {p : Pz} {st : Step} (h : st.ok p) : Rdg p st.meant st.typed [st] where
  ok := fun s hs => by rw [List.mem_singleton.mp hs]; exact h
  mt := by rw [List.flatMap_cons, List.flatMap_nil, List.append_nil]
  ty := by rw [List.flatMap_cons, List.flatMap_nil, List.append_nil]
/-- all letters missing, then all extra: some reading there is -/
theorem Rdg.some (p : Pz) (t x : List Nat) : Rdg p t x (t.map Step.missing ++ x.map Step.extra) := by
  have h1 : ∀ t : List Nat, Rdg p t [] (t.map Step.missing) := by
    intro t
    induction t with
    | nil => exact Rdg.nil
    | cons a r ih => exact Rdg.append (t := [a]) (x := []) (Rdg.one (st := .missing a) trivial) ih
  have h2 : ∀ x : List Nat, Rdg p [] x (x.map Step.extra) := by
    intro x
    induction x with
    | nil => exact Rdg.nil
    | cons a r ih => exact Rdg.append (t := []) (x := [a]) (Rdg.one (st := .extra a) trivial) ih
  have h3 := (h1 t).append (h2 x)
  rw [List.append_nil, List.nil_append] at h3
  exact h3
theorem Least.exists_ {p : Pz} (h : p.Pos) (t x : List Nat) : ∃ c, Least p t x c := by
  have step : ∀ (n : Nat) (rs : List Step), Rdg p t x rs → (cost p rs).toNat ≤ n → ∃ c, Least p t x c := by
    intro n
    induction n with
    | zero =>
      intro rs hr hc
      refine ⟨cost p rs, ⟨rs, hr, rfl⟩, fun qs _ => ?_⟩
      have := cost_nonneg h qs
      have := cost_nonneg h rs
      omega
    | succ n ih =>
      intro rs hr hc
      by_cases hq : ∃ qs, Rdg p t x qs ∧ cost p qs < cost p rs
      · obtain ⟨qs, hq1, hq2⟩ := hq
        have := cost_nonneg h qs
        exact ih qs hq1 (by omega)
      · refine ⟨cost p rs, ⟨rs, hr, rfl⟩, fun qs hqs => ?_⟩
        by_cases hl : cost p qs < cost p rs
        · exact absurd ⟨qs, hqs, hl⟩ hq
        · omega
  exact step _ _ (Rdg.some p t x) (Nat.le_refl _)
open Classical in
noncomputable def lc (p : Pz) (t x : List Nat) : Int := if h : ∃ c, Least p t x c then Classical.choose h else 0
theorem lc_least {p : Pz} (h : p.Pos) (t x : List Nat) : Least p t x (lc p t x) := by
  have h1 := Least.exists_ h t x
  unfold lc
  rw [dif_pos h1]
  exact Classical.choose_spec h1
theorem lc_eq {p : Pz} (h : p.Pos) {t x : List Nat} {c : Int} (g : Least p t x c) : lc p t x = c := (lc_least h t x).unique g
/-! #### the last steps -/
/-- the last steps that may stand, in the program's order -/
def ls1 (x : List Nat) : List Step := match x.getLast? with | some b => [Step.extra b] | none => []
def ls2 (t : List Nat) : List Step := match t.getLast? with | some a => [Step.missing a] | none => []
def ls3 (t x : List Nat) : List Step := match x.getLast?, t.getLast? with | some b, some a => [if b = a then Step.same a else Step.wrong a b] | _, _ => []
def ls4 (p : Pz) (t x : List Nat) : List Step := match p.s, x.getLast?, x.dropLast.getLast?, t.getLast?, t.dropLast.getLast? with
  | some _, some b, some b2, some a, some a2 => if b = a2 ∧ b2 = a ∧ b ≠ b2 then [Step.swapped a2 a] else []
  | _, _, _, _, _ => []
def lastSteps (p : Pz) (t x : List Nat) : List Step := ls1 x ++ (ls2 t ++ (ls3 t x ++ ls4 p t x))
theorem snoc_of_last {l : List Nat} {a : Nat} (h : l.getLast? = some a) : l = l.dropLast ++ [a] := by
  have hn : l ≠ [] := by
    intro z
    subst z
    cases h
  have e := List.dropLast_concat_getLast hn
  rw [List.getLast?_eq_some_getLast hn] at h
  rw [Option.some.inj h] at e
  exact e.symm
theorem last_snoc (l : List Nat) (a : Nat) : (l ++ [a]).getLast? = some a := by simp
theorem mem_lastSteps {p : Pz} {t x : List Nat} {st : Step} : st ∈ lastSteps p t x ↔ st.ok p ∧ ∃ t' x', t = t' ++ st.meant ∧ x = x' ++ st.typed := by
  constructor
  · intro h
    unfold lastSteps ls1 ls2 ls3 ls4 at h
    rcases List.mem_append.mp h with h | h
    · cases e : x.getLast? with
      | none => rw [e] at h; cases h
      | some b =>
        rw [e] at h
        rw [List.mem_singleton.mp h]
        exact ⟨trivial, t, x.dropLast, by rw [Step.meant, List.append_nil], snoc_of_last e⟩
    rcases List.mem_append.mp h with h | h
    · cases e : t.getLast? with
      | none => rw [e] at h; cases h
      | some b =>
        rw [e] at h
        rw [List.mem_singleton.mp h]
        exact ⟨trivial, t.dropLast, x, snoc_of_last e, by rw [Step.typed, List.append_nil]⟩
    rcases List.mem_append.mp h with h | h
    · cases e : x.getLast? with
      | none => rw [e] at h; cases h
      | some b =>
        cases f : t.getLast? with
        | none => rw [e, f] at h; cases h
        | some a =>
          rw [e, f] at h
          rw [List.mem_singleton.mp h]
          by_cases hab : b = a
          · rw [if_pos hab]
            subst hab
            exact ⟨trivial, t.dropLast, x.dropLast, snoc_of_last f, snoc_of_last e⟩
          · rw [if_neg hab]
            exact ⟨fun z => hab z.symm, t.dropLast, x.dropLast, snoc_of_last f, snoc_of_last e⟩
    · split at h
      · rename_i b b2 a a2 hs hb hb2 ha ha2
        split at h
        · rename_i hc
          obtain ⟨h1, h2, h3⟩ := hc
          rw [List.mem_singleton.mp h]
          refine ⟨⟨fun z => h3 (by rw [h1, h2, z]), by rw [hs]; exact fun z => nomatch z⟩, t.dropLast.dropLast, x.dropLast.dropLast, ?_, ?_⟩
          · have e1 := snoc_of_last ha
            have e2 := snoc_of_last ha2
            rw [Step.meant]
            calc t = t.dropLast ++ [a] := e1
              _ = (t.dropLast.dropLast ++ [a2]) ++ [a] := by rw [← e2]
              _ = _ := by rw [List.append_assoc]; rfl
          · have e1 := snoc_of_last hb
            have e2 := snoc_of_last hb2
            rw [Step.typed]
            calc x = x.dropLast ++ [b] := e1
              _ = (x.dropLast.dropLast ++ [b2]) ++ [b] := by rw [← e2]
              _ = _ := by rw [List.append_assoc, h1, h2]; rfl
        · cases h
      · cases h
  · rintro ⟨hok, t', x', rfl, rfl⟩
    unfold lastSteps ls1 ls2 ls3 ls4
    cases st with
    | extra b =>
      apply List.mem_append_left
      rw [Step.typed, last_snoc]
      exact List.mem_singleton.mpr rfl
    | missing a =>
      apply List.mem_append_right
      apply List.mem_append_left
      rw [Step.meant, last_snoc]
      exact List.mem_singleton.mpr rfl
    | same a =>
      apply List.mem_append_right
      apply List.mem_append_right
      apply List.mem_append_left
      rw [Step.meant, Step.typed, last_snoc, last_snoc]
      show _ ∈ [if a = a then _ else _]
      rw [if_pos rfl]
      exact List.mem_singleton.mpr rfl
    | wrong a b =>
      apply List.mem_append_right
      apply List.mem_append_right
      apply List.mem_append_left
      rw [Step.meant, Step.typed, last_snoc, last_snoc]
      show _ ∈ [if b = a then _ else _]
      rw [if_neg (fun z => hok z.symm)]
      exact List.mem_singleton.mpr rfl
    | swapped a b =>
      apply List.mem_append_right
      apply List.mem_append_right
      apply List.mem_append_right
      have e1 : t' ++ [a, b] = (t' ++ [a]) ++ [b] := by simp
      have e2 : x' ++ [b, a] = (x' ++ [b]) ++ [a] := by simp
      rw [Step.meant, Step.typed, e1, e2, last_snoc, last_snoc, List.dropLast_concat, List.dropLast_concat, last_snoc, last_snoc]
      obtain ⟨h1, h2⟩ := hok
      cases hs : p.s with
      | none => exact absurd hs h2
      | some k =>
        show _ ∈ if a = a ∧ b = b ∧ a ≠ b then _ else _
        rw [if_pos ⟨rfl, rfl, h1⟩]
        exact List.mem_singleton.mpr rfl
/-- one turn of the table: the least cost by the last step -/
theorem least_step {p : Pz} {t x : List Nat} (f : Step → Int) (hne : lastSteps p t x ≠ [])
    (hf : ∀ st ∈ lastSteps p t x, Least p (t.take (t.length - st.meant.length)) (x.take (x.length - st.typed.length)) (f st))
    {c : Int} (hc : ∃ st ∈ lastSteps p t x, c = f st + st.pr p) (hm : ∀ st ∈ lastSteps p t x, c ≤ f st + st.pr p) : Least p t x c := by
  have cut : ∀ st ∈ lastSteps p t x, t = t.take (t.length - st.meant.length) ++ st.meant ∧ x = x.take (x.length - st.typed.length) ++ st.typed := by
    intro st hs
    obtain ⟨_, t', x', e1, e2⟩ := mem_lastSteps.mp hs
    constructor
    · rw [e1, List.length_append, Nat.add_sub_cancel, List.take_left]
    · rw [e2, List.length_append, Nat.add_sub_cancel, List.take_left]
  constructor
  · obtain ⟨st, hs, rfl⟩ := hc
    obtain ⟨rs, hr, he⟩ := (hf st hs).at_
    obtain ⟨e1, e2⟩ := cut st hs
    refine ⟨rs ++ [st], ?_, ?_⟩
    · have := hr.append (Rdg.one (mem_lastSteps.mp hs).1)
      rw [← e1, ← e2] at this
      exact this
    · rw [cost_append, he, cost_cons, cost_nil, Int.add_zero]
  · intro rs hr
    rcases List.eq_nil_or_concat rs with rfl | ⟨qs, st, e⟩
    · have ht : t = [] := hr.mt.symm
      have hx : x = [] := hr.ty.symm
      subst ht
      subst hx
      exact absurd (show lastSteps p [] [] = [] from by unfold lastSteps ls1 ls2 ls3 ls4; cases p.s <;> rfl) hne
    · rw [List.concat_eq_append] at e
      subst e
      have hok : st.ok p := hr.ok st (by simp)
      have ht : t = qs.flatMap Step.meant ++ st.meant := by
        rw [← hr.mt, List.flatMap_append, List.flatMap_cons, List.flatMap_nil, List.append_nil]
      have hx : x = qs.flatMap Step.typed ++ st.typed := by
        rw [← hr.ty, List.flatMap_append, List.flatMap_cons, List.flatMap_nil, List.append_nil]
      have hs : st ∈ lastSteps p t x := mem_lastSteps.mpr ⟨hok, _, _, ht, hx⟩
      have hl := (hf st hs).le qs ⟨fun s h => hr.ok s (List.mem_append_left _ h), by rw [ht, List.length_append, Nat.add_sub_cancel, List.take_left], by rw [hx, List.length_append, Nat.add_sub_cancel, List.take_left]⟩
      have := hm st hs
      rw [cost_append, cost_cons, cost_nil, Int.add_zero]
      omega
theorem least_nil {p : Pz} (h : p.Pos) : Least p [] [] 0 := ⟨⟨[], Rdg.nil, rfl⟩, fun rs _ => cost_nonneg h rs⟩
theorem lastSteps_nil {p : Pz} {t x : List Nat} : lastSteps p t x = [] ↔ t = [] ∧ x = [] := by
  constructor
  · intro h
    constructor
    · cases e : t.getLast? with
      | none => exact List.getLast?_eq_none_iff.mp e
      | some a =>
        have := mem_lastSteps (p := p) (t := t) (x := x) (st := .missing a) |>.mpr ⟨trivial, t.dropLast, x, snoc_of_last e, by rw [Step.typed, List.append_nil]⟩
        rw [h] at this
        cases this
    · cases e : x.getLast? with
      | none => exact List.getLast?_eq_none_iff.mp e
      | some a =>
        have := mem_lastSteps (p := p) (t := t) (x := x) (st := .extra a) |>.mpr ⟨trivial, t, x.dropLast, by rw [Step.meant, List.append_nil], snoc_of_last e⟩
        rw [h] at this
        cases this
  · rintro ⟨rfl, rfl⟩
    unfold lastSteps ls1 ls2 ls3 ls4
    cases p.s <;> rfl
end G69
namespace G69
open PySem PySem.Spec PyProof.Rows L2
/-! ### steps in the heap -/
def stepV : Step → List V
  | .same a => [.str "same", .str (sg a)]
  | .wrong a b => [.str "wrong", .str (sg a), .str (sg b)]
  | .extra b => [.str "extra", .str (sg b)]
  | .missing a => [.str "missing", .str (sg a)]
  | .swapped a b => [.str "swapped", .str (sg a), .str (sg b)]
def StepAt (H : Hp) (v : V) (st : Step) : Prop := ∃ p q, v = .ref p ∧ H p = some (.tup [.ref q, .int (st.meant.length : Int), .int (st.typed.length : Int)]) ∧ H q = some (.tup (stepV st))
theorem StepAt.keep {H H' : Hp} {v : V} {st : Step} (h : StepAt H v st) (k : ∀ a xs, H a = some (.tup xs) → H' a = some (.tup xs)) : StepAt H' v st := let ⟨p, q, e, h1, h2⟩ := h; ⟨p, q, e, k _ _ h1, k _ _ h2⟩
theorem Paired.map2 {α β : Type} {F G : α → β → Prop} : ∀ {l : List α} {m : List β}, Paired F l m → (∀ a b, F a b → G a b) → Paired G l m
  | _, _, .nil, _ => .nil
  | _, _, .cons r t, f => .cons (f _ _ r) (Paired.map2 t f)
theorem Paired.snoc {α β : Type} {F : α → β → Prop} {a : α} {b : β} (h : F a b) : ∀ {l : List α} {m : List β}, Paired F l m → Paired F (l ++ [a]) (m ++ [b])
  | _, _, .nil => .cons h .nil
  | _, _, .cons r t => .cons r (Paired.snoc h t)
structure LsI (H0 : Hp) (L : Addr) (H : Hp) (vs : List V) (acc : List Step) : Prop where
  hL : H L = some (.lst vs)
  pr : Paired (StepAt H) vs acc
  kp : Kp [] H0 H
  f0 : H0 L = none
theorem LsI.push {H0 H : Hp} {L p q : Addr} {vs : List V} {acc : List Step} {st : Step} (x : LsI H0 L H vs acc) (hq : H q = none) (hp : (upd H q (.tup (stepV st))) p = none) :
    LsI H0 L (upd (upd (upd H q (.tup (stepV st))) p (.tup [.ref q, .int (st.meant.length : Int), .int (st.typed.length : Int)])) L (.lst (vs ++ [.ref p]))) (vs ++ [.ref p]) (acc ++ [st]) := by
  have hqL : L ≠ q := ne_of_none x.hL hq
  have hpq : q ≠ p := ne_of_none upd_same hp
  have hpL : L ≠ p := by
    intro z
    subst z
    rw [upd_ne hqL, x.hL] at hp
    cases hp
  have keep : ∀ a xs, H a = some (.tup xs) → (upd (upd (upd H q (.tup (stepV st))) p (.tup [.ref q, .int (st.meant.length : Int), .int (st.typed.length : Int)])) L (.lst (vs ++ [.ref p]))) a = some (.tup xs) := by
    intro a xs e
    have e1 : a ≠ L := ne_of e x.hL (by intro z; cases z)
    have e2 : a ≠ q := ne_of_none e hq
    have e3 : a ≠ p := by
      intro z
      subst z
      rw [upd_ne e2, e] at hp
      cases hp
    rw [upd_ne e1, upd_ne e3, upd_ne e2]
    exact e
  refine ⟨upd_same, Paired.snoc ⟨p, q, rfl, ?_, ?_⟩ (Paired.map2 x.pr fun v s h => h.keep keep), (((x.kp.trans (Kp.new hq)).trans (Kp.new hp))).mut x.f0, x.f0⟩
  · rw [upd_ne hpL.symm, upd_same]
  · rw [upd_ne hqL.symm, upd_ne hpq, upd_same]
theorem LsI.still {H0 H : Hp} {L p q : Addr} {vs : List V} {acc : List Step} {o u : HO} (x : LsI H0 L H vs acc) (hq : H q = none) (hp : (upd H q o) p = none) : (upd (upd H q o) p u) L = some (.lst vs) := by
  have n1 : L ≠ q := ne_of_none x.hL hq
  have n2 : L ≠ p := ne_of_none (by rw [upd_ne n1]; exact x.hL) hp
  rw [upd_ne n2, upd_ne n1]
  exact x.hL
theorem Paired.len {α β : Type} {F : α → β → Prop} : ∀ {l : List α} {m : List β}, Paired F l m → l.length = m.length
  | _, _, .nil => rfl
  | _, _, .cons _ t => congrArg Nat.succ (Paired.len t)
theorem LsI.small {H0 H : Hp} {L : Addr} {vs : List V} {acc : List Step} (x : LsI H0 L H vs acc) (h : acc.length ≤ 100) : vs.length < sizeLine := szlt (by rw [Paired.len x.pr]; omega)
theorem ls1_len (x : List Nat) : (ls1 x).length ≤ 1 := by
  unfold ls1
  split
  · exact Nat.le_refl _
  · exact Nat.zero_le _
theorem ls2_len (x : List Nat) : (ls2 x).length ≤ 1 := by
  unfold ls2
  split
  · exact Nat.le_refl _
  · exact Nat.zero_le _
theorem ls3_len (t x : List Nat) : (ls3 t x).length ≤ 1 := by
  unfold ls3
  split
  · exact Nat.le_refl _
  · decide
theorem two_last {l : List Nat} (h : 2 ≤ l.length) : ∃ b b2, l.getLast? = some b ∧ l.dropLast.getLast? = some b2 := by
  have h1 : l ≠ [] := by
    intro z
    subst z
    exact absurd h (by decide)
  have h2 : l.dropLast ≠ [] := by
    intro z
    have := congrArg List.length z
    rw [List.length_dropLast] at this
    have e : ([] : List Nat).length = 0 := rfl
    omega
  exact ⟨_, _, List.getLast?_eq_some_getLast h1, List.getLast?_eq_some_getLast h2⟩
theorem drop_none {l : List Nat} (h : l.length ≤ 1) : l.dropLast.getLast? = none := by
  match l, h with
  | [], _ => rfl
  | [a], _ => rfl
theorem ls4_short {p : Pz} {t x : List Nat} (h : t.length ≤ 1 ∨ x.length ≤ 1) : ls4 p t x = [] := by
  unfold ls4
  rcases h with h | h
  · rw [drop_none h]
    split
    · rename_i z
      cases z
    · rfl
  · rw [drop_none h]
    split
    · rename_i z _ _
      cases z
    · rfl
/-! ### codes of texts -/
abbrev cd (z : Str) : List Nat := z.cps.toList
theorem cd_len (z : Str) : (cd z).length = z.length := Array.length_toList
theorem cd_inj {a b : Str} (h : cd a = cd b) : a = b := ext_toList h
theorem str_nil (z : Str) : decide (V.str z = V.str "") = (cd z).isEmpty := by
  have e : cd "" = [] := by decide +kernel
  by_cases h : cd z = []
  · have : z = "" := cd_inj (by rw [h, e])
    rw [this, e]
    decide
  · have h2 : ¬ V.str z = V.str "" := fun q => h (by rw [V.str.inj q, e])
    rw [decide_eq_false h2]
    cases h3 : cd z with
    | nil => exact absurd h3 h
    | cons a r => rfl
theorem at_last {l : List Nat} {b : Nat} (h : l.getLast? = some b) : atI l (-1) = some b := by
  have e := snoc_of_last h
  rw [e]
  exact atI_last _ _
theorem at_last2 {l : List Nat} {b b2 : Nat} (h : l.getLast? = some b) (h2 : l.dropLast.getLast? = some b2) : atI l (-2) = some b2 := by
  have e := snoc_of_last h
  have e2 := snoc_of_last h2
  rw [e2] at e
  have hl : l.length = l.dropLast.dropLast.length + 2 := by
    have := congrArg List.length e
    rw [List.length_append, List.length_append] at this
    exact this
  unfold atI ixN
  rw [if_neg (by decide), if_pos (by omega)]
  show l[((-2 : Int) + l.length).toNat]? = some b2
  have e3 : ((-2 : Int) + l.length).toNat = l.dropLast.dropLast.length := by omega
  rw [e3]
  have e4 : l[l.dropLast.dropLast.length]? = (l.dropLast.dropLast ++ [b2] ++ [b])[l.dropLast.dropLast.length]? := congrArg (fun m : List Nat => m[l.dropLast.dropLast.length]?) e
  rw [e4, List.append_assoc, List.getElem?_append_right (Nat.le_refl _), Nat.sub_self]
  rfl
theorem emp_none {l : List Nat} (h : l.getLast? = none) : l.isEmpty = true := by rw [List.getLast?_eq_none_iff.mp h]; rfl
theorem emp_some {l : List Nat} {b : Nat} (h : l.getLast? = some b) : l.isEmpty = false := by
  cases l with
  | nil => cases h
  | cons a r => rfl
theorem sg_inj (a b : Nat) : decide (V.str (sg a) = V.str (sg b)) = decide (a = b) := by
  by_cases h : a = b
  · subst h
    rw [decide_eq_true rfl, decide_eq_true rfl]
  · rw [decide_eq_false h, decide_eq_false]
    intro q
    have := congrArg cd (V.str.inj q)
    exact h (List.cons.inj this).1
section
variable {P : Program} {w : World} {K : PySem.W.Frag} {mg : Str → Option Value} {base : Heap}
/-! ### last_steps -/
abbrev sLast : Stmt := topS 12
abbrev nLast : List Str := ["slips", "target", "text", "found", "is_same"]
theorem scLast : FnScope nLast ["slips", "target", "text"] (defScope sLast) := ⟨rfl, rfl, rfl, by decide +kernel, rfl, by decide +kernel, by decide +kernel⟩
def spLast (C : Addr) : Sp := fun vs H Q _ => ∃ (x : Addr) (e m w : Int) (s : Option Int) (t z : Str), vs = [.ref x, .str t, .str z] ∧ SlAt C H x e m w s ∧ t.length ≤ 100000 ∧ z.length ≤ 100000 ∧
  ∀ (L : Addr) (vs' : List V) (H' : Hp), LsI H L H' vs' (lastSteps ⟨e, m, w, s⟩ (cd t) (cd z)) → Q (.ref L) H'
theorem ok_last {f C : Addr} {fd : FuncData} (F : Fun K "last_steps" "last_steps" sLast f fd) (S : SlP P w K mg base C) (mN : mg "len" = none) : FnOk P w K mg base CX0 3 f fd ["slips", "target", "text"] (spLast C) := by
  refine F.ok scLast (fun vs H Q E h => ?_) (fun cdv A outer sh H vs Q E hr h => ?_)
  · obtain ⟨x, e, m, w, s, t, z, rfl, _⟩ := h
    rfl
  · obtain ⟨x, e, m, w, s, t, z, rfl, hx, ht, hz, q⟩ := h
    refine ⟨_, pss_cons (ps_set (i := 3) scLast.nd rfl (.inl rfl) (pe_lst pa_nil))
      (C8.pss_cut (ps_if (pt_cmpR op_ne (pv 2) pe_str (nomark _)) (pss_one (ps_expr (pe_bm PySem.F.plainAttrs_list PySem.F.slot_list_append PySem.F.type_list_append mt_append (pv 3) (pa_cons (pe_tup (pa_cons
          (pe_tup (pa_cons pe_str (pa_cons (pe_ix ix_str (pv 2) (pe_un un_neg pe_int) (fun _ _ => rfl)) pa_nil))) (pa_cons pe_int (pa_cons pe_int pa_nil)))) pa_nil)))) pss_nil)
      (C8.pss_cut (ps_if (pt_cmpR op_ne (pv 1) pe_str (nomark _)) (pss_one (ps_expr (pe_bm PySem.F.plainAttrs_list PySem.F.slot_list_append PySem.F.type_list_append mt_append (pv 3) (pa_cons (pe_tup (pa_cons
          (pe_tup (pa_cons pe_str (pa_cons (pe_ix ix_str (pv 1) (pe_un un_neg pe_int) (fun _ _ => rfl)) pa_nil))) (pa_cons pe_int (pa_cons pe_int pa_nil)))) pa_nil)))) pss_nil)
      (C8.pss_cut (ps_if (PW.pt (pw_and (pt_cmpR op_ne (pv 2) pe_str (nomark _)) (pw_and1 (pt_cmpR op_ne (pv 1) pe_str (nomark _)))))
          (pss_cons (ps_set (i := 4) scLast.nd rfl (.inl rfl) (pe_cmpR op_eq (pe_ix ix_str (pv 2) (pe_un un_neg pe_int) (fun _ _ => rfl)) (pe_ix ix_str (pv 1) (pe_un un_neg pe_int) (fun _ _ => rfl)) (nomark _)))
          (pss_one (ps_expr (pe_bm PySem.F.plainAttrs_list PySem.F.slot_list_append PySem.F.type_list_append mt_append (pv 3) (pa_cons (pe_tup (pa_cons
            (pe_ifExp (pt_val (pv 4)) (pe_tup (pa_cons pe_str (pa_cons (pe_ix ix_str (pv 1) (pe_un un_neg pe_int) (fun _ _ => rfl)) pa_nil)))
              (pe_tup (pa_cons pe_str (pa_cons (pe_ix ix_str (pv 1) (pe_un un_neg pe_int) (fun _ _ => rfl)) (pa_cons (pe_ix ix_str (pv 2) (pe_un un_neg pe_int) (fun _ _ => rfl)) pa_nil)))))
            (pa_cons pe_int (pa_cons pe_int pa_nil)))) pa_nil))))) pss_nil)
      (C8.pss_cut (ps_if (PW.pt (pw_and (pt_cmpR op_notN (pe_prp (pv 0) S.T.cl S.pS hr (by decide) rfl) pe_non (nomark _)) (pw_and (pt_cmpR op_gt (pe_callB call_len_str (by rfl) mN PySem.boot_len (pa_cons (pv 2) pa_nil)) pe_int (nomark _))
            (pw_and1 (pt_cmpR op_gt (pe_callB call_len_str (by rfl) mN PySem.boot_len (pa_cons (pv 1) pa_nil)) pe_int (nomark _))))))
          (pss_one (ps_if (PW.pt (pw_and (pt_cmpR op_eq (pe_ix ix_str (pv 2) (pe_un un_neg pe_int) (fun _ _ => rfl)) (pe_ix ix_str (pv 1) (pe_un un_neg pe_int) (fun _ _ => rfl)) (nomark _))
              (pw_and (pt_cmpR op_eq (pe_ix ix_str (pv 2) (pe_un un_neg pe_int) (fun _ _ => rfl)) (pe_ix ix_str (pv 1) (pe_un un_neg pe_int) (fun _ _ => rfl)) (nomark _))
              (pw_and1 (pt_cmpR op_ne (pe_ix ix_str (pv 2) (pe_un un_neg pe_int) (fun _ _ => rfl)) (pe_ix ix_str (pv 2) (pe_un un_neg pe_int) (fun _ _ => rfl)) (nomark _))))))
            (pss_one (ps_expr (pe_bm PySem.F.plainAttrs_list PySem.F.slot_list_append PySem.F.type_list_append mt_append (pv 3) (pa_cons (pe_tup (pa_cons
              (pe_tup (pa_cons pe_str (pa_cons (pe_ix ix_str (pv 1) (pe_un un_neg pe_int) (fun _ _ => rfl)) (pa_cons (pe_ix ix_str (pv 1) (pe_un un_neg pe_int) (fun _ _ => rfl)) pa_nil)))) (pa_cons pe_int (pa_cons pe_int pa_nil)))) pa_nil)))) pss_nil)) pss_nil)
      (pss_one (ps_ret (pv 3))))))), ?_⟩
    refine ⟨szle (by show 0 ≤ 1000000; decide), fun L hL => ?_⟩
    have I0 : LsI H L (upd H L (.lst [])) [] [] := ⟨upd_same, .nil, Kp.new hL, hL⟩
    have hz' : z.length ≤ sizeLine := szle (by omega)
    have ht' : t.length ≤ sizeLine := szle (by omega)
    refine ⟨fun σ H2 => ∃ vs, σ = [some (.ref x), some (.str t), some (.str z), some (.ref L), none] ∧ LsI H L H2 vs (ls1 (cd z)), ?_, ?_⟩
    · refine ⟨_, rfl, rfl, _, rfl, ?_⟩
      rw [str_nil]
      cases e1 : (cd z).getLast? with
      | none =>
        rw [emp_none e1]
        exact iteF ⟨[], rfl, by unfold ls1; rw [e1]; exact I0⟩
      | some b =>
        rw [emp_some e1]
        have f1 : ls1 (cd z) = [.extra b] := by unfold ls1; rw [e1]
        rw [f1]
        refine iteT ⟨_, rfl, .inl ⟨rfl, _, .inl (.inl I0.hL)⟩, _, rfl, 1, rfl, z, -1, b, rfl, rfl, hz', at_last e1, szle (by show 2 ≤ 1000000; decide), fun q1 hq1 => ⟨szle (by show 3 ≤ 1000000; decide), fun p1 hp1 => ?_⟩⟩
        have I1 := I0.push (st := .extra b) hq1 hp1
        have hk : (upd (upd (upd H L (.lst [])) q1 (.tup (stepV (.extra b)))) p1 (.tup [.ref q1, .int 0, .int 1])) L = some (.lst []) := by
          have n1 : L ≠ q1 := ne_of_none I0.hL hq1
          have n2 : L ≠ p1 := ne_of_none (by rw [upd_ne n1]; exact I0.hL) hp1
          rw [upd_ne n2, upd_ne n1]
          exact I0.hL
        exact ⟨L, _, _, rfl, rfl, hk, szlt (by show 0 ≤ 1000000; decide), _, rfl, I1⟩
    · rintro σ2 H2 ⟨vs2, rfl, I2⟩
      refine ⟨fun σ H3 => ∃ vs, σ = [some (.ref x), some (.str t), some (.str z), some (.ref L), none] ∧ LsI H L H3 vs (ls1 (cd z) ++ ls2 (cd t)), ?_, ?_⟩
      · refine ⟨_, rfl, rfl, _, rfl, ?_⟩
        rw [str_nil]
        cases e1 : (cd t).getLast? with
        | none =>
          rw [emp_none e1]
          exact iteF ⟨vs2, rfl, by unfold ls2; rw [e1, List.append_nil]; exact I2⟩
        | some b =>
          rw [emp_some e1]
          have f2 : ls2 (cd t) = [.missing b] := by unfold ls2; rw [e1]
          rw [f2]
          refine iteT ⟨_, rfl, .inl ⟨rfl, _, .inl (.inl I2.hL)⟩, _, rfl, 1, rfl, t, -1, b, rfl, rfl, ht', at_last e1, szle (by show 2 ≤ 1000000; decide), fun q1 hq1 => ⟨szle (by show 3 ≤ 1000000; decide), fun p1 hp1 => ?_⟩⟩
          have I3 := I2.push (st := .missing b) hq1 hp1
          exact ⟨L, _, _, rfl, rfl, I2.still hq1 hp1, I2.small (by have := ls1_len (cd z); omega), _, rfl, I3⟩
      · rintro σ3 H3 ⟨vs3, rfl, I3⟩
        refine ⟨fun σ H4 => ∃ vs y, σ = [some (.ref x), some (.str t), some (.str z), some (.ref L), y] ∧ LsI H L H4 vs ((ls1 (cd z) ++ ls2 (cd t)) ++ ls3 (cd t) (cd z)), ?_, ?_⟩
        · refine ⟨_, rfl, rfl, _, rfl, ?_⟩
          rw [str_nil]
          cases e1 : (cd z).getLast? with
          | none =>
            rw [emp_none e1]
            refine iteF (iteF ⟨vs3, none, rfl, ?_⟩)
            unfold ls3
            rw [e1, List.append_nil]
            exact I3
          | some b =>
            rw [emp_some e1]
            refine iteT ⟨_, rfl, rfl, _, rfl, ?_⟩
            rw [str_nil]
            cases e2 : (cd t).getLast? with
            | none =>
              rw [emp_none e2]
              refine iteF ⟨vs3, none, rfl, ?_⟩
              unfold ls3
              rw [e1, e2, List.append_nil]
              exact I3
            | some a =>
              rw [emp_some e2]
              refine iteT ⟨_, rfl, 1, rfl, z, -1, b, rfl, rfl, hz', at_last e1, _, rfl, 1, rfl, t, -1, a, rfl, rfl, ht', at_last e2, rfl, ?_⟩
              refine ⟨_, rfl, .inl ⟨rfl, _, .inl (.inl I3.hL)⟩, _, rfl, _, rfl, ?_⟩
              rw [sg_inj]
              have hlen : (ls1 (cd z) ++ ls2 (cd t)).length ≤ 100 := by
                rw [List.length_append]
                have := ls1_len (cd z)
                have := ls2_len (cd t)
                omega
              have e3 : ls3 (cd t) (cd z) = [if b = a then Step.same a else Step.wrong a b] := by
                unfold ls3
                rw [e1, e2]
              rw [e3]
              by_cases hab : b = a
              · rw [decide_eq_true hab, if_pos hab]
                refine iteT ⟨_, rfl, 1, rfl, t, -1, a, rfl, rfl, ht', at_last e2, szle (by show 2 ≤ 1000000; decide), fun q1 hq1 => ⟨szle (by show 3 ≤ 1000000; decide), fun p1 hp1 => ?_⟩⟩
                have I4 := I3.push (st := .same a) hq1 hp1
                exact ⟨L, _, _, rfl, rfl, I3.still hq1 hp1, I3.small hlen, _, _, rfl, I4⟩
              · rw [decide_eq_false hab, if_neg hab]
                refine iteF ⟨_, rfl, 1, rfl, t, -1, a, rfl, rfl, ht', at_last e2, _, rfl, 1, rfl, z, -1, b, rfl, rfl, hz', at_last e1, szle (by show 3 ≤ 1000000; decide), fun q1 hq1 => ⟨szle (by show 3 ≤ 1000000; decide), fun p1 hp1 => ?_⟩⟩
                have I4 := I3.push (st := .wrong a b) hq1 hp1
                exact ⟨L, _, _, rfl, rfl, I3.still hq1 hp1, I3.small hlen, _, _, rfl, I4⟩
        · rintro σ4 H4 ⟨vs4, y, rfl, I4⟩
          refine ⟨fun σ H5 => ∃ vs, σ = [some (.ref x), some (.str t), some (.str z), some (.ref L), y] ∧ LsI H L H5 vs (((ls1 (cd z) ++ ls2 (cd t)) ++ ls3 (cd t) (cd z)) ++ ls4 ⟨e, m, w, s⟩ (cd t) (cd z)), ?_, ?_⟩
          · obtain ⟨dx, hx4⟩ := hx.keep I4.kp notnil
            refine ⟨_, rfl, x, dx, _, rfl, hx4, x, dx, _, swV s, rfl, hx4, rfl, rfl, _, rfl, ?_⟩
            cases s with
            | none =>
              refine iteF (iteF ⟨vs4, rfl, ?_⟩)
              unfold ls4
              rw [List.append_nil]
              exact I4
            | some k =>
              refine iteT ⟨_, rfl, z, rfl, hz', _, _, rfl, rfl, _, rfl, ?_⟩
              by_cases h1 : (1 : Int) < z.length
              · rw [decide_eq_true h1]
                refine iteT ⟨_, rfl, t, rfl, ht', _, _, rfl, rfl, _, rfl, ?_⟩
                by_cases h2 : (1 : Int) < t.length
                · rw [decide_eq_true h2]
                  obtain ⟨b, b2, eb, eb2⟩ := two_last (l := cd z) (by rw [cd_len]; omega)
                  obtain ⟨a, a2, ea, ea2⟩ := two_last (l := cd t) (by rw [cd_len]; omega)
                  have e4 : ls4 ⟨e, m, w, some k⟩ (cd t) (cd z) = if b = a2 ∧ b2 = a ∧ b ≠ b2 then [Step.swapped a2 a] else [] := by
                    unfold ls4
                    rw [eb, eb2, ea, ea2]
                  rw [e4]
                  refine iteT ⟨_, rfl, 1, rfl, z, -1, b, rfl, rfl, hz', at_last eb, _, rfl, 2, rfl, t, -2, a2, rfl, rfl, ht', at_last2 ea ea2, rfl, _, rfl, ?_⟩
                  rw [sg_inj]
                  by_cases c1 : b = a2
                  · rw [decide_eq_true c1]
                    refine iteT ⟨_, rfl, 2, rfl, z, -2, b2, rfl, rfl, hz', at_last2 eb eb2, _, rfl, 1, rfl, t, -1, a, rfl, rfl, ht', at_last ea, rfl, _, rfl, ?_⟩
                    rw [sg_inj]
                    by_cases c2 : b2 = a
                    · rw [decide_eq_true c2]
                      refine iteT ⟨_, rfl, 1, rfl, z, -1, b, rfl, rfl, hz', at_last eb, _, rfl, 2, rfl, z, -2, b2, rfl, rfl, hz', at_last2 eb eb2, rfl, _, rfl, ?_⟩
                      rw [sg_inj]
                      by_cases c3 : b = b2
                      · rw [decide_eq_true c3, if_neg (fun h => h.2.2 c3)]
                        exact iteF ⟨vs4, rfl, by rw [List.append_nil]; exact I4⟩
                      · rw [decide_eq_false c3, if_pos ⟨c1, c2, c3⟩]
                        refine iteT ⟨_, rfl, .inl ⟨rfl, _, .inl (.inl I4.hL)⟩, _, rfl, 2, rfl, t, -2, a2, rfl, rfl, ht', at_last2 ea ea2, _, rfl, 1, rfl, t, -1, a, rfl, rfl, ht', at_last ea,
                          szle (by show 3 ≤ 1000000; decide), fun q1 hq1 => ⟨szle (by show 3 ≤ 1000000; decide), fun p1 hp1 => ?_⟩⟩
                        have I5 := I4.push (st := .swapped a2 a) hq1 hp1
                        refine ⟨L, _, _, rfl, rfl, I4.still hq1 hp1, I4.small ?_, _, rfl, I5⟩
                        rw [List.length_append, List.length_append]
                        have := ls1_len (cd z)
                        have := ls2_len (cd t)
                        have := ls3_len (cd t) (cd z)
                        omega
                    · rw [decide_eq_false c2, if_neg (fun h => c2 h.2.1)]
                      exact iteF (iteF ⟨vs4, rfl, by rw [List.append_nil]; exact I4⟩)
                  · rw [decide_eq_false c1, if_neg (fun h => c1 h.1)]
                    exact iteF (iteF ⟨vs4, rfl, by rw [List.append_nil]; exact I4⟩)
                · rw [decide_eq_false h2]
                  refine iteF ⟨vs4, rfl, ?_⟩
                  rw [ls4_short (.inl (by rw [cd_len]; omega)), List.append_nil]
                  exact I4
              · rw [decide_eq_false h1]
                refine iteF (iteF ⟨vs4, rfl, ?_⟩)
                rw [ls4_short (.inr (by rw [cd_len]; omega)), List.append_nil]
                exact I4
          · rintro σ5 H5 ⟨vs5, rfl, I5⟩
            refine ⟨_, rfl, q L vs5 H5 ?_⟩
            unfold lastSteps
            rw [List.append_assoc, List.append_assoc] at I5
            exact I5
end
end G69
namespace G69
open PySem PySem.Spec PyProof.Rows L2
theorem cd_upto (z : Str) (j : Nat) : cd (cutS z none (some (j : Int))) = (cd z).take j := by
  unfold cutS cd
  rw [HT.sIx_nat, HT.sIx_none]
  show List.take (min j z.length - 0) z.cps.toList = _
  have hl : z.cps.toList.length = z.length := cd_len z
  rcases Nat.le_total j z.length with h | h
  · rw [Nat.min_eq_left h, Nat.sub_zero]
  · rw [Nat.min_eq_right h, Nat.sub_zero, List.take_of_length_le (by omega), List.take_of_length_le (by omega)]
theorem cd_from (z : Str) (j : Nat) : cd (cutS z (some (j : Int)) none) = (cd z).drop j := by
  unfold cutS cd
  rw [HT.sIx_nat, HT.sIx_none]
  show List.take (z.length - min j z.length) (List.drop (min j z.length) z.cps.toList) = _
  have hl : z.cps.toList.length = z.length := cd_len z
  rcases Nat.le_total j z.length with h | h
  · rw [Nat.min_eq_left h]
    exact List.take_of_length_le (by rw [List.length_drop]; omega)
  · rw [Nat.min_eq_right h, Nat.sub_self, List.drop_of_length_le (show z.cps.toList.length ≤ j by omega)]
    rfl
theorem cut_len (z : Str) (lo hi : Option Int) : (cutS z lo hi).length ≤ z.length := cutS_length z lo hi
theorem cat_cd (a b : Str) : cd (a ++ b) = cd a ++ cd b := by
  show (a ++ b).cps.toList = _
  rw [Str.cps_append, Array.toList_append]
section
variable {P : Program} {w : World} {K : PySem.W.Frag} {mg : Str → Option Value} {base : Heap}
/-! ### step_price -/
abbrev sStepP : Stmt := topS 13
theorem scStepP : FnScope ["slips", "step"] ["slips", "step"] (defScope sStepP) := ⟨rfl, rfl, rfl, by decide +kernel, rfl, by decide +kernel, by decide +kernel⟩
def spStepP (K : PySem.W.Frag) (C : Addr) : Sp := fun vs H Q _ => ∃ (x q : Addr) (e m w : Int) (s : Option Int) (st : Step), vs = [.ref x, .ref q] ∧ SlAt C H x e m w s ∧ SqT K H q (stepV st) ∧ st.ok ⟨e, m, w, s⟩ ∧ Q (.int (st.pr ⟨e, m, w, s⟩)) H
theorem ok_stepP {f C : Addr} {fd : FuncData} (F : Fun K "step_price" "step_price" sStepP f fd) (S : SlP P w K mg base C) : FnOk P w K mg base CX0 3 f fd ["slips", "step"] (spStepP K C) := by
  refine F.ok scStepP (fun vs H Q E h => ?_) (fun cdv A outer sh H vs Q E hr h => ?_)
  · obtain ⟨x, q, e, m, w, s, st, rfl, _⟩ := h
    rfl
  · obtain ⟨x, q, e, m, w, s, st, rfl, ⟨dx, hx⟩, hq, hok, k⟩ := h
    refine ⟨_, pss_cons (ps_if (pt_cmpR op_eq (pe_ix ix_tup (pv 1) pe_int (fun _ _ => rfl)) pe_str (nomark _)) (pss_one (ps_ret pe_int)) pss_nil)
      (pss_cons (ps_if (pt_cmpR op_eq (pe_ix ix_tup (pv 1) pe_int (fun _ _ => rfl)) pe_str (nomark _)) (pss_one (ps_ret (pe_prp (pv 0) S.T.cl S.pW hr (by decide) rfl))) pss_nil)
      (pss_cons (ps_if (pt_cmpR op_eq (pe_ix ix_tup (pv 1) pe_int (fun _ _ => rfl)) pe_str (nomark _)) (pss_one (ps_ret (pe_prp (pv 0) S.T.cl S.pE hr (by decide) rfl))) pss_nil)
      (pss_one (ps_ret (pe_ifExp (pt_cmpR op_eq (pe_ix ix_tup (pv 1) pe_int (fun _ _ => rfl)) pe_str (nomark _)) (pe_prp (pv 0) S.T.cl S.pM hr (by decide) rfl) (pe_prp (pv 0) S.T.cl S.pS hr (by decide) rfl)))))), ?_⟩
    cases st with
    | same a => exact ⟨_, rfl, q, _, 0, _, rfl, rfl, hq, atI_nat (j := 0) rfl, rfl, _, rfl, iteT k⟩
    | wrong a b =>
      refine ⟨_, rfl, q, _, 0, _, rfl, rfl, hq, atI_nat (j := 0) rfl, rfl, _, rfl, iteF ?_⟩
      exact ⟨_, rfl, q, _, 0, _, rfl, rfl, hq, atI_nat (j := 0) rfl, rfl, _, rfl, iteT ⟨_, rfl, x, dx, _, rfl, hx, x, dx, _, _, rfl, hx, rfl, k⟩⟩
    | extra b =>
      refine ⟨_, rfl, q, _, 0, _, rfl, rfl, hq, atI_nat (j := 0) rfl, rfl, _, rfl, iteF ?_⟩
      refine ⟨_, rfl, q, _, 0, _, rfl, rfl, hq, atI_nat (j := 0) rfl, rfl, _, rfl, iteF ?_⟩
      exact ⟨_, rfl, q, _, 0, _, rfl, rfl, hq, atI_nat (j := 0) rfl, rfl, _, rfl, iteT ⟨_, rfl, x, dx, _, rfl, hx, x, dx, _, _, rfl, hx, rfl, k⟩⟩
    | missing a =>
      refine ⟨_, rfl, q, _, 0, _, rfl, rfl, hq, atI_nat (j := 0) rfl, rfl, _, rfl, iteF ?_⟩
      refine ⟨_, rfl, q, _, 0, _, rfl, rfl, hq, atI_nat (j := 0) rfl, rfl, _, rfl, iteF ?_⟩
      refine ⟨_, rfl, q, _, 0, _, rfl, rfl, hq, atI_nat (j := 0) rfl, rfl, _, rfl, iteF ?_⟩
      exact ⟨_, rfl, q, _, 0, _, rfl, rfl, hq, atI_nat (j := 0) rfl, rfl, _, rfl, iteT ⟨_, rfl, x, dx, _, rfl, hx, x, dx, _, _, rfl, hx, rfl, k⟩⟩
    | swapped a b =>
      refine ⟨_, rfl, q, _, 0, _, rfl, rfl, hq, atI_nat (j := 0) rfl, rfl, _, rfl, iteF ?_⟩
      refine ⟨_, rfl, q, _, 0, _, rfl, rfl, hq, atI_nat (j := 0) rfl, rfl, _, rfl, iteF ?_⟩
      refine ⟨_, rfl, q, _, 0, _, rfl, rfl, hq, atI_nat (j := 0) rfl, rfl, _, rfl, iteF ?_⟩
      refine ⟨_, rfl, q, _, 0, _, rfl, rfl, hq, atI_nat (j := 0) rfl, rfl, _, rfl, iteF ⟨_, rfl, x, dx, _, rfl, hx, x, dx, _, swV s, rfl, hx, rfl, ?_⟩⟩
      cases s with
      | none => exact absurd rfl hok.2
      | some i => exact k
theorem ls4_len (p : Pz) (t x : List Nat) : (ls4 p t x).length ≤ 1 := by
  unfold ls4
  split
  · split
    · exact Nat.le_refl _
    · exact Nat.zero_le _
  · exact Nat.zero_le _
theorem Paired.at {α β : Type} {F : α → β → Prop} : ∀ {l : List α} {m : List β} {k : Nat} {a : α}, Paired F l m → l[k]? = some a → ∃ b, m[k]? = some b ∧ F a b
  | _, _, 0, _, .cons r _, h => ⟨_, rfl, by cases h; exact r⟩
  | _, _, k + 1, _, .cons _ t, h => Paired.at (k := k) t h
/-! ### price_lines -/
abbrev sLines : Stmt := topS 14
abbrev nLines : List Str := ["slips", "target", "text", "lines", "typed", "line", "meant", "some", "step", "less", "fewer", "ahead"]
theorem scLines : FnScope nLines ["slips", "target", "text"] (defScope sLines) := ⟨rfl, rfl, rfl, by decide +kernel, rfl, by decide +kernel, by decide +kernel⟩
noncomputable def val (p : Pz) (t x : List Nat) (i j : Nat) : Int := lc p (t.take j) (x.take i)
noncomputable def rowV (p : Pz) (t x : List Nat) (i n : Nat) : List V := (List.range n).map fun j => V.int (val p t x i j)
def RowsAt (p : Pz) (t x : List Nat) (H : Hp) (rs : List V) (i : Nat) : Prop := rs.length = i ∧ ∀ k : Nat, k < i → ∃ a, rs[k]? = some (.ref a) ∧ H a = some (.lst (rowV p t x k (t.length + 1)))
theorem RowsAt.keep {p : Pz} {t x : List Nat} {H H' : Hp} {rs : List V} {i : Nat} (h : RowsAt p t x H rs i) (k : Kp [] H H') : RowsAt p t x H' rs i := ⟨h.1, fun n hn => let ⟨a, e1, e2⟩ := h.2 n hn; ⟨a, e1, k _ _ e2 notnil⟩⟩
theorem rowV_at {p : Pz} {t x : List Nat} {i n j : Nat} (h : j < n) : (rowV p t x i n)[j]? = some (V.int (val p t x i j)) := by
  unfold rowV
  rw [List.getElem?_map, List.getElem?_range h]
  rfl
theorem rowV_succ (p : Pz) (t x : List Nat) (i n : Nat) : rowV p t x i (n + 1) = rowV p t x i n ++ [V.int (val p t x i n)] := by
  unfold rowV
  rw [List.range_succ, List.map_append]
  rfl
theorem rowV_len (p : Pz) (t x : List Nat) (i n : Nat) : (rowV p t x i n).length = n := by
  unfold rowV
  rw [List.length_map, List.length_range]
def spLines (C : Addr) : Sp := fun vs H Q _ => ∃ (x : Addr) (e m w : Int) (s : Option Int) (t z : Str), vs = [.ref x, .str t, .str z] ∧ SlAt C H x e m w s ∧ PrOk e m w s ∧ t.length ≤ 1000 ∧ z.length ≤ 1000 ∧
  ∀ (L : Addr) (rs : List V) (H' : Hp), H L = none → H' L = some (.lst rs) → RowsAt ⟨e, m, w, s⟩ (cd t) (cd z) H' rs (z.length + 1) → Kp [] H H' → Q (.ref L) H'
theorem PrOk.pos {e m w : Int} {s : Option Int} (h : PrOk e m w s) : Pz.Pos ⟨e, m, w, s⟩ := ⟨by have := h.e0; show 0 ≤ e; omega, by have := h.m0; show 0 ≤ m; omega, by have := h.w0; show 0 ≤ w; omega, fun i hi => by have := h.s0 i hi; omega⟩
/-- the sum behind a last step -/
noncomputable def vSt (p : Pz) (t x : List Nat) (st : Step) : Int := lc p (t.take (t.length - st.meant.length)) (x.take (x.length - st.typed.length)) + st.pr p
set_option maxHeartbeats 1000000 in
theorem ok_lines {f C : Addr} {fd : FuncData} (F : Fun K "price_lines" "price_lines" sLines f fd) (S : SlP P w K mg base C) (CL : Cal P w K mg base "last_steps" ["slips", "target", "text"] 3 (spLast C)) (CS : Cal P w K mg base "step_price" ["slips", "step"] 3 (spStepP K C))
    (mN : mg "len" = none) (mR : mg "range" = none) (mM : mg "min" = none) : FnOk P w K mg base CX0 4 f fd ["slips", "target", "text"] (spLines C) := by
  refine F.ok scLines (fun vs H Q E h => ?_) (fun cdv A outer sh H vs Q E hr h => ?_)
  · obtain ⟨x, e, m, w, s, t, z, rfl, _⟩ := h
    rfl
  · obtain ⟨x, e, m, w, s, t, z, rfl, hx, ok, ht, hz, q⟩ := h
    have hu := hu_of hr
    refine ⟨_, pss_cons (ps_set (i := 3) scLines.nd rfl (.inl rfl) (pe_lst pa_nil))
      (pss_cons (ps_for PassesOwn.never rfl (pi_range1 (by rfl) mR (pa_cons (pe_op op_add (pe_callB call_len_str (by rfl) mN PySem.boot_len (pa_cons (pv 2) pa_nil)) pe_int) pa_nil)) (pg_name (i := 4) scLines.nd rfl (.inl rfl))
        (pss_cons (ps_set (i := 5) scLines.nd rfl (.inl rfl) (pe_lst pa_nil))
        (pss_cons (ps_for PassesOwn.never rfl (pi_range1 (by rfl) mR (pa_cons (pe_op op_add (pe_callB call_len_str (by rfl) mN PySem.boot_len (pa_cons (pv 1) pa_nil)) pe_int) pa_nil)) (pg_name (i := 6) scLines.nd rfl (.inl rfl))
          (pss_cons (ps_set (i := 7) scLines.nd rfl (.inl rfl) (pe_lst pa_nil))
          (pss_cons (ps_for PassesOwn.never rfl (pi_list (pe_cal CL hr (by decide) (by rfl) (pa_cons (pv 0) (pa_cons (pe_slice sl_str (pv 1) po_none (po_some (pv 6))) (pa_cons (pe_slice sl_str (pv 2) po_none (po_some (pv 4))) pa_nil)))))
              (pg_tup rfl (pgs_cons (pg_name (i := 8) scLines.nd rfl (.inl rfl)) (pgs_cons (pg_name (i := 9) scLines.nd rfl (.inl rfl)) (pgs_cons (pg_name (i := 10) scLines.nd rfl (.inl rfl)) pgs_nil))))
            (pss_cons (ps_set (i := 11) scLines.nd rfl (.inl rfl) (pe_ifExp (pt_cmpR op_eq (pv 10) pe_int (nomark _)) (pe_ix ix_list (pv 5) (pe_op op_sub (pv 6) (pv 9)) (fun _ _ => rfl))
                (pe_ix ix_list (pe_ix ix_list (pv 3) (pe_op op_sub (pv 4) (pv 10)) (fun _ _ => rfl)) (pe_op op_sub (pv 6) (pv 9)) (fun _ _ => rfl))))
            (pss_one (ps_expr (pe_bm PySem.F.plainAttrs_list PySem.F.slot_list_append PySem.F.type_list_append mt_append (pv 7) (pa_cons (pe_op op_add (pv 11) (pe_cal CS hr (by decide) (by rfl) (pa_cons (pv 0) (pa_cons (pv 8) pa_nil)))) pa_nil))))))
          (pss_one (ps_expr (pe_bm PySem.F.plainAttrs_list PySem.F.slot_list_append PySem.F.type_list_append mt_append (pv 5) (pa_cons (pe_ifExp (pt_cmpR (op_neD hr.units) (pv 7) (pe_lst pa_nil) (nomark _))
            (pe_callB (cr_min rfl) (by rfl) mM (by decide +kernel) (pa_cons (pv 7) pa_nil)) pe_int) pa_nil)))))))
        (pss_one (ps_expr (pe_bm PySem.F.plainAttrs_list PySem.F.slot_list_append PySem.F.type_list_append mt_append (pv 3) (pa_cons (pv 5) pa_nil)))))))
      (pss_one (ps_ret (pv 3)))), ?_⟩
    have hz' : z.length ≤ sizeLine := szle (by omega)
    have ht' : t.length ≤ sizeLine := szle (by omega)
    have hlt : (cd t).length = t.length := cd_len t
    have hlz : (cd z).length = z.length := cd_len z
    have pos : Pz.Pos ⟨e, m, w, s⟩ := ok.pos
    refine ⟨szle (by show 0 ≤ 1000000; decide), fun L hL => ?_⟩
    refine ⟨_, rfl, z, rfl, hz', _, _, rfl, rfl, ((z.length + 1 : Nat) : Int), rfl, by omega, by omega, for_range (lo := 0) (n := z.length + 1)
      (fun i σ H2 => ∃ (y4 y5 y6 y7 y8 y9 y10 y11 : Option V) (rs : List V), σ = [some (.ref x), some (.str t), some (.str z), some (.ref L), y4, y5, y6, y7, y8, y9, y10, y11] ∧ H2 L = some (.lst rs) ∧ RowsAt ⟨e, m, w, s⟩ (cd t) (cd z) H2 rs i ∧ Kp [] H H2)
      ⟨none, none, none, none, none, none, none, none, [], rfl, upd_same, ⟨rfl, fun k hk => absurd hk (Nat.not_lt_zero k)⟩, Kp.new hL⟩ ?_ ?_⟩
    · rintro i σ H1 hi ⟨y4, y5, y6, y7, y8, y9, y10, y11, rs, rfl, hrs, hro, k1⟩
      -- line = []
      refine ⟨szle (by show 0 ≤ 1000000; decide), fun ln hln => ?_⟩
      have nLl : L ≠ ln := ne_of_none hrs hln
      refine ⟨_, rfl, t, rfl, ht', _, _, rfl, rfl, ((t.length + 1 : Nat) : Int), rfl, by omega, by omega, for_range (lo := 0) (n := t.length + 1)
        (fun j σ H2 => ∃ (y6 y7 y8 y9 y10 y11 : Option V), σ = [some (.ref x), some (.str t), some (.str z), some (.ref L), some (.int (0 + (i : Int))), some (.ref ln), y6, y7, y8, y9, y10, y11] ∧ H2 ln = some (.lst (rowV ⟨e, m, w, s⟩ (cd t) (cd z) i j)) ∧ Kp [] H1 H2)
        ⟨y6, y7, y8, y9, y10, y11, rfl, by rw [upd_same]; rfl, Kp.new hln⟩ ?_ ?_⟩
      · rintro j σ H3 hj ⟨y6, y7, y8, y9, y10, y11, rfl, hl3, k3⟩
        -- some = []
        refine ⟨szle (by show 0 ≤ 1000000; decide), fun so hso => ?_⟩
        have nLs : ln ≠ so := ne_of_none hl3 hso
        have k13 : Kp [] H1 (upd H3 so (.lst [])) := k3.trans (Kp.new hso)
        have hxs : SlAt C (upd H3 so (.lst [])) x e m w s := (hx.keep k1 notnil).keep k13 notnil
        have ej : ((0 : Int) + (j : Int)) = ((j : Nat) : Int) := Int.zero_add _
        have ei : ((0 : Int) + (i : Int)) = ((i : Nat) : Int) := Int.zero_add _
        rw [ej, ei]
        have l1 := cut_len t none (some (j : Int))
        have l2 := cut_len z none (some (i : Int))
        refine ⟨_, rfl, _, rfl, _, rfl, (j : Int), rfl, t, rfl, ht', _, rfl, _, rfl, (i : Int), rfl, z, rfl, hz', x, e, m, w, s, _, _, rfl, hxs, by omega, by omega, fun Ls vs H4 I4 => ?_⟩
        rw [cd_upto, cd_upto] at I4
        have hso4 : H4 so = some (.lst []) := I4.kp _ _ upd_same notnil
        have nLss : Ls ≠ so := by
          intro zz
          have := I4.f0
          rw [zz, upd_same] at this
          cases this
        have hlv : vs.length = (lastSteps ⟨e, m, w, s⟩ ((cd t).take j) ((cd z).take i)).length := Paired.len I4.pr
        have hst : ∀ st ∈ lastSteps ⟨e, m, w, s⟩ ((cd t).take j) ((cd z).take i), st.meant.length ≤ j ∧ st.typed.length ≤ i ∧ st.ok ⟨e, m, w, s⟩ := by
          intro st hs
          obtain ⟨o1, t', x', e1, e2⟩ := mem_lastSteps.mp hs
          have f1 := congrArg List.length e1
          have f2 := congrArg List.length e2
          rw [List.length_append, List.length_take] at f1 f2
          exact ⟨by omega, by omega, o1⟩
        have hl5 : (lastSteps ⟨e, m, w, s⟩ ((cd t).take j) ((cd z).take i)).length ≤ 100 := by
          unfold lastSteps
          rw [List.length_append, List.length_append, List.length_append]
          have := ls1_len ((cd z).take i)
          have := ls2_len ((cd t).take j)
          have := ls3_len ((cd t).take j) ((cd z).take i)
          have := ls4_len ⟨e, m, w, s⟩ ((cd t).take j) ((cd z).take i)
          omega
        refine ⟨Ls, rfl, ⟨_, .inl (.inl I4.hL)⟩, for_list (K := K) (a := Ls) (xs := vs)
          (fun k σ H5 => ∃ (y8 y9 y10 y11 : Option V), σ = [some (.ref x), some (.str t), some (.str z), some (.ref L), some (.int (i : Int)), some (.ref ln), some (.int (j : Int)), some (.ref so), y8, y9, y10, y11] ∧
            H5 so = some (.lst ((((lastSteps ⟨e, m, w, s⟩ ((cd t).take j) ((cd z).take i)).take k).map (vSt ⟨e, m, w, s⟩ ((cd t).take j) ((cd z).take i))).map V.int)) ∧ Kp [so] H4 H5)
          ⟨y8, y9, y10, y11, rfl, hso4, Kp.rfl'⟩ ?_ ?_ ?_⟩
        · rintro k σ H5 _ ⟨y8, y9, y10, y11, rfl, h5, k5⟩
          exact .inl (.inl (k5 _ _ I4.hL (not1 nLss)))
        · rintro k v σ H5 hv ⟨y8, y9, y10, y11, rfl, h5, k5⟩
          obtain ⟨st, hst1, ⟨p, qq, rfl, hp, hqq⟩⟩ := Paired.at I4.pr hv
          have hmem := List.mem_of_getElem? hst1
          obtain ⟨lm, lt, lo⟩ := hst st hmem
          have hp5 := k5 _ _ hp (not1 (ne_of hp hso4 (by intro z; cases z)))
          have hq5 := k5 _ _ hqq (not1 (ne_of hqq hso4 (by intro z; cases z)))
          have kk : Kp [so] H3 H5 := ((Kp.new hso).trans (I4.kp.mono (fun a ha => nomatch ha))).trans k5
          have hx5 : SlAt C H5 x e m w s := (((hx.keep k1 notnil).keep k3 notnil)).keep kk (not1 (by
            intro zz
            obtain ⟨dx, hh⟩ := (hx.keep k1 notnil).keep k3 notnil
            rw [zz, hso] at hh
            cases hh))
          have hl5' := kk _ _ hl3 (not1 nLs)
          have hrs5 : H5 L = some (.lst rs) := kk _ _ (k3 _ _ hrs notnil) (not1 (ne_of_none (k3 _ _ hrs notnil) hso))
          refine ⟨p, _, rfl, .inl (.inl hp5), rfl, _, _, rfl, _, _, rfl, _, _, rfl, rfl, ?_⟩
          have fin : ∀ y, (lc ⟨e, m, w, s⟩ (((cd t).take j).take (((cd t).take j).length - st.meant.length)) (((cd z).take i).take (((cd z).take i).length - st.typed.length))) = y →
              H5 so = some (.lst ((((lastSteps ⟨e, m, w, s⟩ ((cd t).take j) ((cd z).take i)).take k).map (vSt ⟨e, m, w, s⟩ ((cd t).take j) ((cd z).take i))).map V.int)) →
              (((lastSteps ⟨e, m, w, s⟩ ((cd t).take j) ((cd z).take i)).take k).map (vSt ⟨e, m, w, s⟩ ((cd t).take j) ((cd z).take i))).map V.int ++ [V.int (y + st.pr ⟨e, m, w, s⟩)] =
              (((lastSteps ⟨e, m, w, s⟩ ((cd t).take j) ((cd z).take i)).take (k + 1)).map (vSt ⟨e, m, w, s⟩ ((cd t).take j) ((cd z).take i))).map V.int := by
            intro y hy _
            rw [List.take_add_one, hst1, List.map_append, List.map_append, ← hy]
            rfl
          have hsz : ((((lastSteps ⟨e, m, w, s⟩ ((cd t).take j) ((cd z).take i)).take k).map (vSt ⟨e, m, w, s⟩ ((cd t).take j) ((cd z).take i))).map V.int).length < sizeLine := by
            refine szlt ?_
            rw [List.length_map, List.length_map, List.length_take]
            omega
          have ea : ∀ a : Nat, a = i - st.typed.length → lc ⟨e, m, w, s⟩ (((cd t).take j).take (((cd t).take j).length - st.meant.length)) (((cd z).take i).take (((cd z).take i).length - st.typed.length)) = val ⟨e, m, w, s⟩ (cd t) (cd z) a (j - st.meant.length) := by
            intro a ha
            unfold val
            rw [List.length_take, List.length_take, List.take_take, List.take_take]
            rw [show min (min j (cd t).length - st.meant.length) j = j - st.meant.length by omega, show min (min i (cd z).length - st.typed.length) i = a by omega]
          have ndx : (j : Int) - (st.meant.length : Int) = ((j - st.meant.length : Nat) : Int) := by omega
          have ndi : (i : Int) - (st.typed.length : Int) = ((i - st.typed.length : Nat) : Int) := by omega
          refine ⟨_, rfl, rfl, _, rfl, ?_⟩
          by_cases hf : st.typed.length = 0
          · have hd : decide (V.int (st.typed.length : Int) = V.int 0) = true := decide_eq_true (by rw [hf]; rfl)
            rw [hd]
            have hm1 : 0 < st.meant.length := by
              cases st with
              | extra b => exact absurd hf (Nat.succ_ne_zero 0)
              | _ => exact Nat.succ_pos _
            refine iteT ⟨_, rfl, _, rfl, _, rfl, _, _, rfl, rfl, ln, _, _, V.int (val ⟨e, m, w, s⟩ (cd t) (cd z) i (j - st.meant.length)), rfl, rfl, .inl (.inl hl5'), ?_, ?_⟩
            · show atI _ ((j : Int) - (st.meant.length : Int)) = _
              rw [ndx]
              exact atI_nat (rowV_at (by omega))
            · refine ⟨_, rfl, .inl ⟨rfl, _, .inl (.inl h5)⟩, _, rfl, _, rfl, _, rfl, x, qq, e, m, w, s, st, rfl, hx5, .inl (.inl hq5), lo, _, _, rfl, rfl, so, _, _, rfl, rfl, h5, hsz, ?_⟩
              refine ⟨_, _, _, _, rfl, ?_, k5.trans (Kp.put (by simp))⟩
              rw [upd_same]
              exact congrArg (fun l => some (HO.lst l)) (fin _ (ea i (by omega)) h5)
          · have hd : decide (V.int (st.typed.length : Int) = V.int 0) = false := decide_eq_false (by intro zz; have := V.int.inj zz; omega)
            rw [hd]
            obtain ⟨ra, hra1, hra2⟩ := hro.2 (i - st.typed.length) (by omega)
            have hra5 : H5 ra = some (.lst (rowV ⟨e, m, w, s⟩ (cd t) (cd z) (i - st.typed.length) ((cd t).length + 1))) := kk _ _ (k3 _ _ hra2 notnil) (not1 (ne_of_none (k3 _ _ hra2 notnil) hso))
            refine iteF ⟨_, rfl, _, rfl, _, rfl, _, _, rfl, rfl, L, rs, _, .ref ra, rfl, rfl, .inl (.inl hrs5), ?_, _, rfl, _, rfl, _, _, rfl, rfl, ra, _, _, V.int (val ⟨e, m, w, s⟩ (cd t) (cd z) (i - st.typed.length) (j - st.meant.length)), rfl, rfl, .inl (.inl hra5), ?_, ?_⟩
            · show atI _ ((i : Int) - (st.typed.length : Int)) = _
              rw [ndi]
              exact atI_nat hra1
            · show atI _ ((j : Int) - (st.meant.length : Int)) = _
              rw [ndx]
              exact atI_nat (rowV_at (by omega))
            · refine ⟨_, rfl, .inl ⟨rfl, _, .inl (.inl h5)⟩, _, rfl, _, rfl, _, rfl, x, qq, e, m, w, s, st, rfl, hx5, .inl (.inl hq5), lo, _, _, rfl, rfl, so, _, _, rfl, rfl, h5, hsz, ?_⟩
              refine ⟨_, _, _, _, rfl, ?_, k5.trans (Kp.put (by simp))⟩
              rw [upd_same]
              exact congrArg (fun l => some (HO.lst l)) (fin _ (ea _ rfl) h5)
        · rintro σ H5 ⟨y8, y9, y10, y11, rfl, h5, k5⟩
          have kk : Kp [so] H3 H5 := ((Kp.new hso).trans (I4.kp.mono (fun a ha => nomatch ha))).trans k5
          have hl5' := kk _ _ hl3 (not1 nLs)
          have k15 : Kp [] H1 H5 := fun a o h _ => kk a o (k3 a o h notnil) (not1 (ne_of_none (k3 a o h notnil) hso))
          rw [hlv, List.take_length] at h5
          refine ⟨_, rfl, .inl ⟨rfl, _, .inl (.inl hl5')⟩, _, rfl, szle (by show 0 ≤ 1000000; decide), fun p1 hp1 => ?_⟩
          have h6 : (upd H5 p1 (.lst [])) so = some (.lst (((lastSteps ⟨e, m, w, s⟩ ((cd t).take j) ((cd z).take i)).map (vSt ⟨e, m, w, s⟩ ((cd t).take j) ((cd z).take i))).map V.int)) := by
            rw [upd_ne (ne_of_none h5 hp1)]
            exact h5
          have hl6 : (upd H5 p1 (.lst [])) ln = some (.lst (rowV ⟨e, m, w, s⟩ (cd t) (cd z) i j)) := by
            rw [upd_ne (ne_of_none hl5' hp1)]
            exact hl5'
          have k16 : Kp [] H1 (upd H5 p1 (.lst [])) := k15.trans (Kp.new hp1)
          refine ⟨_, _, .lst (.inl (.inl h6)) (dpInts _), .lst (.inl (.inl upd_same)) .nil, shapedInts _, by decide +kernel, _, rfl, ?_⟩
          rw [eqvNil]
          have done : ∀ c, c = val ⟨e, m, w, s⟩ (cd t) (cd z) i j → ∃ (v6 v7 v8 v9 v10 v11 : Option V), ([some (.ref x), some (.str t), some (.str z), some (.ref L), some (.int (i : Int)), some (.ref ln), some (.int (j : Int)), some (.ref so), y8, y9, y10, y11] : L2.St) = [some (.ref x), some (.str t), some (.str z), some (.ref L), some (.int (i : Int)), some (.ref ln), v6, v7, v8, v9, v10, v11] ∧
              (upd (upd H5 p1 (.lst [])) ln (.lst (rowV ⟨e, m, w, s⟩ (cd t) (cd z) i j ++ [V.int c]))) ln = some (.lst (rowV ⟨e, m, w, s⟩ (cd t) (cd z) i (j + 1))) ∧ Kp [] H1 (upd (upd H5 p1 (.lst [])) ln (.lst (rowV ⟨e, m, w, s⟩ (cd t) (cd z) i j ++ [V.int c]))) := by
            intro c hc
            exact ⟨_, _, _, _, _, _, rfl, by rw [upd_same, rowV_succ, hc], k16.mut hln⟩
          have hsl : (rowV ⟨e, m, w, s⟩ (cd t) (cd z) i j).length < sizeLine := szlt (by rw [rowV_len]; omega)
          by_cases hnil : lastSteps ⟨e, m, w, s⟩ ((cd t).take j) ((cd z).take i) = []
          · rw [hnil]
            refine iteF ⟨ln, _, _, rfl, rfl, hl6, hsl, ?_⟩
            refine done 0 ?_
            obtain ⟨e1, e2⟩ := lastSteps_nil.mp hnil
            unfold val
            rw [e1, e2]
            exact (lc_eq pos (least_nil pos)).symm
          · have hne : ((lastSteps ⟨e, m, w, s⟩ ((cd t).take j) ((cd z).take i)).map (vSt ⟨e, m, w, s⟩ ((cd t).take j) ((cd z).take i))).isEmpty = false := by
              cases hh : lastSteps ⟨e, m, w, s⟩ ((cd t).take j) ((cd z).take i) with
              | nil => exact absurd hh hnil
              | cons a r => rfl
            rw [hne]
            refine iteT ⟨_, rfl, so, _, rfl, .inl (.inl h6), ?_, fun c hc1 hc2 => ⟨ln, _, _, rfl, rfl, hl6, hsl, ?_⟩⟩
            · rw [List.length_map]
              exact List.length_pos_iff.mpr hnil
            · refine done c ?_
              have hL : Least ⟨e, m, w, s⟩ ((cd t).take j) ((cd z).take i) c := by
                refine least_step (fun st => lc ⟨e, m, w, s⟩ (((cd t).take j).take (((cd t).take j).length - st.meant.length)) (((cd z).take i).take (((cd z).take i).length - st.typed.length))) hnil (fun st _ => lc_least pos _ _) ?_ ?_
                · obtain ⟨st, h1, h2⟩ := List.mem_map.mp hc1
                  exact ⟨st, h1, h2.symm⟩
                · intro st hs
                  exact hc2 _ (List.mem_map.mpr ⟨st, hs, rfl⟩)
              exact (lc_eq pos hL).symm
      · rintro σ H3 ⟨y6, y7, y8, y9, y10, y11, rfl, hl3, k3⟩
        refine ⟨_, rfl, .inl ⟨rfl, _, .inl (.inl (k3 _ _ hrs notnil))⟩, _, rfl, L, rs, _, rfl, rfl, k3 _ _ hrs notnil, szlt (by rw [hro.1]; omega), ?_⟩
        refine ⟨_, _, _, _, _, _, _, _, rs ++ [.ref ln], rfl, upd_same, ⟨by rw [List.length_append, hro.1]; rfl, fun k hk => ?_⟩, (k1.trans k3).mut hL⟩
        by_cases hki : k < i
        · obtain ⟨a, e1, e2⟩ := hro.2 k hki
          refine ⟨a, by rw [List.getElem?_append_left (by rw [hro.1]; exact hki)]; exact e1, ?_⟩
          have hne : a ≠ L := by
            intro zz
            rw [zz, hrs] at e2
            have e3 : rs = rowV ⟨e, m, w, s⟩ (cd t) (cd z) k ((cd t).length + 1) := HO.lst.inj (Option.some.inj e2)
            have e4 : k < (cd t).length + 1 := by
              have := congrArg List.length e3
              rw [rowV_len, hro.1] at this
              omega
            rw [e3, rowV_at e4] at e1
            cases e1
          rw [upd_ne hne]
          exact k3 _ _ e2 notnil
        · have e5 : k = i := by omega
          subst e5
          refine ⟨ln, by rw [List.getElem?_append_right (by rw [hro.1]; exact Nat.le_refl _), hro.1, Nat.sub_self]; rfl, ?_⟩
          rw [upd_ne nLl.symm, hlt]
          exact hl3
    · rintro σ H2 ⟨y4, y5, y6, y7, y8, y9, y10, y11, rs, rfl, hrs, hro, k⟩
      exact ⟨_, rfl, q L rs H2 hL hrs hro k⟩
/-! ### price -/
abbrev sPrice : Stmt := topS 15
theorem scPrice : FnScope ["slips", "target", "text"] ["slips", "target", "text"] (defScope sPrice) := ⟨rfl, rfl, rfl, by decide +kernel, rfl, by decide +kernel, by decide +kernel⟩
def spPrice0 (C : Addr) : Sp := fun vs H Q _ => ∃ (x : Addr) (e m w : Int) (s : Option Int) (t z : Str), vs = [.ref x, .str t, .str z] ∧ SlAt C H x e m w s ∧ PrOk e m w s ∧ isT (.str t) = true ∧ isT (.str z) = true ∧ t.length ≤ 1000 ∧ z.length ≤ 1000 ∧
  ∀ (H' : Hp), Kp [] H H' → Q (.int (lc ⟨e, m, w, s⟩ (cd t) (cd z))) H'
theorem ok_price0 {f C : Addr} {fd : FuncData} (F : Fun K "price" "price" sPrice f fd) (CL : Cal P w K mg base "price_lines" ["slips", "target", "text"] 4 (spLines C)) (CN : Cal P w K mg base "need_text" ["thing"] 2 spNeed0) :
    FnOk P w K mg base CX0 5 f fd ["slips", "target", "text"] (spPrice0 C) := by
  refine F.ok scPrice (fun vs H Q E h => ?_) (fun cdv A outer sh H vs Q E hr h => ?_)
  · obtain ⟨x, e, m, w, s, t, z, rfl, _⟩ := h
    rfl
  · obtain ⟨x, e, m, w, s, t, z, rfl, hx, ok, tt, tz, ht, hz, q⟩ := h
    refine ⟨_, pss_cons (ps_expr (pe_cal CN hr (by decide) (by rfl) (pa_cons (pv 1) pa_nil))) (pss_cons (ps_expr (pe_cal CN hr (by decide) (by rfl) (pa_cons (pv 2) pa_nil)))
      (pss_one (ps_ret (pe_ix ix_list (pe_ix ix_list (pe_cal CL hr (by decide) (by rfl) (pa_cons (pv 0) (pa_cons (pv 1) (pa_cons (pv 2) pa_nil)))) (pe_un un_neg pe_int) (fun _ _ => rfl)) (pe_un un_neg pe_int) (fun _ _ => rfl))))), ?_⟩
    refine ⟨_, rfl, t, rfl, tt, by omega, fun H1 k1 => ⟨_, rfl, z, rfl, tz, by omega, fun H2 k2 => ?_⟩⟩
    have k12 := k1.trans k2
    refine ⟨_, rfl, _, rfl, _, rfl, x, e, m, w, s, t, z, rfl, hx.keep k12 notnil, ok, ht, hz, fun L rs H3 hL hrs hro k3 => ?_⟩
    obtain ⟨a, e1, e2⟩ := hro.2 z.length (Nat.lt_succ_self _)
    refine ⟨1, rfl, L, rs, -1, .ref a, rfl, rfl, .inl (.inl hrs), ?_, 1, rfl, a, _, -1, _, rfl, rfl, .inl (.inl e2), ?_, q H3 (k12.trans k3)⟩
    · have hl : rs.length = z.length + 1 := hro.1
      unfold atI ixN
      rw [if_neg (by decide), if_pos (by omega)]
      show rs[((-1 : Int) + rs.length).toNat]? = _
      rw [show ((-1 : Int) + rs.length).toNat = z.length by omega]
      exact e1
    · rw [rowV_succ]
      have := atI_last (rowV ⟨e, m, w, s⟩ (cd t) (cd z) z.length (cd t).length) (V.int (val ⟨e, m, w, s⟩ (cd t) (cd z) z.length (cd t).length))
      rw [this]
      unfold val
      rw [List.take_length, ← cd_len z, List.take_length]
end
end G69
namespace G69
open PySem PySem.Spec PyProof.Rows L2
/-! ### texts by their codes -/
def Tx (z : Str) : Prop := ∀ c ∈ cd z, isL c
theorem isLb_iff (c : Nat) : isLb c = true ↔ isL c := by
  unfold isLb isL
  simp only [Bool.and_eq_true, decide_eq_true_eq]
theorem Tx.isT {z : Str} (h : Tx z) : isT (.str z) = true := by
  show (cd z).all isLb = true
  rw [List.all_eq_true]
  exact fun c hc => (isLb_iff c).mpr (h c hc)
theorem Tx.cat {a b : Str} (h : Tx a) (g : Tx b) : Tx (a ++ b) := fun c hc => by
  rw [cat_cd] at hc
  exact (List.mem_append.mp hc).elim (h c) (g c)
theorem Tx.rev {a : Str} (h : Tx a) : Tx (revS a) := fun c hc => h c (by
  rw [show cd (revS a) = (cd a).reverse from revS_list a] at hc
  exact List.mem_reverse.mp hc)
theorem Tx.upto {a : Str} (h : Tx a) (j : Nat) : Tx (cutS a none (some (j : Int))) := fun c hc => by
  rw [cd_upto] at hc
  exact h c (List.mem_of_mem_take hc)
theorem Tx.from {a : Str} (h : Tx a) (j : Nat) : Tx (cutS a (some (j : Int)) none) := fun c hc => by
  rw [cd_from] at hc
  exact h c (List.mem_of_mem_drop hc)
theorem Tx.sg {c : Nat} (h : isL c) : Tx (sg c) := fun b hb => by
  rw [List.mem_singleton.mp hb]
  exact h
theorem idx_abc : ∀ k : Fin 26, Builtin.Str.occurrences abc (sg (97 + k.val)) 0 abc.length 1 = [k.val] := by decide +kernel
theorem idx_of {c : Nat} (h : isL c) : Builtin.Str.occurrences abc (sg c) 0 abc.length 1 = [c - 97] := by
  have := idx_abc ⟨c - 97, by have := h.1; have := h.2; omega⟩
  have e : 97 + (c - 97) = c := by have := h.1; omega
  rw [show (97 + (⟨c - 97, by have := h.1; have := h.2; omega⟩ : Fin 26).val) = c from e] at this
  exact this
section
variable {P : Program} {w : World} {K : PySem.W.Frag} {mg : Str → Option Value} {base : Heap}
/-! ### _law_renamed -/
abbrev sRen : Stmt := topS 25
abbrev nRen : List Str := ["_law_order", "_law_text", "_law_letter"]
theorem scRen : FnScope nRen ["_law_order", "_law_text"] (defScope sRen) := ⟨rfl, rfl, rfl, by decide +kernel, rfl, by decide +kernel, by decide +kernel⟩
def renF (os : List Nat) (c : Nat) : Nat := os.getD (c - 97) 0
def renS (os : List Nat) (z : Str) : Str := ⟨((cd z).map (renF os)).toArray⟩
theorem renS_cd (os : List Nat) (z : Str) : cd (renS os z) = (cd z).map (renF os) := rfl
def spRen (K : PySem.W.Frag) : Sp := fun vs H Q _ => ∃ (a : Addr) (os : List Nat) (z : Str), vs = [.ref a, .str z] ∧ SqL K H a (sgs os) ∧ os.length = 26 ∧ Tx z ∧ z.length ≤ 1000 ∧
  ∀ H', Kp [] H H' → Q (.str (renS os z)) H'
theorem ok_ren {f : Addr} {fd : FuncData} (F : Fun K "_law_renamed" "_law_renamed" sRen f fd) : FnOk P w K mg base CX0 1 f fd ["_law_order", "_law_text"] (spRen K) := by
  refine F.ok scRen (fun vs H Q E h => ?_) (fun cdv A outer sh H vs Q E hr h => ?_)
  · obtain ⟨a, os, z, rfl, _⟩ := h
    rfl
  · obtain ⟨a, os, z, rfl, hS, ho, hz, hl, q⟩ := h
    refine ⟨_, pss_one (ps_ret (pe_bm PySem.F.plainAttrs_str PySem.F.slot_str_join PySem.F.type_str_join mt_join pe_str (pa_cons (pe_lc (own := [("_law_letter", 2)]) (g := gName 2) (tt := tYes) (by rfl) scRen.nd (pi_str (pv 1))
      (blkOk_by (own := [("_law_letter", 2)]) (N := nRen) (sc := defScope sRen) (by decide +kernel)) (fun _ _ _ _ _ => pg_name (i := 2) scRen.nd rfl (Or.inl rfl)) (fun _ _ _ _ _ => pts_nil)
      (fun _ _ _ _ _ => pe_ix (ix_listK (K := K) rfl) (pv 0) (pe_bmK (K := K) rfl PySem.F.plainAttrs_str PySem.F.slot_str_index PySem.F.type_str_index mt_sindex pe_str (pa_cons (pv 2) pa_nil)) (fun _ _ => rfl))) pa_nil))), ?_⟩
    refine ⟨rfl, _, rfl, z, rfl, fun L hL => lc_it walk_str
      (fun i H2 => H2 L = some (.lst (sgs (((cd z).take i).map (renF os)))) ∧ Kp [] H H2)
      ⟨upd_same, Kp.new hL⟩ (fun _ _ _ _ => trivial) ?_ ?_⟩
    · rintro i x H2 H2' hi ⟨e, k⟩ ⟨rfl, c, hc, rfl⟩
      have hc' : (cd z)[i]? = some c := by rw [show (cd z)[i]? = z.cps[i]? from Array.getElem?_toList]; exact hc
      have hcl := hz c (List.mem_of_getElem? hc')
      have hb : c - 97 < os.length := by have := hcl.1; have := hcl.2; omega
      have hat : atI (sgs os) ((c - 97 : Nat) : Int) = some (V.str (sg (renF os c))) := by
        refine atI_nat ?_
        rw [List.getElem?_map, List.getElem?_eq_getElem hb]
        unfold renF
        rw [List.getD_eq_getElem?_getD, List.getElem?_eq_getElem hb]
        rfl
      refine ⟨rfl, yes1 ⟨_, rfl, rfl, _, rfl, abc, sg c, c - 97, [], rfl, rfl, idx_of hcl, a, _, _, _, rfl, rfl, k.l notnil hS, hat, _, e, ?_, ?_, k.mut hL⟩⟩
      · refine szlt ?_
        rw [List.length_map, List.length_map, List.length_take, cd_len]
        omega
      · rw [upd_same, List.take_add_one, hc', List.map_append]
        show some (HO.lst _) = some (HO.lst (sgs (_ ++ [renF os c])))
        rw [sgs_snoc]
    · rintro H2 ⟨e, k⟩
      have e' : (cd z).take z.cps.size = cd z := List.take_of_length_le (Nat.le_of_eq (cd_len z))
      rw [e'] at e
      refine ⟨"", L, ((cd z).map (renF os)).map sg, rfl, rfl, .inl (.inl (.inl (by rw [e, sgs_eq]))), ?_, ?_⟩
      · rw [joinLen, List.length_map, cd_len]
        show z.length + _ * 0 ≤ 16777216
        omega
      · rw [joinSigns]
        exact q H2 k
end
end G69
namespace G69
/-! ### how least costs hang together -/
theorem lc_le {p : Pz} (h : p.Pos) {t x : List Nat} {rs : List Step} (g : Rdg p t x rs) : lc p t x ≤ cost p rs := (lc_least h t x).le rs g
theorem lc_of {p : Pz} (h : p.Pos) (t x : List Nat) : ∃ rs, Rdg p t x rs ∧ cost p rs = lc p t x := (lc_least h t x).at_
/-! #### backwards -/
def Step.back : Step → Step
  | .swapped a b => .swapped b a
  | st => st
theorem back_meant (st : Step) : st.back.meant = st.meant.reverse := by cases st <;> rfl
theorem back_typed (st : Step) : st.back.typed = st.typed.reverse := by cases st <;> rfl
theorem back_pr (p : Pz) (st : Step) : st.back.pr p = st.pr p := by cases st <;> rfl
theorem back_ok {p : Pz} {st : Step} (h : st.ok p) : st.back.ok p := by
  cases st with
  | swapped a b => exact ⟨h.1.symm, h.2⟩
  | _ => exact h
theorem Rdg.rev {p : Pz} {t x : List Nat} {rs : List Step} (h : Rdg p t x rs) : Rdg p t.reverse x.reverse (rs.reverse.map Step.back) := by
  have gen : ∀ rs : List Step, (rs.reverse.map Step.back).flatMap Step.meant = (rs.flatMap Step.meant).reverse ∧ (rs.reverse.map Step.back).flatMap Step.typed = (rs.flatMap Step.typed).reverse := by
    intro rs
    induction rs with
    | nil => exact ⟨rfl, rfl⟩
    | cons st r ih =>
      rw [List.reverse_cons, List.map_append, List.flatMap_append, List.flatMap_append, ih.1, ih.2, List.flatMap_cons, List.flatMap_cons, List.reverse_append, List.reverse_append]
      show _ ++ (st.back.meant ++ []) = _ ∧ _ ++ (st.back.typed ++ []) = _
      rw [List.append_nil, List.append_nil, back_meant, back_typed]
      exact ⟨rfl, rfl⟩
  refine ⟨fun st hs => ?_, by rw [(gen rs).1, h.mt], by rw [(gen rs).2, h.ty]⟩
  obtain ⟨s0, h1, h2⟩ := List.mem_map.mp hs
  rw [← h2]
  exact back_ok (h.ok s0 (List.mem_reverse.mp h1))
theorem cost_rev (p : Pz) (rs : List Step) : cost p (rs.reverse.map Step.back) = cost p rs := by
  induction rs with
  | nil => rfl
  | cons st r ih =>
    rw [List.reverse_cons, List.map_append, cost_append, ih, cost_cons]
    show _ + cost p [st.back] = _
    rw [cost_cons, cost_nil, back_pr]
    omega
theorem lc_rev {p : Pz} (h : p.Pos) (t x : List Nat) : lc p t.reverse x.reverse = lc p t x := by
  have half : ∀ t x : List Nat, lc p t.reverse x.reverse ≤ lc p t x := by
    intro t x
    obtain ⟨rs, h1, h2⟩ := lc_of h t x
    have := lc_le h h1.rev
    rw [cost_rev, h2] at this
    exact this
  have a := half t x
  have b := half t.reverse x.reverse
  rw [List.reverse_reverse, List.reverse_reverse] at b
  omega
/-! #### text and target exchanged -/
def Step.flip : Step → Step
  | .same a => .same a
  | .wrong a b => .wrong b a
  | .extra b => .missing b
  | .missing a => .extra a
  | .swapped a b => .swapped b a
def Pz.flip (p : Pz) : Pz := ⟨p.m, p.e, p.w, p.s⟩
theorem flip_pos {p : Pz} (h : p.Pos) : p.flip.Pos := ⟨h.m, h.e, h.w, h.s⟩
theorem Rdg.flip {p : Pz} {t x : List Nat} {rs : List Step} (h : Rdg p t x rs) : Rdg p.flip x t (rs.map Step.flip) := by
  have m1 : ∀ st : Step, st.flip.meant = st.typed := by intro st; cases st <;> rfl
  have m2 : ∀ st : Step, st.flip.typed = st.meant := by intro st; cases st <;> rfl
  have gen : ∀ rs : List Step, (rs.map Step.flip).flatMap Step.meant = rs.flatMap Step.typed ∧ (rs.map Step.flip).flatMap Step.typed = rs.flatMap Step.meant := by
    intro rs
    induction rs with
    | nil => exact ⟨rfl, rfl⟩
    | cons st r ih =>
      rw [List.map_cons, List.flatMap_cons, List.flatMap_cons, List.flatMap_cons, List.flatMap_cons, ih.1, ih.2, m1, m2]
      exact ⟨rfl, rfl⟩
  refine ⟨fun st hs => ?_, by rw [(gen rs).1, h.ty], by rw [(gen rs).2, h.mt]⟩
  obtain ⟨s0, h1, h2⟩ := List.mem_map.mp hs
  rw [← h2]
  have := h.ok s0 h1
  cases s0 with
  | wrong a b => exact fun z => this z.symm
  | swapped a b => exact ⟨fun z => this.1 z.symm, this.2⟩
  | _ => trivial
theorem cost_flip (p : Pz) (rs : List Step) : cost p.flip (rs.map Step.flip) = cost p rs := by
  induction rs with
  | nil => rfl
  | cons st r ih =>
    rw [List.map_cons, cost_cons, cost_cons, ih]
    cases st <;> rfl
theorem lc_flip {p : Pz} (h : p.Pos) (t x : List Nat) : lc p.flip x t = lc p t x := by
  have half : ∀ (p : Pz), p.Pos → ∀ t x : List Nat, lc p.flip x t ≤ lc p t x := by
    intro p h t x
    obtain ⟨rs, h1, h2⟩ := lc_of h t x
    have := lc_le (flip_pos h) h1.flip
    rw [cost_flip, h2] at this
    exact this
  have a := half p h t x
  have b : lc p t x ≤ lc p.flip x t := half p.flip (flip_pos h) x t
  omega
/-! #### letters exchanged -/
def Step.ren (f : Nat → Nat) : Step → Step
  | .same a => .same (f a)
  | .wrong a b => .wrong (f a) (f b)
  | .extra b => .extra (f b)
  | .missing a => .missing (f a)
  | .swapped a b => .swapped (f a) (f b)
theorem Rdg.ren {p : Pz} {t x : List Nat} {rs : List Step} (f : Nat → Nat) (S : Nat → Prop) (inj : ∀ a b, S a → S b → f a = f b → a = b) (ht : ∀ a ∈ t, S a) (hx : ∀ a ∈ x, S a) (h : Rdg p t x rs) :
    Rdg p (t.map f) (x.map f) (rs.map (Step.ren f)) := by
  have m1 : ∀ st : Step, (st.ren f).meant = st.meant.map f := by intro st; cases st <;> rfl
  have m2 : ∀ st : Step, (st.ren f).typed = st.typed.map f := by intro st; cases st <;> rfl
  have gen : ∀ rs : List Step, (rs.map (Step.ren f)).flatMap Step.meant = (rs.flatMap Step.meant).map f ∧ (rs.map (Step.ren f)).flatMap Step.typed = (rs.flatMap Step.typed).map f := by
    intro rs
    induction rs with
    | nil => exact ⟨rfl, rfl⟩
    | cons st r ih =>
      rw [List.map_cons, List.flatMap_cons, List.flatMap_cons, List.flatMap_cons, List.flatMap_cons, ih.1, ih.2, m1, m2, List.map_append, List.map_append]
      exact ⟨rfl, rfl⟩
  refine ⟨fun st hs => ?_, by rw [(gen rs).1, h.mt], by rw [(gen rs).2, h.ty]⟩
  obtain ⟨s0, h1, h2⟩ := List.mem_map.mp hs
  rw [← h2]
  have hok := h.ok s0 h1
  have hm : ∀ a ∈ s0.meant, S a := fun a ha => ht a (by rw [← h.mt]; exact List.mem_flatMap.mpr ⟨s0, h1, ha⟩)
  have hy : ∀ a ∈ s0.typed, S a := fun a ha => hx a (by rw [← h.ty]; exact List.mem_flatMap.mpr ⟨s0, h1, ha⟩)
  cases s0 with
  | wrong a b => exact fun z => hok (inj a b (hm a (List.mem_singleton.mpr rfl)) (hy b (List.mem_singleton.mpr rfl)) z)
  | swapped a b => exact ⟨fun z => hok.1 (inj a b (hm a (by simp [Step.meant])) (hm b (by simp [Step.meant])) z), hok.2⟩
  | _ => trivial
theorem cost_ren (p : Pz) (f : Nat → Nat) (rs : List Step) : cost p (rs.map (Step.ren f)) = cost p rs := by
  induction rs with
  | nil => rfl
  | cons st r ih =>
    rw [List.map_cons, cost_cons, cost_cons, ih]
    cases st <;> rfl
theorem lc_ren {p : Pz} (h : p.Pos) {t x : List Nat} (f : Nat → Nat) (S : Nat → Prop) (inj : ∀ a b, S a → S b → f a = f b → a = b) (ht : ∀ a ∈ t, S a) (hx : ∀ a ∈ x, S a) : lc p (t.map f) (x.map f) = lc p t x := by
  have half : ∀ (f : Nat → Nat) (S : Nat → Prop), (∀ a b, S a → S b → f a = f b → a = b) → ∀ t x : List Nat, (∀ a ∈ t, S a) → (∀ a ∈ x, S a) → lc p (t.map f) (x.map f) ≤ lc p t x := by
    intro f S inj t x ht hx
    obtain ⟨rs, h1, h2⟩ := lc_of h t x
    have := lc_le h (h1.ren f S inj ht hx)
    rw [cost_ren, h2] at this
    exact this
  have a := half f S inj t x ht hx
  -- the way back
  have hg : ∃ g : Nat → Nat, ∀ a, S a → g (f a) = a := by
    classical
    refine ⟨fun y => if hy : ∃ c, S c ∧ f c = y then Classical.choose hy else 0, fun a ha => ?_⟩
    have hy : ∃ c, S c ∧ f c = f a := ⟨a, ha, rfl⟩
    show (if hy : ∃ c, S c ∧ f c = f a then Classical.choose hy else 0) = a
    rw [dif_pos hy]
    have hc := Classical.choose_spec hy
    exact inj _ _ hc.1 ha hc.2
  obtain ⟨g, hg⟩ := hg
  have back : ∀ l : List Nat, (∀ a ∈ l, S a) → (l.map f).map g = l := by
    intro l hl
    rw [List.map_map]
    calc l.map (g ∘ f) = l.map id := List.map_congr_left fun a ha => hg a (hl a ha)
      _ = l := List.map_id l
  have b := half g (fun y => ∃ c, S c ∧ f c = y) (fun a b ⟨c, hc, e1⟩ ⟨d, hd, e2⟩ z => by
    rw [← e1, ← e2, hg c hc, hg d hd] at z
    rw [← e1, ← e2, z]) (t.map f) (x.map f)
    (fun a ha => by obtain ⟨c, hc, e⟩ := List.mem_map.mp ha; exact ⟨c, ht c hc, e⟩) (fun a ha => by obtain ⟨c, hc, e⟩ := List.mem_map.mp ha; exact ⟨c, hx c hc, e⟩)
  rw [back t ht, back x hx] at b
  omega
/-! #### a letter more or less -/
theorem lc_append {p : Pz} (h : p.Pos) (t x t' x' : List Nat) : lc p (t ++ t') (x ++ x') ≤ lc p t x + lc p t' x' := by
  obtain ⟨rs, h1, h2⟩ := lc_of h t x
  obtain ⟨qs, g1, g2⟩ := lc_of h t' x'
  have := lc_le h (h1.append g1)
  rw [cost_append, h2, g2] at this
  exact this
theorem lc_one {p : Pz} (h : p.Pos) {st : Step} (ok : st.ok p) : lc p st.meant st.typed ≤ st.pr p := by
  have := lc_le h (Rdg.one ok)
  rw [cost_cons, cost_nil, Int.add_zero] at this
  exact this
theorem lc_extra {p : Pz} (h : p.Pos) (t x : List Nat) (b : Nat) : lc p t (x ++ [b]) ≤ lc p t x + p.e := by
  have a := lc_append h t x [] [b]
  have c := lc_one h (st := .extra b) trivial
  rw [List.append_nil] at a
  have d : lc p [] [b] ≤ p.e := c
  omega
theorem lc_missing {p : Pz} (h : p.Pos) (t x : List Nat) (b : Nat) : lc p (t ++ [b]) x ≤ lc p t x + p.m := by
  have a := lc_append h t x [b] []
  have c := lc_one h (st := .missing b) trivial
  rw [List.append_nil] at a
  have d : lc p [b] [] ≤ p.m := c
  omega
theorem lc_both {p : Pz} (h : p.Pos) (t x : List Nat) (b : Nat) : lc p (t ++ [b]) (x ++ [b]) ≤ lc p t x := by
  have a := lc_append h t x [b] [b]
  have c := lc_one h (st := .same b) trivial
  have d : lc p [b] [b] ≤ 0 := c
  omega
theorem lc_nonneg {p : Pz} (h : p.Pos) (t x : List Nat) : 0 ≤ lc p t x := by
  obtain ⟨rs, _, h2⟩ := lc_of h t x
  rw [← h2]
  exact cost_nonneg h rs
theorem lc_self {p : Pz} (h : p.Pos) (x : List Nat) : lc p x x = 0 := by
  have a := lc_nonneg h x x
  have b : ∀ x : List Nat, Rdg p x x (x.map Step.same) ∧ cost p (x.map Step.same) = 0 := by
    intro x
    induction x with
    | nil => exact ⟨Rdg.nil, rfl⟩
    | cons c r ih =>
      refine ⟨Rdg.append (t := [c]) (x := [c]) (Rdg.one (st := .same c) trivial) ih.1, ?_⟩
      rw [List.map_cons, cost_cons, ih.2]
      rfl
  have c := lc_le h (b x).1
  rw [(b x).2] at c
  omega
theorem append_one_inj {t t' : List Nat} {a b : Nat} (h : t ++ [b] = t' ++ [a]) : t = t' ∧ b = a := by
  have := List.append_inj' h rfl
  exact ⟨this.1, by have e := this.2; exact (List.cons.inj e).1⟩
theorem Rdg.cut {p : Pz} (h : p.Pos) (b : Nat) : ∀ (n : Nat) (rs : List Step) (t x : List Nat), rs.length = n → Rdg p (t ++ [b]) x rs → ∃ qs, Rdg p t x qs ∧ cost p qs ≤ cost p rs + p.e := by
  intro n
  induction n with
  | zero =>
    intro rs t x hl hr
    have e : rs = [] := List.length_eq_zero_iff.mp hl
    subst e
    have := hr.mt
    exact absurd this.symm (by simp)
  | succ n ih =>
    intro rs t x hl hr
    rcases List.eq_nil_or_concat rs with rfl | ⟨qs, st, e⟩
    · cases hl
    · rw [List.concat_eq_append] at e
      subst e
      rw [List.length_append] at hl
      have hl' : qs.length = n := by have : [st].length = 1 := rfl; omega
      have hok : st.ok p := hr.ok st (by simp)
      have hq : ∀ t' x', qs.flatMap Step.meant = t' → qs.flatMap Step.typed = x' → Rdg p t' x' qs := fun t' x' e1 e2 => ⟨fun s hs => hr.ok s (List.mem_append_left _ hs), e1, e2⟩
      have ht : qs.flatMap Step.meant ++ st.meant = t ++ [b] := by
        have := hr.mt
        rw [List.flatMap_append, List.flatMap_cons, List.flatMap_nil, List.append_nil] at this
        exact this
      have hx : qs.flatMap Step.typed ++ st.typed = x := by
        have := hr.ty
        rw [List.flatMap_append, List.flatMap_cons, List.flatMap_nil, List.append_nil] at this
        exact this
      rw [cost_append, cost_cons, cost_nil, Int.add_zero]
      have he := h.e
      have hpr := st.pr_nonneg h
      cases st with
      | extra c =>
        rw [Step.meant, List.append_nil] at ht
        obtain ⟨us, u1, u2⟩ := ih qs t _ hl' (hq _ _ ht rfl)
        refine ⟨us ++ [.extra c], ?_, ?_⟩
        · have := u1.append (Rdg.one (p := p) (st := .extra c) trivial)
          rw [hx] at this
          rw [show Step.meant (.extra c) = [] from rfl, List.append_nil] at this
          exact this
        · rw [cost_append, cost_cons, cost_nil, Int.add_zero]
          omega
      | missing a =>
        obtain ⟨e1, e2⟩ := append_one_inj ht
        rw [Step.typed, List.append_nil] at hx
        exact ⟨qs, hq _ _ e1 hx, by omega⟩
      | same a =>
        obtain ⟨e1, e2⟩ := append_one_inj ht
        refine ⟨qs ++ [.extra a], ?_, ?_⟩
        · have := (hq _ _ e1 rfl).append (Rdg.one (p := p) (st := .extra a) trivial)
          rw [show Step.meant (.extra a) = [] from rfl, List.append_nil] at this
          rw [← hx]
          exact this
        · rw [cost_append, cost_cons, cost_nil, Int.add_zero]
          show cost p qs + p.e ≤ _
          omega
      | wrong a c =>
        obtain ⟨e1, e2⟩ := append_one_inj ht
        refine ⟨qs ++ [.extra c], ?_, ?_⟩
        · have := (hq _ _ e1 rfl).append (Rdg.one (p := p) (st := .extra c) trivial)
          rw [show Step.meant (.extra c) = [] from rfl, List.append_nil] at this
          rw [← hx]
          exact this
        · rw [cost_append, cost_cons, cost_nil, Int.add_zero]
          show cost p qs + p.e ≤ _
          omega
      | swapped a c =>
        have e0 : qs.flatMap Step.meant ++ [a] ++ [c] = t ++ [b] := by
          rw [List.append_assoc]
          exact ht
        obtain ⟨e1, e2⟩ := append_one_inj e0
        refine ⟨qs ++ ([.extra c] ++ [.same a]), ?_, ?_⟩
        · have := (hq _ _ rfl rfl).append ((Rdg.one (p := p) (st := .extra c) trivial).append (Rdg.one (p := p) (st := .same a) trivial))
          rw [← e1, ← hx]
          exact this
        · rw [cost_append, cost_append, cost_cons, cost_cons, cost_nil, Int.add_zero, Int.add_zero]
          show cost p qs + (p.e + 0) ≤ _
          omega
theorem lc_cut {p : Pz} (h : p.Pos) (t x : List Nat) (b : Nat) : lc p t x ≤ lc p (t ++ [b]) x + p.e := by
  obtain ⟨rs, h1, h2⟩ := lc_of h (t ++ [b]) x
  obtain ⟨qs, g1, g2⟩ := Rdg.cut h b _ rs t x rfl h1
  have := lc_le h g1
  omega
theorem lc_cutx {p : Pz} (h : p.Pos) (t x : List Nat) (b : Nat) : lc p t x ≤ lc p t (x ++ [b]) + p.m := by
  have := lc_cut (flip_pos h) x t b
  rw [lc_flip h, lc_flip h] at this
  exact this
/-! #### lengths -/
theorem cost_lens {p : Pz} (h : p.Pos) (rs : List Step) : p.e * (((rs.flatMap Step.typed).length : Int) - ((rs.flatMap Step.meant).length : Int)) ≤ cost p rs := by
  induction rs with
  | nil =>
    show p.e * ((0 : Int) - 0) ≤ 0
    rw [Int.sub_self, Int.mul_zero]
    exact Int.le_refl _
  | cons st r ih =>
    rw [List.flatMap_cons, List.flatMap_cons, List.length_append, List.length_append, cost_cons]
    have e1 : (((st.typed.length + (r.flatMap Step.typed).length : Nat) : Int) - ((st.meant.length + (r.flatMap Step.meant).length : Nat) : Int)) =
        ((st.typed.length : Int) - (st.meant.length : Int)) + (((r.flatMap Step.typed).length : Int) - ((r.flatMap Step.meant).length : Int)) := by omega
    rw [e1, Int.mul_add]
    have e2 : p.e * ((st.typed.length : Int) - (st.meant.length : Int)) ≤ st.pr p := by
      have h0 := st.pr_nonneg h
      have he := h.e
      cases st with
      | extra b =>
        show p.e * ((1 : Int) - 0) ≤ p.e
        rw [Int.sub_zero, Int.mul_one]
        exact Int.le_refl _
      | missing a =>
        show p.e * ((0 : Int) - 1) ≤ p.m
        have hm := h.m
        have : p.e * ((0 : Int) - 1) = -p.e := by
          rw [show ((0 : Int) - 1) = -1 from rfl, Int.mul_neg, Int.mul_one]
        omega
      | same a =>
        show p.e * ((1 : Int) - 1) ≤ 0
        rw [Int.sub_self, Int.mul_zero]
        exact Int.le_refl _
      | wrong a b =>
        show p.e * ((1 : Int) - 1) ≤ p.w
        rw [Int.sub_self, Int.mul_zero]
        exact h.w
      | swapped a b =>
        have : p.e * ((2 : Int) - 2) ≤ (Step.swapped a b).pr p := by
          rw [Int.sub_self, Int.mul_zero]
          exact h0
        exact this
    omega
theorem lc_lens {p : Pz} (h : p.Pos) (t x : List Nat) : p.e * ((x.length : Int) - (t.length : Int)) ≤ lc p t x := by
  obtain ⟨rs, h1, h2⟩ := lc_of h t x
  have := cost_lens h rs
  rw [h1.mt, h1.ty, h2] at this
  exact this
theorem lc_lens2 {p : Pz} (h : p.Pos) (t x : List Nat) : p.m * ((t.length : Int) - (x.length : Int)) ≤ lc p t x := by
  have := lc_lens (flip_pos h) x t
  rw [lc_flip h] at this
  exact this
theorem lc_most {p : Pz} (h : p.Pos) (t x : List Nat) : lc p t x ≤ p.e * (x.length : Int) + p.m * (t.length : Int) := by
  have := lc_le h (Rdg.some p t x)
  rw [cost_append] at this
  have e1 : ∀ l : List Nat, cost p (l.map Step.missing) = p.m * (l.length : Int) := by
    intro l
    induction l with
    | nil =>
      show (0 : Int) = p.m * 0
      rw [Int.mul_zero]
    | cons a r ih =>
      rw [List.map_cons, cost_cons, ih, List.length_cons]
      show p.m + p.m * _ = p.m * ((r.length + 1 : Nat) : Int)
      rw [show ((r.length + 1 : Nat) : Int) = (r.length : Int) + 1 from rfl, Int.mul_add, Int.mul_one]
      omega
  have e2 : ∀ l : List Nat, cost p (l.map Step.extra) = p.e * (l.length : Int) := by
    intro l
    induction l with
    | nil =>
      show (0 : Int) = p.e * 0
      rw [Int.mul_zero]
    | cons a r ih =>
      rw [List.map_cons, cost_cons, ih, List.length_cons]
      show p.e + p.e * _ = p.e * ((r.length + 1 : Nat) : Int)
      rw [show ((r.length + 1 : Nat) : Int) = (r.length : Int) + 1 from rfl, Int.mul_add, Int.mul_one]
      omega
  rw [e1, e2] at this
  omega
theorem lc_parts {p : Pz} (h : p.Pos) (t x : List Nat) (i j : Nat) : lc p t x ≤ lc p (t.take i) (x.take j) + lc p (t.drop i) (x.drop j) := by
  have := lc_append h (t.take i) (x.take j) (t.drop i) (x.drop j)
  rw [List.take_append_drop, List.take_append_drop] at this
  exact this
end G69
namespace G69
open PySem PySem.Spec PyProof.Rows L2
section
variable {P : Program} {w : World} {K : PySem.W.Frag} {mg : Str → Option Value} {base : Heap}
/-! ### the law -/
abbrev sLaw : Stmt := topS 26
abbrev nLaw : List Str := ["_law_script", "_law_draw", "_law_turn", "_law_letters_here", "_law_prices", "_law_further", "_law_lack", "_law_fault", "_law_turned", "_law_slips_here", "_law_order", "_law_target", "_law_text", "_law_here", "_law_letter", "_law_more", "_law_longer", "_law_i", "_law_j", "_law_least"]
theorem scLaw : FnScope nLaw ["_law_script"] (defScope sLaw) := ⟨rfl, rfl, rfl, by decide +kernel, rfl, by decide +kernel, by decide +kernel⟩
def spLaw (K : PySem.W.Frag) : Sp := fun vs H Q _ => ∃ (a : Addr) (ns : List Int), vs = [.ref a] ∧ SqL K H a (ns.map V.int) ∧ ns.length ≤ 63 ∧ ∀ H', Q (.bl true) H'
structure CalsA (P : Program) (w : World) (K : PySem.W.Frag) (mg : Str → Option Value) (base : Heap) (C : Addr) : Prop where
  bg : Cal P w K mg base "_law_begin" ["_law_script"] 1 (spBegin K)
  tk : Cal P w K mg base "_law_take" ["_law_draw", "_law_size"] 1 spTake
  pk : Cal P w K mg base "_law_pick" ["_law_draw", "_law_some"] 2 (spPick K)
  al : Cal P w K mg base "_law_any_letters" ["_law_draw", "_law_many"] 3 spAnyL
  le : Cal P w K mg base "_law_letters" ["_law_draw", "_law_many"] 2 spLett
  st : Cal P w K mg base "_law_string" ["_law_draw", "_law_letters_here", "_law_least", "_law_most"] 3 (spString K)
  fr : Cal P w K mg base "_law_far_prices" ["_law_draw"] 3 spFar
  sl : Cal P w K mg base "_law_slips" ["_law_prices"] 5 (spLSlips K C)
  rn : Cal P w K mg base "_law_renamed" ["_law_order", "_law_text"] 1 (spRen K)
  pr : Cal P w K mg base "price" ["slips", "target", "text"] 5 (spPrice0 C)
/-- a test that is false -/
theorem iteD {c A B : Prop} [Decidable c] (hc : ¬ c) (h : B) : if decide c = true then A else B := by
  rw [decide_eq_false hc]
  exact iteF h
theorem renS_tx {os : List Nat} {u : Str} (hos : os.length = 26) (oL : ∀ c ∈ os, isL c) (hu : Tx u) : Tx (renS os u) := fun y hy => by
  rw [renS_cd] at hy
  obtain ⟨q, hq, rfl⟩ := List.mem_map.mp hy
  have hql := hu q hq
  have hlt : q - 97 < os.length := by have := hql.1; have := hql.2; omega
  unfold renF
  rw [List.getD_eq_getElem?_getD, List.getElem?_eq_getElem hlt]
  exact oL _ (List.getElem_mem hlt)
theorem renS_len (os : List Nat) (u : Str) : (renS os u).length = u.length := by rw [← cd_len, renS_cd, List.length_map, cd_len]
theorem lc_renS {p : Pz} (pos : p.Pos) {os : List Nat} {t z : Str} (hos : os.length = 26) (ndo : os.Nodup) (Tt : Tx t) (Tz : Tx z) : lc p (cd (renS os t)) (cd (renS os z)) = lc p (cd t) (cd z) := by
  rw [renS_cd, renS_cd, lc_ren pos (renF os) isL ?_ Tt Tz]
  intro a1 a2 h1 h2 h3
  have l1 : a1 - 97 < os.length := by have := h1.1; have := h1.2; omega
  have l2 : a2 - 97 < os.length := by have := h2.1; have := h2.2; omega
  unfold renF at h3
  rw [List.getD_eq_getElem?_getD, List.getD_eq_getElem?_getD, List.getElem?_eq_getElem l1, List.getElem?_eq_getElem l2] at h3
  have h4 : os[a1 - 97] = os[a2 - 97] := h3
  have h5 : a1 - 97 = a2 - 97 := (List.getElem_inj ndo).mp h4
  have := h1.1
  have := h2.1
  omega
/-- what stands while a turn asks -/
structure M6 (C d l c x po : Addr) (e m w : Int) (s : Option Int) (os : List Nat) (t z : Str) (b : Nat) (H : Hp) : Prop where
  D : Dr H d l c
  sx : SlAt C H x e m w s
  ok : PrOk e m w s
  nx : x ≠ d ∧ x ≠ l ∧ x ≠ c
  eo : H po = some (.lst (sgs os))
  no : po ≠ d ∧ po ≠ l ∧ po ≠ c
  hos : os.length = 26
  ndo : os.Nodup
  oL : ∀ c ∈ os, isL c
  Tt : Tx t
  Tz : Tx z
  bL : isL b
  t8 : t.length ≤ 8
  z8 : z.length ≤ 8
theorem M6.keepD {C d l c x po : Addr} {e m w : Int} {s : Option Int} {os : List Nat} {t z : Str} {b : Nat} {H H' : Hp} (M : M6 C d l c x po e m w s os t z b H) (k : Kp [d, l] H H') (D : Dr H' d l c) : M6 C d l c x po e m w s os t z b H' :=
  ⟨D, M.sx.keep k (off2 M.nx), M.ok, M.nx, k _ _ M.eo (off2 M.no), M.no, M.hos, M.ndo, M.oL, M.Tt, M.Tz, M.bL, M.t8, M.z8⟩
theorem M6.keep {C d l c x po : Addr} {e m w : Int} {s : Option Int} {os : List Nat} {t z : Str} {b : Nat} {H H' : Hp} (M : M6 C d l c x po e m w s os t z b H) (k : Kp [] H H') : M6 C d l c x po e m w s os t z b H' :=
  M.keepD (k.mono fun _ h => nomatch h) (M.D.keep0 k)
/-- the slots within a turn -/
noncomputable def s6 (a d : Addr) (i : Nat) (x pL pp po : Addr) (e m w : Int) (s : Option Int) (t z : Str) (b : Nat) (v15 v16 v17 v18 v19 : Option V) : L2.St :=
  [some (.ref a), some (.ref d), some (.int (0 + (i : Int))), some (.ref pL), some (.ref pp), some (.int e), some (.int m), some (.int w), some (swV s), some (.ref x), some (.ref po), some (.str t), some (.str z), some (.int (lc ⟨e, m, w, s⟩ (cd t) (cd z))), some (.str (sg b)), v15, v16, v17, v18, v19]
set_option maxHeartbeats 0 in
theorem ok_law {f C : Addr} {fd : FuncData} (F : Fun K "law" "law" sLaw f fd) (A : CalsA P w K mg base C) (B : Bt mg) : FnOk P w K mg base CX0 6 f fd ["_law_script"] (spLaw K) := by
  refine F.ok scLaw (fun vs H Q E h => ?_) (fun cdv Ar outer sh H vs Q E hr h => ?_)
  · obtain ⟨a, ns, rfl, _⟩ := h
    rfl
  · obtain ⟨a, ns, rfl, hS, hlen, q⟩ := h
    refine ⟨_, (pss_cons
 (ps_set (i := 1) scLaw.nd rfl (.inl rfl) (pe_cal A.bg hr (by decide) (by rfl) (pa_cons (pv 0) pa_nil)))
 (pss_cons
 (ps_for PassesOwn.never rfl (pi_range1 (by rfl) B.range (pa_cons (pe_op op_add pe_int (pe_callB (call_min2 rfl) (by rfl) B.min (by decide +kernel) (pa_cons (pe_callB call_len_seq (by rfl) B.len PySem.boot_len (pa_cons (pv 0) pa_nil)) (pa_cons pe_int pa_nil)))) pa_nil)) (pg_name (i := 2) scLaw.nd rfl (.inl rfl)) (pss_cons
 (ps_par (i := 3) (j := 4) (by rfl) scLaw.nd rfl rfl (by decide) rfl rfl (pa_cons (pe_cal A.al hr (by decide) (by rfl) (pa_cons (pv 1) (pa_cons (pe_op op_add pe_int (pe_cal A.tk hr (by decide) (by rfl) (pa_cons (pv 1) (pa_cons pe_int pa_nil)))) pa_nil))) (pa_cons (pe_cal A.fr hr (by decide) (by rfl) (pa_cons (pv 1) pa_nil)) pa_nil)) (by rfl))
 (pss_cons
 (ps_asg (pv 4) (pg_tup rfl (pgs_cons (pg_name (i := 5) scLaw.nd rfl (.inl rfl)) (pgs_cons (pg_name (i := 6) scLaw.nd rfl (.inl rfl)) (pgs_cons (pg_name (i := 7) scLaw.nd rfl (.inl rfl)) (pgs_cons (pg_name (i := 8) scLaw.nd rfl (.inl rfl)) pgs_nil))))))
 (pss_cons
 (ps_par (i := 9) (j := 10) (by rfl) scLaw.nd rfl rfl (by decide) rfl rfl (pa_cons (pe_cal A.sl hr (by decide) (by rfl) (pa_cons (pv 4) pa_nil)) (pa_cons (pe_cal A.le hr (by decide) (by rfl) (pa_cons (pv 1) (pa_cons pe_int pa_nil))) pa_nil)) (by rfl))
 (pss_cons
 (ps_par (i := 11) (j := 12) (by rfl) scLaw.nd rfl rfl (by decide) rfl rfl (pa_cons (pe_cal A.st hr (by decide) (by rfl) (pa_cons (pv 1) (pa_cons (pv 3) (pa_cons pe_int (pa_cons pe_int pa_nil))))) (pa_cons (pe_cal A.st hr (by decide) (by rfl) (pa_cons (pv 1) (pa_cons (pv 3) (pa_cons pe_int (pa_cons pe_int pa_nil))))) pa_nil)) (by rfl))
 (C8.pss_cut
 (ps_par (i := 13) (j := 14) (by rfl) scLaw.nd rfl rfl (by decide) rfl rfl (pa_cons (pe_cal A.pr hr (by decide) (by rfl) (pa_cons (pv 9) (pa_cons (pv 11) (pa_cons (pv 12) pa_nil)))) (pa_cons (pe_cal A.pk hr (by decide) (by rfl) (pa_cons (pv 1) (pa_cons (pv 3) pa_nil))) pa_nil)) (by rfl))
 (C8.pss_cut
 (ps_if (pt_cmpR op_ne (pe_cal A.pr hr (by decide) (by rfl) (pa_cons (pv 9) (pa_cons (pe_revS (pv 11)) (pa_cons (pe_revS (pv 12)) pa_nil)))) (pv 13) (nomark _)) (pss_one
 (ps_ret pe_bl)) pss_nil)
 (C8.pss_cut
 (ps_if (pt_cmpR op_ne (pe_cal A.pr hr (by decide) (by rfl) (pa_cons (pe_cal A.sl hr (by decide) (by rfl) (pa_cons (pe_tup (pa_cons (pv 6) (pa_cons (pv 5) (pa_cons (pv 7) (pa_cons (pv 8) pa_nil))))) pa_nil)) (pa_cons (pv 12) (pa_cons (pv 11) pa_nil)))) (pv 13) (nomark _)) (pss_one
 (ps_ret pe_bl)) pss_nil)
 (C8.pss_cut
 (ps_if (pt_cmpR op_ne (pe_cal A.pr hr (by decide) (by rfl) (pa_cons (pv 9) (pa_cons (pe_cal A.rn hr (by decide) (by rfl) (pa_cons (pv 10) (pa_cons (pv 11) pa_nil))) (pa_cons (pe_cal A.rn hr (by decide) (by rfl) (pa_cons (pv 10) (pa_cons (pv 12) pa_nil))) pa_nil)))) (pv 13) (nomark _)) (pss_one
 (ps_ret pe_bl)) pss_nil)
 (C8.pss_cut
 (ps_par (i := 15) (j := 16) (by rfl) scLaw.nd rfl rfl (by decide) rfl rfl (pa_cons (pe_cal A.pr hr (by decide) (by rfl) (pa_cons (pv 9) (pa_cons (pv 11) (pa_cons (pe_op op_add_str (pv 12) (pv 14)) pa_nil)))) (pa_cons (pe_cal A.pr hr (by decide) (by rfl) (pa_cons (pv 9) (pa_cons (pe_op op_add_str (pv 11) (pv 14)) (pa_cons (pv 12) pa_nil)))) pa_nil)) (by rfl))
 (C8.pss_cut
 (ps_if (PW.pt (pw_or (pt_cmpR op_gt (pv 15) (pe_op op_add (pv 13) (pv 5)) (nomark _)) (pw_or (pt_cmpR op_gt (pv 16) (pe_op op_add (pv 13) (pv 6)) (nomark _)) (pw_or (pt_cmpR op_lt (pv 16) (pe_op op_sub (pv 13) (pv 5)) (nomark _)) (pw_or1 (pt_cmpR op_lt (pv 15) (pe_op op_sub (pv 13) (pv 6)) (nomark _))))))) (pss_one
 (ps_ret pe_bl)) pss_nil)
 (C8.pss_cut
 (ps_if (PW.pt (pw_or (pt_cmpR op_gt (pe_cal A.pr hr (by decide) (by rfl) (pa_cons (pv 9) (pa_cons (pe_op op_add_str (pv 11) (pv 14)) (pa_cons (pe_op op_add_str (pv 12) (pv 14)) pa_nil)))) (pv 13) (nomark _)) (pw_or1 (pt_cmpR op_ne (pe_cal A.pr hr (by decide) (by rfl) (pa_cons (pv 9) (pa_cons (pv 12) (pa_cons (pv 12) pa_nil)))) pe_int (nomark _))))) (pss_one
 (ps_ret pe_bl)) pss_nil)
 (C8.pss_cut
 (ps_par (i := 17) (j := 18) (by rfl) scLaw.nd rfl rfl (by decide) rfl rfl (pa_cons (pe_cal A.tk hr (by decide) (by rfl) (pa_cons (pv 1) (pa_cons (pe_op op_add (pe_callB call_len_str (by rfl) B.len PySem.boot_len (pa_cons (pv 11) pa_nil)) pe_int) pa_nil))) (pa_cons (pe_cal A.tk hr (by decide) (by rfl) (pa_cons (pv 1) (pa_cons (pe_op op_add (pe_callB call_len_str (by rfl) B.len PySem.boot_len (pa_cons (pv 12) pa_nil)) pe_int) pa_nil))) pa_nil)) (by rfl))
 (C8.pss_cut
 (ps_if (pt_cmpR op_lt (pe_op op_add (pe_cal A.pr hr (by decide) (by rfl) (pa_cons (pv 9) (pa_cons (pe_slice sl_str (pv 11) po_none (po_some (pv 17))) (pa_cons (pe_slice sl_str (pv 12) po_none (po_some (pv 18))) pa_nil)))) (pe_cal A.pr hr (by decide) (by rfl) (pa_cons (pv 9) (pa_cons (pe_slice sl_str (pv 11) (po_some (pv 17)) po_none) (pa_cons (pe_slice sl_str (pv 12) (po_some (pv 18)) po_none) pa_nil))))) (pv 13) (nomark _)) (pss_one
 (ps_ret pe_bl)) pss_nil)
 (C8.pss_cut
 (ps_set (i := 19) scLaw.nd rfl (.inl rfl) (pe_op op_mul (pv 5) (pe_op op_sub (pe_callB call_len_str (by rfl) B.len PySem.boot_len (pa_cons (pv 12) pa_nil)) (pe_callB call_len_str (by rfl) B.len PySem.boot_len (pa_cons (pv 11) pa_nil)))))
 (C8.pss_cut
 (ps_if (pt_cmpR op_lt (pv 13) (pe_callB (call_max2 rfl) (by rfl) B.max (by decide +kernel) (pa_cons (pv 19) (pa_cons (pe_op op_mul (pv 6) (pe_op op_sub (pe_callB call_len_str (by rfl) B.len PySem.boot_len (pa_cons (pv 11) pa_nil)) (pe_callB call_len_str (by rfl) B.len PySem.boot_len (pa_cons (pv 12) pa_nil)))) pa_nil))) (nomark _)) (pss_one
 (ps_ret pe_bl)) pss_nil)
 (pss_one
 (ps_if (pt_cmpR op_gt (pv 13) (pe_op op_add (pe_op op_mul (pv 5) (pe_callB call_len_str (by rfl) B.len PySem.boot_len (pa_cons (pv 12) pa_nil))) (pe_op op_mul (pv 6) (pe_callB call_len_str (by rfl) B.len PySem.boot_len (pa_cons (pv 11) pa_nil)))) (nomark _)) (pss_one
 (ps_ret pe_bl)) pss_nil))))))))))))))))))
 (pss_one
 (ps_ret pe_bl)))), ?_⟩
    refine ⟨_, rfl, a, ns, rfl, hS, hlen, fun d l c H1 hd hl hc D1 k1 => ?_⟩
    have hS1 := k1.l notnil hS
    have hb : ∃ n : Nat, ((5 : Int) + (if (20 : Int) < ((ns.map V.int).length : Int) then (20 : Int) else ((ns.map V.int).length : Int))) = (n : Int) ∧ n ≤ 25 := by
      rw [List.length_map]
      by_cases h : (20 : Int) < (ns.length : Int)
      · rw [if_pos h]
        exact ⟨25, rfl, by omega⟩
      · rw [if_neg h]
        exact ⟨5 + ns.length, by omega, by omega⟩
    obtain ⟨n, hn, hn25⟩ := hb
    refine ⟨_, rfl, a, _, rfl, .inl hS1, _, _, rfl, _, _, rfl, rfl, (n : Int), congrArg (fun z => [V.int z]) hn, by omega, by omega, for_range (lo := 0) (n := n)
      (fun i σ H2 => ∃ (y2 y3 y4 y5 y6 y7 y8 y9 y10 y11 y12 y13 y14 y15 y16 y17 y18 y19 : Option V), σ = [some (.ref a), some (.ref d), y2, y3, y4, y5, y6, y7, y8, y9, y10, y11, y12, y13, y14, y15, y16, y17, y18, y19] ∧ Dr H2 d l c)
      ⟨none, none, none, none, none, none, none, none, none, none, none, none, none, none, none, none, none, none, rfl, D1⟩ ?_ ?_⟩
    · rintro i σ H2 hi ⟨y2, y3, y4, y5, y6, y7, y8, y9, y10, y11, y12, y13, y14, y15, y16, y17, y18, y19, rfl, D2⟩
      -- letters and prices
      refine ⟨_, rfl, _, rfl, d, l, c, 3, rfl, D2, by decide, by decide, fun r3 H3 r30 r31 D3 k3 => ⟨_, _, rfl, rfl, d, l, c, (2 + r3).toNat, ?_, D3, by omega, fun pL cs H4 hpL hcs hcL eL D4 k4 => ?_⟩⟩
      · show [V.ref d, V.int (2 + r3)] = [V.ref d, V.int ((2 + r3).toNat : Int)]
        rw [Int.toNat_of_nonneg (by omega)]
      have nL := D3.nes hpL
      have cs0 : cs ≠ [] := by
        intro zz
        rw [zz] at hcs
        have : ([] : List Nat).length = 0 := rfl
        omega
      have cs1 : cs.length ≤ 1000 := by omega
      refine ⟨_, rfl, d, l, c, rfl, D4, fun pp e m w s H5 hpp ok ept D5 k5 => ⟨_, _, rfl, ?_⟩⟩
      have np := D4.nes hpp
      refine ⟨_, rfl, pp, _, rfl, .inl (.inl ept), rfl, _, _, rfl, _, _, rfl, _, _, rfl, _, _, rfl, rfl, ?_⟩
      -- slips and an order of the letters
      refine ⟨_, rfl, pp, e, m, w, s, rfl, .inl (.inl ept), ok, fun x H6 hx sx k6 => ⟨_, rfl, d, l, c, 26, rfl, D5.keep0 k6, by decide, fun po os H7 hpo hos ndo oL eo D7 k7 => ⟨_, _, rfl, ?_⟩⟩⟩
      have nx := D5.nes hx
      have eL7 := k7 _ _ (k6 _ _ (k5 _ _ eL (off2 nL)) notnil) (off2 nL)
      have sx7 := sx.keep k7 (off2 nx)
      have no := (D5.keep0 k6).nes hpo
      -- target and text
      refine ⟨_, rfl, _, rfl, d, l, c, pL, cs, 0, 8, rfl, D7, .inl (.inl eL7), nL.1, nL.2.1, cs0, cs1, by decide, by decide, fun t H8 t0 t8 tc D8 k8 => ?_⟩
      refine ⟨_, rfl, _, rfl, d, l, c, pL, cs, 0, 8, rfl, D8, .inl (.inl (k8 _ _ eL7 (off2 nL))), nL.1, nL.2.1, cs0, cs1, by decide, by decide, fun z H9 z0 z8 zc D9 k9 => ⟨_, _, rfl, ?_⟩⟩
      have Tt : Tx t := fun b hb => hcL b (tc b hb)
      have Tz : Tx z := fun b hb => hcL b (zc b hb)
      have eL9 := k9 _ _ (k8 _ _ eL7 (off2 nL)) (off2 nL)
      have sx9 := (sx7.keep k8 (off2 nx)).keep k9 (off2 nx)
      have eo9 := k9 _ _ (k8 _ _ eo (off2 no)) (off2 no)
      have pos : Pz.Pos ⟨e, m, w, s⟩ := ok.pos
      have okf : PrOk m e w s := ⟨ok.m0, ok.m9, ok.e0, ok.e9, ok.w0, ok.w9, ok.s0⟩
      refine ⟨fun σ H' => ∃ b, M6 C d l c x po e m w s os t z b H' ∧ s6 a d i x pL pp po e m w s t z b y15 y16 y17 y18 y19 = σ, ?_, ?_⟩
      · -- the price, and a letter
        refine ⟨_, rfl, _, rfl, _, rfl, x, e, m, w, s, t, z, rfl, sx9, ok, Tt.isT, Tz.isT, by omega, by omega, fun H10 k10 => ?_⟩
        refine ⟨_, rfl, _, rfl, d, l, c, _, rfl, D9.keep0 k10, .inl ⟨pL, sgs cs, rfl, .inl (.inl (k10 _ _ eL9 notnil)), nL.1, nL.2.1, by rw [Ne, List.map_eq_nil_iff]; exact cs0, by rw [List.length_map]; exact cs1, fun jj v H11 hv D11 k11 => ⟨_, _, rfl, ?_⟩⟩⟩
        obtain ⟨b, hb, rfl⟩ : ∃ b, b ∈ cs ∧ v = V.str (sg b) := by
          obtain ⟨b, hb, e⟩ := List.mem_map.mp (List.mem_of_getElem? hv)
          exact ⟨b, hb, e.symm⟩
        have Tb : Tx (sg b) := Tx.sg (hcL b hb)
        have sx11 := (sx9.keep k10 notnil).keep k11 (off2 nx)
        have eo11 := k11 _ _ (k10 _ _ eo9 notnil) (off2 no)
        exact ⟨b, ⟨D11, sx11, ok, nx, eo11, no, hos, ndo, oL, Tt, Tz, hcL b hb, t8, z8⟩, rfl⟩
      · rintro σ H11 ⟨b, M, rfl⟩
        have lt : (cd t).length = t.length := cd_len t
        have lz : (cd z).length = z.length := cd_len z
        have t8 := M.t8
        have z8 := M.z8
        have tl : t.length ≤ sizeLine := szle (by omega)
        have zl : z.length ≤ sizeLine := szle (by omega)
        -- backwards
        refine ⟨fun σ H' => s6 a d i x pL pp po e m w s t z b y15 y16 y17 y18 y19 = σ ∧ M6 C d l c x po e m w s os t z b H', ?_, ?_⟩
        · refine ⟨_, rfl, _, rfl, t, rfl, tl, _, rfl, z, rfl, zl, x, e, m, w, s, revS t, revS z, rfl, M.sx, M.ok, M.Tt.rev.isT, M.Tz.rev.isT, by rw [revS_length]; omega, by rw [revS_length]; omega, fun H12 k12 => ⟨_, rfl, rfl, _, rfl, iteNS ?_ ⟨rfl, M.keep k12⟩⟩⟩
          show V.int (lc _ (cd (revS t)) (cd (revS z))) = V.int _
          rw [show cd (revS t) = (cd t).reverse from revS_list t, show cd (revS z) = (cd z).reverse from revS_list z, lc_rev pos]
        rintro σ H12 ⟨rfl, M2⟩
        -- exchanged
        refine ⟨fun σ H' => s6 a d i x pL pp po e m w s t z b y15 y16 y17 y18 y19 = σ ∧ M6 C d l c x po e m w s os t z b H', ?_, ?_⟩
        · refine ⟨_, rfl, _, rfl, _, rfl, _, rfl, szle (by show 4 ≤ 1000000; decide), fun pt hpt => ⟨pt, m, e, w, s, rfl, .inl (.inl upd_same), okf, fun x2 H13 hx2 sx2 k13 => ?_⟩⟩
          refine ⟨_, rfl, _, rfl, x2, m, e, w, s, z, t, rfl, sx2, okf, M.Tz.isT, M.Tt.isT, by omega, by omega, fun H14 k14 => ⟨_, rfl, rfl, _, rfl, iteNS ?_ ⟨rfl, M2.keep ((Kp.new hpt).trans (k13.trans k14))⟩⟩⟩
          exact congrArg V.int (lc_flip (p := ⟨e, m, w, s⟩) pos (cd t) (cd z))
        rintro σ H14 ⟨rfl, M3⟩
        -- renamed
        refine ⟨fun σ H' => s6 a d i x pL pp po e m w s t z b y15 y16 y17 y18 y19 = σ ∧ M6 C d l c x po e m w s os t z b H', ?_, ?_⟩
        · refine ⟨_, rfl, _, rfl, _, rfl, po, os, t, rfl, .inl (.inl M3.eo), M.hos, M.Tt, by omega, fun H15 k15 => ?_⟩
          refine ⟨_, rfl, _, rfl, po, os, z, rfl, .inl (.inl (k15 _ _ M3.eo notnil)), M.hos, M.Tz, by omega, fun H16 k16 => ?_⟩
          have kc6 := k15.trans k16
          refine ⟨x, e, m, w, s, renS os t, renS os z, rfl, M3.sx.keep kc6 notnil, M.ok, (renS_tx M.hos M.oL M.Tt).isT, (renS_tx M.hos M.oL M.Tz).isT, by rw [renS_len]; omega, by rw [renS_len]; omega, fun H17 k17 => ⟨_, rfl, rfl, _, rfl, iteNS ?_ ⟨rfl, M3.keep (kc6.trans k17)⟩⟩⟩
          exact congrArg V.int (lc_renS pos M.hos M.ndo M.Tt M.Tz)
        rintro σ H17 ⟨rfl, M4⟩
        -- a letter more
        have cz : cd (z ++ sg b) = cd z ++ [b] := cat_cd z (sg b)
        have ct : cd (t ++ sg b) = cd t ++ [b] := cat_cd t (sg b)
        have lzb : (z ++ sg b).length = z.length + 1 := by rw [← cd_len, cz, List.length_append, lz]; rfl
        have ltb : (t ++ sg b).length = t.length + 1 := by rw [← cd_len, ct, List.length_append, lt]; rfl
        have Tb : Tx (sg b) := Tx.sg M.bL
        have i1 := lc_extra pos (cd t) (cd z) b
        have i2 := lc_missing pos (cd t) (cd z) b
        have i3 := lc_cut pos (cd t) (cd z) b
        have i4 := lc_cutx pos (cd t) (cd z) b
        have i5 := lc_both pos (cd t) (cd z) b
        rw [← cz] at i1 i4
        rw [← ct] at i2 i3
        rw [← cz, ← ct] at i5
        have i1' : lc ⟨e, m, w, s⟩ (cd t) (cd (z ++ sg b)) ≤ lc ⟨e, m, w, s⟩ (cd t) (cd z) + e := i1
        have i2' : lc ⟨e, m, w, s⟩ (cd (t ++ sg b)) (cd z) ≤ lc ⟨e, m, w, s⟩ (cd t) (cd z) + m := i2
        have i3' : lc ⟨e, m, w, s⟩ (cd t) (cd z) ≤ lc ⟨e, m, w, s⟩ (cd (t ++ sg b)) (cd z) + e := i3
        have i4' : lc ⟨e, m, w, s⟩ (cd t) (cd z) ≤ lc ⟨e, m, w, s⟩ (cd t) (cd (z ++ sg b)) + m := i4
        refine ⟨fun σ H' => s6 a d i x pL pp po e m w s t z b (some (.int (lc ⟨e, m, w, s⟩ (cd t) (cd (z ++ sg b))))) (some (.int (lc ⟨e, m, w, s⟩ (cd (t ++ sg b)) (cd z)))) y17 y18 y19 = σ ∧ M6 C d l c x po e m w s os t z b H', ?_, ?_⟩
        · refine ⟨_, rfl, _, rfl, _, rfl, _, rfl, z, sg b, rfl, rfl, szle (by show z.length + 1 ≤ _; omega), x, e, m, w, s, t, z ++ sg b, rfl, M4.sx, M.ok, M.Tt.isT, (M.Tz.cat Tb).isT, by omega, by omega, fun H18 k18 => ?_⟩
          refine ⟨_, rfl, _, rfl, _, rfl, t, sg b, rfl, rfl, szle (by show t.length + 1 ≤ _; omega), _, rfl, x, e, m, w, s, t ++ sg b, z, rfl, M4.sx.keep k18 notnil, M.ok, (M.Tt.cat Tb).isT, M.Tz.isT, by omega, by omega, fun H19 k19 => ⟨_, _, rfl, rfl, M4.keep (k18.trans k19)⟩⟩
        rintro σ H18 ⟨rfl, M45⟩
        refine ⟨fun σ H' => ∃ v15 v16, s6 a d i x pL pp po e m w s t z b v15 v16 y17 y18 y19 = σ ∧ M6 C d l c x po e m w s os t z b H', ?_, ?_⟩
        · refine ⟨_, rfl, _, rfl, _, rfl, _, _, rfl, rfl, _, _, rfl, rfl, _, rfl, iteD (Int.not_lt.mpr i1') ?_⟩
          refine ⟨_, rfl, _, rfl, _, rfl, _, _, rfl, rfl, _, _, rfl, rfl, _, rfl, iteD (Int.not_lt.mpr i2') ?_⟩
          refine ⟨_, rfl, _, rfl, _, rfl, _, _, rfl, rfl, _, _, rfl, rfl, _, rfl, iteD (fun h => by omega) ?_⟩
          refine ⟨_, rfl, _, rfl, _, rfl, _, _, rfl, rfl, _, _, rfl, rfl, _, rfl, iteD (fun h => by omega) ?_⟩
          exact ⟨_, _, rfl, M45⟩
        rintro σ H19 ⟨v15, v16, rfl, M5⟩
        -- the same letter behind both; a text for itself
        refine ⟨fun σ H' => s6 a d i x pL pp po e m w s t z b v15 v16 y17 y18 y19 = σ ∧ M6 C d l c x po e m w s os t z b H', ?_, ?_⟩
        · refine ⟨_, rfl, _, rfl, _, rfl, t, sg b, rfl, rfl, szle (by show t.length + 1 ≤ _; omega), _, rfl, _, rfl, z, sg b, rfl, rfl, szle (by show z.length + 1 ≤ _; omega), x, e, m, w, s, t ++ sg b, z ++ sg b, rfl, M5.sx, M.ok, (M.Tt.cat Tb).isT, (M.Tz.cat Tb).isT, by omega, by omega, fun H20 k20 => ?_⟩
          refine ⟨_, rfl, _, _, rfl, rfl, _, rfl, iteD (Int.not_lt.mpr i5) ?_⟩
          refine ⟨_, rfl, _, rfl, _, rfl, x, e, m, w, s, z, z, rfl, M5.sx.keep k20 notnil, M.ok, M.Tz.isT, M.Tz.isT, by omega, by omega, fun H21 k21 => ⟨rfl, _, rfl, iteNS ?_ ⟨rfl, M5.keep (k20.trans k21)⟩⟩⟩
          exact congrArg V.int (lc_self pos (cd z))
        rintro σ H21 ⟨rfl, M6'⟩
        -- two parts
        refine ⟨fun σ H' => ∃ ni nj : Nat, s6 a d i x pL pp po e m w s t z b v15 v16 (some (.int (ni : Int))) (some (.int (nj : Int))) y19 = σ ∧ M6 C d l c x po e m w s os t z b H', ?_, ?_⟩
        · refine ⟨_, rfl, _, rfl, t, rfl, tl, _, _, rfl, rfl, d, l, c, (t.length : Int) + 1, rfl, M6'.D, by omega, by omega, fun ri H22 ri0 ri1 D22 k22 => ?_⟩
          refine ⟨_, rfl, _, rfl, z, rfl, zl, _, _, rfl, rfl, d, l, c, (z.length : Int) + 1, rfl, D22, by omega, by omega, fun rj H23 rj0 rj1 D23 k23 => ⟨_, _, rfl, ?_⟩⟩
          obtain ⟨ni, rfl⟩ : ∃ ni : Nat, ri = (ni : Int) := ⟨ri.toNat, (Int.toNat_of_nonneg ri0).symm⟩
          obtain ⟨nj, rfl⟩ : ∃ nj : Nat, rj = (nj : Int) := ⟨rj.toNat, (Int.toNat_of_nonneg rj0).symm⟩
          exact ⟨ni, nj, rfl, M6'.keepD (k22.trans k23) D23⟩
        rintro σ H23 ⟨ni, nj, rfl, M7⟩
        refine ⟨fun σ H' => ∃ v17 v18, s6 a d i x pL pp po e m w s t z b v15 v16 v17 v18 y19 = σ ∧ M6 C d l c x po e m w s os t z b H', ?_, ?_⟩
        · have c0 : True := trivial
          have c1 := cut_len t none (some (ni : Int))
          have c2 := cut_len z none (some (nj : Int))
          have c3 := cut_len t (some (ni : Int)) none
          have c4 := cut_len z (some (nj : Int)) none
          refine ⟨_, rfl, _, rfl, _, rfl, (ni : Int), rfl, t, rfl, tl, _, rfl, _, rfl, (nj : Int), rfl, z, rfl, zl, x, e, m, w, s, _, _, rfl, M7.sx, M.ok, (M.Tt.upto ni).isT, (M.Tz.upto nj).isT, by omega, by omega, fun H24 k24 => ?_⟩
          refine ⟨_, rfl, _, rfl, _, rfl, (ni : Int), rfl, t, rfl, tl, _, rfl, _, rfl, (nj : Int), rfl, z, rfl, zl, x, e, m, w, s, _, _, rfl, M7.sx.keep k24 notnil, M.ok, (M.Tt.from ni).isT, (M.Tz.from nj).isT, by omega, by omega, fun H25 k25 => ?_⟩
          have i6 := lc_parts pos (cd t) (cd z) ni nj
          rw [← cd_upto, ← cd_upto, ← cd_from, ← cd_from] at i6
          exact ⟨_, _, rfl, rfl, _, rfl, _, _, rfl, rfl, _, rfl, iteD (Int.not_lt.mpr i6) ⟨_, _, rfl, M7.keep (k24.trans k25)⟩⟩
        rintro σ H25 ⟨v17, v18, rfl, M8⟩
        have i7 := lc_lens pos (cd t) (cd z)
        have i8 := lc_lens2 pos (cd t) (cd z)
        have i9 := lc_most pos (cd t) (cd z)
        rw [lt, lz] at i7 i8 i9
        have bE : CMul e ((z.length : Int) - (t.length : Int)) := .inl ⟨by have := M.ok.e0; omega, by have := M.ok.e9; omega⟩
        have bM : CMul m ((t.length : Int) - (z.length : Int)) := .inl ⟨by have := M.ok.m0; omega, by have := M.ok.m9; omega⟩
        have bE2 : CMul e (z.length : Int) := .inl ⟨by have := M.ok.e0; omega, by have := M.ok.e9; omega⟩
        have bM2 : CMul m (t.length : Int) := .inl ⟨by have := M.ok.m0; omega, by have := M.ok.m9; omega⟩
        have i7' : e * ((z.length : Int) - (t.length : Int)) ≤ lc ⟨e, m, w, s⟩ (cd t) (cd z) := i7
        have i8' : m * ((t.length : Int) - (z.length : Int)) ≤ lc ⟨e, m, w, s⟩ (cd t) (cd z) := i8
        have i9' : lc ⟨e, m, w, s⟩ (cd t) (cd z) ≤ e * (z.length : Int) + m * (t.length : Int) := i9
        refine ⟨fun σ H' => s6 a d i x pL pp po e m w s t z b v15 v16 v17 v18 (some (.int (e * ((z.length : Int) - (t.length : Int))))) = σ ∧ M6 C d l c x po e m w s os t z b H', ?_, ?_⟩
        · exact ⟨_, rfl, _, rfl, z, rfl, zl, _, rfl, t, rfl, tl, _, _, rfl, rfl, _, _, rfl, rfl, bE, rfl, M8⟩
        rintro σ H255 ⟨rfl, M85⟩
        refine ⟨fun σ H' => ∃ v19, s6 a d i x pL pp po e m w s t z b v15 v16 v17 v18 v19 = σ ∧ M6 C d l c x po e m w s os t z b H', ?_, ?_⟩
        · refine ⟨_, rfl, _, rfl, _, rfl, _, rfl, t, rfl, tl, _, rfl, z, rfl, zl, _, _, rfl, rfl, _, _, rfl, rfl, bM, _, _, rfl, _, _, rfl, rfl, _, rfl, iteD (fun h => ?_) ⟨_, rfl, M85⟩⟩
          revert h
          split <;> intro h <;> omega
        rintro σ H26 ⟨v19, rfl, M9⟩
        refine ⟨_, rfl, _, rfl, _, rfl, z, rfl, zl, _, _, rfl, rfl, bE2, _, rfl, _, rfl, t, rfl, tl, _, _, rfl, rfl, bM2, _, _, rfl, rfl, _, _, rfl, rfl, _, rfl, iteD (Int.not_lt.mpr i9') ?_⟩
        exact ⟨_, _, _, _, _, _, _, _, _, _, _, _, _, _, _, _, _, _, rfl, M9.D⟩
    · rintro σ H2 ⟨y2, y3, y4, y5, y6, y7, y8, y9, y10, y11, y12, y13, y14, y15, y16, y17, y18, y19, rfl, D2⟩
      exact q H2
end
end G69
namespace G69
open PySem PySem.Spec PyProof.Rows L2
abbrev sG_extra : Stmt := inClass (topS 11) 1
theorem scG_extra : FnScope ["self"] ["self"] (defScope sG_extra) := ⟨rfl, rfl, rfl, by decide +kernel, rfl, by decide +kernel, by decide +kernel⟩
abbrev sG_missing : Stmt := inClass (topS 11) 2
theorem scG_missing : FnScope ["self"] ["self"] (defScope sG_missing) := ⟨rfl, rfl, rfl, by decide +kernel, rfl, by decide +kernel, by decide +kernel⟩
abbrev sG_wrong : Stmt := inClass (topS 11) 3
theorem scG_wrong : FnScope ["self"] ["self"] (defScope sG_wrong) := ⟨rfl, rfl, rfl, by decide +kernel, rfl, by decide +kernel, by decide +kernel⟩
abbrev sG_swapped : Stmt := inClass (topS 11) 4
theorem scG_swapped : FnScope ["self"] ["self"] (defScope sG_swapped) := ⟨rfl, rfl, rfl, by decide +kernel, rfl, by decide +kernel, by decide +kernel⟩
set_option maxHeartbeats 0 in
theorem all_mk {l : PySem.W.OpenLaw} {w : World} {K : PySem.W.Frag} {h : Heap} {mg : Str → Option Value} {fa : Addr} (X : K.In h) (G : h.Ns mainGlobals mg) (hfa : mg "law" = some (.ref fa))
    {fBegin : Addr} {odBegin anBegin : Option Addr} {slBegin : Array (Option Value)} {ocBegin kVBegin dcBegin pmBegin cdBegin ctBegin : Value}
    {fTake : Addr} {odTake anTake : Option Addr} {slTake : Array (Option Value)} {ocTake kVTake dcTake pmTake cdTake ctTake : Value}
    {fPick : Addr} {odPick anPick : Option Addr} {slPick : Array (Option Value)} {ocPick kVPick dcPick pmPick cdPick ctPick : Value}
    {fIsInt : Addr} {odIsInt anIsInt : Option Addr} {slIsInt : Array (Option Value)} {ocIsInt kVIsInt dcIsInt pmIsInt cdIsInt ctIsInt : Value}
    {fIsText : Addr} {odIsText anIsText : Option Addr} {slIsText : Array (Option Value)} {ocIsText kVIsText dcIsText pmIsText cdIsText ctIsText : Value}
    {fIsPrice : Addr} {odIsPrice anIsPrice : Option Addr} {slIsPrice : Array (Option Value)} {ocIsPrice kVIsPrice dcIsPrice pmIsPrice cdIsPrice ctIsPrice : Value}
    {fNeed : Addr} {odNeed anNeed : Option Addr} {slNeed : Array (Option Value)} {ocNeed kVNeed dcNeed pmNeed cdNeed ctNeed : Value}
    {fLast : Addr} {odLast anLast : Option Addr} {slLast : Array (Option Value)} {ocLast kVLast dcLast pmLast cdLast ctLast : Value}
    {fStepP : Addr} {odStepP anStepP : Option Addr} {slStepP : Array (Option Value)} {ocStepP kVStepP dcStepP pmStepP cdStepP ctStepP : Value}
    {fLines : Addr} {odLines anLines : Option Addr} {slLines : Array (Option Value)} {ocLines kVLines dcLines pmLines cdLines ctLines : Value}
    {fPrice : Addr} {odPrice anPrice : Option Addr} {slPrice : Array (Option Value)} {ocPrice kVPrice dcPrice pmPrice cdPrice ctPrice : Value}
    {fAnyL : Addr} {odAnyL anAnyL : Option Addr} {slAnyL : Array (Option Value)} {ocAnyL kVAnyL dcAnyL pmAnyL cdAnyL ctAnyL : Value}
    {fLett : Addr} {odLett anLett : Option Addr} {slLett : Array (Option Value)} {ocLett kVLett dcLett pmLett cdLett ctLett : Value}
    {fString : Addr} {odString anString : Option Addr} {slString : Array (Option Value)} {ocString kVString dcString pmString cdString ctString : Value}
    {fFar : Addr} {odFar anFar : Option Addr} {slFar : Array (Option Value)} {ocFar kVFar dcFar pmFar cdFar ctFar : Value}
    {fLSlips : Addr} {odLSlips anLSlips : Option Addr} {slLSlips : Array (Option Value)} {ocLSlips kVLSlips dcLSlips pmLSlips cdLSlips ctLSlips : Value}
    {fRen : Addr} {odRen anRen : Option Addr} {slRen : Array (Option Value)} {ocRen kVRen dcRen pmRen cdRen ctRen : Value}
    {fLaw : Addr} {odLaw anLaw : Option Addr} {slLaw : Array (Option Value)} {ocLaw kVLaw dcLaw pmLaw cdLaw ctLaw : Value}
    {tkLETTERS : Tok}
    {tkDEAREST : Tok}
    {C : Addr}
    {fSI : Addr} {odSI anSI : Option Addr} {slSI : Array (Option Value)} {ocSI kVSI dcSI pmSI cdSI ctSI : Value}
    {DSI : Addr} {tkE tkM tkW : Tok}
    {pPextra : Addr} {restPextra : List Value}
    {fPextra : Addr} {odPextra anPextra : Option Addr} {slPextra : Array (Option Value)} {ocPextra kVPextra dcPextra pmPextra cdPextra ctPextra : Value}
    {pPmissing : Addr} {restPmissing : List Value}
    {fPmissing : Addr} {odPmissing anPmissing : Option Addr} {slPmissing : Array (Option Value)} {ocPmissing kVPmissing dcPmissing pmPmissing cdPmissing ctPmissing : Value}
    {pPwrong : Addr} {restPwrong : List Value}
    {fPwrong : Addr} {odPwrong anPwrong : Option Addr} {slPwrong : Array (Option Value)} {ocPwrong kVPwrong dcPwrong pmPwrong cdPwrong ctPwrong : Value}
    {pPswapped : Addr} {restPswapped : List Value}
    {fPswapped : Addr} {odPswapped anPswapped : Option Addr} {slPswapped : Array (Option Value)} {ocPswapped kVPswapped dcPswapped pmPswapped cdPswapped ctPswapped : Value}
    (aBegin : PySem.W.nsIn K mainGlobals "_law_begin" = some (some (.ref fBegin)))
    (lBegin : K.lookup fBegin = some ⟨ocBegin, odBegin, .func (PySem.W.fnOf "_law_begin" "_law_begin" (defArgs sBegin) (defBody sBegin) (defScope sBegin) .none kVBegin dcBegin pmBegin anBegin cdBegin ctBegin), slBegin⟩)
    (cBegin : PySem.W.codeIn K cdBegin "_law_begin" = true)
    (kBegin : PySem.W.keepIn K (.ref fBegin) = true)
    (aTake : PySem.W.nsIn K mainGlobals "_law_take" = some (some (.ref fTake)))
    (lTake : K.lookup fTake = some ⟨ocTake, odTake, .func (PySem.W.fnOf "_law_take" "_law_take" (defArgs sTake) (defBody sTake) (defScope sTake) .none kVTake dcTake pmTake anTake cdTake ctTake), slTake⟩)
    (cTake : PySem.W.codeIn K cdTake "_law_take" = true)
    (kTake : PySem.W.keepIn K (.ref fTake) = true)
    (aPick : PySem.W.nsIn K mainGlobals "_law_pick" = some (some (.ref fPick)))
    (lPick : K.lookup fPick = some ⟨ocPick, odPick, .func (PySem.W.fnOf "_law_pick" "_law_pick" (defArgs sPick) (defBody sPick) (defScope sPick) .none kVPick dcPick pmPick anPick cdPick ctPick), slPick⟩)
    (cPick : PySem.W.codeIn K cdPick "_law_pick" = true)
    (kPick : PySem.W.keepIn K (.ref fPick) = true)
    (aIsInt : PySem.W.nsIn K mainGlobals "is_integer" = some (some (.ref fIsInt)))
    (lIsInt : K.lookup fIsInt = some ⟨ocIsInt, odIsInt, .func (PySem.W.fnOf "is_integer" "is_integer" (defArgs sIsInt) (defBody sIsInt) (defScope sIsInt) .none kVIsInt dcIsInt pmIsInt anIsInt cdIsInt ctIsInt), slIsInt⟩)
    (cIsInt : PySem.W.codeIn K cdIsInt "is_integer" = true)
    (kIsInt : PySem.W.keepIn K (.ref fIsInt) = true)
    (aIsText : PySem.W.nsIn K mainGlobals "is_text" = some (some (.ref fIsText)))
    (lIsText : K.lookup fIsText = some ⟨ocIsText, odIsText, .func (PySem.W.fnOf "is_text" "is_text" (defArgs sIsText) (defBody sIsText) (defScope sIsText) .none kVIsText dcIsText pmIsText anIsText cdIsText ctIsText), slIsText⟩)
    (cIsText : PySem.W.codeIn K cdIsText "is_text" = true)
    (kIsText : PySem.W.keepIn K (.ref fIsText) = true)
    (aIsPrice : PySem.W.nsIn K mainGlobals "is_price" = some (some (.ref fIsPrice)))
    (lIsPrice : K.lookup fIsPrice = some ⟨ocIsPrice, odIsPrice, .func (PySem.W.fnOf "is_price" "is_price" (defArgs sIsPrice) (defBody sIsPrice) (defScope sIsPrice) .none kVIsPrice dcIsPrice pmIsPrice anIsPrice cdIsPrice ctIsPrice), slIsPrice⟩)
    (cIsPrice : PySem.W.codeIn K cdIsPrice "is_price" = true)
    (kIsPrice : PySem.W.keepIn K (.ref fIsPrice) = true)
    (aNeed : PySem.W.nsIn K mainGlobals "need_text" = some (some (.ref fNeed)))
    (lNeed : K.lookup fNeed = some ⟨ocNeed, odNeed, .func (PySem.W.fnOf "need_text" "need_text" (defArgs sNeed) (defBody sNeed) (defScope sNeed) .none kVNeed dcNeed pmNeed anNeed cdNeed ctNeed), slNeed⟩)
    (cNeed : PySem.W.codeIn K cdNeed "need_text" = true)
    (kNeed : PySem.W.keepIn K (.ref fNeed) = true)
    (aLast : PySem.W.nsIn K mainGlobals "last_steps" = some (some (.ref fLast)))
    (lLast : K.lookup fLast = some ⟨ocLast, odLast, .func (PySem.W.fnOf "last_steps" "last_steps" (defArgs sLast) (defBody sLast) (defScope sLast) .none kVLast dcLast pmLast anLast cdLast ctLast), slLast⟩)
    (cLast : PySem.W.codeIn K cdLast "last_steps" = true)
    (kLast : PySem.W.keepIn K (.ref fLast) = true)
    (aStepP : PySem.W.nsIn K mainGlobals "step_price" = some (some (.ref fStepP)))
    (lStepP : K.lookup fStepP = some ⟨ocStepP, odStepP, .func (PySem.W.fnOf "step_price" "step_price" (defArgs sStepP) (defBody sStepP) (defScope sStepP) .none kVStepP dcStepP pmStepP anStepP cdStepP ctStepP), slStepP⟩)
    (cStepP : PySem.W.codeIn K cdStepP "step_price" = true)
    (kStepP : PySem.W.keepIn K (.ref fStepP) = true)
    (aLines : PySem.W.nsIn K mainGlobals "price_lines" = some (some (.ref fLines)))
    (lLines : K.lookup fLines = some ⟨ocLines, odLines, .func (PySem.W.fnOf "price_lines" "price_lines" (defArgs sLines) (defBody sLines) (defScope sLines) .none kVLines dcLines pmLines anLines cdLines ctLines), slLines⟩)
    (cLines : PySem.W.codeIn K cdLines "price_lines" = true)
    (kLines : PySem.W.keepIn K (.ref fLines) = true)
    (aPrice : PySem.W.nsIn K mainGlobals "price" = some (some (.ref fPrice)))
    (lPrice : K.lookup fPrice = some ⟨ocPrice, odPrice, .func (PySem.W.fnOf "price" "price" (defArgs sPrice) (defBody sPrice) (defScope sPrice) .none kVPrice dcPrice pmPrice anPrice cdPrice ctPrice), slPrice⟩)
    (cPrice : PySem.W.codeIn K cdPrice "price" = true)
    (kPrice : PySem.W.keepIn K (.ref fPrice) = true)
    (aAnyL : PySem.W.nsIn K mainGlobals "_law_any_letters" = some (some (.ref fAnyL)))
    (lAnyL : K.lookup fAnyL = some ⟨ocAnyL, odAnyL, .func (PySem.W.fnOf "_law_any_letters" "_law_any_letters" (defArgs sAnyL) (defBody sAnyL) (defScope sAnyL) .none kVAnyL dcAnyL pmAnyL anAnyL cdAnyL ctAnyL), slAnyL⟩)
    (cAnyL : PySem.W.codeIn K cdAnyL "_law_any_letters" = true)
    (kAnyL : PySem.W.keepIn K (.ref fAnyL) = true)
    (aLett : PySem.W.nsIn K mainGlobals "_law_letters" = some (some (.ref fLett)))
    (lLett : K.lookup fLett = some ⟨ocLett, odLett, .func (PySem.W.fnOf "_law_letters" "_law_letters" (defArgs sLett) (defBody sLett) (defScope sLett) .none kVLett dcLett pmLett anLett cdLett ctLett), slLett⟩)
    (cLett : PySem.W.codeIn K cdLett "_law_letters" = true)
    (kLett : PySem.W.keepIn K (.ref fLett) = true)
    (aString : PySem.W.nsIn K mainGlobals "_law_string" = some (some (.ref fString)))
    (lString : K.lookup fString = some ⟨ocString, odString, .func (PySem.W.fnOf "_law_string" "_law_string" (defArgs sString) (defBody sString) (defScope sString) .none kVString dcString pmString anString cdString ctString), slString⟩)
    (cString : PySem.W.codeIn K cdString "_law_string" = true)
    (kString : PySem.W.keepIn K (.ref fString) = true)
    (aFar : PySem.W.nsIn K mainGlobals "_law_far_prices" = some (some (.ref fFar)))
    (lFar : K.lookup fFar = some ⟨ocFar, odFar, .func (PySem.W.fnOf "_law_far_prices" "_law_far_prices" (defArgs sFar) (defBody sFar) (defScope sFar) .none kVFar dcFar pmFar anFar cdFar ctFar), slFar⟩)
    (cFar : PySem.W.codeIn K cdFar "_law_far_prices" = true)
    (kFar : PySem.W.keepIn K (.ref fFar) = true)
    (aLSlips : PySem.W.nsIn K mainGlobals "_law_slips" = some (some (.ref fLSlips)))
    (lLSlips : K.lookup fLSlips = some ⟨ocLSlips, odLSlips, .func (PySem.W.fnOf "_law_slips" "_law_slips" (defArgs sLSlips) (defBody sLSlips) (defScope sLSlips) .none kVLSlips dcLSlips pmLSlips anLSlips cdLSlips ctLSlips), slLSlips⟩)
    (cLSlips : PySem.W.codeIn K cdLSlips "_law_slips" = true)
    (kLSlips : PySem.W.keepIn K (.ref fLSlips) = true)
    (aRen : PySem.W.nsIn K mainGlobals "_law_renamed" = some (some (.ref fRen)))
    (lRen : K.lookup fRen = some ⟨ocRen, odRen, .func (PySem.W.fnOf "_law_renamed" "_law_renamed" (defArgs sRen) (defBody sRen) (defScope sRen) .none kVRen dcRen pmRen anRen cdRen ctRen), slRen⟩)
    (cRen : PySem.W.codeIn K cdRen "_law_renamed" = true)
    (kRen : PySem.W.keepIn K (.ref fRen) = true)
    (aLaw : PySem.W.nsIn K mainGlobals "law" = some (some (.ref fLaw)))
    (lLaw : K.lookup fLaw = some ⟨ocLaw, odLaw, .func (PySem.W.fnOf "law" "law" (defArgs sLaw) (defBody sLaw) (defScope sLaw) .none kVLaw dcLaw pmLaw anLaw cdLaw ctLaw), slLaw⟩)
    (cLaw : PySem.W.codeIn K cdLaw "law" = true)
    (kLaw : PySem.W.keepIn K (.ref fLaw) = true)
    (z_abs : PySem.W.nsIn K mainGlobals "abs" = some none)
    (z_all : PySem.W.nsIn K mainGlobals "all" = some none)
    (z_any : PySem.W.nsIn K mainGlobals "any" = some none)
    (z_bool : PySem.W.nsIn K mainGlobals "bool" = some none)
    (z_dict : PySem.W.nsIn K mainGlobals "dict" = some none)
    (z_divmod : PySem.W.nsIn K mainGlobals "divmod" = some none)
    (z_enumerate : PySem.W.nsIn K mainGlobals "enumerate" = some none)
    (z_int : PySem.W.nsIn K mainGlobals "int" = some none)
    (z_isinstance : PySem.W.nsIn K mainGlobals "isinstance" = some none)
    (z_len : PySem.W.nsIn K mainGlobals "len" = some none)
    (z_list : PySem.W.nsIn K mainGlobals "list" = some none)
    (z_max : PySem.W.nsIn K mainGlobals "max" = some none)
    (z_min : PySem.W.nsIn K mainGlobals "min" = some none)
    (z_range : PySem.W.nsIn K mainGlobals "range" = some none)
    (z_repr : PySem.W.nsIn K mainGlobals "repr" = some none)
    (z_set : PySem.W.nsIn K mainGlobals "set" = some none)
    (z_sorted : PySem.W.nsIn K mainGlobals "sorted" = some none)
    (z_str : PySem.W.nsIn K mainGlobals "str" = some none)
    (z_sum : PySem.W.nsIn K mainGlobals "sum" = some none)
    (z_tuple : PySem.W.nsIn K mainGlobals "tuple" = some none)
    (z_zip : PySem.W.nsIn K mainGlobals "zip" = some none)
    (g_LETTERS : PySem.W.nsIn K mainGlobals "LETTERS" = some (some (.str abc tkLETTERS)))
    (g_DEAREST : PySem.W.nsIn K mainGlobals "DEAREST" = some (some (.int 9 tkDEAREST)))
    (aC : PySem.W.nsIn K mainGlobals "Slips" = some (some (.ref C)))
    (aSI : PySem.W.findIn K (.ref C) "__init__" = some (some (.ref fSI)))
    (lSI : K.lookup fSI = some ⟨ocSI, odSI, .func (PySem.W.fnOf "__init__" "Slips.__init__" (defArgs sSInit) (defBody sSInit) (defScope sSInit) .none kVSI dcSI pmSI anSI cdSI ctSI), slSI⟩)
    (cSI : PySem.W.codeIn K cdSI "Slips.__init__" = true)
    (kSI : PySem.W.keepIn K (.ref fSI) = true)
    (iSI : PySem.W.isFn K (.ref fSI) = true)
    (eSI : kVSI = .ref DSI)
    (w1 : PySem.W.nsIn K DSI "extra" = some (some (.int 1 tkE)))
    (w2 : PySem.W.nsIn K DSI "missing" = some (some (.int 1 tkM)))
    (w3 : PySem.W.nsIn K DSI "wrong" = some (some (.int 1 tkW)))
    (w4 : PySem.W.nsIn K DSI "swapped" = some (some .none))
    (pg : PySem.W.plainGet K C Str.empty = true)
    (hd : PySem.W.hasDictIn K C = true)
    (po : PySem.W.plainOver K C = true)
    (sa : PySem.W.findIn K (.ref C) "__setattr__" = some (some (.builtin "object.__setattr__")))
    (mk : PySem.W.makesIn K C = true)
    (kc : PySem.W.keepIn K (.ref C) = true)
    (n_extra : PySem.W.findIn K (.ref C) "z_extra" = some none)
    (n_missing : PySem.W.findIn K (.ref C) "z_missing" = some none)
    (n_wrong : PySem.W.findIn K (.ref C) "z_wrong" = some none)
    (n_swapped : PySem.W.findIn K (.ref C) "z_swapped" = some none)
    (atPextra : PySem.W.findIn K (.ref C) "extra" = some (some (.ref pPextra)))
    (gtPextra : PySem.W.specialIn K (.ref pPextra) "__get__" = some (some (.builtin "property.__get__")))
    (tkPextra : PySem.W.takesIn K (.ref pPextra) = some true)
    (aPextra : PySem.W.recIn K pPextra "property" = some (.ref fPextra :: restPextra))
    (lPextra : K.lookup fPextra = some ⟨ocPextra, odPextra, .func (PySem.W.fnOf "extra" "Slips.extra" (defArgs sG_extra) (defBody sG_extra) (defScope sG_extra) .none kVPextra dcPextra pmPextra anPextra cdPextra ctPextra), slPextra⟩)
    (cPextra : PySem.W.codeIn K cdPextra "Slips.extra" = true)
    (kPextra : PySem.W.keepIn K (.ref fPextra) = true)
    (atPmissing : PySem.W.findIn K (.ref C) "missing" = some (some (.ref pPmissing)))
    (gtPmissing : PySem.W.specialIn K (.ref pPmissing) "__get__" = some (some (.builtin "property.__get__")))
    (tkPmissing : PySem.W.takesIn K (.ref pPmissing) = some true)
    (aPmissing : PySem.W.recIn K pPmissing "property" = some (.ref fPmissing :: restPmissing))
    (lPmissing : K.lookup fPmissing = some ⟨ocPmissing, odPmissing, .func (PySem.W.fnOf "missing" "Slips.missing" (defArgs sG_missing) (defBody sG_missing) (defScope sG_missing) .none kVPmissing dcPmissing pmPmissing anPmissing cdPmissing ctPmissing), slPmissing⟩)
    (cPmissing : PySem.W.codeIn K cdPmissing "Slips.missing" = true)
    (kPmissing : PySem.W.keepIn K (.ref fPmissing) = true)
    (atPwrong : PySem.W.findIn K (.ref C) "wrong" = some (some (.ref pPwrong)))
    (gtPwrong : PySem.W.specialIn K (.ref pPwrong) "__get__" = some (some (.builtin "property.__get__")))
    (tkPwrong : PySem.W.takesIn K (.ref pPwrong) = some true)
    (aPwrong : PySem.W.recIn K pPwrong "property" = some (.ref fPwrong :: restPwrong))
    (lPwrong : K.lookup fPwrong = some ⟨ocPwrong, odPwrong, .func (PySem.W.fnOf "wrong" "Slips.wrong" (defArgs sG_wrong) (defBody sG_wrong) (defScope sG_wrong) .none kVPwrong dcPwrong pmPwrong anPwrong cdPwrong ctPwrong), slPwrong⟩)
    (cPwrong : PySem.W.codeIn K cdPwrong "Slips.wrong" = true)
    (kPwrong : PySem.W.keepIn K (.ref fPwrong) = true)
    (atPswapped : PySem.W.findIn K (.ref C) "swapped" = some (some (.ref pPswapped)))
    (gtPswapped : PySem.W.specialIn K (.ref pPswapped) "__get__" = some (some (.builtin "property.__get__")))
    (tkPswapped : PySem.W.takesIn K (.ref pPswapped) = some true)
    (aPswapped : PySem.W.recIn K pPswapped "property" = some (.ref fPswapped :: restPswapped))
    (lPswapped : K.lookup fPswapped = some ⟨ocPswapped, odPswapped, .func (PySem.W.fnOf "swapped" "Slips.swapped" (defArgs sG_swapped) (defBody sG_swapped) (defScope sG_swapped) .none kVPswapped dcPswapped pmPswapped anPswapped cdPswapped ctPswapped), slPswapped⟩)
    (cPswapped : PySem.W.codeIn K cdPswapped "Slips.swapped" = true)
    (kPswapped : PySem.W.keepIn K (.ref fPswapped) = true) :
    ∃ fd : FuncData, (∀ (s : Shared) (v : Value), BindsTo s fd ⟨[v], []⟩ [("_law_script", v)]) ∧ ∀ base : Heap, K.In base → base.Ns mainGlobals mg → FnOk l.prog w K mg base CX0 6 fa fd ["_law_script"] (spLaw K) := by
  have e := hfa.symm.trans (PySem.W.mg_of X G aLaw)
  cases e
  have dBegin : Def K mg "_law_begin" sBegin ["_law_script"] _ _ := ⟨fun_mk (st := sBegin) lBegin cBegin kBegin, PySem.W.mg_of X G aBegin, (fun_mk (st := sBegin) lBegin cBegin kBegin).binds (ps := ["_law_script"]) fun _ _ _ _ _ _ us hl => match us, hl with | [_], _ => rfl⟩
  have dTake : Def K mg "_law_take" sTake ["_law_draw", "_law_size"] _ _ := ⟨fun_mk (st := sTake) lTake cTake kTake, PySem.W.mg_of X G aTake, (fun_mk (st := sTake) lTake cTake kTake).binds (ps := ["_law_draw", "_law_size"]) fun _ _ _ _ _ _ us hl => match us, hl with | [_, _], _ => rfl⟩
  have dPick : Def K mg "_law_pick" sPick ["_law_draw", "_law_some"] _ _ := ⟨fun_mk (st := sPick) lPick cPick kPick, PySem.W.mg_of X G aPick, (fun_mk (st := sPick) lPick cPick kPick).binds (ps := ["_law_draw", "_law_some"]) fun _ _ _ _ _ _ us hl => match us, hl with | [_, _], _ => rfl⟩
  have dIsInt : Def K mg "is_integer" sIsInt ["thing"] _ _ := ⟨fun_mk (st := sIsInt) lIsInt cIsInt kIsInt, PySem.W.mg_of X G aIsInt, (fun_mk (st := sIsInt) lIsInt cIsInt kIsInt).binds (ps := ["thing"]) fun _ _ _ _ _ _ us hl => match us, hl with | [_], _ => rfl⟩
  have dIsText : Def K mg "is_text" sIsText ["thing"] _ _ := ⟨fun_mk (st := sIsText) lIsText cIsText kIsText, PySem.W.mg_of X G aIsText, (fun_mk (st := sIsText) lIsText cIsText kIsText).binds (ps := ["thing"]) fun _ _ _ _ _ _ us hl => match us, hl with | [_], _ => rfl⟩
  have dIsPrice : Def K mg "is_price" sIsPrice ["thing"] _ _ := ⟨fun_mk (st := sIsPrice) lIsPrice cIsPrice kIsPrice, PySem.W.mg_of X G aIsPrice, (fun_mk (st := sIsPrice) lIsPrice cIsPrice kIsPrice).binds (ps := ["thing"]) fun _ _ _ _ _ _ us hl => match us, hl with | [_], _ => rfl⟩
  have dNeed : Def K mg "need_text" sNeed ["thing"] _ _ := ⟨fun_mk (st := sNeed) lNeed cNeed kNeed, PySem.W.mg_of X G aNeed, (fun_mk (st := sNeed) lNeed cNeed kNeed).binds (ps := ["thing"]) fun _ _ _ _ _ _ us hl => match us, hl with | [_], _ => rfl⟩
  have dLast : Def K mg "last_steps" sLast ["slips", "target", "text"] _ _ := ⟨fun_mk (st := sLast) lLast cLast kLast, PySem.W.mg_of X G aLast, (fun_mk (st := sLast) lLast cLast kLast).binds (ps := ["slips", "target", "text"]) fun _ _ _ _ _ _ us hl => match us, hl with | [_, _, _], _ => rfl⟩
  have dStepP : Def K mg "step_price" sStepP ["slips", "step"] _ _ := ⟨fun_mk (st := sStepP) lStepP cStepP kStepP, PySem.W.mg_of X G aStepP, (fun_mk (st := sStepP) lStepP cStepP kStepP).binds (ps := ["slips", "step"]) fun _ _ _ _ _ _ us hl => match us, hl with | [_, _], _ => rfl⟩
  have dLines : Def K mg "price_lines" sLines ["slips", "target", "text"] _ _ := ⟨fun_mk (st := sLines) lLines cLines kLines, PySem.W.mg_of X G aLines, (fun_mk (st := sLines) lLines cLines kLines).binds (ps := ["slips", "target", "text"]) fun _ _ _ _ _ _ us hl => match us, hl with | [_, _, _], _ => rfl⟩
  have dPrice : Def K mg "price" sPrice ["slips", "target", "text"] _ _ := ⟨fun_mk (st := sPrice) lPrice cPrice kPrice, PySem.W.mg_of X G aPrice, (fun_mk (st := sPrice) lPrice cPrice kPrice).binds (ps := ["slips", "target", "text"]) fun _ _ _ _ _ _ us hl => match us, hl with | [_, _, _], _ => rfl⟩
  have dAnyL : Def K mg "_law_any_letters" sAnyL ["_law_draw", "_law_many"] _ _ := ⟨fun_mk (st := sAnyL) lAnyL cAnyL kAnyL, PySem.W.mg_of X G aAnyL, (fun_mk (st := sAnyL) lAnyL cAnyL kAnyL).binds (ps := ["_law_draw", "_law_many"]) fun _ _ _ _ _ _ us hl => match us, hl with | [_, _], _ => rfl⟩
  have dLett : Def K mg "_law_letters" sLett ["_law_draw", "_law_many"] _ _ := ⟨fun_mk (st := sLett) lLett cLett kLett, PySem.W.mg_of X G aLett, (fun_mk (st := sLett) lLett cLett kLett).binds (ps := ["_law_draw", "_law_many"]) fun _ _ _ _ _ _ us hl => match us, hl with | [_, _], _ => rfl⟩
  have dString : Def K mg "_law_string" sString ["_law_draw", "_law_letters_here", "_law_least", "_law_most"] _ _ := ⟨fun_mk (st := sString) lString cString kString, PySem.W.mg_of X G aString, (fun_mk (st := sString) lString cString kString).binds (ps := ["_law_draw", "_law_letters_here", "_law_least", "_law_most"]) fun _ _ _ _ _ _ us hl => match us, hl with | [_, _, _, _], _ => rfl⟩
  have dFar : Def K mg "_law_far_prices" sFar ["_law_draw"] _ _ := ⟨fun_mk (st := sFar) lFar cFar kFar, PySem.W.mg_of X G aFar, (fun_mk (st := sFar) lFar cFar kFar).binds (ps := ["_law_draw"]) fun _ _ _ _ _ _ us hl => match us, hl with | [_], _ => rfl⟩
  have dLSlips : Def K mg "_law_slips" sLSlips ["_law_prices"] _ _ := ⟨fun_mk (st := sLSlips) lLSlips cLSlips kLSlips, PySem.W.mg_of X G aLSlips, (fun_mk (st := sLSlips) lLSlips cLSlips kLSlips).binds (ps := ["_law_prices"]) fun _ _ _ _ _ _ us hl => match us, hl with | [_], _ => rfl⟩
  have dRen : Def K mg "_law_renamed" sRen ["_law_order", "_law_text"] _ _ := ⟨fun_mk (st := sRen) lRen cRen kRen, PySem.W.mg_of X G aRen, (fun_mk (st := sRen) lRen cRen kRen).binds (ps := ["_law_order", "_law_text"]) fun _ _ _ _ _ _ us hl => match us, hl with | [_, _], _ => rfl⟩
  have dLaw : Def K mg "law" sLaw ["_law_script"] _ _ := ⟨fun_mk (st := sLaw) lLaw cLaw kLaw, PySem.W.mg_of X G aLaw, (fun_mk (st := sLaw) lLaw cLaw kLaw).binds (ps := ["_law_script"]) fun _ _ _ _ _ _ us hl => match us, hl with | [_], _ => rfl⟩
  have B : Bt mg := ⟨PySem.W.mg_none_of X G z_abs, PySem.W.mg_none_of X G z_all, PySem.W.mg_none_of X G z_any, PySem.W.mg_none_of X G z_bool, PySem.W.mg_none_of X G z_dict, PySem.W.mg_none_of X G z_divmod, PySem.W.mg_none_of X G z_enumerate, PySem.W.mg_none_of X G z_int, PySem.W.mg_none_of X G z_isinstance, PySem.W.mg_none_of X G z_len, PySem.W.mg_none_of X G z_list, PySem.W.mg_none_of X G z_max, PySem.W.mg_none_of X G z_min, PySem.W.mg_none_of X G z_range, PySem.W.mg_none_of X G z_repr, PySem.W.mg_none_of X G z_set, PySem.W.mg_none_of X G z_sorted, PySem.W.mg_none_of X G z_str, PySem.W.mg_none_of X G z_sum, PySem.W.mg_none_of X G z_tuple, PySem.W.mg_none_of X G z_zip⟩
  have mLETTERS := PySem.W.mg_of X G g_LETTERS
  have mDEAREST := PySem.W.mg_of X G g_DEAREST
  have T : SlC K mg C := ⟨⟨pg, hd, po, sa⟩, n_extra, n_missing, n_wrong, n_swapped, PySem.W.mg_of X G aC⟩
  have FSI : FunD K "__init__" "Slips.__init__" (defArgs sSInit) (defBody sSInit) (defScope sSInit) [] kwS fSI _ := ⟨⟨ocSI, odSI, .none, kVSI, dcSI, pmSI, anSI, cdSI, ctSI, slSI, rfl, lSI, cSI, .inl ⟨rfl, rfl⟩, .inr ⟨DSI, eSI, fun q hq => by
      simp only [kwS, List.mem_cons, List.not_mem_nil, or_false] at hq
      rcases hq with rfl | rfl | rfl | rfl
      · exact ⟨_, w1, ⟨_, rfl⟩⟩
      · exact ⟨_, w2, ⟨_, rfl⟩⟩
      · exact ⟨_, w3, ⟨_, rfl⟩⟩
      · exact ⟨_, w4, rfl⟩⟩⟩, kSI⟩
  obtain ⟨gSI, kbSI⟩ := sl_bind FSI
  have MSI : Mk K C fSI := ⟨mk, aSI, iSI, kc⟩
  refine ⟨_, fun s v => (.of_eq rfl : BindsTo s (PySem.W.fnOf "law" "law" (defArgs sLaw) (defBody sLaw) (defScope sLaw) .none kVLaw dcLaw pmLaw anLaw cdLaw ctLaw) ⟨[v], []⟩ [("_law_script", v)]), fun base _ _ => ?_⟩
  have SP : SlP l.prog w K mg base C := by
    refine ⟨T, ⟨fSI, _, gSI, MSI, ok_sinit0 FSI T (dIsPrice.cal (ok_isPrice dIsPrice.F (dIsInt.cal (ok_isInt dIsInt.F B.isinst B.int B.bool)) mDEAREST)), kbSI⟩, ?_, ?_, ?_, ?_⟩
    · exact ⟨pPextra, fPextra, _, ⟨atPextra, gtPextra, tkPextra, ⟨_, aPextra⟩⟩, fn_getter (f := "z_extra") lPextra cPextra scG_extra rfl rfl T.cl n_extra, (fun_mk (st := sG_extra) lPextra cPextra kPextra).binds (ps := ["self"]) fun _ _ _ _ _ _ us hl => match us, hl with | [_], _ => rfl⟩
    · exact ⟨pPmissing, fPmissing, _, ⟨atPmissing, gtPmissing, tkPmissing, ⟨_, aPmissing⟩⟩, fn_getter (f := "z_missing") lPmissing cPmissing scG_missing rfl rfl T.cl n_missing, (fun_mk (st := sG_missing) lPmissing cPmissing kPmissing).binds (ps := ["self"]) fun _ _ _ _ _ _ us hl => match us, hl with | [_], _ => rfl⟩
    · exact ⟨pPwrong, fPwrong, _, ⟨atPwrong, gtPwrong, tkPwrong, ⟨_, aPwrong⟩⟩, fn_getter (f := "z_wrong") lPwrong cPwrong scG_wrong rfl rfl T.cl n_wrong, (fun_mk (st := sG_wrong) lPwrong cPwrong kPwrong).binds (ps := ["self"]) fun _ _ _ _ _ _ us hl => match us, hl with | [_], _ => rfl⟩
    · exact ⟨pPswapped, fPswapped, _, ⟨atPswapped, gtPswapped, tkPswapped, ⟨_, aPswapped⟩⟩, fn_getter (f := "z_swapped") lPswapped cPswapped scG_swapped rfl rfl T.cl n_swapped, (fun_mk (st := sG_swapped) lPswapped cPswapped kPswapped).binds (ps := ["self"]) fun _ _ _ _ _ _ us hl => match us, hl with | [_], _ => rfl⟩
  have cTk := dTake.cal (ok_take (P := l.prog) (w := w) (base := base) (k := 0) dTake.F B.int B.divmod)
  have cPk := dPick.cal (ok_pick dPick.F cTk B.len)
  have cBg := dBegin.cal (ok_begin (P := l.prog) (w := w) (base := base) (k := 0) dBegin.F B.abs B.list)
  have cIT := dIsText.cal (ok_isText (P := l.prog) (w := w) (base := base) dIsText.F B.isinst B.str B.all mLETTERS)
  have cNd := dNeed.cal (ok_need0 dNeed.F cIT)
  have cLs := dLast.cal (ok_last dLast.F SP B.len)
  have cSP := dStepP.cal (ok_stepP dStepP.F SP)
  have cLi := dLines.cal (ok_lines dLines.F SP cLs cSP B.len B.range B.min)
  have cPr := dPrice.cal (ok_price0 dPrice.F cLi cNd)
  exact ok_law dLaw.F ⟨cBg, cTk, cPk, dAnyL.cal (ok_anyL dAnyL.F cPk B.range), dLett.cal (ok_lett dLett.F cTk B.range B.list B.len), dString.cal (ok_string dString.F cTk cPk B.range), dFar.cal (ok_far dFar.F cTk cPk B.range B.tuple),
    dLSlips.cal (ok_lslips dLSlips.F SP), dRen.cal (ok_ren dRen.F), cPr⟩ B
end G69
open PySem PySem.W PyProof.Rows
set_option maxRecDepth 100000 in
set_option maxHeartbeats 0 in
theorem PySem.Challenge.cw_meantword_k06_whole_prices_hang_together_holds : PySem.Challenge.rw_meantword_k06_whole_prices_hang_together.Holds := by
  w_on; o_law; k_head; (case hw => w_witness2)
  k_fill
  refine L2.walk_of (l := PySem.Challenge.rw_meantword_k06_whole_prices_hang_together) (n := 63) (k := 6) (x := "_law_script") (CX := fun _ => L2.CX0) (sp := fun w => G69.spLaw _) rfl (by decide) rfl ⟨rfl, by decide, by decide⟩ (fun w h Y => PySem.W.kIn_of Y) ?F (fun _ _ a ns hl _ hS => ⟨a, ns, rfl, hS, hl, fun _ => rfl⟩) (fun _ _ _ _ _ h => h)
  case F =>
    intro w mg fa h KX G hmg
    refine' G69.all_mk KX G hmg ?aBegin ?lBegin ?cBegin ?kBegin ?aTake ?lTake ?cTake ?kTake ?aPick ?lPick ?cPick ?kPick ?aIsInt ?lIsInt ?cIsInt ?kIsInt ?aIsText ?lIsText ?cIsText ?kIsText ?aIsPrice ?lIsPrice ?cIsPrice ?kIsPrice ?aNeed ?lNeed ?cNeed ?kNeed ?aLast ?lLast ?cLast ?kLast ?aStepP ?lStepP ?cStepP ?kStepP ?aLines ?lLines ?cLines ?kLines ?aPrice ?lPrice ?cPrice ?kPrice ?aAnyL ?lAnyL ?cAnyL ?kAnyL ?aLett ?lLett ?cLett ?kLett ?aString ?lString ?cString ?kString ?aFar ?lFar ?cFar ?kFar ?aLSlips ?lLSlips ?cLSlips ?kLSlips ?aRen ?lRen ?cRen ?kRen ?aLaw ?lLaw ?cLaw ?kLaw ?z_abs ?z_all ?z_any ?z_bool ?z_dict ?z_divmod ?z_enumerate ?z_int ?z_isinstance ?z_len ?z_list ?z_max ?z_min ?z_range ?z_repr ?z_set ?z_sorted ?z_str ?z_sum ?z_tuple ?z_zip ?g_LETTERS ?g_DEAREST ?aC ?aSI ?lSI ?cSI ?kSI ?iSI ?eSI ?w1 ?w2 ?w3 ?w4 ?pg ?hd ?po ?sa ?mk ?kc ?n_extra ?n_missing ?n_wrong ?n_swapped ?atPextra ?gtPextra ?tkPextra ?aPextra ?lPextra ?cPextra ?kPextra ?atPmissing ?gtPmissing ?tkPmissing ?aPmissing ?lPmissing ?cPmissing ?kPmissing ?atPwrong ?gtPwrong ?tkPwrong ?aPwrong ?lPwrong ?cPwrong ?kPwrong ?atPswapped ?gtPswapped ?tkPswapped ?aPswapped ?lPswapped ?cPswapped ?kPswapped
    (case aBegin => k_is)
    (case lBegin => k_is)
    (case cBegin => k_is)
    (case kBegin => k_is)
    (case aTake => k_is)
    (case lTake => k_is)
    (case cTake => k_is)
    (case kTake => k_is)
    (case aPick => k_is)
    (case lPick => k_is)
    (case cPick => k_is)
    (case kPick => k_is)
    (case aIsInt => k_is)
    (case lIsInt => k_is)
    (case cIsInt => k_is)
    (case kIsInt => k_is)
    (case aIsText => k_is)
    (case lIsText => k_is)
    (case cIsText => k_is)
    (case kIsText => k_is)
    (case aIsPrice => k_is)
    (case lIsPrice => k_is)
    (case cIsPrice => k_is)
    (case kIsPrice => k_is)
    (case aNeed => k_is)
    (case lNeed => k_is)
    (case cNeed => k_is)
    (case kNeed => k_is)
    (case aLast => k_is)
    (case lLast => k_is)
    (case cLast => k_is)
    (case kLast => k_is)
    (case aStepP => k_is)
    (case lStepP => k_is)
    (case cStepP => k_is)
    (case kStepP => k_is)
    (case aLines => k_is)
    (case lLines => k_is)
    (case cLines => k_is)
    (case kLines => k_is)
    (case aPrice => k_is)
    (case lPrice => k_is)
    (case cPrice => k_is)
    (case kPrice => k_is)
    (case aAnyL => k_is)
    (case lAnyL => k_is)
    (case cAnyL => k_is)
    (case kAnyL => k_is)
    (case aLett => k_is)
    (case lLett => k_is)
    (case cLett => k_is)
    (case kLett => k_is)
    (case aString => k_is)
    (case lString => k_is)
    (case cString => k_is)
    (case kString => k_is)
    (case aFar => k_is)
    (case lFar => k_is)
    (case cFar => k_is)
    (case kFar => k_is)
    (case aLSlips => k_is)
    (case lLSlips => k_is)
    (case cLSlips => k_is)
    (case kLSlips => k_is)
    (case aRen => k_is)
    (case lRen => k_is)
    (case cRen => k_is)
    (case kRen => k_is)
    (case aLaw => k_is)
    (case lLaw => k_is)
    (case cLaw => k_is)
    (case kLaw => k_is)
    (case z_abs => k_is)
    (case z_all => k_is)
    (case z_any => k_is)
    (case z_bool => k_is)
    (case z_dict => k_is)
    (case z_divmod => k_is)
    (case z_enumerate => k_is)
    (case z_int => k_is)
    (case z_isinstance => k_is)
    (case z_len => k_is)
    (case z_list => k_is)
    (case z_max => k_is)
    (case z_min => k_is)
    (case z_range => k_is)
    (case z_repr => k_is)
    (case z_set => k_is)
    (case z_sorted => k_is)
    (case z_str => k_is)
    (case z_sum => k_is)
    (case z_tuple => k_is)
    (case z_zip => k_is)
    (case g_LETTERS => k_is)
    (case g_DEAREST => k_is)
    (case aC => k_is)
    (case aSI => k_is)
    (case lSI => k_is)
    (case cSI => k_is)
    (case kSI => k_is)
    (case iSI => k_is)
    (case eSI => first | k_is | rfl)
    (case w1 => k_is)
    (case w2 => k_is)
    (case w3 => k_is)
    (case w4 => k_is)
    (case pg => k_is)
    (case hd => k_is)
    (case po => k_is)
    (case sa => k_is)
    (case mk => k_is)
    (case kc => k_is)
    (case n_extra => k_is)
    (case n_missing => k_is)
    (case n_wrong => k_is)
    (case n_swapped => k_is)
    (case atPextra => k_is)
    (case gtPextra => k_is)
    (case tkPextra => k_is)
    (case aPextra => k_is)
    (case lPextra => k_is)
    (case cPextra => k_is)
    (case kPextra => k_is)
    (case atPmissing => k_is)
    (case gtPmissing => k_is)
    (case tkPmissing => k_is)
    (case aPmissing => k_is)
    (case lPmissing => k_is)
    (case cPmissing => k_is)
    (case kPmissing => k_is)
    (case atPwrong => k_is)
    (case gtPwrong => k_is)
    (case tkPwrong => k_is)
    (case aPwrong => k_is)
    (case lPwrong => k_is)
    (case cPwrong => k_is)
    (case kPwrong => k_is)
    (case atPswapped => k_is)
    (case gtPswapped => k_is)
    (case tkPswapped => k_is)
    (case aPswapped => k_is)
    (case lPswapped => k_is)
    (case cPswapped => k_is)
    (case kPswapped => k_is)
