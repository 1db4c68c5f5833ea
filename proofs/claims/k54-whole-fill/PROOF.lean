import PyProof.Rows.All
import Wide.All
import OpenK.AllK
import Wide.FinOn
import KE.KStateDown
import Lean
import HandS.ForMost
import HandS.ForExc
import HandS.More
import HandS.Conv
import HandS.Zip
import HandS.SetFor
import HandS.Sort
import HandS.SortInts
import HandS.Style
import HandS.IsInst
import HandS.ExcIs
import HandS.Evl
import HandS.Defaults
import HandS.Head0
import HandS.Head1
import HandS.Head2
import HandS.HeadEnd
import HandS.HeadHook1
import HandS.HeadHook2
import HandS.HeadHook3
import HandS.HeadHook4
import PySem.Challenge.RW_ringfloor_k54_whole_fill
set_option Elab.async false
set_option linter.all false
set_option maxRecDepth 100000
set_option maxHeartbeats 4000000
namespace RF
open PySem PySem.Spec PyProof.Rows L2 Evl
/-! ## The text by places -/
def top (i : Nat) : Stmt := PySem.Challenge.pw_ringfloor_k54_whole_fill.main.body.getD i (.Pass ⟨0, 0, 0, 0⟩)
/-! ## Short names of readings -/
abbrev rPlus : R2 := rI0 fun i j => .int (i + j)
abbrev rMinus : R2 := rI0 fun i j => .int (i - j)
abbrev rTimes : R2 := rI CMul fun i j => .int (i * j)
abbrev rModP : R2 := rI (fun _ j => 0 < j) fun i j => .int (i % j)
abbrev rDivP : R2 := rI CDiv fun i j => .int (i / j)
abbrev rPowP : R2 := rI CPow fun i j => .int (i ^ j.toNat)
abbrev rLess : R2 := rI0 fun i j => .bl (decide (i < j))
abbrev rMore : R2 := rI0 fun i j => .bl (decide (j < i))
abbrev rAtLeast : R2 := rI0 fun i j => .bl (decide (j ≤ i))
abbrev rNegI : V → Hp → VK → Prop := rU fun i => .int (-i)
def rNone : R2 := fun x y H Q => y = .non ∧ Q (.bl (decide (x = .non))) H
theorem op_none {X : Cx} : OpR X (compareOp .Is) rNone := op_isN
def rLenDK : List V → Hp → VK → Prop := fun xs H Q => ∃ a kvs, xs = [V.ref a] ∧ H a = some (.dK kvs) ∧ Q (.int kvs.length) H
theorem call_lenDK {X : Cx} : CallR X (.builtin "len") rLenDK := call_lenD
theorem call_lenLS {X : Cx} : CallR X (.builtin "len") (rLenS X.K) := call_len_seq
theorem call_listLS {X : Cx} : CallR X (.type "list") (rListS X.K) := call_list_of
def rInsertL : V → List V → Hp → VK → Prop := fun x vs H Q => ∃ (l : Addr) (xs : List V) (i : Int) (y : V), x = .ref l ∧ vs = [.int i, y] ∧ H l = some (.lst xs) ∧ xs.length < sizeLine ∧ 0 ≤ i ∧ i < 2 ^ 63 ∧
    Q .non (upd H l (.lst (xs.take i.toNat ++ [y] ++ xs.drop i.toNat)))
theorem mt_insertL {X : Cx} : MtR X "list.insert" rInsertL := mt_insert
theorem call_max2I {X : Cx} (hc : X.calm = true) : CallR X (.builtin "max") rMax2 := call_max2 hc
/-- an item of a list, read for a store by an operator -/
theorem get_list {X : Cx} : PGet X (rIxL X.K) := by
  intro pins s σ H x y v u Q I rx ry h
  obtain ⟨p, xs, i, z, rfl, rfl, hq, he, q⟩ := h
  cases rx
  obtain ⟨t, rfl⟩ := ry
  obtain ⟨its, r, pl, hz⟩ := I.list hq
  obtain ⟨j, h1, h2, h3, h4, h5⟩ := atI_get he
  obtain ⟨w, ew, rw'⟩ := r.get h2
  have hl := r.length
  have hn := line63
  have fin : EP X pins σ Q w s := ⟨z, H, I, rw', q⟩
  by_cases h0 : 0 ≤ i
  · have hj : i.toNat = j := by
      rw [seqIndex_of h0 h5] at h1
      exact Option.some.inj h1
    exact wpAny_getItem_list pl.isList h0 (by omega) (by rw [hj]; simpa using ew) fin
  · have hj : (i + (its.toArray.size : Int)).toNat = j := by
      rw [seqIndex_neg (by omega) h4] at h1
      rw [List.size_toArray, ← hl]
      exact Option.some.inj h1
    exact wpAny_getItem_list_neg pl.isList (by omega) (by rw [List.size_toArray] <;> omega) (by omega) (by rw [hj]; simpa using ew) fin
/-! ## A def of the text, its promise -/
structure FnF (K : PySem.W.Frag) (mg : Str → Option Value) (x : Str) (st : Stmt) : Prop where
  gl : mg x = some (.ref (He.ga K x))
  fn : ∃ fd, FunD K x x (defArgs st) (defBody st) (defScope st) [] [] (He.ga K x) fd
structure Keeps (P : Program) (w : World) (K : PySem.W.Frag) (mg : Str → Option Value) (base : Heap) (CX : CXT) (x : Str) (k : Nat) (ps : List Str) (sp : Sp) : Prop where
  gl : mg x = some (.ref (He.ga K x))
  fn : ∃ fd, FnOk P w K mg base CX k (He.ga K x) fd ps sp ∧ Binds K fd ps [] ∧ PySem.W.keepIn K (.ref (He.ga K x)) = true
section
variable {P : Program} {w : World} {K : PySem.W.Frag} {mg : Str → Option Value} {base : Heap}
theorem keeps_of {x : Str} {st : Stmt} {N ps : List Str} {k : Nat} {sp : Sp} {t : TS} (F : FnF K mg x st) (S : FnScope N ps (defScope st))
    (hb : ∀ (kV doc pm : Value) (an : Option Addr) (cdv ct : Value) (us : List Value), us.length = ps.length → bindArgs (PySem.W.fnOf x x (defArgs st) (defBody st) (defScope st) .none kV doc pm an cdv ct) ⟨us, []⟩ = pure (ps.zip us))
    (len : ∀ vs H Q E, sp vs H Q E → vs.length = ps.length)
    (d : ∀ (f : Addr) (cdv : Value) (A : Around) (outer : List Env) (s : Shared) (H : Hp) (E : XK), Room k (A.deeper (envOfC x (defScope st) s.heap.objs.size f cdv)) →
      PSs (cxOf CX0 P w K mg base N x (defScope st) f cdv A outer s H E).nox (defBody st) t)
    (pure_ : ∀ vs H Q E, sp vs H Q E → t { nx := fun _ H' => Q .non H', rt := Q } (start N vs) H) : Keeps P w K mg base CX0 x (k + 1) ps sp := by
  obtain ⟨fd, F0⟩ := F.fn
  refine ⟨F.gl, fd, F0.ok S len fun cdv A outer s H vs Q E hr h => ⟨t, (d _ cdv A outer s H E hr).nox, pure_ vs H Q E h⟩, F0.bindsN hb, F0.kp⟩
theorem keepsX_of {x : Str} {st : Stmt} {N ps : List Str} {k : Nat} {sp : Sp} {t : XK → TS} (F : FnF K mg x st) (S : FnScope N ps (defScope st))
    (hb : ∀ (kV doc pm : Value) (an : Option Addr) (cdv ct : Value) (us : List Value), us.length = ps.length → bindArgs (PySem.W.fnOf x x (defArgs st) (defBody st) (defScope st) .none kV doc pm an cdv ct) ⟨us, []⟩ = pure (ps.zip us))
    (len : ∀ vs H Q E, sp vs H Q E → vs.length = ps.length)
    (d : ∀ (f : Addr) (cdv : Value) (A : Around) (outer : List Env) (s : Shared) (H : Hp) (E : XK), Room k (A.deeper (envOfC x (defScope st) s.heap.objs.size f cdv)) →
      PSs (cxOf (L2.CX P w) P w K mg base N x (defScope st) f cdv A outer s H E) (defBody st) (t E))
    (pure_ : ∀ vs H Q E, sp vs H Q E → t E { nx := fun _ H' => Q .non H', rt := Q } (start N vs) H) : Keeps P w K mg base (L2.CX P w) x (k + 1) ps sp := by
  obtain ⟨fd, F0⟩ := F.fn
  refine ⟨F.gl, fd, F0.ok S len fun cdv A outer s H vs Q E hr h => ⟨t E, d _ cdv A outer s H E hr, pure_ vs H Q E h⟩, F0.bindsN hb, F0.kp⟩
end
section
variable {X : Cx} {k : Nat} {ps : List Str} {sp : Sp} {x : Str} {p pos : Pos} {e : Expr} {es : List Expr} {t : TA}
/-- a call of a def that keeps its promise -/
theorem pe_f (G : Keeps X.prog X.w X.K X.mg X.base CX0 x k ps sp) (hr : Room k X.A) (hg : Gl X x) (ha : PA X (e :: es) t) (hdb : (x == ("__debug__" : Str)) = false := by decide)
    (he : starEach (e :: es) X.env = (false, eval e X.env) :: starEach es X.env := by rfl) (hpl : (backTo pos (starEach es X.env)).any (·.1) = false := by rfl) :
    PE X (.Call (.Name x p) (e :: es) [] pos) (tCall sp [] E0 t) := by
  obtain ⟨fd, F, b, kp⟩ := G.fn
  exact pe_call F hr hg G.gl kp b .nil pass0 ha hdb he hpl
/-- .. that may raise, where it does not -/
theorem pe_fX (G : Keeps X.prog X.w X.K X.mg X.base (L2.CX X.prog X.w) x k ps sp) (hr : Room k X.A) (hg : Gl X x) (ha : PA X (e :: es) t) (hdb : (x == ("__debug__" : Str)) = false := by decide)
    (he : starEach (e :: es) X.env = (false, eval e X.env) :: starEach es X.env := by rfl) (hpl : (backTo pos (starEach es X.env)).any (·.1) = false := by rfl) :
    PE X (.Call (.Name x p) (e :: es) [] pos) (tCall sp [] E0 t) := by
  obtain ⟨fd, F, b, kp⟩ := G.fn
  exact pe_call F hr hg G.gl kp b .nil passL ha hdb he hpl
/-- .. that may raise, the wish W -/
theorem pe_fS {E : L2.St → XK} (G : Keeps X.prog X.w X.K X.mg X.base (L2.CX X.prog X.w) x k ps sp) (hr : Room k X.A) (hg : Gl X x) (hx : ∀ σ, PassesAt (L2.CX X.prog X.w) X σ (E σ)) (ha : PA X (e :: es) t) (hdb : (x == ("__debug__" : Str)) = false := by decide)
    (he : starEach (e :: es) X.env = (false, eval e X.env) :: starEach es X.env := by rfl) (hpl : (backTo pos (starEach es X.env)).any (·.1) = false := by rfl) :
    PE X (.Call (.Name x p) (e :: es) [] pos) (tCallS sp E t) := by
  obtain ⟨fd, F, b, kp⟩ := G.fn
  exact pe_callS F hr hg G.gl kp b hx ha hdb he hpl
end
end RF

set_option Elab.async false
set_option linter.all false
set_option maxRecDepth 100000
set_option maxHeartbeats 4000000
namespace RF
open PySem PySem.Spec PyProof.Rows L2 Evl
structure Txt (K : PySem.W.Frag) (mg : Str → Option Value) : Prop where
  z_len : mg "len" = none
  z_range : mg "range" = none
  z_enumerate : mg "enumerate" = none
  z_reversed : mg "reversed" = none
  z_min : mg "min" = none
  z_max : mg "max" = none
  z_sum : mg "sum" = none
  z_sorted : mg "sorted" = none
  z_list : mg "list" = none
  z_set : mg "set" = none
  z_isinstance : mg "isinstance" = none
  z_int : mg "int" = none
  z_bool : mg "bool" = none
  z_tuple : mg "tuple" = none
  z_ValueError : mg "ValueError" = none
  x_NoWalk : PySem.W.excIn K (He.ga K "NoWalk") He.veBase "ValueError.__new__" = true
  g_NoWalk : mg "NoWalk" = some (.ref (He.ga K "NoWalk"))
  k_NoWalk : PySem.W.keepIn K (.ref (He.ga K "NoWalk")) = true
  b_NoWalk : PySem.W.subIn K (.ref (He.ga K "NoWalk")) (.type "BaseException") = some true
  t_NoWalk : PySem.W.typeIn K (.ref (He.ga K "NoWalk")) = some (.type "type")
  g_FloorError : mg "FloorError" = some (.ref (He.ga K "FloorError"))
  g_NoRound : mg "NoRound" = some (.ref (He.ga K "NoRound"))
  c_NoWalk : ExcC K (He.ga K "NoWalk")
  m_NoWalk : PySem.W.exmOne K (.ref (He.ga K "NoWalk")) (.ref (He.ga K "FloorError")) = some true
  i_NoWalk : PySem.W.kitOne K (.ref (He.ga K "NoWalk")) (.ref (He.ga K "NoWalk")) = some true
  i_ValueError : PySem.W.kitOne K (.ref (He.ga K "NoWalk")) (.type "ValueError") = some true
  i_NoRound : PySem.W.kitOne K (.ref (He.ga K "NoWalk")) (.ref (He.ga K "NoRound")) = some false
/-- a reading under a fact -/
def tOnly (P : Prop) (t : TS) : TS := fun D σ H => P ∧ t D σ H
theorem pss_only {X : Cx} {sts : List Stmt} {P : Prop} {t : TS} (h : P → PSs X sts t) : PSs X sts (tOnly P t) := ⟨fun pins s σ H D I hh => (h hh.1).run pins s σ H D I hh.2⟩
/-- raise C(..): E is wished -/
def tRaiseE (E : XK) (cls : Value) : TS := fun _ _ H => E cls none H
end RF

set_option Elab.async false
set_option linter.all false
set_option maxRecDepth 100000
set_option maxHeartbeats 1000000
namespace RF
/-! # Drawings: ends, mates, places, what stands behind -/
abbrev Dw := List (List Nat)
def mate (e : Nat) : Nat := if e % 2 = 0 then e + 1 else e - 1
theorem mate_mate (e : Nat) : mate (mate e) = e := by
  unfold mate
  split <;> split <;> omega
theorem mate_lt {e m : Nat} (h : e < 2 * m) : mate e < 2 * m := by
  unfold mate
  split <;> omega
theorem mate_ne (e : Nat) : mate e ≠ e := by
  unfold mate
  split <;> omega
theorem mate_div (e : Nat) : mate e / 2 = e / 2 := by
  unfold mate
  split <;> omega
theorem mate_inj {a b : Nat} (h : mate a = mate b) : a = b := by
  rw [← mate_mate a, h, mate_mate]
theorem of_div {a b : Nat} (h : a / 2 = b / 2) : a = b ∨ a = mate b := by
  unfold mate
  split <;> omega
theorem mate_int (e : Nat) : (e : Int) + 1 - 2 * ((e : Int) % 2) = ((mate e : Nat) : Int) := by
  unfold mate
  split <;> omega
structure Ok (D : Dw) (m : Nat) : Prop where
  nd : D.flatten.Nodup
  mem : ∀ e, e ∈ D.flatten ↔ e < 2 * m
def seat (D : Dw) (e : Nat) : Nat := D.findIdx fun r => decide (e ∈ r)
def rowOf (D : Dw) (e : Nat) : List Nat := D.getD (seat D e) []
def nxt (D : Dw) (e : Nat) : Nat := (rowOf D e).getD (((rowOf D e).idxOf e + 1) % (rowOf D e).length) 0
def stp (D : Dw) (e : Nat) : Nat := nxt D (mate e)
/-! ## lists of numbers, each once -/
theorem nodup_get {α : Type} {l : List α} (h : l.Nodup) {i j : Nat} {x : α} (a : l[i]? = some x) (b : l[j]? = some x) : i = j := by
  obtain ⟨h1, e1⟩ := List.getElem?_eq_some_iff.mp a
  obtain ⟨h2, e2⟩ := List.getElem?_eq_some_iff.mp b
  exact (List.getElem_inj h).mp (e1.trans e2.symm)
theorem idxOf_get {l : List Nat} (h : l.Nodup) {i x : Nat} (a : l[i]? = some x) : l.idxOf x = i := by
  obtain ⟨h1, e1⟩ := List.getElem?_eq_some_iff.mp a
  have hm : x ∈ l := e1 ▸ List.getElem_mem h1
  have hi : l.idxOf x < l.length := List.idxOf_lt_length_of_mem hm
  have : l[l.idxOf x]? = some x := by rw [List.getElem?_eq_getElem hi, List.getElem_idxOf hi]
  exact nodup_get h this a
theorem nodup_sub : ∀ {l l' : List Nat}, l.Nodup → (∀ x ∈ l, x ∈ l') → ∃ t, (l ++ t).Perm l'
  | [], l', _, _ => ⟨l', List.Perm.refl _⟩
  | x :: l, l', h, hs => by
    have hx : x ∈ l' := hs x List.mem_cons_self
    obtain ⟨t, ht⟩ := nodup_sub (l := l) (l' := l'.erase x) (List.nodup_cons.mp h).2 fun y hy =>
      (List.mem_erase_of_ne (show y ≠ x from fun e => (List.nodup_cons.mp h).1 (by rw [← e]; exact hy))).mpr (hs y (List.mem_cons_of_mem _ hy))
    exact ⟨t, (List.Perm.cons x ht).trans (List.perm_cons_erase hx).symm⟩
/-- fewer numbers than their bound -/
theorem nodup_bound {l : List Nat} {n : Nat} (h : l.Nodup) (hb : ∀ x ∈ l, x < n) : l.length ≤ n := by
  obtain ⟨t, ht⟩ := nodup_sub (l' := List.range n) h fun x hx => List.mem_range.mpr (hb x hx)
  have q := ht.length_eq
  rw [List.length_append, List.length_range] at q
  omega
theorem nodup_full {l : List Nat} {n : Nat} (h : l.Nodup) (hb : ∀ x ∈ l, x < n) (hl : l.length = n) : l.Perm (List.range n) := by
  obtain ⟨t, ht⟩ := nodup_sub (l' := List.range n) h fun x hx => List.mem_range.mpr (hb x hx)
  have q := ht.length_eq
  rw [List.length_append, List.length_range] at q
  have e : t = [] := List.eq_nil_of_length_eq_zero (by omega)
  rw [e, List.append_nil] at ht
  exact ht
theorem ok_of_nodup {D : Dw} {m : Nat} (h : D.flatten.Nodup) (hb : ∀ x ∈ D.flatten, x < 2 * m) (hl : D.flatten.length = 2 * m) : Ok D m :=
  ⟨h, fun e => by rw [(nodup_full h hb hl).mem_iff, List.mem_range]⟩
theorem ok_of_perm {D : Dw} {m : Nat} (h : D.flatten.Perm (List.range (2 * m))) : Ok D m :=
  ⟨h.nodup_iff.mpr List.nodup_range, fun e => by rw [h.mem_iff, List.mem_range]⟩
section
variable {D : Dw} {m : Nat}
theorem Ok.perm (h : Ok D m) : D.flatten.Perm (List.range (2 * m)) := by
  obtain ⟨t, ht⟩ := nodup_sub (l' := List.range (2 * m)) h.nd fun x hx => List.mem_range.mpr ((h.mem x).mp hx)
  obtain ⟨u, hu⟩ := nodup_sub (l' := D.flatten) (List.nodup_range (n := 2 * m)) fun x hx => (h.mem x).mpr (List.mem_range.mp hx)
  have q := ht.length_eq
  have q2 := hu.length_eq
  rw [List.length_append] at q q2
  have e : t = [] := List.eq_nil_of_length_eq_zero (by omega)
  rw [e, List.append_nil] at ht
  exact ht
theorem Ok.len (h : Ok D m) : D.flatten.length = 2 * m := by
  rw [h.perm.length_eq, List.length_range]
theorem row_mem {p e : Nat} {r : List Nat} (hr : D[p]? = some r) (he : e ∈ r) : e ∈ D.flatten := List.mem_flatten.mpr ⟨r, List.mem_of_getElem? hr, he⟩
theorem Ok.row_lt (h : Ok D m) {p e : Nat} {r : List Nat} (hr : D[p]? = some r) (he : e ∈ r) : e < 2 * m := (h.mem e).mp (row_mem hr he)
theorem flat_row_nodup : ∀ {D : Dw}, D.flatten.Nodup → ∀ {p : Nat} {r : List Nat}, D[p]? = some r → r.Nodup
  | [], _, p, r, hr => by simp at hr
  | r0 :: D, h, 0, r, hr => by
    have e : r0 = r := Option.some.inj hr
    rw [List.flatten_cons] at h
    exact e ▸ (List.nodup_append.mp h).1
  | r0 :: D, h, p + 1, r, hr => by
    rw [List.flatten_cons] at h
    exact flat_row_nodup (List.nodup_append.mp h).2.1 (p := p) hr
theorem flat_seat : ∀ {D : Dw}, D.flatten.Nodup → ∀ {p e : Nat} {r : List Nat}, D[p]? = some r → e ∈ r → seat D e = p
  | [], _, p, e, r, hr, _ => by simp at hr
  | r0 :: D, h, 0, e, r, hr, he => by
    have er : r0 = r := Option.some.inj hr
    unfold seat
    rw [List.findIdx_cons]
    simp [er, he]
  | r0 :: D, h, p + 1, e, r, hr, he => by
    rw [List.flatten_cons] at h
    have hn : e ∉ r0 := fun h0 => (List.nodup_append.mp h).2.2 e h0 e (List.mem_flatten.mpr ⟨r, List.mem_of_getElem? (i := p) hr, he⟩) rfl
    have ih := flat_seat (List.nodup_append.mp h).2.1 (p := p) hr he
    unfold seat at ih ⊢
    rw [List.findIdx_cons]
    simp [hn, ih]
theorem Ok.seat_of (h : Ok D m) {p e : Nat} {r : List Nat} (hr : D[p]? = some r) (he : e ∈ r) : seat D e = p := flat_seat h.nd hr he
theorem Ok.row_nd (h : Ok D m) {p : Nat} {r : List Nat} (hr : D[p]? = some r) : r.Nodup := flat_row_nodup h.nd hr
theorem Ok.row (h : Ok D m) {e : Nat} (he : e < 2 * m) : ∃ r, D[seat D e]? = some r ∧ e ∈ r := by
  obtain ⟨r, h1, h2⟩ := List.mem_flatten.mp ((h.mem e).mpr he)
  obtain ⟨p, hp⟩ := List.mem_iff_getElem?.mp h1
  rw [h.seat_of hp h2]
  exact ⟨r, hp, h2⟩
theorem Ok.rowOf (h : Ok D m) {p e : Nat} {r : List Nat} (hr : D[p]? = some r) (he : e ∈ r) : rowOf D e = r := by
  unfold RF.rowOf
  rw [h.seat_of hr he, List.getD_eq_getElem?_getD, hr]
  rfl
theorem Ok.seat_lt (h : Ok D m) {e : Nat} (he : e < 2 * m) : seat D e < D.length := by
  obtain ⟨r, h1, _⟩ := h.row he
  exact (List.getElem?_eq_some_iff.mp h1).1
theorem Ok.nxt_at (h : Ok D m) {p e i : Nat} {r : List Nat} (hr : D[p]? = some r) (hi : r[i]? = some e) : r[(i + 1) % r.length]? = some (nxt D e) := by
  have he : e ∈ r := List.mem_of_getElem? hi
  have hl : 0 < r.length := List.length_pos_of_mem he
  unfold nxt
  rw [h.rowOf hr he, idxOf_get (h.row_nd hr) hi, List.getD_eq_getElem?_getD, List.getElem?_eq_getElem (Nat.mod_lt _ hl)]
  rfl
theorem Ok.nxt_row (h : Ok D m) {p e : Nat} {r : List Nat} (hr : D[p]? = some r) (he : e ∈ r) : nxt D e ∈ r := by
  obtain ⟨i, hi⟩ := List.mem_iff_getElem?.mp he
  exact List.mem_of_getElem? (h.nxt_at hr hi)
theorem Ok.nxt_lt (h : Ok D m) {e : Nat} (he : e < 2 * m) : nxt D e < 2 * m := by
  obtain ⟨r, h1, h2⟩ := h.row he
  exact h.row_lt h1 (h.nxt_row h1 h2)
theorem Ok.seat_nxt (h : Ok D m) {e : Nat} (he : e < 2 * m) : seat D (nxt D e) = seat D e := by
  obtain ⟨r, h1, h2⟩ := h.row he
  exact h.seat_of h1 (h.nxt_row h1 h2)
theorem mod_succ_inj {n i j : Nat} (hi : i < n) (hj : j < n) (h : (i + 1) % n = (j + 1) % n) : i = j := by
  rcases Nat.lt_or_ge (i + 1) n with a | a
  · rw [Nat.mod_eq_of_lt a] at h
    rcases Nat.lt_or_ge (j + 1) n with b | b
    · rw [Nat.mod_eq_of_lt b] at h
      omega
    · have e : j + 1 = n := by omega
      rw [e, Nat.mod_self] at h
      omega
  · have e : i + 1 = n := by omega
    rw [e, Nat.mod_self] at h
    rcases Nat.lt_or_ge (j + 1) n with b | b
    · rw [Nat.mod_eq_of_lt b] at h
      omega
    · omega
theorem Ok.nxt_inj (h : Ok D m) {a b : Nat} (ha : a < 2 * m) (hb : b < 2 * m) (e : nxt D a = nxt D b) : a = b := by
  obtain ⟨r, h1, h2⟩ := h.row ha
  obtain ⟨r', h1', h2'⟩ := h.row hb
  have es : seat D a = seat D b := by rw [← h.seat_nxt ha, e, h.seat_nxt hb]
  rw [← es, h1] at h1'
  cases h1'
  obtain ⟨i, hi⟩ := List.mem_iff_getElem?.mp h2
  obtain ⟨j, hj⟩ := List.mem_iff_getElem?.mp h2'
  have a1 := h.nxt_at h1 hi
  have a2 := h.nxt_at h1 hj
  rw [e] at a1
  have q := mod_succ_inj (List.getElem?_eq_some_iff.mp hi).1 (List.getElem?_eq_some_iff.mp hj).1 (nodup_get (h.row_nd h1) a1 a2)
  rw [q, hj] at hi
  exact (Option.some.inj hi).symm
theorem Ok.stp_lt (h : Ok D m) {e : Nat} (he : e < 2 * m) : stp D e < 2 * m := h.nxt_lt (mate_lt he)
theorem Ok.stp_inj (h : Ok D m) {a b : Nat} (ha : a < 2 * m) (hb : b < 2 * m) (e : stp D a = stp D b) : a = b := mate_inj (h.nxt_inj (mate_lt ha) (mate_lt hb) e)
theorem Ok.seat_stp (h : Ok D m) {e : Nat} (he : e < 2 * m) : seat D (stp D e) = seat D (mate e) := h.seat_nxt (mate_lt he)
/-! ## going round a place -/
def itn (f : Nat → Nat) : Nat → Nat → Nat
  | 0, x => x
  | n + 1, x => itn f n (f x)
theorem Ok.itn_at (h : Ok D m) {p : Nat} {r : List Nat} (hr : D[p]? = some r) : ∀ {k i e : Nat}, r[i]? = some e → r[(i + k) % r.length]? = some (itn (nxt D) k e)
  | 0, i, e, hi => by
    rw [Nat.add_zero, Nat.mod_eq_of_lt (List.getElem?_eq_some_iff.mp hi).1]
    exact hi
  | k + 1, i, e, hi => by
    have ih := h.itn_at hr (k := k) (h.nxt_at hr hi)
    show r[(i + (k + 1)) % r.length]? = some (itn (nxt D) k (nxt D e))
    rw [← ih, Nat.mod_add_mod]
    congr 2
    omega
/-- b is met from x on, a not ahead of it -/
def Hit (nx : Nat → Nat) (a b n x : Nat) : Prop := ∃ k, k < n ∧ itn nx k x = b ∧ ∀ j, j < k → itn nx j x ≠ a
theorem Ok.hit (h : Ok D m) {a b : Nat} (ha : a < 2 * m) (hb : b < 2 * m) (e : seat D a = seat D b) : Hit (nxt D) a b (2 * m + 1) (nxt D a) := by
  obtain ⟨r, h1, h2⟩ := h.row ha
  obtain ⟨r', h1', h2'⟩ := h.row hb
  rw [← e, h1] at h1'
  cases h1'
  obtain ⟨i, hi⟩ := List.mem_iff_getElem?.mp h2
  obtain ⟨j, hj⟩ := List.mem_iff_getElem?.mp h2'
  have li := (List.getElem?_eq_some_iff.mp hi).1
  have lj := (List.getElem?_eq_some_iff.mp hj).1
  have hlen : r.length ≤ 2 * m := nodup_bound (h.row_nd h1) fun x hx => h.row_lt h1 hx
  have step : ∀ k, r[(i + 1 + k) % r.length]? = some (itn (nxt D) k (nxt D a)) := fun k => by
    have q := h.itn_at h1 (k := k + 1) hi
    rw [show i + 1 + k = i + (k + 1) by omega]
    exact q
  refine ⟨(j + r.length - (i + 1)) % r.length, ?_, ?_, fun k hk hq => ?_⟩
  · have := Nat.mod_lt (j + r.length - (i + 1)) (show 0 < r.length by omega)
    omega
  · have q := step ((j + r.length - (i + 1)) % r.length)
    have e2 : (i + 1 + (j + r.length - (i + 1)) % r.length) % r.length = j := by
      rw [Nat.add_mod_mod]
      rw [show i + 1 + (j + r.length - (i + 1)) = j + r.length by omega, Nat.add_mod_right, Nat.mod_eq_of_lt lj]
    rw [e2, hj] at q
    exact (Option.some.inj q).symm
  · have q := step k
    rw [hq] at q
    have e3 := nodup_get (h.row_nd h1) q hi
    have hk2 : k + 1 < r.length := by
      have := Nat.mod_lt (j + r.length - (i + 1)) (show 0 < r.length by omega)
      omega
    rcases Nat.lt_or_ge (i + 1 + k) r.length with z | z
    · rw [Nat.mod_eq_of_lt z] at e3
      omega
    · rw [Nat.mod_eq_sub_mod z, Nat.mod_eq_of_lt (by omega)] at e3
      omega
end
end RF

set_option Elab.async false
set_option linter.all false
set_option maxRecDepth 100000
set_option maxHeartbeats 1000000
namespace RF
/-! # Lands: the rings of steps -/
/-- from e on, till a seen one -/
def orb (st : Nat → Nat) : Nat → List Nat → Nat → List Nat
  | 0, _, _ => []
  | n + 1, S, e => if e ∈ S then [] else e :: orb st n (e :: S) (st e)
def orbs (st : Nat → Nat) (N : Nat) : List Nat → List Nat → List (List Nat)
  | [], _ => []
  | s :: ss, S => if s ∈ S then orbs st N ss S else orb st (N + 1) S s :: orbs st N ss ((orb st (N + 1) S s).reverse ++ S)
def lands (D : Dw) (m : Nat) : List (List Nat) := orbs (stp D) (2 * m) (List.range (2 * m)) [] ++ List.replicate (D.countP fun r => r.isEmpty) []
structure Stp (st : Nat → Nat) (N : Nat) : Prop where
  lt : ∀ e, e < N → st e < N
  inj : ∀ a b, a < N → b < N → st a = st b → a = b
theorem Ok.stp {D : Dw} {m : Nat} (h : Ok D m) : Stp (RF.stp D) (2 * m) := ⟨fun _ he => h.stp_lt he, fun _ _ ha hb e => h.stp_inj ha hb e⟩
/-- each one the step of the one ahead of it -/
def Chain (st : Nat → Nat) (l : List Nat) : Prop := ∀ i x y, l[i]? = some x → l[i + 1]? = some y → y = st x
/-- what is said of one ring: o, begun at s, behind the seen S -/
structure Ring (st : Nat → Nat) (N : Nat) (S : List Nat) (s : Nat) (o : List Nat) : Prop where
  head : o[0]? = some s
  nd : (o.reverse ++ S).Nodup
  lt : ∀ x ∈ o, x < N
  chain : Chain st o
  close : ∀ x ∈ o, st x ∈ o
  back : ∀ y, y < N → st y ∈ o.reverse ++ S → y ∈ o.reverse ++ S
section
variable {st : Nat → Nat} {N : Nat}
theorem last_get {l : List Nat} {x : Nat} (h : l[l.length - 1]? = some x) : l ≠ [] := fun e => by simp [e] at h
theorem orb_ring (hS : Stp st N) {S : List Nat} {s : Nat} (hs : s ∉ S) (bk : ∀ y, y < N → st y ∈ S → y ∈ S) (Slt : ∀ x ∈ S, x < N) : ∀ (n : Nat) (acc : List Nat) (e : Nat),
    e < N → (acc.reverse ++ S).Nodup → (∀ x ∈ acc, x < N) → Chain st acc → (acc = [] → e = s) → (∀ x, acc[acc.length - 1]? = some x → e = st x) → (acc ≠ [] → acc[0]? = some s) → N < n + (acc.reverse ++ S).length →
    Ring st N S s (acc ++ orb st n (acc.reverse ++ S) e)
  | n, acc, e, he, nd, lt, ch, e0, el, hd, hn => by
    have Tlt : ∀ x ∈ acc.reverse ++ S, x < N := fun x hx => (List.mem_append.mp hx).elim (fun q => lt x (List.mem_reverse.mp q)) (Slt x)
    have hb := nodup_bound nd Tlt
    obtain ⟨k, rfl⟩ : ∃ k, n = k + 1 := ⟨n - 1, by omega⟩
    unfold orb
    by_cases hm : e ∈ acc.reverse ++ S
    · rw [if_pos hm, List.append_nil]
      have ne : acc ≠ [] := fun z => by
        rw [z] at hm
        have := e0 z
        rw [this] at hm
        exact hs (by simpa using hm)
      have hlen : 0 < acc.length := List.length_pos_iff.mpr ne
      obtain ⟨z, hz⟩ : ∃ z, acc[acc.length - 1]? = some z := ⟨_, List.getElem?_eq_getElem (by omega)⟩
      have ez := el z hz
      have zm : z ∈ acc := List.mem_of_getElem? hz
      have es : e = s := by
        rcases List.mem_append.mp hm with q | q
        · obtain ⟨i, hi⟩ := List.mem_iff_getElem?.mp (List.mem_reverse.mp q)
          cases i with
          | zero =>
            rw [hd ne] at hi
            exact (Option.some.inj hi).symm
          | succ i =>
            have hi1 := (List.getElem?_eq_some_iff.mp hi).1
            obtain ⟨w, hw⟩ : ∃ w, acc[i]? = some w := ⟨_, List.getElem?_eq_getElem (by omega)⟩
            have e1 := ch i w e hw hi
            have e2 : w = z := hS.inj w z (lt w (List.mem_of_getElem? hw)) (lt z zm) (by rw [← e1, ← ez])
            rw [e2] at hw
            have nda : acc.Nodup := (List.reverse_perm acc).nodup_iff.mp (List.nodup_append.mp nd).1
            have := nodup_get nda hw hz
            omega
        · have q2 : z ∈ S := bk z (lt z zm) (by rw [← ez]; exact q)
          exact absurd rfl ((List.nodup_append.mp nd).2.2 z (List.mem_reverse.mpr zm) z q2)
      have close : ∀ x ∈ acc, st x ∈ acc := fun x hx => by
        obtain ⟨i, hi⟩ := List.mem_iff_getElem?.mp hx
        have hi1 := (List.getElem?_eq_some_iff.mp hi).1
        by_cases hl : i + 1 < acc.length
        · have q : acc[i + 1]? = some acc[i + 1] := List.getElem?_eq_getElem hl
          rw [← ch i x _ hi q]
          exact List.getElem_mem hl
        · have ei : i = acc.length - 1 := by omega
          rw [ei, hz] at hi
          rw [← Option.some.inj hi, ← ez, es]
          exact List.mem_of_getElem? (hd ne)
      refine ⟨hd ne, nd, lt, ch, close, fun y hy q => ?_⟩
      rcases List.mem_append.mp q with q | q
      · refine List.mem_append_left _ (List.mem_reverse.mpr ?_)
        obtain ⟨i, hi⟩ := List.mem_iff_getElem?.mp (List.mem_reverse.mp q)
        cases i with
        | zero =>
          rw [hd ne] at hi
          have e1 : st z = st y := by rw [← ez, es]; exact Option.some.inj hi
          rw [← hS.inj z y (lt z zm) hy e1]
          exact zm
        | succ i =>
          have hi1 := (List.getElem?_eq_some_iff.mp hi).1
          obtain ⟨w, hw⟩ : ∃ w, acc[i]? = some w := ⟨_, List.getElem?_eq_getElem (by omega)⟩
          have e1 := ch i w _ hw hi
          rw [hS.inj y w hy (lt w (List.mem_of_getElem? hw)) e1]
          exact List.mem_of_getElem? hw
      · exact List.mem_append_right _ (bk y hy q)
    · rw [if_neg hm]
      have r := orb_ring hS hs bk Slt k (acc ++ [e]) (st e) (hS.lt e he)
        (by
          rw [List.reverse_append]
          exact List.nodup_cons.mpr ⟨hm, nd⟩)
        (fun x hx => (List.mem_append.mp hx).elim (lt x) fun q => by rw [List.mem_singleton.mp q]; exact he)
        (fun i x y hx hy => by
          have hi1 := (List.getElem?_eq_some_iff.mp hy).1
          rw [List.length_append, List.length_singleton] at hi1
          rw [List.getElem?_append_left (by omega)] at hx
          by_cases hl : i + 1 < acc.length
          · rw [List.getElem?_append_left hl] at hy
            exact ch i x y hx hy
          · have ei : i + 1 = acc.length := by omega
            rw [List.getElem?_append_right (by omega), ei, Nat.sub_self] at hy
            have ey : e = y := Option.some.inj hy
            rw [← ey]
            refine el x ?_
            rw [← ei]
            exact hx)
        (fun z => by simp at z)
        (fun x hx => by
          rw [List.length_append, List.length_singleton, Nat.add_sub_cancel, List.getElem?_append_right (Nat.le_refl _), Nat.sub_self] at hx
          rw [← Option.some.inj hx])
        (fun _ => by
          cases acc with
          | nil => rw [e0 rfl]; rfl
          | cons a r => exact hd (List.cons_ne_nil _ _))
        (by
          rw [List.reverse_append]
          simp at hn ⊢
          omega)
      rw [List.append_assoc, List.reverse_append] at r
      exact r
theorem orb_ring0 (hS : Stp st N) {S : List Nat} {s : Nat} (hs : s ∉ S) (hsl : s < N) (bk : ∀ y, y < N → st y ∈ S → y ∈ S) (Slt : ∀ x ∈ S, x < N) (nd : S.Nodup) : Ring st N S s (orb st (N + 1) S s) :=
  orb_ring hS hs bk Slt (N + 1) [] s hsl nd (fun x hx => by cases hx) (fun i x y hx _ => by simp at hx) (fun _ => rfl) (fun x hx => by simp at hx) (fun z => absurd rfl z) (by simp; omega)
structure Rings (st : Nat → Nat) (N : Nat) (S : List Nat) (L : List (List Nat)) : Prop where
  nd : (L.flatten ++ S).Nodup
  lt : ∀ l ∈ L, ∀ x ∈ l, x < N
  ne : ∀ l ∈ L, l ≠ []
  chain : ∀ l ∈ L, Chain st l
  close : ∀ l ∈ L, ∀ x ∈ l, st x ∈ l
theorem orbs_rings (hS : Stp st N) : ∀ (ss S : List Nat), (∀ s ∈ ss, s < N) → (∀ y, y < N → st y ∈ S → y ∈ S) → (∀ x ∈ S, x < N) → S.Nodup →
    Rings st N S (orbs st N ss S) ∧ ∀ s ∈ ss, s ∈ (orbs st N ss S).flatten ++ S
  | [], S, _, _, _, nd => ⟨⟨by simpa [orbs] using nd, fun l hl => by simp [orbs] at hl, fun l hl => by simp [orbs] at hl, fun l hl => by simp [orbs] at hl, fun l hl => by simp [orbs] at hl⟩, fun s hs => by cases hs⟩
  | s :: ss, S, hlt, bk, Slt, nd => by
    unfold orbs
    by_cases hm : s ∈ S
    · rw [if_pos hm]
      obtain ⟨r, q⟩ := orbs_rings hS ss S (fun x hx => hlt x (List.mem_cons_of_mem _ hx)) bk Slt nd
      refine ⟨r, fun x hx => ?_⟩
      rcases List.mem_cons.mp hx with e | hx
      · rw [e]
        exact List.mem_append_right _ hm
      · exact q x hx
    · rw [if_neg hm]
      have R := orb_ring0 hS hm (hlt s List.mem_cons_self) bk Slt nd
      obtain ⟨r, q⟩ := orbs_rings hS ss ((orb st (N + 1) S s).reverse ++ S) (fun x hx => hlt x (List.mem_cons_of_mem _ hx)) R.back
        (fun x hx => (List.mem_append.mp hx).elim (fun z => R.lt x (List.mem_reverse.mp z)) (Slt x)) R.nd
      generalize hL : orbs st N ss ((orb st (N + 1) S s).reverse ++ S) = L at r q
      generalize ho : orb st (N + 1) S s = o at R r q
      have mem_iff : ∀ x, x ∈ (o :: L).flatten ++ S ↔ x ∈ L.flatten ++ (o.reverse ++ S) := fun x => by
        rw [List.flatten_cons]
        simp only [List.mem_append, List.mem_reverse]
        constructor
        · rintro ((h | h) | h)
          · exact .inr (.inl h)
          · exact .inl h
          · exact .inr (.inr h)
        · rintro (h | h | h)
          · exact .inl (.inr h)
          · exact .inl (.inl h)
          · exact .inr h
      have hone : ∀ {l : List Nat}, l ∈ o :: L → l = o ∨ l ∈ L := fun h => List.mem_cons.mp h
      have p : ((o :: L).flatten ++ S).Perm (L.flatten ++ (o.reverse ++ S)) := by
        rw [List.flatten_cons, List.append_assoc]
        refine (List.perm_append_comm_assoc o L.flatten S).trans ?_
        exact List.Perm.append_left _ (List.Perm.append_right _ (List.reverse_perm o).symm)
      refine ⟨⟨p.nodup_iff.mpr r.nd, fun l hl => (hone hl).elim (fun e => by rw [e]; exact R.lt) (r.lt l), fun l hl => (hone hl).elim (fun e => by
          rw [e]
          intro z
          have h := R.head
          rw [z] at h
          cases h) (r.ne l), fun l hl => (hone hl).elim (fun e => by rw [e]; exact R.chain) (r.chain l), fun l hl => (hone hl).elim (fun e => by rw [e]; exact R.close) (r.close l)⟩, fun x hx => ?_⟩
      rw [mem_iff]
      rcases List.mem_cons.mp hx with e | hx
      · rw [e]
        exact List.mem_append_right _ (List.mem_append_left _ (List.mem_reverse.mpr (List.mem_of_getElem? R.head)))
      · exact q x hx
end
theorem flat_replicate (k : Nat) : (List.replicate k ([] : List Nat)).flatten = [] := by
  induction k with
  | zero => rfl
  | succ k ih => rw [List.replicate_succ, List.flatten_cons, ih, List.append_nil]
/-- what is said of all lands -/
structure Lands (D : Dw) (m : Nat) (L : List (List Nat)) : Prop where
  nd : L.flatten.Nodup
  mem : ∀ e, e ∈ L.flatten ↔ e < 2 * m
  chain : ∀ l ∈ L, Chain (stp D) l
  close : ∀ l ∈ L, ∀ x ∈ l, stp D x ∈ l
theorem Ok.lands {D : Dw} {m : Nat} (h : Ok D m) : Lands D m (lands D m) := by
  obtain ⟨r, q⟩ := orbs_rings h.stp (List.range (2 * m)) [] (fun s hs => List.mem_range.mp hs) (fun y _ z => by cases z) (fun x hx => by cases hx) List.nodup_nil
  have one : ∀ l ∈ RF.lands D m, l ∈ orbs (RF.stp D) (2 * m) (List.range (2 * m)) [] ∨ l = [] := fun l hl => (List.mem_append.mp hl).imp id fun z => List.eq_of_mem_replicate z
  have fl : (RF.lands D m).flatten = (orbs (RF.stp D) (2 * m) (List.range (2 * m)) []).flatten := by
    unfold RF.lands
    rw [List.flatten_append, flat_replicate, List.append_nil]
  refine ⟨?_, fun e => ?_, fun l hl => (one l hl).elim (r.chain l) fun z => ?_, fun l hl => (one l hl).elim (r.close l) fun z => ?_⟩
  · rw [fl]
    simpa using r.nd
  · rw [fl]
    constructor
    · intro he
      obtain ⟨l, h1, h2⟩ := List.mem_flatten.mp he
      exact r.lt l h1 e h2
    · intro he
      have := q e (List.mem_range.mpr he)
      simpa using this
  · rw [z]
    intro i x y hx
    simp at hx
  · rw [z]
    intro x hx
    cases hx
/-- the land of an end -/
theorem Lands.of {D : Dw} {m : Nat} {L : List (List Nat)} (h : Lands D m L) {e : Nat} (he : e < 2 * m) : ∃ (i : Nat) (l : List Nat), L[i]? = some l ∧ e ∈ l := by
  obtain ⟨l, h1, h2⟩ := List.mem_flatten.mp ((h.mem e).mpr he)
  obtain ⟨i, hi⟩ := List.mem_iff_getElem?.mp h1
  exact ⟨i, l, hi, h2⟩
theorem Lands.lt {D : Dw} {m : Nat} {L : List (List Nat)} (h : Lands D m L) {i e : Nat} {l : List Nat} (hi : L[i]? = some l) (he : e ∈ l) : e < 2 * m := (h.mem e).mp (row_mem hi he)
theorem Lands.one {D : Dw} {m : Nat} {L : List (List Nat)} (h : Lands D m L) {i j e : Nat} {l k : List Nat} (hi : L[i]? = some l) (he : e ∈ l) (hj : L[j]? = some k) (hk : e ∈ k) : i = j := by
  rw [← flat_seat h.nd hi he, flat_seat h.nd hj hk]
/-- what the step keeps is one over a land -/
theorem Lands.same {D : Dw} {m : Nat} {L : List (List Nat)} (h : Lands D m L) {α : Type} {f : Nat → α} (hf : ∀ e, e < 2 * m → f (stp D e) = f e) {i : Nat} {l : List Nat} (hi : L[i]? = some l) {a b : Nat} (ha : a ∈ l) (hb : b ∈ l) : f a = f b := by
  have first : ∀ (k x : Nat), l[k]? = some x → ∃ y, l[0]? = some y ∧ f x = f y := by
    intro k
    induction k with
    | zero => exact fun x hx => ⟨x, hx, rfl⟩
    | succ k ih =>
      intro x hx
      have hk := (List.getElem?_eq_some_iff.mp hx).1
      obtain ⟨y, hy, e⟩ := ih l[k] (List.getElem?_eq_getElem (by omega))
      refine ⟨y, hy, ?_⟩
      have c := h.chain l (List.mem_of_getElem? hi) k l[k] x (List.getElem?_eq_getElem (by omega)) hx
      rw [c, hf _ (h.lt hi (List.getElem_mem (by omega))), e]
  obtain ⟨i1, h1⟩ := List.mem_iff_getElem?.mp ha
  obtain ⟨i2, h2⟩ := List.mem_iff_getElem?.mp hb
  obtain ⟨y1, q1, e1⟩ := first i1 a h1
  obtain ⟨y2, q2, e2⟩ := first i2 b h2
  rw [q1] at q2
  rw [e1, e2, Option.some.inj q2]
end RF

set_option Elab.async false
set_option linter.all false
set_option maxRecDepth 100000
set_option maxHeartbeats 1000000
namespace RF
/-! # Walks: visits, left counts, fillings -/
def prevs (W : List Nat) : List Nat := match W.getLast? with
  | none => []
  | some z => z :: W.dropLast
def visits (W : List Nat) : List (Nat × Nat) := (prevs W).zip W
theorem prevs_of {W : List Nat} {z : Nat} (h : W.getLast? = some z) : prevs W = z :: W.dropLast := by
  unfold prevs
  rw [h]
theorem prevs_count (W : List Nat) (y : Nat) : (prevs W).count y = W.count y := by
  cases e : W.getLast? with
  | none =>
    rw [List.getLast?_eq_none_iff.mp e]
    rfl
  | some z =>
    have q : W = W.dropLast ++ [z] := by
      obtain ⟨ys, hy⟩ := List.getLast?_eq_some_iff.mp e
      rw [hy]
      simp
    rw [prevs_of e]
    conv => rhs; rw [q]
    rw [List.count_append, List.count_cons, List.count_cons, List.count_nil]
    omega
theorem prevs_length (W : List Nat) : (prevs W).length = W.length := by
  cases e : W.getLast? with
  | none =>
    rw [List.getLast?_eq_none_iff.mp e]
    rfl
  | some z =>
    rw [prevs_of e]
    obtain ⟨ys, hy⟩ := List.getLast?_eq_some_iff.mp e
    rw [hy]
    simp
theorem prevs_get {W : List Nat} {i : Nat} (h : i < W.length) : (prevs W)[i]? = W[if i = 0 then W.length - 1 else i - 1]? := by
  cases e : W.getLast? with
  | none =>
    rw [List.getLast?_eq_none_iff.mp e] at h
    cases h
  | some z =>
    rw [prevs_of e]
    cases i with
    | zero =>
      rw [if_pos rfl, ← List.getLast?_eq_getElem?, e]
      rfl
    | succ i =>
      rw [if_neg (by omega), Nat.add_sub_cancel]
      show W.dropLast[i]? = W[i]?
      rw [List.getElem?_dropLast, if_pos (by omega)]
theorem visits_length (W : List Nat) : (visits W).length = W.length := by
  unfold visits
  rw [List.length_zip, prevs_length, Nat.min_self]
theorem visits_get {W : List Nat} {i : Nat} {p g : Nat} (h : (visits W)[i]? = some (p, g)) : W[i]? = some g ∧ W[if i = 0 then W.length - 1 else i - 1]? = some p := by
  have hi : i < W.length := by
    rw [← visits_length]
    exact (List.getElem?_eq_some_iff.mp h).1
  unfold visits at h
  rw [List.getElem?_zip_eq_some, prevs_get hi] at h
  exact ⟨h.2, h.1⟩
theorem visits_at {W : List Nat} {i : Nat} {p g : Nat} (h1 : W[i]? = some g) (h2 : W[if i = 0 then W.length - 1 else i - 1]? = some p) : (visits W)[i]? = some (p, g) := by
  have hi : i < W.length := (List.getElem?_eq_some_iff.mp h1).1
  unfold visits
  rw [List.getElem?_zip_eq_some, prevs_get hi]
  exact ⟨h2, h1⟩
/-- a walk -/
structure WalkN (D : Dw) (m : Nat) (W : List Nat) : Prop where
  lt : ∀ e ∈ W, e < 2 * m
  on : ∀ v ∈ visits W, seat D (mate v.1) = seat D v.2
theorem visits_mem {W : List Nat} {v : Nat × Nat} (h : v ∈ visits W) : v.1 ∈ W ∧ v.2 ∈ W := by
  obtain ⟨i, hi⟩ := List.mem_iff_getElem?.mp h
  obtain ⟨p, g⟩ := v
  obtain ⟨h1, h2⟩ := visits_get hi
  exact ⟨List.mem_of_getElem? h2, List.mem_of_getElem? h1⟩
/-! ## left counts -/
def bump (c : Nat → Int) (x : Nat) : Nat → Int := fun y => if y = x then c y + 1 else c y
def spin (nx : Nat → Nat) (a b : Nat) : Nat → Nat → (Nat → Int) → (Nat → Int)
  | 0, _, c => c
  | n + 1, x, c => if x = b ∨ x = a then c else spin nx a b n (nx x) (bump c x)
def LFs (D : Dw) (n : Nat) (vs : List (Nat × Nat)) (c : Nat → Int) : Nat → Int := vs.foldl (fun c v => spin (nxt D) (mate v.1) v.2 n (nxt D (mate v.1)) c) c
def LF (D : Dw) (m : Nat) (W : List Nat) : Nat → Int := LFs D (2 * m + 1) (visits W) fun _ => 0
def one (p : Prop) [Decidable p] : Int := if p then 1 else 0
theorem one_congr {p q : Prop} [Decidable p] [Decidable q] (h : p ↔ q) : one p = one q := by
  unfold one
  by_cases hp : p
  · rw [if_pos hp, if_pos (h.mp hp)]
  · rw [if_neg hp, if_neg fun z => hp (h.mpr z)]
theorem bump_one (c : Nat → Int) (x y : Nat) : bump c x y = c y + one (y = x) := by
  unfold bump one
  split
  · rfl
  · rw [Int.add_zero]
theorem count_one (a b : Nat) (l : List Nat) : ((List.count a (b :: l) : Nat) : Int) = ((List.count a l : Nat) : Int) + one (a = b) := by
  rw [List.count_cons]
  unfold one
  by_cases h : a = b
  · rw [if_pos h, h, if_pos (beq_self_eq_true b)]
    omega
  · rw [if_neg h, if_neg (by simpa using fun z => h z.symm)]
    omega
section
variable {D : Dw} {m : Nat}
theorem Hit.next {nx : Nat → Nat} {a b n x : Nat} (h : Hit nx a b (n + 1) x) (hb : x ≠ b) : x ≠ a ∧ Hit nx a b n (nx x) := by
  obtain ⟨k, hk, e, hj⟩ := h
  cases k with
  | zero => exact absurd e hb
  | succ k => exact ⟨hj 0 (by omega), k, by omega, e, fun j hjk => hj (j + 1) (by omega)⟩
theorem Hit.pos {nx : Nat → Nat} {a b n x : Nat} (h : Hit nx a b n x) : 0 < n := by
  obtain ⟨k, hk, _⟩ := h
  omega
theorem spin_id (h : Ok D m) {a b : Nat} {F G : Nat → Int} : ∀ {n x : Nat} {c : Nat → Int}, x < 2 * m → Hit (nxt D) a b n x →
    (∀ e, e < 2 * m → c (nxt D e) + F e + one (nxt D e = x) = c e + G e) → ∀ e, e < 2 * m → (spin (nxt D) a b n x c) (nxt D e) + F e + one (nxt D e = b) = (spin (nxt D) a b n x c) e + G e
  | 0, x, c, _, hit, _ => absurd hit.pos (by omega)
  | n + 1, x, c, hx, hit, hc => by
    unfold spin
    by_cases hb : x = b
    · rw [if_pos (.inl hb), ← hb]
      exact hc
    · obtain ⟨ha, hn⟩ := hit.next hb
      rw [if_neg (by rintro (z | z) <;> contradiction)]
      refine spin_id h (h.nxt_lt hx) hn fun e he => ?_
      have q := hc e he
      have q2 : one (nxt D e = nxt D x) = one (e = x) := one_congr ⟨fun w => h.nxt_inj he hx w, fun z => by rw [z]⟩
      rw [q2, bump_one, bump_one]
      omega
theorem spin_out (h : Ok D m) {a b : Nat} {y : Nat} : ∀ {n x : Nat} {c : Nat → Int}, x < 2 * m → seat D y ≠ seat D x → (spin (nxt D) a b n x c) y = c y
  | 0, x, c, _, _ => rfl
  | n + 1, x, c, hx, hy => by
    unfold spin
    split
    · rfl
    · rw [spin_out h (h.nxt_lt hx) (by rw [h.seat_nxt hx]; exact hy)]
      unfold bump
      rw [if_neg fun z => hy (by rw [z])]
theorem LFs_id (h : Ok D m) : ∀ {vs : List (Nat × Nat)} {c : Nat → Int} {F G : Nat → Int}, (∀ v ∈ vs, v.1 < 2 * m ∧ v.2 < 2 * m ∧ seat D (mate v.1) = seat D v.2) →
    (∀ e, e < 2 * m → c (nxt D e) + F e = c e + G e) → ∀ e, e < 2 * m → LFs D (2 * m + 1) vs c (nxt D e) + (F e + ((vs.map (·.2)).count (nxt D e) : Nat)) = LFs D (2 * m + 1) vs c e + (G e + ((vs.map fun v => mate v.1).count e : Nat))
  | [], c, F, G, _, hc => fun e he => by
    have q := hc e he
    show c (nxt D e) + (F e + ((0 : Nat) : Int)) = c e + (G e + ((0 : Nat) : Int))
    omega
  | v :: vs, c, F, G, hv, hc => by
    obtain ⟨v1, v2, v3⟩ := hv v List.mem_cons_self
    have q := LFs_id h (vs := vs) (c := spin (nxt D) (mate v.1) v.2 (2 * m + 1) (nxt D (mate v.1)) c) (F := fun e => F e + one (nxt D e = v.2)) (G := fun e => G e + one (e = mate v.1)) (fun w hw => hv w (List.mem_cons_of_mem _ hw))
      (fun e he => by
        have r := spin_id h (F := F) (G := fun e => G e + one (e = mate v.1)) (h.nxt_lt (mate_lt v1)) (h.hit (mate_lt v1) v2 v3) (c := c) (fun e he => by
          have r0 := hc e he
          have r1 : one (nxt D e = nxt D (mate v.1)) = one (e = mate v.1) := one_congr ⟨fun w => h.nxt_inj he (mate_lt v1) w, fun z => by rw [z]⟩
          rw [r1]
          show _ = c e + (G e + _)
          omega) e he
        omega)
    intro e he
    have q1 := q e he
    show LFs D (2 * m + 1) vs (spin (nxt D) (mate v.1) v.2 (2 * m + 1) (nxt D (mate v.1)) c) (nxt D e) + _ = LFs D (2 * m + 1) vs (spin (nxt D) (mate v.1) v.2 (2 * m + 1) (nxt D (mate v.1)) c) e + _
    rw [List.map_cons, List.map_cons, count_one, count_one]
    omega
theorem LFs_out (h : Ok D m) {y : Nat} {n : Nat} : ∀ {vs : List (Nat × Nat)} {c : Nat → Int}, (∀ v ∈ vs, v.1 < 2 * m ∧ seat D (mate v.1) ≠ seat D y) → LFs D n vs c y = c y
  | [], c, _ => rfl
  | v :: vs, c, hv => by
    obtain ⟨v1, v2⟩ := hv v List.mem_cons_self
    show LFs D n vs (spin (nxt D) (mate v.1) v.2 n (nxt D (mate v.1)) c) y = c y
    rw [LFs_out h fun w hw => hv w (List.mem_cons_of_mem _ hw)]
    exact spin_out h (h.nxt_lt (mate_lt v1)) (by rw [h.seat_nxt (mate_lt v1)]; exact fun z => v2 z.symm)
theorem visits_snd (W : List Nat) : (visits W).map (·.2) = W := by
  unfold visits
  have := List.map_snd_zip (l₁ := prevs W) (l₂ := W) (by rw [prevs_length]; exact Nat.le_refl _)
  exact this
theorem visits_fst (W : List Nat) : (visits W).map (fun v => mate v.1) = (prevs W).map mate := by
  have := List.map_fst_zip (l₁ := prevs W) (l₂ := W) (by rw [prevs_length]; exact Nat.le_refl _)
  unfold visits
  rw [← this, List.map_map, this]
  rfl
theorem count_mate : ∀ (l : List Nat) (e : Nat), (l.map mate).count e = l.count (mate e)
  | [], e => rfl
  | x :: l, e => by
    rw [List.map_cons, List.count_cons, List.count_cons, count_mate l e]
    congr 1
    have : (mate x == e) = (x == mate e) := by
      rw [Bool.eq_iff_iff]
      simp only [beq_iff_eq]
      exact ⟨fun z => by rw [← z, mate_mate], fun z => by rw [z, mate_mate]⟩
    rw [this]
theorem LF_id (h : Ok D m) {W : List Nat} (w : WalkN D m W) {e : Nat} (he : e < 2 * m) : LF D m W (nxt D e) + (W.count (nxt D e) : Nat) = LF D m W e + (W.count (mate e) : Nat) := by
  have q := LFs_id h (vs := visits W) (c := fun _ => 0) (F := fun _ => 0) (G := fun _ => 0) (fun v hv => ⟨w.lt _ (visits_mem hv).1, w.lt _ (visits_mem hv).2, w.on v hv⟩) (fun _ _ => rfl) e he
  rw [visits_snd, visits_fst, count_mate, prevs_count] at q
  show LFs D (2 * m + 1) (visits W) (fun _ => 0) (nxt D e) + _ = LFs D (2 * m + 1) (visits W) (fun _ => 0) e + _
  omega
theorem LF_out (h : Ok D m) {W : List Nat} (w : WalkN D m W) {y : Nat} (hy : ∀ g ∈ W, seat D g ≠ seat D y) : LF D m W y = 0 :=
  LFs_out h fun v hv => ⟨w.lt _ (visits_mem hv).1, by rw [w.on v hv]; exact hy _ (visits_mem hv).2⟩
/-! ## fillings -/
/-- numbers on the ends, one over each land, that fill the walk -/
structure Fill (D : Dw) (m : Nat) (W : List Nat) (N : Nat → Int) : Prop where
  land : ∀ e, e < 2 * m → N (stp D e) = N e
  net : ∀ e, e < 2 * m → N e - N (mate e) = (W.count e : Int) - (W.count (mate e) : Int)
def CL (D : Dw) (m : Nat) (W : List Nat) (e : Nat) : Int := LF D m W e - LF D m W (mate e)
theorem CL_mate (W : List Nat) (e : Nat) : CL D m W (mate e) = - CL D m W e := by
  unfold CL
  rw [mate_mate]
  omega
theorem fill_of_pot (h : Ok D m) {W : List Nat} (w : WalkN D m W) {φ : Nat → Int} (hp : ∀ e, e < 2 * m → CL D m W e = φ (seat D (mate e)) - φ (seat D e)) :
    Fill D m W fun e => LF D m W e + (W.count e : Nat) + φ (seat D e) := by
  refine ⟨fun e he => ?_, fun e he => ?_⟩
  · have q := LF_id h w (mate_lt he)
    have p := hp e he
    rw [mate_mate] at q
    unfold CL at p
    show LF D m W (nxt D (mate e)) + _ + φ (seat D (stp D e)) = _
    rw [h.seat_stp he]
    show LF D m W (nxt D (mate e)) + ((W.count (nxt D (mate e)) : Nat) : Int) + _ = _
    omega
  · have p := hp e he
    unfold CL at p
    omega
end
end RF

set_option Elab.async false
set_option linter.all false
set_option maxRecDepth 100000
set_option maxHeartbeats 1000000
namespace RF
/-! # Trees of places, rounds along ends that are not in the tree -/
/-- from p along l to q -/
def Path (D : Dw) : Nat → List Nat → Nat → Prop
  | p, [], q => p = q
  | p, x :: l, q => seat D x = p ∧ Path D (seat D (mate x)) l q
section
variable {D : Dw} {m : Nat}
theorem Path.append : ∀ {l : List Nat} {k : List Nat} {p q r : Nat}, Path D p l q → Path D q k r → Path D p (l ++ k) r
  | [], k, p, q, r, h, h2 => by
    have e : p = q := h
    rw [e]
    exact h2
  | x :: l, k, p, q, r, h, h2 => ⟨h.1, Path.append h.2 h2⟩
theorem Path.split : ∀ {l k : List Nat} {p r : Nat}, Path D p (l ++ k) r → ∃ q, Path D p l q ∧ Path D q k r
  | [], k, p, r, h => ⟨p, rfl, h⟩
  | x :: l, k, p, r, h => by
    obtain ⟨q, h1, h2⟩ := Path.split (l := l) h.2
    exact ⟨q, ⟨h.1, h1⟩, h2⟩
theorem Path.back : ∀ {l : List Nat} {p q : Nat}, Path D p l q → Path D q (l.reverse.map mate) p
  | [], p, q, h => by
    have e : p = q := h
    rw [e]
    exact rfl
  | x :: l, p, q, h => by
    rw [List.reverse_cons, List.map_append]
    refine Path.append (Path.back h.2) ?_
    refine ⟨rfl, ?_⟩
    show seat D (mate (mate x)) = p
    rw [mate_mate]
    exact h.1
theorem Path.first : ∀ {l : List Nat} {p q x : Nat}, Path D p l q → l[0]? = some x → seat D x = p
  | [], p, q, x, _, hx => by cases hx
  | y :: l, p, q, x, h, hx => by
    rw [← Option.some.inj hx]
    exact h.1
theorem Path.last : ∀ {l : List Nat} {p q x : Nat}, Path D p l q → l[l.length - 1]? = some x → seat D (mate x) = q
  | [], p, q, x, _, hx => by cases hx
  | [y], p, q, x, h, hx => by
    rw [← Option.some.inj hx]
    exact h.2
  | y :: z :: l, p, q, x, h, hx => Path.last (l := z :: l) h.2 (by simpa using hx)
theorem Path.mid : ∀ {l : List Nat} {i p q x y : Nat}, Path D p l q → l[i]? = some x → l[i + 1]? = some y → seat D y = seat D (mate x)
  | [], i, p, q, x, y, _, hx, _ => by cases hx
  | a :: l, 0, p, q, x, y, h, hx, hy => by
    rw [← Option.some.inj hx]
    exact Path.first (l := l) h.2 hy
  | a :: l, i + 1, p, q, x, y, h, hx, hy => Path.mid (l := l) (i := i) h.2 hx hy
theorem Path.walk {l : List Nat} {p : Nat} (h : Path D p l p) (hl : ∀ e ∈ l, e < 2 * m) : WalkN D m l := by
  refine ⟨hl, fun v hv => ?_⟩
  obtain ⟨i, hi⟩ := List.mem_iff_getElem?.mp hv
  obtain ⟨a, b⟩ := v
  obtain ⟨h1, h2⟩ := visits_get hi
  cases i with
  | zero =>
    rw [if_pos rfl] at h2
    rw [h.last h2, h.first h1]
  | succ i =>
    rw [if_neg (by omega), Nat.add_sub_cancel] at h2
    exact (h.mid h2 h1).symm
theorem Path.seats : ∀ {l : List Nat} {p q : Nat}, Path D p l q → p :: l.map (fun x => seat D (mate x)) = l.map (seat D) ++ [q]
  | [], p, q, h => by
    have e : p = q := h
    rw [e]
    rfl
  | x :: l, p, q, h => by
    rw [List.map_cons, List.map_cons, List.cons_append, ← Path.seats h.2, h.1]
/-! ## trees -/
structure Tree (D : Dw) (m root : Nat) (T : List (Nat × Int)) : Prop where
  nd : (T.map (·.1)).Nodup
  head : T[0]? = some (root, -1)
  par : ∀ (i p : Nat) (z : Int), T[i + 1]? = some (p, z) → ∃ t : Nat, z = (t : Int) ∧ t < 2 * m ∧ seat D t = p ∧ ∃ (j : Nat) (z' : Int), j ≤ i ∧ T[j]? = some (seat D (mate t), z')
  lt : ∀ q ∈ T, q.1 < D.length
def Clo (D : Dw) (T : List (Nat × Int)) (p : Nat) : Prop := ∀ r, D[p]? = some r → ∀ e ∈ r, seat D (mate e) ∈ T.map (·.1)
inductive Way (D : Dw) (T : List (Nat × Int)) : Nat → List Nat → Prop
  | root {p : Nat} : T.lookup p = some (-1) → Way D T p []
  | step {p t : Nat} {l : List Nat} : T.lookup p = some (t : Int) → Way D T (seat D (mate t)) l → Way D T p (t :: l)
theorem look_at : ∀ {T : List (Nat × Int)} {i p : Nat} {z : Int}, (T.map (·.1)).Nodup → T[i]? = some (p, z) → T.lookup p = some z
  | [], i, p, z, _, h => by simp at h
  | q :: T, 0, p, z, _, h => by
    have e : q = (p, z) := Option.some.inj h
    rw [e]
    simp [List.lookup]
  | q :: T, i + 1, p, z, nd, h => by
    have hn : (p == q.1) = false := by
      rw [beq_eq_false_iff_ne]
      intro e
      rw [List.map_cons] at nd
      refine (List.nodup_cons.mp nd).1 ?_
      rw [← e]
      exact List.mem_map.mpr ⟨(p, z), List.mem_of_getElem? (i := i) h, rfl⟩
    obtain ⟨a, b⟩ := q
    show (match p == a with | true => some b | false => T.lookup p) = some z
    rw [show (p == a) = false from hn]
    rw [List.map_cons] at nd
    exact look_at (List.nodup_cons.mp nd).2 (i := i) h
theorem at_look : ∀ {T : List (Nat × Int)} {p : Nat} {z : Int}, T.lookup p = some z → ∃ i : Nat, T[i]? = some (p, z)
  | [], p, z, h => by cases h
  | (a, b) :: T, p, z, h => by
    have h2 : (match p == a with | true => some b | false => T.lookup p) = some z := h
    cases e : (p == a) with
    | true =>
      rw [e] at h2
      rw [beq_iff_eq.mp e]
      exact ⟨0, by rw [← Option.some.inj h2]; rfl⟩
    | false =>
      rw [e] at h2
      obtain ⟨i, hi⟩ := at_look (T := T) h2
      exact ⟨i + 1, hi⟩
theorem look_none : ∀ {T : List (Nat × Int)} {p : Nat}, T.lookup p = none ↔ p ∉ T.map (·.1)
  | [], p => by simp
  | (a, b) :: T, p => by
    have e1 : List.lookup p ((a, b) :: T) = (match p == a with | true => some b | false => T.lookup p) := rfl
    rw [e1, List.map_cons]
    cases e : (p == a) with
    | true =>
      simp only [List.mem_cons, not_or]
      constructor
      · intro h; cases h
      · rintro ⟨h, _⟩
        exact absurd (beq_iff_eq.mp e) h
    | false =>
      show T.lookup p = none ↔ _
      rw [look_none (T := T)]
      simp only [List.mem_cons, not_or]
      exact ⟨fun h => ⟨beq_eq_false_iff_ne.mp e, h⟩, fun h => h.2⟩
variable {root : Nat} {T : List (Nat × Int)}
theorem key_get {p : Nat} (h : p ∈ T.map (·.1)) : ∃ (i : Nat) (z : Int), T[i]? = some (p, z) := by
  obtain ⟨q, hq, e⟩ := List.mem_map.mp h
  obtain ⟨i, hi⟩ := List.mem_iff_getElem?.mp hq
  exact ⟨i, q.2, by rw [hi, ← e]⟩
theorem key_of {i p : Nat} {z : Int} (h : T[i]? = some (p, z)) : p ∈ T.map (·.1) := List.mem_map.mpr ⟨_, List.mem_of_getElem? h, rfl⟩
theorem key_one (nd : (T.map (·.1)).Nodup) {i j p : Nat} {z z' : Int} (h : T[i]? = some (p, z)) (h' : T[j]? = some (p, z')) : i = j :=
  nodup_get (l := T.map (·.1)) nd (x := p) (by rw [List.getElem?_map, h]; rfl) (by rw [List.getElem?_map, h']; rfl)
theorem Way.det {p : Nat} {l : List Nat} (w : Way D T p l) : ∀ {l' : List Nat}, Way D T p l' → l = l' := by
  induction w with
  | root h =>
    intro l' w'
    cases w' with
    | root _ => rfl
    | step h' _ => rw [h] at h'; have := Option.some.inj h'; omega
  | step h w ih =>
    intro l' w'
    cases w' with
    | root h' => rw [h] at h'; have := Option.some.inj h'; omega
    | step h' w' =>
      rw [h] at h'
      have e := Option.some.inj h'
      have e2 := Int.ofNat.inj e
      subst e2
      rw [ih w']
theorem Tree.way (h : Tree D m root T) : ∀ (n i p : Nat) (z : Int), i ≤ n → T[i]? = some (p, z) → ∃ l, Way D T p l ∧ (∀ t ∈ l, t < 2 * m) ∧ (l.map (seat D) ++ [root]).Nodup ∧ (∀ t ∈ l, ∃ (k : Nat) (z' : Int), k ≤ i ∧ T[k]? = some (seat D t, z')) ∧ Path D p l root
  | n, 0, p, z, _, hi => by
    rw [h.head] at hi
    have e := Option.some.inj hi
    have e1 : root = p := congrArg Prod.fst e
    have e2 : (-1 : Int) = z := congrArg Prod.snd e
    subst e1 e2
    refine ⟨[], .root (look_at h.nd h.head), (fun t ht => by cases ht), (by simp), (fun t ht => by cases ht), rfl⟩
  | 0, i + 1, p, z, hn, _ => by omega
  | n + 1, i + 1, p, z, hn, hi => by
    obtain ⟨t, rfl, ht, hp, j, z', hj, hT⟩ := h.par i p z hi
    obtain ⟨l, w, hl, nd, hk, pa⟩ := h.way n j _ _ (by omega) hT
    refine ⟨t :: l, .step (look_at h.nd hi) w, fun x hx => ?_, ?_, fun x hx => ?_, hp, pa⟩
    · rcases List.mem_cons.mp hx with e | hx
      · rw [e]; exact ht
      · exact hl x hx
    · rw [List.map_cons, List.cons_append]
      refine List.nodup_cons.mpr ⟨fun hm => ?_, nd⟩
      rw [hp] at hm
      rcases List.mem_append.mp hm with q | q
      · obtain ⟨x, hx, ex⟩ := List.mem_map.mp q
        obtain ⟨k, z2, hk1, hk2⟩ := hk x hx
        rw [ex] at hk2
        have := key_one h.nd hk2 hi
        omega
      · have e : p = root := List.mem_singleton.mp q
        rw [e] at hi
        have := key_one h.nd h.head hi
        omega
    · rcases List.mem_cons.mp hx with e | hx
      · rw [e, hp]
        exact ⟨i + 1, _, Nat.le_refl _, hi⟩
      · obtain ⟨k, z2, hk1, hk2⟩ := hk x hx
        exact ⟨k, z2, by omega, hk2⟩
/-- what is said of the way up from a place of the tree -/
theorem Tree.way_of (h : Tree D m root T) {p : Nat} (hp : p ∈ T.map (·.1)) : ∃ l, Way D T p l ∧ (∀ t ∈ l, t < 2 * m) ∧ (l.map (seat D) ++ [root]).Nodup ∧ Path D p l root := by
  obtain ⟨i, z, hi⟩ := key_get hp
  obtain ⟨l, h1, h2, h3, _, h5⟩ := h.way i i p z (Nat.le_refl _) hi
  exact ⟨l, h1, h2, h3, h5⟩
theorem Way.mem (h : Tree D m root T) {p : Nat} {l : List Nat} (w : Way D T p l) : ∀ t ∈ l, T.lookup (seat D t) = some (t : Int) := by
  induction w with
  | root _ => exact fun t ht => by cases ht
  | @step p t l hl w ih =>
    intro x hx
    rcases List.mem_cons.mp hx with e | hx
    · rw [e]
      obtain ⟨i, hi⟩ := at_look hl
      cases i with
      | zero =>
        rw [h.head] at hi
        have e2 : (-1 : Int) = (t : Int) := congrArg Prod.snd (Option.some.inj hi)
        omega
      | succ i =>
        obtain ⟨t', e1, _, e2, _⟩ := h.par i p _ hi
        have e3 : t = t' := Int.ofNat.inj e1
        rw [e3, e2, ← e3]
        exact hl
    · exact ih x hx
theorem Way.suffix {p : Nat} {l : List Nat} (w : Way D T p l) : ∀ {A B : List Nat} {x : Nat}, l = A ++ x :: B → Way D T (seat D (mate x)) B := by
  induction w with
  | root _ =>
    intro A B x e
    cases A <;> cases e
  | step hl w ih =>
    intro A B x e
    cases A with
    | nil =>
      injection e with e1 e2
      rw [← e1, ← e2]
      exact w
    | cons a A =>
      injection e with e1 e2
      exact ih e2
/-- two ends of the tree of one tie are one -/
theorem Tree.tie (h : Tree D m root T) {a b : Nat} (ha : T.lookup (seat D a) = some (a : Int)) (hb : T.lookup (seat D b) = some (b : Int)) (e : a / 2 = b / 2) : a = b := by
  rcases of_div e with z | z
  · exact z
  · exfalso
    have up : ∀ {x i : Nat}, T[i]? = some (seat D x, (x : Int)) → ∃ j z', j < i ∧ T[j]? = some (seat D (mate x), z') := fun {x i} hi => by
      cases i with
      | zero =>
        rw [h.head] at hi
        have e2 : (-1 : Int) = (x : Int) := congrArg Prod.snd (Option.some.inj hi)
        omega
      | succ i =>
        obtain ⟨t', e1, _, _, j, z', hj, hT⟩ := h.par i _ _ hi
        have e3 : x = t' := Int.ofNat.inj e1
        rw [← e3] at hT
        exact ⟨j, z', by omega, hT⟩
    obtain ⟨i, hi⟩ := at_look ha
    obtain ⟨j, hj⟩ := at_look hb
    obtain ⟨k1, z1, l1, h1⟩ := up hi
    obtain ⟨k2, z2, l2, h2⟩ := up hj
    have em : mate a = b := by rw [z, mate_mate]
    rw [em] at h1
    rw [← z] at h2
    have q1 := key_one h.nd h1 hj
    have q2 := key_one h.nd h2 hi
    omega
/-! ## rounds -/
def strip : List Nat → List Nat → List Nat × List Nat
  | x :: xs, y :: ys => if x = y then strip xs ys else (x :: xs, y :: ys)
  | xs, ys => (xs, ys)
theorem strip_spec : ∀ (a b : List Nat), ∃ s, a = s ++ (strip a b).1 ∧ b = s ++ (strip a b).2 ∧ ∀ x, (strip a b).1[0]? = some x → (strip a b).2[0]? = some x → False
  | [], b => ⟨[], by simp [strip], by simp [strip], fun x hx _ => by simp [strip] at hx⟩
  | x :: xs, [] => ⟨[], by simp [strip], by simp [strip], fun y _ hy => by simp [strip] at hy⟩
  | x :: xs, y :: ys => by
    unfold strip
    by_cases e : x = y
    · rw [if_pos e]
      obtain ⟨s, h1, h2, h3⟩ := strip_spec xs ys
      exact ⟨x :: s, by rw [List.cons_append, ← h1], by rw [List.cons_append, ← h2, e], h3⟩
    · rw [if_neg e]
      refine ⟨[], rfl, rfl, fun z h1 h2 => e ?_⟩
      rw [Option.some.inj h1, Option.some.inj h2]
def turnAt (e : Nat) (out back : List Nat) : List Nat := e :: ((strip out.reverse back.reverse).1.reverse ++ (strip out.reverse back.reverse).2.map mate)
/-- a round -/
structure Turn (D : Dw) (m : Nat) (V : List Nat) : Prop where
  ne : V ≠ []
  walk : WalkN D m V
  places : (V.map (seat D)).Nodup
  ties : (V.map (· / 2)).Nodup
theorem nodup_map {α β : Type} {f : α → β} : ∀ {l : List α}, l.Nodup → (∀ a ∈ l, ∀ b ∈ l, f a = f b → a = b) → (l.map f).Nodup
  | [], _, _ => List.nodup_nil
  | x :: l, h, hf => by
    rw [List.map_cons]
    refine List.nodup_cons.mpr ⟨fun hm => ?_, nodup_map (List.nodup_cons.mp h).2 fun a ha b hb => hf a (List.mem_cons_of_mem _ ha) b (List.mem_cons_of_mem _ hb)⟩
    obtain ⟨y, hy, e⟩ := List.mem_map.mp hm
    have := hf y (List.mem_cons_of_mem _ hy) x List.mem_cons_self e
    rw [this] at hy
    exact (List.nodup_cons.mp h).1 hy
theorem nodup_of_map {α β : Type} {f : α → β} : ∀ {l : List α}, (l.map f).Nodup → l.Nodup
  | [], _ => List.nodup_nil
  | x :: l, h => by
    rw [List.map_cons] at h
    exact List.nodup_cons.mpr ⟨fun hm => (List.nodup_cons.mp h).1 (List.mem_map.mpr ⟨x, hm, rfl⟩), nodup_of_map (List.nodup_cons.mp h).2⟩
theorem turn_ok (h : Ok D m) (tr : Tree D m root T) {e : Nat} {out back : List Nat} (he : e < 2 * m) (wo : Way D T (seat D (mate e)) out) (wb : Way D T (seat D e) back)
    (ko : seat D (mate e) ∈ T.map (·.1)) (kb : seat D e ∈ T.map (·.1)) (n1 : T.lookup (seat D e) ≠ some (e : Int)) (n2 : T.lookup (seat D (mate e)) ≠ some ((mate e : Nat) : Int)) : Turn D m (turnAt e out back) := by
  obtain ⟨lo, wo', hol, nod, pao⟩ := tr.way_of ko
  obtain ⟨lb, wb', hbl, nbd, pab⟩ := tr.way_of kb
  have eo := wo.det wo'
  have eb := wb.det wb'
  subst eo eb
  obtain ⟨s, s1, s2, s3⟩ := strip_spec out.reverse back.reverse
  unfold turnAt
  generalize hA : (strip out.reverse back.reverse).1 = ra at *
  generalize hB : (strip out.reverse back.reverse).2 = rb at *
  have eo : out = ra.reverse ++ s.reverse := by
    rw [← List.reverse_append, ← s1, List.reverse_reverse]
  have eb : back = rb.reverse ++ s.reverse := by
    rw [← List.reverse_append, ← s2, List.reverse_reverse]
  rw [eo] at pao
  rw [eb] at pab
  obtain ⟨v, po1, po2⟩ := pao.split
  obtain ⟨v', pb1, pb2⟩ := pab.split
  have ev : v = v' := by
    cases hs : s.reverse with
    | nil =>
      rw [hs] at po2 pb2
      have a1 : v = root := po2
      have a2 : v' = root := pb2
      rw [a1, a2]
    | cons x r =>
      rw [hs] at po2 pb2
      rw [← po2.1, ← pb2.1]
  subst ev
  have closed : Path D (seat D e) (e :: (ra.reverse ++ rb.map mate)) (seat D e) := by
    refine ⟨rfl, po1.append ?_⟩
    have q := pb1.back
    rw [List.reverse_reverse] at q
    exact q
  have all : ∀ x ∈ e :: (ra.reverse ++ rb.map mate), x < 2 * m := fun x hx => by
    rcases List.mem_cons.mp hx with q | q
    · rw [q]; exact he
    · rcases List.mem_append.mp q with q | q
      · exact hol x (by rw [eo]; exact List.mem_append_left _ q)
      · obtain ⟨y, hy, ey⟩ := List.mem_map.mp q
        rw [← ey]
        exact mate_lt (hbl y (by rw [eb]; exact List.mem_append_left _ (List.mem_reverse.mpr hy)))
  have vin : v ∈ s.reverse.map (seat D) ++ [root] := by
    cases hs : s.reverse with
    | nil =>
      rw [hs] at po2
      have a1 : v = root := po2
      rw [a1]
      simp
    | cons x r =>
      rw [hs] at po2
      rw [← po2.1]
      simp
  have tl : ∀ x, x ∈ ra ∨ x ∈ rb → T.lookup (seat D x) = some (x : Int) := fun x hx => by
    rcases hx with q | q
    · exact wo.mem tr x (by rw [eo]; exact List.mem_append_left _ (List.mem_reverse.mpr q))
    · exact wb.mem tr x (by rw [eb]; exact List.mem_append_left _ (List.mem_reverse.mpr q))
  -- no place of both
  have apart : ∀ x ∈ ra, ∀ y ∈ rb, seat D x ≠ seat D y := fun x hx y hy exy => by
    have e1 := tl x (.inl hx)
    have e2 := tl y (.inr hy)
    rw [exy, e2] at e1
    have e3 : y = x := Int.ofNat.inj (Option.some.inj e1)
    subst e3
    obtain ⟨A, B, hAB⟩ := List.append_of_mem (List.mem_reverse.mpr hx)
    obtain ⟨A2, B2, hAB2⟩ := List.append_of_mem (List.mem_reverse.mpr hy)
    have w1 := wo.suffix (A := A) (B := B ++ s.reverse) (x := y) (by rw [eo, hAB]; simp)
    have w2 := wb.suffix (A := A2) (B := B2 ++ s.reverse) (x := y) (by rw [eb, hAB2]; simp)
    have e4 := List.append_cancel_right (w1.det w2)
    have r1 : ra = B.reverse ++ y :: A.reverse := by
      have := congrArg List.reverse hAB
      rw [List.reverse_reverse] at this
      rw [this]
      simp
    have r2 : rb = B.reverse ++ y :: A2.reverse := by
      have := congrArg List.reverse hAB2
      rw [List.reverse_reverse] at this
      rw [this, e4]
      simp
    cases hB' : B.reverse with
    | nil =>
      refine s3 y ?_ ?_
      · rw [r1, hB']; rfl
      · rw [r2, hB']; rfl
    | cons z r =>
      refine s3 z ?_ ?_
      · rw [r1, hB']; rfl
      · rw [r2, hB']; rfl
  have nd1 : (ra.reverse.map (seat D)).Nodup ∧ v ∉ ra.reverse.map (seat D) := by
    rw [eo, List.map_append, List.append_assoc] at nod
    exact ⟨(List.nodup_append.mp nod).1, fun hm => (List.nodup_append.mp nod).2.2 v hm v vin rfl⟩
  have nd2 : (rb.reverse.map (seat D)).Nodup ∧ v ∉ rb.reverse.map (seat D) := by
    rw [eb, List.map_append, List.append_assoc] at nbd
    exact ⟨(List.nodup_append.mp nbd).1, fun hm => (List.nodup_append.mp nbd).2.2 v hm v vin rfl⟩
  have big : (ra.reverse.map (seat D) ++ (rb.reverse.map (seat D) ++ [v])).Nodup := by
    refine List.nodup_append.mpr ⟨nd1.1, List.nodup_append.mpr ⟨nd2.1, by simp, fun a ha b hb hab => ?_⟩, fun a ha b hb hab => ?_⟩
    · rw [List.mem_singleton.mp hb] at hab
      rw [hab] at ha
      exact nd2.2 ha
    · rcases List.mem_append.mp hb with q | q
      · obtain ⟨x, hx, ex⟩ := List.mem_map.mp ha
        obtain ⟨y, hy, ey⟩ := List.mem_map.mp q
        exact apart x (List.mem_reverse.mp hx) y (List.mem_reverse.mp hy) (by rw [ex, ey, hab])
      · rw [List.mem_singleton.mp q] at hab
        rw [hab] at ha
        exact nd1.2 ha
  refine ⟨List.cons_ne_nil _ _, closed.walk all, ?_, ?_⟩
  · -- places
    have ps := pb1.seats
    have p1 : ((e :: (ra.reverse ++ rb.map mate)).map (seat D)).Perm (ra.reverse.map (seat D) ++ (seat D e :: rb.reverse.map (fun x => seat D (mate x)))) := by
      rw [List.map_cons, List.map_append, List.map_map]
      refine (List.perm_middle.symm).trans ?_
      refine List.Perm.append_left _ (List.Perm.cons _ ?_)
      show (rb.map (fun x => seat D (mate x))).Perm _
      exact (List.reverse_perm rb).symm.map _
    rw [ps] at p1
    exact p1.nodup_iff.mpr big
  · -- ties
    have p2 : ((e :: (ra.reverse ++ rb.map mate)).map (· / 2)).Perm ((e :: (ra.reverse ++ rb.reverse)).map (· / 2)) := by
      rw [List.map_cons, List.map_cons, List.map_append, List.map_append, List.map_map]
      refine List.Perm.cons _ (List.Perm.append_left _ ?_)
      rw [show ((fun x => x / 2) ∘ mate) = fun x => x / 2 from funext fun x => mate_div x]
      exact (List.reverse_perm rb).symm.map _
    refine p2.nodup_iff.mpr (nodup_map ?_ ?_)
    · refine List.nodup_cons.mpr ⟨fun hm => ?_, ?_⟩
      · have q := tl e ((List.mem_append.mp hm).imp List.mem_reverse.mp List.mem_reverse.mp)
        exact n1 q
      · have b2 := big
        rw [← List.append_assoc, ← List.map_append] at b2
        exact nodup_of_map (List.nodup_append.mp b2).1
    · have two : ∀ x ∈ ra.reverse ++ rb.reverse, x / 2 ≠ e / 2 := fun x hx z => by
        have q := tl x ((List.mem_append.mp hx).imp List.mem_reverse.mp List.mem_reverse.mp)
        rcases of_div z with w | w
        · rw [w] at q
          exact n1 q
        · rw [w] at q
          exact n2 q
      intro a ha b hb hab
      rcases List.mem_cons.mp ha with ea | ha
      · rcases List.mem_cons.mp hb with ebb | hb
        · rw [ea, ebb]
        · rw [ea] at hab
          exact absurd hab.symm (two b hb)
      · rcases List.mem_cons.mp hb with ebb | hb
        · rw [ebb] at hab
          exact absurd hab (two a ha)
        · exact tr.tie (tl a ((List.mem_append.mp ha).imp List.mem_reverse.mp List.mem_reverse.mp)) (tl b ((List.mem_append.mp hb).imp List.mem_reverse.mp List.mem_reverse.mp)) hab
/-! ## crossings along a tree -/
def cross (f : Nat → Int) (V : List Nat) : Int := (V.map fun e => f e - f (mate e)).sum
theorem cross_append (f : Nat → Int) (a b : List Nat) : cross f (a ++ b) = cross f a + cross f b := by
  unfold cross
  rw [List.map_append, List.sum_append]
theorem cross_mate (f : Nat → Int) : ∀ l : List Nat, cross f (l.map mate) = - cross f l
  | [] => rfl
  | x :: l => by
    have ih := cross_mate f l
    unfold cross at ih ⊢
    rw [List.map_cons, List.map_cons, List.map_cons, List.sum_cons, List.sum_cons, ih, mate_mate]
    omega
theorem cross_perm (f : Nat → Int) {a b : List Nat} (h : a.Perm b) : cross f a = cross f b := by
  induction h with
  | nil => rfl
  | cons x _ ih =>
    unfold cross at ih ⊢
    rw [List.map_cons, List.map_cons, List.sum_cons, List.sum_cons, ih]
  | swap x y l =>
    unfold cross
    simp only [List.map_cons, List.sum_cons]
    omega
  | trans _ _ ih1 ih2 => rw [ih1, ih2]
theorem cross_turn (f : Nat → Int) (e : Nat) (out back : List Nat) : cross f (turnAt e out back) = (f e - f (mate e)) + cross f out - cross f back := by
  obtain ⟨s, s1, s2, _⟩ := strip_spec out.reverse back.reverse
  unfold turnAt
  have h1 : cross f out = cross f s + cross f (strip out.reverse back.reverse).1 := by
    rw [← cross_append, ← s1]
    exact cross_perm f (List.reverse_perm out).symm
  have h2 : cross f back = cross f s + cross f (strip out.reverse back.reverse).2 := by
    rw [← cross_append, ← s2]
    exact cross_perm f (List.reverse_perm back).symm
  have h3 : cross f (e :: ((strip out.reverse back.reverse).1.reverse ++ (strip out.reverse back.reverse).2.map mate)) = (f e - f (mate e)) + cross f ((strip out.reverse back.reverse).1.reverse ++ (strip out.reverse back.reverse).2.map mate) := by
    unfold cross
    rw [List.map_cons, List.sum_cons]
  rw [h3, cross_append, cross_mate, cross_perm f (List.reverse_perm _), h1, h2]
  omega
/-- the potential of a tree -/
theorem tree_pot (h : Ok D m) (tr : Tree D m root T) (clo : ∀ q ∈ T, Clo D T q.1) {f : Nat → Int}
    (zero : ∀ e out back, e < 2 * m → seat D e ∈ T.map (·.1) → T.lookup (seat D e) ≠ some (e : Int) → T.lookup (seat D (mate e)) ≠ some ((mate e : Nat) : Int) → Way D T (seat D (mate e)) out → Way D T (seat D e) back → cross f (turnAt e out back) = 0)
    (rest : ∀ e, e < 2 * m → seat D e ∉ T.map (·.1) → f e = f (mate e)) : ∃ φ : Nat → Int, ∀ e, e < 2 * m → f e - f (mate e) = φ (seat D (mate e)) - φ (seat D e) := by
  have ex : ∀ p, ∃ x : Int, (∀ l, Way D T p l → x = - cross f l) ∧ (p ∉ T.map (·.1) → x = 0) := fun p => by
    by_cases hp : p ∈ T.map (·.1)
    · obtain ⟨l, w, _⟩ := tr.way_of hp
      exact ⟨- cross f l, fun l' w' => by rw [w.det w'], fun z => absurd hp z⟩
    · refine ⟨0, fun l w => ?_, fun _ => rfl⟩
      exfalso
      apply hp
      cases w with
      | root hl => obtain ⟨i, hi⟩ := at_look hl; exact key_of hi
      | step hl _ => obtain ⟨i, hi⟩ := at_look hl; exact key_of hi
  have key_mate : ∀ e, e < 2 * m → seat D e ∈ T.map (·.1) → seat D (mate e) ∈ T.map (·.1) := fun e he hk => by
    obtain ⟨q, hq, eq⟩ := List.mem_map.mp hk
    obtain ⟨r, h1, h2⟩ := h.row he
    exact clo q hq r (by rw [eq]; exact h1) e h2
  refine ⟨fun p => (ex p).choose, fun e he => ?_⟩
  show f e - f (mate e) = (ex (seat D (mate e))).choose - (ex (seat D e)).choose
  have w0 := (ex (seat D e)).choose_spec
  have w1 := (ex (seat D (mate e))).choose_spec
  generalize (ex (seat D e)).choose = a at w0
  generalize (ex (seat D (mate e))).choose = b at w1
  by_cases hk : seat D e ∈ T.map (·.1)
  · have hk2 := key_mate e he hk
    obtain ⟨out, wo, _⟩ := tr.way_of hk2
    obtain ⟨back, wb, _⟩ := tr.way_of hk
    have ea := w0.1 back wb
    have eb := w1.1 out wo
    by_cases n1 : T.lookup (seat D e) = some (e : Int)
    · have e2 := wb.det (.step n1 wo)
      have e3 : cross f (e :: out) = (f e - f (mate e)) + cross f out := by
        unfold cross
        rw [List.map_cons, List.sum_cons]
      rw [e2, e3] at ea
      omega
    · by_cases n2 : T.lookup (seat D (mate e)) = some ((mate e : Nat) : Int)
      · have e2 := wo.det (.step n2 (by rw [mate_mate]; exact wb))
        have e3 : cross f (mate e :: back) = (f (mate e) - f (mate (mate e))) + cross f back := by
          unfold cross
          rw [List.map_cons, List.sum_cons]
        rw [e2, e3, mate_mate] at eb
        omega
      · have z := zero e out back he hk n1 n2 wo wb
        rw [cross_turn] at z
        omega
  · have hk2 : seat D (mate e) ∉ T.map (·.1) := fun z => hk (by
      have := key_mate (mate e) (mate_lt he) z
      rw [mate_mate] at this
      exact this)
    rw [w0.2 hk, w1.2 hk2, rest e he hk]
    omega
/-- a walk stays in the tree of its first place -/
theorem walk_in (tr : Tree D m root T) (h : Ok D m) (clo : ∀ q ∈ T, Clo D T q.1) {W : List Nat} (w : WalkN D m W) (h0 : ∀ x, W[0]? = some x → seat D x = root) : ∀ (i x : Nat), W[i]? = some x → seat D x ∈ T.map (·.1)
  | 0, x, hx => by
    rw [h0 x hx]
    exact key_of tr.head
  | i + 1, x, hx => by
    have hi := (List.getElem?_eq_some_iff.mp hx).1
    have hy : W[i]? = some W[i] := List.getElem?_eq_getElem (by omega)
    have ih := walk_in tr h clo w h0 i _ hy
    have q := w.on (W[i], x) (List.mem_of_getElem? (i := i + 1) (visits_at hx (by rw [if_neg (by omega), Nat.add_sub_cancel]; exact hy)))
    rw [← q]
    obtain ⟨k, hk, eq⟩ := List.mem_map.mp ih
    obtain ⟨r, h1, h2⟩ := h.row (w.lt _ (List.mem_of_getElem? hy))
    exact clo k hk r (by rw [eq]; exact h1) _ h2
/-- where no round of the tree crosses the walk, it is filled -/
theorem fill_tree (h : Ok D m) (tr : Tree D m root T) (clo : ∀ q ∈ T, Clo D T q.1) {W : List Nat} (w : WalkN D m W) (h0 : ∀ x, W[0]? = some x → seat D x = root)
    (zero : ∀ e out back, e < 2 * m → seat D e ∈ T.map (·.1) → T.lookup (seat D e) ≠ some (e : Int) → T.lookup (seat D (mate e)) ≠ some ((mate e : Nat) : Int) → Way D T (seat D (mate e)) out → Way D T (seat D e) back → cross (LF D m W) (turnAt e out back) = 0) :
    ∃ N, Fill D m W N := by
  have out : ∀ e, e < 2 * m → seat D e ∉ T.map (·.1) → LF D m W e = 0 := fun e he hk => LF_out h w fun g hg z => by
    obtain ⟨i, hi⟩ := List.mem_iff_getElem?.mp hg
    have := walk_in tr h clo w h0 i g hi
    rw [z] at this
    exact hk this
  obtain ⟨φ, hφ⟩ := tree_pot h tr clo (f := LF D m W) zero fun e he hk => by
    rw [out e he hk]
    refine (out (mate e) (mate_lt he) fun z => hk ?_).symm
    obtain ⟨q, hq, eq⟩ := List.mem_map.mp z
    obtain ⟨r, h1, h2⟩ := h.row (mate_lt he)
    have := clo q hq r (by rw [eq]; exact h1) _ h2
    rw [mate_mate] at this
    exact this
  exact ⟨_, fill_of_pot h w hφ⟩
end
end RF

set_option Elab.async false
set_option linter.all false
set_option maxRecDepth 100000
set_option maxHeartbeats 1000000
namespace RF
/-! # The loops that walk the lands, as states -/
structure OS (st : Nat → Nat) (N : Nat) (S0 o : List Nat) (n : Nat) (S acc : List Nat) (e : Nat) : Prop where
  eq : acc ++ orb st n S e = o
  sS : S = acc.reverse ++ S0
  nd : S.Nodup
  lt : ∀ x ∈ S, x < N
  el : e < N
  big : N < n + S.length
section
variable {st : Nat → Nat} {N : Nat}
theorem OS.start {S : List Nat} {s : Nat} (nd : S.Nodup) (lt : ∀ x ∈ S, x < N) (hs : s < N) : OS st N S (orb st (N + 1) S s) (N + 1) S [] s := ⟨rfl, rfl, nd, lt, hs, by omega⟩
theorem OS.pos {S0 o S acc : List Nat} {n e : Nat} (h : OS st N S0 o n S acc e) : 0 < n := by
  have := nodup_bound h.nd h.lt
  have := h.big
  omega
theorem OS.stop {S0 o S acc : List Nat} {n e : Nat} (h : OS st N S0 o n S acc e) (he : e ∈ S) : acc = o ∧ S = o.reverse ++ S0 := by
  have hp := h.pos
  obtain ⟨k, rfl⟩ : ∃ k, n = k + 1 := ⟨n - 1, by omega⟩
  have q := h.eq
  unfold orb at q
  rw [if_pos he, List.append_nil] at q
  exact ⟨q, by rw [← q]; exact h.sS⟩
theorem OS.step (hS : Stp st N) {S0 o S acc : List Nat} {n e : Nat} (h : OS st N S0 o n S acc e) (he : e ∉ S) : ∃ k, n = k + 1 ∧ OS st N S0 o k (e :: S) (acc ++ [e]) (st e) := by
  have hp := h.pos
  obtain ⟨k, rfl⟩ : ∃ k, n = k + 1 := ⟨n - 1, by omega⟩
  refine ⟨k, rfl, ?_, ?_, List.nodup_cons.mpr ⟨he, h.nd⟩, fun x hx => ?_, hS.lt e h.el, ?_⟩
  · have q := h.eq
    unfold orb at q
    rw [if_neg he] at q
    rw [List.append_assoc]
    exact q
  · rw [List.reverse_append, h.sS]
    rfl
  · rcases List.mem_cons.mp hx with z | z
    · rw [z]; exact h.el
    · exact h.lt x z
  · have := h.big
    rw [List.length_cons]
    omega
/-- ahead of the start i -/
structure OT (st : Nat → Nat) (N i : Nat) (S : List Nat) (Ls : List (List Nat)) : Prop where
  eq : orbs st N (List.range N) [] = Ls ++ orbs st N ((List.range N).drop i) S
  nd : S.Nodup
  lt : ∀ x ∈ S, x < N
  le : Ls.length ≤ i
theorem orbs_cons {s : Nat} {ss S : List Nat} : orbs st N (s :: ss) S = if s ∈ S then orbs st N ss S else orb st (N + 1) S s :: orbs st N ss ((orb st (N + 1) S s).reverse ++ S) := rfl
theorem OT.start : OT st N 0 [] [] := ⟨rfl, List.nodup_nil, (fun x hx => by cases hx), Nat.le_refl _⟩
theorem range_drop {N i : Nat} (h : i < N) : (List.range N).drop i = i :: (List.range N).drop (i + 1) := by
  rw [List.drop_eq_getElem_cons (by rw [List.length_range]; exact h), List.getElem_range]
theorem OT.skip {i : Nat} {S : List Nat} {Ls : List (List Nat)} (h : OT st N i S Ls) (hi : i < N) (hm : i ∈ S) : OT st N (i + 1) S Ls := by
  have q := h.eq
  rw [range_drop hi, orbs_cons, if_pos hm] at q
  exact ⟨q, h.nd, h.lt, by have := h.le; omega⟩
theorem OT.take {i : Nat} {S S' o : List Nat} {Ls : List (List Nat)} (h : OT st N i S Ls) (hi : i < N) (hm : i ∉ S) (ho : o = orb st (N + 1) S i) (hS : S' = o.reverse ++ S) (nd : S'.Nodup) (lt : ∀ x ∈ S', x < N) : OT st N (i + 1) S' (Ls ++ [o]) := by
  have q := h.eq
  rw [range_drop hi] at q
  rw [orbs_cons, if_neg hm] at q
  refine ⟨?_, nd, lt, ?_⟩
  · rw [q, hS, ho, List.append_assoc]
    rfl
  · rw [List.length_append, List.length_singleton]
    have := h.le
    omega
theorem OT.done {S : List Nat} {Ls : List (List Nat)} (h : OT st N N S Ls) : orbs st N (List.range N) [] = Ls := by
  have q := h.eq
  rw [List.drop_eq_nil_of_le (by rw [List.length_range]; exact Nat.le_refl _)] at q
  rw [q]
  exact List.append_nil _
theorem orb_ne {S : List Nat} {s n : Nat} (hm : s ∉ S) : orb st (n + 1) S s ≠ [] := by
  unfold orb
  rw [if_neg hm]
  exact List.cons_ne_nil _ _
end
end RF

set_option Elab.async false
set_option linter.all false
set_option maxRecDepth 100000
set_option maxHeartbeats 1000000
namespace RF
/-! # Spreading numbers over lands -/
/-- of one part: no closed set of places parts them -/
def Same (D : Dw) (m a b : Nat) : Prop := ∀ C : Nat → Prop, (∀ x, x < 2 * m → (C (seat D x) ↔ C (seat D (mate x)))) → (C (seat D a) ↔ C (seat D b))
theorem Same.refl {D : Dw} {m : Nat} (a : Nat) : Same D m a a := fun _ _ => Iff.rfl
theorem Same.symm {D : Dw} {m a b : Nat} (h : Same D m a b) : Same D m b a := fun C hC => (h C hC).symm
theorem Same.trans {D : Dw} {m a b c : Nat} (h : Same D m a b) (h2 : Same D m b c) : Same D m a c := fun C hC => (h C hC).trans (h2 C hC)
theorem Same.mate {D : Dw} {m a : Nat} (h : a < 2 * m) : Same D m a (mate a) := fun C hC => hC a h
theorem Same.land {D : Dw} {m : Nat} {L : List (List Nat)} (h : Ok D m) (hL : Lands D m L) {i : Nat} {l : List Nat} (hi : L[i]? = some l) {a b : Nat} (ha : a ∈ l) (hb : b ∈ l) : Same D m a b := fun C hC => by
  have q := hL.same (f := fun e => C (seat D e)) (fun e he => by
    rw [h.seat_stp he]
    exact propext (hC e he).symm) hi ha hb
  rw [q]
def netFn (W : List Nat) (e : Nat) : Int := (W.count e : Int) - (W.count (mate e) : Int)
/-- the numbers found so far, from a first land on -/
structure Spr (D : Dw) (m : Nat) (W : List Nat) (L : List (List Nat)) (first : Nat) (T : List (Nat × Int)) : Prop where
  nd : (T.map (·.1)).Nodup
  head : (first, 0) ∈ T
  lt : ∀ q ∈ T, q.1 < L.length
  pot : ∀ N, Fill D m W N → ∃ b : Int, ∀ q ∈ T, ∀ l, L[q.1]? = some l → ∀ e ∈ l, N e = q.2 + b
  same : ∀ q ∈ T, ∀ q' ∈ T, ∀ l l', L[q.1]? = some l → L[q'.1]? = some l' → ∀ e ∈ l, ∀ e' ∈ l', Same D m e e'
  full : ∀ q ∈ T, q = (first, 0) ∨ ∃ l e, L[q.1]? = some l ∧ e ∈ l
  empty : (∃ l e, L[first]? = some l ∧ e ∈ l) ∨ T = [(first, 0)]
  reach : ∀ S : Nat → Prop, (∀ i l e, L[i]? = some l → e ∈ l → S (seat L (mate e)) → S i) → ∀ q ∈ T, S q.1 → S first
/-- the land q has told all its neighbours -/
def Told (W : List Nat) (L : List (List Nat)) (T : List (Nat × Int)) (q : Nat × Int) : Prop := ∀ l, L[q.1]? = some l → ∀ e ∈ l, T.lookup (seat L (mate e)) = some (q.2 - netFn W e)
section
variable {D : Dw} {m first : Nat} {W : List Nat} {L : List (List Nat)} {T : List (Nat × Int)}
theorem Spr.start (h : Ok D m) (hL : Lands D m L) (hf : first < L.length) : Spr D m W L first [(first, 0)] := by
  have one : ∀ q ∈ [((first, 0) : Nat × Int)], q = (first, 0) := fun q hq => List.mem_singleton.mp hq
  refine ⟨by simp, List.mem_singleton.mpr rfl, fun q hq => by rw [one q hq]; exact hf, fun N hN => ?_, fun q hq q' hq' l l' hl hl' e he e' he' => ?_, fun q hq => .inl (one q hq), .inr rfl, fun S _ q hq hs => by rw [one q hq] at hs; exact hs⟩
  · obtain ⟨l, hl⟩ : ∃ l, L[first]? = some l := ⟨_, List.getElem?_eq_getElem hf⟩
    cases l with
    | nil =>
      refine ⟨0, fun q hq l hl2 e he => ?_⟩
      rw [one q hq] at hl2
      have hl3 : L[first]? = some l := hl2
      rw [hl] at hl3
      rw [← Option.some.inj hl3] at he
      cases he
    | cons x r =>
      refine ⟨N x, fun q hq l hl2 e he => ?_⟩
      rw [one q hq] at hl2 ⊢
      have hl3 : L[first]? = some l := hl2
      rw [hl] at hl3
      rw [← Option.some.inj hl3] at he
      show N e = 0 + N x
      rw [Int.zero_add]
      exact hL.same (f := N) hN.land hl he List.mem_cons_self
  · rw [one q hq] at hl
    rw [one q' hq'] at hl'
    have hl2 : L[first]? = some l := hl
    have hl3 : L[first]? = some l' := hl'
    rw [hl2] at hl3
    rw [← Option.some.inj hl3] at he'
    exact Same.land h hL hl2 he he'
theorem Spr.look (h : Spr D m W L first T) {q : Nat × Int} (hq : q ∈ T) : T.lookup q.1 = some q.2 := by
  obtain ⟨i, hi⟩ := List.mem_iff_getElem?.mp hq
  exact look_at h.nd hi
theorem look_mem {T : List (Nat × Int)} {p : Nat} {z : Int} (h : T.lookup p = some z) : (p, z) ∈ T := by
  obtain ⟨i, hi⟩ := at_look h
  exact List.mem_of_getElem? hi
theorem look_app {T X : List (Nat × Int)} {p : Nat} {z : Int} (h : T.lookup p = some z) : (T ++ X).lookup p = some z := by
  induction T with
  | nil => cases h
  | cons q T ih =>
    obtain ⟨a, b⟩ := q
    have h2 : (match p == a with | true => some b | false => T.lookup p) = some z := h
    show (match p == a with | true => some b | false => (T ++ X).lookup p) = some z
    cases e : (p == a) with
    | true => rw [e] at h2; exact h2
    | false => rw [e] at h2; exact ih h2
theorem Told.mono {q : Nat × Int} (h : Told W L T q) (X : List (Nat × Int)) : Told W L (T ++ X) q := fun l hl e he => look_app (h l hl e he)
/-- what a filling says of a neighbour -/
theorem Spr.next (h : Spr D m W L first T) (hL : Lands D m L) {q : Nat × Int} (hq : q ∈ T) {l l' : List Nat} {e : Nat} {j : Nat} (hl : L[q.1]? = some l) (he : e ∈ l) (hj : L[j]? = some l') (hm : mate e ∈ l') {N : Nat → Int} (hN : Fill D m W N) :
    ∃ b : Int, (∀ q ∈ T, ∀ l, L[q.1]? = some l → ∀ e ∈ l, N e = q.2 + b) ∧ ∀ e' ∈ l', N e' = (q.2 - netFn W e) + b := by
  obtain ⟨b, hb⟩ := h.pot N hN
  refine ⟨b, hb, fun e' he' => ?_⟩
  have h1 := hb q hq l hl e he
  have h2 := hN.net e (hL.lt hl he)
  have h3 := hL.same (f := N) hN.land hj he' hm
  unfold netFn
  omega
theorem Spr.snoc (h : Spr D m W L first T) (ho : Ok D m) (hL : Lands D m L) {q : Nat × Int} (hq : q ∈ T) {l : List Nat} {e : Nat} (hl : L[q.1]? = some l) (he : e ∈ l) (new : T.lookup (seat L (mate e)) = none) : Spr D m W L first (T ++ [(seat L (mate e), q.2 - netFn W e)]) := by
  have he2 := hL.lt hl he
  obtain ⟨j, l', hj, hm⟩ := hL.of (mate_lt he2)
  have ej : seat L (mate e) = j := flat_seat hL.nd hj hm
  rw [ej] at new ⊢
  have hnew : j ∉ T.map (·.1) := look_none.mp new
  have cs : ∀ x ∈ T ++ [(j, q.2 - netFn W e)], x ∈ T ∨ x = (j, q.2 - netFn W e) := fun x hx => (List.mem_append.mp hx).imp id List.mem_singleton.mp
  have new_same : ∀ e' ∈ l', Same D m e' e := fun e' he' => (Same.land ho hL hj he' hm).trans (Same.mate he2).symm
  have fne : ∃ l e, L[first]? = some l ∧ e ∈ l := by
    rcases h.empty with z | z
    · exact z
    · rw [z] at hq
      rw [List.mem_singleton.mp hq] at hl
      exact ⟨l, e, hl, he⟩
  refine ⟨?_, List.mem_append_left _ h.head, fun x hx => ?_, fun N hN => ?_, fun x hx x' hx' k k' hk hk' a ha a' ha' => ?_, fun x hx => ?_, .inl fne, fun S hS x hx hs => ?_⟩
  · rw [List.map_append]
    refine List.nodup_append.mpr ⟨h.nd, by simp, fun a ha b hb hab => ?_⟩
    rw [List.mem_singleton.mp hb] at hab
    rw [hab] at ha
    exact hnew ha
  · rcases cs x hx with z | z
    · exact h.lt x z
    · rw [z]
      exact (List.getElem?_eq_some_iff.mp hj).1
  · obtain ⟨b, hb, hb2⟩ := h.next hL hq hl he hj hm hN
    refine ⟨b, fun x hx k hk a ha => ?_⟩
    rcases cs x hx with z | z
    · exact hb x z k hk a ha
    · rw [z] at hk ⊢
      have hk2 : L[j]? = some k := hk
      rw [hj] at hk2
      rw [← Option.some.inj hk2] at ha
      exact hb2 a ha
  · have one : ∀ x ∈ T ++ [(j, q.2 - netFn W e)], ∀ k, L[x.1]? = some k → ∀ a ∈ k, Same D m a e := fun x hx k hk a ha => by
      rcases cs x hx with z | z
      · exact h.same x z q hq k l hk hl a ha e he
      · rw [z] at hk
        have hk2 : L[j]? = some k := hk
        rw [hj] at hk2
        rw [← Option.some.inj hk2] at ha
        exact new_same a ha
    exact (one x hx k hk a ha).trans (one x' hx' k' hk' a' ha').symm
  · rcases cs x hx with z | z
    · exact h.full x z
    · rw [z]
      exact .inr ⟨l', mate e, hj, hm⟩
  · rcases cs x hx with z | z
    · exact h.reach S hS x z hs
    · rw [z] at hs
      have hs2 : S (seat L (mate e)) := by rw [ej]; exact hs
      exact h.reach S hS q hq (hS q.1 l e hl he hs2)
/-- two numbers for one land: not filled -/
theorem Spr.clash (h : Spr D m W L first T) (hL : Lands D m L) {q : Nat × Int} (hq : q ∈ T) {l : List Nat} {e : Nat} (hl : L[q.1]? = some l) (he : e ∈ l) {z : Int} (hz : T.lookup (seat L (mate e)) = some z) (hne : z ≠ q.2 - netFn W e) : ∀ N, ¬ Fill D m W N := fun N hN => by
  have he2 := hL.lt hl he
  obtain ⟨j, l', hj, hm⟩ := hL.of (mate_lt he2)
  have ej : seat L (mate e) = j := flat_seat hL.nd hj hm
  rw [ej] at hz
  obtain ⟨b, hb, hb2⟩ := h.next hL hq hl he hj hm hN
  have h1 := hb (j, z) (look_mem hz) l' hj (mate e) hm
  have h2 := hb2 (mate e) hm
  simp only at h1
  omega
/-! ## all numbers -/
/-- the numbers told for the lands -/
structure Filled (D : Dw) (m : Nat) (W : List Nat) (L : List (List Nat)) (ns : List Int) : Prop where
  len : ns.length = L.length
  empty : ∀ i : Nat, L[i]? = some [] → ns[i]? = some 0
  diff : ∀ (i j : Nat) (l l' : List Nat) (e : Nat), L[i]? = some l → e ∈ l → L[j]? = some l' → mate e ∈ l' → ∃ a b : Int, ns[i]? = some a ∧ ns[j]? = some b ∧ a - b = netFn W e
  nonneg : ∀ a ∈ ns, (0 : Int) ≤ a
  zero : ∀ e, e < 2 * m → ∃ (e0 i : Nat) (l : List Nat), e0 < 2 * m ∧ Same D m e e0 ∧ L[i]? = some l ∧ e0 ∈ l ∧ ns[i]? = some 0
structure Gath (D : Dw) (m : Nat) (W : List Nat) (L : List (List Nat)) (i : Nat) (G : List (Nat × Int)) : Prop where
  nd : (G.map (·.1)).Nodup
  upto : ∀ k, k < i → k ∈ G.map (·.1)
  lt : ∀ q ∈ G, q.1 < L.length
  told : ∀ q ∈ G, Told W L G q
  nonneg : ∀ q ∈ G, (0 : Int) ≤ q.2
  empty : ∀ q ∈ G, L[q.1]? = some [] → q.2 = 0
  zero : ∀ q ∈ G, ∀ l, L[q.1]? = some l → ∀ e ∈ l, ∃ (e0 : Nat) (q0 : Nat × Int) (l0 : List Nat), q0 ∈ G ∧ L[q0.1]? = some l0 ∧ e0 ∈ l0 ∧ q0.2 = 0 ∧ Same D m e e0
theorem Gath.start : Gath D m W L 0 [] := ⟨by simp, (fun k hk => by omega), (fun q hq => by cases hq), (fun q hq => by cases hq), (fun q hq => by cases hq), (fun q hq => by cases hq), (fun q hq => by cases hq)⟩
theorem Gath.skip {i : Nat} {G : List (Nat × Int)} (h : Gath D m W L i G) (hi : i ∈ G.map (·.1)) : Gath D m W L (i + 1) G :=
  ⟨h.nd, fun k hk => if e : k = i then by rw [e]; exact hi else h.upto k (by omega), h.lt, h.told, h.nonneg, h.empty, h.zero⟩
theorem shift_keys (T : List (Nat × Int)) (c : Int) : (T.map fun q => (q.1, q.2 - c)).map (·.1) = T.map (·.1) := by
  rw [List.map_map]
  rfl
theorem look_shift (c : Int) : ∀ {T : List (Nat × Int)} {p : Nat} {z : Int}, T.lookup p = some z → (T.map fun q => (q.1, q.2 - c)).lookup p = some (z - c)
  | [], p, z, h => by cases h
  | (a, b) :: T, p, z, h => by
    have h2 : (match p == a with | true => some b | false => T.lookup p) = some z := h
    show (match p == a with | true => some (b - c) | false => (T.map fun q => (q.1, q.2 - c)).lookup p) = some (z - c)
    cases e : (p == a) with
    | true => rw [e] at h2; rw [Option.some.inj h2]
    | false => rw [e] at h2; exact look_shift c (T := T) h2
theorem look_right {A B : List (Nat × Int)} {p : Nat} (h : A.lookup p = none) : (A ++ B).lookup p = B.lookup p := by
  induction A with
  | nil => rfl
  | cons q A ih =>
    obtain ⟨a, b⟩ := q
    have h2 : (match p == a with | true => some b | false => A.lookup p) = none := h
    show (match p == a with | true => some b | false => (A ++ B).lookup p) = _
    cases e : (p == a) with
    | true => rw [e] at h2; cases h2
    | false => rw [e] at h2; exact ih h2
theorem Gath.add {i : Nat} {G : List (Nat × Int)} (h : Gath D m W L i G) (ho : Ok D m) (hL : Lands D m L) (hi : i ∉ G.map (·.1)) (hS : Spr D m W L i T) (hT : ∀ q ∈ T, Told W L T q) {c : Int} (hc : ∃ q ∈ T, q.2 = c) (hmin : ∀ q ∈ T, c ≤ q.2) :
    Gath D m W L (i + 1) (G ++ T.map fun q => (q.1, q.2 - c)) := by
  have apart : ∀ q ∈ T, q.1 ∉ G.map (·.1) := fun q hq hm => hi (hS.reach (fun k => k ∈ G.map (·.1)) (fun k l e hk he hs => by
    obtain ⟨q', hq', e1⟩ := List.mem_map.mp hs
    have he2 := hL.lt hk he
    obtain ⟨j, l', hj, hm'⟩ := hL.of (mate_lt he2)
    have ej : seat L (mate e) = j := flat_seat hL.nd hj hm'
    have t := h.told q' hq' l' (by rw [e1, ej]; exact hj) (mate e) hm'
    rw [mate_mate, flat_seat hL.nd hk he] at t
    obtain ⟨i', hi'⟩ := at_look t
    exact key_of hi') q hq hm)
  have cs : ∀ x ∈ G ++ T.map (fun q => (q.1, q.2 - c)), x ∈ G ∨ ∃ q ∈ T, x = (q.1, q.2 - c) := fun x hx => (List.mem_append.mp hx).imp id fun z => by
    obtain ⟨q, hq, e⟩ := List.mem_map.mp z
    exact ⟨q, hq, e.symm⟩
  -- where the least stands is an end, if there is one at all
  have zeroT : ∀ q ∈ T, ∀ l, L[q.1]? = some l → ∀ e ∈ l, ∃ (e0 : Nat) (q0 : Nat × Int) (l0 : List Nat), q0 ∈ T.map (fun q => (q.1, q.2 - c)) ∧ L[q0.1]? = some l0 ∧ e0 ∈ l0 ∧ q0.2 = 0 ∧ Same D m e e0 := fun q hq l hl e he => by
    obtain ⟨q1, hq1, e1⟩ := hc
    have hl1 : ∃ l1 e1, L[q1.1]? = some l1 ∧ e1 ∈ l1 := by
      rcases hS.full q1 hq1 with z | z
      · rcases hS.empty with w | w
        · rw [z]
          exact w
        · rw [w] at hq
          rw [List.mem_singleton.mp hq] at hl
          rw [z]
          exact ⟨l, e, hl, he⟩
      · exact z
    obtain ⟨l1, x, hl1, hx⟩ := hl1
    exact ⟨x, (q1.1, q1.2 - c), l1, List.mem_map.mpr ⟨q1, hq1, rfl⟩, hl1, hx, by show q1.2 - c = 0; omega, hS.same q hq q1 hq1 l l1 hl hl1 e he x hx⟩
  refine ⟨?_, fun k hk => ?_, fun x hx => ?_, fun x hx => ?_, fun x hx => ?_, fun x hx hl => ?_, fun x hx l hl e he => ?_⟩
  · rw [List.map_append, shift_keys]
    refine List.nodup_append.mpr ⟨h.nd, hS.nd, fun a ha b hb hab => ?_⟩
    obtain ⟨q, hq, e⟩ := List.mem_map.mp hb
    rw [hab, ← e] at ha
    exact apart q hq ha
  · rw [List.map_append, shift_keys]
    by_cases e : k = i
    · rw [e]
      exact List.mem_append_right _ (List.mem_map.mpr ⟨_, hS.head, rfl⟩)
    · exact List.mem_append_left _ (h.upto k (by omega))
  · rcases cs x hx with z | ⟨q, hq, z⟩
    · exact h.lt x z
    · rw [z]
      exact hS.lt q hq
  · rcases cs x hx with z | ⟨q, hq, z⟩
    · exact (h.told x z).mono _
    · intro l hl e he
      rw [z] at hl ⊢
      have t := hT q hq l hl e he
      have no : G.lookup (seat L (mate e)) = none := look_none.mpr (apart _ (look_mem t))
      rw [look_right no, look_shift c t]
      show some (q.2 - netFn W e - c) = some (q.2 - c - netFn W e)
      congr 1
      omega
  · rcases cs x hx with z | ⟨q, hq, z⟩
    · exact h.nonneg x z
    · rw [z]
      have := hmin q hq
      show (0 : Int) ≤ q.2 - c
      omega
  · rcases cs x hx with z | ⟨q, hq, z⟩
    · exact h.empty x z hl
    · rw [z] at hl ⊢
      have hl2 : L[q.1]? = some [] := hl
      rcases hS.full q hq with w | ⟨l, e, w1, w2⟩
      · rcases hS.empty with v | v
        · obtain ⟨l, e, v1, v2⟩ := v
          rw [w] at hl2
          have hl3 : L[i]? = some [] := hl2
          rw [v1] at hl3
          rw [Option.some.inj hl3] at v2
          cases v2
        · obtain ⟨q1, hq1, e1⟩ := hc
          rw [v] at hq1
          rw [List.mem_singleton.mp hq1] at e1
          rw [w]
          show (0 : Int) - c = 0
          have : (0 : Int) = c := e1
          omega
      · rw [w1] at hl2
        rw [Option.some.inj hl2] at w2
        cases w2
  · rcases cs x hx with z | ⟨q, hq, z⟩
    · obtain ⟨e0, q0, l0, h1, h2, h3, h4, h5⟩ := h.zero x z l hl e he
      exact ⟨e0, q0, l0, List.mem_append_left _ h1, h2, h3, h4, h5⟩
    · rw [z] at hl
      obtain ⟨e0, q0, l0, h1, h2, h3, h4, h5⟩ := zeroT q hq l hl e he
      exact ⟨e0, q0, l0, List.mem_append_right _ h1, h2, h3, h4, h5⟩
def numsOf (L : List (List Nat)) (G : List (Nat × Int)) : List Int := (List.range L.length).map fun l => (G.lookup l).getD 0
theorem numsOf_get {G : List (Nat × Int)} {i : Nat} {z : Int} (hi : i < L.length) (h : G.lookup i = some z) : (numsOf L G)[i]? = some z := by
  unfold numsOf
  rw [List.getElem?_map, List.getElem?_range hi]
  show some ((G.lookup i).getD 0) = some z
  rw [h]
  rfl
theorem Gath.look {i : Nat} {G : List (Nat × Int)} (h : Gath D m W L i G) {q : Nat × Int} (hq : q ∈ G) : G.lookup q.1 = some q.2 := by
  obtain ⟨j, hj⟩ := List.mem_iff_getElem?.mp hq
  exact look_at h.nd hj
theorem Gath.all {G : List (Nat × Int)} (h : Gath D m W L L.length G) {i : Nat} (hi : i < L.length) : ∃ z, (i, z) ∈ G := by
  obtain ⟨q, hq, e⟩ := List.mem_map.mp (h.upto i hi)
  exact ⟨q.2, by rw [← e]; exact hq⟩
theorem Gath.done {G : List (Nat × Int)} (h : Gath D m W L L.length G) (hL : Lands D m L) : Filled D m W L (numsOf L G) := by
  refine ⟨by simp [numsOf], fun i hi => ?_, fun i j l l' e hi he hj hm => ?_, fun a ha => ?_, fun e he => ?_⟩
  · have hl := (List.getElem?_eq_some_iff.mp hi).1
    obtain ⟨z, hz⟩ := h.all hl
    rw [numsOf_get hl (h.look hz), h.empty _ hz hi]
  · have hl := (List.getElem?_eq_some_iff.mp hi).1
    have hl' := (List.getElem?_eq_some_iff.mp hj).1
    obtain ⟨z, hz⟩ := h.all hl
    have t := h.told _ hz l hi e he
    rw [flat_seat hL.nd hj hm] at t
    refine ⟨z, z - netFn W e, numsOf_get hl (h.look hz), numsOf_get hl' t, by omega⟩
  · obtain ⟨i, hi, e⟩ := List.mem_map.mp ha
    obtain ⟨z, hz⟩ := h.all (List.mem_range.mp hi)
    rw [← e, h.look hz]
    exact h.nonneg _ hz
  · obtain ⟨i, l, hi, hm⟩ := hL.of he
    obtain ⟨z, hz⟩ := h.all (List.getElem?_eq_some_iff.mp hi).1
    obtain ⟨e0, q0, l0, h1, h2, h3, h4, h5⟩ := h.zero _ hz l hi e hm
    refine ⟨e0, q0.1, l0, hL.lt h2 h3, h5, h2, h3, ?_⟩
    rw [numsOf_get (h.lt q0 h1) (h.look h1), h4]
end
end RF

set_option Elab.async false
set_option linter.all false
set_option maxRecDepth 100000
set_option maxHeartbeats 1000000
namespace RF
/-! # fours and threes: places on a floor that closes on itself -/
theorem mod2 {x c : Nat} (h : x < 2 * c) : x % c = if x < c then x else x - c := by
  by_cases z : x < c
  · rw [if_pos z, Nat.mod_eq_of_lt z]
  · rw [if_neg z, Nat.mod_eq_sub_mod (by omega), Nat.mod_eq_of_lt (by omega)]
/-- going a steps on, round -/
theorem turn_inj {a j j' c : Nat} (hj : j < c) (hj' : j' < c) (h : (j + a) % c = (j' + a) % c) : j = j' := by
  rw [← Nat.add_mod_mod j, ← Nat.add_mod_mod j'] at h
  have ha : a % c < c := Nat.mod_lt _ (by omega)
  generalize a % c = b at h ha
  rw [mod2 (by omega), mod2 (by omega)] at h
  split at h <;> split at h <;> omega
theorem pl_inj {i i' x x' c : Nat} (hx : x < c) (hx' : x' < c) (h : i * c + x = i' * c + x') : i = i' ∧ x = x' := by
  have d1 : (i * c + x) / c = i := by rw [Nat.mul_comm, Nat.mul_add_div (by omega), Nat.div_eq_of_lt hx, Nat.add_zero]
  have d2 : (i' * c + x') / c = i' := by rw [Nat.mul_comm, Nat.mul_add_div (by omega), Nat.div_eq_of_lt hx', Nat.add_zero]
  have e : i = i' := by rw [← d1, ← d2, h]
  rw [e] at h
  exact ⟨e, by omega⟩
theorem pl_lt {i x r c : Nat} (hi : i < r) (hx : x < c) : i * c + x < r * c := by
  have : (i + 1) * c ≤ r * c := Nat.mul_le_mul_right c hi
  rw [Nat.add_mul] at this
  omega
/-- the row below, closed -/
def upRow (r i : Nat) : Nat := if i = 0 then r - 1 else i - 1
theorem upRow_lt {r i : Nat} (h : i < r) : upRow r i < r := by
  unfold upRow
  split <;> omega
theorem upRow_inj {r i i' : Nat} (h : i < r) (h' : i' < r) (e : upRow r i = upRow r i') : i = i' := by
  unfold upRow at e
  split at e <;> split at e <;> omega
def leftP (c i j : Nat) : Nat := i * c + (j + (c - 1)) % c
def belowP (r c s i j : Nat) : Nat := upRow r i * c + (if i = 0 then (j + (c - s)) % c else j)
def slantP (r c s i j : Nat) : Nat := upRow r i * c + (if i = 0 then (j + (2 * c - 1 - s)) % c else (j + (c - 1)) % c)
def kindRow (fours : Bool) (r c s i j : Nat) : List Nat :=
  if fours then [4 * (i * c + j) + 2, 4 * (i * c + j), 4 * belowP r c s i j + 3, 4 * leftP c i j + 1]
  else [6 * (i * c + j) + 2, 6 * (i * c + j) + 4, 6 * (i * c + j)] ++ [6 * belowP r c s i j + 3, 6 * slantP r c s i j + 5, 6 * leftP c i j + 1]
section
variable {r c s i j i' j' : Nat}
theorem leftP_lt (hi : i < r) (hj : j < c) : leftP c i j < r * c := pl_lt hi (Nat.mod_lt _ (by omega))
theorem belowP_lt (hi : i < r) (hj : j < c) : belowP r c s i j < r * c := by
  refine pl_lt (upRow_lt hi) ?_
  split
  · exact Nat.mod_lt _ (by omega)
  · exact hj
theorem slantP_lt (hi : i < r) (hj : j < c) : slantP r c s i j < r * c := by
  refine pl_lt (upRow_lt hi) ?_
  split <;> exact Nat.mod_lt _ (by omega)
theorem leftP_inj (hj : j < c) (hj' : j' < c) (h : leftP c i j = leftP c i' j') : i = i' ∧ j = j' := by
  obtain ⟨h1, h2⟩ := pl_inj (Nat.mod_lt _ (by omega)) (Nat.mod_lt _ (by omega)) h
  exact ⟨h1, turn_inj hj hj' h2⟩
theorem belowP_inj (hi : i < r) (hi' : i' < r) (hj : j < c) (hj' : j' < c) (h : belowP r c s i j = belowP r c s i' j') : i = i' ∧ j = j' := by
  obtain ⟨h1, h2⟩ := pl_inj (by split; exact Nat.mod_lt _ (by omega); exact hj) (by split; exact Nat.mod_lt _ (by omega); exact hj') h
  have e := upRow_inj hi hi' h1
  subst e
  refine ⟨rfl, ?_⟩
  by_cases z : i = 0
  · rw [if_pos z, if_pos z] at h2
    exact turn_inj hj hj' h2
  · rw [if_neg z, if_neg z] at h2
    exact h2
theorem slantP_inj (hi : i < r) (hi' : i' < r) (hj : j < c) (hj' : j' < c) (h : slantP r c s i j = slantP r c s i' j') : i = i' ∧ j = j' := by
  obtain ⟨h1, h2⟩ := pl_inj (by split <;> exact Nat.mod_lt _ (by omega)) (by split <;> exact Nat.mod_lt _ (by omega)) h
  have e := upRow_inj hi hi' h1
  subst e
  refine ⟨rfl, ?_⟩
  by_cases z : i = 0
  · rw [if_pos z, if_pos z] at h2
    exact turn_inj hj hj' h2
  · rw [if_neg z, if_neg z] at h2
    exact turn_inj hj hj' h2
end
def kindTies (fours : Bool) : Nat := if fours then 2 else 3
def kindEnds (fours : Bool) : Nat := if fours then 4 else 6
theorem kindRow_len (f : Bool) (r c s i j : Nat) : (kindRow f r c s i j).length = kindEnds f := by
  cases f <;> rfl
theorem kindRow_nodup (f : Bool) (r c s i j : Nat) : (kindRow f r c s i j).Nodup := by
  cases f
  · simp [kindRow]
    omega
  · simp [kindRow]
    omega
theorem kindRow_lt (f : Bool) {r c s i j : Nat} (hi : i < r) (hj : j < c) : ∀ x ∈ kindRow f r c s i j, x < kindEnds f * (r * c) := by
  have h0 := pl_lt hi hj
  have h1 := leftP_lt hi hj
  have h2 := belowP_lt (s := s) hi hj
  have h3 := slantP_lt (s := s) hi hj
  intro x hx
  cases f
  · simp [kindRow] at hx
    unfold kindEnds
    rw [if_neg (by simp)]
    omega
  · simp [kindRow] at hx
    unfold kindEnds
    rw [if_pos rfl]
    omega
theorem kindRow_disj (f : Bool) {r c s i j i' j' : Nat} (hi : i < r) (hi' : i' < r) (hj : j < c) (hj' : j' < c) {x : Nat} (hx : x ∈ kindRow f r c s i j) (hx' : x ∈ kindRow f r c s i' j') : i = i' ∧ j = j' := by
  have h0 : i * c + j = i' * c + j' → i = i' ∧ j = j' := pl_inj hj hj'
  have h1 := leftP_inj (i := i) (i' := i') hj hj'
  have h2 := belowP_inj (s := s) hi hi' hj hj'
  have h3 := slantP_inj (s := s) hi hi' hj hj'
  cases f
  · simp [kindRow] at hx hx'
    rcases hx with q | q | q | q | q | q <;> rcases hx' with w | w | w | w | w | w <;> first | exact h0 (by omega) | exact h1 (by omega) | exact h2 (by omega) | exact h3 (by omega) | (exfalso; omega)
  · simp [kindRow] at hx hx'
    rcases hx with q | q | q | q <;> rcases hx' with w | w | w | w <;> first | exact h0 (by omega) | exact h1 (by omega) | exact h2 (by omega) | (exfalso; omega)
/-- the drawing, as far as the place k -/
def kindD (f : Bool) (r c s k : Nat) : List (List Nat) := (List.range k).map fun h => kindRow f r c s (h / c) (h % c)
theorem kindD_flat (f : Bool) {r c s : Nat} (hc : 0 < c) : ∀ k, k ≤ r * c → (kindD f r c s k).flatten.Nodup ∧ (∀ x ∈ (kindD f r c s k).flatten, x < kindEnds f * (r * c)) ∧ (kindD f r c s k).flatten.length = kindEnds f * k
  | 0, _ => ⟨List.nodup_nil, (fun x hx => by cases hx), rfl⟩
  | k + 1, hk => by
    obtain ⟨h1, h2, h3⟩ := kindD_flat f (r := r) (s := s) hc k (by omega)
    have row : ∀ h, h < r * c → h / c < r ∧ h % c < c := fun h hh => ⟨(Nat.div_lt_iff_lt_mul hc).mpr hh, Nat.mod_lt _ hc⟩
    have e : (kindD f r c s (k + 1)).flatten = (kindD f r c s k).flatten ++ kindRow f r c s (k / c) (k % c) := by
      unfold kindD
      rw [List.range_succ, List.map_append, List.flatten_append]
      simp
    have q := row k (by omega)
    rw [e]
    refine ⟨List.nodup_append.mpr ⟨h1, kindRow_nodup .., fun a ha b hb ab => ?_⟩, fun x hx => ?_, ?_⟩
    · obtain ⟨l, hl, hal⟩ := List.mem_flatten.mp ha
      obtain ⟨h, hh, rfl⟩ := List.mem_map.mp hl
      have hk2 := List.mem_range.mp hh
      have q2 := row h (by omega)
      rw [ab] at hal
      obtain ⟨z1, z2⟩ := kindRow_disj f q2.1 q.1 q2.2 q.2 hal hb
      have a1 := Nat.div_add_mod h c
      have a2 := Nat.div_add_mod k c
      rw [z1, z2] at a1
      omega
    · rcases List.mem_append.mp hx with z | z
      · exact h2 x z
      · exact kindRow_lt f q.1 q.2 x z
    · rw [List.length_append, h3, kindRow_len, Nat.mul_succ]
theorem kindD_ok (f : Bool) {r c s : Nat} (hc : 0 < c) : Ok (kindD f r c s (r * c)) (kindTies f * (r * c)) := by
  obtain ⟨h1, h2, h3⟩ := kindD_flat f (s := s) hc (r * c) (Nat.le_refl _)
  have e : kindEnds f * (r * c) = 2 * (kindTies f * (r * c)) := by
    have : kindEnds f = 2 * kindTies f := by cases f <;> rfl
    rw [this, Nat.mul_assoc]
  exact ok_of_nodup h1 (fun x hx => by rw [← e]; exact h2 x hx) (by rw [← e]; exact h3)
theorem kindD_length (f : Bool) (r c s k : Nat) : (kindD f r c s k).length = k := by simp [kindD]
theorem kindD_next (f : Bool) {r c s i j : Nat} (hj : j < c) : kindD f r c s (i * c + j + 1) = kindD f r c s (i * c + j) ++ [kindRow f r c s i j] := by
  unfold kindD
  rw [List.range_succ, List.map_append]
  congr 1
  show [kindRow f r c s ((i * c + j) / c) ((i * c + j) % c)] = _
  have hc : 0 < c := by omega
  rw [Nat.mul_comm i c, Nat.mul_add_div hc, Nat.div_eq_of_lt hj, Nat.add_zero, Nat.mul_add_mod, Nat.mod_eq_of_lt hj]
end RF

set_option Elab.async false
set_option linter.all false
set_option maxRecDepth 100000
set_option maxHeartbeats 1000000
namespace RF
/-! # A tie is put in -/
theorem itn_succ (f : Nat → Nat) : ∀ (n x : Nat), itn f (n + 1) x = f (itn f n x)
  | 0, x => rfl
  | n + 1, x => itn_succ f n (f x)
theorem itn_add (f : Nat → Nat) (m : Nat) : ∀ (n x : Nat), itn f (n + m) x = itn f m (itn f n x)
  | 0, x => by rw [Nat.zero_add]; rfl
  | n + 1, x => by
    rw [show n + 1 + m = (n + m) + 1 from by omega]
    exact itn_add f m n (f x)
section
variable {st : Nat → Nat} {N : Nat}
theorem itn_lt (hl : ∀ e, e < N → st e < N) {b : Nat} (hb : b < N) : ∀ n, itn st n b < N
  | 0 => hb
  | n + 1 => by
    rw [itn_succ]
    exact hl _ (itn_lt hl hb n)
theorem itn_cancel (hl : ∀ e, e < N → st e < N) (inj : ∀ a b, a < N → b < N → st a = st b → a = b) {b : Nat} (hb : b < N) : ∀ (i d : Nat), itn st i b = itn st (i + d) b → itn st d b = b
  | 0, d, h => by
    rw [Nat.zero_add] at h
    exact h.symm
  | i + 1, d, h => by
    rw [show i + 1 + d = (i + d) + 1 from by omega, itn_succ, itn_succ] at h
    exact itn_cancel hl inj hb i d (inj _ _ (itn_lt hl hb _) (itn_lt hl hb _) h)
/-- going on, one comes back -/
theorem itn_back (hl : ∀ e, e < N → st e < N) (inj : ∀ a b, a < N → b < N → st a = st b → a = b) {b : Nat} (hb : b < N) : ∃ n, itn st (n + 1) b = b := by
  refine Classical.byContradiction fun no => ?_
  have nd : ((List.range (N + 1)).map fun i => itn st i b).Nodup := nodup_map List.nodup_range fun i _ j _ e => by
    rcases Nat.lt_trichotomy i j with h | h | h
    · exfalso
      have := itn_cancel hl inj hb i (j - i) (by rw [show i + (j - i) = j from by omega]; exact e)
      exact no ⟨j - i - 1, by rw [show j - i - 1 + 1 = j - i from by omega]; exact this⟩
    · exact h
    · exfalso
      have := itn_cancel hl inj hb j (i - j) (by rw [show j + (i - j) = i from by omega]; exact e.symm)
      exact no ⟨i - j - 1, by rw [show i - j - 1 + 1 = i - j from by omega]; exact this⟩
  have := nodup_bound nd (n := N) fun x hx => by
    obtain ⟨i, _, rfl⟩ := List.mem_map.mp hx
    exact itn_lt hl hb i
  rw [List.length_map, List.length_range] at this
  omega
theorem itn_round {b k : Nat} (h : itn st (k + 1) b = b) : ∀ q, itn st ((k + 1) * q) b = b
  | 0 => rfl
  | q + 1 => by
    rw [Nat.mul_succ, itn_add, itn_round h q]
    exact h
theorem itn_mod {b k : Nat} (h : itn st (k + 1) b = b) (n : Nat) : itn st n b = itn st (n % (k + 1)) b := by
  conv => lhs; rw [← Nat.div_add_mod n (k + 1), itn_add, itn_round h]
end
section
variable {D : Dw} {m : Nat}
theorem land_reach (ok : Ok D m) {L : List (List Nat)} (hL : Lands D m L) {i : Nat} {l : List Nat} (hi : L[i]? = some l) {a b : Nat} (ha : a ∈ l) (hb : b ∈ l) : ∃ n, itn (stp D) n b = a := by
  have hb2 := hL.lt hi hb
  have lt : ∀ e, e < 2 * m → stp D e < 2 * m := fun e he => ok.stp_lt he
  have inj : ∀ a b, a < 2 * m → b < 2 * m → stp D a = stp D b → a = b := fun a b ha hb e => ok.stp_inj ha hb e
  have q := hL.same (f := fun x => (∃ n, itn (stp D) n b = x : Prop)) (fun e he => propext ⟨fun ⟨n, hn⟩ => ?_, fun ⟨n, hn⟩ => ⟨n + 1, by rw [itn_succ, hn]⟩⟩) hi ha hb
  · rw [q]
    exact ⟨0, rfl⟩
  · cases n with
    | zero =>
      obtain ⟨k, hk⟩ := itn_back lt inj hb2
      rw [itn_succ] at hk
      exact ⟨k, inj _ _ (itn_lt lt hb2 k) he (by rw [hk]; exact hn)⟩
    | succ n =>
      rw [itn_succ] at hn
      exact ⟨n, inj _ _ (itn_lt lt hb2 n) he hn⟩
/-- two ends that no land holds both -/
def Two (D : Dw) (m : Nat) : Prop := ∃ (a b : Nat) (C : Nat → Prop), a < 2 * m ∧ b < 2 * m ∧ C a ∧ ¬ C b ∧ ∀ x, x < 2 * m → C x → C (stp D x)
theorem Two.lands (h : Two D m) (ok : Ok D m) {L : List (List Nat)} (hL : Lands D m L) (f : Nat) : ∃ e, e < 2 * m ∧ seat L e ≠ seat L f := by
  obtain ⟨a, b, C, ha, hb, ca, cb, cl⟩ := h
  refine Classical.byContradiction fun no => ?_
  have al : ∀ e, e < 2 * m → seat L e = seat L f := fun e he => Classical.not_not.mp fun w => no ⟨e, he, w⟩
  obtain ⟨i, l, hi, hal⟩ := hL.of ha
  obtain ⟨j, l', hj, hbl⟩ := hL.of hb
  have e1 := flat_seat hL.nd hi hal
  have e2 := flat_seat hL.nd hj hbl
  have ij : i = j := by rw [← e1, ← e2, al a ha, al b hb]
  rw [ij, hj] at hi
  rw [← Option.some.inj hi] at hal
  obtain ⟨n, hn⟩ := land_reach ok hL hj hbl hal
  have all : ∀ k, C (itn (stp D) k a) := fun k => by
    induction k with
    | zero => exact ca
    | succ k ih =>
      rw [itn_succ]
      exact cl _ (itn_lt (fun e he => ok.stp_lt he) ha k) ih
  exact cb (by rw [← hn]; exact all n)
end
/-! ## x is put ahead of a -/
def insR (a x : Nat) (r : List Nat) : List Nat := if a ∈ r then r.take (r.idxOf a) ++ [x] ++ r.drop (r.idxOf a) else r
def insB (D : Dw) (a x : Nat) : Dw := D.map (insR a x)
theorem insR_no {a x : Nat} {r : List Nat} (h : a ∉ r) : insR a x r = r := if_neg h
theorem insR_perm {a x : Nat} {r : List Nat} (h : a ∈ r) : (insR a x r).Perm (x :: r) := by
  unfold insR
  rw [if_pos h, List.append_assoc]
  have := List.perm_middle (a := x) (l₁ := r.take (r.idxOf a)) (l₂ := r.drop (r.idxOf a))
  rwa [List.take_append_drop] at this
theorem insB_no {D : Dw} {a x : Nat} (h : a ∉ D.flatten) : insB D a x = D := by
  unfold insB
  conv => rhs; rw [← List.map_id D]
  refine List.map_congr_left fun r hr => insR_no fun ha => h (List.mem_flatten.mpr ⟨r, hr, ha⟩)
theorem insB_perm : ∀ {D : Dw} {a x : Nat}, D.flatten.Nodup → a ∈ D.flatten → (insB D a x).flatten.Perm (x :: D.flatten)
  | [], a, x, _, h => by cases h
  | r :: D, a, x, nd, h => by
    rw [List.flatten_cons] at nd h
    have nd2 := List.nodup_append.mp nd
    show (insR a x r ++ (insB D a x).flatten).Perm (x :: (r ++ D.flatten))
    by_cases ha : a ∈ r
    · rw [insB_no fun w => nd2.2.2 a ha a w rfl]
      exact (insR_perm ha).append_right _
    · rw [insR_no ha]
      have hD : a ∈ D.flatten := (List.mem_append.mp h).resolve_left ha
      exact ((insB_perm nd2.2.1 hD).append_left r).trans List.perm_middle
theorem insB_length (D : Dw) (a x : Nat) : (insB D a x).length = D.length := List.length_map ..
theorem insB_get {D : Dw} {a x p : Nat} {r : List Nat} (h : D[p]? = some r) : (insB D a x)[p]? = some (insR a x r) := by
  unfold insB
  rw [List.getElem?_map, h]
  rfl
theorem insAt_get {r : List Nat} {i x k : Nat} (hi : i ≤ r.length) : (r.take i ++ [x] ++ r.drop i)[k]? = if k < i then r[k]? else if k = i then some x else r[k - 1]? := by
  have l1 : (r.take i).length = i := by rw [List.length_take]; omega
  rw [List.append_assoc]
  by_cases h : k < i
  · rw [if_pos h, List.getElem?_append_left (by omega), List.getElem?_take_of_lt h]
  · rw [if_neg h, List.getElem?_append_right (by omega), l1]
    by_cases h2 : k = i
    · rw [if_pos h2, h2, Nat.sub_self]
      rfl
    · rw [if_neg h2]
      obtain ⟨d, hd⟩ : ∃ d, k - i = d + 1 := ⟨k - i - 1, by omega⟩
      rw [hd]
      show (r.drop i)[d]? = _
      rw [List.getElem?_drop]
      congr 1
      omega
theorem nxt_flat0 {D : Dw} (nd : D.flatten.Nodup) {p e i : Nat} {r : List Nat} (hr : D[p]? = some r) (hi : r[i]? = some e) : r[(i + 1) % r.length]? = some (nxt D e) := by
  have he : e ∈ r := List.mem_of_getElem? hi
  have hl : 0 < r.length := List.length_pos_of_mem he
  have er : RF.rowOf D e = r := by
    unfold RF.rowOf
    rw [flat_seat nd hr he, List.getD_eq_getElem?_getD, hr]
    rfl
  unfold nxt
  rw [er, idxOf_get (flat_row_nodup nd hr) hi, List.getD_eq_getElem?_getD, List.getElem?_eq_getElem (Nat.mod_lt _ hl)]
  rfl
section
variable {D : Dw} {a x : Nat}
theorem insB_nodup (nd : D.flatten.Nodup) (ha : a ∈ D.flatten) (hx : x ∉ D.flatten) : (insB D a x).flatten.Nodup := (insB_perm nd ha).nodup_iff.mpr (List.nodup_cons.mpr ⟨hx, nd⟩)
theorem insB_new (nd : D.flatten.Nodup) (ha : a ∈ D.flatten) (hx : x ∉ D.flatten) : nxt (insB D a x) x = a := by
  obtain ⟨r, hr, har⟩ := List.mem_flatten.mp ha
  obtain ⟨p, hp⟩ := List.mem_iff_getElem?.mp hr
  have nd' := insB_nodup nd ha hx
  have hl := List.idxOf_lt_length_of_mem har
  have e : insR a x r = r.take (r.idxOf a) ++ [x] ++ r.drop (r.idxOf a) := if_pos har
  have le : (insR a x r).length = r.length + 1 := (insR_perm har).length_eq
  have q := nxt_flat0 nd' (insB_get hp) (i := r.idxOf a) (e := x) (by rw [e, insAt_get (by omega), if_neg (by omega), if_pos rfl])
  rw [le, Nat.mod_eq_of_lt (by omega), e, insAt_get (by omega), if_neg (by omega), if_neg (by omega), Nat.add_sub_cancel, List.getElem?_eq_getElem hl, List.getElem_idxOf hl] at q
  exact (Option.some.inj q).symm
theorem insB_old (nd : D.flatten.Nodup) (ha : a ∈ D.flatten) (hx : x ∉ D.flatten) {u : Nat} (hu : u ∈ D.flatten) : nxt (insB D a x) u = if nxt D u = a then x else nxt D u := by
  obtain ⟨r, hr, hur⟩ := List.mem_flatten.mp hu
  obtain ⟨p, hp⟩ := List.mem_iff_getElem?.mp hr
  obtain ⟨j, hj⟩ := List.mem_iff_getElem?.mp hur
  have hjl := (List.getElem?_eq_some_iff.mp hj).1
  have nd' := insB_nodup nd ha hx
  have q0 := nxt_flat0 nd hp hj
  have rnd := flat_row_nodup nd hp
  by_cases har : a ∈ r
  · have hl := List.idxOf_lt_length_of_mem har
    have hia : r[r.idxOf a]? = some a := by rw [List.getElem?_eq_getElem hl, List.getElem_idxOf hl]
    have e : insR a x r = r.take (r.idxOf a) ++ [x] ++ r.drop (r.idxOf a) := if_pos har
    have le : (insR a x r).length = r.length + 1 := (insR_perm har).length_eq
    generalize r.idxOf a = i at hl hia e
    have isA : ∀ {k v : Nat}, r[k]? = some v → (v = a ↔ k = i) := fun {k v} hk => ⟨fun w => nodup_get rnd hk (by rw [w]; exact hia), fun w => by rw [w, hia] at hk; exact (Option.some.inj hk).symm⟩
    have q := nxt_flat0 nd' (insB_get hp) (i := if j < i then j else j + 1) (e := u) (by
      rw [e, insAt_get (by omega)]
      by_cases h : j < i
      · rw [if_pos h, if_pos h]
        exact hj
      · rw [if_neg h, if_neg (by omega), if_neg (by omega), Nat.add_sub_cancel]
        exact hj)
    rw [le, e, insAt_get (by omega)] at q
    by_cases h : j < i
    · rw [if_pos h, Nat.mod_eq_of_lt (by omega)] at q
      rw [Nat.mod_eq_of_lt (by omega)] at q0
      by_cases h2 : j + 1 = i
      · rw [if_neg (by omega), if_pos h2] at q
        rw [if_pos ((isA q0).mpr h2)]
        exact (Option.some.inj q).symm
      · rw [if_pos (by omega), q0] at q
        rw [if_neg fun w => h2 ((isA q0).mp w)]
        exact (Option.some.inj q).symm
    · rw [if_neg h] at q
      by_cases h2 : j + 1 < r.length
      · rw [Nat.mod_eq_of_lt (by omega), if_neg (by omega), if_neg (by omega), Nat.add_sub_cancel] at q
        rw [Nat.mod_eq_of_lt h2] at q0
        rw [q0] at q
        rw [if_neg fun w => by have := (isA q0).mp w; omega]
        exact (Option.some.inj q).symm
      · have ej : j + 1 = r.length := by omega
        rw [ej, Nat.mod_self] at q q0
        by_cases h3 : i = 0
        · rw [if_neg (by omega), if_pos h3.symm] at q
          rw [if_pos ((isA q0).mpr h3.symm)]
          exact (Option.some.inj q).symm
        · rw [if_pos (by omega), q0] at q
          rw [if_neg fun w => h3 ((isA q0).mp w).symm]
          exact (Option.some.inj q).symm
  · have q := nxt_flat0 nd' (insB_get (a := a) (x := x) hp) (i := j) (e := u) (by rw [insR_no har]; exact hj)
    rw [insR_no har, q0] at q
    rw [if_neg fun w => har (by rw [← w]; exact List.mem_of_getElem? q0)]
    exact (Option.some.inj q).symm
end
/-! ## the tie -/
def tiedD (D : Dw) (t a b : Nat) : Dw := insB (insB D a (2 * t)) b (2 * t + 1)
section
variable {D : Dw} {t a b : Nat}
theorem tied_facts (ok : Ok D t) (ha : a < 2 * t) (hb : b < 2 * t) : Ok (tiedD D t a b) (t + 1) ∧ (∀ x, x < 2 * t → stp (tiedD D t a b) x = if stp D x = a then 2 * t else if stp D x = b then 2 * t + 1 else stp D x) ∧ stp (tiedD D t a b) (2 * t) = b ∧ (a = b → stp (tiedD D t a b) (2 * t + 1) = 2 * t + 1) ∧ (a ≠ b → stp (tiedD D t a b) (2 * t + 1) = a) := by
  have ma := (ok.mem a).mpr ha
  have mb := (ok.mem b).mpr hb
  have nx : 2 * t ∉ D.flatten := fun h => by have := (ok.mem _).mp h; omega
  have p1 := insB_perm (x := 2 * t) ok.nd ma
  have nd1 := insB_nodup ok.nd ma nx
  have mb1 : b ∈ (insB D a (2 * t)).flatten := p1.mem_iff.mpr (List.mem_cons_of_mem _ mb)
  have nx1 : 2 * t + 1 ∉ (insB D a (2 * t)).flatten := fun h => by
    rcases List.mem_cons.mp (p1.mem_iff.mp h) with q | q
    · omega
    · have := (ok.mem _).mp q
      omega
  have p2 := insB_perm (x := 2 * t + 1) nd1 mb1
  have m0 : mate (2 * t) = 2 * t + 1 := by unfold mate; rw [if_pos (by omega)]
  have m1 : mate (2 * t + 1) = 2 * t := by unfold mate; rw [if_neg (by omega)]; omega
  have n0 : nxt (insB D a (2 * t)) (2 * t) = a := insB_new ok.nd ma nx
  refine ⟨ok_of_perm ?_, fun x hx => ?_, ?_, fun e => ?_, fun e => ?_⟩
  · refine p2.trans ?_
    refine ((p1.cons _).trans ?_)
    rw [show 2 * (t + 1) = 2 * t + 1 + 1 from by omega, List.range_succ, List.range_succ]
    refine (List.Perm.swap _ _ _).trans ?_
    have h := ok.perm.append (List.Perm.refl [2 * t, 2 * t + 1])
    refine List.Perm.trans ?_ (h.trans (by rw [List.append_assoc]; exact .refl _))
    exact (List.perm_append_comm (l₁ := [2 * t, 2 * t + 1]) (l₂ := D.flatten))
  · have hm := mate_lt hx
    have mm := (ok.mem (mate x)).mpr hm
    show nxt (insB (insB D a (2 * t)) b (2 * t + 1)) (mate x) = if nxt D (mate x) = a then _ else _
    rw [insB_old nd1 mb1 nx1 (p1.mem_iff.mpr (List.mem_cons_of_mem _ mm)), insB_old ok.nd ma nx mm]
    by_cases h : nxt D (mate x) = a
    · rw [if_pos h, if_pos h, if_neg (by omega)]
    · rw [if_neg h, if_neg h]
      rfl
  · show nxt (insB (insB D a (2 * t)) b (2 * t + 1)) (mate (2 * t)) = b
    rw [m0]
    exact insB_new nd1 mb1 nx1
  · show nxt (insB (insB D a (2 * t)) b (2 * t + 1)) (mate (2 * t + 1)) = 2 * t + 1
    rw [m1, insB_old nd1 mb1 nx1 (p1.mem_iff.mpr List.mem_cons_self), n0, if_pos e]
  · show nxt (insB (insB D a (2 * t)) b (2 * t + 1)) (mate (2 * t + 1)) = a
    rw [m1, insB_old nd1 mb1 nx1 (p1.mem_iff.mpr List.mem_cons_self), n0, if_neg e]
theorem tied_two (ok : Ok D t) (ha : a < 2 * t) (hb : b < 2 * t) (reach : ∃ n, itn (stp D) n b = a) : Two (tiedD D t a b) (t + 1) := by
  obtain ⟨ok2, old, s0, s1, s2⟩ := tied_facts ok ha hb
  by_cases e : a = b
  · refine ⟨2 * t + 1, 2 * t, fun x => x = 2 * t + 1, by omega, by omega, rfl, by omega, fun x _ hx => ?_⟩
    show stp _ x = _
    rw [show x = 2 * t + 1 from hx, s1 e]
  · have lt : ∀ k, itn (stp D) k b < 2 * t := fun k => itn_lt (fun e he => ok.stp_lt he) hb k
    refine ⟨2 * t, 2 * t + 1, fun x => x = 2 * t ∨ ∃ k, itn (stp D) k b = x ∧ ∀ i, i ≤ k → itn (stp D) i b ≠ a, by omega, by omega, .inl rfl, fun h => ?_, fun x _ hx => ?_⟩
    · rcases h with h | ⟨k, h, _⟩
      · omega
      · have := lt k
        omega
    · rcases hx with h | ⟨k, h, no⟩
      · rw [h, s0]
        refine .inr ⟨0, rfl, fun i hi w => ?_⟩
        rw [Nat.le_zero.mp hi] at w
        exact e w.symm
      · have xl : x < 2 * t := by rw [← h]; exact lt k
        have nx : stp D x = itn (stp D) (k + 1) b := by rw [itn_succ, h]
        rw [old x xl, nx]
        by_cases h1 : itn (stp D) (k + 1) b = a
        · rw [if_pos h1]
          exact .inl rfl
        · rw [if_neg h1]
          by_cases h2 : itn (stp D) (k + 1) b = b
          · exfalso
            obtain ⟨n, hn⟩ := reach
            rw [itn_mod h2] at hn
            exact no (n % (k + 1)) (by have := Nat.mod_lt n (show 0 < k + 1 by omega); omega) hn
          · rw [if_neg h2]
            refine .inr ⟨k + 1, rfl, fun i hi => ?_⟩
            rcases Nat.lt_or_ge k i with z | z
            · rw [show i = k + 1 from by omega]
              exact h1
            · exact no i z
theorem two_first : Two [[0, 1]] 1 := ⟨0, 1, fun x => x = 0, by omega, by omega, rfl, by omega, fun x _ hx => by rw [hx]; decide⟩
theorem ok_first : Ok [[0, 1]] 1 := ok_of_perm (.refl _)
end
end RF

set_option Elab.async false
set_option linter.all false
set_option maxRecDepth 100000
set_option maxHeartbeats 4000000
namespace RF
open PySem PySem.Spec PyProof.Rows L2 Evl
/-! ## Numbers in lists, rows, dicts -/
def ni (l : List Nat) : List V := l.map fun n => V.int ((n : Nat) : Int)
def zi (l : List Int) : List V := l.map V.int
def di (T : List (Int × V)) : List (Key × V) := T.map fun q => (Sum.inl q.1, q.2)
theorem ni_length (l : List Nat) : (ni l).length = l.length := List.length_map ..
theorem zi_length (l : List Int) : (zi l).length = l.length := List.length_map ..
theorem di_length (l : List (Int × V)) : (di l).length = l.length := List.length_map ..
theorem ni_zi (l : List Nat) : ni l = zi (l.map fun n => ((n : Nat) : Int)) := by
  unfold ni zi
  rw [List.map_map]
  rfl
theorem ni_get {l : List Nat} {i n : Nat} (h : l[i]? = some n) : (ni l)[i]? = some (.int (n : Int)) := by
  unfold ni
  rw [List.getElem?_map, h]
  rfl
theorem zi_get {l : List Int} {i : Nat} {n : Int} (h : l[i]? = some n) : (zi l)[i]? = some (.int n) := by
  unfold zi
  rw [List.getElem?_map, h]
  rfl
theorem ni_get' {l : List Nat} {i : Nat} {x : V} (h : (ni l)[i]? = some x) : ∃ n, l[i]? = some n ∧ x = .int (n : Int) := by
  unfold ni at h
  rw [List.getElem?_map] at h
  cases e : l[i]? with
  | none => rw [e] at h; cases h
  | some n => rw [e] at h; exact ⟨n, rfl, (Option.some.inj h).symm⟩
theorem zi_get' {l : List Int} {i : Nat} {x : V} (h : (zi l)[i]? = some x) : ∃ n, l[i]? = some n ∧ x = .int n := by
  unfold zi at h
  rw [List.getElem?_map] at h
  cases e : l[i]? with
  | none => rw [e] at h; cases h
  | some n => rw [e] at h; exact ⟨n, rfl, (Option.some.inj h).symm⟩
theorem ni_append (a b : List Nat) : ni (a ++ b) = ni a ++ ni b := List.map_append ..
theorem zi_append (a b : List Int) : zi (a ++ b) = zi a ++ zi b := List.map_append ..
theorem ni_set (l : List Nat) (i n : Nat) : (ni l).set i (.int (n : Int)) = ni (l.set i n) := by
  unfold ni
  rw [List.map_set]
theorem zi_set (l : List Int) (i : Nat) (n : Int) : (zi l).set i (.int n) = zi (l.set i n) := by
  unfold zi
  rw [List.map_set]
/-- a list of lists of numbers; as: where its rows stand -/
def RowsA (H : Hp) (d : Addr) (as : List Addr) (D : List (List Nat)) : Prop :=
  H d = some (.lst (as.map V.ref)) ∧ as.length = D.length ∧ ∀ (i : Nat) (a : Addr) (r : List Nat), as[i]? = some a → D[i]? = some r → H a = some (.lst (ni r))
def Rows (H : Hp) (d : Addr) (D : List (List Nat)) : Prop := ∃ as, RowsA H d as D
theorem RowsA.mono {H H' : Hp} {d : Addr} {as : List Addr} {D : List (List Nat)} (e : Ex H H') (h : RowsA H d as D) : RowsA H' d as D :=
  ⟨e _ _ h.1, h.2.1, fun i a r h1 h2 => e _ _ (h.2.2 i a r h1 h2)⟩
theorem Rows.mono {H H' : Hp} {d : Addr} {D : List (List Nat)} (e : Ex H H') (h : Rows H d D) : Rows H' d D := h.imp fun _ q => q.mono e
theorem Rows.at {H : Hp} {d : Addr} {D : List (List Nat)} (h : Rows H d D) {i : Nat} {r : List Nat} (hi : D[i]? = some r) : ∃ xs a, H d = some (.lst xs) ∧ xs.length = D.length ∧ xs[i]? = some (.ref a) ∧ H a = some (.lst (ni r)) := by
  obtain ⟨as, h1, h2, h3⟩ := h
  have hl : i < as.length := by
    rw [h2]
    exact (List.getElem?_eq_some_iff.mp hi).1
  refine ⟨_, as[i], h1, ?_, ?_, h3 i _ r (List.getElem?_eq_getElem hl) hi⟩
  · rw [List.length_map, h2]
  · rw [List.getElem?_map, List.getElem?_eq_getElem hl]
    rfl
theorem Rows.lst {H : Hp} {d : Addr} {D : List (List Nat)} (h : Rows H d D) : ∃ xs, H d = some (.lst xs) ∧ xs.length = D.length := by
  obtain ⟨as, h1, h2, _⟩ := h
  exact ⟨_, h1, by rw [List.length_map, h2]⟩
/-! ## What a def hands back -/
def RetD (kvs : List (Key × V)) (H : Hp) (Q : VK) : Prop := ∀ p H2, H p = none → Ex H H2 → H2 p = some (.dK kvs) → Q (.ref p) H2
def RetR (D : List (List Nat)) (H : Hp) (Q : VK) : Prop := ∀ p H2, H p = none → Ex H H2 → Rows H2 p D → Q (.ref p) H2
theorem RetV.mono {v : V} {H H' : Hp} {Q : VK} (e : Ex H H') (h : RetV v H Q) : RetV v H' Q := fun H2 e2 => h H2 (e.trans e2)
theorem RetL.mono {v : List V} {H H' : Hp} {Q : VK} (e : Ex H H') (h : RetL v H Q) : RetL v H' Q := fun p H2 hp e2 => h p H2 (fresh_back e hp) (e.trans e2)
/-! ## What evaluates to what -/
def EvD (te : TE) (σ : L2.St) (H : Hp) (kvs : List (Key × V)) : Prop := ∀ H1, Ex H H1 → ∀ Q : VK, (∀ p H2, H1 p = none → Ex H1 H2 → H2 p = some (.dK kvs) → Q (.ref p) H2) → te σ H1 Q
def EvR (te : TE) (σ : L2.St) (H : Hp) (D : List (List Nat)) : Prop := ∀ H1, Ex H H1 → ∀ Q : VK, (∀ p H2, H1 p = none → Ex H1 H2 → Rows H2 p D → Q (.ref p) H2) → te σ H1 Q
section
variable {K : PySem.W.Frag} {σ : L2.St} {H H' : Hp} {ta tb te td ty tx tl : TE} {t u : TT} {x y z v : V} {i j : Int}
theorem ev_add (ha : Ev ta σ H (.int i)) (hb : Ev tb σ H (.int j)) : Ev (tOp rPlus ta tb) σ H (.int (i + j)) := ev_op ha hb rv_I0
theorem ev_sub (ha : Ev ta σ H (.int i)) (hb : Ev tb σ H (.int j)) : Ev (tOp rMinus ta tb) σ H (.int (i - j)) := ev_op ha hb rv_I0
theorem ev_mul (ha : Ev ta σ H (.int i)) (hb : Ev tb σ H (.int j)) (hc : CMul i j) : Ev (tOp rTimes ta tb) σ H (.int (i * j)) := ev_op ha hb (rv_I hc)
theorem ev_mod (ha : Ev ta σ H (.int i)) (hb : Ev tb σ H (.int j)) (hc : 0 < j) : Ev (tOp rModP ta tb) σ H (.int (i % j)) := ev_op ha hb (rv_I hc)
theorem ev_div (ha : Ev ta σ H (.int i)) (hb : Ev tb σ H (.int j)) (hc : CDiv i j) : Ev (tOp rDivP ta tb) σ H (.int (i / j)) := ev_op ha hb (rv_I hc)
theorem ev_pow (ha : Ev ta σ H (.int i)) (hb : Ev tb σ H (.int j)) (hc : CPow i j) : Ev (tOp rPowP ta tb) σ H (.int (i ^ j.toNat)) := ev_op ha hb (rv_I hc)
theorem ev_neg (ha : Ev ta σ H (.int i)) : Ev (tUn rNegI ta) σ H (.int (-i)) := ev_un ha ru_neg
theorem ev_lt (ha : Ev ta σ H (.int i)) (hb : Ev tb σ H (.int j)) : Ev (tOp rLess ta tb) σ H (.bl (decide (i < j))) := ev_op ha hb rv_I0
theorem ev_gt (ha : Ev ta σ H (.int i)) (hb : Ev tb σ H (.int j)) : Ev (tOp rMore ta tb) σ H (.bl (decide (j < i))) := ev_op ha hb rv_I0
theorem ev_ge (ha : Ev ta σ H (.int i)) (hb : Ev tb σ H (.int j)) : Ev (tOp rAtLeast ta tb) σ H (.bl (decide (j ≤ i))) := ev_op ha hb rv_I0
theorem ev_eqI (ha : Ev ta σ H (.int i)) (hb : Ev tb σ H (.int j)) : Ev (tOp rEq ta tb) σ H (.bl (decide (i = j))) := by
  have h := ev_op ha hb (rv_eq (H := H) (x := V.int i) (y := V.int j) rfl)
  rw [show decide (V.int i = V.int j) = decide (i = j) from decide_eq_decide.mpr ⟨fun e => V.int.inj e, fun e => by rw [e]⟩] at h
  exact h
theorem ev_neI (ha : Ev ta σ H (.int i)) (hb : Ev tb σ H (.int j)) : Ev (tOp rNe ta tb) σ H (.bl (!decide (i = j))) := by
  have h := ev_op ha hb (rv_ne (H := H) (x := V.int i) (y := V.int j) rfl)
  rw [show decide (V.int i = V.int j) = decide (i = j) from decide_eq_decide.mpr ⟨fun e => V.int.inj e, fun e => by rw [e]⟩] at h
  exact h
theorem ev_isN (ha : Ev ta σ H x) : Ev (tOp rNone ta (tC .non)) σ H (.bl (decide (x = .non))) := ev_op ha ev_c fun H1 _ _ q => ⟨rfl, q H1 (Ex.refl H1)⟩
theorem ev_ixL {p : Addr} {xs : List V} {k : Nat} (ha : Ev ta σ H (.ref p)) (hb : Ev tb σ H (.int (k : Int))) (h : SqL K H p xs) (hx : xs[k]? = some v) : Ev (tOp (rIxL K) ta tb) σ H v := ev_op ha hb (rv_ixL h (atI_nat hx))
theorem ev_ixI {p : Addr} {xs : List V} {k : Int} (ha : Ev ta σ H (.ref p)) (hb : Ev tb σ H (.int k)) (h : SqL K H p xs) (hx : atI xs k = some v) : Ev (tOp (rIxL K) ta tb) σ H v := ev_op ha hb (rv_ixL h hx)
theorem ev_ixU {p : Addr} {xs : List V} {k : Nat} (ha : Ev ta σ H (.ref p)) (hb : Ev tb σ H (.int (k : Int))) (h : SqT K H p xs) (hx : xs[k]? = some v) : Ev (tOp (rIxT K) ta tb) σ H v := ev_op ha hb (rv_ixT h (atI_nat hx))
theorem atI_int {xs : List V} {k : Int} {j : Nat} (e : k = (j : Int)) (h : xs[j]? = some v) : atI xs k = some v := by
  rw [e]
  exact atI_nat h
theorem atI_back {xs : List V} {k : Int} {j : Nat} (h0 : k < 0) (e : k + (xs.length : Int) = (j : Int)) (h : xs[j]? = some v) : atI xs k = some v := by
  have hj := (List.getElem?_eq_some_iff.mp h).1
  unfold atI ixN
  rw [if_neg (by omega), if_pos (by omega)]
  show xs[(k + xs.length).toNat]? = some v
  rw [show (k + xs.length).toNat = j by omega]
  exact h
/-! dicts -/
theorem ev_dget {a : Addr} {kvs : List (Key × V)} (hd : Ev td σ H (.ref a)) (hk : Ev ty σ H (.int i)) (h : Rd H a (.dK kvs)) (hv : valV kvs (.inl i) = some v) : Ev (tDGet td ty) σ H v := fun H1 e Q q =>
  hd H1 e _ fun H2 e2 => hk H2 (e.trans e2) _ fun H3 e3 => ⟨a, v, rfl, .inl ⟨kvs, .inl i, ex_rd ((e.trans e2).trans e3) h, rfl, hv.symm⟩, q H3 (e2.trans e3)⟩
theorem ev_din {a : Addr} {kvs : List (Key × V)} (hk : Ev ty σ H (.int i)) (hd : Ev td σ H (.ref a)) (h : Rd H a (.dK kvs)) : Ev (tDIn ty td) σ H (.bl (valV kvs (.inl i)).isSome) := fun H1 e Q q =>
  hk H1 e _ fun H2 e2 => hd H2 (e.trans e2) _ fun H3 e3 => ⟨a, _, rfl, .inl ⟨kvs, .inl i, ex_rd ((e.trans e2).trans e3) h, rfl, rfl⟩, q H3 (e2.trans e3)⟩
theorem ev_dnin {a : Addr} {kvs : List (Key × V)} (hk : Ev ty σ H (.int i)) (hd : Ev td σ H (.ref a)) (h : Rd H a (.dK kvs)) : Ev (tDNotIn ty td) σ H (.bl (!(valV kvs (.inl i)).isSome)) := fun H1 e Q q =>
  hk H1 e _ fun H2 e2 => hd H2 (e.trans e2) _ fun H3 e3 => ⟨a, _, rfl, .inl ⟨kvs, .inl i, ex_rd ((e.trans e2).trans e3) h, rfl, rfl⟩, q H3 (e2.trans e3)⟩
theorem ed_new : EvD tDNewK σ H [] := fun H1 e Q q p hp => q p _ hp (Ex.new hp) upd_same
theorem ed_disp (hk : Ev ta σ H (.int i)) (hv : Ev tb σ H v) : EvD (tDisp [(ta, tb)]) σ H [(.inl i, v)] := fun H1 e Q q p hp => by
  have e1 := Ex.new (o := HO.dK []) hp
  refine hk _ (e.trans e1) _ fun H2 e2 => hv H2 ((e.trans e1).trans e2) _ fun H3 e3 => ?_
  refine ⟨e3 _ _ (e2 _ _ upd_same), [(.inl i, v)], rfl, by show 1 ≤ 15; decide, ?_⟩
  exact q p _ hp (Ex.mut ((e1.trans e2).trans e3) hp) upd_same
theorem ev_lenD {a : Addr} {kvs : List (Key × V)} (hd : Ev td σ H (.ref a)) (h : H a = some (.dK kvs)) : Ev (tCB rLenDK (tCons td tNil)) σ H (.int (kvs.length : Int)) := fun H1 e Q q =>
  hd H1 e _ fun H2 e2 => ⟨a, kvs, rfl, (e.trans e2) _ _ h, q H2 e2⟩
theorem ev_sum {a : Addr} {ns : List Int} (hd : Ev td σ H (.ref a)) (h : SqL K H a (zi ns)) : Ev (tCB (rSum K) (tCons td tNil)) σ H (.int ns.sum) := fun H1 e Q q =>
  hd H1 e _ fun H2 e2 => ⟨a, ns, rfl, ex_l (e.trans e2) h, q H2 e2⟩
theorem ev_sumN {ns : List Int} (hd : EvL td σ H (zi ns)) : Ev (tCB (rSum K) (tCons td tNil)) σ H (.int ns.sum) := fun H1 e Q q =>
  hd H1 e _ fun p H2 _ e2 h2 => ⟨p, ns, rfl, sq_of h2, q H2 e2⟩
theorem ev_count {a : Addr} {ns : List Int} {k : Int} (hd : Ev td σ H (.ref a)) (hk : Ev ty σ H (.int k)) (h : SqL K H a (zi ns)) : Ev (tBM K "list" (rCntI K) td (tCons ty tNil)) σ H (.int ((ns.count k : Nat) : Int)) := fun H1 e Q q =>
  hd H1 e _ fun H2 e2 => ⟨Or.inl ⟨rfl, _, ex_l (e.trans e2) h⟩, hk H2 (e.trans e2) _ fun H3 e3 => ⟨a, ns, k, rfl, rfl, ex_l ((e.trans e2).trans e3) h, q H3 (e2.trans e3)⟩⟩
/-! lists that are made -/
theorem el_rep {xs : List V} {k : Nat} (ha : EvL ta σ H xs) (hb : Ev tb σ H (.int (k : Int))) (hz : xs.length * k ≤ 100000) (hk : k ≤ 100000) : EvL (tOp rRep ta tb) σ H (List.replicate k xs).flatten := fun H1 e Q q =>
  ha H1 e _ fun p H2 hp e2 h2 => hb H2 (e.trans e2) _ fun H3 e3 => ⟨p, (k : Int), xs, rfl, rfl, e3 _ _ h2, by omega, by omega, sz_of (by simpa using hz), fun r hr => by
    have z := q r (upd H3 r (.lst (List.replicate ((k : Int)).toNat xs).flatten)) (fresh_back (e2.trans e3) hr) ((e2.trans e3).trans (Ex.new hr)) (by rw [upd_same]; simp)
    exact z⟩
theorem rep_one (k : Nat) (v : V) : (List.replicate k [v]).flatten = List.replicate k v := by
  induction k with
  | zero => rfl
  | succ k ih => rw [List.replicate_succ, List.flatten_cons, ih, List.replicate_succ]; rfl
theorem el_rep1 {k : Nat} (ha : Ev ta σ H v) (hb : Ev tb σ H (.int (k : Int))) (hk : k ≤ 100000) : EvL (tOp rRep (tLst (tCons ta tNil)) tb) σ H (List.replicate k v) := by
  have h := el_rep (el_lst (ea_cons ha ea_nil) (by show 1 ≤ 100000; omega)) hb (by show 1 * k ≤ 100000; omega) hk
  rw [rep_one] at h
  exact h
theorem el_cat {xs ys : List V} (ha : EvL ta σ H xs) (hb : EvL tb σ H ys) (hz : xs.length + ys.length ≤ 100000) : EvL (tOp rCat ta tb) σ H (xs ++ ys) := fun H1 e Q q =>
  ha H1 e _ fun p H2 hp e2 h2 => hb H2 (e.trans e2) _ fun r H3 hr e3 h3 => ⟨p, r, xs, ys, rfl, rfl, e3 _ _ h2, h3, sz_of hz, fun s hs => q s _ (fresh_back (e2.trans e3) hs) ((e2.trans e3).trans (Ex.new hs)) upd_same⟩
/-- a name that holds a list, as the operand of + -/
theorem el_catV {xs ys : List V} {p : Addr} (ha : EvL ta σ H xs) (hb : Ev tb σ H (.ref p)) (h : H p = some (.lst ys)) (hz : xs.length + ys.length ≤ 100000) : EvL (tOp rCat ta tb) σ H (xs ++ ys) := fun H1 e Q q =>
  ha H1 e _ fun r H2 hr e2 h2 => hb H2 (e.trans e2) _ fun H3 e3 => ⟨r, p, xs, ys, rfl, rfl, e3 _ _ h2, (e.trans (e2.trans e3)) _ _ h, sz_of hz, fun s hs => q s _ (fresh_back (e2.trans e3) hs) ((e2.trans e3).trans (Ex.new hs)) upd_same⟩
theorem el_Vcat {xs ys : List V} {p : Addr} (ha : Ev ta σ H (.ref p)) (h : H p = some (.lst xs)) (hb : EvL tb σ H ys) (hz : xs.length + ys.length ≤ 100000) : EvL (tOp rCat ta tb) σ H (xs ++ ys) := fun H1 e Q q =>
  ha H1 e _ fun H2 e2 => hb H2 (e.trans e2) _ fun r H3 hr e3 h3 => ⟨p, r, xs, ys, rfl, rfl, (e.trans (e2.trans e3)) _ _ h, h3, sz_of hz, fun s hs => q s _ (fresh_back (e2.trans e3) hs) ((e2.trans e3).trans (Ex.new hs)) upd_same⟩
theorem el_Vrep {xs : List V} {p : Addr} {k : Nat} (ha : Ev ta σ H (.ref p)) (h : H p = some (.lst xs)) (hb : Ev tb σ H (.int (k : Int))) (hz : xs.length * k ≤ 100000) (hk : k ≤ 100000) : EvL (tOp rRep ta tb) σ H (List.replicate k xs).flatten := fun H1 e Q q =>
  ha H1 e _ fun H2 e2 => hb H2 (e.trans e2) _ fun H3 e3 => ⟨p, (k : Int), xs, rfl, rfl, (e.trans (e2.trans e3)) _ _ h, by omega, by omega, sz_of (by simpa using hz), fun r hr => by
    exact q r (upd H3 r (.lst (List.replicate ((k : Int)).toNat xs).flatten)) (fresh_back (e2.trans e3) hr) ((e2.trans e3).trans (Ex.new hr)) (by rw [upd_same]; simp)⟩
theorem el_range {n : Nat} (ha : Ev ta σ H (.int (n : Int))) (hn : n ≤ 100000) : EvL (tLstRg (tRg1 ta)) σ H (ni (List.range n)) := fun H1 e Q q =>
  ha H1 e _ fun H2 e2 => ⟨(n : Int), rfl, RgOk.of_le (by omega) (by omega) (by omega) (by omega), fun r hr => by
    refine q r _ (fresh_back e2 hr) (e2.trans (Ex.new hr)) ?_
    rw [upd_same]
    unfold rgV ni
    rw [show ((n : Int) - 0).toNat = n by omega]
    congr 2
    exact List.map_congr_left fun i _ => by rw [Int.zero_add]⟩
theorem el_rev {a : Addr} {xs : List V} (ha : Ev ta σ H (.ref a)) (h : SqL K H a xs) : EvL (tRevL K ta) σ H xs.reverse := fun H1 e Q q =>
  ha H1 e _ fun H2 e2 => ⟨a, xs, rfl, ex_l (e.trans e2) h, fun r hr => q r _ (fresh_back e2 hr) (e2.trans (Ex.new hr)) upd_same⟩
/-! calls -/
def SpD (sp : Sp) (vs : List V) (H : Hp) (kvs : List (Key × V)) : Prop := ∀ H1, Ex H H1 → ∀ Q : VK, (∀ p H2, H1 p = none → Ex H1 H2 → H2 p = some (.dK kvs) → Q (.ref p) H2) → ∀ E : XK, sp vs H1 Q E
def SpR (sp : Sp) (vs : List V) (H : Hp) (D : List (List Nat)) : Prop := ∀ H1, Ex H H1 → ∀ Q : VK, (∀ p H2, H1 p = none → Ex H1 H2 → Rows H2 p D → Q (.ref p) H2) → ∀ E : XK, sp vs H1 Q E
theorem ed_call {sp : Sp} {vs : List V} {kvs : List (Key × V)} {E : XK} {tg : TA} (h : EvA tg σ H vs) (hs : SpD sp vs H kvs) : EvD (tCall sp [] E tg) σ H kvs := fun H1 e Q q =>
  h H1 e _ fun H2 e2 => by
    rw [List.append_nil]
    exact hs H2 (e.trans e2) Q (fun p H3 hp e3 h3 => q p H3 (fresh_back e2 hp) (e2.trans e3) h3) E
theorem er_call {sp : Sp} {vs : List V} {D : List (List Nat)} {E : XK} {tg : TA} (h : EvA tg σ H vs) (hs : SpR sp vs H D) : EvR (tCall sp [] E tg) σ H D := fun H1 e Q q =>
  h H1 e _ fun H2 e2 => by
    rw [List.append_nil]
    exact hs H2 (e.trans e2) Q (fun p H3 hp e3 h3 => q p H3 (fresh_back e2 hp) (e2.trans e3) h3) E
theorem ev_f {sp : Sp} {vs : List V} {E : XK} {tg : TA} (h : EvA tg σ H vs) (hs : SpV sp vs H z) : Ev (tCall sp [] E tg) σ H z := ev_call h (by rw [List.append_nil]; exact hs)
theorem el_f {sp : Sp} {vs xs : List V} {E : XK} {tg : TA} (h : EvA tg σ H vs) (hs : SpL sp vs H xs) : EvL (tCall sp [] E tg) σ H xs := el_call h (by rw [List.append_nil]; exact hs)
/-! statements -/
variable {D : Ends} {tu tw tz : TS} {g : TG} {n : Nat}
theorem s_asgD {kvs : List (Key × V)} (h : EvD te σ H kvs) (k : ∀ p H1, H p = none → Ex H H1 → H1 p = some (.dK kvs) → D.nx (σ.set n (some (.ref p))) H1) : tAsg te (gName n) D σ H := h H (Ex.refl H) _ fun p H1 hp e h1 => k p H1 hp e h1
theorem s_asgR {B : List (List Nat)} (h : EvR te σ H B) (k : ∀ p H1, H p = none → Ex H H1 → Rows H1 p B → D.nx (σ.set n (some (.ref p))) H1) : tAsg te (gName n) D σ H := h H (Ex.refl H) _ fun p H1 hp e h1 => k p H1 hp e h1
theorem q_asgD {kvs : List (Key × V)} (h : EvD te σ H kvs) (k : ∀ p H1, H p = none → Ex H H1 → H1 p = some (.dK kvs) → tz D (σ.set n (some (.ref p))) H1) : tSeq (tAsg te (gName n)) tz D σ H := s_asgD (D := { D with nx := tz D }) h k
theorem q_asgR {B : List (List Nat)} (h : EvR te σ H B) (k : ∀ p H1, H p = none → Ex H H1 → Rows H1 p B → tz D (σ.set n (some (.ref p))) H1) : tSeq (tAsg te (gName n)) tz D σ H := s_asgR (D := { D with nx := tz D }) h k
/-- d[k] = v -/
theorem s_dput {a : Addr} {kvs : List (Key × V)} (hv : Ev tx σ H v) (hd : Ev td σ H (.ref a)) (hk : Ev ty σ H (.int i)) (h : H a = some (.dK kvs)) (hz : kvs.length < 100000)
    (k : ∀ H1, Ex H H1 → D.nx σ (upd H1 a (.dK (putK kvs (.inl i) v)))) : sDPut td ty tx D σ H := hv H (Ex.refl H) _ fun H1 e1 => hd H1 e1 _ fun H2 e2 => hk H2 (e1.trans e2) _ fun H3 e3 =>
  ⟨a, _, rfl, DPut.k (k := .inl i) (((e1.trans e2).trans e3) _ _ h) (sz_lt hz), k H3 ((e1.trans e2).trans e3)⟩
theorem q_dput {a : Addr} {kvs : List (Key × V)} (hv : Ev tx σ H v) (hd : Ev td σ H (.ref a)) (hk : Ev ty σ H (.int i)) (h : H a = some (.dK kvs)) (hz : kvs.length < 100000)
    (k : ∀ H1, Ex H H1 → tz D σ (upd H1 a (.dK (putK kvs (.inl i) v)))) : tSeq (sDPut td ty tx) tz D σ H := s_dput (D := { D with nx := tz D }) hv hd hk h hz k
/-- xs[i] op= e -/
theorem s_augL {f : Int → Int → Int} {l : Addr} {xs : List V} {b c : Int} {m : Nat} (ho : Ev ta σ H (.ref l)) (hi : Ev tb σ H (.int (m : Int))) (hl : H l = some (.lst xs)) (hx : xs[m]? = some (.int b)) (he : Ev te σ H (.int c))
    (k : ∀ H1, Ex H H1 → D.nx σ (upd H1 l (.lst (xs.set m (.int (f b c)))))) : tAugS ta tb te (rIxL K) (ipI f) rSetL D σ H := ho H (Ex.refl H) _ fun H1 e1 => hi H1 e1 _ fun H2 e2 =>
  ⟨l, xs, (m : Int), .int b, rfl, rfl, sq_of ((e1.trans e2) _ _ hl), atI_nat hx, he H2 (e1.trans e2) _ fun H3 e3 => ⟨b, c, rfl, rfl, l, xs, (m : Int), m, rfl, rfl, ((e1.trans e2).trans e3) _ _ hl, ixN_nat (List.getElem?_eq_some_iff.mp hx).1, k H3 ((e1.trans e2).trans e3)⟩⟩
theorem q_augL {f : Int → Int → Int} {l : Addr} {xs : List V} {b c : Int} {m : Nat} (ho : Ev ta σ H (.ref l)) (hi : Ev tb σ H (.int (m : Int))) (hl : H l = some (.lst xs)) (hx : xs[m]? = some (.int b)) (he : Ev te σ H (.int c))
    (k : ∀ H1, Ex H H1 → tz D σ (upd H1 l (.lst (xs.set m (.int (f b c)))))) : tSeq (tAugS ta tb te (rIxL K) (ipI f) rSetL) tz D σ H := s_augL (D := { D with nx := tz D }) ho hi hl hx he k
/-- for i, x in enumerate(xs) -/
theorem s_forE {a : Addr} {xs : List V} {j1 j2 : Nat} {tg : TA} (h : EvA tg σ H [.ref a]) (hx : SqL K H a xs) (Pv : Nat → L2.St → Hp → Prop) (h0 : ∀ H1, Ex H H1 → Pv 0 σ H1) (hl : ∀ i σ' H', i ≤ xs.length → Pv i σ' H' → SqL K H' a xs)
    (hs : ∀ (i : Nat) x σ' H' H2, xs[i]? = some x → Pv i σ' H' → Ex H' H2 → tu { D with nx := Pv (i + 1), ct := Pv (i + 1), bk := D.nx } ((σ'.set j1 (some (.int (i : Int)))).set j2 (some x)) H2) (hd : ∀ σ' H', Pv xs.length σ' H' → D.nx σ' H') :
    tFor (iEnum K tg) (gTup K 2 (gCons (gName j1) (gCons (gName j2) gNil))) tu D σ H := h H (Ex.refl H) _ fun H1 e => ⟨a, xs, rfl, ex_l e hx, by
  refine ⟨fun i m σ H => m = xs.length - i ∧ i ≤ xs.length ∧ Pv i σ H, ⟨xs.length, by simp, Nat.zero_le _, h0 H1 e⟩, ?_⟩
  rintro i m σ H ⟨rfl, hi, p⟩
  have q := hl i σ H hi p
  by_cases hlt : i < xs.length
  · refine .inr ⟨⟨xs, xs[i], q, by simp [hlt]⟩, Pv (i + 1), fun σ' H' p' => ⟨xs.length - (i + 1), by omega, rfl, hlt, p'⟩, fun x H' y => ?_⟩
    obtain ⟨T, x, rfl, hT, rfl, y⟩ := y
    refine ⟨T, _, rfl, st_of upd_same, rfl, .int (i : Int), [x], rfl, x, [], rfl, rfl, ?_⟩
    exact hs i x σ H _ (y xs q) p (Ex.new hT)
  · have e : i = xs.length := by omega
    subst e
    exact .inl ⟨⟨xs, q, Nat.le_refl _⟩, hd σ H p⟩⟩
theorem q_forE {a : Addr} {xs : List V} {j1 j2 : Nat} {tg : TA} (h : EvA tg σ H [.ref a]) (hx : SqL K H a xs) (Pv : Nat → L2.St → Hp → Prop) (h0 : ∀ H1, Ex H H1 → Pv 0 σ H1) (hl : ∀ i σ' H', i ≤ xs.length → Pv i σ' H' → SqL K H' a xs)
    (hs : ∀ (i : Nat) x σ' H' H2, xs[i]? = some x → Pv i σ' H' → Ex H' H2 → tu { D with nx := Pv (i + 1), ct := Pv (i + 1), bk := tz D } ((σ'.set j1 (some (.int (i : Int)))).set j2 (some x)) H2) (hd : ∀ σ' H', Pv xs.length σ' H' → tz D σ' H') :
    tSeq (tFor (iEnum K tg) (gTup K 2 (gCons (gName j1) (gCons (gName j2) gNil))) tu) tz D σ H := s_forE (D := { D with nx := tz D }) h hx Pv h0 hl hs hd
end
end RF

set_option Elab.async false
set_option linter.all false
set_option maxRecDepth 100000
set_option maxHeartbeats 4000000
namespace RF
open PySem PySem.Spec PyProof.Rows L2 Evl
section
variable {K : PySem.W.Frag} {σ : L2.St} {H H' : Hp} {ta tb te td ty tx tl : TE} {t u : TT} {x y z v : V} {i j : Int} {D : Ends} {tu tw tz : TS} {g : TG} {n : Nat}
/-! comprehensions over a list of numbers, a range -/
/-- [f(x) for x in xs]: the general form, F by the item's place -/
theorem el_lcG {a : Addr} {xs : List V} {j : Nat} {vs : List Nat} (F : Nat → V) (h : Ev tl σ H (.ref a)) (hx : SqL K H a xs) (hz : xs.length ≤ 40000) (hw : ∀ x, wipe ((wipe σ vs).set j (some x)) vs = wipe σ vs)
    (he : ∀ (i : Nat) (x : V) H1, Ex H H1 → xs[i]? = some x → Ev te ((wipe σ vs).set j (some x)) H1 (F i)) : EvL (tLc (iList K tl) (gName j) tYes te vs) σ H ((List.range xs.length).map F) := by
  have q := el_lcL (K := K) (t := tYes) (fun _ => true) F h hx hz hw (fun i x H1 _ _ H2 _ Q q => q H2 (Ex.refl H2)) (fun i x H1 e1 e2 _ => he i x H1 e1 e2)
  have e : given xs.length (fun _ => true) F = (List.range xs.length).map F := by
    unfold given
    rw [List.filter_eq_self.mpr (fun _ _ => rfl)]
  rw [e] at q
  exact q
theorem range_map {α : Type} : ∀ (l : List α) {β : Type} (f : α → β) (F : Nat → β), (∀ i x, l[i]? = some x → F i = f x) → (List.range l.length).map F = l.map f := fun l β f F h => by
  apply List.ext_getElem?
  intro i
  rw [List.getElem?_map, List.getElem?_map]
  by_cases hi : i < l.length
  · rw [List.getElem?_range hi, List.getElem?_eq_getElem hi]
    exact congrArg some (h i _ (List.getElem?_eq_getElem hi))
  · rw [List.getElem?_eq_none (by rw [List.length_range]; omega), List.getElem?_eq_none (by omega)]
    rfl
/-- over a list of ints -/
theorem el_lcZ {a : Addr} {l : List Int} {j : Nat} {vs : List Nat} (f : Int → V) (h : Ev tl σ H (.ref a)) (hx : SqL K H a (zi l)) (hz : l.length ≤ 40000) (hw : ∀ x, wipe ((wipe σ vs).set j (some x)) vs = wipe σ vs)
    (he : ∀ (i : Nat) (n : Int) H1, Ex H H1 → l[i]? = some n → Ev te ((wipe σ vs).set j (some (.int n))) H1 (f n)) : EvL (tLc (iList K tl) (gName j) tYes te vs) σ H (l.map f) := by
  have q := el_lcG (K := K) (te := te) (fun i => f (l.getD i 0)) h hx (by rw [zi_length]; exact hz) hw (fun i x H1 e1 e2 => by
    obtain ⟨n, hn, rfl⟩ := zi_get' e2
    have := he i n H1 e1 hn
    rw [List.getD_eq_getElem?_getD, hn]
    exact this)
  rw [zi_length, range_map l f _ (fun i x hx => by rw [List.getD_eq_getElem?_getD, hx]; rfl)] at q
  exact q
theorem el_lcN {a : Addr} {l : List Nat} {j : Nat} {vs : List Nat} (f : Nat → V) (h : Ev tl σ H (.ref a)) (hx : SqL K H a (ni l)) (hz : l.length ≤ 40000) (hw : ∀ x, wipe ((wipe σ vs).set j (some x)) vs = wipe σ vs)
    (he : ∀ (i n : Nat) H1, Ex H H1 → l[i]? = some n → Ev te ((wipe σ vs).set j (some (.int (n : Int)))) H1 (f n)) : EvL (tLc (iList K tl) (gName j) tYes te vs) σ H (l.map f) := by
  have q := el_lcG (K := K) (te := te) (fun i => f (l.getD i 0)) h hx (by rw [ni_length]; exact hz) hw (fun i x H1 e1 e2 => by
    obtain ⟨n, hn, rfl⟩ := ni_get' e2
    have := he i n H1 e1 hn
    rw [List.getD_eq_getElem?_getD, hn]
    exact this)
  rw [ni_length, range_map l f _ (fun i x hx => by rw [List.getD_eq_getElem?_getD, hx]; rfl)] at q
  exact q
/-- over range(n) -/
theorem el_lcR {k : Nat} {j : Nat} {vs : List Nat} (F : Nat → V) (h : Ev ta σ H (.int (k : Int))) (hk : k ≤ 40000) (hw : ∀ x, wipe ((wipe σ vs).set j (some x)) vs = wipe σ vs)
    (he : ∀ (i : Nat) H1, Ex H H1 → i < k → Ev te ((wipe σ vs).set j (some (.int (i : Int)))) H1 (F i)) : EvL (tLc (iRng1 (tCons ta tNil)) (gName j) tYes te vs) σ H ((List.range k).map F) := by
  have q := el_lcR1 (t := tYes) (n := (k : Int)) (fun _ => true) F (ea_cons h ea_nil) ⟨by omega, by omega⟩ hw (fun i H1 _ _ H2 _ Q q => q H2 (Ex.refl H2)) (fun i H1 e1 e2 _ => he i H1 e1 (by omega))
  have e : given ((k : Int)).toNat (fun _ => true) F = (List.range k).map F := by
    unfold given
    rw [List.filter_eq_self.mpr (fun _ _ => rfl)]
    rfl
  rw [e] at q
  exact q
/-- [e for x in the rows]: numbers -/
theorem el_lcRows {d : Addr} {B : List (List Nat)} {j : Nat} {vs : List Nat} (f : List Nat → V) (h : Ev tl σ H (.ref d)) (hx : Rows H d B) (hz : B.length ≤ 40000) (hw : ∀ x, wipe ((wipe σ vs).set j (some x)) vs = wipe σ vs)
    (he : ∀ (i : Nat) (r : List Nat) (a : Addr) H1, Ex H H1 → B[i]? = some r → H1 a = some (.lst (ni r)) → Ev te ((wipe σ vs).set j (some (.ref a))) H1 (f r)) : EvL (tLc (iList K tl) (gName j) tYes te vs) σ H (B.map f) := by
  obtain ⟨as, h1, h2, h3⟩ := hx
  have q := el_lcG (K := K) (te := te) (fun i => f (B.getD i [])) h (sq_of h1) (by rw [List.length_map, h2]; exact hz) hw (fun i x H1 e1 e2 => by
    rw [List.getElem?_map] at e2
    cases ea : as[i]? with
    | none => rw [ea] at e2; cases e2
    | some a =>
      rw [ea] at e2
      rw [← Option.some.inj e2]
      have hl : i < B.length := by rw [← h2]; exact (List.getElem?_eq_some_iff.mp ea).1
      have := he i B[i] a H1 e1 (List.getElem?_eq_getElem hl) (e1 _ _ (h3 i a _ ea (List.getElem?_eq_getElem hl)))
      rw [List.getD_eq_getElem?_getD, List.getElem?_eq_getElem hl]
      exact this)
  rw [List.length_map, h2, range_map B f _ (fun i x hx => by rw [List.getD_eq_getElem?_getD, hx]; rfl)] at q
  exact q
/-- [a new list for each row that is taken] -/
theorem er_lcRows {d : Addr} {B : List (List Nat)} {j : Nat} {vs : List Nat} (b : List Nat → Bool) (f : List Nat → List Nat) (h : Ev tl σ H (.ref d)) (hx : Rows H d B) (hz : B.length ≤ 40000) (hw : ∀ x, wipe ((wipe σ vs).set j (some x)) vs = wipe σ vs)
    (ht : ∀ (i : Nat) (r : List Nat) (a : Addr) H1, Ex H H1 → B[i]? = some r → H1 a = some (.lst (ni r)) → EvT t ((wipe σ vs).set j (some (.ref a))) H1 (b r))
    (he : ∀ (i : Nat) (r : List Nat) (a : Addr) H1, Ex H H1 → B[i]? = some r → H1 a = some (.lst (ni r)) → EvL te ((wipe σ vs).set j (some (.ref a))) H1 (ni (f r))) : EvR (tLc (iList K tl) (gName j) t te vs) σ H ((B.filter b).map f) := fun H0 e0 Q q => h H0 e0 _ fun H1 e1 => by
  obtain ⟨as, h1, h2, h3⟩ := hx.mono (e0.trans e1)
  refine ⟨d, rfl, ⟨_, sq_of h1⟩, fun Dl hD => ?_⟩
  refine lc_list (K := K) (xs := as.map V.ref) (fun i H' => Ex H1 H' ∧ ∃ bs : List Addr, H' Dl = some (.lst (bs.map V.ref)) ∧ bs.length = (((B.take i).filter b).map f).length ∧ bs.length ≤ i ∧ (∀ c ∈ bs, c ≠ Dl) ∧ ∀ (k : Nat) (c : Addr) (r : List Nat), bs[k]? = some c → (((B.take i).filter b).map f)[k]? = some r → H' c = some (.lst (ni r)))
    ⟨Ex.new hD, [], upd_same, rfl, Nat.zero_le _, (fun c hc => by cases hc), (fun k c r hc _ => by simp at hc)⟩ (fun i H' _ p => sq_of (p.1 _ _ h1)) (fun i x H' hi p => ⟨hw x, ?_⟩) (fun H' p => ?_)
  · obtain ⟨p1, bs, p2, p3, p3', p4, p5⟩ := p
    rw [List.getElem?_map] at hi
    cases ea : as[i]? with
    | none => rw [ea] at hi; cases hi
    | some a =>
      rw [ea] at hi
      rw [← Option.some.inj hi]
      have hl : i < B.length := by rw [← h2]; exact (List.getElem?_eq_some_iff.mp ea).1
      have hB := List.getElem?_eq_getElem hl
      have hrow := p1 _ _ (h3 i a _ ea hB)
      have tk : B.take (i + 1) = B.take i ++ [B[i]] := by rw [List.take_add_one, hB]; rfl
      refine ht i B[i] a H' ((e0.trans e1).trans p1) hB hrow H' (Ex.refl H') _ fun H2 e2 => ?_
      cases hb : b B[i] with
      | true =>
        show te _ H2 fun y H4 => ∃ acc, H4 Dl = some (.lst acc) ∧ acc.length < sizeLine ∧ _
        refine he i B[i] a H2 (((e0.trans e1).trans p1).trans e2) hB (e2 _ _ hrow) H2 (Ex.refl H2) _ fun c H3 hc e3 h3c => ?_
        have hDl := e3 _ _ (e2 _ _ p2)
        have cne : c ≠ Dl := fun z => by
          rw [z] at hc
          rw [e2 _ _ p2] at hc
          cases hc
        refine ⟨bs.map V.ref, hDl, ?_, ?_⟩
        · rw [List.length_map]
          exact sz_lt (by omega)
        · have e4 : (((B.take (i + 1)).filter b).map f) = ((B.take i).filter b).map f ++ [f B[i]] := by
            rw [tk, List.filter_append, List.map_append]
            congr 1
            simp [hb]
          refine ⟨Ex.mut (p1.trans (e2.trans e3)) hD, bs ++ [c], ?_, ?_, ?_, ?_, ?_⟩
          · rw [upd_same, List.map_append]
            rfl
          · rw [e4, List.length_append, List.length_append, p3]
            rfl
          · rw [List.length_append]
            exact Nat.succ_le_succ p3'
          · intro c' hc'
            rcases List.mem_append.mp hc' with z | z
            · exact p4 c' z
            · rw [List.mem_singleton.mp z]
              exact cne
          · intro k c' r hk hr
            rw [e4] at hr
            by_cases hkl : k < bs.length
            · rw [List.getElem?_append_left hkl] at hk
              rw [List.getElem?_append_left (by omega)] at hr
              rw [upd_ne (p4 c' (List.mem_of_getElem? hk))]
              exact e3 _ _ (e2 _ _ (p5 k c' r hk hr))
            · have hk1 := (List.getElem?_eq_some_iff.mp hk).1
              rw [List.length_append, List.length_singleton] at hk1
              have ek : k = bs.length := by omega
              rw [List.getElem?_append_right (by omega), ek, Nat.sub_self] at hk
              rw [List.getElem?_append_right (by omega), ek, ← p3, Nat.sub_self] at hr
              rw [← Option.some.inj hk, ← Option.some.inj hr, upd_ne cne]
              exact h3c
      | false =>
        show Ex H1 H2 ∧ _
        have e4 : (((B.take (i + 1)).filter b).map f) = ((B.take i).filter b).map f := by
          rw [tk, List.filter_append, List.map_append]
          simp [hb]
        rw [e4]
        exact ⟨p1.trans e2, bs, e2 _ _ p2, p3, by omega, p4, fun k c r hk hr => e2 _ _ (p5 k c r hk hr)⟩
  · obtain ⟨p1, bs, p2, p3, p3', p4, p5⟩ := p
    have el : (as.map V.ref).length = B.length := by rw [List.length_map, h2]
    rw [el, List.take_length] at p3 p5
    exact q Dl H' (fresh_back e1 hD) (e1.trans p1) ⟨bs, p2, p3, p5⟩
/-- two lists of rows, one behind another -/
theorem er_cat {A B : List (List Nat)} {p : Addr} (ha : Ev ta σ H (.ref p)) (hA : Rows H p A) (hb : EvR tb σ H B) (hz : A.length + B.length ≤ 100000) : EvR (tOp rCat ta tb) σ H (A ++ B) := fun H1 e Q q =>
  ha H1 e _ fun H2 e2 => hb H2 (e.trans e2) _ fun r H3 hr e3 h3 => by
    obtain ⟨as, a1, a2, a3⟩ := hA.mono ((e.trans e2).trans e3)
    obtain ⟨bs, b1, b2, b3⟩ := h3
    refine ⟨p, r, _, _, rfl, rfl, a1, b1, ?_, fun s hs => ?_⟩
    · rw [List.length_map, List.length_map, a2, b2]
      exact sz_of hz
    · have e4 := Ex.new (o := HO.lst (as.map V.ref ++ bs.map V.ref)) hs
      refine q s _ (fresh_back (e2.trans e3) hs) ((e2.trans e3).trans e4) ⟨as ++ bs, ?_, ?_, fun k c r' hk hr' => ?_⟩
      · rw [upd_same, List.map_append]
      · rw [List.length_append, List.length_append, a2, b2]
      · by_cases hkl : k < as.length
        · rw [List.getElem?_append_left hkl] at hk
          rw [List.getElem?_append_left (by omega)] at hr'
          exact e4 _ _ (a3 k c r' hk hr')
        · rw [List.getElem?_append_right (by omega)] at hk
          rw [List.getElem?_append_right (by omega), ← a2] at hr'
          exact e4 _ _ (b3 _ c r' hk hr')
/-! loops over rows, over numbers -/
theorem s_forRows {d : Addr} {B : List (List Nat)} {j : Nat} (h : Ev tl σ H (.ref d)) {H0 : Hp} (hx : Rows H0 d B) (Pv : Nat → L2.St → Hp → Prop) (h0 : ∀ H1, Ex H H1 → Pv 0 σ H1) (hl : ∀ i σ' H', Pv i σ' H' → Ex H0 H')
    (hs : ∀ (i : Nat) (r : List Nat) (a : Addr) σ' H', B[i]? = some r → H0 a = some (.lst (ni r)) → Pv i σ' H' → tu { D with nx := Pv (i + 1), ct := Pv (i + 1), bk := D.nx } (σ'.set j (some (.ref a))) H') (hd : ∀ σ' H', Pv B.length σ' H' → D.nx σ' H') : tFor (iList K tl) (gName j) tu D σ H := by
  obtain ⟨as, h1, h2, h3⟩ := hx
  refine s_forLn (K := K) (xs := as.map V.ref) h (sq_of (hl 0 σ H (h0 H (Ex.refl H)) _ _ h1)) Pv h0 (fun i σ' H' _ p => sq_of (hl i σ' H' p _ _ h1)) (fun i x σ' H' hi p => ?_) (fun σ' H' p => ?_)
  · rw [List.getElem?_map] at hi
    cases ea : as[i]? with
    | none => rw [ea] at hi; cases hi
    | some a =>
      rw [ea] at hi
      rw [← Option.some.inj hi]
      have hb : i < B.length := by rw [← h2]; exact (List.getElem?_eq_some_iff.mp ea).1
      exact hs i B[i] a σ' H' (List.getElem?_eq_getElem hb) (h3 i a _ ea (List.getElem?_eq_getElem hb)) p
  · rw [List.length_map, h2] at p
    exact hd σ' H' p
theorem q_forRows {d : Addr} {B : List (List Nat)} {j : Nat} (h : Ev tl σ H (.ref d)) {H0 : Hp} (hx : Rows H0 d B) (Pv : Nat → L2.St → Hp → Prop) (h0 : ∀ H1, Ex H H1 → Pv 0 σ H1) (hl : ∀ i σ' H', Pv i σ' H' → Ex H0 H')
    (hs : ∀ (i : Nat) (r : List Nat) (a : Addr) σ' H', B[i]? = some r → H0 a = some (.lst (ni r)) → Pv i σ' H' → tu { D with nx := Pv (i + 1), ct := Pv (i + 1), bk := tz D } (σ'.set j (some (.ref a))) H') (hd : ∀ σ' H', Pv B.length σ' H' → tz D σ' H') : tSeq (tFor (iList K tl) (gName j) tu) tz D σ H :=
  s_forRows (D := { D with nx := tz D }) h hx Pv h0 hl hs hd
theorem s_forN {a : Addr} {l : List Nat} {j : Nat} (h : Ev tl σ H (.ref a)) {H0 : Hp} (hx : SqL K H0 a (ni l)) (Pv : Nat → L2.St → Hp → Prop) (h0 : ∀ H1, Ex H H1 → Pv 0 σ H1) (hl : ∀ i σ' H', Pv i σ' H' → Ex H0 H')
    (hs : ∀ (i n : Nat) σ' H', l[i]? = some n → Pv i σ' H' → tu { D with nx := Pv (i + 1), ct := Pv (i + 1), bk := D.nx } (σ'.set j (some (.int (n : Int)))) H') (hd : ∀ σ' H', Pv l.length σ' H' → D.nx σ' H') : tFor (iList K tl) (gName j) tu D σ H :=
  s_forLn (K := K) h (ex_l (hl 0 σ H (h0 H (Ex.refl H))) hx) Pv h0 (fun i σ' H' _ p => ex_l (hl i σ' H' p) hx) (fun i x σ' H' hi p => by
    obtain ⟨n, hn, rfl⟩ := ni_get' hi
    exact hs i n σ' H' hn p) (fun σ' H' p => hd σ' H' (by rw [ni_length] at p; exact p))
theorem q_forN {a : Addr} {l : List Nat} {j : Nat} (h : Ev tl σ H (.ref a)) {H0 : Hp} (hx : SqL K H0 a (ni l)) (Pv : Nat → L2.St → Hp → Prop) (h0 : ∀ H1, Ex H H1 → Pv 0 σ H1) (hl : ∀ i σ' H', Pv i σ' H' → Ex H0 H')
    (hs : ∀ (i n : Nat) σ' H', l[i]? = some n → Pv i σ' H' → tu { D with nx := Pv (i + 1), ct := Pv (i + 1), bk := tz D } (σ'.set j (some (.int (n : Int)))) H') (hd : ∀ σ' H', Pv l.length σ' H' → tz D σ' H') : tSeq (tFor (iList K tl) (gName j) tu) tz D σ H :=
  s_forN (D := { D with nx := tz D }) h hx Pv h0 hl hs hd
theorem s_forZ {a : Addr} {l : List Int} {j : Nat} (h : Ev tl σ H (.ref a)) {H0 : Hp} (hx : SqL K H0 a (zi l)) (Pv : Nat → L2.St → Hp → Prop) (h0 : ∀ H1, Ex H H1 → Pv 0 σ H1) (hl : ∀ i σ' H', Pv i σ' H' → Ex H0 H')
    (hs : ∀ (i : Nat) (n : Int) σ' H', l[i]? = some n → Pv i σ' H' → tu { D with nx := Pv (i + 1), ct := Pv (i + 1), bk := D.nx } (σ'.set j (some (.int n))) H') (hd : ∀ σ' H', Pv l.length σ' H' → D.nx σ' H') : tFor (iList K tl) (gName j) tu D σ H :=
  s_forLn (K := K) h (ex_l (hl 0 σ H (h0 H (Ex.refl H))) hx) Pv h0 (fun i σ' H' _ p => ex_l (hl i σ' H' p) hx) (fun i x σ' H' hi p => by
    obtain ⟨n, hn, rfl⟩ := zi_get' hi
    exact hs i n σ' H' hn p) (fun σ' H' p => hd σ' H' (by rw [zi_length] at p; exact p))
theorem q_forZ {a : Addr} {l : List Int} {j : Nat} (h : Ev tl σ H (.ref a)) {H0 : Hp} (hx : SqL K H0 a (zi l)) (Pv : Nat → L2.St → Hp → Prop) (h0 : ∀ H1, Ex H H1 → Pv 0 σ H1) (hl : ∀ i σ' H', Pv i σ' H' → Ex H0 H')
    (hs : ∀ (i : Nat) (n : Int) σ' H', l[i]? = some n → Pv i σ' H' → tu { D with nx := Pv (i + 1), ct := Pv (i + 1), bk := tz D } (σ'.set j (some (.int n))) H') (hd : ∀ σ' H', Pv l.length σ' H' → tz D σ' H') : tSeq (tFor (iList K tl) (gName j) tu) tz D σ H :=
  s_forZ (D := { D with nx := tz D }) h hx Pv h0 hl hs hd
/-- for i in range(n) -/
theorem s_forR {k : Nat} {j : Nat} (h : Ev ta σ H (.int (k : Int))) (hk : k ≤ 100000) (Pv : Nat → L2.St → Hp → Prop) (h0 : ∀ H1, Ex H H1 → Pv 0 σ H1)
    (hs : ∀ (i : Nat) σ' H', i < k → Pv i σ' H' → tu { D with nx := Pv (i + 1), ct := Pv (i + 1), bk := D.nx } (σ'.set j (some (.int (i : Int)))) H') (hd : ∀ σ' H', Pv k σ' H' → D.nx σ' H') : tFor (iRng1 (tCons ta tNil)) (gName j) tu D σ H :=
  s_forR1 (n := (k : Int)) (ea_cons h ea_nil) ⟨by omega, by omega⟩ Pv h0 (fun i σ' H' hi p => hs i σ' H' (by omega) p) hd
theorem q_forR {k : Nat} {j : Nat} (h : Ev ta σ H (.int (k : Int))) (hk : k ≤ 100000) (Pv : Nat → L2.St → Hp → Prop) (h0 : ∀ H1, Ex H H1 → Pv 0 σ H1)
    (hs : ∀ (i : Nat) σ' H', i < k → Pv i σ' H' → tu { D with nx := Pv (i + 1), ct := Pv (i + 1), bk := tz D } (σ'.set j (some (.int (i : Int)))) H') (hd : ∀ σ' H', Pv k σ' H' → tz D σ' H') : tSeq (tFor (iRng1 (tCons ta tNil)) (gName j) tu) tz D σ H :=
  s_forR (D := { D with nx := tz D }) h hk Pv h0 hs hd
/-- for i, row in enumerate(rows) -/
theorem s_forER {d : Addr} {B : List (List Nat)} {j1 j2 : Nat} (h : Ev tl σ H (.ref d)) {H0 : Hp} (hx : Rows H0 d B) (Pv : Nat → L2.St → Hp → Prop) (h0 : ∀ H1, Ex H H1 → Pv 0 σ H1) (hl : ∀ i σ' H', Pv i σ' H' → Ex H0 H')
    (hs : ∀ (i : Nat) (r : List Nat) (a : Addr) σ' H' H2, B[i]? = some r → H0 a = some (.lst (ni r)) → Pv i σ' H' → Ex H' H2 → tu { D with nx := Pv (i + 1), ct := Pv (i + 1), bk := D.nx } ((σ'.set j1 (some (.int (i : Int)))).set j2 (some (.ref a))) H2) (hd : ∀ σ' H', Pv B.length σ' H' → D.nx σ' H') :
    tFor (iEnum K (tCons tl tNil)) (gTup K 2 (gCons (gName j1) (gCons (gName j2) gNil))) tu D σ H := by
  obtain ⟨as, h1, h2, h3⟩ := hx
  refine s_forE (K := K) (xs := as.map V.ref) (ea_cons h ea_nil) (sq_of (hl 0 σ H (h0 H (Ex.refl H)) _ _ h1)) Pv h0 (fun i σ' H' _ p => sq_of (hl i σ' H' p _ _ h1)) (fun i x σ' H' H2 hi p e2 => ?_) (fun σ' H' p => ?_)
  · rw [List.getElem?_map] at hi
    cases ea : as[i]? with
    | none => rw [ea] at hi; cases hi
    | some a =>
      rw [ea] at hi
      rw [← Option.some.inj hi]
      have hb : i < B.length := by rw [← h2]; exact (List.getElem?_eq_some_iff.mp ea).1
      exact hs i B[i] a σ' H' H2 (List.getElem?_eq_getElem hb) (h3 i a _ ea (List.getElem?_eq_getElem hb)) p e2
  · rw [List.length_map, h2] at p
    exact hd σ' H' p
theorem q_forER {d : Addr} {B : List (List Nat)} {j1 j2 : Nat} (h : Ev tl σ H (.ref d)) {H0 : Hp} (hx : Rows H0 d B) (Pv : Nat → L2.St → Hp → Prop) (h0 : ∀ H1, Ex H H1 → Pv 0 σ H1) (hl : ∀ i σ' H', Pv i σ' H' → Ex H0 H')
    (hs : ∀ (i : Nat) (r : List Nat) (a : Addr) σ' H' H2, B[i]? = some r → H0 a = some (.lst (ni r)) → Pv i σ' H' → Ex H' H2 → tu { D with nx := Pv (i + 1), ct := Pv (i + 1), bk := tz D } ((σ'.set j1 (some (.int (i : Int)))).set j2 (some (.ref a))) H2) (hd : ∀ σ' H', Pv B.length σ' H' → tz D σ' H') :
    tSeq (tFor (iEnum K (tCons tl tNil)) (gTup K 2 (gCons (gName j1) (gCons (gName j2) gNil))) tu) tz D σ H := s_forER (D := { D with nx := tz D }) h hx Pv h0 hl hs hd
/-- for i, n in enumerate(numbers) -/
theorem s_forEN {a : Addr} {l : List Nat} {j1 j2 : Nat} (h : Ev tl σ H (.ref a)) {H0 : Hp} (hx : SqL K H0 a (ni l)) (Pv : Nat → L2.St → Hp → Prop) (h0 : ∀ H1, Ex H H1 → Pv 0 σ H1) (hl : ∀ i σ' H', Pv i σ' H' → Ex H0 H')
    (hs : ∀ (i n : Nat) σ' H' H2, l[i]? = some n → Pv i σ' H' → Ex H' H2 → tu { D with nx := Pv (i + 1), ct := Pv (i + 1), bk := D.nx } ((σ'.set j1 (some (.int (i : Int)))).set j2 (some (.int (n : Int)))) H2) (hd : ∀ σ' H', Pv l.length σ' H' → D.nx σ' H') :
    tFor (iEnum K (tCons tl tNil)) (gTup K 2 (gCons (gName j1) (gCons (gName j2) gNil))) tu D σ H :=
  s_forE (K := K) (ea_cons h ea_nil) (ex_l (hl 0 σ H (h0 H (Ex.refl H))) hx) Pv h0 (fun i σ' H' _ p => ex_l (hl i σ' H' p) hx) (fun i x σ' H' H2 hi p e2 => by
    obtain ⟨n, hn, rfl⟩ := ni_get' hi
    exact hs i n σ' H' H2 hn p e2) (fun σ' H' p => hd σ' H' (by rw [ni_length] at p; exact p))
theorem s_forEZ {a : Addr} {l : List Int} {j1 j2 : Nat} (h : Ev tl σ H (.ref a)) {H0 : Hp} (hx : SqL K H0 a (zi l)) (Pv : Nat → L2.St → Hp → Prop) (h0 : ∀ H1, Ex H H1 → Pv 0 σ H1) (hl : ∀ i σ' H', Pv i σ' H' → Ex H0 H')
    (hs : ∀ (i : Nat) (n : Int) σ' H' H2, l[i]? = some n → Pv i σ' H' → Ex H' H2 → tu { D with nx := Pv (i + 1), ct := Pv (i + 1), bk := D.nx } ((σ'.set j1 (some (.int (i : Int)))).set j2 (some (.int n))) H2) (hd : ∀ σ' H', Pv l.length σ' H' → D.nx σ' H') :
    tFor (iEnum K (tCons tl tNil)) (gTup K 2 (gCons (gName j1) (gCons (gName j2) gNil))) tu D σ H :=
  s_forE (K := K) (ea_cons h ea_nil) (ex_l (hl 0 σ H (h0 H (Ex.refl H))) hx) Pv h0 (fun i σ' H' _ p => ex_l (hl i σ' H' p) hx) (fun i x σ' H' H2 hi p e2 => by
    obtain ⟨n, hn, rfl⟩ := zi_get' hi
    exact hs i n σ' H' H2 hn p e2) (fun σ' H' p => hd σ' H' (by rw [zi_length] at p; exact p))
theorem q_forEN {a : Addr} {l : List Nat} {j1 j2 : Nat} (h : Ev tl σ H (.ref a)) {H0 : Hp} (hx : SqL K H0 a (ni l)) (Pv : Nat → L2.St → Hp → Prop) (h0 : ∀ H1, Ex H H1 → Pv 0 σ H1) (hl : ∀ i σ' H', Pv i σ' H' → Ex H0 H')
    (hs : ∀ (i n : Nat) σ' H' H2, l[i]? = some n → Pv i σ' H' → Ex H' H2 → tu { D with nx := Pv (i + 1), ct := Pv (i + 1), bk := tz D } ((σ'.set j1 (some (.int (i : Int)))).set j2 (some (.int (n : Int)))) H2) (hd : ∀ σ' H', Pv l.length σ' H' → tz D σ' H') :
    tSeq (tFor (iEnum K (tCons tl tNil)) (gTup K 2 (gCons (gName j1) (gCons (gName j2) gNil))) tu) tz D σ H := s_forEN (D := { D with nx := tz D }) h hx Pv h0 hl hs hd
theorem q_forEZ {a : Addr} {l : List Int} {j1 j2 : Nat} (h : Ev tl σ H (.ref a)) {H0 : Hp} (hx : SqL K H0 a (zi l)) (Pv : Nat → L2.St → Hp → Prop) (h0 : ∀ H1, Ex H H1 → Pv 0 σ H1) (hl : ∀ i σ' H', Pv i σ' H' → Ex H0 H')
    (hs : ∀ (i : Nat) (n : Int) σ' H' H2, l[i]? = some n → Pv i σ' H' → Ex H' H2 → tu { D with nx := Pv (i + 1), ct := Pv (i + 1), bk := tz D } ((σ'.set j1 (some (.int (i : Int)))).set j2 (some (.int n))) H2) (hd : ∀ σ' H', Pv l.length σ' H' → tz D σ' H') :
    tSeq (tFor (iEnum K (tCons tl tNil)) (gTup K 2 (gCons (gName j1) (gCons (gName j2) gNil))) tu) tz D σ H := s_forEZ (D := { D with nx := tz D }) h hx Pv h0 hl hs hd
/-- returns -/
theorem r_v {v : V} {Q : VK} {H0 : Hp} (e : Ex H0 H) (k : RetV v H0 Q) : ∀ H1, Ex H H1 → Q v H1 := fun H1 e1 => k H1 (e.trans e1)
end
end RF

set_option Elab.async false
set_option linter.all false
set_option maxRecDepth 100000
set_option maxHeartbeats 4000000
namespace RF
open PySem PySem.Spec PyProof.Rows L2 Evl
/-! ### mate_of -/
abbrev nm_mate_of : List Str := ["end"]
theorem sc_mate_of : FnScope nm_mate_of ["end"] (defScope (top 1)) := ⟨rfl, rfl, rfl, by decide +kernel, rfl, by decide +kernel, by decide +kernel⟩
def t_mate_of (K : PySem.W.Frag) : TS := (tRet (tOp rMinus (tOp rPlus (tVar 0) (tC (.int 1))) (tOp rTimes (tC (.int 2)) (tOp rModP (tVar 0) (tC (.int 2))))))
theorem d_mate_of {P : Program} {w : World} {K : PySem.W.Frag} {mg : Str → Option Value} {base : Heap} (T : Txt K mg) 
  (f : Addr) (cdv : Value) (A : Around) (outer : List Env) (s : Shared) (H : Hp) (E : XK) (hr : Room 0 (A.deeper (envOfC "mate_of" (defScope (top 1)) s.heap.objs.size f cdv))) :
  PSs (cxOf CX0 P w K mg base nm_mate_of "mate_of" (defScope (top 1)) f cdv A outer s H E).nox (defBody (top 1)) (t_mate_of K) :=
  (pss_one (ps_ret (pe_op op_sub (pe_op op_add (pv 0) pe_int) (pe_op op_mul pe_int (pe_op op_mod (pv 0) pe_int)))))
theorem b_mate_of (kV doc pm : Value) (an : Option Addr) (cdv ct : Value) (us : List Value) (hl : us.length = (["end"] : List Str).length) : bindArgs (PySem.W.fnOf "mate_of" "mate_of" (defArgs (top 1)) (defBody (top 1)) (defScope (top 1)) .none kV doc pm an cdv ct) ⟨us, []⟩ = pure ((["end"] : List Str).zip us) :=
  match us, hl with | [_], _ => rfl
/-! ### count_ends -/
abbrev nm_count_ends : List Str := ["drawing", "row"]
theorem sc_count_ends : FnScope nm_count_ends ["drawing"] (defScope (top 2)) := ⟨rfl, rfl, rfl, by decide +kernel, rfl, by decide +kernel, by decide +kernel⟩
def t_count_ends (K : PySem.W.Frag) : TS := (tRet (tCB (rSum K) (tCons (tLc (iList K (tVar 0)) (gName 1) tYes (tCB (rLenS K) (tCons (tVar 1) tNil)) [1]) tNil)))
theorem d_count_ends {P : Program} {w : World} {K : PySem.W.Frag} {mg : Str → Option Value} {base : Heap} (T : Txt K mg) 
  (f : Addr) (cdv : Value) (A : Around) (outer : List Env) (s : Shared) (H : Hp) (E : XK) (hr : Room 0 (A.deeper (envOfC "count_ends" (defScope (top 2)) s.heap.objs.size f cdv))) :
  PSs (cxOf CX0 P w K mg base nm_count_ends "count_ends" (defScope (top 2)) f cdv A outer s H E).nox (defBody (top 2)) (t_count_ends K) :=
  (pss_one (ps_ret (pe_callB (cr_sum rfl) (by rfl) T.z_sum (by decide +kernel) (pa_cons (pe_lc (own := [("row", 1)]) (g := gName 1) (tt := tYes) rfl sc_count_ends.nd (pi_list (pv 0)) (blkOk_by (N := nm_count_ends) (sc := defScope (top 2)) (by decide +kernel)) (fun _ _ _ _ _ => (pg_name (i := 1) sc_count_ends.nd rfl (Or.inl rfl))) (fun _ _ _ _ _ => pts_nil) (fun _ _ _ _ _ => (pe_callB call_lenLS (by rfl) T.z_len (by decide +kernel) (pa_cons (pv 1) pa_nil)))) pa_nil))))
theorem b_count_ends (kV doc pm : Value) (an : Option Addr) (cdv ct : Value) (us : List Value) (hl : us.length = (["drawing"] : List Str).length) : bindArgs (PySem.W.fnOf "count_ends" "count_ends" (defArgs (top 2)) (defBody (top 2)) (defScope (top 2)) .none kV doc pm an cdv ct) ⟨us, []⟩ = pure ((["drawing"] : List Str).zip us) :=
  match us, hl with | [_], _ => rfl
/-! ### seats_of -/
abbrev nm_seats_of : List Str := ["drawing", "seats", "place", "row", "end"]
theorem sc_seats_of : FnScope nm_seats_of ["drawing"] (defScope (top 3)) := ⟨rfl, rfl, rfl, by decide +kernel, rfl, by decide +kernel, by decide +kernel⟩
def t_seats_of (K : PySem.W.Frag) (sp_count_ends : Sp) : TS := (tSeq (tAsg (tOp rRep (tLst (tCons (tC (.int 0)) tNil)) (tCall sp_count_ends [] E0 (tCons (tVar 0) tNil))) (gName 1))
  (tSeq (tFor (iEnum K (tCons (tVar 0) tNil)) (gTup K 2 (gCons (gName 2) (gCons (gName 3) gNil))) (tFor (iList K (tVar 3)) (gName 4) (tAsg (tVar 2) (gSub (tVar 1) (tVar 4) rSetL))))
  (tRet (tVar 1))))
theorem d_seats_of {P : Program} {w : World} {K : PySem.W.Frag} {mg : Str → Option Value} {base : Heap} (T : Txt K mg) (sp_count_ends : Sp) (G_count_ends : Keeps P w K mg base CX0 "count_ends" 1 ["drawing"] sp_count_ends)
  (f : Addr) (cdv : Value) (A : Around) (outer : List Env) (s : Shared) (H : Hp) (E : XK) (hr : Room 1 (A.deeper (envOfC "seats_of" (defScope (top 3)) s.heap.objs.size f cdv))) :
  PSs (cxOf CX0 P w K mg base nm_seats_of "seats_of" (defScope (top 3)) f cdv A outer s H E).nox (defBody (top 3)) (t_seats_of K sp_count_ends) :=
  (pss_cons (ps_set (i := 1) sc_seats_of.nd rfl (Or.inl rfl) (pe_op op_rep (pe_lst (pa_cons pe_int pa_nil)) (pe_f G_count_ends (hr.mono (by decide)) (by rfl) (pa_cons (pv 0) pa_nil))))
  (pss_cons (ps_for PassesOwn.never rfl (pi_enum (by rfl) T.z_enumerate (pa_cons (pv 0) pa_nil)) (pg_tup rfl (pgs_cons (pg_name (i := 2) sc_seats_of.nd rfl (Or.inl rfl)) (pgs_cons (pg_name (i := 3) sc_seats_of.nd rfl (Or.inl rfl)) pgs_nil))) (pss_one (ps_for PassesOwn.never rfl (pi_list (pv 3)) (pg_name (i := 4) sc_seats_of.nd rfl (Or.inl rfl)) (pss_one (ps_asg (pv 2) (pg_sub (pv 1) (pv 4) set_list))))))
  (pss_one (ps_ret (pv 1)))))
theorem b_seats_of (kV doc pm : Value) (an : Option Addr) (cdv ct : Value) (us : List Value) (hl : us.length = (["drawing"] : List Str).length) : bindArgs (PySem.W.fnOf "seats_of" "seats_of" (defArgs (top 3)) (defBody (top 3)) (defScope (top 3)) .none kV doc pm an cdv ct) ⟨us, []⟩ = pure ((["drawing"] : List Str).zip us) :=
  match us, hl with | [_], _ => rfl
/-! ### behind_of -/
abbrev nm_behind_of : List Str := ["drawing", "behind", "row", "at", "end"]
theorem sc_behind_of : FnScope nm_behind_of ["drawing"] (defScope (top 4)) := ⟨rfl, rfl, rfl, by decide +kernel, rfl, by decide +kernel, by decide +kernel⟩
def t_behind_of (K : PySem.W.Frag) (sp_count_ends : Sp) : TS := (tSeq (tAsg (tOp rRep (tLst (tCons (tC (.int 0)) tNil)) (tCall sp_count_ends [] E0 (tCons (tVar 0) tNil))) (gName 1))
  (tSeq (tFor (iList K (tVar 0)) (gName 2) (tFor (iEnum K (tCons (tVar 2) tNil)) (gTup K 2 (gCons (gName 3) (gCons (gName 4) gNil))) (tAsg (tOp (rIxL K) (tVar 2) (tOp rModP (tOp rPlus (tVar 3) (tC (.int 1))) (tCB (rLenS K) (tCons (tVar 2) tNil)))) (gSub (tVar 1) (tVar 4) rSetL))))
  (tRet (tVar 1))))
theorem d_behind_of {P : Program} {w : World} {K : PySem.W.Frag} {mg : Str → Option Value} {base : Heap} (T : Txt K mg) (sp_count_ends : Sp) (G_count_ends : Keeps P w K mg base CX0 "count_ends" 1 ["drawing"] sp_count_ends)
  (f : Addr) (cdv : Value) (A : Around) (outer : List Env) (s : Shared) (H : Hp) (E : XK) (hr : Room 1 (A.deeper (envOfC "behind_of" (defScope (top 4)) s.heap.objs.size f cdv))) :
  PSs (cxOf CX0 P w K mg base nm_behind_of "behind_of" (defScope (top 4)) f cdv A outer s H E).nox (defBody (top 4)) (t_behind_of K sp_count_ends) :=
  (pss_cons (ps_set (i := 1) sc_behind_of.nd rfl (Or.inl rfl) (pe_op op_rep (pe_lst (pa_cons pe_int pa_nil)) (pe_f G_count_ends (hr.mono (by decide)) (by rfl) (pa_cons (pv 0) pa_nil))))
  (pss_cons (ps_for PassesOwn.never rfl (pi_list (pv 0)) (pg_name (i := 2) sc_behind_of.nd rfl (Or.inl rfl)) (pss_one (ps_for PassesOwn.never rfl (pi_enum (by rfl) T.z_enumerate (pa_cons (pv 2) pa_nil)) (pg_tup rfl (pgs_cons (pg_name (i := 3) sc_behind_of.nd rfl (Or.inl rfl)) (pgs_cons (pg_name (i := 4) sc_behind_of.nd rfl (Or.inl rfl)) pgs_nil))) (pss_one (ps_asg (pe_ix ix_list (pv 2) (pe_op op_mod (pe_op op_add (pv 3) pe_int) (pe_callB call_lenLS (by rfl) T.z_len (by decide +kernel) (pa_cons (pv 2) pa_nil))) (fun _ _ => rfl)) (pg_sub (pv 1) (pv 4) set_list))))))
  (pss_one (ps_ret (pv 1)))))
theorem b_behind_of (kV doc pm : Value) (an : Option Addr) (cdv ct : Value) (us : List Value) (hl : us.length = (["drawing"] : List Str).length) : bindArgs (PySem.W.fnOf "behind_of" "behind_of" (defArgs (top 4)) (defBody (top 4)) (defScope (top 4)) .none kV doc pm an cdv ct) ⟨us, []⟩ = pure ((["drawing"] : List Str).zip us) :=
  match us, hl with | [_], _ => rfl
/-! ### lands_of -/
abbrev nm_lands_of : List Str := ["drawing", "behind", "seen", "lands", "start", "land", "end", "row"]
theorem sc_lands_of : FnScope nm_lands_of ["drawing"] (defScope (top 6)) := ⟨rfl, rfl, rfl, by decide +kernel, rfl, by decide +kernel, by decide +kernel⟩
def t_lands_of (K : PySem.W.Frag) (sp_mate_of : Sp) (sp_behind_of : Sp) : TS := (tSeq (tAsg (tCall sp_behind_of [] E0 (tCons (tVar 0) tNil)) (gName 1))
  (tSeq (tAsg (tOp rRep (tLst (tCons (tC (.bl false)) tNil)) (tCB (rLenS K) (tCons (tVar 1) tNil))) (gName 2))
  (tSeq (tAsg (tLst tNil) (gName 3))
  (tSeq (tFor (iRng1 (tCons (tCB (rLenS K) (tCons (tVar 1) tNil)) tNil)) (gName 4) (tSeq (tIfS (tB (tOp (rIxL K) (tVar 2) (tVar 4))) tCont tNext)
  (tSeq (tAsg (tLst tNil) (gName 5))
  (tSeq (tAsg (tVar 4) (gName 6))
  (tSeq (tWhile (tNot (tB (tOp (rIxL K) (tVar 2) (tVar 6)))) (tSeq (tAsg (tC (.bl true)) (gSub (tVar 2) (tVar 6) rSetL))
  (tSeq (tDrop (tBM K "list" rAppend (tVar 5) (tCons (tVar 6) tNil)))
  (tAsg (tOp (rIxL K) (tVar 1) (tCall sp_mate_of [] E0 (tCons (tVar 6) tNil))) (gName 6)))))
  (tDrop (tBM K "list" rAppend (tVar 3) (tCons (tVar 5) tNil))))))))
  (tSeq (tFor (iList K (tVar 0)) (gName 7) (tIfS (tTest (tOp rEq (tCB (rLenS K) (tCons (tVar 7) tNil)) (tC (.int 0)))) (tDrop (tBM K "list" rAppend (tVar 3) (tCons (tLst tNil) tNil))) tNext))
  (tRet (tVar 3)))))))
theorem d_lands_of {P : Program} {w : World} {K : PySem.W.Frag} {mg : Str → Option Value} {base : Heap} (T : Txt K mg) (sp_mate_of : Sp) (sp_behind_of : Sp) (G_mate_of : Keeps P w K mg base CX0 "mate_of" 1 ["end"] sp_mate_of) (G_behind_of : Keeps P w K mg base CX0 "behind_of" 2 ["drawing"] sp_behind_of)
  (f : Addr) (cdv : Value) (A : Around) (outer : List Env) (s : Shared) (H : Hp) (E : XK) (hr : Room 2 (A.deeper (envOfC "lands_of" (defScope (top 6)) s.heap.objs.size f cdv))) :
  PSs (cxOf CX0 P w K mg base nm_lands_of "lands_of" (defScope (top 6)) f cdv A outer s H E).nox (defBody (top 6)) (t_lands_of K sp_mate_of sp_behind_of) :=
  (pss_cons (ps_set (i := 1) sc_lands_of.nd rfl (Or.inl rfl) (pe_f G_behind_of (hr.mono (by decide)) (by rfl) (pa_cons (pv 0) pa_nil)))
  (pss_cons (ps_set (i := 2) sc_lands_of.nd rfl (Or.inl rfl) (pe_op op_rep (pe_lst (pa_cons pe_bl pa_nil)) (pe_callB call_lenLS (by rfl) T.z_len (by decide +kernel) (pa_cons (pv 1) pa_nil))))
  (pss_cons (ps_set (i := 3) sc_lands_of.nd rfl (Or.inl rfl) (pe_lst pa_nil))
  (pss_cons (ps_for PassesOwn.never rfl (pi_range1 (by rfl) T.z_range (pa_cons (pe_callB call_lenLS (by rfl) T.z_len (by decide +kernel) (pa_cons (pv 1) pa_nil)) pa_nil)) (pg_name (i := 4) sc_lands_of.nd rfl (Or.inl rfl)) (pss_cons (ps_if (pt_val (pe_ix ix_list (pv 2) (pv 4) (fun _ _ => rfl))) (pss_one ps_continue) pss_nil)
  (pss_cons (ps_set (i := 5) sc_lands_of.nd rfl (Or.inl rfl) (pe_lst pa_nil))
  (pss_cons (ps_set (i := 6) sc_lands_of.nd rfl (Or.inl rfl) (pv 4))
  (pss_cons (ps_while PassesOwn.never (pt_not (pt_val (pe_ix ix_list (pv 2) (pv 6) (fun _ _ => rfl)))) (pss_cons (ps_asg pe_bl (pg_sub (pv 2) (pv 6) set_list))
  (pss_cons (ps_expr (pe_bm PySem.F.plainAttrs_list PySem.F.slot_list_append PySem.F.type_list_append mt_append (pv 5) (pa_cons (pv 6) pa_nil)))
  (pss_one (ps_set (i := 6) sc_lands_of.nd rfl (Or.inl rfl) (pe_ix ix_list (pv 1) (pe_f G_mate_of (hr.mono (by decide)) (by rfl) (pa_cons (pv 6) pa_nil)) (fun _ _ => rfl)))))))
  (pss_one (ps_expr (pe_bm PySem.F.plainAttrs_list PySem.F.slot_list_append PySem.F.type_list_append mt_append (pv 3) (pa_cons (pv 5) pa_nil)))))))))
  (pss_cons (ps_for PassesOwn.never rfl (pi_list (pv 0)) (pg_name (i := 7) sc_lands_of.nd rfl (Or.inl rfl)) (pss_one (ps_if (pt_cmpR op_eq (pe_callB call_lenLS (by rfl) T.z_len (by decide +kernel) (pa_cons (pv 7) pa_nil)) pe_int (nomark _)) (pss_one (ps_expr (pe_bm PySem.F.plainAttrs_list PySem.F.slot_list_append PySem.F.type_list_append mt_append (pv 3) (pa_cons (pe_lst pa_nil) pa_nil)))) pss_nil)))
  (pss_one (ps_ret (pv 3))))))))
theorem b_lands_of (kV doc pm : Value) (an : Option Addr) (cdv ct : Value) (us : List Value) (hl : us.length = (["drawing"] : List Str).length) : bindArgs (PySem.W.fnOf "lands_of" "lands_of" (defArgs (top 6)) (defBody (top 6)) (defScope (top 6)) .none kV doc pm an cdv ct) ⟨us, []⟩ = pure ((["drawing"] : List Str).zip us) :=
  match us, hl with | [_], _ => rfl
/-! ### tree_from -/
abbrev nm_tree_from : List Str := ["drawing", "root", "seats", "nearer", "waiting", "at", "end", "goal"]
theorem sc_tree_from : FnScope nm_tree_from ["drawing", "root"] (defScope (top 8)) := ⟨rfl, rfl, rfl, by decide +kernel, rfl, by decide +kernel, by decide +kernel⟩
def t_tree_from (K : PySem.W.Frag) (sp_mate_of : Sp) (sp_seats_of : Sp) : TS := (tSeq (tAsg (tCall sp_seats_of [] E0 (tCons (tVar 0) tNil)) (gName 2))
  (tSeq (tAsg (tDisp [((tVar 1), (tUn rNegI (tC (.int 1))))]) (gName 3))
  (tSeq (tAsg (tLst (tCons (tVar 1) tNil)) (gName 4))
  (tSeq (tAsg (tC (.int 0)) (gName 5))
  (tSeq (tWhile (tTest (tOp rLess (tVar 5) (tCB (rLenS K) (tCons (tVar 4) tNil)))) (tSeq (tFor (iList K (tOp (rIxL K) (tVar 0) (tOp (rIxL K) (tVar 4) (tVar 5)))) (gName 6) (tSeq (tAsg (tOp (rIxL K) (tVar 2) (tCall sp_mate_of [] E0 (tCons (tVar 6) tNil))) (gName 7))
  (tIfS (tB (tDNotIn (tVar 7) (tVar 3))) (tSeq (sDPut (tVar 3) (tVar 7) (tCall sp_mate_of [] E0 (tCons (tVar 6) tNil)))
  (tDrop (tBM K "list" rAppend (tVar 4) (tCons (tVar 7) tNil)))) tNext)))
  (tAug 5 (tC (.int 1)) (ipI fun i j => i + j))))
  (tRet (tVar 3)))))))
theorem d_tree_from {P : Program} {w : World} {K : PySem.W.Frag} {mg : Str → Option Value} {base : Heap} (T : Txt K mg) (sp_mate_of : Sp) (sp_seats_of : Sp) (G_mate_of : Keeps P w K mg base CX0 "mate_of" 1 ["end"] sp_mate_of) (G_seats_of : Keeps P w K mg base CX0 "seats_of" 2 ["drawing"] sp_seats_of)
  (f : Addr) (cdv : Value) (A : Around) (outer : List Env) (s : Shared) (H : Hp) (E : XK) (hr : Room 2 (A.deeper (envOfC "tree_from" (defScope (top 8)) s.heap.objs.size f cdv))) :
  PSs (cxOf CX0 P w K mg base nm_tree_from "tree_from" (defScope (top 8)) f cdv A outer s H E).nox (defBody (top 8)) (t_tree_from K sp_mate_of sp_seats_of) :=
  (pss_cons (ps_set (i := 2) sc_tree_from.nd rfl (Or.inl rfl) (pe_f G_seats_of (hr.mono (by decide)) (by rfl) (pa_cons (pv 0) pa_nil)))
  (pss_cons (ps_set (i := 3) sc_tree_from.nd rfl (Or.inl rfl) (pe_disp (pps_cons (pv 1) (pe_un un_neg pe_int) pps_nil) (by rfl) (by rfl) (fun z => by cases z) (by decide)))
  (pss_cons (ps_set (i := 4) sc_tree_from.nd rfl (Or.inl rfl) (pe_lst (pa_cons (pv 1) pa_nil)))
  (pss_cons (ps_set (i := 5) sc_tree_from.nd rfl (Or.inl rfl) pe_int)
  (pss_cons (ps_while PassesOwn.never (pt_cmpR op_lt (pv 5) (pe_callB call_lenLS (by rfl) T.z_len (by decide +kernel) (pa_cons (pv 4) pa_nil)) (nomark _)) (pss_cons (ps_for PassesOwn.never rfl (pi_list (pe_ix ix_list (pv 0) (pe_ix ix_list (pv 4) (pv 5) (fun _ _ => rfl)) (fun _ _ => rfl))) (pg_name (i := 6) sc_tree_from.nd rfl (Or.inl rfl)) (pss_cons (ps_set (i := 7) sc_tree_from.nd rfl (Or.inl rfl) (pe_ix ix_list (pv 2) (pe_f G_mate_of (hr.mono (by decide)) (by rfl) (pa_cons (pv 6) pa_nil)) (fun _ _ => rfl)))
  (pss_one (ps_if (pt_cmp (pc_dnotin (hu_of hr) (pv 7) (pv 3)) rfl) (pss_cons (ps_dput (hu_of hr) (pv 3) (pv 7) (pe_f G_mate_of (hr.mono (by decide)) (by rfl) (pa_cons (pv 6) pa_nil)) rfl)
  (pss_one (ps_expr (pe_bm PySem.F.plainAttrs_list PySem.F.slot_list_append PySem.F.type_list_append mt_append (pv 4) (pa_cons (pv 7) pa_nil))))) pss_nil))))
  (pss_one (ps_aug (i := 5) sc_tree_from.nd rfl (Or.inl rfl) pe_int ip_add))))
  (pss_one (ps_ret (pv 3))))))))
theorem b_tree_from (kV doc pm : Value) (an : Option Addr) (cdv ct : Value) (us : List Value) (hl : us.length = (["drawing", "root"] : List Str).length) : bindArgs (PySem.W.fnOf "tree_from" "tree_from" (defArgs (top 8)) (defBody (top 8)) (defScope (top 8)) .none kV doc pm an cdv ct) ⟨us, []⟩ = pure ((["drawing", "root"] : List Str).zip us) :=
  match us, hl with | [_, _], _ => rfl
/-! ### way_up -/
abbrev nm_way_up : List Str := ["seats", "nearer", "place", "way"]
theorem sc_way_up : FnScope nm_way_up ["seats", "nearer", "place"] (defScope (top 9)) := ⟨rfl, rfl, rfl, by decide +kernel, rfl, by decide +kernel, by decide +kernel⟩
def t_way_up (K : PySem.W.Frag) (sp_mate_of : Sp) : TS := (tSeq (tAsg (tLst tNil) (gName 3))
  (tSeq (tWhile (tTest (tOp rAtLeast (tDGet (tVar 1) (tVar 2)) (tC (.int 0)))) (tSeq (tDrop (tBM K "list" rAppend (tVar 3) (tCons (tDGet (tVar 1) (tVar 2)) tNil)))
  (tAsg (tOp (rIxL K) (tVar 0) (tCall sp_mate_of [] E0 (tCons (tDGet (tVar 1) (tVar 2)) tNil))) (gName 2))))
  (tRet (tVar 3))))
theorem d_way_up {P : Program} {w : World} {K : PySem.W.Frag} {mg : Str → Option Value} {base : Heap} (T : Txt K mg) (sp_mate_of : Sp) (G_mate_of : Keeps P w K mg base CX0 "mate_of" 1 ["end"] sp_mate_of)
  (f : Addr) (cdv : Value) (A : Around) (outer : List Env) (s : Shared) (H : Hp) (E : XK) (hr : Room 1 (A.deeper (envOfC "way_up" (defScope (top 9)) s.heap.objs.size f cdv))) :
  PSs (cxOf CX0 P w K mg base nm_way_up "way_up" (defScope (top 9)) f cdv A outer s H E).nox (defBody (top 9)) (t_way_up K sp_mate_of) :=
  (pss_cons (ps_set (i := 3) sc_way_up.nd rfl (Or.inl rfl) (pe_lst pa_nil))
  (pss_cons (ps_while PassesOwn.never (pt_cmpR op_ge (pe_dget (hu_of hr) (pv 1) (pv 2) (fun _ _ => rfl)) pe_int (nomark _)) (pss_cons (ps_expr (pe_bm PySem.F.plainAttrs_list PySem.F.slot_list_append PySem.F.type_list_append mt_append (pv 3) (pa_cons (pe_dget (hu_of hr) (pv 1) (pv 2) (fun _ _ => rfl)) pa_nil)))
  (pss_one (ps_set (i := 2) sc_way_up.nd rfl (Or.inl rfl) (pe_ix ix_list (pv 0) (pe_f G_mate_of (hr.mono (by decide)) (by rfl) (pa_cons (pe_dget (hu_of hr) (pv 1) (pv 2) (fun _ _ => rfl)) pa_nil)) (fun _ _ => rfl))))))
  (pss_one (ps_ret (pv 3)))))
theorem b_way_up (kV doc pm : Value) (an : Option Addr) (cdv ct : Value) (us : List Value) (hl : us.length = (["seats", "nearer", "place"] : List Str).length) : bindArgs (PySem.W.fnOf "way_up" "way_up" (defArgs (top 9)) (defBody (top 9)) (defScope (top 9)) .none kV doc pm an cdv ct) ⟨us, []⟩ = pure ((["seats", "nearer", "place"] : List Str).zip us) :=
  match us, hl with | [_, _, _], _ => rfl
/-! ### turned_about -/
abbrev nm_turned_about : List Str := ["way", "end"]
theorem sc_turned_about : FnScope nm_turned_about ["way"] (defScope (top 10)) := ⟨rfl, rfl, rfl, by decide +kernel, rfl, by decide +kernel, by decide +kernel⟩
def t_turned_about (K : PySem.W.Frag) (sp_mate_of : Sp) : TS := (tRet (tLc (iRev K (tCons (tVar 0) tNil)) (gName 1) tYes (tCall sp_mate_of [] E0 (tCons (tVar 1) tNil)) [1]))
theorem d_turned_about {P : Program} {w : World} {K : PySem.W.Frag} {mg : Str → Option Value} {base : Heap} (T : Txt K mg) (sp_mate_of : Sp) (G_mate_of : Keeps P w K mg base CX0 "mate_of" 1 ["end"] sp_mate_of)
  (f : Addr) (cdv : Value) (A : Around) (outer : List Env) (s : Shared) (H : Hp) (E : XK) (hr : Room 1 (A.deeper (envOfC "turned_about" (defScope (top 10)) s.heap.objs.size f cdv))) :
  PSs (cxOf CX0 P w K mg base nm_turned_about "turned_about" (defScope (top 10)) f cdv A outer s H E).nox (defBody (top 10)) (t_turned_about K sp_mate_of) :=
  (pss_one (ps_ret (pe_lc (own := [("end", 1)]) (g := gName 1) (tt := tYes) rfl sc_turned_about.nd (pi_reversed (by rfl) T.z_reversed (pa_cons (pv 0) pa_nil)) (blkOk_by (N := nm_turned_about) (sc := defScope (top 10)) (by decide +kernel)) (fun _ _ _ _ _ => (pg_name (i := 1) sc_turned_about.nd rfl (Or.inl rfl))) (fun _ _ _ _ _ => pts_nil) (fun _ _ _ _ _ => (pe_f G_mate_of (hr.mono (by decide)) (by rfl) (pa_cons (pv 1) pa_nil))))))
theorem b_turned_about (kV doc pm : Value) (an : Option Addr) (cdv ct : Value) (us : List Value) (hl : us.length = (["way"] : List Str).length) : bindArgs (PySem.W.fnOf "turned_about" "turned_about" (defArgs (top 10)) (defBody (top 10)) (defScope (top 10)) .none kV doc pm an cdv ct) ⟨us, []⟩ = pure ((["way"] : List Str).zip us) :=
  match us, hl with | [_], _ => rfl
/-! ### round_along -/
abbrev nm_round_along : List Str := ["seats", "nearer", "end", "out", "back"]
theorem sc_round_along : FnScope nm_round_along ["seats", "nearer", "end"] (defScope (top 11)) := ⟨rfl, rfl, rfl, by decide +kernel, rfl, by decide +kernel, by decide +kernel⟩
def t_round_along (K : PySem.W.Frag) (sp_mate_of : Sp) (sp_way_up : Sp) (sp_turned_about : Sp) : TS := (tSeq (tAsg (tCall sp_way_up [] E0 (tCons (tVar 0) (tCons (tVar 1) (tCons (tOp (rIxL K) (tVar 0) (tCall sp_mate_of [] E0 (tCons (tVar 2) tNil))) tNil)))) (gName 3))
  (tSeq (tAsg (tCall sp_way_up [] E0 (tCons (tVar 0) (tCons (tVar 1) (tCons (tOp (rIxL K) (tVar 0) (tVar 2)) tNil)))) (gName 4))
  (tSeq (tWhile (tAnd (tTest (tOp rMore (tCB (rLenS K) (tCons (tVar 3) tNil)) (tC (.int 0)))) (tAnd (tTest (tOp rMore (tCB (rLenS K) (tCons (tVar 4) tNil)) (tC (.int 0)))) (tTest (tOp rEq (tOp (rIxL K) (tVar 3) (tUn rNegI (tC (.int 1)))) (tOp (rIxL K) (tVar 4) (tUn rNegI (tC (.int 1)))))))) (tSeq (tDrop (tBM0 K "list" rPop (tVar 3)))
  (tDrop (tBM0 K "list" rPop (tVar 4)))))
  (tRet (tOp rCat (tOp rCat (tLst (tCons (tVar 2) tNil)) (tVar 3)) (tCall sp_turned_about [] E0 (tCons (tVar 4) tNil)))))))
theorem d_round_along {P : Program} {w : World} {K : PySem.W.Frag} {mg : Str → Option Value} {base : Heap} (T : Txt K mg) (sp_mate_of : Sp) (sp_way_up : Sp) (sp_turned_about : Sp) (G_mate_of : Keeps P w K mg base CX0 "mate_of" 1 ["end"] sp_mate_of) (G_way_up : Keeps P w K mg base CX0 "way_up" 2 ["seats", "nearer", "place"] sp_way_up) (G_turned_about : Keeps P w K mg base CX0 "turned_about" 2 ["way"] sp_turned_about)
  (f : Addr) (cdv : Value) (A : Around) (outer : List Env) (s : Shared) (H : Hp) (E : XK) (hr : Room 2 (A.deeper (envOfC "round_along" (defScope (top 11)) s.heap.objs.size f cdv))) :
  PSs (cxOf CX0 P w K mg base nm_round_along "round_along" (defScope (top 11)) f cdv A outer s H E).nox (defBody (top 11)) (t_round_along K sp_mate_of sp_way_up sp_turned_about) :=
  (pss_cons (ps_set (i := 3) sc_round_along.nd rfl (Or.inl rfl) (pe_f G_way_up (hr.mono (by decide)) (by rfl) (pa_cons (pv 0) (pa_cons (pv 1) (pa_cons (pe_ix ix_list (pv 0) (pe_f G_mate_of (hr.mono (by decide)) (by rfl) (pa_cons (pv 2) pa_nil)) (fun _ _ => rfl)) pa_nil)))))
  (pss_cons (ps_set (i := 4) sc_round_along.nd rfl (Or.inl rfl) (pe_f G_way_up (hr.mono (by decide)) (by rfl) (pa_cons (pv 0) (pa_cons (pv 1) (pa_cons (pe_ix ix_list (pv 0) (pv 2) (fun _ _ => rfl)) pa_nil)))))
  (pss_cons (ps_while PassesOwn.never (PW.pt (pw_and (pt_cmpR op_gt (pe_callB call_lenLS (by rfl) T.z_len (by decide +kernel) (pa_cons (pv 3) pa_nil)) pe_int (nomark _)) (pw_and (pt_cmpR op_gt (pe_callB call_lenLS (by rfl) T.z_len (by decide +kernel) (pa_cons (pv 4) pa_nil)) pe_int (nomark _)) (pw_and1 (pt_cmpR op_eq (pe_ix ix_list (pv 3) (pe_un un_neg pe_int) (fun _ _ => rfl)) (pe_ix ix_list (pv 4) (pe_un un_neg pe_int) (fun _ _ => rfl)) (nomark _)))))) (pss_cons (ps_expr (pe_bm0 PySem.F.plainAttrs_list PySem.F.slot_list_pop PySem.F.type_list_pop mt_pop (pv 3)))
  (pss_one (ps_expr (pe_bm0 PySem.F.plainAttrs_list PySem.F.slot_list_pop PySem.F.type_list_pop mt_pop (pv 4))))))
  (pss_one (ps_ret (pe_op op_cat (pe_op op_cat (pe_lst (pa_cons (pv 2) pa_nil)) (pv 3)) (pe_f G_turned_about (hr.mono (by decide)) (by rfl) (pa_cons (pv 4) pa_nil))))))))
theorem b_round_along (kV doc pm : Value) (an : Option Addr) (cdv ct : Value) (us : List Value) (hl : us.length = (["seats", "nearer", "end"] : List Str).length) : bindArgs (PySem.W.fnOf "round_along" "round_along" (defArgs (top 11)) (defBody (top 11)) (defScope (top 11)) .none kV doc pm an cdv ct) ⟨us, []⟩ = pure ((["seats", "nearer", "end"] : List Str).zip us) :=
  match us, hl with | [_, _, _], _ => rfl
/-! ### land_numbers -/
abbrev nm_land_numbers : List Str := ["lands", "numbers", "number", "land", "end"]
theorem sc_land_numbers : FnScope nm_land_numbers ["lands"] (defScope (top 12)) := ⟨rfl, rfl, rfl, by decide +kernel, rfl, by decide +kernel, by decide +kernel⟩
def t_land_numbers (K : PySem.W.Frag) : TS := (tSeq (tAsg tDNewK (gName 1))
  (tSeq (tFor (iEnum K (tCons (tVar 0) tNil)) (gTup K 2 (gCons (gName 2) (gCons (gName 3) gNil))) (tFor (iList K (tVar 3)) (gName 4) (sDPut (tVar 1) (tVar 4) (tVar 2))))
  (tRet (tVar 1))))
theorem d_land_numbers {P : Program} {w : World} {K : PySem.W.Frag} {mg : Str → Option Value} {base : Heap} (T : Txt K mg) 
  (f : Addr) (cdv : Value) (A : Around) (outer : List Env) (s : Shared) (H : Hp) (E : XK) (hr : Room 0 (A.deeper (envOfC "land_numbers" (defScope (top 12)) s.heap.objs.size f cdv))) :
  PSs (cxOf CX0 P w K mg base nm_land_numbers "land_numbers" (defScope (top 12)) f cdv A outer s H E).nox (defBody (top 12)) (t_land_numbers K) :=
  (pss_cons (ps_set (i := 1) sc_land_numbers.nd rfl (Or.inl rfl) pe_dnewK)
  (pss_cons (ps_for PassesOwn.never rfl (pi_enum (by rfl) T.z_enumerate (pa_cons (pv 0) pa_nil)) (pg_tup rfl (pgs_cons (pg_name (i := 2) sc_land_numbers.nd rfl (Or.inl rfl)) (pgs_cons (pg_name (i := 3) sc_land_numbers.nd rfl (Or.inl rfl)) pgs_nil))) (pss_one (ps_for PassesOwn.never rfl (pi_list (pv 3)) (pg_name (i := 4) sc_land_numbers.nd rfl (Or.inl rfl)) (pss_one (ps_dput (hu_of hr) (pv 1) (pv 4) (pv 2) rfl)))))
  (pss_one (ps_ret (pv 1)))))
theorem b_land_numbers (kV doc pm : Value) (an : Option Addr) (cdv ct : Value) (us : List Value) (hl : us.length = (["lands"] : List Str).length) : bindArgs (PySem.W.fnOf "land_numbers" "land_numbers" (defArgs (top 12)) (defBody (top 12)) (defScope (top 12)) .none kV doc pm an cdv ct) ⟨us, []⟩ = pure ((["lands"] : List Str).zip us) :=
  match us, hl with | [_], _ => rfl
/-! ### is_walk -/
abbrev nm_is_walk : List Str := ["drawing", "ends", "seats", "end", "at"]
theorem sc_is_walk : FnScope nm_is_walk ["drawing", "ends"] (defScope (top 18)) := ⟨rfl, rfl, rfl, by decide +kernel, rfl, by decide +kernel, by decide +kernel⟩
def t_is_walk (K : PySem.W.Frag) (sp_mate_of : Sp) (sp_seats_of : Sp) : TS := (tSeq (tAsg (tCall sp_seats_of [] E0 (tCons (tVar 0) tNil)) (gName 2))
  (tSeq (tFor (iList K (tVar 1)) (gName 3) (tIfS (tOr (tTest (tOp rLess (tVar 3) (tC (.int 0)))) (tTest (tOp rAtLeast (tVar 3) (tCB (rLenS K) (tCons (tVar 2) tNil))))) (tRet (tC (.bl false))) tNext))
  (tSeq (tFor (iEnum K (tCons (tVar 1) tNil)) (gTup K 2 (gCons (gName 4) (gCons (gName 3) gNil))) (tIfS (tTest (tOp rNe (tOp (rIxL K) (tVar 2) (tCall sp_mate_of [] E0 (tCons (tOp (rIxL K) (tVar 1) (tOp rMinus (tVar 4) (tC (.int 1)))) tNil))) (tOp (rIxL K) (tVar 2) (tVar 3)))) (tRet (tC (.bl false))) tNext))
  (tRet (tC (.bl true))))))
theorem d_is_walk {P : Program} {w : World} {K : PySem.W.Frag} {mg : Str → Option Value} {base : Heap} (T : Txt K mg) (sp_mate_of : Sp) (sp_seats_of : Sp) (G_mate_of : Keeps P w K mg base CX0 "mate_of" 1 ["end"] sp_mate_of) (G_seats_of : Keeps P w K mg base CX0 "seats_of" 2 ["drawing"] sp_seats_of)
  (f : Addr) (cdv : Value) (A : Around) (outer : List Env) (s : Shared) (H : Hp) (E : XK) (hr : Room 2 (A.deeper (envOfC "is_walk" (defScope (top 18)) s.heap.objs.size f cdv))) :
  PSs (cxOf CX0 P w K mg base nm_is_walk "is_walk" (defScope (top 18)) f cdv A outer s H E).nox (defBody (top 18)) (t_is_walk K sp_mate_of sp_seats_of) :=
  (pss_cons (ps_set (i := 2) sc_is_walk.nd rfl (Or.inl rfl) (pe_f G_seats_of (hr.mono (by decide)) (by rfl) (pa_cons (pv 0) pa_nil)))
  (pss_cons (ps_for PassesOwn.never rfl (pi_list (pv 1)) (pg_name (i := 3) sc_is_walk.nd rfl (Or.inl rfl)) (pss_one (ps_if (PW.pt (pw_or (pt_cmpR op_lt (pv 3) pe_int (nomark _)) (pw_or1 (pt_cmpR op_ge (pv 3) (pe_callB call_lenLS (by rfl) T.z_len (by decide +kernel) (pa_cons (pv 2) pa_nil)) (nomark _))))) (pss_one (ps_ret pe_bl)) pss_nil)))
  (pss_cons (ps_for PassesOwn.never rfl (pi_enum (by rfl) T.z_enumerate (pa_cons (pv 1) pa_nil)) (pg_tup rfl (pgs_cons (pg_name (i := 4) sc_is_walk.nd rfl (Or.inl rfl)) (pgs_cons (pg_name (i := 3) sc_is_walk.nd rfl (Or.inl rfl)) pgs_nil))) (pss_one (ps_if (pt_cmpR op_ne (pe_ix ix_list (pv 2) (pe_f G_mate_of (hr.mono (by decide)) (by rfl) (pa_cons (pe_ix ix_list (pv 1) (pe_op op_sub (pv 4) pe_int) (fun _ _ => rfl)) pa_nil)) (fun _ _ => rfl)) (pe_ix ix_list (pv 2) (pv 3) (fun _ _ => rfl)) (nomark _)) (pss_one (ps_ret pe_bl)) pss_nil)))
  (pss_one (ps_ret pe_bl)))))
theorem b_is_walk (kV doc pm : Value) (an : Option Addr) (cdv ct : Value) (us : List Value) (hl : us.length = (["drawing", "ends"] : List Str).length) : bindArgs (PySem.W.fnOf "is_walk" "is_walk" (defArgs (top 18)) (defBody (top 18)) (defScope (top 18)) .none kV doc pm an cdv ct) ⟨us, []⟩ = pure ((["drawing", "ends"] : List Str).zip us) :=
  match us, hl with | [_, _], _ => rfl
/-! ### ask_walk -/
abbrev nm_ask_walk : List Str := ["drawing", "ends"]
theorem sc_ask_walk : FnScope nm_ask_walk ["drawing", "ends"] (defScope (top 19)) := ⟨rfl, rfl, rfl, by decide +kernel, rfl, by decide +kernel, by decide +kernel⟩
def t_ask_walk (K : PySem.W.Frag) (sp_is_walk : Sp) (E : XK) : TS := (tIfS (tNot (tB (tCall sp_is_walk [] E0 (tCons (tVar 0) (tCons (tVar 1) tNil))))) (tRaiseE E (.ref (He.ga K "NoWalk"))) tNext)
theorem d_ask_walk {P : Program} {w : World} {K : PySem.W.Frag} {mg : Str → Option Value} {base : Heap} (T : Txt K mg) (sp_is_walk : Sp) (G_is_walk : Keeps P w K mg base CX0 "is_walk" 3 ["drawing", "ends"] sp_is_walk)
  (f : Addr) (cdv : Value) (A : Around) (outer : List Env) (s : Shared) (H : Hp) (E : XK) (hr : Room 3 (A.deeper (envOfC "ask_walk" (defScope (top 19)) s.heap.objs.size f cdv))) :
  PSs (cxOf (L2.CX P w) P w K mg base nm_ask_walk "ask_walk" (defScope (top 19)) f cdv A outer s H E) (defBody (top 19)) (t_ask_walk K sp_is_walk E) :=
  (pss_one (ps_if (pt_not (pt_val (pe_f G_is_walk (hr.mono (by decide)) (by rfl) (pa_cons (pv 0) (pa_cons (pv 1) pa_nil))))) (pss_one (ps_raise rfl (takes_of rfl rfl rfl rfl) (pmk_own PySem.F.excBase_ValueError T.x_NoWalk T.g_NoWalk T.k_NoWalk (raises_own T.b_NoWalk T.t_NoWalk) (by rfl)))) pss_nil))
theorem b_ask_walk (kV doc pm : Value) (an : Option Addr) (cdv ct : Value) (us : List Value) (hl : us.length = (["drawing", "ends"] : List Str).length) : bindArgs (PySem.W.fnOf "ask_walk" "ask_walk" (defArgs (top 19)) (defBody (top 19)) (defScope (top 19)) .none kV doc pm an cdv ct) ⟨us, []⟩ = pure ((["drawing", "ends"] : List Str).zip us) :=
  match us, hl with | [_, _], _ => rfl
/-! ### left_counts -/
abbrev nm_left_counts : List Str := ["drawing", "walk", "behind", "counts", "at", "goes", "comes", "end"]
theorem sc_left_counts : FnScope nm_left_counts ["drawing", "walk"] (defScope (top 20)) := ⟨rfl, rfl, rfl, by decide +kernel, rfl, by decide +kernel, by decide +kernel⟩
def t_left_counts (K : PySem.W.Frag) (sp_mate_of : Sp) (sp_behind_of : Sp) : TS := (tSeq (tAsg (tCall sp_behind_of [] E0 (tCons (tVar 0) tNil)) (gName 2))
  (tSeq (tAsg (tOp rRep (tLst (tCons (tC (.int 0)) tNil)) (tCB (rLenS K) (tCons (tVar 2) tNil))) (gName 3))
  (tSeq (tFor (iEnum K (tCons (tVar 1) tNil)) (gTup K 2 (gCons (gName 4) (gCons (gName 5) gNil))) (tSeq (tAsg (tCall sp_mate_of [] E0 (tCons (tOp (rIxL K) (tVar 1) (tOp rMinus (tVar 4) (tC (.int 1)))) tNil)) (gName 6))
  (tSeq (tAsg (tOp (rIxL K) (tVar 2) (tVar 6)) (gName 7))
  (tWhile (tAnd (tTest (tOp rNe (tVar 7) (tVar 5))) (tTest (tOp rNe (tVar 7) (tVar 6)))) (tSeq (tAugS (tVar 3) (tVar 7) (tC (.int 1)) (rIxL K) (ipI fun i j => i + j) rSetL)
  (tAsg (tOp (rIxL K) (tVar 2) (tVar 7)) (gName 7)))))))
  (tRet (tVar 3)))))
theorem d_left_counts {P : Program} {w : World} {K : PySem.W.Frag} {mg : Str → Option Value} {base : Heap} (T : Txt K mg) (sp_mate_of : Sp) (sp_behind_of : Sp) (G_mate_of : Keeps P w K mg base CX0 "mate_of" 1 ["end"] sp_mate_of) (G_behind_of : Keeps P w K mg base CX0 "behind_of" 2 ["drawing"] sp_behind_of)
  (f : Addr) (cdv : Value) (A : Around) (outer : List Env) (s : Shared) (H : Hp) (E : XK) (hr : Room 2 (A.deeper (envOfC "left_counts" (defScope (top 20)) s.heap.objs.size f cdv))) :
  PSs (cxOf CX0 P w K mg base nm_left_counts "left_counts" (defScope (top 20)) f cdv A outer s H E).nox (defBody (top 20)) (t_left_counts K sp_mate_of sp_behind_of) :=
  (pss_cons (ps_set (i := 2) sc_left_counts.nd rfl (Or.inl rfl) (pe_f G_behind_of (hr.mono (by decide)) (by rfl) (pa_cons (pv 0) pa_nil)))
  (pss_cons (ps_set (i := 3) sc_left_counts.nd rfl (Or.inl rfl) (pe_op op_rep (pe_lst (pa_cons pe_int pa_nil)) (pe_callB call_lenLS (by rfl) T.z_len (by decide +kernel) (pa_cons (pv 2) pa_nil))))
  (pss_cons (ps_for PassesOwn.never rfl (pi_enum (by rfl) T.z_enumerate (pa_cons (pv 1) pa_nil)) (pg_tup rfl (pgs_cons (pg_name (i := 4) sc_left_counts.nd rfl (Or.inl rfl)) (pgs_cons (pg_name (i := 5) sc_left_counts.nd rfl (Or.inl rfl)) pgs_nil))) (pss_cons (ps_set (i := 6) sc_left_counts.nd rfl (Or.inl rfl) (pe_f G_mate_of (hr.mono (by decide)) (by rfl) (pa_cons (pe_ix ix_list (pv 1) (pe_op op_sub (pv 4) pe_int) (fun _ _ => rfl)) pa_nil)))
  (pss_cons (ps_set (i := 7) sc_left_counts.nd rfl (Or.inl rfl) (pe_ix ix_list (pv 2) (pv 6) (fun _ _ => rfl)))
  (pss_one (ps_while PassesOwn.never (PW.pt (pw_and (pt_cmpR op_ne (pv 7) (pv 5) (nomark _)) (pw_and1 (pt_cmpR op_ne (pv 7) (pv 6) (nomark _))))) (pss_cons (ps_augS (pv 3) (pv 7) get_list pe_int ip_add set_list)
  (pss_one (ps_set (i := 7) sc_left_counts.nd rfl (Or.inl rfl) (pe_ix ix_list (pv 2) (pv 7) (fun _ _ => rfl))))))))))
  (pss_one (ps_ret (pv 3))))))
theorem b_left_counts (kV doc pm : Value) (an : Option Addr) (cdv ct : Value) (us : List Value) (hl : us.length = (["drawing", "walk"] : List Str).length) : bindArgs (PySem.W.fnOf "left_counts" "left_counts" (defArgs (top 20)) (defBody (top 20)) (defScope (top 20)) .none kV doc pm an cdv ct) ⟨us, []⟩ = pure ((["drawing", "walk"] : List Str).zip us) :=
  match us, hl with | [_, _], _ => rfl
/-! ### crossing_by -/
abbrev nm_crossing_by : List Str := ["counts", "walk", "end"]
theorem sc_crossing_by : FnScope nm_crossing_by ["counts", "walk"] (defScope (top 21)) := ⟨rfl, rfl, rfl, by decide +kernel, rfl, by decide +kernel, by decide +kernel⟩
def t_crossing_by (K : PySem.W.Frag) (sp_mate_of : Sp) : TS := (tRet (tCB (rSum K) (tCons (tLc (iList K (tVar 1)) (gName 2) tYes (tOp rMinus (tOp (rIxL K) (tVar 0) (tVar 2)) (tOp (rIxL K) (tVar 0) (tCall sp_mate_of [] E0 (tCons (tVar 2) tNil)))) [2]) tNil)))
theorem d_crossing_by {P : Program} {w : World} {K : PySem.W.Frag} {mg : Str → Option Value} {base : Heap} (T : Txt K mg) (sp_mate_of : Sp) (G_mate_of : Keeps P w K mg base CX0 "mate_of" 1 ["end"] sp_mate_of)
  (f : Addr) (cdv : Value) (A : Around) (outer : List Env) (s : Shared) (H : Hp) (E : XK) (hr : Room 1 (A.deeper (envOfC "crossing_by" (defScope (top 21)) s.heap.objs.size f cdv))) :
  PSs (cxOf CX0 P w K mg base nm_crossing_by "crossing_by" (defScope (top 21)) f cdv A outer s H E).nox (defBody (top 21)) (t_crossing_by K sp_mate_of) :=
  (pss_one (ps_ret (pe_callB (cr_sum rfl) (by rfl) T.z_sum (by decide +kernel) (pa_cons (pe_lc (own := [("end", 2)]) (g := gName 2) (tt := tYes) rfl sc_crossing_by.nd (pi_list (pv 1)) (blkOk_by (N := nm_crossing_by) (sc := defScope (top 21)) (by decide +kernel)) (fun _ _ _ _ _ => (pg_name (i := 2) sc_crossing_by.nd rfl (Or.inl rfl))) (fun _ _ _ _ _ => pts_nil) (fun _ _ _ _ _ => (pe_op op_sub (pe_ix ix_list (pv 0) (pv 2) (fun _ _ => rfl)) (pe_ix ix_list (pv 0) (pe_f G_mate_of (hr.mono (by decide)) (by rfl) (pa_cons (pv 2) pa_nil)) (fun _ _ => rfl))))) pa_nil))))
theorem b_crossing_by (kV doc pm : Value) (an : Option Addr) (cdv ct : Value) (us : List Value) (hl : us.length = (["counts", "walk"] : List Str).length) : bindArgs (PySem.W.fnOf "crossing_by" "crossing_by" (defArgs (top 21)) (defBody (top 21)) (defScope (top 21)) .none kV doc pm an cdv ct) ⟨us, []⟩ = pure ((["counts", "walk"] : List Str).zip us) :=
  match us, hl with | [_, _], _ => rfl
/-! ### net_counts -/
abbrev nm_net_counts : List Str := ["drawing", "walk", "net", "end"]
theorem sc_net_counts : FnScope nm_net_counts ["drawing", "walk"] (defScope (top 23)) := ⟨rfl, rfl, rfl, by decide +kernel, rfl, by decide +kernel, by decide +kernel⟩
def t_net_counts (K : PySem.W.Frag) (sp_mate_of : Sp) (sp_count_ends : Sp) : TS := (tSeq (tAsg (tOp rRep (tLst (tCons (tC (.int 0)) tNil)) (tCall sp_count_ends [] E0 (tCons (tVar 0) tNil))) (gName 2))
  (tSeq (tFor (iList K (tVar 1)) (gName 3) (tSeq (tAugS (tVar 2) (tVar 3) (tC (.int 1)) (rIxL K) (ipI fun i j => i + j) rSetL)
  (tAugS (tVar 2) (tCall sp_mate_of [] E0 (tCons (tVar 3) tNil)) (tC (.int 1)) (rIxL K) (ipI fun i j => i - j) rSetL)))
  (tRet (tVar 2))))
theorem d_net_counts {P : Program} {w : World} {K : PySem.W.Frag} {mg : Str → Option Value} {base : Heap} (T : Txt K mg) (sp_mate_of : Sp) (sp_count_ends : Sp) (G_mate_of : Keeps P w K mg base CX0 "mate_of" 1 ["end"] sp_mate_of) (G_count_ends : Keeps P w K mg base CX0 "count_ends" 1 ["drawing"] sp_count_ends)
  (f : Addr) (cdv : Value) (A : Around) (outer : List Env) (s : Shared) (H : Hp) (E : XK) (hr : Room 1 (A.deeper (envOfC "net_counts" (defScope (top 23)) s.heap.objs.size f cdv))) :
  PSs (cxOf CX0 P w K mg base nm_net_counts "net_counts" (defScope (top 23)) f cdv A outer s H E).nox (defBody (top 23)) (t_net_counts K sp_mate_of sp_count_ends) :=
  (pss_cons (ps_set (i := 2) sc_net_counts.nd rfl (Or.inl rfl) (pe_op op_rep (pe_lst (pa_cons pe_int pa_nil)) (pe_f G_count_ends (hr.mono (by decide)) (by rfl) (pa_cons (pv 0) pa_nil))))
  (pss_cons (ps_for PassesOwn.never rfl (pi_list (pv 1)) (pg_name (i := 3) sc_net_counts.nd rfl (Or.inl rfl)) (pss_cons (ps_augS (pv 2) (pv 3) get_list pe_int ip_add set_list)
  (pss_one (ps_augS (pv 2) (pe_f G_mate_of (hr.mono (by decide)) (by rfl) (pa_cons (pv 3) pa_nil)) get_list pe_int ip_sub set_list))))
  (pss_one (ps_ret (pv 2)))))
theorem b_net_counts (kV doc pm : Value) (an : Option Addr) (cdv ct : Value) (us : List Value) (hl : us.length = (["drawing", "walk"] : List Str).length) : bindArgs (PySem.W.fnOf "net_counts" "net_counts" (defArgs (top 23)) (defBody (top 23)) (defScope (top 23)) .none kV doc pm an cdv ct) ⟨us, []⟩ = pure ((["drawing", "walk"] : List Str).zip us) :=
  match us, hl with | [_, _], _ => rfl
/-! ### spread_numbers -/
abbrev nm_spread_numbers : List Str := ["lands", "inside", "net", "first", "found", "waiting", "land", "end", "beyond", "number"]
theorem sc_spread_numbers : FnScope nm_spread_numbers ["lands", "inside", "net", "first"] (defScope (top 24)) := ⟨rfl, rfl, rfl, by decide +kernel, rfl, by decide +kernel, by decide +kernel⟩
def t_spread_numbers (K : PySem.W.Frag) (sp_mate_of : Sp) : TS := (tSeq (tAsg (tDisp [((tVar 3), (tC (.int 0)))]) (gName 4))
  (tSeq (tAsg (tLst (tCons (tVar 3) tNil)) (gName 5))
  (tSeq (tWhile (tTest (tOp rMore (tCB (rLenS K) (tCons (tVar 5) tNil)) (tC (.int 0)))) (tSeq (tAsg (tBM0 K "list" rPop (tVar 5)) (gName 6))
  (tFor (iList K (tOp (rIxL K) (tVar 0) (tVar 6))) (gName 7) (tSeq (tAsg (tDGet (tVar 1) (tCall sp_mate_of [] E0 (tCons (tVar 7) tNil))) (gName 8))
  (tSeq (tAsg (tOp rMinus (tDGet (tVar 4) (tVar 6)) (tOp (rIxL K) (tVar 2) (tVar 7))) (gName 9))
  (tIfS (tB (tDNotIn (tVar 8) (tVar 4))) (tSeq (sDPut (tVar 4) (tVar 8) (tVar 9))
  (tDrop (tBM K "list" rAppend (tVar 5) (tCons (tVar 8) tNil)))) (tIfS (tTest (tOp rNe (tDGet (tVar 4) (tVar 8)) (tVar 9))) (tRet (tC .non)) tNext)))))))
  (tRet (tVar 4)))))
theorem d_spread_numbers {P : Program} {w : World} {K : PySem.W.Frag} {mg : Str → Option Value} {base : Heap} (T : Txt K mg) (sp_mate_of : Sp) (G_mate_of : Keeps P w K mg base CX0 "mate_of" 1 ["end"] sp_mate_of)
  (f : Addr) (cdv : Value) (A : Around) (outer : List Env) (s : Shared) (H : Hp) (E : XK) (hr : Room 1 (A.deeper (envOfC "spread_numbers" (defScope (top 24)) s.heap.objs.size f cdv))) :
  PSs (cxOf CX0 P w K mg base nm_spread_numbers "spread_numbers" (defScope (top 24)) f cdv A outer s H E).nox (defBody (top 24)) (t_spread_numbers K sp_mate_of) :=
  (pss_cons (ps_set (i := 4) sc_spread_numbers.nd rfl (Or.inl rfl) (pe_disp (pps_cons (pv 3) pe_int pps_nil) (by rfl) (by rfl) (fun z => by cases z) (by decide)))
  (pss_cons (ps_set (i := 5) sc_spread_numbers.nd rfl (Or.inl rfl) (pe_lst (pa_cons (pv 3) pa_nil)))
  (pss_cons (ps_while PassesOwn.never (pt_cmpR op_gt (pe_callB call_lenLS (by rfl) T.z_len (by decide +kernel) (pa_cons (pv 5) pa_nil)) pe_int (nomark _)) (pss_cons (ps_set (i := 6) sc_spread_numbers.nd rfl (Or.inl rfl) (pe_bm0 PySem.F.plainAttrs_list PySem.F.slot_list_pop PySem.F.type_list_pop mt_pop (pv 5)))
  (pss_one (ps_for PassesOwn.never rfl (pi_list (pe_ix ix_list (pv 0) (pv 6) (fun _ _ => rfl))) (pg_name (i := 7) sc_spread_numbers.nd rfl (Or.inl rfl)) (pss_cons (ps_set (i := 8) sc_spread_numbers.nd rfl (Or.inl rfl) (pe_dget (hu_of hr) (pv 1) (pe_f G_mate_of (hr.mono (by decide)) (by rfl) (pa_cons (pv 7) pa_nil)) (fun _ _ => rfl)))
  (pss_cons (ps_set (i := 9) sc_spread_numbers.nd rfl (Or.inl rfl) (pe_op op_sub (pe_dget (hu_of hr) (pv 4) (pv 6) (fun _ _ => rfl)) (pe_ix ix_list (pv 2) (pv 7) (fun _ _ => rfl))))
  (pss_one (ps_if (pt_cmp (pc_dnotin (hu_of hr) (pv 8) (pv 4)) rfl) (pss_cons (ps_dput (hu_of hr) (pv 4) (pv 8) (pv 9) rfl)
  (pss_one (ps_expr (pe_bm PySem.F.plainAttrs_list PySem.F.slot_list_append PySem.F.type_list_append mt_append (pv 5) (pa_cons (pv 8) pa_nil))))) (pss_one (ps_if (pt_cmpR op_ne (pe_dget (hu_of hr) (pv 4) (pv 8) (fun _ _ => rfl)) (pv 9) (nomark _)) (pss_one (ps_ret pe_non)) pss_nil))))))))))
  (pss_one (ps_ret (pv 4))))))
theorem b_spread_numbers (kV doc pm : Value) (an : Option Addr) (cdv ct : Value) (us : List Value) (hl : us.length = (["lands", "inside", "net", "first"] : List Str).length) : bindArgs (PySem.W.fnOf "spread_numbers" "spread_numbers" (defArgs (top 24)) (defBody (top 24)) (defScope (top 24)) .none kV doc pm an cdv ct) ⟨us, []⟩ = pure ((["lands", "inside", "net", "first"] : List Str).zip us) :=
  match us, hl with | [_, _, _, _], _ => rfl
/-! ### filling -/
abbrev nm_filling : List Str := ["drawing", "walk", "lands", "inside", "net", "numbers", "first", "found", "least", "land", "number"]
theorem sc_filling : FnScope nm_filling ["drawing", "walk"] (defScope (top 25)) := ⟨rfl, rfl, rfl, by decide +kernel, rfl, by decide +kernel, by decide +kernel⟩
def t_filling (K : PySem.W.Frag) (sp_lands_of : Sp) (sp_land_numbers : Sp) (sp_net_counts : Sp) (sp_spread_numbers : Sp) : TS := (tSeq (tAsg (tCall sp_lands_of [] E0 (tCons (tVar 0) tNil)) (gName 2))
  (tSeq (tAsg (tCall sp_land_numbers [] E0 (tCons (tVar 2) tNil)) (gName 3))
  (tSeq (tAsg (tCall sp_net_counts [] E0 (tCons (tVar 0) (tCons (tVar 1) tNil))) (gName 4))
  (tSeq (tAsg tDNewK (gName 5))
  (tSeq (tFor (iRng1 (tCons (tCB (rLenS K) (tCons (tVar 2) tNil)) tNil)) (gName 6) (tSeq (tIfS (tB (tDIn (tVar 6) (tVar 5))) tCont tNext)
  (tSeq (tAsg (tCall sp_spread_numbers [] E0 (tCons (tVar 2) (tCons (tVar 3) (tCons (tVar 4) (tCons (tVar 6) tNil))))) (gName 7))
  (tSeq (tIfS (tTest (tOp rNone (tVar 7) (tC .non))) (tRet (tC .non)) tNext)
  (tSeq (tAsg (tMinVals (tVar 7)) (gName 8))
  (tLock (tFor (iItems (tVar 7)) (gTup K 2 (gCons (gName 9) (gCons (gName 10) gNil))) (sDPut (tVar 5) (tVar 9) (tOp rMinus (tVar 10) (tVar 8))))))))))
  (tRet (tLc (iRng1 (tCons (tCB (rLenS K) (tCons (tVar 2) tNil)) tNil)) (gName 9) tYes (tDGet (tVar 5) (tVar 9)) [9])))))))
theorem d_filling {P : Program} {w : World} {K : PySem.W.Frag} {mg : Str → Option Value} {base : Heap} (T : Txt K mg) (sp_lands_of : Sp) (sp_land_numbers : Sp) (sp_net_counts : Sp) (sp_spread_numbers : Sp) (G_lands_of : Keeps P w K mg base CX0 "lands_of" 3 ["drawing"] sp_lands_of) (G_land_numbers : Keeps P w K mg base CX0 "land_numbers" 1 ["lands"] sp_land_numbers) (G_net_counts : Keeps P w K mg base CX0 "net_counts" 2 ["drawing", "walk"] sp_net_counts) (G_spread_numbers : Keeps P w K mg base CX0 "spread_numbers" 2 ["lands", "inside", "net", "first"] sp_spread_numbers)
  (f : Addr) (cdv : Value) (A : Around) (outer : List Env) (s : Shared) (H : Hp) (E : XK) (hr : Room 3 (A.deeper (envOfC "filling" (defScope (top 25)) s.heap.objs.size f cdv))) :
  PSs (cxOf CX0 P w K mg base nm_filling "filling" (defScope (top 25)) f cdv A outer s H E).nox (defBody (top 25)) (t_filling K sp_lands_of sp_land_numbers sp_net_counts sp_spread_numbers) :=
  (pss_cons (ps_set (i := 2) sc_filling.nd rfl (Or.inl rfl) (pe_f G_lands_of (hr.mono (by decide)) (by rfl) (pa_cons (pv 0) pa_nil)))
  (pss_cons (ps_set (i := 3) sc_filling.nd rfl (Or.inl rfl) (pe_f G_land_numbers (hr.mono (by decide)) (by rfl) (pa_cons (pv 2) pa_nil)))
  (pss_cons (ps_set (i := 4) sc_filling.nd rfl (Or.inl rfl) (pe_f G_net_counts (hr.mono (by decide)) (by rfl) (pa_cons (pv 0) (pa_cons (pv 1) pa_nil))))
  (pss_cons (ps_set (i := 5) sc_filling.nd rfl (Or.inr rfl) pe_dnewK)
  (pss_cons (ps_for PassesOwn.never rfl (pi_range1 (by rfl) T.z_range (pa_cons (pe_callB call_lenLS (by rfl) T.z_len (by decide +kernel) (pa_cons (pv 2) pa_nil)) pa_nil)) (pg_name (i := 6) sc_filling.nd rfl (Or.inl rfl)) (pss_cons (ps_if (pt_cmp (pc_din (hu_of hr) (pv 6) (pv 5)) rfl) (pss_one ps_continue) pss_nil)
  (pss_cons (ps_set (i := 7) sc_filling.nd rfl (Or.inl rfl) (pe_f G_spread_numbers (hr.mono (by decide)) (by rfl) (pa_cons (pv 2) (pa_cons (pv 3) (pa_cons (pv 4) (pa_cons (pv 6) pa_nil))))))
  (pss_cons (ps_if (pt_cmpR op_none (pv 7) pe_non (nomark _)) (pss_one (ps_ret pe_non)) pss_nil)
  (pss_cons (ps_set (i := 8) sc_filling.nd rfl (Or.inl rfl) (pe_minVals rfl (by rfl) T.z_min (pv 7)))
  (pss_one (ps_lock (ps_for PassesOwn.never rfl (pi_items (pv 7)) (pg_tup rfl (pgs_cons (pg_name (i := 9) sc_filling.nd rfl (Or.inl rfl)) (pgs_cons (pg_name (i := 10) sc_filling.nd rfl (Or.inl rfl)) pgs_nil))) (pss_one (ps_dput (hu_of hr) (pv 5) (pv 9) (pe_op op_sub (pv 10) (pv 8)) rfl))))))))))
  (pss_one (ps_ret (pe_lc (own := [("land", 9)]) (g := gName 9) (tt := tYes) rfl sc_filling.nd (pi_range1 (by rfl) T.z_range (pa_cons (pe_callB call_lenLS (by rfl) T.z_len (by decide +kernel) (pa_cons (pv 2) pa_nil)) pa_nil)) (blkOk_by (N := nm_filling) (sc := defScope (top 25)) (by decide +kernel)) (fun _ _ _ _ _ => (pg_name (i := 9) sc_filling.nd rfl (Or.inl rfl))) (fun _ _ _ _ _ => pts_nil) (fun _ _ _ _ _ => (pe_dget (hu_of hr) (pv 5) (pv 9) (fun _ _ => rfl)))))))))))
theorem b_filling (kV doc pm : Value) (an : Option Addr) (cdv ct : Value) (us : List Value) (hl : us.length = (["drawing", "walk"] : List Str).length) : bindArgs (PySem.W.fnOf "filling" "filling" (defArgs (top 25)) (defBody (top 25)) (defScope (top 25)) .none kV doc pm an cdv ct) ⟨us, []⟩ = pure ((["drawing", "walk"] : List Str).zip us) :=
  match us, hl with | [_, _], _ => rfl
/-! ### crosser -/
abbrev nm_crosser : List Str := ["drawing", "walk", "seats", "counts", "nearer", "place", "end", "turn"]
theorem sc_crosser : FnScope nm_crosser ["drawing", "walk"] (defScope (top 26)) := ⟨rfl, rfl, rfl, by decide +kernel, rfl, by decide +kernel, by decide +kernel⟩
def t_crosser (K : PySem.W.Frag) (sp_mate_of : Sp) (sp_seats_of : Sp) (sp_tree_from : Sp) (sp_round_along : Sp) (sp_left_counts : Sp) (sp_crossing_by : Sp) : TS := (tSeq (tAsg (tCall sp_seats_of [] E0 (tCons (tVar 0) tNil)) (gName 2))
  (tSeq (tAsg (tCall sp_left_counts [] E0 (tCons (tVar 0) (tCons (tVar 1) tNil))) (gName 3))
  (tSeq (tAsg (tCall sp_tree_from [] E0 (tCons (tVar 0) (tCons (tOp (rIxL K) (tVar 2) (tOp (rIxL K) (tVar 1) (tC (.int 0)))) tNil))) (gName 4))
  (tSeq (tLock (tFor (iKeys (tVar 4)) (gName 5) (tFor (iList K (tOp (rIxL K) (tVar 0) (tVar 5))) (gName 6) (tIfS (tAnd (tTest (tOp rNe (tDGet (tVar 4) (tVar 5)) (tVar 6))) (tTest (tOp rNe (tDGet (tVar 4) (tOp (rIxL K) (tVar 2) (tCall sp_mate_of [] E0 (tCons (tVar 6) tNil)))) (tCall sp_mate_of [] E0 (tCons (tVar 6) tNil))))) (tSeq (tAsg (tCall sp_round_along [] E0 (tCons (tVar 2) (tCons (tVar 4) (tCons (tVar 6) tNil)))) (gName 7))
  (tIfS (tTest (tOp rNe (tCall sp_crossing_by [] E0 (tCons (tVar 3) (tCons (tVar 7) tNil))) (tC (.int 0)))) (tRet (tVar 7)) tNext)) tNext))))
  (tRet (tLst tNil))))))
theorem d_crosser {P : Program} {w : World} {K : PySem.W.Frag} {mg : Str → Option Value} {base : Heap} (T : Txt K mg) (sp_mate_of : Sp) (sp_seats_of : Sp) (sp_tree_from : Sp) (sp_round_along : Sp) (sp_left_counts : Sp) (sp_crossing_by : Sp) (G_mate_of : Keeps P w K mg base CX0 "mate_of" 1 ["end"] sp_mate_of) (G_seats_of : Keeps P w K mg base CX0 "seats_of" 2 ["drawing"] sp_seats_of) (G_tree_from : Keeps P w K mg base CX0 "tree_from" 3 ["drawing", "root"] sp_tree_from) (G_round_along : Keeps P w K mg base CX0 "round_along" 3 ["seats", "nearer", "end"] sp_round_along) (G_left_counts : Keeps P w K mg base CX0 "left_counts" 3 ["drawing", "walk"] sp_left_counts) (G_crossing_by : Keeps P w K mg base CX0 "crossing_by" 2 ["counts", "walk"] sp_crossing_by)
  (f : Addr) (cdv : Value) (A : Around) (outer : List Env) (s : Shared) (H : Hp) (E : XK) (hr : Room 3 (A.deeper (envOfC "crosser" (defScope (top 26)) s.heap.objs.size f cdv))) :
  PSs (cxOf CX0 P w K mg base nm_crosser "crosser" (defScope (top 26)) f cdv A outer s H E).nox (defBody (top 26)) (t_crosser K sp_mate_of sp_seats_of sp_tree_from sp_round_along sp_left_counts sp_crossing_by) :=
  (pss_cons (ps_set (i := 2) sc_crosser.nd rfl (Or.inl rfl) (pe_f G_seats_of (hr.mono (by decide)) (by rfl) (pa_cons (pv 0) pa_nil)))
  (pss_cons (ps_set (i := 3) sc_crosser.nd rfl (Or.inl rfl) (pe_f G_left_counts (hr.mono (by decide)) (by rfl) (pa_cons (pv 0) (pa_cons (pv 1) pa_nil))))
  (pss_cons (ps_set (i := 4) sc_crosser.nd rfl (Or.inl rfl) (pe_f G_tree_from (hr.mono (by decide)) (by rfl) (pa_cons (pv 0) (pa_cons (pe_ix ix_list (pv 2) (pe_ix ix_list (pv 1) pe_int (fun _ _ => rfl)) (fun _ _ => rfl)) pa_nil))))
  (pss_cons (ps_lock (ps_for PassesOwn.never rfl (pi_keys (pv 4)) (pg_name (i := 5) sc_crosser.nd rfl (Or.inl rfl)) (pss_one (ps_for PassesOwn.never rfl (pi_list (pe_ix ix_list (pv 0) (pv 5) (fun _ _ => rfl))) (pg_name (i := 6) sc_crosser.nd rfl (Or.inl rfl)) (pss_one (ps_if (PW.pt (pw_and (pt_cmpR op_ne (pe_dget (hu_of hr) (pv 4) (pv 5) (fun _ _ => rfl)) (pv 6) (nomark _)) (pw_and1 (pt_cmpR op_ne (pe_dget (hu_of hr) (pv 4) (pe_ix ix_list (pv 2) (pe_f G_mate_of (hr.mono (by decide)) (by rfl) (pa_cons (pv 6) pa_nil)) (fun _ _ => rfl)) (fun _ _ => rfl)) (pe_f G_mate_of (hr.mono (by decide)) (by rfl) (pa_cons (pv 6) pa_nil)) (nomark _))))) (pss_cons (ps_set (i := 7) sc_crosser.nd rfl (Or.inl rfl) (pe_f G_round_along (hr.mono (by decide)) (by rfl) (pa_cons (pv 2) (pa_cons (pv 4) (pa_cons (pv 6) pa_nil)))))
  (pss_one (ps_if (pt_cmpR op_ne (pe_f G_crossing_by (hr.mono (by decide)) (by rfl) (pa_cons (pv 3) (pa_cons (pv 7) pa_nil))) pe_int (nomark _)) (pss_one (ps_ret (pv 7))) pss_nil))) pss_nil))))))
  (pss_one (ps_ret (pe_lst pa_nil)))))))
theorem b_crosser (kV doc pm : Value) (an : Option Addr) (cdv ct : Value) (us : List Value) (hl : us.length = (["drawing", "walk"] : List Str).length) : bindArgs (PySem.W.fnOf "crosser" "crosser" (defArgs (top 26)) (defBody (top 26)) (defScope (top 26)) .none kV doc pm an cdv ct) ⟨us, []⟩ = pure ((["drawing", "walk"] : List Str).zip us) :=
  match us, hl with | [_, _], _ => rfl
/-! ### fill_of -/
abbrev nm_fill_of : List Str := ["drawing", "walk", "numbers"]
theorem sc_fill_of : FnScope nm_fill_of ["drawing", "walk"] (defScope (top 27)) := ⟨rfl, rfl, rfl, by decide +kernel, rfl, by decide +kernel, by decide +kernel⟩
def t_fill_of (K : PySem.W.Frag) (sp_ask_walk : Sp) (sp_filling : Sp) (sp_crosser : Sp) (E : XK) : TS := (tSeq (tDrop (tCallS sp_ask_walk (WE fun cls d _ H => E cls d H) (tCons (tVar 0) (tCons (tVar 1) tNil))))
  (tSeq (tAsg (tCall sp_filling [] E0 (tCons (tVar 0) (tCons (tVar 1) tNil))) (gName 2))
  (tSeq (tIfS (tTest (tOp rNone (tVar 2) (tC .non))) (tRet (tTup (tCons (tC (.str "crossed")) (tCons (tCall sp_crosser [] E0 (tCons (tVar 0) (tCons (tVar 1) tNil))) tNil)))) tNext)
  (tRet (tTup (tCons (tC (.str "filled")) (tCons (tVar 2) tNil)))))))
theorem d_fill_of {P : Program} {w : World} {K : PySem.W.Frag} {mg : Str → Option Value} {base : Heap} (T : Txt K mg) (sp_ask_walk : Sp) (sp_filling : Sp) (sp_crosser : Sp) (G_ask_walk : Keeps P w K mg base (L2.CX P w) "ask_walk" 4 ["drawing", "ends"] sp_ask_walk) (G_filling : Keeps P w K mg base CX0 "filling" 4 ["drawing", "walk"] sp_filling) (G_crosser : Keeps P w K mg base CX0 "crosser" 4 ["drawing", "walk"] sp_crosser)
  (f : Addr) (cdv : Value) (A : Around) (outer : List Env) (s : Shared) (H : Hp) (E : XK) (hr : Room 4 (A.deeper (envOfC "fill_of" (defScope (top 27)) s.heap.objs.size f cdv))) :
  PSs (cxOf (L2.CX P w) P w K mg base nm_fill_of "fill_of" (defScope (top 27)) f cdv A outer s H E) (defBody (top 27)) (t_fill_of K sp_ask_walk sp_filling sp_crosser E) :=
  (pss_cons (ps_expr (pe_fS G_ask_walk (hr.mono (by decide)) (by rfl) (fun σ => passAt (takes_of rfl rfl rfl rfl) σ) (pa_cons (pv 0) (pa_cons (pv 1) pa_nil))))
  (pss_cons (ps_set (i := 2) sc_fill_of.nd rfl (Or.inl rfl) (pe_f G_filling (hr.mono (by decide)) (by rfl) (pa_cons (pv 0) (pa_cons (pv 1) pa_nil))))
  (pss_cons (ps_if (pt_cmpR op_none (pv 2) pe_non (nomark _)) (pss_one (ps_ret (pe_tup (pa_cons pe_str (pa_cons (pe_f G_crosser (hr.mono (by decide)) (by rfl) (pa_cons (pv 0) (pa_cons (pv 1) pa_nil))) pa_nil))))) pss_nil)
  (pss_one (ps_ret (pe_tup (pa_cons pe_str (pa_cons (pv 2) pa_nil))))))))
theorem b_fill_of (kV doc pm : Value) (an : Option Addr) (cdv ct : Value) (us : List Value) (hl : us.length = (["drawing", "walk"] : List Str).length) : bindArgs (PySem.W.fnOf "fill_of" "fill_of" (defArgs (top 27)) (defBody (top 27)) (defScope (top 27)) .none kV doc pm an cdv ct) ⟨us, []⟩ = pure ((["drawing", "walk"] : List Str).zip us) :=
  match us, hl with | [_, _], _ => rfl
end RF

set_option Elab.async false
set_option linter.all false
set_option maxRecDepth 100000
set_option maxHeartbeats 4000000
namespace RF
open PySem PySem.Spec PyProof.Rows L2 Evl
/-! # The promises: the program -/
/-- a drawing at d -/
structure Dr (H : Hp) (d : Addr) (D : Dw) (m : Nat) : Prop where
  rows : Rows H d D
  ok : Ok D m
  len : D.length ≤ 1000
  most : m ≤ 1000
theorem Dr.mono {H H' : Hp} {d : Addr} {D : Dw} {m : Nat} (e : Ex H H') (h : Dr H d D m) : Dr H' d D m := ⟨h.rows.mono e, h.ok, h.len, h.most⟩
def mz (z : Int) : Int := z + 1 - 2 * (z % 2)
theorem mz_nat (e : Nat) : mz (e : Int) = ((mate e : Nat) : Int) := mate_int e
def seats (D : Dw) (m : Nat) : List Nat := (List.range (2 * m)).map (seat D)
def behinds (D : Dw) (m : Nat) : List Nat := (List.range (2 * m)).map (nxt D)
theorem seats_get {D : Dw} {m e : Nat} (h : e < 2 * m) : (seats D m)[e]? = some (seat D e) := by
  unfold seats
  rw [List.getElem?_map, List.getElem?_range h]
  rfl
theorem behinds_get {D : Dw} {m e : Nat} (h : e < 2 * m) : (behinds D m)[e]? = some (nxt D e) := by
  unfold behinds
  rw [List.getElem?_map, List.getElem?_range h]
  rfl
theorem seats_length (D : Dw) (m : Nat) : (seats D m).length = 2 * m := by simp [seats]
theorem behinds_length (D : Dw) (m : Nat) : (behinds D m).length = 2 * m := by simp [behinds]
def sp_mate_of (K : PySem.W.Frag) : Sp := fun vs H Q _ => ∃ z : Int, vs = [.int z] ∧ RetV (.int (mz z)) H Q
def sp_count_ends (K : PySem.W.Frag) : Sp := fun vs H Q _ => ∃ d D, vs = [.ref d] ∧ Rows H d D ∧ D.length ≤ 1000 ∧ RetV (.int ((D.flatten.length : Nat) : Int)) H Q
def sp_seats_of (K : PySem.W.Frag) : Sp := fun vs H Q _ => ∃ d D m, vs = [.ref d] ∧ Dr H d D m ∧ RetL (ni (seats D m)) H Q
def sp_behind_of (K : PySem.W.Frag) : Sp := fun vs H Q _ => ∃ d D m, vs = [.ref d] ∧ Dr H d D m ∧ RetL (ni (behinds D m)) H Q
def sp_lands_of (K : PySem.W.Frag) : Sp := fun vs H Q _ => ∃ d D m, vs = [.ref d] ∧ Dr H d D m ∧ RetR (lands D m) H Q
theorem ev_mate {K : PySem.W.Frag} {σ : L2.St} {H : Hp} {te : TE} {E : XK} {e : Nat} (h : Ev te σ H (.int (e : Int))) : Ev (tCall (sp_mate_of K) [] E (tCons te tNil)) σ H (.int ((mate e : Nat) : Int)) :=
  ev_f (ea_cons h ea_nil) fun H1 e1 Q q E => ⟨(e : Int), rfl, by rw [mz_nat]; exact q⟩
theorem pure_mate_of (K : PySem.W.Frag) (vs : List V) (H : Hp) (Q : VK) (E : XK) (h : sp_mate_of K vs H Q E) : t_mate_of K { nx := fun _ H' => Q .non H', rt := Q } (start nm_mate_of vs) H := by
  obtain ⟨z, rfl, k⟩ := h
  exact s_ret (ev_sub (ev_add (ev_var rfl) ev_c) (ev_mul ev_c (ev_mod (ev_var rfl) ev_c (by omega)) (.inl (by omega)))) k
theorem sum_flat : ∀ D : List (List Nat), ((D.map fun r => (r.length : Int)).sum) = ((D.flatten.length : Nat) : Int)
  | [] => rfl
  | r :: D => by
    rw [List.map_cons, List.sum_cons, sum_flat D, List.flatten_cons, List.length_append]
    omega
theorem pure_count_ends (K : PySem.W.Frag) (vs : List V) (H : Hp) (Q : VK) (E : XK) (h : sp_count_ends K vs H Q E) : t_count_ends K { nx := fun _ H' => Q .non H', rt := Q } (start nm_count_ends vs) H := by
  obtain ⟨d, D, rfl, hD, hl, k⟩ := h
  have e : D.map (fun r => V.int (r.length : Int)) = zi (D.map fun r => (r.length : Int)) := by
    unfold zi
    rw [List.map_map]
    rfl
  refine s_ret (ev_sumN (ns := D.map fun r => (r.length : Int)) ?_) (by rw [sum_flat]; exact k)
  have q := el_lcRows (K := K) (σ := start nm_count_ends [.ref d]) (H := H) (tl := tVar 0) (te := tCB (rLenS K) (tCons (tVar 1) tNil)) (j := 1) (vs := [1]) (fun r => V.int (r.length : Int)) (ev_var rfl) hD (by omega) (fun _ => rfl) (fun i r a H1 e1 hi ha => by
    have := ev_len (K := K) (σ := (wipe (start nm_count_ends [.ref d]) [1]).set 1 (some (.ref a))) (H := H1) (ta := tVar 1) (p := a) (ev_var rfl) (sq_of ha)
    rw [ni_length] at this
    exact this)
  rw [e] at q
  exact q
theorem ev_count_ends {K : PySem.W.Frag} {σ : L2.St} {H : Hp} {te : TE} {E : XK} {d : Addr} {D : Dw} {m : Nat} (h : Ev te σ H (.ref d)) (dr : Dr H d D m) : Ev (tCall (sp_count_ends K) [] E (tCons te tNil)) σ H (.int ((2 * m : Nat) : Int)) :=
  ev_f (ea_cons h ea_nil) fun H1 e1 Q q E => ⟨d, D, rfl, dr.rows.mono e1, dr.len, by rw [dr.ok.len]; exact q⟩
/-- a table by its entries -/
def Tab (n : Nat) (f : Nat → Nat) (done : Nat → Prop) (l : List V) : Prop := l.length = n ∧ ∀ e, done e → l[e]? = some (.int ((f e : Nat) : Int))
theorem Tab.put {n : Nat} {f : Nat → Nat} {P P' : Nat → Prop} {l : List V} (h : Tab n f P l) {e : Nat} (he : e < n) (hp : ∀ x, P' x → P x ∨ x = e) : Tab n f P' (l.set e (.int ((f e : Nat) : Int))) := by
  refine ⟨by rw [List.length_set]; exact h.1, fun x hx => ?_⟩
  by_cases z : x = e
  · rw [z, List.getElem?_set_self (by rw [h.1]; exact he)]
  · rw [List.getElem?_set_ne fun w => z w.symm]
    exact h.2 x ((hp x hx).resolve_right z)
theorem Tab.full {n : Nat} {f : Nat → Nat} {P : Nat → Prop} {l : List V} (h : Tab n f P l) (hp : ∀ x, x < n → P x) : l = ni ((List.range n).map f) := by
  apply List.ext_getElem?
  intro i
  by_cases hi : i < n
  · rw [h.2 i (hp i hi)]
    unfold ni
    rw [List.getElem?_map, List.getElem?_map, List.getElem?_range hi]
    rfl
  · rw [List.getElem?_eq_none (by rw [h.1]; omega), List.getElem?_eq_none (by rw [ni_length, List.length_map, List.length_range]; omega)]
theorem take_flat_succ {D : Dw} {i : Nat} {r : List Nat} (h : D[i]? = some r) : (D.take (i + 1)).flatten = (D.take i).flatten ++ r := by
  rw [List.take_add_one, h, List.flatten_append]
  simp
theorem take_succ_mem {r : List Nat} {j e : Nat} (h : r[j]? = some e) {x : Nat} (hx : x ∈ r.take (j + 1)) : x ∈ r.take j ∨ x = e := by
  rw [List.take_add_one, h] at hx
  rcases List.mem_append.mp hx with z | z
  · exact .inl z
  · exact .inr (by simpa using z)
theorem pure_seats_of (K : PySem.W.Frag) (vs : List V) (H : Hp) (Q : VK) (E : XK) (h : sp_seats_of K vs H Q E) : t_seats_of K (sp_count_ends K) { nx := fun _ H' => Q .non H', rt := Q } (start nm_seats_of vs) H := by
  obtain ⟨d, D, m, rfl, dr, k⟩ := h
  have hm := dr.most
  refine q_asgL (el_rep1 ev_c (ev_count_ends (ev_var rfl) dr) (by omega)) fun p H1 hp e1 h1 => ?_
  refine q_forER (K := K) (ev_var rfl) dr.rows (fun i σ' H' => ∃ l y2 y3 y4, σ' = [some (.ref d), some (.ref p), y2, y3, y4] ∧ Ex H H' ∧ H' p = some (.lst l) ∧ Tab (2 * m) (seat D) (fun e => e ∈ (D.take i).flatten) l)
    (fun H2 e2 => ⟨_, none, none, none, rfl, e1.trans e2, e2 _ _ h1, by rw [List.length_replicate], fun e he => by simp at he⟩) (fun i σ' H' ⟨_, _, _, _, _, e, _⟩ => e) (fun i r a σ' H' H2 hr ha ⟨l, y2, y3, y4, es, e2, hl, ht⟩ e3 => ?_) (fun σ' H' ⟨l, y2, y3, y4, es, e2, hl, ht⟩ => ?_)
  · subst es
    refine s_forN (K := K) (ev_var rfl) (sq_of ha) (fun j σ' H' => ∃ l y4, σ' = [some (.ref d), some (.ref p), some (.int (i : Int)), some (.ref a), y4] ∧ Ex H H' ∧ H' p = some (.lst l) ∧ Tab (2 * m) (seat D) (fun e => e ∈ (D.take i).flatten ∨ e ∈ r.take j) l)
      (fun H3 e4 => ⟨l, y4, rfl, (e2.trans e3).trans e4, e4 _ _ (e3 _ _ hl), ht.1, fun e he => ht.2 e (he.resolve_right (by simp))⟩) (fun j σ' H' ⟨_, _, _, e, _⟩ => e) (fun j n σ' H' hn ⟨l, y4, es, e4, hl, ht⟩ => ?_) (fun σ' H' ⟨l, y4, es, e4, hl, ht⟩ => ?_)
    · subst es
      have hnr : n ∈ r := List.mem_of_getElem? hn
      have hn2 := dr.ok.row_lt hr hnr
      have hs := dr.ok.seat_of hr hnr
      refine s_setL hl (ev_var rfl) (ev_var rfl) (ev_var rfl) (by rw [ht.1]; exact hn2) fun H5 e5 => ⟨_, _, rfl, Ex.mut (e4.trans e5) hp, upd_same, ?_⟩
      have q := ht.put (P' := fun e => e ∈ (D.take i).flatten ∨ e ∈ r.take (j + 1)) hn2 fun x hx => by
        rcases hx with z | z
        · exact .inl (.inl z)
        · exact (take_succ_mem hn z).imp .inr id
      rw [hs] at q
      exact q
    · refine ⟨l, _, _, _, es, e4, hl, ht.1, fun e he => ht.2 e ?_⟩
      rw [take_flat_succ hr] at he
      rw [List.take_length]
      exact List.mem_append.mp he
  · subst es
    rw [List.take_length] at ht
    rw [ht.full fun x hx => (dr.ok.mem x).mpr hx] at hl
    exact s_ret (ev_var rfl) fun H1 e3 => k p H1 hp (e2.trans e3) (e3 _ _ hl)
theorem pure_behind_of (K : PySem.W.Frag) (vs : List V) (H : Hp) (Q : VK) (E : XK) (h : sp_behind_of K vs H Q E) : t_behind_of K (sp_count_ends K) { nx := fun _ H' => Q .non H', rt := Q } (start nm_behind_of vs) H := by
  obtain ⟨d, D, m, rfl, dr, k⟩ := h
  have hm := dr.most
  refine q_asgL (el_rep1 ev_c (ev_count_ends (ev_var rfl) dr) (by omega)) fun p H1 hp e1 h1 => ?_
  refine q_forRows (K := K) (ev_var rfl) dr.rows (fun i σ' H' => ∃ l y2 y3 y4, σ' = [some (.ref d), some (.ref p), y2, y3, y4] ∧ Ex H H' ∧ H' p = some (.lst l) ∧ Tab (2 * m) (nxt D) (fun e => e ∈ (D.take i).flatten) l)
    (fun H2 e2 => ⟨_, none, none, none, rfl, e1.trans e2, e2 _ _ h1, by rw [List.length_replicate], fun e he => by simp at he⟩) (fun i σ' H' ⟨_, _, _, _, _, e, _⟩ => e) (fun i r a σ' H' hr ha ⟨l, y2, y3, y4, es, e2, hl, ht⟩ => ?_) (fun σ' H' ⟨l, y2, y3, y4, es, e2, hl, ht⟩ => ?_)
  · subst es
    refine s_forEN (K := K) (ev_var rfl) (sq_of ha) (fun j σ' H' => ∃ l y3 y4, σ' = [some (.ref d), some (.ref p), some (.ref a), y3, y4] ∧ Ex H H' ∧ H' p = some (.lst l) ∧ Tab (2 * m) (nxt D) (fun e => e ∈ (D.take i).flatten ∨ e ∈ r.take j) l)
      (fun H3 e4 => ⟨l, y3, y4, rfl, e2.trans e4, e4 _ _ hl, ht.1, fun e he => ht.2 e (he.resolve_right (by simp))⟩) (fun j σ' H' ⟨_, _, _, _, e, _⟩ => e) (fun j n σ' H' H3 hn ⟨l, y3, y4, es, e4, hl, ht⟩ e5 => ?_) (fun σ' H' ⟨l, y3, y4, es, e4, hl, ht⟩ => ?_)
    · subst es
      have hnr : n ∈ r := List.mem_of_getElem? hn
      have hn2 := dr.ok.row_lt hr hnr
      have hlen : 0 < r.length := List.length_pos_of_mem hnr
      have hrow := sq_of (K := K) (e5 _ _ (e4 _ _ ha))
      have hi : Ev (tOp rModP (tOp rPlus (tVar 3) (tC (.int 1))) (tCB (rLenS K) (tCons (tVar 2) tNil))) [some (.ref d), some (.ref p), some (.ref a), some (.int (j : Int)), some (.int (n : Int))] H3 (.int (((j + 1) % r.length : Nat) : Int)) := by
        have q := ev_mod (σ := [some (.ref d), some (.ref p), some (.ref a), some (.int (j : Int)), some (.int (n : Int))]) (H := H3) (ev_add (ev_var (i := 3) (v := .int (j : Int)) rfl) (ev_c (v := .int 1))) (ev_len (K := K) (ta := tVar 2) (ev_var rfl) hrow) (by rw [ni_length]; omega)
        rw [ni_length] at q
        rw [show (((j + 1) % r.length : Nat) : Int) = ((j : Int) + 1) % (r.length : Int) from by rw [Int.natCast_emod]; rfl]
        exact q
      refine s_setL (e5 _ _ hl) (ev_ixL (ev_var rfl) hi hrow (ni_get (dr.ok.nxt_at hr hn))) (ev_var rfl) (ev_var rfl) (by rw [ht.1]; exact hn2) fun H5 e6 => ⟨_, _, _, rfl, Ex.mut ((e4.trans e5).trans e6) hp, upd_same, ?_⟩
      exact ht.put hn2 fun x hx => by
        rcases hx with z | z
        · exact .inl (.inl z)
        · exact (take_succ_mem hn z).imp .inr id
    · refine ⟨l, _, _, _, es, e4, hl, ht.1, fun e he => ht.2 e ?_⟩
      rw [take_flat_succ hr] at he
      rw [List.take_length]
      exact List.mem_append.mp he
  · subst es
    rw [List.take_length] at ht
    rw [ht.full fun x hx => (dr.ok.mem x).mpr hx] at hl
    exact s_ret (ev_var rfl) fun H1 e3 => k p H1 hp (e2.trans e3) (e3 _ _ hl)
end RF

set_option Elab.async false
set_option linter.all false
set_option maxRecDepth 100000
set_option maxHeartbeats 4000000
namespace RF
open PySem PySem.Spec PyProof.Rows L2 Evl
/-! ## lands_of -/
theorem RowsA.upd {H : Hp} {d p : Addr} {as : List Addr} {D : List (List Nat)} {o : HO} (h : RowsA H d as D) (h1 : d ≠ p) (h2 : ∀ c ∈ as, c ≠ p) : RowsA (L2.upd H p o) d as D :=
  ⟨by rw [upd_ne h1]; exact h.1, h.2.1, fun i a r ha hr => by rw [upd_ne (h2 a (List.mem_of_getElem? ha))]; exact h.2.2 i a r ha hr⟩
theorem RowsA.push {H : Hp} {d p : Addr} {as : List Addr} {D : List (List Nat)} {r : List Nat} (h : RowsA H d as D) (hp : H p = some (.lst (ni r))) (h1 : p ≠ d) (h2 : ∀ c ∈ as, c ≠ d) : RowsA (L2.upd H d (.lst (as.map V.ref ++ [.ref p]))) d (as ++ [p]) (D ++ [r]) := by
  refine ⟨?_, ?_, fun i a s ha hs => ?_⟩
  · rw [upd_same, List.map_append]
    rfl
  · rw [List.length_append, List.length_append, h.2.1]
    rfl
  · by_cases hi : i < as.length
    · rw [List.getElem?_append_left hi] at ha
      rw [List.getElem?_append_left (by rw [← h.2.1]; exact hi)] at hs
      rw [upd_ne (h2 a (List.mem_of_getElem? ha))]
      exact h.2.2 i a s ha hs
    · have hl := (List.getElem?_eq_some_iff.mp ha).1
      rw [List.length_append, List.length_singleton] at hl
      have ei : i = as.length := by omega
      rw [List.getElem?_append_right (by omega), ei, Nat.sub_self] at ha
      rw [List.getElem?_append_right (by rw [← h.2.1]; omega), ei, h.2.1, Nat.sub_self] at hs
      rw [← Option.some.inj ha, ← Option.some.inj hs, upd_ne h1]
      exact hp
def seenL (N : Nat) (S : List Nat) : List V := (List.range N).map fun e => V.bl (decide (e ∈ S))
theorem seenL_length (N : Nat) (S : List Nat) : (seenL N S).length = N := by simp [seenL]
theorem seenL_get {N : Nat} {S : List Nat} {e : Nat} (h : e < N) : (seenL N S)[e]? = some (.bl (decide (e ∈ S))) := by
  unfold seenL
  rw [List.getElem?_map, List.getElem?_range h]
  rfl
theorem seenL_set {N : Nat} {S : List Nat} {e : Nat} (h : e < N) : (seenL N S).set e (.bl true) = seenL N (e :: S) := by
  apply List.ext_getElem?
  intro i
  by_cases hi : i < N
  · rw [seenL_get hi]
    by_cases z : i = e
    · rw [z, List.getElem?_set_self (by rw [seenL_length]; exact h)]
      simp
    · rw [List.getElem?_set_ne fun w => z w.symm, seenL_get hi]
      simp [z]
  · rw [List.getElem?_eq_none (by rw [List.length_set, seenL_length]; omega), List.getElem?_eq_none (by rw [seenL_length]; omega)]
theorem seenL_nil (N : Nat) : List.replicate N (V.bl false) = seenL N [] := by
  apply List.ext_getElem?
  intro i
  by_cases hi : i < N
  · rw [seenL_get hi, List.getElem?_replicate, if_pos hi]
    simp
  · rw [List.getElem?_eq_none (by rw [List.length_replicate]; omega), List.getElem?_eq_none (by rw [seenL_length]; omega)]
theorem el_behind {K : PySem.W.Frag} {σ : L2.St} {H : Hp} {te : TE} {E : XK} {d : Addr} {D : Dw} {m : Nat} (h : Ev te σ H (.ref d)) (dr : Dr H d D m) : EvL (tCall (sp_behind_of K) [] E (tCons te tNil)) σ H (ni (behinds D m)) :=
  el_f (ea_cons h ea_nil) fun H1 e1 Q q E => ⟨d, D, m, rfl, dr.mono e1, q⟩
theorem el_seats {K : PySem.W.Frag} {σ : L2.St} {H : Hp} {te : TE} {E : XK} {d : Addr} {D : Dw} {m : Nat} (h : Ev te σ H (.ref d)) (dr : Dr H d D m) : EvL (tCall (sp_seats_of K) [] E (tCons te tNil)) σ H (ni (seats D m)) :=
  el_f (ea_cons h ea_nil) fun H1 e1 Q q E => ⟨d, D, m, rfl, dr.mono e1, q⟩
/-- the bare places -/
theorem bare_succ {D : Dw} {i : Nat} {r : List Nat} (h : D[i]? = some r) : (D.take (i + 1)).countP (fun r => r.isEmpty) = (D.take i).countP (fun r => r.isEmpty) + (if r.isEmpty then 1 else 0) := by
  rw [List.take_add_one, h, List.countP_append]
  show _ + List.countP _ [r] = _
  rw [List.countP_singleton]
theorem pure_lands_of (K : PySem.W.Frag) (vs : List V) (H : Hp) (Q : VK) (E : XK) (h : sp_lands_of K vs H Q E) : t_lands_of K (sp_mate_of K) (sp_behind_of K) { nx := fun _ H' => Q .non H', rt := Q } (start nm_lands_of vs) H := by
  obtain ⟨d, D, m, rfl, dr, k⟩ := h
  have hm := dr.most
  have ok := dr.ok
  refine q_asgL (el_behind (ev_var rfl) dr) fun b H1 hb0 e1 hb => ?_
  have lenB : ∀ {σ : L2.St} {H' : Hp}, σ[1]? = some (some (.ref b)) → Ex H1 H' → Ev (tCB (rLenS K) (tCons (tVar 1) tNil)) σ H' (.int ((2 * m : Nat) : Int)) := fun {σ H'} hσ ex => by
    have q := ev_len (K := K) (ta := tVar 1) (ev_var hσ) (sq_of (ex _ _ hb))
    rw [ni_length, behinds_length] at q
    exact q
  refine q_asgL (el_rep1 ev_c (lenB rfl (Ex.refl _)) (by omega)) fun s H2 hs0 e2 hs => ?_
  rw [seenL_nil] at hs
  refine q_asgL (el_lst ea_nil (by show 0 ≤ 100000; omega)) fun L H3 hL0 e3 hL => ?_
  have nLs : L ≠ s := fun z => by rw [z, hs] at hL0; cases hL0
  have hL1 : H1 L = none := fresh_back e2 hL0
  refine q_forR (k := 2 * m) (lenB rfl (e2.trans e3)) (by omega) (fun i σ' H' => ∃ S Ls as y4 y5 y6 y7, σ' = [some (.ref d), some (.ref b), some (.ref s), some (.ref L), y4, y5, y6, y7] ∧ Ex H1 H' ∧ H' s = some (.lst (seenL (2 * m) S)) ∧ RowsA H' L as Ls ∧ (∀ c ∈ as, c ≠ s ∧ c ≠ L) ∧ OT (stp D) (2 * m) i S Ls)
    (fun H4 e4 => ⟨[], [], [], none, none, none, none, rfl, (e2.trans e3).trans e4, e4 _ _ (e3 _ _ hs), ⟨e4 _ _ hL, rfl, fun i a r ha _ => by simp at ha⟩, (fun c hc => by cases hc), OT.start⟩)
    (fun i σ' H' hi ⟨S, Ls, as, y4, y5, y6, y7, es, ex, h1, h2, h3, h4⟩ => ?_) (fun σ' H' ⟨S, Ls, as, y4, y5, y6, y7, es, ex, h1, h2, h3, h4⟩ => ?_)
  · subst es
    refine q_when (b := decide (i ∈ S)) (et_B (ev_ixL (ev_var rfl) (ev_var rfl) (sq_of h1) (seenL_get hi))) (fun hbt H4 e4 => ?_) (fun hbt H4 e4 => ?_)
    · exact ⟨S, Ls, as, _, y5, y6, y7, rfl, ex.trans e4, e4 _ _ h1, h2.mono e4, h3, h4.skip hi (of_decide_eq_true hbt)⟩
    · have hS : i ∉ S := of_decide_eq_false hbt
      refine q_asgL (el_lst ea_nil (by show 0 ≤ 100000; omega)) fun p H5 hp0 e5 hp => ?_
      have nps : p ≠ s := fun z => by rw [z, e4 _ _ h1] at hp0; cases hp0
      have npL : p ≠ L := fun z => by rw [z, e4 _ _ h2.1] at hp0; cases hp0
      have npa : ∀ c ∈ as, c ≠ p := fun c hc z => by
        obtain ⟨j, hj⟩ := List.mem_iff_getElem?.mp hc
        have hl : j < Ls.length := by rw [← h2.2.1]; exact (List.getElem?_eq_some_iff.mp hj).1
        have q := e4 _ _ (h2.2.2 j c _ hj (List.getElem?_eq_getElem hl))
        rw [z, hp0] at q
        cases q
      have hp1 : H1 p = none := fresh_back (ex.trans e4) hp0
      have hs1 : H1 s = none := hs0
      refine q_asg (ev_var rfl) fun H6 e6 => ?_
      refine q_while (fun n σ2 H7 => ∃ S2 acc e, σ2 = [some (.ref d), some (.ref b), some (.ref s), some (.ref L), some (.int (i : Int)), some (.ref p), some (.int ((e : Nat) : Int)), y7] ∧ Ex H1 H7 ∧ H7 s = some (.lst (seenL (2 * m) S2)) ∧ H7 p = some (.lst (ni acc)) ∧ RowsA H7 L as Ls ∧ OS (stp D) (2 * m) S (orb (stp D) (2 * m + 1) S i) n S2 acc e)
        (2 * m + 1) ⟨S, [], i, rfl, (((ex.trans e4).trans e5).trans e6), e6 _ _ (e5 _ _ (e4 _ _ h1)), e6 _ _ hp, h2.mono ((e4.trans e5).trans e6), OS.start h4.nd h4.lt hi⟩ ?_
      rintro n σ2 H7 ⟨S2, acc, e, rfl, ex7, g1, g2, g3, g4⟩
      refine ⟨!decide (e ∈ S2), et_not (et_B (ev_ixL (ev_var rfl) (ev_var rfl) (sq_of g1) (seenL_get g4.el))), fun hb2 H8 e8 => ?_, fun hb2 H8 e8 => ?_⟩
      · have he : e ∉ S2 := by simpa using hb2
        obtain ⟨n', rfl, g5⟩ := g4.step ok.stp he
        have big := nodup_bound g4.nd g4.lt
        have lacc : acc.length ≤ 2 * m := by
          have := g4.sS
          rw [this] at big
          simp at big
          omega
        refine ⟨fun σ3 H9 => ∃ S2 acc e, σ3 = [some (.ref d), some (.ref b), some (.ref s), some (.ref L), some (.int (i : Int)), some (.ref p), some (.int ((e : Nat) : Int)), y7] ∧ Ex H1 H9 ∧ H9 s = some (.lst (seenL (2 * m) S2)) ∧ H9 p = some (.lst (ni acc)) ∧ RowsA H9 L as Ls ∧ OS (stp D) (2 * m) S (orb (stp D) (2 * m + 1) S i) n' S2 acc e, fun σ3 H9 w => ⟨n', by omega, w⟩, ?_⟩
        refine q_setL (j := e) (e8 _ _ g1) ev_c (ev_var rfl) (ev_var rfl) (by rw [seenL_length]; exact g4.el) fun H9 e9 => ?_
        rw [seenL_set g4.el]
        have x9 := Ex.mut (o := HO.lst (seenL (2 * m) (e :: S2))) ((ex7.trans e8).trans e9) hs1
        have r9 : RowsA (upd H9 s (.lst (seenL (2 * m) (e :: S2)))) L as Ls := (g3.mono (e8.trans e9)).upd nLs fun c hc => (h3 c hc).1
        have p9 : (upd H9 s (.lst (seenL (2 * m) (e :: S2)))) p = some (.lst (ni acc)) := by rw [upd_ne nps]; exact e9 _ _ (e8 _ _ g2)
        refine q_app p9 (ev_var rfl) (ev_var (v := .int ((e : Nat) : Int)) rfl) (by rw [ni_length]; omega) fun H10 e10 => ?_
        have x10 := Ex.mut (o := HO.lst (ni acc ++ [.int ((e : Nat) : Int)])) (x9.trans e10) hp1
        refine s_asg (ev_ixL (k := mate e) (v := .int ((stp D e : Nat) : Int)) (ev_var rfl) (ev_mate (ev_var rfl)) (sq_of (x10 _ _ hb)) (ni_get (behinds_get (mate_lt g4.el)))) fun H11 e11 => ?_
        refine ⟨e :: S2, acc ++ [e], stp D e, rfl, x10.trans e11, ?_, ?_, ?_, g5⟩
        · refine e11 _ _ ?_
          rw [upd_ne nps.symm]
          exact e10 _ _ upd_same
        · refine e11 _ _ ?_
          rw [upd_same, ni_append]
          rfl
        · exact ((r9.mono e10).upd npL.symm npa).mono e11
      · have he : e ∈ S2 := by simpa using hb2
        obtain ⟨q1, q2⟩ := g4.stop he
        rw [← q1] at q2
        have hle := h4.le
        have la : as.length = Ls.length := h2.2.1
        refine s_app (e8 _ _ g3.1) (ev_var rfl) (ev_var (v := .ref p) rfl) (by rw [List.length_map, la]; omega) fun H9 e9 => ?_
        have r9 := (g3.mono (e8.trans e9)).push (e9 _ _ (e8 _ _ g2)) npL (fun c hc => (h3 c hc).2)
        refine ⟨S2, Ls ++ [acc], as ++ [p], _, _, _, _, rfl, Ex.mut ((ex7.trans e8).trans e9) hL1, ?_, r9, ?_, h4.take hi hS q1 q2 g4.nd g4.lt⟩
        · rw [upd_ne nLs.symm]
          exact e9 _ _ (e8 _ _ g1)
        · intro c hc
          rcases List.mem_append.mp hc with z | z
          · exact h3 c z
          · rw [List.mem_singleton.mp z]
            exact ⟨nps, npL⟩
  · subst es
    have hLs := h4.done
    have hlen : Ls.length ≤ 2 * m := h4.le
    refine q_forRows (K := K) (ev_var rfl) dr.rows (fun i σ' H' => ∃ as y4 y5 y6 y7, σ' = [some (.ref d), some (.ref b), some (.ref s), some (.ref L), y4, y5, y6, y7] ∧ Ex H1 H' ∧ RowsA H' L as (Ls ++ List.replicate ((D.take i).countP fun r => r.isEmpty) []) ∧ (∀ c ∈ as, c ≠ L))
      (fun H4 e4 => ⟨as, y4, y5, y6, y7, rfl, ex.trans e4, by simpa using h2.mono e4, fun c hc => (h3 c hc).2⟩) (fun i σ' H' ⟨_, _, _, _, _, _, e, _⟩ => e1.trans e) (fun i r a σ' H' hr ha ⟨as, y4, y5, y6, y7, es, ex, g1, g2⟩ => ?_) (fun σ' H' ⟨as, y4, y5, y6, y7, es, ex, g1, g2⟩ => ?_)
    · subst es
      have hra := ex _ _ (e1 _ _ ha)
      have le := ev_len (K := K) (σ := [some (.ref d), some (.ref b), some (.ref s), some (.ref L), y4, y5, y6, some (.ref a)]) (ta := tVar 7) (ev_var rfl) (sq_of hra)
      rw [ni_length] at le
      have sc := bare_succ hr
      refine s_when (b := decide (((r.length : Nat) : Int) = 0)) (et_test (ev_eqI le ev_c)) (fun hb H4 e4 => ?_) (fun hb H4 e4 => ?_)
      · have er : r = [] := List.eq_nil_of_length_eq_zero (by have := of_decide_eq_true hb; omega)
        subst er
        have lD := dr.len
        have cD : (D.take i).countP (fun r => r.isEmpty) ≤ 1000 := Nat.le_trans (List.countP_le_length) (by rw [List.length_take]; omega)
        have lL := g1.2.1
        rw [List.length_append, List.length_replicate] at lL
        refine s_appL (e4 _ _ g1.1) (ev_var rfl) (el_lst ea_nil (by show 0 ≤ 100000; omega)) (by rw [List.length_map, lL]; omega) fun p H5 hp0 e5 hp => ?_
        have npL : p ≠ L := fun z => by rw [z, e4 _ _ g1.1] at hp0; cases hp0
        have r5 := (g1.mono (e4.trans e5)).push (r := []) hp npL g2
        refine ⟨as ++ [p], _, _, _, _, rfl, Ex.mut ((ex.trans e4).trans e5) hL1, ?_, fun c hc => ?_⟩
        · rw [sc]
          rw [List.append_assoc] at r5
          rw [show List.replicate ((D.take i).countP (fun r => r.isEmpty) + (if ([] : List Nat).isEmpty = true then 1 else 0)) ([] : List Nat) = List.replicate ((D.take i).countP (fun r => r.isEmpty)) [] ++ [[]] from by
            simp [List.replicate_succ']]
          exact r5
        · rcases List.mem_append.mp hc with z | z
          · exact g2 c z
          · rw [List.mem_singleton.mp z]
            exact npL
      · have er : r.isEmpty = false := by
          cases r with
          | nil => simp at hb
          | cons x r => rfl
        refine ⟨as, _, _, _, _, rfl, ex.trans e4, ?_, g2⟩
        rw [sc, er]
        exact g1.mono e4
    · subst es
      rw [List.take_length] at g1
      refine s_ret (ev_var rfl) fun H4 e4 => k L H4 (fresh_back e1 hL1) (e1.trans (ex.trans e4)) ⟨as, ?_⟩
      unfold lands
      rw [hLs]
      exact g1.mono e4
end RF

set_option Elab.async false
set_option linter.all false
set_option maxRecDepth 100000
set_option maxHeartbeats 4000000
namespace RF
open PySem PySem.Spec PyProof.Rows L2 Evl
/-! ## walks, counts, ways -/
def okEnds (m : Nat) (W : List Int) : Bool := W.all fun z => decide (0 ≤ z) && decide (z < ((2 * m : Nat) : Int))
def nats (W : List Int) : List Nat := W.map Int.toNat
def isWalkB (D : Dw) (m : Nat) (W : List Int) : Bool := okEnds m W && decide (∀ v ∈ visits (nats W), seat D (mate v.1) = seat D v.2)
def zOf (W : List Nat) : List Int := W.map fun n => ((n : Nat) : Int)
theorem zi_zOf (W : List Nat) : zi (zOf W) = ni W := (ni_zi W).symm
theorem zOf_length (W : List Nat) : (zOf W).length = W.length := List.length_map ..
theorem nats_length (W : List Int) : (nats W).length = W.length := List.length_map ..
theorem nats_zOf (W : List Nat) : nats (zOf W) = W := by
  unfold nats zOf
  rw [List.map_map]
  conv => rhs; rw [← List.map_id W]
  exact List.map_congr_left fun n _ => by simp
theorem okEnds_mem {m : Nat} {W : List Int} (h : okEnds m W = true) : ∀ z ∈ W, 0 ≤ z ∧ z < ((2 * m : Nat) : Int) := fun z hz => by
  have := List.all_eq_true.mp h z hz
  simpa using this
theorem isWalk_nat {D : Dw} {m : Nat} {W : List Int} (h : isWalkB D m W = true) : WalkN D m (nats W) ∧ W = zOf (nats W) := by
  obtain ⟨h1, h2⟩ := Bool.and_eq_true_iff.mp h
  have hm := okEnds_mem h1
  refine ⟨⟨fun e he => ?_, of_decide_eq_true h2⟩, ?_⟩
  · obtain ⟨z, hz, e1⟩ := List.mem_map.mp he
    have := hm z hz
    omega
  · unfold zOf nats
    rw [List.map_map]
    conv => lhs; rw [← List.map_id W]
    exact List.map_congr_left fun z hz => by
      have := hm z hz
      simp
      omega
theorem isWalk_of {D : Dw} {m : Nat} {W : List Nat} (h : WalkN D m W) : isWalkB D m (zOf W) = true := by
  refine Bool.and_eq_true_iff.mpr ⟨List.all_eq_true.mpr fun z hz => ?_, ?_⟩
  · obtain ⟨e, he, rfl⟩ := List.mem_map.mp hz
    have := h.lt e he
    simp
    omega
  · rw [nats_zOf]
    exact decide_eq_true h.on
theorem atI_prev {xs : List V} {i : Nat} {v : V} (hi : i < xs.length) (h : xs[if i = 0 then xs.length - 1 else i - 1]? = some v) : atI xs ((i : Int) - 1) = some v := by
  by_cases z : i = 0
  · rw [if_pos z] at h
    exact atI_back (by omega) (j := xs.length - 1) (by omega) h
  · rw [if_neg z] at h
    exact atI_int (j := i - 1) (by omega) h
def sp_is_walk (K : PySem.W.Frag) : Sp := fun vs H Q _ => ∃ d D m w W, vs = [.ref d, .ref w] ∧ Dr H d D m ∧ SqL K H w (zi W) ∧ RetV (.bl (isWalkB D m W)) H Q
/-- refuses what is no walk -/
def sp_ask_walk (K : PySem.W.Frag) : Sp := fun vs H Q E => ∃ d D m w W, vs = [.ref d, .ref w] ∧ Dr H d D m ∧ SqL K H w (zi W) ∧ (isWalkB D m W = true → RetV .non H Q) ∧ (isWalkB D m W = false → ∀ H2, Ex H H2 → E (.ref (He.ga K "NoWalk")) none H2)
def sp_left_counts (K : PySem.W.Frag) : Sp := fun vs H Q _ => ∃ d D m w W, vs = [.ref d, .ref w] ∧ Dr H d D m ∧ SqL K H w (ni W) ∧ W.length ≤ 40000 ∧ WalkN D m W ∧ RetL (zi ((List.range (2 * m)).map (LF D m W))) H Q
def sp_crossing_by (K : PySem.W.Frag) : Sp := fun vs H Q _ => ∃ c w n f W, vs = [.ref c, .ref w] ∧ SqL K H c (zi ((List.range (2 * n)).map f)) ∧ SqL K H w (ni W) ∧ W.length ≤ 40000 ∧ (∀ e ∈ W, e < 2 * n) ∧ RetV (.int (cross f W)) H Q
def netF (W : List Nat) (e : Nat) : Int := (W.count e : Int) - (W.count (mate e) : Int)
def sp_net_counts (K : PySem.W.Frag) : Sp := fun vs H Q _ => ∃ d D m w W, vs = [.ref d, .ref w] ∧ Dr H d D m ∧ SqL K H w (ni W) ∧ (∀ e ∈ W, e < 2 * m) ∧ RetL (zi ((List.range (2 * m)).map (netF W))) H Q
/-- a dict of ints by its pairs -/
def dT (T : List (Nat × Int)) : List (Key × V) := T.map fun q => (Sum.inl ((q.1 : Nat) : Int), V.int q.2)
/-- each end's land -/
def insT (L : List (List Nat)) : List (Nat × Int) := L.flatten.map fun e => (e, ((seat L e : Nat) : Int))
def sp_land_numbers (K : PySem.W.Frag) : Sp := fun vs H Q _ => ∃ d L, vs = [.ref d] ∧ Rows H d L ∧ L.flatten.Nodup ∧ L.flatten.length ≤ 10000 ∧ RetD (dT (insT L)) H Q
def sp_turned_about (K : PySem.W.Frag) : Sp := fun vs H Q _ => ∃ w W, vs = [.ref w] ∧ SqL K H w (ni W) ∧ W.length ≤ 40000 ∧ RetL (ni (W.reverse.map mate)) H Q
theorem pure_is_walk (K : PySem.W.Frag) (vs : List V) (H : Hp) (Q : VK) (E : XK) (h : sp_is_walk K vs H Q E) : t_is_walk K (sp_mate_of K) (sp_seats_of K) { nx := fun _ H' => Q .non H', rt := Q } (start nm_is_walk vs) H := by
  obtain ⟨d, D, m, w, W, rfl, dr, hw, k⟩ := h
  refine q_asgL (el_seats (ev_var rfl) dr) fun p H1 hp e1 h1 => ?_
  refine q_forZ (K := K) (l := W) (ev_var rfl) hw (fun i σ' H' => ∃ y3 y4, σ' = [some (.ref d), some (.ref w), some (.ref p), y3, y4] ∧ Ex H1 H' ∧ ∀ z ∈ W.take i, 0 ≤ z ∧ z < ((2 * m : Nat) : Int))
    (fun H2 e2 => ⟨none, none, rfl, e2, fun z hz => by simp at hz⟩) (fun i σ' H' ⟨_, _, _, e, _⟩ => e1.trans e) (fun i n σ' H' hn ⟨y3, y4, es, ex, hz⟩ => ?_) (fun σ' H' ⟨y3, y4, es, ex, hz⟩ => ?_)
  · subst es
    have le := ev_len (K := K) (σ := [some (.ref d), some (.ref w), some (.ref p), some (.int n), y4]) (ta := tVar 2) (ev_var rfl) (sq_of (ex _ _ h1))
    rw [ni_length, seats_length] at le
    refine s_when (et_or (a := decide (n < 0)) (b := decide (((2 * m : Nat) : Int) ≤ n)) (et_test (ev_lt (ev_var rfl) ev_c)) fun _ => et_test (ev_ge (ev_var rfl) le)) (fun hb H4 e4 => ?_) (fun hb H4 e4 => ?_)
    · refine s_ret ev_c fun H5 e5 => ?_
      have z := k H5 (e1.trans (ex.trans (e4.trans e5)))
      have hf : isWalkB D m W = false := by
        have : okEnds m W = false := by
          rw [Bool.eq_false_iff]
          intro hk
          have := okEnds_mem hk n (List.mem_of_getElem? hn)
          simp at hb
          omega
        unfold isWalkB
        rw [this, Bool.false_and]
      rw [hf] at z
      exact z
    · refine ⟨_, y4, rfl, ex.trans e4, fun z hz' => ?_⟩
      rw [List.take_add_one, hn] at hz'
      rcases List.mem_append.mp hz' with q | q
      · exact hz z q
      · have : z = n := by simpa using q
        rw [this]
        simp at hb
        omega
  · subst es
    rw [List.take_length] at hz
    have hok : okEnds m W = true := List.all_eq_true.mpr fun z hzz => by
      have := hz z hzz
      simp
      omega
    have hnat : ∀ {i : Nat} {n : Int}, W[i]? = some n → ∃ e : Nat, n = (e : Int) ∧ e < 2 * m ∧ (nats W)[i]? = some e := fun {i n} hn => by
      have := hz n (List.mem_of_getElem? hn)
      refine ⟨n.toNat, by omega, by omega, ?_⟩
      unfold nats
      rw [List.getElem?_map, hn]
      rfl
    refine q_forEZ (K := K) (l := W) (ev_var rfl) hw (fun i σ' H' => ∃ y3 y4, σ' = [some (.ref d), some (.ref w), some (.ref p), y3, y4] ∧ Ex H1 H' ∧ ∀ j, j < i → ∀ v, (visits (nats W))[j]? = some v → seat D (mate v.1) = seat D v.2)
      (fun H2 e2 => ⟨y3, y4, rfl, ex.trans e2, fun j hj => by omega⟩) (fun i σ' H' ⟨_, _, _, e, _⟩ => e1.trans e) (fun i n σ' H' H2 hn ⟨y3, y4, es, ex, hv⟩ e2 => ?_) (fun σ' H' ⟨y3, y4, es, ex, hv⟩ => ?_)
    · subst es
      obtain ⟨e, rfl, he, hne⟩ := hnat hn
      have hi : i < W.length := (List.getElem?_eq_some_iff.mp hn).1
      obtain ⟨n', hn'⟩ : ∃ n', W[if i = 0 then W.length - 1 else i - 1]? = some n' := ⟨_, List.getElem?_eq_getElem (by split <;> omega)⟩
      obtain ⟨e', rfl, he', hne'⟩ := hnat hn'
      have hp2 := sq_of (K := K) (e2 _ _ (ex _ _ h1))
      have hw2 : SqL K H2 w (zi W) := ex_l (e1.trans (ex.trans e2)) hw
      have hv1 := visits_at hne (by rw [nats_length]; exact hne')
      refine s_when (b := !decide (((seat D (mate e') : Nat) : Int) = ((seat D e : Nat) : Int))) (et_test (ev_neI (ev_ixL (ev_var rfl) (ev_mate (ev_ixI (ev_var rfl) (ev_sub (ev_var rfl) ev_c) hw2 (atI_prev (by rw [zi_length]; exact hi) (by rw [zi_length]; exact zi_get hn')))) hp2 (ni_get (seats_get (mate_lt he')))) (ev_ixL (ev_var rfl) (ev_var rfl) hp2 (ni_get (seats_get he))))) (fun hb H4 e4 => ?_) (fun hb H4 e4 => ?_)
      · refine s_ret ev_c fun H5 e5 => ?_
        have z := k H5 (e1.trans (ex.trans (e2.trans (e4.trans e5))))
        have hf : isWalkB D m W = false := by
          unfold isWalkB
          rw [hok, Bool.true_and]
          refine decide_eq_false fun hall => ?_
          have hq : seat D (mate e') = seat D e := hall _ (List.mem_of_getElem? hv1)
          simp [hq] at hb
        rw [hf] at z
        exact z
      · refine ⟨_, _, rfl, ex.trans (e2.trans e4), fun j hj v hv2 => ?_⟩
        by_cases hji : j < i
        · exact hv j hji v hv2
        · have ej : j = i := by omega
          rw [ej, hv1] at hv2
          rw [← Option.some.inj hv2]
          show seat D (mate e') = seat D e
          simp at hb
          omega
    · subst es
      refine s_ret ev_c fun H5 e5 => ?_
      have z := k H5 (e1.trans (ex.trans e5))
      have hf : isWalkB D m W = true := by
        unfold isWalkB
        rw [hok, Bool.true_and]
        refine decide_eq_true fun v hvm => ?_
        obtain ⟨j, hj⟩ := List.mem_iff_getElem?.mp hvm
        refine hv j ?_ v hj
        have := (List.getElem?_eq_some_iff.mp hj).1
        rw [visits_length, nats_length] at this
        exact this
      rw [hf] at z
      exact z
theorem pure_ask_walk (K : PySem.W.Frag) (vs : List V) (H : Hp) (Q : VK) (E : XK) (h : sp_ask_walk K vs H Q E) : t_ask_walk K (sp_is_walk K) E { nx := fun _ H' => Q .non H', rt := Q } (start nm_ask_walk vs) H := by
  obtain ⟨d, D, m, w, W, rfl, dr, hw, k1, k2⟩ := h
  refine s_if (b := !isWalkB D m W) (et_not (et_B (ev_f (ea_cons (ev_var rfl) (ea_cons (ev_var rfl) ea_nil)) fun H1 e1 Q q E => ⟨d, D, m, w, W, rfl, dr.mono e1, ex_l e1 hw, q⟩))) (fun hb H1 e1 => ?_) (fun hb H1 e1 => ?_)
  · exact k2 (by simpa using hb) H1 e1
  · exact k1 (by simpa using hb) H1 e1
/-- the tables of a function -/
theorem map_get {n : Nat} (f : Nat → Int) {e : Nat} (h : e < n) : ((List.range n).map f)[e]? = some (f e) := by
  rw [List.getElem?_map, List.getElem?_range h]
  rfl
theorem map_set {n : Nat} (f g : Nat → Int) {e : Nat} (h : e < n) (hg : ∀ x, g x = if x = e then g e else f x) : ((List.range n).map f).set e (g e) = (List.range n).map g := by
  apply List.ext_getElem?
  intro i
  by_cases hi : i < n
  · rw [map_get g hi]
    by_cases z : i = e
    · rw [z, List.getElem?_set_self (by simpa using h)]
    · rw [List.getElem?_set_ne fun w => z w.symm, map_get f hi, hg i, if_neg z]
  · rw [List.getElem?_eq_none (by simp; omega), List.getElem?_eq_none (by simp; omega)]
theorem bump_set {n : Nat} (f : Nat → Int) {e : Nat} (h : e < n) : ((List.range n).map f).set e (f e + 1) = (List.range n).map (bump f e) := by
  have := map_set f (bump f e) h fun x => by
    unfold bump
    by_cases z : x = e
    · rw [if_pos z, if_pos z, if_pos rfl, z]
    · rw [if_neg z, if_neg z]
  rw [← this]
  unfold bump
  rw [if_pos rfl]
theorem map_zero (n : Nat) : List.replicate n (V.int 0) = zi ((List.range n).map fun _ => (0 : Int)) := by
  apply List.ext_getElem?
  intro i
  by_cases hi : i < n
  · rw [zi_get (map_get (fun _ => 0) hi), List.getElem?_replicate, if_pos hi]
  · rw [List.getElem?_eq_none (by simp; omega), List.getElem?_eq_none (by rw [zi_length]; simp; omega)]
theorem LFs_snoc (D : Dw) (n : Nat) (vs : List (Nat × Nat)) (v : Nat × Nat) (c : Nat → Int) : LFs D n (vs ++ [v]) c = spin (nxt D) (mate v.1) v.2 n (nxt D (mate v.1)) (LFs D n vs c) := by
  unfold LFs
  rw [List.foldl_append]
  rfl
theorem spin_stop {nx : Nat → Nat} {a b n x : Nat} {c : Nat → Int} (h : x = b ∨ x = a) : spin nx a b n x c = c := by
  cases n with
  | zero => rfl
  | succ n => unfold spin; rw [if_pos h]
theorem spin_step {nx : Nat → Nat} {a b n x : Nat} {c : Nat → Int} (h1 : x ≠ b) (h2 : x ≠ a) : spin nx a b (n + 1) x c = spin nx a b n (nx x) (bump c x) := by
  conv => lhs; unfold spin
  rw [if_neg (by rintro (z | z) <;> contradiction)]
theorem pure_left_counts (K : PySem.W.Frag) (vs : List V) (H : Hp) (Q : VK) (E : XK) (h : sp_left_counts K vs H Q E) : t_left_counts K (sp_mate_of K) (sp_behind_of K) { nx := fun _ H' => Q .non H', rt := Q } (start nm_left_counts vs) H := by
  obtain ⟨d, D, m, w, W, rfl, dr, hw, hwl, wk, k⟩ := h
  have hm := dr.most
  have ok := dr.ok
  refine q_asgL (el_behind (ev_var rfl) dr) fun b H1 hb0 e1 hb => ?_
  have lenB : ∀ {σ : L2.St} {H' : Hp}, σ[2]? = some (some (.ref b)) → Ex H1 H' → Ev (tCB (rLenS K) (tCons (tVar 2) tNil)) σ H' (.int ((2 * m : Nat) : Int)) := fun {σ H'} hσ ex => by
    have q := ev_len (K := K) (ta := tVar 2) (ev_var hσ) (sq_of (ex _ _ hb))
    rw [ni_length, behinds_length] at q
    exact q
  refine q_asgL (el_rep1 ev_c (lenB rfl (Ex.refl _)) (by omega)) fun p H2 hp e2 h2 => ?_
  rw [map_zero] at h2
  refine q_forEN (K := K) (ev_var rfl) hw (fun i σ' H' => ∃ y4 y5 y6 y7, σ' = [some (.ref d), some (.ref w), some (.ref b), some (.ref p), y4, y5, y6, y7] ∧ Ex H1 H' ∧ H' p = some (.lst (zi ((List.range (2 * m)).map (LFs D (2 * m + 1) ((visits W).take i) fun _ => 0)))))
    (fun H3 e3 => ⟨none, none, none, none, rfl, e2.trans e3, by simpa [LFs] using e3 _ _ h2⟩) (fun i σ' H' ⟨_, _, _, _, _, e, _⟩ => e1.trans e) (fun i g σ' H' H3 hg ⟨y4, y5, y6, y7, es, ex, hl⟩ e3 => ?_) (fun σ' H' ⟨y4, y5, y6, y7, es, ex, hl⟩ => ?_)
  · subst es
    have hi : i < W.length := (List.getElem?_eq_some_iff.mp hg).1
    obtain ⟨a0, ha0⟩ : ∃ a0, W[if i = 0 then W.length - 1 else i - 1]? = some a0 := ⟨_, List.getElem?_eq_getElem (by split <;> omega)⟩
    have hv := visits_at hg ha0
    have la := wk.lt a0 (List.mem_of_getElem? ha0)
    have lg := wk.lt g (List.mem_of_getElem? hg)
    have hon := wk.on _ (List.mem_of_getElem? hv)
    have hw3 : SqL K H3 w (ni W) := ex_l (e1.trans (ex.trans e3)) hw
    refine q_asg (ev_mate (ev_ixI (ev_var rfl) (ev_sub (ev_var rfl) ev_c) hw3 (atI_prev (by rw [ni_length]; exact hi) (by rw [ni_length]; exact ni_get ha0)))) fun H4 e4 => ?_
    refine q_asg (ev_ixL (ev_var rfl) (ev_var rfl) (sq_of (e4 _ _ (e3 _ _ (ex _ _ hb)))) (ni_get (behinds_get (mate_lt la)))) fun H5 e5 => ?_
    have tgt : (visits W).take (i + 1) = (visits W).take i ++ [(a0, g)] := by rw [List.take_add_one, hv]; rfl
    refine s_while (fun n σ2 H7 => ∃ x c, σ2 = [some (.ref d), some (.ref w), some (.ref b), some (.ref p), some (.int (i : Int)), some (.int (g : Int)), some (.int ((mate a0 : Nat) : Int)), some (.int ((x : Nat) : Int))] ∧ Ex H1 H7 ∧ H7 p = some (.lst (zi ((List.range (2 * m)).map c))) ∧ x < 2 * m ∧ Hit (nxt D) (mate a0) g n x ∧
        spin (nxt D) (mate a0) g n x c = LFs D (2 * m + 1) ((visits W).take (i + 1)) fun _ => 0)
      (2 * m + 1) ⟨nxt D (mate a0), _, rfl, (ex.trans e3).trans (e4.trans e5), e5 _ _ (e4 _ _ (e3 _ _ hl)), ok.nxt_lt (mate_lt la), ok.hit (mate_lt la) lg hon, by rw [tgt, LFs_snoc]⟩ ?_
    rintro n σ2 H7 ⟨x, c, rfl, ex7, h7, hx, hit, sp⟩
    refine ⟨_, et_and (a := !decide (((x : Nat) : Int) = ((g : Nat) : Int))) (b := !decide (((x : Nat) : Int) = ((mate a0 : Nat) : Int))) (et_test (ev_neI (ev_var rfl) (ev_var rfl))) fun _ => et_test (ev_neI (ev_var rfl) (ev_var rfl)), fun hb2 H8 e8 => ?_, fun hb2 H8 e8 => ?_⟩
    · have n1 : x ≠ g := fun z => by simp [z] at hb2
      have n2 : x ≠ mate a0 := fun z => by simp [z] at hb2
      obtain ⟨n', rfl⟩ : ∃ n', n = n' + 1 := ⟨n - 1, by have := hit.pos; omega⟩
      rw [spin_step n1 n2] at sp
      refine ⟨fun σ3 H9 => ∃ x c, σ3 = [some (.ref d), some (.ref w), some (.ref b), some (.ref p), some (.int (i : Int)), some (.int (g : Int)), some (.int ((mate a0 : Nat) : Int)), some (.int ((x : Nat) : Int))] ∧ Ex H1 H9 ∧ H9 p = some (.lst (zi ((List.range (2 * m)).map c))) ∧ x < 2 * m ∧ Hit (nxt D) (mate a0) g n' x ∧
        spin (nxt D) (mate a0) g n' x c = LFs D (2 * m + 1) ((visits W).take (i + 1)) fun _ => 0, fun σ3 H9 w => ⟨n', by omega, w⟩, ?_⟩
      refine q_augL (m := x) (ev_var rfl) (ev_var rfl) (e8 _ _ h7) (zi_get (map_get c hx)) ev_c fun H9 e9 => ?_
      rw [zi_set, bump_set c hx]
      have x9 := Ex.mut (o := HO.lst (zi ((List.range (2 * m)).map (bump c x)))) ((ex7.trans e8).trans e9) hp
      refine s_asg (ev_ixL (ev_var rfl) (ev_var rfl) (sq_of (x9 _ _ hb)) (ni_get (behinds_get hx))) fun H10 e10 => ?_
      exact ⟨nxt D x, bump c x, rfl, x9.trans e10, e10 _ _ upd_same, ok.nxt_lt hx, (hit.next n1).2, sp⟩
    · have stop : x = g ∨ x = mate a0 := by
        by_cases z : x = g
        · exact .inl z
        · refine .inr ?_
          simp at hb2
          have := hb2 (by omega)
          omega
      rw [spin_stop stop] at sp
      refine ⟨_, _, _, _, rfl, ex7.trans e8, ?_⟩
      rw [← sp]
      exact e8 _ _ h7
  · subst es
    rw [← visits_length W, List.take_length] at hl
    exact s_ret (ev_var rfl) fun H4 e4 => k p H4 (fresh_back e1 hp) (e1.trans (ex.trans e4)) (e4 _ _ hl)
theorem pure_crossing_by (K : PySem.W.Frag) (vs : List V) (H : Hp) (Q : VK) (E : XK) (h : sp_crossing_by K vs H Q E) : t_crossing_by K (sp_mate_of K) { nx := fun _ H' => Q .non H', rt := Q } (start nm_crossing_by vs) H := by
  obtain ⟨c, w, n, f, W, rfl, hc, hw, hl, lt, k⟩ := h
  refine s_ret (ev_sumN (ns := W.map fun e => f e - f (mate e)) ?_) k
  have q := el_lcN (K := K) (σ := start nm_crossing_by [.ref c, .ref w]) (H := H) (tl := tVar 1) (te := tOp rMinus (tOp (rIxL K) (tVar 0) (tVar 2)) (tOp (rIxL K) (tVar 0) (tCall (sp_mate_of K) [] E0 (tCons (tVar 2) tNil)))) (j := 2) (vs := [2]) (fun e => V.int (f e - f (mate e))) (ev_var rfl) hw hl (fun _ => rfl) (fun i e H1 e1 he => by
    have h1 := lt e (List.mem_of_getElem? he)
    exact ev_sub (ev_ixL (ev_var rfl) (ev_var rfl) (ex_l e1 hc) (zi_get (map_get f h1))) (ev_ixL (ev_var rfl) (ev_mate (ev_var rfl)) (ex_l e1 hc) (zi_get (map_get f (mate_lt h1)))))
  have e : zi (W.map fun e => f e - f (mate e)) = W.map fun e => V.int (f e - f (mate e)) := by
    unfold zi
    rw [List.map_map]
    rfl
  rw [e]
  exact q
theorem netF_nil (e : Nat) : netF [] e = 0 := rfl
theorem net_step {n : Nat} (W : List Nat) {x : Nat} (hx : x < 2 * n) : ((((List.range (2 * n)).map (netF W)).set x (netF W x + 1)).set (mate x) ((bump (netF W) x) (mate x) - 1)) = (List.range (2 * n)).map (netF (W ++ [x])) := by
  rw [bump_set (netF W) hx]
  have key : ∀ y, netF (W ++ [x]) y = bump (netF W) x y - one (y = mate x) := fun y => by
    have h1 : ∀ z : Nat, ((List.count z (W ++ [x]) : Nat) : Int) = ((List.count z W : Nat) : Int) + one (z = x) := fun z => by
      rw [List.count_append]
      have := count_one z x []
      rw [List.count_nil] at this
      omega
    unfold netF
    rw [h1, h1, bump_one, one_congr (p := mate y = x) (q := y = mate x) ⟨fun z => by rw [← z, mate_mate], fun z => by rw [z, mate_mate]⟩]
    omega
  have h2 : (bump (netF W) x) (mate x) - 1 = netF (W ++ [x]) (mate x) := by
    rw [key, one, if_pos rfl]
  rw [h2]
  refine map_set _ _ (mate_lt hx) fun y => ?_
  by_cases z : y = mate x
  · rw [if_pos z, z]
  · rw [if_neg z, key, one, if_neg z]
    omega
theorem pure_net_counts (K : PySem.W.Frag) (vs : List V) (H : Hp) (Q : VK) (E : XK) (h : sp_net_counts K vs H Q E) : t_net_counts K (sp_mate_of K) (sp_count_ends K) { nx := fun _ H' => Q .non H', rt := Q } (start nm_net_counts vs) H := by
  obtain ⟨d, D, m, w, W, rfl, dr, hw, lt, k⟩ := h
  have hm := dr.most
  refine q_asgL (el_rep1 ev_c (ev_count_ends (ev_var rfl) dr) (by omega)) fun p H1 hp e1 h1 => ?_
  rw [map_zero] at h1
  refine q_forN (K := K) (ev_var rfl) hw (fun i σ' H' => ∃ y3, σ' = [some (.ref d), some (.ref w), some (.ref p), y3] ∧ Ex H H' ∧ H' p = some (.lst (zi ((List.range (2 * m)).map (netF (W.take i))))))
    (fun H2 e2 => ⟨none, rfl, e1.trans e2, by
      have := e2 _ _ h1
      exact this⟩) (fun i σ' H' ⟨_, _, e, _⟩ => e) (fun i x σ' H' hx ⟨y3, es, ex, hl⟩ => ?_) (fun σ' H' ⟨y3, es, ex, hl⟩ => ?_)
  · subst es
    have hx2 := lt x (List.mem_of_getElem? hx)
    refine q_augL (m := x) (ev_var rfl) (ev_var rfl) hl (zi_get (map_get _ hx2)) ev_c fun H2 e2 => ?_
    rw [zi_set]
    have x2 := Ex.mut (o := HO.lst (zi (((List.range (2 * m)).map (netF (W.take i))).set x (netF (W.take i) x + 1)))) (ex.trans e2) hp
    have g2 : (zi (((List.range (2 * m)).map (netF (W.take i))).set x (netF (W.take i) x + 1)))[mate x]? = some (.int (bump (netF (W.take i)) x (mate x))) := by
      rw [bump_set _ hx2]
      exact zi_get (map_get _ (mate_lt hx2))
    refine s_augL (m := mate x) (ev_var rfl) (ev_mate (ev_var rfl)) upd_same g2 ev_c fun H3 e3 => ?_
    refine ⟨_, rfl, Ex.mut (x2.trans e3) hp, ?_⟩
    rw [upd_same, zi_set, net_step _ hx2]
    rw [List.take_add_one, hx]
    rfl
  · subst es
    rw [List.take_length] at hl
    exact s_ret (ev_var rfl) fun H4 e4 => k p H4 hp (ex.trans e4) (e4 _ _ hl)
end RF

set_option Elab.async false
set_option linter.all false
set_option maxRecDepth 100000
set_option maxHeartbeats 4000000
namespace RF
open PySem PySem.Spec PyProof.Rows L2 Evl
/-! ## dicts of numbers; land_numbers, turned_about, way_up, round_along, tree_from -/
theorem dT_length (T : List (Nat × Int)) : (dT T).length = T.length := List.length_map ..
theorem valV_dT : ∀ (T : List (Nat × Int)) (p : Nat), valV (dT T) (.inl ((p : Nat) : Int)) = (T.lookup p).map V.int
  | [], p => rfl
  | (a, z) :: T, p => by
    show valV ((Sum.inl ((a : Nat) : Int), V.int z) :: dT T) _ = (match p == a with | true => some z | false => T.lookup p).map V.int
    cases e : (p == a) with
    | true =>
      have e2 : p = a := beq_iff_eq.mp e
      rw [valV_pos (by rw [e2])]
      rfl
    | false =>
      have e2 : p ≠ a := beq_eq_false_iff_ne.mp e
      rw [valV_neg (fun q => e2 (by have := Sum.inl.inj q; omega)), valV_dT T p]
theorem dT_put {T : List (Nat × Int)} {p : Nat} {z : Int} (h : T.lookup p = none) : putK (dT T) (.inl ((p : Nat) : Int)) (.int z) = dT (T ++ [(p, z)]) := by
  rw [putK_new _ (by rw [valV_dT, h]; rfl)]
  unfold dT
  rw [List.map_append]
  rfl
theorem look_map (g : Nat → Int) : ∀ (l : List Nat) (e : Nat), (l.map fun e => (e, g e)).lookup e = if e ∈ l then some (g e) else none
  | [], e => by simp
  | x :: l, e => by
    show (match e == x with | true => some (g x) | false => (l.map fun e => (e, g e)).lookup e) = _
    cases h : (e == x) with
    | true =>
      have e2 : e = x := beq_iff_eq.mp h
      rw [if_pos (by rw [e2]; exact List.mem_cons_self), e2]
    | false =>
      have e2 : e ≠ x := beq_eq_false_iff_ne.mp h
      show (l.map fun e => (e, g e)).lookup e = _
      rw [look_map g l e]
      by_cases hm : e ∈ l
      · rw [if_pos hm, if_pos (List.mem_cons_of_mem _ hm)]
      · rw [if_neg hm, if_neg fun w => (List.mem_cons.mp w).elim e2 hm]
theorem insT_look {L : List (List Nat)} (nd : L.flatten.Nodup) {i e : Nat} {l : List Nat} (hl : L[i]? = some l) (he : e ∈ l) : (insT L).lookup e = some ((i : Nat) : Int) := by
  unfold insT
  rw [look_map (fun e => ((seat L e : Nat) : Int)), if_pos (row_mem hl he), flat_seat nd hl he]
theorem look_snoc {T : List (Nat × Int)} {p x : Nat} {z : Int} (h : T.lookup p = none) : (T ++ [(p, z)]).lookup x = if x = p then some z else T.lookup x := by
  have q := valV_dT (T ++ [(p, z)]) x
  rw [← dT_put h, valV_put, valV_dT] at q
  by_cases e : x = p
  · rw [if_pos e]
    rw [if_pos (by rw [e])] at q
    cases hl : (T ++ [(p, z)]).lookup x with
    | none => rw [hl] at q; cases q
    | some y => rw [hl] at q; rw [← V.int.inj (Option.some.inj q)]
  · rw [if_neg e]
    rw [if_neg (fun w => e (by have := Sum.inl.inj w; omega))] at q
    cases hl : (T ++ [(p, z)]).lookup x with
    | none =>
      rw [hl] at q
      cases hl2 : T.lookup x with
      | none => rfl
      | some y => rw [hl2] at q; cases q
    | some y =>
      rw [hl] at q
      cases hl2 : T.lookup x with
      | none => rw [hl2] at q; cases q
      | some y2 => rw [hl2] at q; rw [V.int.inj (Option.some.inj q)]
theorem pure_land_numbers (K : PySem.W.Frag) (vs : List V) (H : Hp) (Q : VK) (E : XK) (h : sp_land_numbers K vs H Q E) : t_land_numbers K { nx := fun _ H' => Q .non H', rt := Q } (start nm_land_numbers vs) H := by
  obtain ⟨d, L, rfl, hL, nd, hz, k⟩ := h
  let g : Nat → Int := fun e => ((seat L e : Nat) : Int)
  refine q_asgD ed_new fun p H1 hp e1 h1 => ?_
  refine q_forER (K := K) (ev_var rfl) hL (fun i σ' H' => ∃ y2 y3 y4, σ' = [some (.ref d), some (.ref p), y2, y3, y4] ∧ Ex H H' ∧ H' p = some (.dK (dT ((L.take i).flatten.map fun e => (e, g e)))))
    (fun H2 e2 => ⟨none, none, none, rfl, e1.trans e2, e2 _ _ h1⟩) (fun i σ' H' ⟨_, _, _, _, e, _⟩ => e) (fun i r a σ' H' H2 hr ha ⟨y2, y3, y4, es, e2, hl⟩ e3 => ?_) (fun σ' H' ⟨y2, y3, y4, es, e2, hl⟩ => ?_)
  · subst es
    refine s_forN (K := K) (ev_var rfl) (sq_of ha) (fun j σ' H' => ∃ y4, σ' = [some (.ref d), some (.ref p), some (.int (i : Int)), some (.ref a), y4] ∧ Ex H H' ∧ H' p = some (.dK (dT (((L.take i).flatten ++ r.take j).map fun e => (e, g e)))))
      (fun H3 e4 => ⟨y4, rfl, (e2.trans e3).trans e4, by simpa using e4 _ _ (e3 _ _ hl)⟩) (fun j σ' H' ⟨_, _, e, _⟩ => e) (fun j n σ' H' hn ⟨y4, es, e4, hl⟩ => ?_) (fun σ' H' ⟨y4, es, e4, hl⟩ => ?_)
    · subst es
      have hnr : n ∈ r := List.mem_of_getElem? hn
      have hi : i < L.length := (List.getElem?_eq_some_iff.mp hr).1
      have sub : (((L.take i).flatten ++ r.take j) ++ n :: (r.drop (j + 1) ++ (L.drop (i + 1)).flatten)) = L.flatten := by
        have e5 : r = r.take j ++ n :: r.drop (j + 1) := by
          have hj := (List.getElem?_eq_some_iff.mp hn)
          rw [← hj.2, List.getElem_cons_drop, List.take_append_drop]
        have e6 : L = L.take i ++ r :: L.drop (i + 1) := by
          have hj := (List.getElem?_eq_some_iff.mp hr)
          rw [← hj.2, List.getElem_cons_drop, List.take_append_drop]
        conv => rhs; rw [e6, List.flatten_append, List.flatten_cons]
        conv => rhs; rw [e5]
        simp
      have new : n ∉ (L.take i).flatten ++ r.take j := fun hm => by
        rw [← sub] at nd
        exact (List.nodup_append.mp nd).2.2 n hm n List.mem_cons_self rfl
      have len : ((L.take i).flatten ++ r.take j).length ≤ 10000 := by
        have := congrArg List.length sub
        simp only [List.length_append] at this ⊢
        omega
      refine s_dput (v := .int ((i : Nat) : Int)) (ev_var rfl) (ev_var rfl) (ev_var rfl) hl (by rw [dT_length, List.length_map]; omega) fun H5 e5 => ⟨_, rfl, Ex.mut (e4.trans e5) hp, ?_⟩
      rw [upd_same, dT_put (by rw [look_map g, if_neg new]), List.take_add_one, hn]
      have eg : g n = ((i : Nat) : Int) := by
        show ((seat L n : Nat) : Int) = _
        rw [flat_seat nd hr hnr]
      have e7 : (((L.take i).flatten ++ (r.take j ++ (some n).toList)).map fun e => (e, g e)) = (((L.take i).flatten ++ r.take j).map fun e => (e, g e)) ++ [(n, ((i : Nat) : Int))] := by
        rw [← eg, show ((L.take i).flatten ++ (r.take j ++ (some n).toList)) = ((L.take i).flatten ++ r.take j) ++ [n] by simp, List.map_append]
        rfl
      rw [e7]
    · refine ⟨_, _, _, es, e4, ?_⟩
      rw [take_flat_succ hr]
      rw [List.take_length] at hl
      exact hl
  · subst es
    rw [List.take_length] at hl
    exact s_ret (ev_var rfl) fun H4 e3 => k p H4 hp (e2.trans e3) (e3 _ _ hl)
/-- [e for x in reversed(xs)] over numbers -/
theorem el_lcRev {K : PySem.W.Frag} {σ : L2.St} {H : Hp} {tl te : TE} {a : Addr} {l : List Nat} {j : Nat} {vs : List Nat} (f : Nat → V) (h : Ev tl σ H (.ref a)) (hx : SqL K H a (ni l)) (hz : l.length ≤ 40000) (hw : ∀ x, wipe ((wipe σ vs).set j (some x)) vs = wipe σ vs)
    (he : ∀ (n : Nat) H1, Ex H H1 → n ∈ l → Ev te ((wipe σ vs).set j (some (.int (n : Int)))) H1 (f n)) : EvL (tLc (iRev K (tCons tl tNil)) (gName j) tYes te vs) σ H (l.reverse.map f) := fun H0 e0 Q q => h H0 e0 _ fun H1 e1 => by
  refine ⟨a, ni l, rfl, ex_l (e0.trans e1) hx, fun Dl hD => ?_⟩
  refine ⟨fun i m H' => m = l.length - i ∧ i ≤ l.length ∧ Ex H1 H' ∧ H' Dl = some (.lst ((l.reverse.take i).map f)), ⟨l.length, by simp, Nat.zero_le _, Ex.new hD, upd_same⟩, ?_⟩
  rintro i mm H' ⟨rfl, hi, p1, p2⟩
  have hxs : SqL K H' a (ni l) := ex_l ((e0.trans e1).trans p1) hx
  by_cases hlt : i < l.length
  · obtain ⟨z, hr⟩ : ∃ z, l.reverse[i]? = some z := ⟨_, List.getElem?_eq_getElem (by rw [List.length_reverse]; exact hlt)⟩
    have hlr : l[l.length - 1 - i]? = some z := by
      rw [← hr, List.getElem?_reverse hlt]
    refine .inr ⟨⟨by rw [ni_length]; exact hlt, ni l, _, hxs, by rw [ni_length]; exact ni_get hlr⟩, fun H2 => Ex H1 H2 ∧ H2 Dl = some (.lst ((l.reverse.take (i + 1)).map f)), fun H2 p => ⟨l.length - (i + 1), by omega, rfl, hlt, p⟩, fun x H2 y => ?_⟩
    obtain ⟨e, y⟩ := y
    subst e
    have ex := y _ hxs
    rw [ni_length, ni_get hlr] at ex
    rw [← Option.some.inj ex]
    refine ⟨hw _, ?_⟩
    show te _ H2 fun y H4 => ∃ acc, H4 Dl = some (.lst acc) ∧ acc.length < sizeLine ∧ _
    refine he _ H2 ((e0.trans e1).trans p1) (List.mem_of_getElem? hlr) H2 (Ex.refl _) _ fun H3 e3 => ?_
    refine ⟨_, e3 _ _ p2, ?_, Ex.mut (p1.trans e3) hD, ?_⟩
    · rw [List.length_map, List.length_take]
      exact sz_lt (by omega)
    · rw [upd_same, List.take_add_one, hr, List.map_append]
      rfl
  · have e : i = l.length := by omega
    subst e
    rw [List.take_of_length_le (by rw [List.length_reverse]; exact Nat.le_refl _)] at p2
    exact .inl ⟨by rw [ni_length]; exact Nat.le_refl _, q Dl H' (fresh_back e1 hD) (e1.trans p1) p2⟩
theorem pure_turned_about (K : PySem.W.Frag) (vs : List V) (H : Hp) (Q : VK) (E : XK) (h : sp_turned_about K vs H Q E) : t_turned_about K (sp_mate_of K) { nx := fun _ H' => Q .non H', rt := Q } (start nm_turned_about vs) H := by
  obtain ⟨w, W, rfl, hw, hl, k⟩ := h
  have q := el_lcRev (K := K) (σ := start nm_turned_about [.ref w]) (H := H) (tl := tVar 0) (te := tCall (sp_mate_of K) [] E0 (tCons (tVar 1) tNil)) (j := 1) (vs := [1]) (fun e => V.int ((mate e : Nat) : Int)) (ev_var rfl) hw hl (fun _ => rfl) (fun e H1 e1 _ => ev_mate (ev_var rfl))
  have e : W.reverse.map (fun e => V.int ((mate e : Nat) : Int)) = ni (W.reverse.map mate) := by
    unfold ni
    rw [List.map_map]
    rfl
  rw [e] at q
  exact s_retL q k
/-! ### ways -/
def sp_way_up (K : PySem.W.Frag) : Sp := fun vs H Q _ => ∃ s nr D m T p l, vs = [.ref s, .ref nr, .int ((p : Nat) : Int)] ∧ SqL K H s (ni (seats D m)) ∧ Rd H nr (.dK (dT T)) ∧ Way D T p l ∧ (∀ t ∈ l, t < 2 * m) ∧ l.length ≤ 10000 ∧ RetL (ni l) H Q
def sp_round_along (K : PySem.W.Frag) : Sp := fun vs H Q _ => ∃ s nr D m T e out back, vs = [.ref s, .ref nr, .int ((e : Nat) : Int)] ∧ SqL K H s (ni (seats D m)) ∧ Rd H nr (.dK (dT T)) ∧ e < 2 * m ∧ Way D T (seat D (mate e)) out ∧ Way D T (seat D e) back ∧
  (∀ t ∈ out, t < 2 * m) ∧ (∀ t ∈ back, t < 2 * m) ∧ out.length ≤ 10000 ∧ back.length ≤ 10000 ∧ RetL (ni (turnAt e out back)) H Q
def sp_tree_from (K : PySem.W.Frag) : Sp := fun vs H Q _ => ∃ d D m root, vs = [.ref d, .int ((root : Nat) : Int)] ∧ Dr H d D m ∧ root < D.length ∧ ∀ T, Tree D m root T → (∀ q ∈ T, Clo D T q.1) → RetD (dT T) H Q
theorem pure_way_up (K : PySem.W.Frag) (vs : List V) (H : Hp) (Q : VK) (E : XK) (h : sp_way_up K vs H Q E) : t_way_up K (sp_mate_of K) { nx := fun _ H' => Q .non H', rt := Q } (start nm_way_up vs) H := by
  obtain ⟨s, nr, D, m, T, p, l, rfl, hs, hn, w, lt, hz, k⟩ := h
  refine q_asgL (el_lst ea_nil (by show 0 ≤ 100000; omega)) fun a H1 ha e1 h1 => ?_
  refine q_while (fun n σ' H' => ∃ q acc rest, σ' = [some (.ref s), some (.ref nr), some (.int ((q : Nat) : Int)), some (.ref a)] ∧ Ex H H' ∧ H' a = some (.lst (ni acc)) ∧ Way D T q rest ∧ acc ++ rest = l ∧ n = rest.length) l.length ⟨p, [], l, rfl, e1, h1, w, rfl, rfl⟩ ?_
  rintro n σ' H' ⟨q, acc, rest, rfl, ex, hacc, wq, el, rfl⟩
  have hd := ex_rd ex hn
  cases wq with
  | root hl =>
    refine ⟨_, et_test (ev_ge (ev_dget (ev_var rfl) (ev_var rfl) hd (by rw [valV_dT, hl]; rfl)) ev_c), fun hb => by simp at hb, fun _ H2 e2 => ?_⟩
    rw [List.append_nil] at el
    subst el
    exact s_ret (ev_var rfl) fun H3 e3 => k a H3 ha (ex.trans (e2.trans e3)) (e3 _ _ (e2 _ _ hacc))
  | @step _ t rest hl wr =>
    have ht : t ∈ l := by rw [← el]; simp
    have ht2 := lt t ht
    have get : ∀ {H2 : Hp} {y : Option V}, Ex H' H2 → Ev (tDGet (tVar 1) (tVar 2)) [some (.ref s), some (.ref nr), some (.int ((q : Nat) : Int)), some (.ref a)] H2 (.int ((t : Nat) : Int)) := fun {H2 y} e2 => ev_dget (ev_var rfl) (ev_var rfl) (ex_rd e2 hd) (by rw [valV_dT, hl]; rfl)
    refine ⟨_, et_test (ev_ge (get (y := none) (Ex.refl _)) ev_c), fun hb H2 e2 => ?_, fun hb => by simp at hb⟩
    refine ⟨fun σ' H' => ∃ q acc rest', σ' = [some (.ref s), some (.ref nr), some (.int ((q : Nat) : Int)), some (.ref a)] ∧ Ex H H' ∧ H' a = some (.lst (ni acc)) ∧ Way D T q rest' ∧ acc ++ rest' = l ∧ rest.length = rest'.length, fun σ2 H3 w => ⟨rest.length, by simp, w⟩, ?_⟩
    have lacc : acc.length ≤ l.length := by rw [← el]; simp
    refine q_app (e2 _ _ hacc) (ev_var rfl) (get (y := none) e2) (by rw [ni_length]; omega) fun H3 e3 => ?_
    have x3 := Ex.mut (o := HO.lst (ni acc ++ [.int ((t : Nat) : Int)])) ((ex.trans e2).trans e3) ha
    refine s_asg (ev_ixL (k := mate t) (v := .int ((seat D (mate t) : Nat) : Int)) (ev_var rfl) (ev_mate (ev_dget (ev_var rfl) (ev_var rfl) (ex_rd x3 hn) (by rw [valV_dT, hl]; rfl))) (ex_l x3 hs) (ni_get (seats_get (mate_lt ht2)))) fun H4 e4 => ?_
    refine ⟨seat D (mate t), acc ++ [t], rest, rfl, x3.trans e4, ?_, wr, ?_, rfl⟩
    · refine e4 _ _ ?_
      rw [upd_same, ni_append]
      rfl
    · rw [← el]
      simp
theorem ni_back (xs : List Nat) (x : Nat) : ni (x :: xs).reverse = ni xs.reverse ++ [.int ((x : Nat) : Int)] := by
  rw [List.reverse_cons, ni_append]
  rfl
theorem pure_round_along (K : PySem.W.Frag) (vs : List V) (H : Hp) (Q : VK) (E : XK) (h : sp_round_along K vs H Q E) : t_round_along K (sp_mate_of K) (sp_way_up K) (sp_turned_about K) { nx := fun _ H' => Q .non H', rt := Q } (start nm_round_along vs) H := by
  obtain ⟨s, nr, D, m, T, e, out, back, rfl, hs, hn, he, wo, wb, lo, lb, zo, zb, k⟩ := h
  refine q_asgL (el_f (ea_cons (ev_var rfl) (ea_cons (ev_var rfl) (ea_cons (ev_ixL (ev_var rfl) (ev_mate (ev_var rfl)) hs (ni_get (seats_get (mate_lt he)))) ea_nil))) fun H1 e1 Q q E => ⟨s, nr, D, m, T, _, out, rfl, ex_l e1 hs, ex_rd e1 hn, wo, lo, zo, q⟩) fun o H1 ho e1 h1 => ?_
  refine q_asgL (el_f (ea_cons (ev_var rfl) (ea_cons (ev_var rfl) (ea_cons (ev_ixL (ev_var rfl) (ev_var rfl) (ex_l e1 hs) (ni_get (seats_get he))) ea_nil))) fun H2 e2 Q q E => ⟨s, nr, D, m, T, _, back, rfl, ex_l (e1.trans e2) hs, ex_rd (e1.trans e2) hn, wb, lb, zb, q⟩) fun b H2 hb0 e2 h2 => ?_
  have nob : o ≠ b := fun z => by rw [← z, h1] at hb0; cases hb0
  have hbn : H b = none := fresh_back e1 hb0
  refine q_while (fun n σ' H' => ∃ ra rb, σ' = [some (.ref s), some (.ref nr), some (.int ((e : Nat) : Int)), some (.ref o), some (.ref b)] ∧ Ex H H' ∧ H' o = some (.lst (ni ra.reverse)) ∧ H' b = some (.lst (ni rb.reverse)) ∧ strip ra rb = strip out.reverse back.reverse ∧ n = ra.length ∧ ra.length ≤ 10000 ∧ rb.length ≤ 10000) out.length
    ⟨out.reverse, back.reverse, rfl, e1.trans e2, by rw [List.reverse_reverse]; exact e2 _ _ h1, by rw [List.reverse_reverse]; exact h2, rfl, by simp, by simpa using zo, by simpa using zb⟩ ?_
  rintro n σ' H' ⟨ra, rb, rfl, ex, go, gb, hst, rfl, z1, z2⟩
  have fin : ∀ (H3 : Hp), Ex H' H3 → (strip ra rb = (ra, rb)) → tRet (tOp rCat (tOp rCat (tLst (tCons (tVar 2) tNil)) (tVar 3)) (tCall (sp_turned_about K) [] E0 (tCons (tVar 4) tNil))) { nx := fun _ H' => Q .non H', rt := Q } [some (.ref s), some (.ref nr), some (.int ((e : Nat) : Int)), some (.ref o), some (.ref b)] H3 := fun H3 e3 hs2 => by
    have c1 := el_catV (σ := [some (.ref s), some (.ref nr), some (.int ((e : Nat) : Int)), some (.ref o), some (.ref b)]) (H := H3) (el_lst (ea_cons (ev_var (i := 2) rfl) ea_nil) (by show 1 ≤ 100000; omega)) (ev_var (i := 3) rfl) (e3 _ _ go) (by rw [ni_length, List.length_reverse]; show 1 + _ ≤ _; omega)
    have c2 := el_f (σ := [some (.ref s), some (.ref nr), some (.int ((e : Nat) : Int)), some (.ref o), some (.ref b)]) (H := H3) (sp := sp_turned_about K) (E := E0) (ea_cons (ev_var (i := 4) rfl) ea_nil) fun H4 e4 Q q E => ⟨b, rb.reverse, rfl, sq_of (e4 _ _ (e3 _ _ gb)), by rw [List.length_reverse]; omega, q⟩
    refine s_retL (el_cat c1 c2 (by simp [ni_length]; omega)) fun p H5 hp e5 h5 => k p H5 (fresh_back (ex.trans e3) hp) (ex.trans (e3.trans e5)) ?_
    rw [h5]
    unfold turnAt
    rw [← hst, hs2, List.reverse_reverse]
    congr 2
    unfold ni
    simp
  cases ra with
  | nil =>
    refine ⟨false, et_and (a := false) (b := false) ?_ (fun z => by cases z), (fun hb => by cases hb), fun _ H3 e3 => fin H3 e3 (by simp [strip])⟩
    exact et_test (ev_gt (ev_len (ev_var rfl) (sq_of go)) ev_c)
  | cons x xs =>
    cases rb with
    | nil =>
      refine ⟨false, et_and (a := true) (b := false) ?_ (fun _ => et_and (a := false) (b := false) ?_ (fun z => by cases z)), (fun hb => by cases hb), fun _ H3 e3 => fin H3 e3 (by simp [strip])⟩
      · refine et_is (et_test (ev_gt (ev_len (ev_var rfl) (sq_of go)) ev_c)) ?_
        rw [ni_length]
        simp
      · exact et_test (ev_gt (ev_len (ev_var rfl) (sq_of gb)) ev_c)
    | cons y ys =>
      rw [ni_back] at go gb
      refine ⟨decide (x = y), et_is (et_and (a := true) (b := true && decide (((x : Nat) : Int) = ((y : Nat) : Int))) ?_ (fun _ => et_and (a := true) ?_ fun _ => ?_)) ?_, fun hb H3 e3 => ?_, fun hb H3 e3 => fin H3 e3 ?_⟩
      · refine et_is (et_test (ev_gt (ev_len (ev_var rfl) (sq_of go)) ev_c)) ?_
        rw [List.length_append, List.length_singleton]
        simp
      · refine et_is (et_test (ev_gt (ev_len (ev_var rfl) (sq_of gb)) ev_c)) ?_
        rw [List.length_append, List.length_singleton]
        simp
      · exact et_test (ev_eqI (ev_ixI (ev_var rfl) (ev_neg ev_c) (sq_of go) (atI_last _ _)) (ev_ixI (ev_var rfl) (ev_neg ev_c) (sq_of gb) (atI_last _ _)))
      · simp
        omega
      · have exy : x = y := of_decide_eq_true hb
        refine ⟨fun σ' H' => ∃ ra rb, σ' = [some (.ref s), some (.ref nr), some (.int ((e : Nat) : Int)), some (.ref o), some (.ref b)] ∧ Ex H H' ∧ H' o = some (.lst (ni ra.reverse)) ∧ H' b = some (.lst (ni rb.reverse)) ∧ strip ra rb = strip out.reverse back.reverse ∧ xs.length = ra.length ∧ ra.length ≤ 10000 ∧ rb.length ≤ 10000, fun σ2 H4 w => ⟨xs.length, by simp, w⟩, ?_⟩
        have g3 := e3 _ _ go
        have g4 := e3 _ _ gb
        refine ⟨.ref o, rfl, .inl ⟨rfl, _, sq_of g3⟩, o, _, .int ((x : Nat) : Int), rfl, rfl, g3, by simp, ?_⟩
        rw [List.dropLast_concat]
        have g5 : (upd H3 o (.lst (ni xs.reverse))) b = some (.lst (ni ys.reverse ++ [.int ((y : Nat) : Int)])) := by rw [upd_ne nob.symm]; exact g4
        refine ⟨.ref b, rfl, .inl ⟨rfl, _, sq_of g5⟩, b, _, .int ((y : Nat) : Int), rfl, rfl, g5, by simp, ?_⟩
        rw [List.dropLast_concat]
        refine ⟨xs, ys, rfl, Ex.mut (Ex.mut (ex.trans e3) ho) hbn, ?_, upd_same, ?_, rfl, ?_, ?_⟩
        · rw [upd_ne nob, upd_same]
        · rw [← hst]
          conv => rhs; unfold strip
          rw [if_pos exy]
        · simp at z1; omega
        · simp at z2; omega
      · have exy : x ≠ y := of_decide_eq_false hb
        unfold strip
        rw [if_neg exy]
/-! ### the tree -/
theorem Tree.key_lt {D : Dw} {m root : Nat} {T : List (Nat × Int)} (h : Tree D m root T) : T.length ≤ D.length := by
  have := nodup_bound h.nd (n := D.length) fun x hx => by
    obtain ⟨q, hq, e⟩ := List.mem_map.mp hx
    rw [← e]
    exact h.lt q hq
  rwa [List.length_map] at this
theorem Tree.start {D : Dw} {m root : Nat} (h : root < D.length) : Tree D m root [(root, -1)] :=
  ⟨by simp, rfl, fun i p z hi => by simp at hi, fun q hq => by rw [List.mem_singleton.mp hq]; exact h⟩
theorem Tree.snoc {D : Dw} {m root : Nat} {T : List (Nat × Int)} (h : Tree D m root T) {t : Nat} (ht : t < 2 * m) (new : seat D t ∉ T.map (·.1)) (par : seat D (mate t) ∈ T.map (·.1)) (lt : seat D t < D.length) : Tree D m root (T ++ [(seat D t, ((t : Nat) : Int))]) := by
  have hl : 0 < T.length := (List.getElem?_eq_some_iff.mp h.head).1
  refine ⟨?_, ?_, fun i p z hi => ?_, fun q hq => ?_⟩
  · rw [List.map_append]
    refine List.nodup_append.mpr ⟨h.nd, by simp, fun a ha b hb hab => ?_⟩
    rw [List.mem_singleton.mp hb] at hab
    rw [hab] at ha
    exact new ha
  · rw [List.getElem?_append_left hl]
    exact h.head
  · by_cases hi2 : i + 1 < T.length
    · rw [List.getElem?_append_left hi2] at hi
      obtain ⟨t', h1, h2, h3, j, z', h4, h5⟩ := h.par i p z hi
      exact ⟨t', h1, h2, h3, j, z', h4, by rw [List.getElem?_append_left (by omega)]; exact h5⟩
    · have hi3 := (List.getElem?_eq_some_iff.mp hi).1
      rw [List.length_append, List.length_singleton] at hi3
      have ei : i + 1 = T.length := by omega
      rw [List.getElem?_append_right (by omega), ei, Nat.sub_self] at hi
      have e1 := Option.some.inj hi
      have ep : seat D t = p := congrArg Prod.fst e1
      have ez : ((t : Nat) : Int) = z := congrArg Prod.snd e1
      obtain ⟨j, z', hj⟩ := key_get par
      have hj2 := (List.getElem?_eq_some_iff.mp hj).1
      exact ⟨t, ez.symm, ht, ep, j, z', by omega, by rw [List.getElem?_append_left hj2]; exact hj⟩
  · rcases List.mem_append.mp hq with z | z
    · exact h.lt q z
    · rw [List.mem_singleton.mp z]
      exact lt
theorem pure_tree_from (K : PySem.W.Frag) (vs : List V) (H : Hp) (Q : VK) (E : XK) (h : sp_tree_from K vs H Q E) : t_tree_from K (sp_mate_of K) (sp_seats_of K) { nx := fun _ H' => Q .non H', rt := Q } (start nm_tree_from vs) H := by
  obtain ⟨d, D, m, root, rfl, dr, hroot, k⟩ := h
  have hm := dr.most
  have hD := dr.len
  have ok := dr.ok
  refine q_asgL (el_seats (ev_var rfl) dr) fun s H1 hs0 e1 hs => ?_
  refine q_asgD (ed_disp (ev_var rfl) (ev_neg ev_c)) fun nr H2 hn0 e2 hn => ?_
  refine q_asgL (el_lst (ea_cons (ev_var rfl) ea_nil) (by show 1 ≤ 100000; omega)) fun w H3 hw0 e3 hw => ?_
  refine q_asg ev_c fun H4 e4 => ?_
  have nwn : w ≠ nr := fun z => by rw [z, hn] at hw0; cases hw0
  have hw1 : H1 w = none := fresh_back e2 hw0
  have ex0 : Ex H1 H4 := e2.trans (e3.trans e4)
  refine q_while (fun n σ' H' => ∃ i T y6 y7, σ' = [some (.ref d), some (.int ((root : Nat) : Int)), some (.ref s), some (.ref nr), some (.ref w), some (.int ((i : Nat) : Int)), y6, y7] ∧ Ex H1 H' ∧ H' nr = some (.dK (dT T)) ∧ H' w = some (.lst (ni (T.map (·.1)))) ∧ Tree D m root T ∧ (∀ j q, j < i → T[j]? = some q → Clo D T q.1) ∧ i ≤ T.length ∧ n = D.length - i)
    D.length ⟨0, [(root, -1)], none, none, rfl, ex0, e4 _ _ (e3 _ _ hn), e4 _ _ hw, Tree.start hroot, fun j q hj => by omega, Nat.zero_le _, rfl⟩ ?_
  rintro n σ' H' ⟨i, T, y6, y7, rfl, ex, gn, gw, tr, clo, hi, rfl⟩
  have tl := tr.key_lt
  have le := ev_len (K := K) (σ := [some (.ref d), some (.int ((root : Nat) : Int)), some (.ref s), some (.ref nr), some (.ref w), some (.int ((i : Nat) : Int)), y6, y7]) (ta := tVar 4) (ev_var rfl) (sq_of gw)
  rw [ni_length, List.length_map] at le
  refine ⟨_, et_test (ev_lt (ev_var rfl) le), fun hb H5 e5 => ?_, fun hb H5 e5 => ?_⟩
  · have hi2 : i < T.length := by have := of_decide_eq_true hb; omega
    obtain ⟨⟨p, z⟩, hTi⟩ : ∃ q, T[i]? = some q := ⟨_, List.getElem?_eq_getElem hi2⟩
    have hp : p < D.length := tr.lt _ (List.mem_of_getElem? hTi)
    obtain ⟨r, hr⟩ : ∃ r, D[p]? = some r := ⟨_, List.getElem?_eq_getElem hp⟩
    obtain ⟨xs, a, hx1, _, hx2, hx3⟩ := dr.rows.at hr
    have hwi : (ni (T.map (·.1)))[i]? = some (.int ((p : Nat) : Int)) := ni_get (by rw [List.getElem?_map, hTi]; rfl)
    refine ⟨fun σ' H' => ∃ T y6 y7, σ' = [some (.ref d), some (.int ((root : Nat) : Int)), some (.ref s), some (.ref nr), some (.ref w), some (.int (((i + 1 : Nat)) : Int)), y6, y7] ∧ Ex H1 H' ∧ H' nr = some (.dK (dT T)) ∧ H' w = some (.lst (ni (T.map (·.1)))) ∧ Tree D m root T ∧ (∀ j q, j < i + 1 → T[j]? = some q → Clo D T q.1) ∧ i + 1 ≤ T.length,
      fun σ2 H6 ⟨T, y6, y7, h1, h2, h3, h4, h5, h6, h7⟩ => ⟨D.length - (i + 1), by omega, i + 1, T, y6, y7, h1, h2, h3, h4, h5, h6, h7, rfl⟩, ?_⟩
    refine q_forN (K := K) (l := r) (ev_ixL (k := p) (ev_var rfl) (ev_ixL (ev_var rfl) (ev_var rfl) (sq_of (e5 _ _ gw)) hwi) (sq_of (e5 _ _ (ex _ _ (e1 _ _ hx1)))) hx2) (sq_of hx3)
      (fun j σ' H' => ∃ T' y6 y7, σ' = [some (.ref d), some (.int ((root : Nat) : Int)), some (.ref s), some (.ref nr), some (.ref w), some (.int ((i : Nat) : Int)), y6, y7] ∧ Ex H1 H' ∧ H' nr = some (.dK (dT T')) ∧ H' w = some (.lst (ni (T'.map (·.1)))) ∧ Tree D m root T' ∧ (∃ X, T' = T ++ X) ∧ ∀ e ∈ r.take j, seat D (mate e) ∈ T'.map (·.1))
      (fun H6 e6 => ⟨T, y6, y7, rfl, ex.trans (e5.trans e6), e6 _ _ (e5 _ _ gn), e6 _ _ (e5 _ _ gw), tr, ⟨[], by simp⟩, fun e he => by simp at he⟩) (fun j σ' H' ⟨_, _, _, _, e, _⟩ => e1.trans e) (fun j e σ' H' he ⟨T', y6, y7, es, ex', gn', gw', tr', ⟨X, eX⟩, hk⟩ => ?_) (fun σ' H' ⟨T', y6, y7, es, ex', gn', gw', tr', ⟨X, eX⟩, hk⟩ => ?_)
    · subst es
      have her : e ∈ r := List.mem_of_getElem? he
      have he2 := ok.row_lt hr her
      have hse := ok.seat_of hr her
      have tl' := tr'.key_lt
      refine q_asg (ev_ixL (ev_var rfl) (ev_mate (ev_var rfl)) (sq_of (ex' _ _ hs)) (ni_get (seats_get (mate_lt he2)))) fun H7 e7 => ?_
      have tk : ∀ x ∈ r.take (j + 1), x ∈ r.take j ∨ x = e := fun x hx => take_succ_mem he hx
      refine s_if (b := !(valV (dT T') (.inl ((seat D (mate e) : Nat) : Int))).isSome) (et_B (ev_dnin (ev_var rfl) (ev_var rfl) (.inl (e7 _ _ gn')))) (fun hb2 H8 e8 => ?_) (fun hb2 H8 e8 => ?_)
      · rw [valV_dT] at hb2
        have hl : T'.lookup (seat D (mate e)) = none := by
          cases q : T'.lookup (seat D (mate e)) with
          | none => rfl
          | some v => rw [q] at hb2; simp at hb2
        have new := look_none.mp hl
        refine q_dput (v := .int ((mate e : Nat) : Int)) (ev_mate (ev_var rfl)) (ev_var rfl) (ev_var rfl) (e8 _ _ (e7 _ _ gn')) (by rw [dT_length]; omega) fun H9 e9 => ?_
        rw [dT_put hl]
        have x9 := Ex.mut (o := HO.dK (dT (T' ++ [(seat D (mate e), ((mate e : Nat) : Int))]))) ((ex'.trans e7).trans (e8.trans e9)) hn0
        have w9 : (upd H9 nr (.dK (dT (T' ++ [(seat D (mate e), ((mate e : Nat) : Int))])))) w = some (.lst (ni (T'.map (·.1)))) := by
          rw [upd_ne nwn]
          exact e9 _ _ (e8 _ _ (e7 _ _ gw'))
        refine s_app w9 (ev_var rfl) (ev_var (v := .int ((seat D (mate e) : Nat) : Int)) rfl) (by rw [ni_length, List.length_map]; omega) fun H10 e10 => ?_
        refine ⟨T' ++ [(seat D (mate e), ((mate e : Nat) : Int))], _, _, rfl, Ex.mut (x9.trans e10) hw1, ?_, ?_, tr'.snoc (mate_lt he2) new ?_ (ok.seat_lt (mate_lt he2)), ⟨X ++ [(seat D (mate e), ((mate e : Nat) : Int))], by rw [eX]; simp⟩, fun x hx => ?_⟩
        · rw [upd_ne nwn.symm]
          exact e10 _ _ upd_same
        · rw [upd_same, List.map_append, ni_append]
          rfl
        · rw [mate_mate, hse, eX]
          exact key_of (i := i) (z := z) (by rw [List.getElem?_append_left hi2]; exact hTi)
        · rw [List.map_append]
          rcases tk x hx with q | q
          · exact List.mem_append_left _ (hk x q)
          · rw [q]
            exact List.mem_append_right _ (by simp)
      · rw [valV_dT] at hb2
        have hl : T'.lookup (seat D (mate e)) ≠ none := fun q => by rw [q] at hb2; simp at hb2
        refine ⟨T', _, _, rfl, ex'.trans (e7.trans e8), e8 _ _ (e7 _ _ gn'), e8 _ _ (e7 _ _ gw'), tr', ⟨X, eX⟩, fun x hx => ?_⟩
        rcases tk x hx with q | q
        · exact hk x q
        · rw [q]
          exact Classical.not_not.mp fun w => hl (look_none.mpr w)
    · subst es
      rw [List.take_length] at hk
      refine s_aug (a := (i : Int)) (b := 1) rfl ev_c fun H7 e7 => ?_
      refine ⟨T', y6, y7, ?_, ex'.trans e7, e7 _ _ gn', e7 _ _ gw', tr', fun j q hj hq => ?_, ?_⟩
      · show [some (V.ref d), some (.int ((root : Nat) : Int)), some (.ref s), some (.ref nr), some (.ref w), some (.int ((i : Int) + 1)), y6, y7] = _
        rw [show (((i + 1 : Nat)) : Int) = (i : Int) + 1 by omega]
      · have hjT : T[j]? = some q := by
          rw [eX, List.getElem?_append_left (by omega)] at hq
          exact hq
        by_cases hji : j < i
        · intro r' hr' e he
          have := clo j q hji hjT r' hr' e he
          rw [eX, List.map_append]
          exact List.mem_append_left _ this
        · have ej : j = i := by omega
          rw [ej, hTi] at hjT
          rw [← Option.some.inj hjT]
          intro r' hr' e he
          have hr2 : D[p]? = some r' := hr'
          rw [hr] at hr2
          rw [← Option.some.inj hr2] at he
          exact hk e he
      · rw [eX, List.length_append]
        omega
  · have hi2 : i = T.length := by have := of_decide_eq_false hb; omega
    refine s_ret (ev_var rfl) fun H6 e6 => k T tr (fun q hq => ?_) nr H6 (fresh_back e1 hn0) (e1.trans (ex.trans (e5.trans e6))) (e6 _ _ (e5 _ _ gn))
    obtain ⟨j, hj⟩ := List.mem_iff_getElem?.mp hq
    exact clo j q (by rw [hi2]; exact (List.getElem?_eq_some_iff.mp hj).1) hj
end RF

set_option Elab.async false
set_option linter.all false
set_option maxRecDepth 100000
set_option maxHeartbeats 4000000
namespace RF
open PySem PySem.Spec PyProof.Rows L2 Evl
/-! ## filling -/
theorem netF_eq : netF = netFn := rfl
def netL (m : Nat) (W : List Nat) : List V := zi ((List.range (2 * m)).map (netF W))
def sp_spread_numbers (K : PySem.W.Frag) : Sp := fun vs H Q _ => ∃ ls ins nt D m W L first, vs = [.ref ls, .ref ins, .ref nt, .int ((first : Nat) : Int)] ∧ Ok D m ∧ Lands D m L ∧ Rows H ls L ∧ Rd H ins (.dK (dT (insT L))) ∧ SqL K H nt (netL m W) ∧ first < L.length ∧ L.length ≤ 10000 ∧
  ((∀ N, ¬ Fill D m W N) → RetV .non H Q) ∧ ∀ T, Spr D m W L first T → (∀ q ∈ T, Told W L T q) → RetD (dT T) H Q
def sp_filling (K : PySem.W.Frag) : Sp := fun vs H Q _ => ∃ d D m w W, vs = [.ref d, .ref w] ∧ Dr H d D m ∧ SqL K H w (ni W) ∧ (∀ e ∈ W, e < 2 * m) ∧ ((∀ N, ¬ Fill D m W N) → RetV .non H Q) ∧ ∀ ns, Filled D m W (lands D m) ns → RetL (zi ns) H Q
theorem Spr.size {D : Dw} {m first : Nat} {W : List Nat} {L : List (List Nat)} {T : List (Nat × Int)} (h : Spr D m W L first T) : T.length ≤ L.length := by
  have := nodup_bound h.nd (n := L.length) fun x hx => by
    obtain ⟨q, hq, e⟩ := List.mem_map.mp hx
    rw [← e]
    exact h.lt q hq
  rwa [List.length_map] at this
theorem ni_snoc (xs : List Nat) (x : Nat) : ni (xs ++ [x]) = ni xs ++ [.int ((x : Nat) : Int)] := by
  rw [ni_append]
  rfl
theorem pure_spread_numbers (K : PySem.W.Frag) (vs : List V) (H : Hp) (Q : VK) (E : XK) (h : sp_spread_numbers K vs H Q E) : t_spread_numbers K (sp_mate_of K) { nx := fun _ H' => Q .non H', rt := Q } (start nm_spread_numbers vs) H := by
  obtain ⟨ls, ins, nt, D, m, W, L, first, rfl, ok, hL, rL, rI, rN, hf, zL, k1, k2⟩ := h
  refine q_asgD (ed_disp (ev_var rfl) ev_c) fun f H1 hf0 e1 hfd => ?_
  refine q_asgL (el_lst (ea_cons (ev_var rfl) ea_nil) (by show 1 ≤ 100000; omega)) fun w H2 hw0 e2 hw => ?_
  have nwf : w ≠ f := fun z => by rw [z, hfd] at hw0; cases hw0
  have hwn : H w = none := fresh_back e1 hw0
  refine q_while (fun n σ' H' => ∃ T ws y6 y7 y8 y9, σ' = [some (.ref ls), some (.ref ins), some (.ref nt), some (.int ((first : Nat) : Int)), some (.ref f), some (.ref w), y6, y7, y8, y9] ∧ Ex H H' ∧ H' f = some (.dK (dT T)) ∧ H' w = some (.lst (ni ws)) ∧ Spr D m W L first T ∧ (∀ x ∈ ws, x ∈ T.map (·.1)) ∧ (∀ q ∈ T, q.1 ∈ ws ∨ Told W L T q) ∧ n = (L.length - T.length) + ws.length ∧ ws.length ≤ T.length)
    ((L.length - 1) + 1) ⟨[(first, 0)], [first], none, none, none, none, rfl, e1.trans e2, e2 _ _ hfd, hw, Spr.start ok hL hf, fun x hx => by simpa using hx, fun q hq => .inl (by rw [List.mem_singleton.mp hq]; exact List.mem_singleton.mpr rfl), rfl, Nat.le_refl _⟩ ?_
  rintro n σ' H' ⟨T, ws, y6, y7, y8, y9, rfl, ex, gf, gw, sp, hws, told, rfl, wl⟩
  have sz := sp.size
  have le := ev_len (K := K) (σ := [some (.ref ls), some (.ref ins), some (.ref nt), some (.int ((first : Nat) : Int)), some (.ref f), some (.ref w), y6, y7, y8, y9]) (ta := tVar 5) (ev_var rfl) (sq_of gw)
  rw [ni_length] at le
  refine ⟨_, et_test (ev_gt le ev_c), fun hb H3 e3 => ?_, fun hb H3 e3 => ?_⟩
  · have hne : ws ≠ [] := fun z => by rw [z] at hb; simp at hb
    obtain ⟨w0, land, rfl⟩ : ∃ w0 x, ws = w0 ++ [x] := ⟨ws.dropLast, ws.getLast hne, (List.dropLast_concat_getLast hne).symm⟩
    rw [List.length_append, List.length_singleton] at wl
    obtain ⟨z, hz⟩ : ∃ z, (land, z) ∈ T := by
      obtain ⟨q, hq, e⟩ := List.mem_map.mp (hws land (by simp))
      exact ⟨q.2, by rw [← e]; exact hq⟩
    have hland : land < L.length := sp.lt _ hz
    obtain ⟨l, hl⟩ : ∃ l, L[land]? = some l := ⟨_, List.getElem?_eq_getElem hland⟩
    rw [ni_snoc] at gw
    refine ⟨fun σ2 H5 => ∃ T' ws' y6 y7 y8 y9, σ2 = [some (.ref ls), some (.ref ins), some (.ref nt), some (.int ((first : Nat) : Int)), some (.ref f), some (.ref w), y6, y7, y8, y9] ∧ Ex H H5 ∧ H5 f = some (.dK (dT T')) ∧ H5 w = some (.lst (ni ws')) ∧ Spr D m W L first T' ∧ (∀ x ∈ ws', x ∈ T'.map (·.1)) ∧ (∀ q ∈ T', q.1 ∈ ws' ∨ Told W L T' q) ∧ (L.length - T'.length) + ws'.length < (L.length - T.length) + (w0 ++ [land]).length ∧ ws'.length ≤ T'.length,
      fun σ2 H5 ⟨T', ws', y6, y7, y8, y9, h1, h2, h3, h4, h5, h6, h7, h8, h9⟩ => ⟨_, h8, T', ws', y6, y7, y8, y9, h1, h2, h3, h4, h5, h6, h7, rfl, h9⟩, ?_⟩
    refine ⟨.ref w, rfl, .inl ⟨rfl, _, sq_of (e3 _ _ gw)⟩, w, _, .int ((land : Nat) : Int), rfl, rfl, e3 _ _ gw, by simp, ?_⟩
    rw [List.dropLast_concat]
    have x4 := Ex.mut (o := HO.lst (ni w0)) (ex.trans e3) hwn
    have f4 : (upd H3 w (.lst (ni w0))) f = some (.dK (dT T)) := by rw [upd_ne nwf.symm]; exact e3 _ _ gf
    have w4 : (upd H3 w (.lst (ni w0))) w = some (.lst (ni w0)) := upd_same
    generalize upd H3 w (.lst (ni w0)) = H4 at x4 f4 w4 ⊢
    obtain ⟨xs, a, hx1, _, hx2, hx3⟩ := rL.at hl
    show tFor (iList K (tOp (rIxL K) (tVar 0) (tVar 6))) (gName 7) _ _ [some (.ref ls), some (.ref ins), some (.ref nt), some (.int ((first : Nat) : Int)), some (.ref f), some (.ref w), some (.int ((land : Nat) : Int)), y7, y8, y9] H4
    refine s_forN (K := K) (l := l) (ev_ixL (k := land) (ev_var rfl) (ev_var rfl) (sq_of (x4 _ _ hx1)) hx2) (sq_of hx3)
      (fun j σ' H' => ∃ T' X y7 y8 y9, σ' = [some (.ref ls), some (.ref ins), some (.ref nt), some (.int ((first : Nat) : Int)), some (.ref f), some (.ref w), some (.int ((land : Nat) : Int)), y7, y8, y9] ∧ Ex H H' ∧ H' f = some (.dK (dT T')) ∧ H' w = some (.lst (ni (w0 ++ X.map (·.1)))) ∧ T' = T ++ X ∧ Spr D m W L first T' ∧ (∀ e ∈ l.take j, T'.lookup (seat L (mate e)) = some (z - netFn W e)))
      (fun H6 e6 => ⟨T, [], y7, y8, y9, rfl, x4.trans e6, e6 _ _ f4, by simpa using e6 _ _ w4, by simp, sp, fun e he => by simp at he⟩) (fun j σ' H' ⟨_, _, _, _, _, _, e, _⟩ => e) (fun j e σ' H' he ⟨T', X, y7, y8, y9, es, ex', gf', gw', eX, sp', ht⟩ => ?_) (fun σ' H' ⟨T', X, y7, y8, y9, es, ex', gf', gw', eX, sp', ht⟩ => ?_)
    · subst es
      have hel : e ∈ l := List.mem_of_getElem? he
      have he2 := hL.lt hl hel
      obtain ⟨jb, l', hj, hm⟩ := hL.of (mate_lt he2)
      have ej : seat L (mate e) = jb := flat_seat hL.nd hj hm
      have hzT : (land, z) ∈ T' := by rw [eX]; exact List.mem_append_left _ hz
      have tk : ∀ x ∈ l.take (j + 1), x ∈ l.take j ∨ x = e := fun x hx => take_succ_mem he hx
      have sz' := sp'.size
      have wl' : (w0 ++ X.map (·.1)).length ≤ T'.length := by
        rw [eX, List.length_append, List.length_append, List.length_map]
        omega
      refine q_asg (v := .int ((jb : Nat) : Int)) (ev_dget (ev_var rfl) (ev_mate (ev_var rfl)) (ex_rd ex' rI) (by rw [valV_dT, insT_look hL.nd hj hm]; rfl)) fun H7 e7 => ?_
      refine q_asg (ev_sub (ev_dget (ev_var rfl) (ev_var rfl) (.inl (e7 _ _ gf')) (by rw [valV_dT, sp'.look hzT]; rfl)) (ev_ixL (ev_var rfl) (ev_var rfl) (ex_l (ex'.trans e7) rN) (zi_get (map_get (netF W) he2)))) fun H8 e8 => ?_
      refine s_if (b := !(valV (dT T') (.inl ((jb : Nat) : Int))).isSome) (et_B (ev_dnin (ev_var rfl) (ev_var rfl) (.inl (e8 _ _ (e7 _ _ gf'))))) (fun hb2 H9 e9 => ?_) (fun hb2 H9 e9 => ?_)
      · rw [valV_dT] at hb2
        have hlk : T'.lookup jb = none := by
          cases q : T'.lookup jb with
          | none => rfl
          | some v => rw [q] at hb2; simp at hb2
        refine q_dput (ev_var rfl) (ev_var rfl) (ev_var rfl) (e9 _ _ (e8 _ _ (e7 _ _ gf'))) (by rw [dT_length]; omega) fun H10 e10 => ?_
        rw [dT_put hlk]
        have x10 := Ex.mut (o := HO.dK (dT (T' ++ [(jb, z - netF W e)]))) ((ex'.trans e7).trans ((e8.trans e9).trans e10)) hf0
        have w10 : (upd H10 f (.dK (dT (T' ++ [(jb, z - netF W e)])))) w = some (.lst (ni (w0 ++ X.map (·.1)))) := by
          rw [upd_ne nwf]
          exact e10 _ _ (e9 _ _ (e8 _ _ (e7 _ _ gw')))
        refine s_app w10 (ev_var rfl) (ev_var (v := .int ((jb : Nat) : Int)) rfl) (by rw [ni_length]; omega) fun H11 e11 => ?_
        have sn := sp'.snoc ok hL hzT hl hel (by rw [ej]; exact hlk)
        rw [ej] at sn
        refine ⟨T' ++ [(jb, z - netF W e)], X ++ [(jb, z - netF W e)], _, _, _, rfl, Ex.mut (x10.trans e11) hwn, ?_, ?_, ?_, sn, fun x hx => ?_⟩
        · rw [upd_ne nwf.symm]
          exact e11 _ _ upd_same
        · rw [upd_same, List.map_append, ← List.append_assoc]
          exact congrArg (fun z => some (HO.lst z)) (ni_snoc _ _).symm
        · rw [eX, List.append_assoc]
        · rcases tk x hx with q | q
          · exact look_app (ht x q)
          · rw [q, ej, look_right hlk]
            show (match jb == jb with | true => some (z - netF W e) | false => none) = _
            rw [beq_self_eq_true]
            rfl
      · rw [valV_dT] at hb2
        obtain ⟨zb, hzb⟩ : ∃ zb, T'.lookup jb = some zb := by
          cases q : T'.lookup jb with
          | none => rw [q] at hb2; simp at hb2
          | some v => exact ⟨v, rfl⟩
        refine s_when (b := !decide (zb = z - netF W e)) (et_test (ev_neI (ev_dget (ev_var rfl) (ev_var rfl) (.inl (e9 _ _ (e8 _ _ (e7 _ _ gf')))) (by rw [valV_dT, hzb]; rfl)) (ev_var rfl))) (fun hb3 H10 e10 => ?_) (fun hb3 H10 e10 => ?_)
        · have hne : zb ≠ z - netFn W e := by
            have : ¬ zb = z - netF W e := by simpa using hb3
            exact this
          exact s_ret ev_c fun H11 e11 => k1 (sp'.clash hL hzT hl hel (by rw [ej]; exact hzb) hne) H11 (ex'.trans (e7.trans (e8.trans (e9.trans (e10.trans e11)))))
        · have heq : zb = z - netFn W e := by
            have : zb = z - netF W e := by simpa using hb3
            exact this
          refine ⟨T', X, _, _, _, rfl, ex'.trans (e7.trans (e8.trans (e9.trans e10))), e10 _ _ (e9 _ _ (e8 _ _ (e7 _ _ gf'))), e10 _ _ (e9 _ _ (e8 _ _ (e7 _ _ gw'))), eX, sp', fun x hx => ?_⟩
          rcases tk x hx with q | q
          · exact ht x q
          · rw [q, ej, hzb, heq]
    · subst es
      rw [List.take_length] at ht
      have sz' := sp'.size
      refine ⟨T', w0 ++ X.map (·.1), _, _, _, _, rfl, ex', gf', gw', sp', fun x hx => ?_, fun q hq => ?_, ?_, ?_⟩
      · rw [eX, List.map_append]
        rcases List.mem_append.mp hx with q | q
        · exact List.mem_append_left _ (hws x (List.mem_append_left _ q))
        · exact List.mem_append_right _ q
      · rw [eX] at hq
        rcases List.mem_append.mp hq with q1 | q1
        · rcases told q q1 with q2 | q2
          · rcases List.mem_append.mp q2 with q3 | q3
            · exact .inl (List.mem_append_left _ q3)
            · refine .inr ?_
              have e2 : q.1 = land := List.mem_singleton.mp q3
              have e3 : q.2 = z := by
                have a1 := sp.look q1
                have a2 := sp.look hz
                rw [e2] at a1
                rw [a1] at a2
                exact Option.some.inj a2
              intro l' hl' e he
              rw [e2, hl] at hl'
              rw [e3]
              exact ht e (by rw [Option.some.inj hl']; exact he)
          · refine .inr ?_
            rw [eX]
            exact q2.mono X
        · exact .inl (List.mem_append_right _ (List.mem_map.mpr ⟨q, q1, rfl⟩))
      · rw [eX, List.length_append] at sz' ⊢
        rw [List.length_append, List.length_append, List.length_map, List.length_singleton]
        omega
      · rw [eX, List.length_append, List.length_append, List.length_map]
        omega
  · have hne : ws = [] := by
      cases ws with
      | nil => rfl
      | cons x r => simp at hb
    subst hne
    exact s_ret (ev_var rfl) fun H4 e4 => k2 T sp (fun q hq => (told q hq).resolve_left (by simp)) f H4 hf0 (ex.trans (e3.trans e4)) (e4 _ _ (e3 _ _ gf))
/-- for k, v in d.items(): d locked -/
theorem s_forItems {K : PySem.W.Frag} {σ : L2.St} {H : Hp} {D : Ends} {tu : TS} {d : Addr} {n a b : Nat} {T : List (Nat × Int)} (hσ : σ[n]? = some (some (.ref d))) (hd : H d = some (.dK (dT T))) (Pv : Obj → Nat → L2.St → Hp → Prop) (h0 : ∀ od, Pv od 0 σ (upd H d (.frz od (.dK (dT T)))))
    (hl : ∀ od i σ' H', Pv od i σ' H' → H' d = some (.frz od (.dK (dT T))))
    (hs : ∀ od (i : Nat) (q : Nat × Int) σ' H' H2, T[i]? = some q → Pv od i σ' H' → Ex H' H2 → tu { nx := Pv od (i + 1), rt := fun v H3 => H3 d = some (.frz od (.dK (dT T))) ∧ D.rt v (upd H3 d (.dK (dT T))), bk := fun σ' H3 => H3 d = some (.frz od (.dK (dT T))) ∧ D.nx σ' (upd H3 d (.dK (dT T))), ct := Pv od (i + 1) } ((σ'.set a (some (.int ((q.1 : Nat) : Int)))).set b (some (.int q.2))) H2)
    (hd2 : ∀ od σ' H', Pv od T.length σ' H' → D.nx σ' (upd H' d (.dK (dT T)))) : tLock (tFor (iItems (tVar n)) (gTup K 2 (gCons (gName a) (gCons (gName b) gNil))) tu) D σ H := by
  refine ⟨d, _, hd, trivial, fun od => ⟨.ref d, hσ, d, od, _, rfl, upd_same, fun i mm σ' H' => mm = T.length - i ∧ i ≤ T.length ∧ Pv od i σ' H', ⟨T.length, by simp, Nat.zero_le _, h0 od⟩, ?_⟩⟩
  rintro i mm σ' H' ⟨rfl, hi, p⟩
  have q := hl od i σ' H' p
  by_cases hlt : i < T.length
  · refine .inr ⟨⟨q, by rw [dT_length]; exact hlt⟩, Pv od (i + 1), fun σ2 H2 p2 => ⟨T.length - (i + 1), by omega, rfl, hlt, p2⟩, fun x H2 y => ?_⟩
    obtain ⟨Tp, kk, v, hkv, rfl, hT, rfl⟩ := y
    obtain ⟨qq, hq⟩ : ∃ qq, T[i]? = some qq := ⟨_, List.getElem?_eq_getElem hlt⟩
    have e : (dT T)[i]? = some (Sum.inl ((qq.1 : Nat) : Int), V.int qq.2) := by
      unfold dT
      rw [List.getElem?_map, hq]
      rfl
    rw [e] at hkv
    have e2 := Option.some.inj hkv
    have ek : (Sum.inl ((qq.1 : Nat) : Int) : Key) = kk := congrArg Prod.fst e2
    have evv : V.int qq.2 = v := congrArg Prod.snd e2
    subst ek evv
    refine ⟨Tp, _, rfl, st_of upd_same, rfl, _, _, rfl, _, [], rfl, rfl, ?_⟩
    exact hs od i qq σ' H' _ hq p (Ex.new hT)
  · have e : i = T.length := by omega
    subst e
    exact .inl ⟨⟨q, by rw [dT_length]; exact Nat.le_refl _⟩, q, hd2 od σ' H' p⟩
theorem orbs_length {st : Nat → Nat} {N : Nat} : ∀ (ss S : List Nat), (orbs st N ss S).length ≤ ss.length
  | [], S => Nat.le_refl _
  | s :: ss, S => by
    rw [orbs_cons]
    split
    · have := orbs_length (st := st) (N := N) ss S
      rw [List.length_cons]
      omega
    · have := orbs_length (st := st) (N := N) ss ((orb st (N + 1) S s).reverse ++ S)
      rw [List.length_cons, List.length_cons]
      omega
theorem lands_length {D : Dw} {m : Nat} : (lands D m).length ≤ 2 * m + D.length := by
  unfold lands
  rw [List.length_append, List.length_replicate]
  have h1 := orbs_length (st := stp D) (N := 2 * m) (List.range (2 * m)) []
  rw [List.length_range] at h1
  have h2 := List.countP_le_length (p := fun r : List Nat => r.isEmpty) (l := D)
  omega
theorem er_lands {K : PySem.W.Frag} {σ : L2.St} {H : Hp} {te : TE} {E : XK} {d : Addr} {D : Dw} {m : Nat} (h : Ev te σ H (.ref d)) (dr : Dr H d D m) : EvR (tCall (sp_lands_of K) [] E (tCons te tNil)) σ H (lands D m) :=
  er_call (ea_cons h ea_nil) fun H1 e1 Q q E => ⟨d, D, m, rfl, dr.mono e1, q⟩
/-- x = f(..), told by f's promise as it stands -/
theorem q_asgCall {sp : Sp} {E : XK} {ta : TA} {σ : L2.St} {H : Hp} {vs : List V} {n : Nat} {tz : TS} {D : Ends} (ha : EvA ta σ H vs) (k : ∀ H1, Ex H H1 → sp vs H1 (fun x H2 => tz D (σ.set n (some x)) H2) E) : tSeq (tAsg (tCall sp [] E ta) (gName n)) tz D σ H := by
  show ta σ H (fun vs H1 => sp (vs ++ []) H1 (fun x H2 => tz D (σ.set n (some x)) H2) E)
  refine ha H (Ex.refl H) _ fun H1 e => ?_
  rw [List.append_nil]
  exact k H1 e
theorem pure_filling (K : PySem.W.Frag) (vs : List V) (H : Hp) (Q : VK) (E : XK) (h : sp_filling K vs H Q E) : t_filling K (sp_lands_of K) (sp_land_numbers K) (sp_net_counts K) (sp_spread_numbers K) { nx := fun _ H' => Q .non H', rt := Q } (start nm_filling vs) H := by
  obtain ⟨d, D, m, w, W, rfl, dr, hw, lt, k1, k2⟩ := h
  have hm := dr.most
  have hD := dr.len
  have ok := dr.ok
  have hL := ok.lands
  have zL := lands_length (D := D) (m := m)
  have fl : (lands D m).flatten.length = 2 * m := by
    have := nodup_full hL.nd (n := 2 * m) (fun x hx => (hL.mem x).mp hx)
    have p : (lands D m).flatten.Perm D.flatten := by
      obtain ⟨t, ht⟩ := nodup_sub hL.nd fun x hx => (ok.mem x).mpr ((hL.mem x).mp hx)
      obtain ⟨u, hu⟩ := nodup_sub ok.nd fun x hx => (hL.mem x).mpr ((ok.mem x).mp hx)
      have l1 := ht.length_eq
      have l2 := hu.length_eq
      rw [List.length_append] at l1 l2
      have e : t = [] := List.eq_nil_of_length_eq_zero (by omega)
      rw [e, List.append_nil] at ht
      exact ht
    rw [p.length_eq, ok.len]
  generalize hLe : lands D m = L at *
  refine q_asgR (B := L) (by have := er_lands (K := K) (σ := start nm_filling [.ref d, .ref w]) (H := H) (te := tVar 0) (E := E0) (ev_var rfl) dr; rw [hLe] at this; exact this) fun ls H1 hls0 e1 hls => ?_
  refine q_asgD (kvs := dT (insT L)) (ed_call (ea_cons (ev_var rfl) ea_nil) fun H2 e2 Q q E => ⟨ls, L, rfl, hls.mono e2, hL.nd, by omega, q⟩) fun ins H2 hi0 e2 hins => ?_
  refine q_asgL (xs := netL m W) (el_f (ea_cons (ev_var rfl) (ea_cons (ev_var rfl) ea_nil)) fun H3 e3 Q q E => ⟨d, D, m, w, W, rfl, dr.mono (e1.trans (e2.trans e3)), ex_l (e1.trans (e2.trans e3)) hw, lt, q⟩) fun nt H3 hnt0 e3 hnt => ?_
  refine q_asgD ed_new fun g H4 hg0 e4 hg => ?_
  have rL3 : Rows H3 ls L := hls.mono (e2.trans e3)
  have lenL : ∀ {σ : L2.St} {H' : Hp}, σ[2]? = some (some (.ref ls)) → Ex H3 H' → Ev (tCB (rLenS K) (tCons (tVar 2) tNil)) σ H' (.int ((L.length : Nat) : Int)) := fun {σ H'} hσ ex => by
    obtain ⟨xs, hx, hxl⟩ := rL3.lst
    have q := ev_len (K := K) (ta := tVar 2) (ev_var hσ) (sq_of (ex _ _ hx))
    rw [hxl] at q
    exact q
  refine q_forR (k := L.length) (lenL rfl e4) (by omega) (fun i σ' H' => ∃ G y6 y7 y8 y9 y10, σ' = [some (.ref d), some (.ref w), some (.ref ls), some (.ref ins), some (.ref nt), some (.ref g), y6, y7, y8, y9, y10] ∧ Ex H3 H' ∧ H' g = some (.dK (dT G)) ∧ Gath D m W L i G)
    (fun H5 e5 => ⟨[], none, none, none, none, none, rfl, e4.trans e5, e5 _ _ hg, Gath.start⟩) (fun i σ' H' hi ⟨G, y6, y7, y8, y9, y10, es, ex, hG, ga⟩ => ?_) (fun σ' H' ⟨G, y6, y7, y8, y9, y10, es, ex, hG, ga⟩ => ?_)
  · subst es
    have zG : G.length ≤ L.length := by
      have := nodup_bound ga.nd (n := L.length) fun x hx => by
        obtain ⟨q, hq, e⟩ := List.mem_map.mp hx
        rw [← e]
        exact ga.lt q hq
      rwa [List.length_map] at this
    refine q_when (b := (valV (dT G) (.inl ((i : Nat) : Int))).isSome) (et_B (ev_din (ev_var rfl) (ev_var rfl) (.inl hG))) (fun hb H5 e5 => ?_) (fun hb H5 e5 => ?_)
    · rw [valV_dT] at hb
      have hk : i ∈ G.map (·.1) := by
        refine Classical.byContradiction fun hn => ?_
        rw [look_none.mpr hn] at hb
        cases hb
      exact ⟨G, _, y7, y8, y9, y10, rfl, ex.trans e5, e5 _ _ hG, ga.skip hk⟩
    · rw [valV_dT] at hb
      have hk : i ∉ G.map (·.1) := by
        intro hn
        obtain ⟨j, z, hj⟩ := key_get hn
        rw [look_at ga.nd hj] at hb
        cases hb
      have ha : EvA (tCons (tVar 2) (tCons (tVar 3) (tCons (tVar 4) (tCons (tVar 6) tNil)))) [some (.ref d), some (.ref w), some (.ref ls), some (.ref ins), some (.ref nt), some (.ref g), some (.int (i : Int)), y7, y8, y9, y10] H5 [.ref ls, .ref ins, .ref nt, .int (i : Int)] :=
        ea_cons (ev_var rfl) (ea_cons (ev_var rfl) (ea_cons (ev_var rfl) (ea_cons (ev_var rfl) ea_nil)))
      refine q_asgCall ha fun H6 e6 => ?_
      have x6 := ex.trans (e5.trans e6)
      refine ⟨ls, ins, nt, D, m, W, L, i, rfl, ok, hL, rL3.mono x6, .inl ((e3.trans x6) _ _ hins), sq_of (x6 _ _ hnt), hi, by omega, fun hno H7 e7 => ?_, fun T sp told f H7 hf0 e7 hf => ?_⟩
      · show tSeq (tIfS (tTest (tOp rNone (tVar 7) (tC .non))) (tRet (tC .non)) tNext) _ _ [some (.ref d), some (.ref w), some (.ref ls), some (.ref ins), some (.ref nt), some (.ref g), some (.int (i : Int)), some .non, y8, y9, y10] H7
        refine q_when (b := true) (et_test (ev_isN (x := .non) (ev_var rfl))) (fun _ H8 e8 => ?_) (fun hb2 => by cases hb2)
        exact s_ret ev_c fun H9 e9 => k1 hno H9 (e1.trans (e2.trans (e3.trans (x6.trans (e7.trans (e8.trans e9))))))
      · show tSeq (tIfS (tTest (tOp rNone (tVar 7) (tC .non))) (tRet (tC .non)) tNext) _ _ [some (.ref d), some (.ref w), some (.ref ls), some (.ref ins), some (.ref nt), some (.ref g), some (.int (i : Int)), some (.ref f), y8, y9, y10] H7
        refine q_when (b := false) (et_test (ev_isN (x := .ref f) (ev_var rfl))) (fun hb2 => by cases hb2) (fun _ H8 e8 => ?_)
        have f8 := e8 _ _ hf
        refine ⟨.ref f, rfl, f, dT T, T.map (·.2), rfl, f8, ?_, ?_, fun c hc hmin => ?_⟩
        · unfold dT
          rw [List.map_map, List.map_map]
          rfl
        · intro z
          have := sp.head
          rw [List.map_eq_nil_iff.mp z] at this
          cases this
        have hc2 : ∃ q ∈ T, q.2 = c := by
          obtain ⟨q, hq, e⟩ := List.mem_map.mp hc
          exact ⟨q, hq, e⟩
        have hmin2 : ∀ q ∈ T, c ≤ q.2 := fun q hq => hmin q.2 (List.mem_map.mpr ⟨q, hq, rfl⟩)
        have ga2 := ga.add ok hL hk sp told hc2 hmin2
        have x8 := x6.trans (e7.trans e8)
        have g8 : H8 g = some (.dK (dT G)) := e8 _ _ (e7 _ _ (e6 _ _ (e5 _ _ hG)))
        have nfg : f ≠ g := fun z => by
          rw [z, e6 _ _ (e5 _ _ hG)] at hf0
          cases hf0
        have hf3 : H3 f = none := fresh_back x6 hf0
        have zT := sp.size
        refine s_forItems (K := K) (T := T) (d := f) rfl f8 (fun od j σ' H' => ∃ y9 y10, σ' = [some (.ref d), some (.ref w), some (.ref ls), some (.ref ins), some (.ref nt), some (.ref g), some (.int (i : Int)), some (.ref f), some (.int c), y9, y10] ∧ Ex H3 H' ∧ H' f = some (.frz od (.dK (dT T))) ∧ H' g = some (.dK (dT (G ++ (T.take j).map fun q => (q.1, q.2 - c)))))
          (fun od => ⟨y9, y10, rfl, Ex.mut x8 hf3, upd_same, by rw [upd_ne nfg.symm]; simpa using g8⟩) (fun od j σ' H' ⟨_, _, _, _, h, _⟩ => h) (fun od j q σ' H' H9 hq ⟨y9, y10, es, ex', hf', hg'⟩ e9 => ?_) (fun od σ' H' ⟨y9, y10, es, ex', hf', hg'⟩ => ?_)
        · subst es
          have hj := (List.getElem?_eq_some_iff.mp hq).1
          have nd2 := ga2.nd
          have cut : T.map (fun q => (q.1, q.2 - c)) = (T.take j).map (fun q => (q.1, q.2 - c)) ++ (q.1, q.2 - c) :: (T.drop (j + 1)).map (fun q => (q.1, q.2 - c)) := by
            have e5 : T = T.take j ++ q :: T.drop (j + 1) := by
              have hj := (List.getElem?_eq_some_iff.mp hq)
              rw [← hj.2, List.getElem_cons_drop, List.take_append_drop]
            conv => lhs; rw [e5]
            rw [List.map_append, List.map_cons]
          have new : (G ++ (T.take j).map fun q => (q.1, q.2 - c)).lookup q.1 = none := by
            refine look_none.mpr fun hm => ?_
            rw [cut, ← List.append_assoc, List.map_append] at nd2
            exact (List.nodup_append.mp nd2).2.2 q.1 hm q.1 (by simp) rfl
          refine s_dput (ev_sub (ev_var rfl) (ev_var rfl)) (ev_var rfl) (ev_var rfl) (e9 _ _ hg') (by rw [dT_length, List.length_append, List.length_map, List.length_take]; omega) fun H10 e10 => ?_
          rw [dT_put new]
          refine ⟨_, _, rfl, Ex.mut (ex'.trans (e9.trans e10)) hg0, ?_, ?_⟩
          · rw [upd_ne nfg]
            exact e10 _ _ (e9 _ _ hf')
          · rw [upd_same, List.take_add_one, hq, List.map_append, List.append_assoc]
            rfl
        · subst es
          rw [List.take_length] at hg'
          exact ⟨G ++ T.map (fun q => (q.1, q.2 - c)), _, _, _, _, _, rfl, Ex.mut ex' hf3, by rw [upd_ne nfg.symm]; exact hg', ga2⟩
  · subst es
    have fin := ga.done hL
    have q := el_lcR (σ := [some (.ref d), some (.ref w), some (.ref ls), some (.ref ins), some (.ref nt), some (.ref g), y6, y7, y8, y9, y10]) (H := H') (te := tDGet (tVar 5) (tVar 9)) (j := 9) (vs := [9]) (k := L.length) (fun l => V.int ((G.lookup l).getD 0)) (lenL rfl ex) (by omega) (fun _ => rfl) (fun l H5 e5 hl => by
      obtain ⟨z, hz⟩ := ga.all hl
      rw [show (G.lookup l).getD 0 = z from by rw [ga.look hz]; rfl]
      exact ev_dget (ev_var rfl) (ev_var rfl) (.inl (e5 _ _ hG)) (by rw [valV_dT, ga.look hz]; rfl))
    have eq : (List.range L.length).map (fun l => V.int ((G.lookup l).getD 0)) = zi (numsOf L G) := by
      unfold zi numsOf
      rw [List.map_map]
      rfl
    rw [eq] at q
    exact s_retL q fun p H5 hp e5 h5 => k2 _ fin p H5 (fresh_back (e1.trans (e2.trans (e3.trans ex))) hp) (e1.trans (e2.trans (e3.trans (ex.trans e5)))) h5
end RF

set_option Elab.async false
set_option linter.all false
set_option maxRecDepth 100000
set_option maxHeartbeats 4000000
namespace RF
open PySem PySem.Spec PyProof.Rows L2 Evl
/-! ## crosser, fill_of -/
/-- for k in d: d locked -/
theorem s_forKeys {K : PySem.W.Frag} {σ : L2.St} {H : Hp} {D : Ends} {tu : TS} {d : Addr} {n a : Nat} {T : List (Nat × Int)} (hσ : σ[n]? = some (some (.ref d))) (hd : H d = some (.dK (dT T))) (Pv : Obj → Nat → L2.St → Hp → Prop) (h0 : ∀ od, Pv od 0 σ (upd H d (.frz od (.dK (dT T)))))
    (hl : ∀ od i σ' H', Pv od i σ' H' → H' d = some (.frz od (.dK (dT T))))
    (hs : ∀ od (i : Nat) (q : Nat × Int) σ' H', T[i]? = some q → Pv od i σ' H' → tu { nx := Pv od (i + 1), rt := fun v H3 => H3 d = some (.frz od (.dK (dT T))) ∧ D.rt v (upd H3 d (.dK (dT T))), bk := fun σ' H3 => H3 d = some (.frz od (.dK (dT T))) ∧ D.nx σ' (upd H3 d (.dK (dT T))), ct := Pv od (i + 1) } (σ'.set a (some (.int ((q.1 : Nat) : Int)))) H')
    (hd2 : ∀ od σ' H', Pv od T.length σ' H' → D.nx σ' (upd H' d (.dK (dT T)))) : tLock (tFor (iKeys (tVar n)) (gName a) tu) D σ H := by
  refine ⟨d, _, hd, trivial, fun od => ⟨.ref d, hσ, d, od, rfl, .inl ⟨_, upd_same, fun i mm σ' H' => mm = T.length - i ∧ i ≤ T.length ∧ Pv od i σ' H', ⟨T.length, by simp, Nat.zero_le _, h0 od⟩, ?_⟩⟩⟩
  rintro i mm σ' H' ⟨rfl, hi, p⟩
  have q := hl od i σ' H' p
  by_cases hlt : i < T.length
  · refine .inr ⟨⟨q, by rw [dT_length]; exact hlt⟩, Pv od (i + 1), fun σ2 H2 p2 => ⟨T.length - (i + 1), by omega, rfl, hlt, p2⟩, fun x H2 y => ?_⟩
    obtain ⟨rfl, kk, v, hkv, rfl⟩ := y
    obtain ⟨qq, hq⟩ : ∃ qq, T[i]? = some qq := ⟨_, List.getElem?_eq_getElem hlt⟩
    have e : (dT T)[i]? = some (Sum.inl ((qq.1 : Nat) : Int), V.int qq.2) := by
      unfold dT
      rw [List.getElem?_map, hq]
      rfl
    rw [e] at hkv
    have ek : (Sum.inl ((qq.1 : Nat) : Int) : Key) = kk := congrArg Prod.fst (Option.some.inj hkv)
    subst ek
    exact hs od i qq σ' H2 hq p
  · have e : i = T.length := by omega
    subst e
    exact .inl ⟨⟨q, by rw [dT_length]; exact Nat.le_refl _⟩, q, hd2 od σ' H' p⟩
def sp_crosser (K : PySem.W.Frag) : Sp := fun vs H Q _ => ∃ d D m w W, vs = [.ref d, .ref w] ∧ Dr H d D m ∧ SqL K H w (ni W) ∧ W.length ≤ 40000 ∧ WalkN D m W ∧ (∀ N, ¬ Fill D m W N) ∧ ∀ U, Turn D m U → U.length ≤ 10000 → cross (LF D m W) U ≠ 0 → RetL (ni U) H Q
theorem fill_nil {D : Dw} {m : Nat} : Fill D m [] fun _ => 0 := ⟨fun _ _ => rfl, fun _ _ => rfl⟩
theorem way_len {D : Dw} {m root : Nat} {T : List (Nat × Int)} (ok : Ok D m) (tr : Tree D m root T) (hr : root < D.length) {l : List Nat} (nd : (l.map (seat D) ++ [root]).Nodup) (lt : ∀ t ∈ l, t < 2 * m) : l.length ≤ D.length := by
  have := nodup_bound nd (n := D.length) fun x hx => by
    rcases List.mem_append.mp hx with q | q
    · obtain ⟨t, ht, e⟩ := List.mem_map.mp q
      rw [← e]
      exact ok.seat_lt (lt t ht)
    · rw [List.mem_singleton.mp q]
      exact hr
  rw [List.length_append, List.length_map] at this
  omega
theorem turn_len {D : Dw} {m : Nat} {U : List Nat} (ok : Ok D m) (h : Turn D m U) : U.length ≤ D.length := by
  have := nodup_bound h.places (n := D.length) fun x hx => by
    obtain ⟨t, ht, e⟩ := List.mem_map.mp hx
    rw [← e]
    exact ok.seat_lt (h.walk.lt t ht)
  rwa [List.length_map] at this
/-- no round along an end of this place crosses -/
def NoCross (D : Dw) (m : Nat) (W : List Nat) (T : List (Nat × Int)) (e : Nat) : Prop := T.lookup (seat D e) ≠ some ((e : Nat) : Int) → T.lookup (seat D (mate e)) ≠ some ((mate e : Nat) : Int) → ∀ out back, Way D T (seat D (mate e)) out → Way D T (seat D e) back → cross (LF D m W) (turnAt e out back) = 0
theorem pure_crosser (K : PySem.W.Frag) (vs : List V) (H : Hp) (Q : VK) (E : XK) (h : sp_crosser K vs H Q E) : t_crosser K (sp_mate_of K) (sp_seats_of K) (sp_tree_from K) (sp_round_along K) (sp_left_counts K) (sp_crossing_by K) { nx := fun _ H' => Q .non H', rt := Q } (start nm_crosser vs) H := by
  obtain ⟨d, D, m, w, W, rfl, dr, hw, hz, wk, nof, k⟩ := h
  have hm := dr.most
  have hD := dr.len
  have ok := dr.ok
  have ne : W ≠ [] := fun z => nof (fun _ => 0) (by rw [z]; exact fill_nil)
  obtain ⟨w0, hw0⟩ : ∃ w0, W[0]? = some w0 := ⟨_, List.getElem?_eq_getElem (List.length_pos_iff.mpr ne)⟩
  have lw0 := wk.lt w0 (List.mem_of_getElem? hw0)
  refine q_asgL (el_seats (ev_var rfl) dr) fun s H1 hs0 e1 hs => ?_
  refine q_asgL (el_f (ea_cons (ev_var rfl) (ea_cons (ev_var rfl) ea_nil)) fun H2 e2 Q q E => ⟨d, D, m, w, W, rfl, dr.mono (e1.trans e2), ex_l (e1.trans e2) hw, hz, wk, q⟩) fun c H2 hc0 e2 hc => ?_
  have ha : EvA (tCons (tVar 0) (tCons (tOp (rIxL K) (tVar 2) (tOp (rIxL K) (tVar 1) (tC (.int 0)))) tNil)) [some (.ref d), some (.ref w), some (.ref s), some (.ref c), none, none, none, none] H2 [.ref d, .int ((seat D w0 : Nat) : Int)] :=
    ea_cons (ev_var rfl) (ea_cons (ev_ixL (ev_var rfl) (ev_ixL (k := 0) (ev_var rfl) ev_c (ex_l (e1.trans e2) hw) (ni_get hw0)) (sq_of (e2 _ _ hs)) (ni_get (seats_get lw0))) ea_nil)
  refine q_asgCall ha fun H3 e3 => ?_
  have hroot := ok.seat_lt lw0
  refine ⟨d, D, m, seat D w0, rfl, dr.mono (e1.trans (e2.trans e3)), hroot, fun T tr clo nr H4 hn0 e4 hn => ?_⟩
  show tSeq (tLock _) _ _ [some (.ref d), some (.ref w), some (.ref s), some (.ref c), some (.ref nr), none, none, none] H4
  have x3 : Ex H H3 := e1.trans (e2.trans e3)
  have hn1 : H nr = none := fresh_back x3 hn0
  have key_mate : ∀ e, e < 2 * m → seat D e ∈ T.map (·.1) → seat D (mate e) ∈ T.map (·.1) := fun e he hk => by
    obtain ⟨q, hq, eq⟩ := List.mem_map.mp hk
    obtain ⟨r, h1, h2⟩ := ok.row he
    exact clo q hq r (by rw [eq]; exact h1) e h2
  refine s_forKeys (K := K) (D := { nx := tRet (tLst tNil) _, rt := _, bk := _, ct := _ }) (T := T) (d := nr) rfl hn (fun od i σ' H' => ∃ y5 y6 y7, σ' = [some (.ref d), some (.ref w), some (.ref s), some (.ref c), some (.ref nr), y5, y6, y7] ∧ Ex H3 H' ∧ H' nr = some (.frz od (.dK (dT T))) ∧ ∀ j q, j < i → T[j]? = some q → ∀ r, D[q.1]? = some r → ∀ e ∈ r, NoCross D m W T e)
    (fun od => ⟨none, none, none, rfl, Ex.mut e4 hn0, upd_same, fun j q hj => by omega⟩) (fun od i σ' H' ⟨_, _, _, _, _, h, _⟩ => h) (fun od i q σ' H' hq ⟨y5, y6, y7, es, ex, hf, zero⟩ => ?_) (fun od σ' H' ⟨y5, y6, y7, es, ex, hf, zero⟩ => ?_)
  · subst es
    obtain ⟨p, z⟩ := q
    have hp : p < D.length := tr.lt _ (List.mem_of_getElem? hq)
    obtain ⟨r, hr⟩ : ∃ r, D[p]? = some r := ⟨_, List.getElem?_eq_getElem hp⟩
    have rows3 := dr.rows.mono x3
    obtain ⟨xs, a, hx1, _, hx2, hx3⟩ := rows3.at hr
    show tFor (iList K (tOp (rIxL K) (tVar 0) (tVar 5))) (gName 6) _ _ [some (.ref d), some (.ref w), some (.ref s), some (.ref c), some (.ref nr), some (.int ((p : Nat) : Int)), y6, y7] H'
    refine s_forN (K := K) (l := r) (H0 := H3) (ev_ixL (k := p) (ev_var rfl) (ev_var rfl) (sq_of (ex _ _ hx1)) hx2) (sq_of hx3)
      (fun j σ' H' => ∃ y6 y7, σ' = [some (.ref d), some (.ref w), some (.ref s), some (.ref c), some (.ref nr), some (.int ((p : Nat) : Int)), y6, y7] ∧ Ex H3 H' ∧ H' nr = some (.frz od (.dK (dT T))) ∧ ∀ e ∈ r.take j, NoCross D m W T e)
      (fun H5 e5 => ⟨y6, y7, rfl, ex.trans e5, e5 _ _ hf, fun e he => by simp at he⟩) (fun j σ' H' ⟨_, _, _, e, _⟩ => e) (fun j e σ' H' he ⟨y6, y7, es, ex', hf', hno⟩ => ?_) (fun σ' H' ⟨y6, y7, es, ex', hf', hno⟩ => ?_)
    · subst es
      have her : e ∈ r := List.mem_of_getElem? he
      have he2 := ok.row_lt hr her
      have hse := ok.seat_of hr her
      have kse : seat D e ∈ T.map (·.1) := by rw [hse]; exact key_of hq
      have kme := key_mate e he2 kse
      have lz : T.lookup p = some z := look_at tr.nd hq
      obtain ⟨i2, z2, hz2⟩ := key_get kme
      have lz2 := look_at tr.nd hz2
      have hd' : Rd H' nr (.dK (dT T)) := .inr ⟨od, hf'⟩
      have hs' := sq_of (K := K) (ex' _ _ (e3 _ _ (e2 _ _ hs)))
      have tk : ∀ x ∈ r.take (j + 1), x ∈ r.take j ∨ x = e := fun x hx => take_succ_mem he hx
      refine s_when (b := (!decide (z = ((e : Nat) : Int))) && !decide (z2 = ((mate e : Nat) : Int))) (et_and (et_test (ev_neI (ev_dget (ev_var rfl) (ev_var rfl) hd' (by rw [valV_dT, lz]; rfl)) (ev_var rfl))) fun _ =>
        et_test (ev_neI (ev_dget (ev_var rfl) (ev_ixL (ev_var rfl) (ev_mate (ev_var rfl)) hs' (ni_get (seats_get (mate_lt he2)))) hd' (by rw [valV_dT, lz2]; rfl)) (ev_mate (ev_var rfl)))) (fun hb H5 e5 => ?_) (fun hb H5 e5 => ?_)
      · have n1 : T.lookup (seat D e) ≠ some ((e : Nat) : Int) := by
          rw [hse, lz]
          intro q
          rw [Option.some.inj q] at hb
          simp at hb
        have n2 : T.lookup (seat D (mate e)) ≠ some ((mate e : Nat) : Int) := by
          rw [lz2]
          intro q
          rw [Option.some.inj q] at hb
          simp at hb
        obtain ⟨out, wo, lo, ndo, _⟩ := tr.way_of kme
        obtain ⟨back, wb, lb, ndb, _⟩ := tr.way_of kse
        have zo := way_len ok tr hroot ndo lo
        have zb := way_len ok tr hroot ndb lb
        have tn := turn_ok ok tr he2 wo wb kme kse n1 n2
        have tl := turn_len ok tn
        refine q_asgL (el_f (ea_cons (ev_var rfl) (ea_cons (ev_var rfl) (ea_cons (ev_var rfl) ea_nil))) fun H6 e6 Q q E => ⟨s, nr, D, m, T, e, out, back, rfl, ex_l (e5.trans e6) hs', ex_rd (e5.trans e6) hd', he2, wo, wb, lo, lb, by omega, by omega, q⟩) fun u H6 hu0 e6 hu => ?_
        have cev : Ev (tCall (sp_crossing_by K) [] E0 (tCons (tVar 3) (tCons (tVar 7) tNil))) [some (.ref d), some (.ref w), some (.ref s), some (.ref c), some (.ref nr), some (.int ((p : Nat) : Int)), some (.int ((e : Nat) : Int)), some (.ref u)] H6 (.int (cross (LF D m W) (turnAt e out back))) :=
          ev_f (ea_cons (ev_var rfl) (ea_cons (ev_var rfl) ea_nil)) fun H7 e7 Q q E => ⟨c, u, m, LF D m W, turnAt e out back, rfl, sq_of (e7 _ _ (e6 _ _ (e5 _ _ (ex' _ _ (e3 _ _ hc))))), sq_of (e7 _ _ hu), by omega, tn.walk.lt, q⟩
        refine s_when (b := !decide (cross (LF D m W) (turnAt e out back) = 0)) (et_test (ev_neI cev ev_c)) (fun hb2 H7 e7 => ?_) (fun hb2 H7 e7 => ?_)
        · have nz : cross (LF D m W) (turnAt e out back) ≠ 0 := by simpa using hb2
          refine s_ret (ev_var rfl) fun H8 e8 => ?_
          have f8 : H8 nr = some (.frz od (.dK (dT T))) := e8 _ _ (e7 _ _ (e6 _ _ (e5 _ _ hf')))
          have u8 : H8 u = some (.lst (ni (turnAt e out back))) := e8 _ _ (e7 _ _ hu)
          have nun : u ≠ nr := fun q => by rw [q, f8] at u8; cases u8
          refine ⟨f8, k _ tn (by omega) nz u _ (fresh_back (x3.trans (ex'.trans e5)) hu0) (Ex.mut (x3.trans (ex'.trans (e5.trans (e6.trans (e7.trans e8))))) hn1) ?_⟩
          rw [upd_ne nun]
          exact u8
        · have nz : cross (LF D m W) (turnAt e out back) = 0 := by simpa using hb2
          refine ⟨_, _, rfl, ex'.trans (e5.trans (e6.trans e7)), e7 _ _ (e6 _ _ (e5 _ _ hf')), fun x hx => ?_⟩
          rcases tk x hx with q | q
          · exact hno x q
          · rw [q]
            intro _ _ out' back' wo' wb'
            rw [← wo.det wo', ← wb.det wb']
            exact nz
      · refine ⟨_, _, rfl, ex'.trans e5, e5 _ _ hf', fun x hx => ?_⟩
        rcases tk x hx with q | q
        · exact hno x q
        · rw [q]
          intro n1 n2
          exfalso
          rw [hse, lz] at n1
          rw [lz2] at n2
          have a1 : ¬ z = ((e : Nat) : Int) := fun q => n1 (by rw [q])
          have a2 : ¬ z2 = ((mate e : Nat) : Int) := fun q => n2 (by rw [q])
          rw [decide_eq_false a1, decide_eq_false a2] at hb
          cases hb
    · subst es
      rw [List.take_length] at hno
      refine ⟨_, _, _, rfl, ex', hf', fun j q hj hq2 r' hr' e he => ?_⟩
      by_cases hji : j < i
      · exact zero j q hji hq2 r' hr' e he
      · have ej : j = i := by omega
        rw [ej, hq] at hq2
        rw [← Option.some.inj hq2] at hr'
        have hr2 : D[p]? = some r' := hr'
        rw [hr] at hr2
        rw [← Option.some.inj hr2] at he
        exact hno e he
  · exfalso
    obtain ⟨N, hN⟩ := fill_tree ok tr clo wk (fun x hx => by rw [hw0] at hx; rw [← Option.some.inj hx]) fun e out back he hk n1 n2 wo wb => by
      obtain ⟨q, hq, eq⟩ := List.mem_map.mp hk
      obtain ⟨j, hj⟩ := List.mem_iff_getElem?.mp hq
      obtain ⟨r, h1, h2⟩ := ok.row he
      exact zero j q (List.getElem?_eq_some_iff.mp hj).1 hj r (by rw [eq]; exact h1) e h2 n1 n2 out back wo wb
    exact nof N hN
/-! ### fill_of -/
/-- what fill_of tells -/
structure Filled1 (D : Dw) (m : Nat) (W : List Nat) (H2 : Hp) (t p : Addr) (ns : List Int) : Prop where
  ok : Filled D m W (lands D m) ns
  lst : H2 p = some (.lst (zi ns))
  tup : H2 t = some (.tup [.str "filled", .ref p])
structure Crossed1 (D : Dw) (m : Nat) (W : List Nat) (H2 : Hp) (t p : Addr) (U : List Nat) : Prop where
  turn : Turn D m U
  nz : cross (LF D m W) U ≠ 0
  lst : H2 p = some (.lst (ni U))
  tup : H2 t = some (.tup [.str "crossed", .ref p])
def sp_fill_of (K : PySem.W.Frag) : Sp := fun vs H Q E => ∃ d D m w W, vs = [.ref d, .ref w] ∧ Dr H d D m ∧ SqL K H w (zi W) ∧ W.length ≤ 40000 ∧
  (isWalkB D m W = false → ∀ H2, Ex H H2 → E (.ref (He.ga K "NoWalk")) none H2) ∧
  (isWalkB D m W = true → (∀ ns t p H2, H p = none → Ex H H2 → Filled1 D m (nats W) H2 t p ns → Q (.ref t) H2) ∧ ∀ U t p H2, H p = none → Ex H H2 → Crossed1 D m (nats W) H2 t p U → Q (.ref t) H2)
/-- f(..) dropped, and [str, f(..)] given back, told by f's promise as it stands -/
theorem q_dropCallS {sp : Sp} {E : L2.St → XK} {ta : TA} {σ : L2.St} {H : Hp} {vs : List V} {tz : TS} {D : Ends} (ha : EvA ta σ H vs) (k : ∀ H1, Ex H H1 → sp vs H1 (fun _ H2 => tz D σ H2) (E σ)) : tSeq (tDrop (tCallS sp E ta)) tz D σ H := by
  show ta σ H (fun vs H1 => sp vs H1 (fun _ H2 => tz D σ H2) (E σ))
  exact ha H (Ex.refl H) _ fun H1 e => k H1 e
theorem s_retPair {sp : Sp} {E : XK} {ta : TA} {σ : L2.St} {H : Hp} {vs : List V} {x : Str} {D : Ends} (ha : EvA ta σ H vs) (k : ∀ H1, Ex H H1 → sp vs H1 (fun y H2 => ∀ p, H2 p = none → D.rt (.ref p) (upd H2 p (.tup [.str x, y]))) E) (mono : ∀ vs H1 (Q R : VK) E, (∀ y H2, Q y H2 → R y H2) → sp vs H1 Q E → sp vs H1 R E) :
    tRet (tTup (tCons (tC (.str x)) (tCons (tCall sp [] E ta) tNil))) D σ H := by
  show ta σ H (fun vs H1 => sp (vs ++ []) H1 (fun y H2 => _) E)
  refine ha H (Ex.refl H) _ fun H1 e => ?_
  rw [List.append_nil]
  refine mono _ _ _ _ _ (fun y H2 q => ?_) (k H1 e)
  exact ⟨Nat.le_trans (show 2 ≤ 100000 by omega) (by unfold sizeLine; omega), q⟩
theorem pure_fill_of (K : PySem.W.Frag) (vs : List V) (H : Hp) (Q : VK) (E : XK) (h : sp_fill_of K vs H Q E) : t_fill_of K (sp_ask_walk K) (sp_filling K) (sp_crosser K) E { nx := fun _ H' => Q .non H', rt := Q } (start nm_fill_of vs) H := by
  obtain ⟨d, D, m, w, W, rfl, dr, hw, hz, k1, k2⟩ := h
  have ha : ∀ {y : Option V} (H1 : Hp), EvA (tCons (tVar 0) (tCons (tVar 1) tNil)) [some (.ref d), some (.ref w), y] H1 [.ref d, .ref w] := fun H1 => ea_cons (ev_var rfl) (ea_cons (ev_var rfl) ea_nil)
  refine q_dropCallS (ha (y := none) H) fun H1 e1 => ?_
  refine ⟨d, D, m, w, W, rfl, dr.mono e1, ex_l e1 hw, fun hwk H2 e2 => ?_, fun hwk H2 e2 => k1 hwk H2 (e1.trans e2)⟩
  obtain ⟨k3, k4⟩ := k2 hwk
  obtain ⟨wk, eW⟩ := isWalk_nat hwk
  have x2 : Ex H H2 := e1.trans e2
  have hwn : SqL K H2 w (ni (nats W)) := by
    rw [ni_zi]
    show SqL K H2 w (zi (zOf (nats W)))
    rw [← eW]
    exact ex_l x2 hw
  show tSeq (tAsg (tCall (sp_filling K) [] E0 (tCons (tVar 0) (tCons (tVar 1) tNil))) (gName 2)) _ _ [some (.ref d), some (.ref w), none] H2
  refine q_asgCall (ha (y := none) H2) fun H3 e3 => ?_
  refine ⟨d, D, m, w, nats W, rfl, dr.mono (x2.trans e3), ex_l e3 hwn, wk.lt, fun nof H4 e4 => ?_, fun ns hns p H4 hp0 e4 hp => ?_⟩
  · show tSeq _ _ _ [some (.ref d), some (.ref w), some .non] H4
    refine q_when (b := true) (et_test (ev_isN (x := .non) (ev_var rfl))) (fun _ H5 e5 => ?_) (fun hb => by cases hb)
    have x5 := x2.trans (e3.trans (e4.trans e5))
    refine s_retPair (ha (y := some .non) H5) (fun H6 e6 => ?_) fun vs H1 Q R E hm ⟨d, D, m, w, W, h1, h2, h3, h4, h5, h6, h7⟩ => ⟨d, D, m, w, W, h1, h2, h3, h4, h5, h6, fun U tn l nz => fun p H2 a b c => hm _ _ (h7 U tn l nz p H2 a b c)⟩
    refine ⟨d, D, m, w, nats W, rfl, dr.mono (x5.trans e6), ex_l (e3.trans (e4.trans (e5.trans e6))) hwn, by rw [nats_length]; omega, wk, nof, fun U tn _ nz p H7 hp0 e7 hp => ?_⟩
    intro t ht
    have npt : p ≠ t := fun z => by rw [z, ht] at hp; cases hp
    refine k4 U t p _ (fresh_back (x5.trans e6) hp0) ((x5.trans (e6.trans e7)).trans (Ex.new ht)) ⟨tn, nz, ?_, upd_same⟩
    rw [upd_ne npt]
    exact hp
  · show tSeq _ _ _ [some (.ref d), some (.ref w), some (.ref p)] H4
    refine q_when (b := false) (et_test (ev_isN (x := .ref p) (ev_var rfl))) (fun hb => by cases hb) (fun _ H5 e5 => ?_)
    refine s_retU (eu_tup (ea_cons ev_c (ea_cons (ev_var rfl) ea_nil)) (by show 2 ≤ 100000; omega)) fun t H6 ht0 e6 ht => ?_
    exact k3 ns t p H6 (fresh_back (x2.trans e3) hp0) (x2.trans (e3.trans (e4.trans (e5.trans e6)))) ⟨hns, e6 _ _ (e5 _ _ hp), ht⟩
end RF

set_option Elab.async false
set_option linter.all false
set_option maxRecDepth 100000
set_option maxHeartbeats 4000000
namespace RF
open PySem PySem.Spec PyProof.Rows L2 Evl
/-! ### _law_cell -/
abbrev nm__law_cell : List Str := ["_law_script", "_law_k"]
theorem sc__law_cell : FnScope nm__law_cell ["_law_script", "_law_k"] (defScope (top 29)) := ⟨rfl, rfl, rfl, by decide +kernel, rfl, by decide +kernel, by decide +kernel⟩
def t__law_cell (K : PySem.W.Frag) : TS := (tSeq (tIfS (tTest (tOp rEq (tCB (rLenS K) (tCons (tVar 0) tNil)) (tC (.int 0)))) (tRet (tOp rPlus (tOp rTimes (tC (.int 48271)) (tVar 1)) (tC (.int 5)))) tNext)
  (tSeq (tIfS (tTest (tOp rLess (tVar 1) (tCB (rLenS K) (tCons (tVar 0) tNil)))) (tRet (tOp (rIxL K) (tVar 0) (tVar 1))) tNext)
  (tRet (tOp rPlus (tOp rTimes (tOp rModP (tOp (rIxL K) (tVar 0) (tOp rModP (tVar 1) (tCB (rLenS K) (tCons (tVar 0) tNil)))) (tC (.int 1000033))) (tC (.int 39373))) (tOp rTimes (tC (.int 7907)) (tVar 1))))))
theorem d__law_cell {P : Program} {w : World} {K : PySem.W.Frag} {mg : Str → Option Value} {base : Heap} (T : Txt K mg) 
  (f : Addr) (cdv : Value) (A : Around) (outer : List Env) (s : Shared) (H : Hp) (E : XK) (hr : Room 0 (A.deeper (envOfC "_law_cell" (defScope (top 29)) s.heap.objs.size f cdv))) :
  PSs (cxOf CX0 P w K mg base nm__law_cell "_law_cell" (defScope (top 29)) f cdv A outer s H E).nox (defBody (top 29)) (t__law_cell K) :=
  (pss_cons (ps_if (pt_cmpR op_eq (pe_callB call_lenLS (by rfl) T.z_len (by decide +kernel) (pa_cons (pv 0) pa_nil)) pe_int (nomark _)) (pss_one (ps_ret (pe_op op_add (pe_op op_mul pe_int (pv 1)) pe_int))) pss_nil)
  (pss_cons (ps_if (pt_cmpR op_lt (pv 1) (pe_callB call_lenLS (by rfl) T.z_len (by decide +kernel) (pa_cons (pv 0) pa_nil)) (nomark _)) (pss_one (ps_ret (pe_ix ix_list (pv 0) (pv 1) (fun _ _ => rfl)))) pss_nil)
  (pss_one (ps_ret (pe_op op_add (pe_op op_mul (pe_op op_mod (pe_ix ix_list (pv 0) (pe_op op_mod (pv 1) (pe_callB call_lenLS (by rfl) T.z_len (by decide +kernel) (pa_cons (pv 0) pa_nil))) (fun _ _ => rfl)) pe_int) pe_int) (pe_op op_mul pe_int (pv 1)))))))
theorem b__law_cell (kV doc pm : Value) (an : Option Addr) (cdv ct : Value) (us : List Value) (hl : us.length = (["_law_script", "_law_k"] : List Str).length) : bindArgs (PySem.W.fnOf "_law_cell" "_law_cell" (defArgs (top 29)) (defBody (top 29)) (defScope (top 29)) .none kV doc pm an cdv ct) ⟨us, []⟩ = pure ((["_law_script", "_law_k"] : List Str).zip us) :=
  match us, hl with | [_, _], _ => rfl
/-! ### _law_draws -/
abbrev nm__law_draws : List Str := ["_law_cell_here", "_law_sizes", "_law_rest", "_law_found", "_law_k", "_law_size", "_law_mixed"]
theorem sc__law_draws : FnScope nm__law_draws ["_law_cell_here", "_law_sizes"] (defScope (top 30)) := ⟨rfl, rfl, rfl, by decide +kernel, rfl, by decide +kernel, by decide +kernel⟩
def t__law_draws (K : PySem.W.Frag) : TS := (tSeq (tAsg (tC (.int 0)) (gName 2))
  (tSeq (tIfS (tTest (tOp rAtLeast (tVar 0) (tOp rPowP (tC (.int 10)) (tC (.int 18))))) (tAsg (tVar 0) (gName 2)) tNext)
  (tSeq (tAsg (tLst tNil) (gName 3))
  (tSeq (tFor (iEnum K (tCons (tVar 1) tNil)) (gTup K 2 (gCons (gName 4) (gCons (gName 5) gNil))) (tIfS (tTest (tOp rMore (tVar 2) (tC (.int 0)))) (tSeq (tDrop (tBM K "list" rAppend (tVar 3) (tCons (tOp rModP (tVar 2) (tVar 5)) tNil)))
  (tAsg (tOp rDivP (tVar 2) (tVar 5)) (gName 2))) (tSeq (tAsg (tOp rModP (tOp rPowP (tOp rPlus (tOp rPlus (tOp rPlus (tOp rModP (tVar 0) (tC (.int 2147483647))) (tOp rTimes (tOp rTimes (tC (.int 1009)) (tVar 4)) (tVar 4))) (tOp rTimes (tC (.int 48611)) (tVar 4))) (tC (.int 17))) (tC (.int 5))) (tC (.int 2147483647))) (gName 6))
  (tDrop (tBM K "list" rAppend (tVar 3) (tCons (tOp rModP (tOp rModP (tOp rPlus (tOp rTimes (tVar 6) (tC (.int 48271))) (tOp rTimes (tC (.int 7919)) (tVar 4))) (tC (.int 1000000007))) (tVar 5)) tNil))))))
  (tRet (tVar 3))))))
theorem d__law_draws {P : Program} {w : World} {K : PySem.W.Frag} {mg : Str → Option Value} {base : Heap} (T : Txt K mg) 
  (f : Addr) (cdv : Value) (A : Around) (outer : List Env) (s : Shared) (H : Hp) (E : XK) (hr : Room 0 (A.deeper (envOfC "_law_draws" (defScope (top 30)) s.heap.objs.size f cdv))) :
  PSs (cxOf CX0 P w K mg base nm__law_draws "_law_draws" (defScope (top 30)) f cdv A outer s H E).nox (defBody (top 30)) (t__law_draws K) :=
  (pss_cons (ps_set (i := 2) sc__law_draws.nd rfl (Or.inl rfl) pe_int)
  (pss_cons (ps_if (pt_cmpR op_ge (pv 0) (pe_op op_pow pe_int pe_int) (nomark _)) (pss_one (ps_set (i := 2) sc__law_draws.nd rfl (Or.inl rfl) (pv 0))) pss_nil)
  (pss_cons (ps_set (i := 3) sc__law_draws.nd rfl (Or.inl rfl) (pe_lst pa_nil))
  (pss_cons (ps_for PassesOwn.never rfl (pi_enum (by rfl) T.z_enumerate (pa_cons (pv 1) pa_nil)) (pg_tup rfl (pgs_cons (pg_name (i := 4) sc__law_draws.nd rfl (Or.inl rfl)) (pgs_cons (pg_name (i := 5) sc__law_draws.nd rfl (Or.inl rfl)) pgs_nil))) (pss_one (ps_if (pt_cmpR op_gt (pv 2) pe_int (nomark _)) (pss_cons (ps_expr (pe_bm PySem.F.plainAttrs_list PySem.F.slot_list_append PySem.F.type_list_append mt_append (pv 3) (pa_cons (pe_op op_mod (pv 2) (pv 5)) pa_nil)))
  (pss_one (ps_set (i := 2) sc__law_draws.nd rfl (Or.inl rfl) (pe_op op_fdiv (pv 2) (pv 5))))) (pss_cons (ps_set (i := 6) sc__law_draws.nd rfl (Or.inl rfl) (pe_op op_mod (pe_op op_pow (pe_op op_add (pe_op op_add (pe_op op_add (pe_op op_mod (pv 0) pe_int) (pe_op op_mul (pe_op op_mul pe_int (pv 4)) (pv 4))) (pe_op op_mul pe_int (pv 4))) pe_int) pe_int) pe_int))
  (pss_one (ps_expr (pe_bm PySem.F.plainAttrs_list PySem.F.slot_list_append PySem.F.type_list_append mt_append (pv 3) (pa_cons (pe_op op_mod (pe_op op_mod (pe_op op_add (pe_op op_mul (pv 6) pe_int) (pe_op op_mul pe_int (pv 4))) pe_int) (pv 5)) pa_nil))))))))
  (pss_one (ps_ret (pv 3)))))))
theorem b__law_draws (kV doc pm : Value) (an : Option Addr) (cdv ct : Value) (us : List Value) (hl : us.length = (["_law_cell_here", "_law_sizes"] : List Str).length) : bindArgs (PySem.W.fnOf "_law_draws" "_law_draws" (defArgs (top 30)) (defBody (top 30)) (defScope (top 30)) .none kV doc pm an cdv ct) ⟨us, []⟩ = pure ((["_law_cell_here", "_law_sizes"] : List Str).zip us) :=
  match us, hl with | [_, _], _ => rfl
/-! ### _law_mate -/
abbrev nm__law_mate : List Str := ["_law_end"]
theorem sc__law_mate : FnScope nm__law_mate ["_law_end"] (defScope (top 31)) := ⟨rfl, rfl, rfl, by decide +kernel, rfl, by decide +kernel, by decide +kernel⟩
def t__law_mate (K : PySem.W.Frag) : TS := (tRet (tOp rMinus (tOp rPlus (tVar 0) (tC (.int 1))) (tOp rTimes (tC (.int 2)) (tOp rModP (tVar 0) (tC (.int 2))))))
theorem d__law_mate {P : Program} {w : World} {K : PySem.W.Frag} {mg : Str → Option Value} {base : Heap} (T : Txt K mg) 
  (f : Addr) (cdv : Value) (A : Around) (outer : List Env) (s : Shared) (H : Hp) (E : XK) (hr : Room 0 (A.deeper (envOfC "_law_mate" (defScope (top 31)) s.heap.objs.size f cdv))) :
  PSs (cxOf CX0 P w K mg base nm__law_mate "_law_mate" (defScope (top 31)) f cdv A outer s H E).nox (defBody (top 31)) (t__law_mate K) :=
  (pss_one (ps_ret (pe_op op_sub (pe_op op_add (pv 0) pe_int) (pe_op op_mul pe_int (pe_op op_mod (pv 0) pe_int)))))
theorem b__law_mate (kV doc pm : Value) (an : Option Addr) (cdv ct : Value) (us : List Value) (hl : us.length = (["_law_end"] : List Str).length) : bindArgs (PySem.W.fnOf "_law_mate" "_law_mate" (defArgs (top 31)) (defBody (top 31)) (defScope (top 31)) .none kV doc pm an cdv ct) ⟨us, []⟩ = pure ((["_law_end"] : List Str).zip us) :=
  match us, hl with | [_], _ => rfl
/-! ### _law_settled -/
abbrev nm__law_settled : List Str := ["_law_rows", "_law_found", "_law_row", "_law_at"]
theorem sc__law_settled : FnScope nm__law_settled ["_law_rows"] (defScope (top 32)) := ⟨rfl, rfl, rfl, by decide +kernel, rfl, by decide +kernel, by decide +kernel⟩
def t__law_settled (K : PySem.W.Frag) : TS := (tSeq (tAsg (tLst tNil) (gName 1))
  (tSeq (tFor (iList K (tVar 0)) (gName 2) (tSeq (tAsg (tC (.int 0)) (gName 3))
  (tSeq (tIfS (tTest (tOp rMore (tCB (rLenS K) (tCons (tVar 2) tNil)) (tC (.int 0)))) (tAsg (tBM K "list" (rIndex K) (tVar 2) (tCons (tCB (rMin K) (tCons (tVar 2) tNil)) tNil)) (gName 3)) tNext)
  (tDrop (tBM K "list" rAppend (tVar 1) (tCons (tOp rCat (tSl (rSlL K) (tVar 2) (tPart (tVar 3)) tNoPart) (tSl (rSlL K) (tVar 2) tNoPart (tPart (tVar 3)))) tNil))))))
  (tRet (tVar 1))))
theorem d__law_settled {P : Program} {w : World} {K : PySem.W.Frag} {mg : Str → Option Value} {base : Heap} (T : Txt K mg) 
  (f : Addr) (cdv : Value) (A : Around) (outer : List Env) (s : Shared) (H : Hp) (E : XK) (hr : Room 0 (A.deeper (envOfC "_law_settled" (defScope (top 32)) s.heap.objs.size f cdv))) :
  PSs (cxOf CX0 P w K mg base nm__law_settled "_law_settled" (defScope (top 32)) f cdv A outer s H E).nox (defBody (top 32)) (t__law_settled K) :=
  (pss_cons (ps_set (i := 1) sc__law_settled.nd rfl (Or.inl rfl) (pe_lst pa_nil))
  (pss_cons (ps_for PassesOwn.never rfl (pi_list (pv 0)) (pg_name (i := 2) sc__law_settled.nd rfl (Or.inl rfl)) (pss_cons (ps_set (i := 3) sc__law_settled.nd rfl (Or.inl rfl) pe_int)
  (pss_cons (ps_if (pt_cmpR op_gt (pe_callB call_lenLS (by rfl) T.z_len (by decide +kernel) (pa_cons (pv 2) pa_nil)) pe_int (nomark _)) (pss_one (ps_set (i := 3) sc__law_settled.nd rfl (Or.inl rfl) (pe_bm PySem.F.plainAttrs_list PySem.F.slot_list_index PySem.F.type_list_index mt_index (pv 2) (pa_cons (pe_callB (cr_min rfl) (by rfl) T.z_min (by decide +kernel) (pa_cons (pv 2) pa_nil)) pa_nil)))) pss_nil)
  (pss_one (ps_expr (pe_bm PySem.F.plainAttrs_list PySem.F.slot_list_append PySem.F.type_list_append mt_append (pv 1) (pa_cons (pe_op op_cat (pe_slice sl_list (pv 2) (po_some (pv 3)) po_none) (pe_slice sl_list (pv 2) po_none (po_some (pv 3)))) pa_nil)))))))
  (pss_one (ps_ret (pv 1)))))
theorem b__law_settled (kV doc pm : Value) (an : Option Addr) (cdv ct : Value) (us : List Value) (hl : us.length = (["_law_rows"] : List Str).length) : bindArgs (PySem.W.fnOf "_law_settled" "_law_settled" (defArgs (top 32)) (defBody (top 32)) (defScope (top 32)) .none kV doc pm an cdv ct) ⟨us, []⟩ = pure ((["_law_rows"] : List Str).zip us) :=
  match us, hl with | [_], _ => rfl
/-! ### _law_drawing -/
abbrev nm__law_drawing : List Str := ["_law_script", "_law_base", "_law_most", "_law_ties", "_law_thin", "_law_bare", "_law_one", "_law_two", "_law_picks", "_law_cuts", "_law_left", "_law_rows", "_law_k", "_law_at"]
theorem sc__law_drawing : FnScope nm__law_drawing ["_law_script", "_law_base", "_law_most"] (defScope (top 33)) := ⟨rfl, rfl, rfl, by decide +kernel, rfl, by decide +kernel, by decide +kernel⟩
def t__law_drawing (K : PySem.W.Frag) (sp__law_cell : Sp) (sp__law_draws : Sp) (sp__law_settled : Sp) : TS := (tSeq (tAsg (tCall sp__law_draws [] E0 (tCons (tCall sp__law_cell [] E0 (tCons (tVar 0) (tCons (tVar 1) tNil))) (tCons (tLst (tCons (tOp rPlus (tVar 2) (tC (.int 1))) (tCons (tC (.int 4)) (tCons (tC (.int 4)) (tCons (tC (.int 60)) (tCons (tC (.int 60)) tNil)))))) tNil))) (gLst K 5 (gCons (gName 3) (gCons (gName 4) (gCons (gName 5) (gCons (gName 6) (gCons (gName 7) gNil)))))))
  (tSeq (tAsg (tCall sp__law_draws [] E0 (tCons (tCall sp__law_cell [] E0 (tCons (tVar 0) (tCons (tOp rPlus (tVar 1) (tC (.int 1))) tNil))) (tCons (tLc (iRng1 (tCons (tOp rTimes (tC (.int 2)) (tVar 3)) tNil)) (gName 12) tYes (tOp rMinus (tOp rTimes (tC (.int 2)) (tVar 3)) (tVar 12)) [12]) tNil))) (gName 8))
  (tSeq (tAsg (tCall sp__law_draws [] E0 (tCons (tCall sp__law_cell [] E0 (tCons (tVar 0) (tCons (tOp rPlus (tVar 1) (tC (.int 2))) tNil))) (tCons (tOp rRep (tLst (tCons (tOp (rIxL K) (tLst (tCons (tC (.int 2)) (tCons (tC (.int 3)) (tCons (tC (.int 5)) (tCons (tC (.int 40)) tNil))))) (tVar 4)) tNil)) (tOp rTimes (tC (.int 2)) (tVar 3))) tNil))) (gName 9))
  (tSeq (tAsg (tLstRg (tRg1 (tOp rTimes (tC (.int 2)) (tVar 3)))) (gName 10))
  (tSeq (tAsg (tLst tNil) (gName 11))
  (tSeq (tFor (iRng1 (tCons (tOp rTimes (tC (.int 2)) (tVar 3)) tNil)) (gName 12) (tSeq (tIfS (tOr (tTest (tOp rEq (tOp (rIxL K) (tVar 9) (tVar 12)) (tC (.int 0)))) (tTest (tOp rEq (tCB (rLenS K) (tCons (tVar 11) tNil)) (tC (.int 0))))) (tDrop (tBM K "list" rAppend (tVar 11) (tCons (tLst tNil) tNil))) tNext)
  (tDrop (tBM K "list" rAppend (tOp (rIxL K) (tVar 11) (tUn rNegI (tC (.int 1)))) (tCons (tBM K "list" rPopAt (tVar 10) (tCons (tOp (rIxL K) (tVar 8) (tVar 12)) tNil)) tNil)))))
  (tSeq (tFor (iList K (tSl (rSlL K) (tLst (tCons (tVar 6) (tCons (tVar 7) tNil))) tNoPart (tPart (tCB rMax2 (tCons (tC (.int 0)) (tCons (tOp rMinus (tVar 5) (tC (.int 1))) tNil)))))) (gName 13) (tDrop (tBM K "list" rInsertL (tVar 11) (tCons (tOp rModP (tVar 13) (tOp rPlus (tCB (rLenS K) (tCons (tVar 11) tNil)) (tC (.int 1)))) (tCons (tLst tNil) tNil)))))
  (tRet (tCall sp__law_settled [] E0 (tCons (tVar 11) tNil))))))))))
theorem d__law_drawing {P : Program} {w : World} {K : PySem.W.Frag} {mg : Str → Option Value} {base : Heap} (T : Txt K mg) (sp__law_cell : Sp) (sp__law_draws : Sp) (sp__law_settled : Sp) (G__law_cell : Keeps P w K mg base CX0 "_law_cell" 1 ["_law_script", "_law_k"] sp__law_cell) (G__law_draws : Keeps P w K mg base CX0 "_law_draws" 1 ["_law_cell_here", "_law_sizes"] sp__law_draws) (G__law_settled : Keeps P w K mg base CX0 "_law_settled" 1 ["_law_rows"] sp__law_settled)
  (f : Addr) (cdv : Value) (A : Around) (outer : List Env) (s : Shared) (H : Hp) (E : XK) (hr : Room 1 (A.deeper (envOfC "_law_drawing" (defScope (top 33)) s.heap.objs.size f cdv))) :
  PSs (cxOf CX0 P w K mg base nm__law_drawing "_law_drawing" (defScope (top 33)) f cdv A outer s H E).nox (defBody (top 33)) (t__law_drawing K sp__law_cell sp__law_draws sp__law_settled) :=
  (pss_cons (ps_asg (pe_f G__law_draws (hr.mono (by decide)) (by rfl) (pa_cons (pe_f G__law_cell (hr.mono (by decide)) (by rfl) (pa_cons (pv 0) (pa_cons (pv 1) pa_nil))) (pa_cons (pe_lst (pa_cons (pe_op op_add (pv 2) pe_int) (pa_cons pe_int (pa_cons pe_int (pa_cons pe_int (pa_cons pe_int pa_nil)))))) pa_nil))) (pg_lst rfl (pgs_cons (pg_name (i := 3) sc__law_drawing.nd rfl (Or.inr rfl)) (pgs_cons (pg_name (i := 4) sc__law_drawing.nd rfl (Or.inl rfl)) (pgs_cons (pg_name (i := 5) sc__law_drawing.nd rfl (Or.inl rfl)) (pgs_cons (pg_name (i := 6) sc__law_drawing.nd rfl (Or.inl rfl)) (pgs_cons (pg_name (i := 7) sc__law_drawing.nd rfl (Or.inl rfl)) pgs_nil)))))))
  (pss_cons (ps_set (i := 8) sc__law_drawing.nd rfl (Or.inl rfl) (pe_f G__law_draws (hr.mono (by decide)) (by rfl) (pa_cons (pe_f G__law_cell (hr.mono (by decide)) (by rfl) (pa_cons (pv 0) (pa_cons (pe_op op_add (pv 1) pe_int) pa_nil))) (pa_cons (pe_lc (own := [("_law_k", 12)]) (g := gName 12) (tt := tYes) rfl sc__law_drawing.nd (pi_range1 (by rfl) T.z_range (pa_cons (pe_op op_mul pe_int (pv 3)) pa_nil)) (blkOk_by (N := nm__law_drawing) (sc := defScope (top 33)) (by decide +kernel)) (fun _ _ _ _ _ => (pg_name (i := 12) sc__law_drawing.nd rfl (Or.inl rfl))) (fun _ _ _ _ _ => pts_nil) (fun _ _ _ _ _ => (pe_op op_sub (pe_op op_mul pe_int (pv 3)) (pv 12)))) pa_nil))))
  (pss_cons (ps_set (i := 9) sc__law_drawing.nd rfl (Or.inl rfl) (pe_f G__law_draws (hr.mono (by decide)) (by rfl) (pa_cons (pe_f G__law_cell (hr.mono (by decide)) (by rfl) (pa_cons (pv 0) (pa_cons (pe_op op_add (pv 1) pe_int) pa_nil))) (pa_cons (pe_op op_rep (pe_lst (pa_cons (pe_ix ix_list (pe_lst (pa_cons pe_int (pa_cons pe_int (pa_cons pe_int (pa_cons pe_int pa_nil))))) (pv 4) (fun _ _ => rfl)) pa_nil)) (pe_op op_mul pe_int (pv 3))) pa_nil))))
  (pss_cons (ps_set (i := 10) sc__law_drawing.nd rfl (Or.inl rfl) (pe_listRg rfl (by rfl) T.z_list (prg_1 (by rfl) T.z_range (pe_op op_mul pe_int (pv 3)))))
  (pss_cons (ps_set (i := 11) sc__law_drawing.nd rfl (Or.inl rfl) (pe_lst pa_nil))
  (pss_cons (ps_for PassesOwn.never rfl (pi_range1 (by rfl) T.z_range (pa_cons (pe_op op_mul pe_int (pv 3)) pa_nil)) (pg_name (i := 12) sc__law_drawing.nd rfl (Or.inl rfl)) (pss_cons (ps_if (PW.pt (pw_or (pt_cmpR op_eq (pe_ix ix_list (pv 9) (pv 12) (fun _ _ => rfl)) pe_int (nomark _)) (pw_or1 (pt_cmpR op_eq (pe_callB call_lenLS (by rfl) T.z_len (by decide +kernel) (pa_cons (pv 11) pa_nil)) pe_int (nomark _))))) (pss_one (ps_expr (pe_bm PySem.F.plainAttrs_list PySem.F.slot_list_append PySem.F.type_list_append mt_append (pv 11) (pa_cons (pe_lst pa_nil) pa_nil)))) pss_nil)
  (pss_one (ps_expr (pe_bm PySem.F.plainAttrs_list PySem.F.slot_list_append PySem.F.type_list_append mt_append (pe_ix ix_list (pv 11) (pe_un un_neg pe_int) (fun _ _ => rfl)) (pa_cons (pe_bm PySem.F.plainAttrs_list PySem.F.slot_list_pop PySem.F.type_list_pop mt_popAt (pv 10) (pa_cons (pe_ix ix_list (pv 8) (pv 12) (fun _ _ => rfl)) pa_nil)) pa_nil))))))
  (pss_cons (ps_for PassesOwn.never rfl (pi_list (pe_slice sl_list (pe_lst (pa_cons (pv 6) (pa_cons (pv 7) pa_nil))) po_none (po_some (pe_callB (call_max2I rfl) (by rfl) T.z_max (by decide +kernel) (pa_cons pe_int (pa_cons (pe_op op_sub (pv 5) pe_int) pa_nil)))))) (pg_name (i := 13) sc__law_drawing.nd rfl (Or.inl rfl)) (pss_one (ps_expr (pe_bm PySem.F.plainAttrs_list PySem.F.slot_list_insert PySem.F.type_list_insert mt_insertL (pv 11) (pa_cons (pe_op op_mod (pv 13) (pe_op op_add (pe_callB call_lenLS (by rfl) T.z_len (by decide +kernel) (pa_cons (pv 11) pa_nil)) pe_int)) (pa_cons (pe_lst pa_nil) pa_nil))))))
  (pss_one (ps_ret (pe_f G__law_settled (hr.mono (by decide)) (by rfl) (pa_cons (pv 11) pa_nil)))))))))))
theorem b__law_drawing (kV doc pm : Value) (an : Option Addr) (cdv ct : Value) (us : List Value) (hl : us.length = (["_law_script", "_law_base", "_law_most"] : List Str).length) : bindArgs (PySem.W.fnOf "_law_drawing" "_law_drawing" (defArgs (top 33)) (defBody (top 33)) (defScope (top 33)) .none kV doc pm an cdv ct) ⟨us, []⟩ = pure ((["_law_script", "_law_base", "_law_most"] : List Str).zip us) :=
  match us, hl with | [_, _, _], _ => rfl
/-! ### _law_seats -/
abbrev nm__law_seats : List Str := ["_law_drawing_here", "_law_seats_here", "_law_place", "_law_end"]
theorem sc__law_seats : FnScope nm__law_seats ["_law_drawing_here"] (defScope (top 34)) := ⟨rfl, rfl, rfl, by decide +kernel, rfl, by decide +kernel, by decide +kernel⟩
def t__law_seats (K : PySem.W.Frag) : TS := (tSeq (tAsg tDNewK (gName 1))
  (tSeq (tFor (iRng1 (tCons (tCB (rLenS K) (tCons (tVar 0) tNil)) tNil)) (gName 2) (tFor (iList K (tOp (rIxL K) (tVar 0) (tVar 2))) (gName 3) (sDPut (tVar 1) (tVar 3) (tVar 2))))
  (tRet (tVar 1))))
theorem d__law_seats {P : Program} {w : World} {K : PySem.W.Frag} {mg : Str → Option Value} {base : Heap} (T : Txt K mg) 
  (f : Addr) (cdv : Value) (A : Around) (outer : List Env) (s : Shared) (H : Hp) (E : XK) (hr : Room 0 (A.deeper (envOfC "_law_seats" (defScope (top 34)) s.heap.objs.size f cdv))) :
  PSs (cxOf CX0 P w K mg base nm__law_seats "_law_seats" (defScope (top 34)) f cdv A outer s H E).nox (defBody (top 34)) (t__law_seats K) :=
  (pss_cons (ps_set (i := 1) sc__law_seats.nd rfl (Or.inl rfl) pe_dnewK)
  (pss_cons (ps_for PassesOwn.never rfl (pi_range1 (by rfl) T.z_range (pa_cons (pe_callB call_lenLS (by rfl) T.z_len (by decide +kernel) (pa_cons (pv 0) pa_nil)) pa_nil)) (pg_name (i := 2) sc__law_seats.nd rfl (Or.inl rfl)) (pss_one (ps_for PassesOwn.never rfl (pi_list (pe_ix ix_list (pv 0) (pv 2) (fun _ _ => rfl))) (pg_name (i := 3) sc__law_seats.nd rfl (Or.inl rfl)) (pss_one (ps_dput (hu_of hr) (pv 1) (pv 3) (pv 2) rfl)))))
  (pss_one (ps_ret (pv 1)))))
theorem b__law_seats (kV doc pm : Value) (an : Option Addr) (cdv ct : Value) (us : List Value) (hl : us.length = (["_law_drawing_here"] : List Str).length) : bindArgs (PySem.W.fnOf "_law_seats" "_law_seats" (defArgs (top 34)) (defBody (top 34)) (defScope (top 34)) .none kV doc pm an cdv ct) ⟨us, []⟩ = pure ((["_law_drawing_here"] : List Str).zip us) :=
  match us, hl with | [_], _ => rfl
/-! ### _law_behind -/
abbrev nm__law_behind : List Str := ["_law_drawing_here", "_law_behind_here", "_law_row", "_law_k"]
theorem sc__law_behind : FnScope nm__law_behind ["_law_drawing_here"] (defScope (top 35)) := ⟨rfl, rfl, rfl, by decide +kernel, rfl, by decide +kernel, by decide +kernel⟩
def t__law_behind (K : PySem.W.Frag) : TS := (tSeq (tAsg tDNewK (gName 1))
  (tSeq (tFor (iList K (tVar 0)) (gName 2) (tFor (iRng1 (tCons (tCB (rLenS K) (tCons (tVar 2) tNil)) tNil)) (gName 3) (sDPut (tVar 1) (tOp (rIxL K) (tVar 2) (tVar 3)) (tOp (rIxL K) (tVar 2) (tOp rModP (tOp rPlus (tVar 3) (tC (.int 1))) (tCB (rLenS K) (tCons (tVar 2) tNil)))))))
  (tRet (tVar 1))))
theorem d__law_behind {P : Program} {w : World} {K : PySem.W.Frag} {mg : Str → Option Value} {base : Heap} (T : Txt K mg) 
  (f : Addr) (cdv : Value) (A : Around) (outer : List Env) (s : Shared) (H : Hp) (E : XK) (hr : Room 0 (A.deeper (envOfC "_law_behind" (defScope (top 35)) s.heap.objs.size f cdv))) :
  PSs (cxOf CX0 P w K mg base nm__law_behind "_law_behind" (defScope (top 35)) f cdv A outer s H E).nox (defBody (top 35)) (t__law_behind K) :=
  (pss_cons (ps_set (i := 1) sc__law_behind.nd rfl (Or.inl rfl) pe_dnewK)
  (pss_cons (ps_for PassesOwn.never rfl (pi_list (pv 0)) (pg_name (i := 2) sc__law_behind.nd rfl (Or.inl rfl)) (pss_one (ps_for PassesOwn.never rfl (pi_range1 (by rfl) T.z_range (pa_cons (pe_callB call_lenLS (by rfl) T.z_len (by decide +kernel) (pa_cons (pv 2) pa_nil)) pa_nil)) (pg_name (i := 3) sc__law_behind.nd rfl (Or.inl rfl)) (pss_one (ps_dput (hu_of hr) (pv 1) (pe_ix ix_list (pv 2) (pv 3) (fun _ _ => rfl)) (pe_ix ix_list (pv 2) (pe_op op_mod (pe_op op_add (pv 3) pe_int) (pe_callB call_lenLS (by rfl) T.z_len (by decide +kernel) (pa_cons (pv 2) pa_nil))) (fun _ _ => rfl)) rfl)))))
  (pss_one (ps_ret (pv 1)))))
theorem b__law_behind (kV doc pm : Value) (an : Option Addr) (cdv ct : Value) (us : List Value) (hl : us.length = (["_law_drawing_here"] : List Str).length) : bindArgs (PySem.W.fnOf "_law_behind" "_law_behind" (defArgs (top 35)) (defBody (top 35)) (defScope (top 35)) .none kV doc pm an cdv ct) ⟨us, []⟩ = pure ((["_law_drawing_here"] : List Str).zip us) :=
  match us, hl with | [_], _ => rfl
/-! ### _law_lands -/
abbrev nm__law_lands : List Str := ["_law_drawing_here", "_law_behind_here", "_law_seen", "_law_lands_here", "_law_start", "_law_land", "_law_end", "_law_row"]
theorem sc__law_lands : FnScope nm__law_lands ["_law_drawing_here"] (defScope (top 36)) := ⟨rfl, rfl, rfl, by decide +kernel, rfl, by decide +kernel, by decide +kernel⟩
def t__law_lands (K : PySem.W.Frag) (sp__law_mate : Sp) (sp__law_behind : Sp) : TS := (tSeq (tAsg (tCall sp__law_behind [] E0 (tCons (tVar 0) tNil)) (gName 1))
  (tSeq (tAsg tDNewK (gName 2))
  (tSeq (tAsg (tLst tNil) (gName 3))
  (tSeq (tFor (iRng1 (tCons (tCB rLenDK (tCons (tVar 1) tNil)) tNil)) (gName 4) (tSeq (tAsg (tLst tNil) (gName 5))
  (tSeq (tAsg (tVar 4) (gName 6))
  (tSeq (tWhile (tB (tDNotIn (tVar 6) (tVar 2))) (tSeq (sDPut (tVar 2) (tVar 6) (tC (.bl true)))
  (tSeq (tDrop (tBM K "list" rAppend (tVar 5) (tCons (tVar 6) tNil)))
  (tAsg (tDGet (tVar 1) (tCall sp__law_mate [] E0 (tCons (tVar 6) tNil))) (gName 6)))))
  (tIfS (tTest (tOp rMore (tCB (rLenS K) (tCons (tVar 5) tNil)) (tC (.int 0)))) (tDrop (tBM K "list" rAppend (tVar 3) (tCons (tVar 5) tNil))) tNext)))))
  (tRet (tOp rCat (tVar 3) (tLc (iList K (tVar 0)) (gName 7) (tTest (tOp rEq (tCB (rLenS K) (tCons (tVar 7) tNil)) (tC (.int 0)))) (tLst tNil) [7])))))))
theorem d__law_lands {P : Program} {w : World} {K : PySem.W.Frag} {mg : Str → Option Value} {base : Heap} (T : Txt K mg) (sp__law_mate : Sp) (sp__law_behind : Sp) (G__law_mate : Keeps P w K mg base CX0 "_law_mate" 1 ["_law_end"] sp__law_mate) (G__law_behind : Keeps P w K mg base CX0 "_law_behind" 1 ["_law_drawing_here"] sp__law_behind)
  (f : Addr) (cdv : Value) (A : Around) (outer : List Env) (s : Shared) (H : Hp) (E : XK) (hr : Room 1 (A.deeper (envOfC "_law_lands" (defScope (top 36)) s.heap.objs.size f cdv))) :
  PSs (cxOf CX0 P w K mg base nm__law_lands "_law_lands" (defScope (top 36)) f cdv A outer s H E).nox (defBody (top 36)) (t__law_lands K sp__law_mate sp__law_behind) :=
  (pss_cons (ps_set (i := 1) sc__law_lands.nd rfl (Or.inl rfl) (pe_f G__law_behind (hr.mono (by decide)) (by rfl) (pa_cons (pv 0) pa_nil)))
  (pss_cons (ps_set (i := 2) sc__law_lands.nd rfl (Or.inl rfl) pe_dnewK)
  (pss_cons (ps_set (i := 3) sc__law_lands.nd rfl (Or.inl rfl) (pe_lst pa_nil))
  (pss_cons (ps_for PassesOwn.never rfl (pi_range1 (by rfl) T.z_range (pa_cons (pe_callB call_lenDK (by rfl) T.z_len (by decide +kernel) (pa_cons (pv 1) pa_nil)) pa_nil)) (pg_name (i := 4) sc__law_lands.nd rfl (Or.inl rfl)) (pss_cons (ps_set (i := 5) sc__law_lands.nd rfl (Or.inl rfl) (pe_lst pa_nil))
  (pss_cons (ps_set (i := 6) sc__law_lands.nd rfl (Or.inl rfl) (pv 4))
  (pss_cons (ps_while PassesOwn.never (pt_cmp (pc_dnotin (hu_of hr) (pv 6) (pv 2)) rfl) (pss_cons (ps_dput (hu_of hr) (pv 2) (pv 6) pe_bl rfl)
  (pss_cons (ps_expr (pe_bm PySem.F.plainAttrs_list PySem.F.slot_list_append PySem.F.type_list_append mt_append (pv 5) (pa_cons (pv 6) pa_nil)))
  (pss_one (ps_set (i := 6) sc__law_lands.nd rfl (Or.inl rfl) (pe_dget (hu_of hr) (pv 1) (pe_f G__law_mate (hr.mono (by decide)) (by rfl) (pa_cons (pv 6) pa_nil)) (fun _ _ => rfl)))))))
  (pss_one (ps_if (pt_cmpR op_gt (pe_callB call_lenLS (by rfl) T.z_len (by decide +kernel) (pa_cons (pv 5) pa_nil)) pe_int (nomark _)) (pss_one (ps_expr (pe_bm PySem.F.plainAttrs_list PySem.F.slot_list_append PySem.F.type_list_append mt_append (pv 3) (pa_cons (pv 5) pa_nil)))) pss_nil))))))
  (pss_one (ps_ret (pe_op op_cat (pv 3) (pe_lc (own := [("_law_row", 7)]) (g := gName 7) (tt := (tTest (tOp rEq (tCB (rLenS K) (tCons (tVar 7) tNil)) (tC (.int 0))))) rfl sc__law_lands.nd (pi_list (pv 0)) (blkOk_by (N := nm__law_lands) (sc := defScope (top 36)) (by decide +kernel)) (fun _ _ _ _ _ => (pg_name (i := 7) sc__law_lands.nd rfl (Or.inl rfl))) (fun _ _ _ _ _ => (pts_one (pt_cmpR op_eq (pe_callB call_lenLS (by rfl) T.z_len (by decide +kernel) (pa_cons (pv 7) pa_nil)) pe_int (nomark _)))) (fun _ _ _ _ _ => (pe_lst pa_nil))))))))))
theorem b__law_lands (kV doc pm : Value) (an : Option Addr) (cdv ct : Value) (us : List Value) (hl : us.length = (["_law_drawing_here"] : List Str).length) : bindArgs (PySem.W.fnOf "_law_lands" "_law_lands" (defArgs (top 36)) (defBody (top 36)) (defScope (top 36)) .none kV doc pm an cdv ct) ⟨us, []⟩ = pure ((["_law_drawing_here"] : List Str).zip us) :=
  match us, hl with | [_], _ => rfl
/-! ### _law_tied -/
abbrev nm__law_tied : List Str := ["_law_rows", "_law_tie", "_law_one", "_law_two", "_law_high", "_law_lands_here", "_law_home_here", "_law_number", "_law_end", "_law_first", "_law_ends", "_law_second", "_law_name", "_law_row"]
theorem sc__law_tied : FnScope nm__law_tied ["_law_rows", "_law_tie", "_law_one", "_law_two", "_law_high"] (defScope (top 37)) := ⟨rfl, rfl, rfl, by decide +kernel, rfl, by decide +kernel, by decide +kernel⟩
def t__law_tied (K : PySem.W.Frag) (sp__law_lands : Sp) : TS := (tSeq (tIfS (tTest (tOp rEq (tVar 1) (tC (.int 0)))) (tSeq (tDrop (tBM K "list" rExtend (tOp (rIxL K) (tVar 0) (tC (.int 0))) (tCons (tLst (tCons (tC (.int 0)) (tCons (tC (.int 1)) tNil))) tNil)))
  tRetN) tNext)
  (tSeq (tAsg (tCall sp__law_lands [] E0 (tCons (tVar 0) tNil)) (gName 5))
  (tSeq (tAsg tDNewK (gName 6))
  (tSeq (tFor (iRng1 (tCons (tCB (rLenS K) (tCons (tVar 5) tNil)) tNil)) (gName 7) (tFor (iList K (tOp (rIxL K) (tVar 5) (tVar 7))) (gName 8) (sDPut (tVar 6) (tVar 8) (tVar 7))))
  (tSeq (tAsg (tOp rModP (tVar 2) (tOp rTimes (tC (.int 2)) (tVar 1))) (gName 9))
  (tSeq (tAsg (tLc (iRng1 (tCons (tOp rTimes (tC (.int 2)) (tVar 1)) tNil)) (gName 8) (tTest (tOp rEq (tOp rNe (tDGet (tVar 6) (tVar 8)) (tDGet (tVar 6) (tVar 9))) (tVar 4))) (tVar 8) [8]) (gName 10))
  (tSeq (tAsg (tOp (rIxL K) (tVar 10) (tOp rModP (tVar 3) (tCB (rLenS K) (tCons (tVar 10) tNil)))) (gName 11))
  (tFor (iList K (tLst (tCons (tTup (tCons (tOp rTimes (tC (.int 2)) (tVar 1)) (tCons (tVar 9) tNil))) (tCons (tTup (tCons (tOp rPlus (tOp rTimes (tC (.int 2)) (tVar 1)) (tC (.int 1))) (tCons (tVar 11) tNil))) tNil)))) (gTup K 2 (gCons (gName 12) (gCons (gName 8) gNil))) (tFor (iList K (tVar 0)) (gName 13) (tIfS (tTest (tOp (rIn K false) (tVar 8) (tVar 13))) (tDrop (tBM K "list" rInsertL (tVar 13) (tCons (tBM K "list" (rIndex K) (tVar 13) (tCons (tVar 8) tNil)) (tCons (tVar 12) tNil)))) tNext))))))))))
theorem d__law_tied {P : Program} {w : World} {K : PySem.W.Frag} {mg : Str → Option Value} {base : Heap} (T : Txt K mg) (sp__law_lands : Sp) (G__law_lands : Keeps P w K mg base CX0 "_law_lands" 2 ["_law_drawing_here"] sp__law_lands)
  (f : Addr) (cdv : Value) (A : Around) (outer : List Env) (s : Shared) (H : Hp) (E : XK) (hr : Room 2 (A.deeper (envOfC "_law_tied" (defScope (top 37)) s.heap.objs.size f cdv))) :
  PSs (cxOf CX0 P w K mg base nm__law_tied "_law_tied" (defScope (top 37)) f cdv A outer s H E).nox (defBody (top 37)) (t__law_tied K sp__law_lands) :=
  (pss_cons (ps_if (pt_cmpR op_eq (pv 1) pe_int (nomark _)) (pss_cons (ps_expr (pe_bm PySem.F.plainAttrs_list PySem.F.slot_list_extend PySem.F.type_list_extend mt_extend (pe_ix ix_list (pv 0) pe_int (fun _ _ => rfl)) (pa_cons (pe_lst (pa_cons pe_int (pa_cons pe_int pa_nil))) pa_nil)))
  (pss_one ps_retN)) pss_nil)
  (pss_cons (ps_set (i := 5) sc__law_tied.nd rfl (Or.inl rfl) (pe_f G__law_lands (hr.mono (by decide)) (by rfl) (pa_cons (pv 0) pa_nil)))
  (pss_cons (ps_set (i := 6) sc__law_tied.nd rfl (Or.inr rfl) pe_dnewK)
  (pss_cons (ps_for PassesOwn.never rfl (pi_range1 (by rfl) T.z_range (pa_cons (pe_callB call_lenLS (by rfl) T.z_len (by decide +kernel) (pa_cons (pv 5) pa_nil)) pa_nil)) (pg_name (i := 7) sc__law_tied.nd rfl (Or.inl rfl)) (pss_one (ps_for PassesOwn.never rfl (pi_list (pe_ix ix_list (pv 5) (pv 7) (fun _ _ => rfl))) (pg_name (i := 8) sc__law_tied.nd rfl (Or.inl rfl)) (pss_one (ps_dput (hu_of hr) (pv 6) (pv 8) (pv 7) rfl)))))
  (pss_cons (ps_set (i := 9) sc__law_tied.nd rfl (Or.inr rfl) (pe_op op_mod (pv 2) (pe_op op_mul pe_int (pv 1))))
  (pss_cons (ps_setLc (i := 10) (own := [("_law_end", 8)]) (g := gName 8) (tt := (tTest (tOp rEq (tOp rNe (tDGet (tVar 6) (tVar 8)) (tDGet (tVar 6) (tVar 9))) (tVar 4)))) rfl sc__law_tied.nd rfl rfl (sw_true rfl rfl rfl (by decide +kernel)) (pi_range1 (by rfl) T.z_range (pa_cons (pe_op op_mul pe_int (pv 1)) pa_nil)) (blkOk_by (N := nm__law_tied) (sc := defScope (top 37)) (by decide +kernel)) (fun _ _ _ _ _ => (pg_name (i := 8) sc__law_tied.nd rfl (Or.inl rfl))) (fun _ _ _ _ _ => (pts_one (pt_cmpR op_eq (pe_cmpR op_ne (pe_dget (hu_of hr) (pv 6) (pv 8) (fun _ _ => rfl)) (pe_dget (hu_of hr) (pv 6) (pv 9) (fun _ _ => rfl)) (nomark _)) (pv 4) (nomark _)))) (fun _ _ _ _ _ => (pv 8)))
  (pss_cons (ps_set (i := 11) sc__law_tied.nd rfl (Or.inl rfl) (pe_ix ix_list (pv 10) (pe_op op_mod (pv 3) (pe_callB call_lenLS (by rfl) T.z_len (by decide +kernel) (pa_cons (pv 10) pa_nil))) (fun _ _ => rfl)))
  (pss_one (ps_for PassesOwn.never rfl (pi_list (pe_lst (pa_cons (pe_tup (pa_cons (pe_op op_mul pe_int (pv 1)) (pa_cons (pv 9) pa_nil))) (pa_cons (pe_tup (pa_cons (pe_op op_add (pe_op op_mul pe_int (pv 1)) pe_int) (pa_cons (pv 11) pa_nil))) pa_nil)))) (pg_tup rfl (pgs_cons (pg_name (i := 12) sc__law_tied.nd rfl (Or.inl rfl)) (pgs_cons (pg_name (i := 8) sc__law_tied.nd rfl (Or.inl rfl)) pgs_nil))) (pss_one (ps_for PassesOwn.never rfl (pi_list (pv 0)) (pg_name (i := 13) sc__law_tied.nd rfl (Or.inl rfl)) (pss_one (ps_if (pt_cmpR op_in_seq (pv 8) (pv 13) (by rfl)) (pss_one (ps_expr (pe_bm PySem.F.plainAttrs_list PySem.F.slot_list_insert PySem.F.type_list_insert mt_insertL (pv 13) (pa_cons (pe_bm PySem.F.plainAttrs_list PySem.F.slot_list_index PySem.F.type_list_index mt_index (pv 13) (pa_cons (pv 8) pa_nil)) (pa_cons (pv 12) pa_nil))))) pss_nil)))))))))))))
theorem b__law_tied (kV doc pm : Value) (an : Option Addr) (cdv ct : Value) (us : List Value) (hl : us.length = (["_law_rows", "_law_tie", "_law_one", "_law_two", "_law_high"] : List Str).length) : bindArgs (PySem.W.fnOf "_law_tied" "_law_tied" (defArgs (top 37)) (defBody (top 37)) (defScope (top 37)) .none kV doc pm an cdv ct) ⟨us, []⟩ = pure ((["_law_rows", "_law_tie", "_law_one", "_law_two", "_law_high"] : List Str).zip us) :=
  match us, hl with | [_, _, _, _, _], _ => rfl
/-! ### _law_renamed -/
abbrev nm__law_renamed : List Str := ["_law_rows", "_law_ties", "_law_cell_here", "_law_picks", "_law_left", "_law_names", "_law_tie", "_law_name", "_law_found", "_law_k", "_law_row", "_law_end"]
theorem sc__law_renamed : FnScope nm__law_renamed ["_law_rows", "_law_ties", "_law_cell_here"] (defScope (top 38)) := ⟨rfl, rfl, rfl, by decide +kernel, rfl, by decide +kernel, by decide +kernel⟩
def t__law_renamed (K : PySem.W.Frag) (sp__law_draws : Sp) (sp__law_settled : Sp) : TS := (tSeq (tAsg (tCall sp__law_draws [] E0 (tCons (tVar 2) (tCons (tOp rCat (tOp rCat (tLc (iRng1 (tCons (tVar 1) tNil)) (gName 9) tYes (tOp rMinus (tVar 1) (tVar 9)) [9]) (tOp rRep (tLst (tCons (tC (.int 2)) tNil)) (tVar 1))) (tLc (iRng1 (tCons (tCB (rLenS K) (tCons (tVar 0) tNil)) tNil)) (gName 9) tYes (tOp rMinus (tCB (rLenS K) (tCons (tVar 0) tNil)) (tVar 9)) [9])) tNil))) (gName 3))
  (tSeq (tAsg (tLstRg (tRg1 (tVar 1))) (gName 4))
  (tSeq (tAsg tDNewK (gName 5))
  (tSeq (tFor (iRng1 (tCons (tVar 1) tNil)) (gName 6) (tSeq (tAsg (tBM K "list" rPopAt (tVar 4) (tCons (tOp (rIxL K) (tVar 3) (tVar 6)) tNil)) (gName 7))
  (tSeq (sDPut (tVar 5) (tOp rTimes (tC (.int 2)) (tVar 6)) (tOp rPlus (tOp rTimes (tC (.int 2)) (tVar 7)) (tOp (rIxL K) (tVar 3) (tOp rPlus (tVar 1) (tVar 6)))))
  (sDPut (tVar 5) (tOp rPlus (tOp rTimes (tC (.int 2)) (tVar 6)) (tC (.int 1))) (tOp rMinus (tOp rPlus (tOp rTimes (tC (.int 2)) (tVar 7)) (tC (.int 1))) (tOp (rIxL K) (tVar 3) (tOp rPlus (tVar 1) (tVar 6))))))))
  (tSeq (tAsg (tLc (iList K (tVar 0)) (gName 10) tYes (tLc (iList K (tVar 10)) (gName 11) tYes (tDGet (tVar 5) (tVar 11)) [11]) [10]) (gName 4))
  (tSeq (tAsg (tLst tNil) (gName 8))
  (tSeq (tFor (iRng1 (tCons (tCB (rLenS K) (tCons (tVar 0) tNil)) tNil)) (gName 9) (tDrop (tBM K "list" rAppend (tVar 8) (tCons (tBM K "list" rPopAt (tVar 4) (tCons (tOp (rIxL K) (tVar 3) (tOp rPlus (tOp rTimes (tC (.int 2)) (tVar 1)) (tVar 9))) tNil)) tNil))))
  (tRet (tCall sp__law_settled [] E0 (tCons (tVar 8) tNil))))))))))
theorem d__law_renamed {P : Program} {w : World} {K : PySem.W.Frag} {mg : Str → Option Value} {base : Heap} (T : Txt K mg) (sp__law_draws : Sp) (sp__law_settled : Sp) (G__law_draws : Keeps P w K mg base CX0 "_law_draws" 1 ["_law_cell_here", "_law_sizes"] sp__law_draws) (G__law_settled : Keeps P w K mg base CX0 "_law_settled" 1 ["_law_rows"] sp__law_settled)
  (f : Addr) (cdv : Value) (A : Around) (outer : List Env) (s : Shared) (H : Hp) (E : XK) (hr : Room 1 (A.deeper (envOfC "_law_renamed" (defScope (top 38)) s.heap.objs.size f cdv))) :
  PSs (cxOf CX0 P w K mg base nm__law_renamed "_law_renamed" (defScope (top 38)) f cdv A outer s H E).nox (defBody (top 38)) (t__law_renamed K sp__law_draws sp__law_settled) :=
  (pss_cons (ps_set (i := 3) sc__law_renamed.nd rfl (Or.inl rfl) (pe_f G__law_draws (hr.mono (by decide)) (by rfl) (pa_cons (pv 2) (pa_cons (pe_op op_cat (pe_op op_cat (pe_lc (own := [("_law_k", 9)]) (g := gName 9) (tt := tYes) rfl sc__law_renamed.nd (pi_range1 (by rfl) T.z_range (pa_cons (pv 1) pa_nil)) (blkOk_by (N := nm__law_renamed) (sc := defScope (top 38)) (by decide +kernel)) (fun _ _ _ _ _ => (pg_name (i := 9) sc__law_renamed.nd rfl (Or.inl rfl))) (fun _ _ _ _ _ => pts_nil) (fun _ _ _ _ _ => (pe_op op_sub (pv 1) (pv 9)))) (pe_op op_rep (pe_lst (pa_cons pe_int pa_nil)) (pv 1))) (pe_lc (own := [("_law_k", 9)]) (g := gName 9) (tt := tYes) rfl sc__law_renamed.nd (pi_range1 (by rfl) T.z_range (pa_cons (pe_callB call_lenLS (by rfl) T.z_len (by decide +kernel) (pa_cons (pv 0) pa_nil)) pa_nil)) (blkOk_by (N := nm__law_renamed) (sc := defScope (top 38)) (by decide +kernel)) (fun _ _ _ _ _ => (pg_name (i := 9) sc__law_renamed.nd rfl (Or.inl rfl))) (fun _ _ _ _ _ => pts_nil) (fun _ _ _ _ _ => (pe_op op_sub (pe_callB call_lenLS (by rfl) T.z_len (by decide +kernel) (pa_cons (pv 0) pa_nil)) (pv 9))))) pa_nil))))
  (pss_cons (ps_set (i := 4) sc__law_renamed.nd rfl (Or.inl rfl) (pe_listRg rfl (by rfl) T.z_list (prg_1 (by rfl) T.z_range (pv 1))))
  (pss_cons (ps_set (i := 5) sc__law_renamed.nd rfl (Or.inr rfl) pe_dnewK)
  (pss_cons (ps_for PassesOwn.never rfl (pi_range1 (by rfl) T.z_range (pa_cons (pv 1) pa_nil)) (pg_name (i := 6) sc__law_renamed.nd rfl (Or.inl rfl)) (pss_cons (ps_set (i := 7) sc__law_renamed.nd rfl (Or.inl rfl) (pe_bm PySem.F.plainAttrs_list PySem.F.slot_list_pop PySem.F.type_list_pop mt_popAt (pv 4) (pa_cons (pe_ix ix_list (pv 3) (pv 6) (fun _ _ => rfl)) pa_nil)))
  (pss_cons (ps_dput (hu_of hr) (pv 5) (pe_op op_mul pe_int (pv 6)) (pe_op op_add (pe_op op_mul pe_int (pv 7)) (pe_ix ix_list (pv 3) (pe_op op_add (pv 1) (pv 6)) (fun _ _ => rfl))) rfl)
  (pss_one (ps_dput (hu_of hr) (pv 5) (pe_op op_add (pe_op op_mul pe_int (pv 6)) pe_int) (pe_op op_sub (pe_op op_add (pe_op op_mul pe_int (pv 7)) pe_int) (pe_ix ix_list (pv 3) (pe_op op_add (pv 1) (pv 6)) (fun _ _ => rfl))) rfl)))))
  (pss_cons (ps_setLc (i := 4) (own := [("_law_row", 10)]) (g := gName 10) (tt := tYes) rfl sc__law_renamed.nd rfl rfl (sw_true rfl rfl rfl (by decide +kernel)) (pi_list (pv 0)) (blkOk_by (N := nm__law_renamed) (sc := defScope (top 38)) (by decide +kernel)) (fun _ _ _ _ _ => (pg_name (i := 10) sc__law_renamed.nd rfl (Or.inl rfl))) (fun _ _ _ _ _ => pts_nil) (fun _ _ _ _ _ => (pe_lc (own := [("_law_end", 11)]) (g := gName 11) (tt := tYes) rfl sc__law_renamed.nd (pi_list (pv 10)) (blkOk_by (by rfl)) (fun _ _ _ _ _ => (pg_name (i := 11) sc__law_renamed.nd rfl (Or.inl rfl))) (fun _ _ _ _ _ => pts_nil) (fun _ _ _ _ _ => (pe_dget (hu_of hr) (pv 5) (pv 11) (fun _ _ => rfl))))))
  (pss_cons (ps_set (i := 8) sc__law_renamed.nd rfl (Or.inl rfl) (pe_lst pa_nil))
  (pss_cons (ps_for PassesOwn.never rfl (pi_range1 (by rfl) T.z_range (pa_cons (pe_callB call_lenLS (by rfl) T.z_len (by decide +kernel) (pa_cons (pv 0) pa_nil)) pa_nil)) (pg_name (i := 9) sc__law_renamed.nd rfl (Or.inl rfl)) (pss_one (ps_expr (pe_bm PySem.F.plainAttrs_list PySem.F.slot_list_append PySem.F.type_list_append mt_append (pv 8) (pa_cons (pe_bm PySem.F.plainAttrs_list PySem.F.slot_list_pop PySem.F.type_list_pop mt_popAt (pv 4) (pa_cons (pe_ix ix_list (pv 3) (pe_op op_add (pe_op op_mul pe_int (pv 1)) (pv 9)) (fun _ _ => rfl)) pa_nil)) pa_nil)))))
  (pss_one (ps_ret (pe_f G__law_settled (hr.mono (by decide)) (by rfl) (pa_cons (pv 8) pa_nil)))))))))))
theorem b__law_renamed (kV doc pm : Value) (an : Option Addr) (cdv ct : Value) (us : List Value) (hl : us.length = (["_law_rows", "_law_ties", "_law_cell_here"] : List Str).length) : bindArgs (PySem.W.fnOf "_law_renamed" "_law_renamed" (defArgs (top 38)) (defBody (top 38)) (defScope (top 38)) .none kV doc pm an cdv ct) ⟨us, []⟩ = pure ((["_law_rows", "_law_ties", "_law_cell_here"] : List Str).zip us) :=
  match us, hl with | [_, _, _], _ => rfl
/-! ### _law_grown -/
abbrev nm__law_grown : List Str := ["_law_script", "_law_base", "_law_holes", "_law_seats_here", "_law_more", "_law_late", "_law_tree", "_law_picks", "_law_rows", "_law_k", "_law_row", "_law_high"]
theorem sc__law_grown : FnScope nm__law_grown ["_law_script", "_law_base", "_law_holes"] (defScope (top 39)) := ⟨rfl, rfl, rfl, by decide +kernel, rfl, by decide +kernel, by decide +kernel⟩
def t__law_grown (K : PySem.W.Frag) (sp__law_cell : Sp) (sp__law_draws : Sp) (sp__law_tied : Sp) (sp__law_renamed : Sp) : TS := (tSeq (tAsg (tCall sp__law_draws [] E0 (tCons (tCall sp__law_cell [] E0 (tCons (tVar 0) (tCons (tVar 1) tNil))) (tCons (tLst (tCons (tC (.int 6)) (tCons (tC (.int 5)) (tCons (tC (.int 420)) tNil)))) tNil))) (gLst K 3 (gCons (gName 3) (gCons (gName 4) (gCons (gName 5) gNil)))))
  (tSeq (tAsg (tCall sp__law_draws [] E0 (tCons (tCall sp__law_cell [] E0 (tCons (tVar 0) (tCons (tOp rPlus (tVar 1) (tC (.int 1))) tNil))) (tCons (tOp rRep (tLst (tCons (tC (.int 60)) (tCons (tC (.int 60)) tNil))) (tVar 3)) tNil))) (gName 6))
  (tSeq (tAsg (tOp rPlus (tVar 4) (tOp rTimes (tC (.int 2)) (tVar 2))) (gName 4))
  (tSeq (tAsg (tCall sp__law_draws [] E0 (tCons (tCall sp__law_cell [] E0 (tCons (tVar 0) (tCons (tOp rPlus (tVar 1) (tC (.int 2))) tNil))) (tCons (tOp rRep (tLst (tCons (tC (.int 5040)) (tCons (tC (.int 5040)) tNil))) (tVar 4)) tNil))) (gName 7))
  (tSeq (tAsg (tLst (tCons (tLst tNil) tNil)) (gName 8))
  (tSeq (tFor (iRng1 (tCons (tVar 3) tNil)) (gName 9) (tSeq (tAsg (tOp (rIxL K) (tVar 8) (tOp rModP (tOp (rIxL K) (tVar 6) (tOp rTimes (tC (.int 2)) (tVar 9))) (tCB (rLenS K) (tCons (tVar 8) tNil)))) (gName 10))
  (tSeq (tDrop (tBM K "list" rInsertL (tVar 10) (tCons (tOp rModP (tOp (rIxL K) (tVar 6) (tOp rPlus (tOp rTimes (tC (.int 2)) (tVar 9)) (tC (.int 1)))) (tOp rPlus (tCB (rLenS K) (tCons (tVar 10) tNil)) (tC (.int 1)))) (tCons (tOp rTimes (tC (.int 2)) (tVar 9)) tNil))))
  (tDrop (tBM K "list" rAppend (tVar 8) (tCons (tLst (tCons (tOp rPlus (tOp rTimes (tC (.int 2)) (tVar 9)) (tC (.int 1))) tNil)) tNil))))))
  (tSeq (tFor (iRng1 (tCons (tVar 4) tNil)) (gName 9) (tSeq (tAsg (tAndV (tOp rEq (tVar 2) (tC (.int 1))) (tOp rEq (tVar 9) (tOp rPlus (tC (.int 1)) (tOp rModP (tVar 5) (tCB rMax2 (tCons (tC (.int 1)) (tCons (tOp rMinus (tVar 4) (tC (.int 1))) tNil))))))) (gName 11))
  (tDrop (tCall sp__law_tied [] E0 (tCons (tVar 8) (tCons (tOp rPlus (tVar 3) (tVar 9)) (tCons (tOp (rIxL K) (tVar 7) (tOp rTimes (tC (.int 2)) (tVar 9))) (tCons (tOp (rIxL K) (tVar 7) (tOp rPlus (tOp rTimes (tC (.int 2)) (tVar 9)) (tC (.int 1)))) (tCons (tVar 11) tNil)))))))))
  (tRet (tCall sp__law_renamed [] E0 (tCons (tVar 8) (tCons (tOp rPlus (tVar 3) (tVar 4)) (tCons (tCall sp__law_cell [] E0 (tCons (tVar 0) (tCons (tOp rPlus (tVar 1) (tC (.int 3))) tNil))) tNil))))))))))))
theorem d__law_grown {P : Program} {w : World} {K : PySem.W.Frag} {mg : Str → Option Value} {base : Heap} (T : Txt K mg) (sp__law_cell : Sp) (sp__law_draws : Sp) (sp__law_tied : Sp) (sp__law_renamed : Sp) (G__law_cell : Keeps P w K mg base CX0 "_law_cell" 1 ["_law_script", "_law_k"] sp__law_cell) (G__law_draws : Keeps P w K mg base CX0 "_law_draws" 1 ["_law_cell_here", "_law_sizes"] sp__law_draws) (G__law_tied : Keeps P w K mg base CX0 "_law_tied" 3 ["_law_rows", "_law_tie", "_law_one", "_law_two", "_law_high"] sp__law_tied) (G__law_renamed : Keeps P w K mg base CX0 "_law_renamed" 2 ["_law_rows", "_law_ties", "_law_cell_here"] sp__law_renamed)
  (f : Addr) (cdv : Value) (A : Around) (outer : List Env) (s : Shared) (H : Hp) (E : XK) (hr : Room 3 (A.deeper (envOfC "_law_grown" (defScope (top 39)) s.heap.objs.size f cdv))) :
  PSs (cxOf CX0 P w K mg base nm__law_grown "_law_grown" (defScope (top 39)) f cdv A outer s H E).nox (defBody (top 39)) (t__law_grown K sp__law_cell sp__law_draws sp__law_tied sp__law_renamed) :=
  (pss_cons (ps_asg (pe_f G__law_draws (hr.mono (by decide)) (by rfl) (pa_cons (pe_f G__law_cell (hr.mono (by decide)) (by rfl) (pa_cons (pv 0) (pa_cons (pv 1) pa_nil))) (pa_cons (pe_lst (pa_cons pe_int (pa_cons pe_int (pa_cons pe_int pa_nil)))) pa_nil))) (pg_lst rfl (pgs_cons (pg_name (i := 3) sc__law_grown.nd rfl (Or.inl rfl)) (pgs_cons (pg_name (i := 4) sc__law_grown.nd rfl (Or.inl rfl)) (pgs_cons (pg_name (i := 5) sc__law_grown.nd rfl (Or.inl rfl)) pgs_nil)))))
  (pss_cons (ps_set (i := 6) sc__law_grown.nd rfl (Or.inl rfl) (pe_f G__law_draws (hr.mono (by decide)) (by rfl) (pa_cons (pe_f G__law_cell (hr.mono (by decide)) (by rfl) (pa_cons (pv 0) (pa_cons (pe_op op_add (pv 1) pe_int) pa_nil))) (pa_cons (pe_op op_rep (pe_lst (pa_cons pe_int (pa_cons pe_int pa_nil))) (pv 3)) pa_nil))))
  (pss_cons (ps_set (i := 4) sc__law_grown.nd rfl (Or.inl rfl) (pe_op op_add (pv 4) (pe_op op_mul pe_int (pv 2))))
  (pss_cons (ps_set (i := 7) sc__law_grown.nd rfl (Or.inl rfl) (pe_f G__law_draws (hr.mono (by decide)) (by rfl) (pa_cons (pe_f G__law_cell (hr.mono (by decide)) (by rfl) (pa_cons (pv 0) (pa_cons (pe_op op_add (pv 1) pe_int) pa_nil))) (pa_cons (pe_op op_rep (pe_lst (pa_cons pe_int (pa_cons pe_int pa_nil))) (pv 4)) pa_nil))))
  (pss_cons (ps_set (i := 8) sc__law_grown.nd rfl (Or.inl rfl) (pe_lst (pa_cons (pe_lst pa_nil) pa_nil)))
  (pss_cons (ps_for PassesOwn.never rfl (pi_range1 (by rfl) T.z_range (pa_cons (pv 3) pa_nil)) (pg_name (i := 9) sc__law_grown.nd rfl (Or.inl rfl)) (pss_cons (ps_set (i := 10) sc__law_grown.nd rfl (Or.inl rfl) (pe_ix ix_list (pv 8) (pe_op op_mod (pe_ix ix_list (pv 6) (pe_op op_mul pe_int (pv 9)) (fun _ _ => rfl)) (pe_callB call_lenLS (by rfl) T.z_len (by decide +kernel) (pa_cons (pv 8) pa_nil))) (fun _ _ => rfl)))
  (pss_cons (ps_expr (pe_bm PySem.F.plainAttrs_list PySem.F.slot_list_insert PySem.F.type_list_insert mt_insertL (pv 10) (pa_cons (pe_op op_mod (pe_ix ix_list (pv 6) (pe_op op_add (pe_op op_mul pe_int (pv 9)) pe_int) (fun _ _ => rfl)) (pe_op op_add (pe_callB call_lenLS (by rfl) T.z_len (by decide +kernel) (pa_cons (pv 10) pa_nil)) pe_int)) (pa_cons (pe_op op_mul pe_int (pv 9)) pa_nil))))
  (pss_one (ps_expr (pe_bm PySem.F.plainAttrs_list PySem.F.slot_list_append PySem.F.type_list_append mt_append (pv 8) (pa_cons (pe_lst (pa_cons (pe_op op_add (pe_op op_mul pe_int (pv 9)) pe_int) pa_nil)) pa_nil)))))))
  (pss_cons (ps_for PassesOwn.never rfl (pi_range1 (by rfl) T.z_range (pa_cons (pv 4) pa_nil)) (pg_name (i := 9) sc__law_grown.nd rfl (Or.inl rfl)) (pss_cons (ps_set (i := 11) sc__law_grown.nd rfl (Or.inl rfl) (pe_and (pe_cmpR op_eq (pv 2) pe_int (nomark _)) (pe_one (pe_cmpR op_eq (pv 9) (pe_op op_add pe_int (pe_op op_mod (pv 5) (pe_callB (call_max2I rfl) (by rfl) T.z_max (by decide +kernel) (pa_cons pe_int (pa_cons (pe_op op_sub (pv 4) pe_int) pa_nil))))) (nomark _)))))
  (pss_one (ps_expr (pe_f G__law_tied (hr.mono (by decide)) (by rfl) (pa_cons (pv 8) (pa_cons (pe_op op_add (pv 3) (pv 9)) (pa_cons (pe_ix ix_list (pv 7) (pe_op op_mul pe_int (pv 9)) (fun _ _ => rfl)) (pa_cons (pe_ix ix_list (pv 7) (pe_op op_add (pe_op op_mul pe_int (pv 9)) pe_int) (fun _ _ => rfl)) (pa_cons (pv 11) pa_nil))))))))))
  (pss_one (ps_ret (pe_f G__law_renamed (hr.mono (by decide)) (by rfl) (pa_cons (pv 8) (pa_cons (pe_op op_add (pv 3) (pv 4)) (pa_cons (pe_f G__law_cell (hr.mono (by decide)) (by rfl) (pa_cons (pv 0) (pa_cons (pe_op op_add (pv 1) pe_int) pa_nil))) pa_nil)))))))))))))
theorem b__law_grown (kV doc pm : Value) (an : Option Addr) (cdv ct : Value) (us : List Value) (hl : us.length = (["_law_script", "_law_base", "_law_holes"] : List Str).length) : bindArgs (PySem.W.fnOf "_law_grown" "_law_grown" (defArgs (top 39)) (defBody (top 39)) (defScope (top 39)) .none kV doc pm an cdv ct) ⟨us, []⟩ = pure ((["_law_script", "_law_base", "_law_holes"] : List Str).zip us) :=
  match us, hl with | [_, _, _], _ => rfl
/-! ### _law_kind -/
abbrev nm__law_kind : List Str := ["_law_sort", "_law_rows", "_law_columns", "_law_shift", "_law_found", "_law_i", "_law_j", "_law_here", "_law_left", "_law_below", "_law_slanted", "_law_row"]
theorem sc__law_kind : FnScope nm__law_kind ["_law_sort", "_law_rows", "_law_columns", "_law_shift"] (defScope (top 40)) := ⟨rfl, rfl, rfl, by decide +kernel, rfl, by decide +kernel, by decide +kernel⟩
def t__law_kind (K : PySem.W.Frag) (sp__law_settled : Sp) : TS := (tSeq (tAsg (tLst tNil) (gName 4))
  (tSeq (tFor (iRng1 (tCons (tVar 1) tNil)) (gName 5) (tFor (iRng1 (tCons (tVar 2) tNil)) (gName 6) (tSeq (tAsg (tOp rPlus (tOp rTimes (tVar 5) (tVar 2)) (tVar 6)) (gName 7))
  (tSeq (tAsg (tOp rPlus (tOp rTimes (tVar 5) (tVar 2)) (tOp rModP (tOp rMinus (tVar 6) (tC (.int 1))) (tVar 2))) (gName 8))
  (tSeq (tAsg (tOp rMinus (tVar 7) (tVar 2)) (gName 9))
  (tSeq (tAsg (tOp rMinus (tVar 8) (tVar 2)) (gName 10))
  (tSeq (tIfS (tTest (tOp rEq (tVar 5) (tC (.int 0)))) (tSeq (tAsg (tOp rPlus (tOp rTimes (tOp rMinus (tVar 1) (tC (.int 1))) (tVar 2)) (tOp rModP (tOp rMinus (tVar 6) (tVar 3)) (tVar 2))) (gName 9))
  (tAsg (tOp rPlus (tOp rTimes (tOp rMinus (tVar 1) (tC (.int 1))) (tVar 2)) (tOp rModP (tOp rMinus (tOp rMinus (tVar 6) (tC (.int 1))) (tVar 3)) (tVar 2))) (gName 10))) tNext)
  (tIfS (tTest (tOp rEq (tVar 0) (tC (.str "fours")))) (tDrop (tBM K "list" rAppend (tVar 4) (tCons (tLst (tCons (tOp rPlus (tOp rTimes (tC (.int 4)) (tVar 7)) (tC (.int 2))) (tCons (tOp rTimes (tC (.int 4)) (tVar 7)) (tCons (tOp rPlus (tOp rTimes (tC (.int 4)) (tVar 9)) (tC (.int 3))) (tCons (tOp rPlus (tOp rTimes (tC (.int 4)) (tVar 8)) (tC (.int 1))) tNil))))) tNil))) (tSeq (tAsg (tLst (tCons (tOp rPlus (tOp rTimes (tC (.int 6)) (tVar 7)) (tC (.int 2))) (tCons (tOp rPlus (tOp rTimes (tC (.int 6)) (tVar 7)) (tC (.int 4))) (tCons (tOp rTimes (tC (.int 6)) (tVar 7)) tNil)))) (gName 11))
  (tDrop (tBM K "list" rAppend (tVar 4) (tCons (tOp rCat (tVar 11) (tLst (tCons (tOp rPlus (tOp rTimes (tC (.int 6)) (tVar 9)) (tC (.int 3))) (tCons (tOp rPlus (tOp rTimes (tC (.int 6)) (tVar 10)) (tC (.int 5))) (tCons (tOp rPlus (tOp rTimes (tC (.int 6)) (tVar 8)) (tC (.int 1))) tNil))))) tNil))))))))))))
  (tRet (tCall sp__law_settled [] E0 (tCons (tVar 4) tNil)))))
theorem d__law_kind {P : Program} {w : World} {K : PySem.W.Frag} {mg : Str → Option Value} {base : Heap} (T : Txt K mg) (sp__law_settled : Sp) (G__law_settled : Keeps P w K mg base CX0 "_law_settled" 1 ["_law_rows"] sp__law_settled)
  (f : Addr) (cdv : Value) (A : Around) (outer : List Env) (s : Shared) (H : Hp) (E : XK) (hr : Room 1 (A.deeper (envOfC "_law_kind" (defScope (top 40)) s.heap.objs.size f cdv))) :
  PSs (cxOf CX0 P w K mg base nm__law_kind "_law_kind" (defScope (top 40)) f cdv A outer s H E).nox (defBody (top 40)) (t__law_kind K sp__law_settled) :=
  (pss_cons (ps_set (i := 4) sc__law_kind.nd rfl (Or.inl rfl) (pe_lst pa_nil))
  (pss_cons (ps_for PassesOwn.never rfl (pi_range1 (by rfl) T.z_range (pa_cons (pv 1) pa_nil)) (pg_name (i := 5) sc__law_kind.nd rfl (Or.inl rfl)) (pss_one (ps_for PassesOwn.never rfl (pi_range1 (by rfl) T.z_range (pa_cons (pv 2) pa_nil)) (pg_name (i := 6) sc__law_kind.nd rfl (Or.inl rfl)) (pss_cons (ps_set (i := 7) sc__law_kind.nd rfl (Or.inl rfl) (pe_op op_add (pe_op op_mul (pv 5) (pv 2)) (pv 6)))
  (pss_cons (ps_set (i := 8) sc__law_kind.nd rfl (Or.inl rfl) (pe_op op_add (pe_op op_mul (pv 5) (pv 2)) (pe_op op_mod (pe_op op_sub (pv 6) pe_int) (pv 2))))
  (pss_cons (ps_set (i := 9) sc__law_kind.nd rfl (Or.inl rfl) (pe_op op_sub (pv 7) (pv 2)))
  (pss_cons (ps_set (i := 10) sc__law_kind.nd rfl (Or.inl rfl) (pe_op op_sub (pv 8) (pv 2)))
  (pss_cons (ps_if (pt_cmpR op_eq (pv 5) pe_int (nomark _)) (pss_cons (ps_set (i := 9) sc__law_kind.nd rfl (Or.inl rfl) (pe_op op_add (pe_op op_mul (pe_op op_sub (pv 1) pe_int) (pv 2)) (pe_op op_mod (pe_op op_sub (pv 6) (pv 3)) (pv 2))))
  (pss_one (ps_set (i := 10) sc__law_kind.nd rfl (Or.inl rfl) (pe_op op_add (pe_op op_mul (pe_op op_sub (pv 1) pe_int) (pv 2)) (pe_op op_mod (pe_op op_sub (pe_op op_sub (pv 6) pe_int) (pv 3)) (pv 2)))))) pss_nil)
  (pss_one (ps_if (pt_cmpR op_eq (pv 0) pe_str (nomark _)) (pss_one (ps_expr (pe_bm PySem.F.plainAttrs_list PySem.F.slot_list_append PySem.F.type_list_append mt_append (pv 4) (pa_cons (pe_lst (pa_cons (pe_op op_add (pe_op op_mul pe_int (pv 7)) pe_int) (pa_cons (pe_op op_mul pe_int (pv 7)) (pa_cons (pe_op op_add (pe_op op_mul pe_int (pv 9)) pe_int) (pa_cons (pe_op op_add (pe_op op_mul pe_int (pv 8)) pe_int) pa_nil))))) pa_nil)))) (pss_cons (ps_set (i := 11) sc__law_kind.nd rfl (Or.inl rfl) (pe_lst (pa_cons (pe_op op_add (pe_op op_mul pe_int (pv 7)) pe_int) (pa_cons (pe_op op_add (pe_op op_mul pe_int (pv 7)) pe_int) (pa_cons (pe_op op_mul pe_int (pv 7)) pa_nil)))))
  (pss_one (ps_expr (pe_bm PySem.F.plainAttrs_list PySem.F.slot_list_append PySem.F.type_list_append mt_append (pv 4) (pa_cons (pe_op op_cat (pv 11) (pe_lst (pa_cons (pe_op op_add (pe_op op_mul pe_int (pv 9)) pe_int) (pa_cons (pe_op op_add (pe_op op_mul pe_int (pv 10)) pe_int) (pa_cons (pe_op op_add (pe_op op_mul pe_int (pv 8)) pe_int) pa_nil))))) pa_nil)))))))))))))))
  (pss_one (ps_ret (pe_f G__law_settled (hr.mono (by decide)) (by rfl) (pa_cons (pv 4) pa_nil))))))
theorem b__law_kind (kV doc pm : Value) (an : Option Addr) (cdv ct : Value) (us : List Value) (hl : us.length = (["_law_sort", "_law_rows", "_law_columns", "_law_shift"] : List Str).length) : bindArgs (PySem.W.fnOf "_law_kind" "_law_kind" (defArgs (top 40)) (defBody (top 40)) (defScope (top 40)) .none kV doc pm an cdv ct) ⟨us, []⟩ = pure ((["_law_sort", "_law_rows", "_law_columns", "_law_shift"] : List Str).zip us) :=
  match us, hl with | [_, _, _, _], _ => rfl
/-! ### _law_numbers -/
abbrev nm__law_numbers : List Str := ["_law_cell_here", "_law_most", "_law_one", "_law_two", "_law_three", "_law_four", "_law_rows", "_law_columns"]
theorem sc__law_numbers : FnScope nm__law_numbers ["_law_cell_here", "_law_most"] (defScope (top 41)) := ⟨rfl, rfl, rfl, by decide +kernel, rfl, by decide +kernel, by decide +kernel⟩
def t__law_numbers (K : PySem.W.Frag) (sp__law_draws : Sp) : TS := (tSeq (tAsg (tCall sp__law_draws [] E0 (tCons (tVar 0) (tCons (tLst (tCons (tC (.int 7)) (tCons (tC (.int 40)) (tCons (tC (.int 5040)) (tCons (tC (.int 5040)) tNil))))) tNil))) (gLst K 4 (gCons (gName 2) (gCons (gName 3) (gCons (gName 4) (gCons (gName 5) gNil))))))
  (tSeq (tAsg (tOp rPlus (tC (.int 1)) (tVar 2)) (gName 6))
  (tSeq (tIfS (tTest (tOp rEq (tVar 2) (tC (.int 6)))) (tAsg (tOp rPlus (tC (.int 1)) (tOp rModP (tVar 3) (tVar 1))) (gName 6)) tNext)
  (tSeq (tAsg (tOp rPlus (tC (.int 1)) (tOp rModP (tVar 4) (tCB rMax2 (tCons (tC (.int 1)) (tCons (tOp rDivP (tVar 1) (tVar 6)) tNil))))) (gName 7))
  (tRet (tTup (tCons (tVar 6) (tCons (tVar 7) (tCons (tOp rModP (tVar 5) (tVar 7)) tNil)))))))))
theorem d__law_numbers {P : Program} {w : World} {K : PySem.W.Frag} {mg : Str → Option Value} {base : Heap} (T : Txt K mg) (sp__law_draws : Sp) (G__law_draws : Keeps P w K mg base CX0 "_law_draws" 1 ["_law_cell_here", "_law_sizes"] sp__law_draws)
  (f : Addr) (cdv : Value) (A : Around) (outer : List Env) (s : Shared) (H : Hp) (E : XK) (hr : Room 1 (A.deeper (envOfC "_law_numbers" (defScope (top 41)) s.heap.objs.size f cdv))) :
  PSs (cxOf CX0 P w K mg base nm__law_numbers "_law_numbers" (defScope (top 41)) f cdv A outer s H E).nox (defBody (top 41)) (t__law_numbers K sp__law_draws) :=
  (pss_cons (ps_asg (pe_f G__law_draws (hr.mono (by decide)) (by rfl) (pa_cons (pv 0) (pa_cons (pe_lst (pa_cons pe_int (pa_cons pe_int (pa_cons pe_int (pa_cons pe_int pa_nil))))) pa_nil))) (pg_lst rfl (pgs_cons (pg_name (i := 2) sc__law_numbers.nd rfl (Or.inl rfl)) (pgs_cons (pg_name (i := 3) sc__law_numbers.nd rfl (Or.inl rfl)) (pgs_cons (pg_name (i := 4) sc__law_numbers.nd rfl (Or.inl rfl)) (pgs_cons (pg_name (i := 5) sc__law_numbers.nd rfl (Or.inl rfl)) pgs_nil))))))
  (pss_cons (ps_set (i := 6) sc__law_numbers.nd rfl (Or.inl rfl) (pe_op op_add pe_int (pv 2)))
  (pss_cons (ps_if (pt_cmpR op_eq (pv 2) pe_int (nomark _)) (pss_one (ps_set (i := 6) sc__law_numbers.nd rfl (Or.inl rfl) (pe_op op_add pe_int (pe_op op_mod (pv 3) (pv 1))))) pss_nil)
  (pss_cons (ps_set (i := 7) sc__law_numbers.nd rfl (Or.inl rfl) (pe_op op_add pe_int (pe_op op_mod (pv 4) (pe_callB (call_max2I rfl) (by rfl) T.z_max (by decide +kernel) (pa_cons pe_int (pa_cons (pe_op op_fdiv (pv 1) (pv 6)) pa_nil))))))
  (pss_one (ps_ret (pe_tup (pa_cons (pv 6) (pa_cons (pv 7) (pa_cons (pe_op op_mod (pv 5) (pv 7)) pa_nil))))))))))
theorem b__law_numbers (kV doc pm : Value) (an : Option Addr) (cdv ct : Value) (us : List Value) (hl : us.length = (["_law_cell_here", "_law_most"] : List Str).length) : bindArgs (PySem.W.fnOf "_law_numbers" "_law_numbers" (defArgs (top 41)) (defBody (top 41)) (defScope (top 41)) .none kV doc pm an cdv ct) ⟨us, []⟩ = pure ((["_law_cell_here", "_law_most"] : List Str).zip us) :=
  match us, hl with | [_, _], _ => rfl
/-! ### _law_some -/
abbrev nm__law_some : List Str := ["_law_script", "_law_choice", "_law_numbers_here", "_law_drawing_here"]
theorem sc__law_some : FnScope nm__law_some ["_law_script", "_law_choice"] (defScope (top 42)) := ⟨rfl, rfl, rfl, by decide +kernel, rfl, by decide +kernel, by decide +kernel⟩
def t__law_some (K : PySem.W.Frag) (sp__law_cell : Sp) (sp__law_drawing : Sp) (sp__law_renamed : Sp) (sp__law_grown : Sp) (sp__law_kind : Sp) (sp__law_numbers : Sp) : TS := (tSeq (tIfS (tTest (tOp rLess (tVar 1) (tC (.int 2)))) (tRet (tCall sp__law_drawing [] E0 (tCons (tVar 0) (tCons (tC (.int 1)) (tCons (tC (.int 7)) tNil))))) tNext)
  (tSeq (tIfS (tTest (tOp rLess (tVar 1) (tC (.int 6)))) (tRet (tCall sp__law_grown [] E0 (tCons (tVar 0) (tCons (tC (.int 1)) (tCons (tOp rMinus (tOp rDivP (tVar 1) (tC (.int 2))) (tC (.int 1))) tNil))))) tNext)
  (tSeq (tAsg (tCall sp__law_numbers [] E0 (tCons (tCall sp__law_cell [] E0 (tCons (tVar 0) (tCons (tC (.int 1)) tNil))) (tCons (tC (.int 40)) tNil))) (gName 2))
  (tSeq (tAsg (tCall sp__law_kind [] E0 (tCons (tOp (rIxL K) (tLst (tCons (tC (.str "fours")) (tCons (tC (.str "threes")) tNil))) (tOp rMinus (tVar 1) (tC (.int 6)))) (tCons (tOp (rIxT K) (tVar 2) (tC (.int 0))) (tCons (tOp (rIxT K) (tVar 2) (tC (.int 1))) (tCons (tOp (rIxT K) (tVar 2) (tC (.int 2))) tNil))))) (gName 3))
  (tRet (tCall sp__law_renamed [] E0 (tCons (tVar 3) (tCons (tOp rTimes (tOp rMinus (tVar 1) (tC (.int 4))) (tCB (rLenS K) (tCons (tVar 3) tNil))) (tCons (tCall sp__law_cell [] E0 (tCons (tVar 0) (tCons (tC (.int 2)) tNil))) tNil)))))))))
theorem d__law_some {P : Program} {w : World} {K : PySem.W.Frag} {mg : Str → Option Value} {base : Heap} (T : Txt K mg) (sp__law_cell : Sp) (sp__law_drawing : Sp) (sp__law_renamed : Sp) (sp__law_grown : Sp) (sp__law_kind : Sp) (sp__law_numbers : Sp) (G__law_cell : Keeps P w K mg base CX0 "_law_cell" 1 ["_law_script", "_law_k"] sp__law_cell) (G__law_drawing : Keeps P w K mg base CX0 "_law_drawing" 2 ["_law_script", "_law_base", "_law_most"] sp__law_drawing) (G__law_renamed : Keeps P w K mg base CX0 "_law_renamed" 2 ["_law_rows", "_law_ties", "_law_cell_here"] sp__law_renamed) (G__law_grown : Keeps P w K mg base CX0 "_law_grown" 4 ["_law_script", "_law_base", "_law_holes"] sp__law_grown) (G__law_kind : Keeps P w K mg base CX0 "_law_kind" 2 ["_law_sort", "_law_rows", "_law_columns", "_law_shift"] sp__law_kind) (G__law_numbers : Keeps P w K mg base CX0 "_law_numbers" 2 ["_law_cell_here", "_law_most"] sp__law_numbers)
  (f : Addr) (cdv : Value) (A : Around) (outer : List Env) (s : Shared) (H : Hp) (E : XK) (hr : Room 4 (A.deeper (envOfC "_law_some" (defScope (top 42)) s.heap.objs.size f cdv))) :
  PSs (cxOf CX0 P w K mg base nm__law_some "_law_some" (defScope (top 42)) f cdv A outer s H E).nox (defBody (top 42)) (t__law_some K sp__law_cell sp__law_drawing sp__law_renamed sp__law_grown sp__law_kind sp__law_numbers) :=
  (pss_cons (ps_if (pt_cmpR op_lt (pv 1) pe_int (nomark _)) (pss_one (ps_ret (pe_f G__law_drawing (hr.mono (by decide)) (by rfl) (pa_cons (pv 0) (pa_cons pe_int (pa_cons pe_int pa_nil)))))) pss_nil)
  (pss_cons (ps_if (pt_cmpR op_lt (pv 1) pe_int (nomark _)) (pss_one (ps_ret (pe_f G__law_grown (hr.mono (by decide)) (by rfl) (pa_cons (pv 0) (pa_cons pe_int (pa_cons (pe_op op_sub (pe_op op_fdiv (pv 1) pe_int) pe_int) pa_nil)))))) pss_nil)
  (pss_cons (ps_set (i := 2) sc__law_some.nd rfl (Or.inl rfl) (pe_f G__law_numbers (hr.mono (by decide)) (by rfl) (pa_cons (pe_f G__law_cell (hr.mono (by decide)) (by rfl) (pa_cons (pv 0) (pa_cons pe_int pa_nil))) (pa_cons pe_int pa_nil))))
  (pss_cons (ps_set (i := 3) sc__law_some.nd rfl (Or.inl rfl) (pe_f G__law_kind (hr.mono (by decide)) (by rfl) (pa_cons (pe_ix ix_list (pe_lst (pa_cons pe_str (pa_cons pe_str pa_nil))) (pe_op op_sub (pv 1) pe_int) (fun _ _ => rfl)) (pa_cons (pe_ix ix_tup (pv 2) pe_int (fun _ _ => rfl)) (pa_cons (pe_ix ix_tup (pv 2) pe_int (fun _ _ => rfl)) (pa_cons (pe_ix ix_tup (pv 2) pe_int (fun _ _ => rfl)) pa_nil))))))
  (pss_one (ps_ret (pe_f G__law_renamed (hr.mono (by decide)) (by rfl) (pa_cons (pv 3) (pa_cons (pe_op op_mul (pe_op op_sub (pv 1) pe_int) (pe_callB call_lenLS (by rfl) T.z_len (by decide +kernel) (pa_cons (pv 3) pa_nil))) (pa_cons (pe_f G__law_cell (hr.mono (by decide)) (by rfl) (pa_cons (pv 0) (pa_cons pe_int pa_nil))) pa_nil))))))))))
theorem b__law_some (kV doc pm : Value) (an : Option Addr) (cdv ct : Value) (us : List Value) (hl : us.length = (["_law_script", "_law_choice"] : List Str).length) : bindArgs (PySem.W.fnOf "_law_some" "_law_some" (defArgs (top 42)) (defBody (top 42)) (defScope (top 42)) .none kV doc pm an cdv ct) ⟨us, []⟩ = pure ((["_law_script", "_law_choice"] : List Str).zip us) :=
  match us, hl with | [_, _], _ => rfl
/-! ### _law_home -/
abbrev nm__law_home : List Str := ["_law_drawing_here", "_law_seats_here", "_law_start", "_law_goal", "_law_came", "_law_waiting", "_law_at", "_law_end", "_law_place", "_law_way"]
theorem sc__law_home : FnScope nm__law_home ["_law_drawing_here", "_law_seats_here", "_law_start", "_law_goal"] (defScope (top 43)) := ⟨rfl, rfl, rfl, by decide +kernel, rfl, by decide +kernel, by decide +kernel⟩
def t__law_home (K : PySem.W.Frag) (sp__law_mate : Sp) : TS := (tSeq (tAsg (tDisp [((tVar 2), (tUn rNegI (tC (.int 1))))]) (gName 4))
  (tSeq (tAsg (tLst (tCons (tVar 2) tNil)) (gName 5))
  (tSeq (tAsg (tC (.int 0)) (gName 6))
  (tSeq (tWhile (tAnd (tB (tDNotIn (tVar 3) (tVar 4))) (tTest (tOp rLess (tVar 6) (tCB (rLenS K) (tCons (tVar 5) tNil))))) (tSeq (tFor (iList K (tOp (rIxL K) (tVar 0) (tOp (rIxL K) (tVar 5) (tVar 6)))) (gName 7) (tSeq (tAsg (tDGet (tVar 1) (tCall sp__law_mate [] E0 (tCons (tVar 7) tNil))) (gName 8))
  (tIfS (tB (tDNotIn (tVar 8) (tVar 4))) (tSeq (sDPut (tVar 4) (tVar 8) (tVar 7))
  (tDrop (tBM K "list" rAppend (tVar 5) (tCons (tVar 8) tNil)))) tNext)))
  (tAsg (tOp rPlus (tVar 6) (tC (.int 1))) (gName 6))))
  (tSeq (tAsg (tLst tNil) (gName 9))
  (tSeq (tWhile (tTest (tOp rNe (tVar 3) (tVar 2))) (tSeq (tDrop (tBM K "list" rInsertL (tVar 9) (tCons (tC (.int 0)) (tCons (tDGet (tVar 4) (tVar 3)) tNil))))
  (tAsg (tDGet (tVar 1) (tDGet (tVar 4) (tVar 3))) (gName 3))))
  (tRet (tVar 9))))))))
theorem d__law_home {P : Program} {w : World} {K : PySem.W.Frag} {mg : Str → Option Value} {base : Heap} (T : Txt K mg) (sp__law_mate : Sp) (G__law_mate : Keeps P w K mg base CX0 "_law_mate" 1 ["_law_end"] sp__law_mate)
  (f : Addr) (cdv : Value) (A : Around) (outer : List Env) (s : Shared) (H : Hp) (E : XK) (hr : Room 1 (A.deeper (envOfC "_law_home" (defScope (top 43)) s.heap.objs.size f cdv))) :
  PSs (cxOf CX0 P w K mg base nm__law_home "_law_home" (defScope (top 43)) f cdv A outer s H E).nox (defBody (top 43)) (t__law_home K sp__law_mate) :=
  (pss_cons (ps_set (i := 4) sc__law_home.nd rfl (Or.inl rfl) (pe_disp (pps_cons (pv 2) (pe_un un_neg pe_int) pps_nil) (by rfl) (by rfl) (fun z => by cases z) (by decide)))
  (pss_cons (ps_set (i := 5) sc__law_home.nd rfl (Or.inl rfl) (pe_lst (pa_cons (pv 2) pa_nil)))
  (pss_cons (ps_set (i := 6) sc__law_home.nd rfl (Or.inl rfl) pe_int)
  (pss_cons (ps_while PassesOwn.never (PW.pt (pw_and (pt_cmp (pc_dnotin (hu_of hr) (pv 3) (pv 4)) rfl) (pw_and1 (pt_cmpR op_lt (pv 6) (pe_callB call_lenLS (by rfl) T.z_len (by decide +kernel) (pa_cons (pv 5) pa_nil)) (nomark _))))) (pss_cons (ps_for PassesOwn.never rfl (pi_list (pe_ix ix_list (pv 0) (pe_ix ix_list (pv 5) (pv 6) (fun _ _ => rfl)) (fun _ _ => rfl))) (pg_name (i := 7) sc__law_home.nd rfl (Or.inl rfl)) (pss_cons (ps_set (i := 8) sc__law_home.nd rfl (Or.inl rfl) (pe_dget (hu_of hr) (pv 1) (pe_f G__law_mate (hr.mono (by decide)) (by rfl) (pa_cons (pv 7) pa_nil)) (fun _ _ => rfl)))
  (pss_one (ps_if (pt_cmp (pc_dnotin (hu_of hr) (pv 8) (pv 4)) rfl) (pss_cons (ps_dput (hu_of hr) (pv 4) (pv 8) (pv 7) rfl)
  (pss_one (ps_expr (pe_bm PySem.F.plainAttrs_list PySem.F.slot_list_append PySem.F.type_list_append mt_append (pv 5) (pa_cons (pv 8) pa_nil))))) pss_nil))))
  (pss_one (ps_set (i := 6) sc__law_home.nd rfl (Or.inl rfl) (pe_op op_add (pv 6) pe_int)))))
  (pss_cons (ps_set (i := 9) sc__law_home.nd rfl (Or.inl rfl) (pe_lst pa_nil))
  (pss_cons (ps_while PassesOwn.never (pt_cmpR op_ne (pv 3) (pv 2) (nomark _)) (pss_cons (ps_expr (pe_bm PySem.F.plainAttrs_list PySem.F.slot_list_insert PySem.F.type_list_insert mt_insertL (pv 9) (pa_cons pe_int (pa_cons (pe_dget (hu_of hr) (pv 4) (pv 3) (fun _ _ => rfl)) pa_nil))))
  (pss_one (ps_set (i := 3) sc__law_home.nd rfl (Or.inl rfl) (pe_dget (hu_of hr) (pv 1) (pe_dget (hu_of hr) (pv 4) (pv 3) (fun _ _ => rfl)) (fun _ _ => rfl))))))
  (pss_one (ps_ret (pv 9)))))))))
theorem b__law_home (kV doc pm : Value) (an : Option Addr) (cdv ct : Value) (us : List Value) (hl : us.length = (["_law_drawing_here", "_law_seats_here", "_law_start", "_law_goal"] : List Str).length) : bindArgs (PySem.W.fnOf "_law_home" "_law_home" (defArgs (top 43)) (defBody (top 43)) (defScope (top 43)) .none kV doc pm an cdv ct) ⟨us, []⟩ = pure ((["_law_drawing_here", "_law_seats_here", "_law_start", "_law_goal"] : List Str).zip us) :=
  match us, hl with | [_, _, _, _], _ => rfl
/-! ### _law_walk -/
abbrev nm__law_walk : List Str := ["_law_drawing_here", "_law_cell_here", "_law_most", "_law_seats_here", "_law_picks", "_law_walk_here", "_law_end", "_law_k", "_law_row"]
theorem sc__law_walk : FnScope nm__law_walk ["_law_drawing_here", "_law_cell_here", "_law_most"] (defScope (top 44)) := ⟨rfl, rfl, rfl, by decide +kernel, rfl, by decide +kernel, by decide +kernel⟩
def t__law_walk (K : PySem.W.Frag) (sp__law_draws : Sp) (sp__law_mate : Sp) (sp__law_seats : Sp) (sp__law_home : Sp) : TS := (tSeq (tAsg (tCall sp__law_seats [] E0 (tCons (tVar 0) tNil)) (gName 3))
  (tSeq (tIfS (tTest (tOp rEq (tCB rLenDK (tCons (tVar 3) tNil)) (tC (.int 0)))) (tRet (tLst tNil)) tNext)
  (tSeq (tAsg (tCall sp__law_draws [] E0 (tCons (tVar 1) (tCons (tOp rCat (tLst (tCons (tOp rPlus (tVar 2) (tC (.int 1))) (tCons (tCB rLenDK (tCons (tVar 3) tNil)) tNil))) (tOp rRep (tLst (tCons (tC (.int 60)) tNil)) (tVar 2))) tNil))) (gName 4))
  (tSeq (tAsg (tLst tNil) (gName 5))
  (tSeq (tAsg (tOp (rIxL K) (tVar 4) (tC (.int 1))) (gName 6))
  (tSeq (tFor (iRng1 (tCons (tOp (rIxL K) (tVar 4) (tC (.int 0))) tNil)) (gName 7) (tSeq (tDrop (tBM K "list" rAppend (tVar 5) (tCons (tVar 6) tNil)))
  (tSeq (tAsg (tOp (rIxL K) (tVar 0) (tDGet (tVar 3) (tCall sp__law_mate [] E0 (tCons (tVar 6) tNil)))) (gName 8))
  (tAsg (tOp (rIxL K) (tVar 8) (tOp rModP (tOp (rIxL K) (tVar 4) (tOp rPlus (tVar 7) (tC (.int 2)))) (tCB (rLenS K) (tCons (tVar 8) tNil)))) (gName 6)))))
  (tSeq (tIfS (tTest (tOp rEq (tCB (rLenS K) (tCons (tVar 5) tNil)) (tC (.int 0)))) (tRet (tLst tNil)) tNext)
  (tRet (tOp rCat (tVar 5) (tCall sp__law_home [] E0 (tCons (tVar 0) (tCons (tVar 3) (tCons (tDGet (tVar 3) (tCall sp__law_mate [] E0 (tCons (tOp (rIxL K) (tVar 5) (tUn rNegI (tC (.int 1)))) tNil))) (tCons (tDGet (tVar 3) (tOp (rIxL K) (tVar 5) (tC (.int 0)))) tNil))))))))))))))
theorem d__law_walk {P : Program} {w : World} {K : PySem.W.Frag} {mg : Str → Option Value} {base : Heap} (T : Txt K mg) (sp__law_draws : Sp) (sp__law_mate : Sp) (sp__law_seats : Sp) (sp__law_home : Sp) (G__law_draws : Keeps P w K mg base CX0 "_law_draws" 1 ["_law_cell_here", "_law_sizes"] sp__law_draws) (G__law_mate : Keeps P w K mg base CX0 "_law_mate" 1 ["_law_end"] sp__law_mate) (G__law_seats : Keeps P w K mg base CX0 "_law_seats" 1 ["_law_drawing_here"] sp__law_seats) (G__law_home : Keeps P w K mg base CX0 "_law_home" 2 ["_law_drawing_here", "_law_seats_here", "_law_start", "_law_goal"] sp__law_home)
  (f : Addr) (cdv : Value) (A : Around) (outer : List Env) (s : Shared) (H : Hp) (E : XK) (hr : Room 2 (A.deeper (envOfC "_law_walk" (defScope (top 44)) s.heap.objs.size f cdv))) :
  PSs (cxOf CX0 P w K mg base nm__law_walk "_law_walk" (defScope (top 44)) f cdv A outer s H E).nox (defBody (top 44)) (t__law_walk K sp__law_draws sp__law_mate sp__law_seats sp__law_home) :=
  (pss_cons (ps_set (i := 3) sc__law_walk.nd rfl (Or.inl rfl) (pe_f G__law_seats (hr.mono (by decide)) (by rfl) (pa_cons (pv 0) pa_nil)))
  (pss_cons (ps_if (pt_cmpR op_eq (pe_callB call_lenDK (by rfl) T.z_len (by decide +kernel) (pa_cons (pv 3) pa_nil)) pe_int (nomark _)) (pss_one (ps_ret (pe_lst pa_nil))) pss_nil)
  (pss_cons (ps_set (i := 4) sc__law_walk.nd rfl (Or.inl rfl) (pe_f G__law_draws (hr.mono (by decide)) (by rfl) (pa_cons (pv 1) (pa_cons (pe_op op_cat (pe_lst (pa_cons (pe_op op_add (pv 2) pe_int) (pa_cons (pe_callB call_lenDK (by rfl) T.z_len (by decide +kernel) (pa_cons (pv 3) pa_nil)) pa_nil))) (pe_op op_rep (pe_lst (pa_cons pe_int pa_nil)) (pv 2))) pa_nil))))
  (pss_cons (ps_set (i := 5) sc__law_walk.nd rfl (Or.inl rfl) (pe_lst pa_nil))
  (pss_cons (ps_set (i := 6) sc__law_walk.nd rfl (Or.inl rfl) (pe_ix ix_list (pv 4) pe_int (fun _ _ => rfl)))
  (pss_cons (ps_for PassesOwn.never rfl (pi_range1 (by rfl) T.z_range (pa_cons (pe_ix ix_list (pv 4) pe_int (fun _ _ => rfl)) pa_nil)) (pg_name (i := 7) sc__law_walk.nd rfl (Or.inl rfl)) (pss_cons (ps_expr (pe_bm PySem.F.plainAttrs_list PySem.F.slot_list_append PySem.F.type_list_append mt_append (pv 5) (pa_cons (pv 6) pa_nil)))
  (pss_cons (ps_set (i := 8) sc__law_walk.nd rfl (Or.inl rfl) (pe_ix ix_list (pv 0) (pe_dget (hu_of hr) (pv 3) (pe_f G__law_mate (hr.mono (by decide)) (by rfl) (pa_cons (pv 6) pa_nil)) (fun _ _ => rfl)) (fun _ _ => rfl)))
  (pss_one (ps_set (i := 6) sc__law_walk.nd rfl (Or.inl rfl) (pe_ix ix_list (pv 8) (pe_op op_mod (pe_ix ix_list (pv 4) (pe_op op_add (pv 7) pe_int) (fun _ _ => rfl)) (pe_callB call_lenLS (by rfl) T.z_len (by decide +kernel) (pa_cons (pv 8) pa_nil))) (fun _ _ => rfl)))))))
  (pss_cons (ps_if (pt_cmpR op_eq (pe_callB call_lenLS (by rfl) T.z_len (by decide +kernel) (pa_cons (pv 5) pa_nil)) pe_int (nomark _)) (pss_one (ps_ret (pe_lst pa_nil))) pss_nil)
  (pss_one (ps_ret (pe_op op_cat (pv 5) (pe_f G__law_home (hr.mono (by decide)) (by rfl) (pa_cons (pv 0) (pa_cons (pv 3) (pa_cons (pe_dget (hu_of hr) (pv 3) (pe_f G__law_mate (hr.mono (by decide)) (by rfl) (pa_cons (pe_ix ix_list (pv 5) (pe_un un_neg pe_int) (fun _ _ => rfl)) pa_nil)) (fun _ _ => rfl)) (pa_cons (pe_dget (hu_of hr) (pv 3) (pe_ix ix_list (pv 5) pe_int (fun _ _ => rfl)) (fun _ _ => rfl)) pa_nil)))))))))))))))
theorem b__law_walk (kV doc pm : Value) (an : Option Addr) (cdv ct : Value) (us : List Value) (hl : us.length = (["_law_drawing_here", "_law_cell_here", "_law_most"] : List Str).length) : bindArgs (PySem.W.fnOf "_law_walk" "_law_walk" (defArgs (top 44)) (defBody (top 44)) (defScope (top 44)) .none kV doc pm an cdv ct) ⟨us, []⟩ = pure ((["_law_drawing_here", "_law_cell_here", "_law_most"] : List Str).zip us) :=
  match us, hl with | [_, _, _], _ => rfl
/-! ### _law_about -/
abbrev nm__law_about : List Str := ["_law_walk_here", "_law_end"]
theorem sc__law_about : FnScope nm__law_about ["_law_walk_here"] (defScope (top 45)) := ⟨rfl, rfl, rfl, by decide +kernel, rfl, by decide +kernel, by decide +kernel⟩
def t__law_about (K : PySem.W.Frag) (sp__law_mate : Sp) : TS := (tRet (tLc (iList K (tRevL K (tVar 0))) (gName 1) tYes (tCall sp__law_mate [] E0 (tCons (tVar 1) tNil)) [1]))
theorem d__law_about {P : Program} {w : World} {K : PySem.W.Frag} {mg : Str → Option Value} {base : Heap} (T : Txt K mg) (sp__law_mate : Sp) (G__law_mate : Keeps P w K mg base CX0 "_law_mate" 1 ["_law_end"] sp__law_mate)
  (f : Addr) (cdv : Value) (A : Around) (outer : List Env) (s : Shared) (H : Hp) (E : XK) (hr : Room 1 (A.deeper (envOfC "_law_about" (defScope (top 45)) s.heap.objs.size f cdv))) :
  PSs (cxOf CX0 P w K mg base nm__law_about "_law_about" (defScope (top 45)) f cdv A outer s H E).nox (defBody (top 45)) (t__law_about K sp__law_mate) :=
  (pss_one (ps_ret (pe_lc (own := [("_law_end", 1)]) (g := gName 1) (tt := tYes) rfl sc__law_about.nd (pi_list (pe_revL (pv 0))) (blkOk_by (N := nm__law_about) (sc := defScope (top 45)) (by decide +kernel)) (fun _ _ _ _ _ => (pg_name (i := 1) sc__law_about.nd rfl (Or.inl rfl))) (fun _ _ _ _ _ => pts_nil) (fun _ _ _ _ _ => (pe_f G__law_mate (hr.mono (by decide)) (by rfl) (pa_cons (pv 1) pa_nil))))))
theorem b__law_about (kV doc pm : Value) (an : Option Addr) (cdv ct : Value) (us : List Value) (hl : us.length = (["_law_walk_here"] : List Str).length) : bindArgs (PySem.W.fnOf "_law_about" "_law_about" (defArgs (top 45)) (defBody (top 45)) (defScope (top 45)) .none kV doc pm an cdv ct) ⟨us, []⟩ = pure ((["_law_walk_here"] : List Str).zip us) :=
  match us, hl with | [_], _ => rfl
/-! ### _law_spoilt -/
abbrev nm__law_spoilt : List Str := ["_law_walk_here", "_law_ends", "_law_draws_here", "_law_how", "_law_at", "_law_to", "_law_number", "_law_found", "_law_value", "_law_kept"]
theorem sc__law_spoilt : FnScope nm__law_spoilt ["_law_walk_here", "_law_ends", "_law_draws_here"] (defScope (top 46)) := ⟨rfl, rfl, rfl, by decide +kernel, rfl, by decide +kernel, by decide +kernel⟩
def t__law_spoilt (K : PySem.W.Frag) (sp__law_about : Sp) : TS := (tSeq (tAsg (tVar 2) (gLst K 4 (gCons (gName 3) (gCons (gName 4) (gCons (gName 5) (gCons (gName 6) gNil))))))
  (tSeq (tAsg (tCB (rListS K) (tCons (tVar 0) tNil)) (gName 7))
  (tSeq (tAsg (tOp rMinus (tOp rModP (tVar 6) (tOp rPlus (tVar 1) (tC (.int 5)))) (tC (.int 2))) (gName 8))
  (tSeq (tIfS (tTest (tOp rMore (tVar 6) (tC (.int 52)))) (tAsg (tOp rTimes (tOp rPlus (tOp rPowP (tC (.int 10)) (tC (.int 59))) (tVar 6)) (tOp rMinus (tC (.int 1)) (tOp rTimes (tC (.int 2)) (tOp rModP (tVar 6) (tC (.int 2)))))) (gName 8)) tNext)
  (tSeq (tIfS (tTest (tOp rEq (tVar 3) (tC (.int 1)))) (tDrop (tBM K "list" rInsertL (tVar 7) (tCons (tOp rModP (tVar 4) (tOp rPlus (tCB (rLenS K) (tCons (tVar 7) tNil)) (tC (.int 1)))) (tCons (tVar 8) tNil)))) tNext)
  (tSeq (tIfS (tTest (tOp rEq (tCB (rLenS K) (tCons (tVar 7) tNil)) (tC (.int 0)))) (tRet (tVar 7)) tNext)
  (tSeq (tAsg (tOp rModP (tVar 4) (tCB (rLenS K) (tCons (tVar 7) tNil))) (gName 4))
  (tSeq (tAsg (tOp rModP (tVar 5) (tCB (rLenS K) (tCons (tVar 7) tNil))) (gName 5))
  (tSeq (tIfS (tTest (tOp rEq (tVar 3) (tC (.int 2)))) (tAsg (tVar 8) (gSub (tVar 7) (tVar 4) rSetL)) tNext)
  (tSeq (tIfS (tTest (tOp rEq (tVar 3) (tC (.int 3)))) (tDrop (tBM K "list" rPopAt (tVar 7) (tCons (tVar 4) tNil))) tNext)
  (tSeq (tIfS (tTest (tOp rEq (tVar 3) (tC (.int 4)))) (tSeq (tAsg (tOp (rIxL K) (tVar 7) (tVar 4)) (gName 9))
  (tSeq (tAsg (tOp (rIxL K) (tVar 7) (tVar 5)) (gSub (tVar 7) (tVar 4) rSetL))
  (tAsg (tVar 9) (gSub (tVar 7) (tVar 5) rSetL)))) tNext)
  (tSeq (tIfS (tTest (tOp rEq (tVar 3) (tC (.int 5)))) (tAsg (tRevL K (tVar 7)) (gName 7)) tNext)
  (tSeq (tIfS (tTest (tOp rEq (tVar 3) (tC (.int 6)))) (tAsg (tOp rCat (tSl (rSlL K) (tVar 7) (tPart (tVar 4)) tNoPart) (tSl (rSlL K) (tVar 7) tNoPart (tPart (tVar 4)))) (gName 7)) tNext)
  (tSeq (tIfS (tTest (tOp rEq (tVar 3) (tC (.int 7)))) (tAsg (tCall sp__law_about [] E0 (tCons (tVar 7) tNil)) (gName 7)) tNext)
  (tRet (tVar 7))))))))))))))))
theorem d__law_spoilt {P : Program} {w : World} {K : PySem.W.Frag} {mg : Str → Option Value} {base : Heap} (T : Txt K mg) (sp__law_about : Sp) (G__law_about : Keeps P w K mg base CX0 "_law_about" 2 ["_law_walk_here"] sp__law_about)
  (f : Addr) (cdv : Value) (A : Around) (outer : List Env) (s : Shared) (H : Hp) (E : XK) (hr : Room 2 (A.deeper (envOfC "_law_spoilt" (defScope (top 46)) s.heap.objs.size f cdv))) :
  PSs (cxOf CX0 P w K mg base nm__law_spoilt "_law_spoilt" (defScope (top 46)) f cdv A outer s H E).nox (defBody (top 46)) (t__law_spoilt K sp__law_about) :=
  (pss_cons (ps_asg (pv 2) (pg_lst rfl (pgs_cons (pg_name (i := 3) sc__law_spoilt.nd rfl (Or.inl rfl)) (pgs_cons (pg_name (i := 4) sc__law_spoilt.nd rfl (Or.inl rfl)) (pgs_cons (pg_name (i := 5) sc__law_spoilt.nd rfl (Or.inl rfl)) (pgs_cons (pg_name (i := 6) sc__law_spoilt.nd rfl (Or.inl rfl)) pgs_nil))))))
  (pss_cons (ps_set (i := 7) sc__law_spoilt.nd rfl (Or.inl rfl) (pe_callTy call_listLS (by rfl) T.z_list (by decide +kernel) (pa_cons (pv 0) pa_nil)))
  (pss_cons (ps_set (i := 8) sc__law_spoilt.nd rfl (Or.inl rfl) (pe_op op_sub (pe_op op_mod (pv 6) (pe_op op_add (pv 1) pe_int)) pe_int))
  (pss_cons (ps_if (pt_cmpR op_gt (pv 6) pe_int (nomark _)) (pss_one (ps_set (i := 8) sc__law_spoilt.nd rfl (Or.inl rfl) (pe_op op_mul (pe_op op_add (pe_op op_pow pe_int pe_int) (pv 6)) (pe_op op_sub pe_int (pe_op op_mul pe_int (pe_op op_mod (pv 6) pe_int)))))) pss_nil)
  (pss_cons (ps_if (pt_cmpR op_eq (pv 3) pe_int (nomark _)) (pss_one (ps_expr (pe_bm PySem.F.plainAttrs_list PySem.F.slot_list_insert PySem.F.type_list_insert mt_insertL (pv 7) (pa_cons (pe_op op_mod (pv 4) (pe_op op_add (pe_callB call_lenLS (by rfl) T.z_len (by decide +kernel) (pa_cons (pv 7) pa_nil)) pe_int)) (pa_cons (pv 8) pa_nil))))) pss_nil)
  (pss_cons (ps_if (pt_cmpR op_eq (pe_callB call_lenLS (by rfl) T.z_len (by decide +kernel) (pa_cons (pv 7) pa_nil)) pe_int (nomark _)) (pss_one (ps_ret (pv 7))) pss_nil)
  (pss_cons (ps_set (i := 4) sc__law_spoilt.nd rfl (Or.inl rfl) (pe_op op_mod (pv 4) (pe_callB call_lenLS (by rfl) T.z_len (by decide +kernel) (pa_cons (pv 7) pa_nil))))
  (pss_cons (ps_set (i := 5) sc__law_spoilt.nd rfl (Or.inl rfl) (pe_op op_mod (pv 5) (pe_callB call_lenLS (by rfl) T.z_len (by decide +kernel) (pa_cons (pv 7) pa_nil))))
  (pss_cons (ps_if (pt_cmpR op_eq (pv 3) pe_int (nomark _)) (pss_one (ps_asg (pv 8) (pg_sub (pv 7) (pv 4) set_list))) pss_nil)
  (pss_cons (ps_if (pt_cmpR op_eq (pv 3) pe_int (nomark _)) (pss_one (ps_expr (pe_bm PySem.F.plainAttrs_list PySem.F.slot_list_pop PySem.F.type_list_pop mt_popAt (pv 7) (pa_cons (pv 4) pa_nil)))) pss_nil)
  (pss_cons (ps_if (pt_cmpR op_eq (pv 3) pe_int (nomark _)) (pss_cons (ps_set (i := 9) sc__law_spoilt.nd rfl (Or.inl rfl) (pe_ix ix_list (pv 7) (pv 4) (fun _ _ => rfl)))
  (pss_cons (ps_asg (pe_ix ix_list (pv 7) (pv 5) (fun _ _ => rfl)) (pg_sub (pv 7) (pv 4) set_list))
  (pss_one (ps_asg (pv 9) (pg_sub (pv 7) (pv 5) set_list))))) pss_nil)
  (pss_cons (ps_if (pt_cmpR op_eq (pv 3) pe_int (nomark _)) (pss_one (ps_set (i := 7) sc__law_spoilt.nd rfl (Or.inl rfl) (pe_revL (pv 7)))) pss_nil)
  (pss_cons (ps_if (pt_cmpR op_eq (pv 3) pe_int (nomark _)) (pss_one (ps_set (i := 7) sc__law_spoilt.nd rfl (Or.inl rfl) (pe_op op_cat (pe_slice sl_list (pv 7) (po_some (pv 4)) po_none) (pe_slice sl_list (pv 7) po_none (po_some (pv 4)))))) pss_nil)
  (pss_cons (ps_if (pt_cmpR op_eq (pv 3) pe_int (nomark _)) (pss_one (ps_set (i := 7) sc__law_spoilt.nd rfl (Or.inl rfl) (pe_f G__law_about (hr.mono (by decide)) (by rfl) (pa_cons (pv 7) pa_nil)))) pss_nil)
  (pss_one (ps_ret (pv 7)))))))))))))))))
theorem b__law_spoilt (kV doc pm : Value) (an : Option Addr) (cdv ct : Value) (us : List Value) (hl : us.length = (["_law_walk_here", "_law_ends", "_law_draws_here"] : List Str).length) : bindArgs (PySem.W.fnOf "_law_spoilt" "_law_spoilt" (defArgs (top 46)) (defBody (top 46)) (defScope (top 46)) .none kV doc pm an cdv ct) ⟨us, []⟩ = pure ((["_law_walk_here", "_law_ends", "_law_draws_here"] : List Str).zip us) :=
  match us, hl with | [_, _, _], _ => rfl
/-! ### _law_is_walk -/
abbrev nm__law_is_walk : List Str := ["_law_drawing_here", "_law_ends", "_law_seats_here", "_law_end", "_law_k"]
theorem sc__law_is_walk : FnScope nm__law_is_walk ["_law_drawing_here", "_law_ends"] (defScope (top 47)) := ⟨rfl, rfl, rfl, by decide +kernel, rfl, by decide +kernel, by decide +kernel⟩
def t__law_is_walk (K : PySem.W.Frag) (sp__law_mate : Sp) (sp__law_seats : Sp) : TS := (tSeq (tAsg (tCall sp__law_seats [] E0 (tCons (tVar 0) tNil)) (gName 2))
  (tSeq (tFor (iList K (tVar 1)) (gName 3) (tIfS (tB (tDNotIn (tVar 3) (tVar 2))) (tRet (tC (.bl false))) tNext))
  (tSeq (tFor (iRng1 (tCons (tCB (rLenS K) (tCons (tVar 1) tNil)) tNil)) (gName 4) (tIfS (tTest (tOp rNe (tDGet (tVar 2) (tCall sp__law_mate [] E0 (tCons (tOp (rIxL K) (tVar 1) (tOp rMinus (tVar 4) (tC (.int 1)))) tNil))) (tDGet (tVar 2) (tOp (rIxL K) (tVar 1) (tVar 4))))) (tRet (tC (.bl false))) tNext))
  (tRet (tC (.bl true))))))
theorem d__law_is_walk {P : Program} {w : World} {K : PySem.W.Frag} {mg : Str → Option Value} {base : Heap} (T : Txt K mg) (sp__law_mate : Sp) (sp__law_seats : Sp) (G__law_mate : Keeps P w K mg base CX0 "_law_mate" 1 ["_law_end"] sp__law_mate) (G__law_seats : Keeps P w K mg base CX0 "_law_seats" 1 ["_law_drawing_here"] sp__law_seats)
  (f : Addr) (cdv : Value) (A : Around) (outer : List Env) (s : Shared) (H : Hp) (E : XK) (hr : Room 1 (A.deeper (envOfC "_law_is_walk" (defScope (top 47)) s.heap.objs.size f cdv))) :
  PSs (cxOf CX0 P w K mg base nm__law_is_walk "_law_is_walk" (defScope (top 47)) f cdv A outer s H E).nox (defBody (top 47)) (t__law_is_walk K sp__law_mate sp__law_seats) :=
  (pss_cons (ps_set (i := 2) sc__law_is_walk.nd rfl (Or.inl rfl) (pe_f G__law_seats (hr.mono (by decide)) (by rfl) (pa_cons (pv 0) pa_nil)))
  (pss_cons (ps_for PassesOwn.never rfl (pi_list (pv 1)) (pg_name (i := 3) sc__law_is_walk.nd rfl (Or.inl rfl)) (pss_one (ps_if (pt_cmp (pc_dnotin (hu_of hr) (pv 3) (pv 2)) rfl) (pss_one (ps_ret pe_bl)) pss_nil)))
  (pss_cons (ps_for PassesOwn.never rfl (pi_range1 (by rfl) T.z_range (pa_cons (pe_callB call_lenLS (by rfl) T.z_len (by decide +kernel) (pa_cons (pv 1) pa_nil)) pa_nil)) (pg_name (i := 4) sc__law_is_walk.nd rfl (Or.inl rfl)) (pss_one (ps_if (pt_cmpR op_ne (pe_dget (hu_of hr) (pv 2) (pe_f G__law_mate (hr.mono (by decide)) (by rfl) (pa_cons (pe_ix ix_list (pv 1) (pe_op op_sub (pv 4) pe_int) (fun _ _ => rfl)) pa_nil)) (fun _ _ => rfl)) (pe_dget (hu_of hr) (pv 2) (pe_ix ix_list (pv 1) (pv 4) (fun _ _ => rfl)) (fun _ _ => rfl)) (nomark _)) (pss_one (ps_ret pe_bl)) pss_nil)))
  (pss_one (ps_ret pe_bl)))))
theorem b__law_is_walk (kV doc pm : Value) (an : Option Addr) (cdv ct : Value) (us : List Value) (hl : us.length = (["_law_drawing_here", "_law_ends"] : List Str).length) : bindArgs (PySem.W.fnOf "_law_is_walk" "_law_is_walk" (defArgs (top 47)) (defBody (top 47)) (defScope (top 47)) .none kV doc pm an cdv ct) ⟨us, []⟩ = pure ((["_law_drawing_here", "_law_ends"] : List Str).zip us) :=
  match us, hl with | [_, _], _ => rfl
/-! ### _law_is_turn -/
abbrev nm__law_is_turn : List Str := ["_law_drawing_here", "_law_ends", "_law_seats_here", "_law_end"]
theorem sc__law_is_turn : FnScope nm__law_is_turn ["_law_drawing_here", "_law_ends"] (defScope (top 48)) := ⟨rfl, rfl, rfl, by decide +kernel, rfl, by decide +kernel, by decide +kernel⟩
def t__law_is_turn (K : PySem.W.Frag) (sp__law_seats : Sp) (sp__law_is_walk : Sp) : TS := (tSeq (tIfS (tOr (tTest (tOp rEq (tCB (rLenS K) (tCons (tVar 1) tNil)) (tC (.int 0)))) (tNot (tB (tCall sp__law_is_walk [] E0 (tCons (tVar 0) (tCons (tVar 1) tNil)))))) (tRet (tC (.bl false))) tNext)
  (tSeq (tAsg (tCall sp__law_seats [] E0 (tCons (tVar 0) tNil)) (gName 2))
  (tSeq (tIfS (tTest (tOp rNe (RZ.tLenSetI K (tLc (iList K (tVar 1)) (gName 3) tYes (tDGet (tVar 2) (tVar 3)) [3])) (tCB (rLenS K) (tCons (tVar 1) tNil)))) (tRet (tC (.bl false))) tNext)
  (tRet (tOp rEq (RZ.tLenSetI K (tLc (iList K (tVar 1)) (gName 3) tYes (tOp rDivP (tVar 3) (tC (.int 2))) [3])) (tCB (rLenS K) (tCons (tVar 1) tNil)))))))
theorem d__law_is_turn {P : Program} {w : World} {K : PySem.W.Frag} {mg : Str → Option Value} {base : Heap} (T : Txt K mg) (sp__law_seats : Sp) (sp__law_is_walk : Sp) (G__law_seats : Keeps P w K mg base CX0 "_law_seats" 1 ["_law_drawing_here"] sp__law_seats) (G__law_is_walk : Keeps P w K mg base CX0 "_law_is_walk" 2 ["_law_drawing_here", "_law_ends"] sp__law_is_walk)
  (f : Addr) (cdv : Value) (A : Around) (outer : List Env) (s : Shared) (H : Hp) (E : XK) (hr : Room 2 (A.deeper (envOfC "_law_is_turn" (defScope (top 48)) s.heap.objs.size f cdv))) :
  PSs (cxOf CX0 P w K mg base nm__law_is_turn "_law_is_turn" (defScope (top 48)) f cdv A outer s H E).nox (defBody (top 48)) (t__law_is_turn K sp__law_seats sp__law_is_walk) :=
  (pss_cons (ps_if (PW.pt (pw_or (pt_cmpR op_eq (pe_callB call_lenLS (by rfl) T.z_len (by decide +kernel) (pa_cons (pv 1) pa_nil)) pe_int (nomark _)) (pw_or1 (pt_not (pt_val (pe_f G__law_is_walk (hr.mono (by decide)) (by rfl) (pa_cons (pv 0) (pa_cons (pv 1) pa_nil)))))))) (pss_one (ps_ret pe_bl)) pss_nil)
  (pss_cons (ps_set (i := 2) sc__law_is_turn.nd rfl (Or.inr rfl) (pe_f G__law_seats (hr.mono (by decide)) (by rfl) (pa_cons (pv 0) pa_nil)))
  (pss_cons (ps_if (pt_cmpR op_ne (RZ.pe_lenSetI (by rfl) T.z_len (by rfl) T.z_set (pe_lc (own := [("_law_end", 3)]) (g := gName 3) (tt := tYes) rfl sc__law_is_turn.nd (pi_list (pv 1)) (blkOk_by (N := nm__law_is_turn) (sc := defScope (top 48)) (by decide +kernel)) (fun _ _ _ _ _ => (pg_name (i := 3) sc__law_is_turn.nd rfl (Or.inl rfl))) (fun _ _ _ _ _ => pts_nil) (fun _ _ _ _ _ => (pe_dget (hu_of hr) (pv 2) (pv 3) (fun _ _ => rfl))))) (pe_callB call_lenLS (by rfl) T.z_len (by decide +kernel) (pa_cons (pv 1) pa_nil)) (nomark _)) (pss_one (ps_ret pe_bl)) pss_nil)
  (pss_one (ps_ret (pe_cmpR op_eq (RZ.pe_lenSetI (by rfl) T.z_len (by rfl) T.z_set (pe_lc (own := [("_law_end", 3)]) (g := gName 3) (tt := tYes) rfl sc__law_is_turn.nd (pi_list (pv 1)) (blkOk_by (N := nm__law_is_turn) (sc := defScope (top 48)) (by decide +kernel)) (fun _ _ _ _ _ => (pg_name (i := 3) sc__law_is_turn.nd rfl (Or.inl rfl))) (fun _ _ _ _ _ => pts_nil) (fun _ _ _ _ _ => (pe_op op_fdiv (pv 3) pe_int)))) (pe_callB call_lenLS (by rfl) T.z_len (by decide +kernel) (pa_cons (pv 1) pa_nil)) (nomark _)))))))
theorem b__law_is_turn (kV doc pm : Value) (an : Option Addr) (cdv ct : Value) (us : List Value) (hl : us.length = (["_law_drawing_here", "_law_ends"] : List Str).length) : bindArgs (PySem.W.fnOf "_law_is_turn" "_law_is_turn" (defArgs (top 48)) (defBody (top 48)) (defScope (top 48)) .none kV doc pm an cdv ct) ⟨us, []⟩ = pure ((["_law_drawing_here", "_law_ends"] : List Str).zip us) :=
  match us, hl with | [_, _], _ => rfl
/-! ### _law_lefts -/
abbrev nm__law_lefts : List Str := ["_law_drawing_here", "_law_walk_here", "_law_behind_here", "_law_counts", "_law_k", "_law_comes", "_law_end"]
theorem sc__law_lefts : FnScope nm__law_lefts ["_law_drawing_here", "_law_walk_here"] (defScope (top 49)) := ⟨rfl, rfl, rfl, by decide +kernel, rfl, by decide +kernel, by decide +kernel⟩
def t__law_lefts (K : PySem.W.Frag) (sp__law_mate : Sp) (sp__law_behind : Sp) : TS := (tSeq (tAsg (tCall sp__law_behind [] E0 (tCons (tVar 0) tNil)) (gName 2))
  (tSeq (tAsg (tOp rRep (tLst (tCons (tC (.int 0)) tNil)) (tCB rLenDK (tCons (tVar 2) tNil))) (gName 3))
  (tSeq (tFor (iRng1 (tCons (tCB (rLenS K) (tCons (tVar 1) tNil)) tNil)) (gName 4) (tSeq (tAsg (tCall sp__law_mate [] E0 (tCons (tOp (rIxL K) (tVar 1) (tOp rMinus (tVar 4) (tC (.int 1)))) tNil)) (gName 5))
  (tSeq (tAsg (tDGet (tVar 2) (tVar 5)) (gName 6))
  (tWhile (tAnd (tTest (tOp rNe (tVar 6) (tOp (rIxL K) (tVar 1) (tVar 4)))) (tTest (tOp rNe (tVar 6) (tVar 5)))) (tSeq (tAsg (tOp rPlus (tOp (rIxL K) (tVar 3) (tVar 6)) (tC (.int 1))) (gSub (tVar 3) (tVar 6) rSetL))
  (tAsg (tDGet (tVar 2) (tVar 6)) (gName 6)))))))
  (tRet (tVar 3)))))
theorem d__law_lefts {P : Program} {w : World} {K : PySem.W.Frag} {mg : Str → Option Value} {base : Heap} (T : Txt K mg) (sp__law_mate : Sp) (sp__law_behind : Sp) (G__law_mate : Keeps P w K mg base CX0 "_law_mate" 1 ["_law_end"] sp__law_mate) (G__law_behind : Keeps P w K mg base CX0 "_law_behind" 1 ["_law_drawing_here"] sp__law_behind)
  (f : Addr) (cdv : Value) (A : Around) (outer : List Env) (s : Shared) (H : Hp) (E : XK) (hr : Room 1 (A.deeper (envOfC "_law_lefts" (defScope (top 49)) s.heap.objs.size f cdv))) :
  PSs (cxOf CX0 P w K mg base nm__law_lefts "_law_lefts" (defScope (top 49)) f cdv A outer s H E).nox (defBody (top 49)) (t__law_lefts K sp__law_mate sp__law_behind) :=
  (pss_cons (ps_set (i := 2) sc__law_lefts.nd rfl (Or.inl rfl) (pe_f G__law_behind (hr.mono (by decide)) (by rfl) (pa_cons (pv 0) pa_nil)))
  (pss_cons (ps_set (i := 3) sc__law_lefts.nd rfl (Or.inl rfl) (pe_op op_rep (pe_lst (pa_cons pe_int pa_nil)) (pe_callB call_lenDK (by rfl) T.z_len (by decide +kernel) (pa_cons (pv 2) pa_nil))))
  (pss_cons (ps_for PassesOwn.never rfl (pi_range1 (by rfl) T.z_range (pa_cons (pe_callB call_lenLS (by rfl) T.z_len (by decide +kernel) (pa_cons (pv 1) pa_nil)) pa_nil)) (pg_name (i := 4) sc__law_lefts.nd rfl (Or.inl rfl)) (pss_cons (ps_set (i := 5) sc__law_lefts.nd rfl (Or.inl rfl) (pe_f G__law_mate (hr.mono (by decide)) (by rfl) (pa_cons (pe_ix ix_list (pv 1) (pe_op op_sub (pv 4) pe_int) (fun _ _ => rfl)) pa_nil)))
  (pss_cons (ps_set (i := 6) sc__law_lefts.nd rfl (Or.inl rfl) (pe_dget (hu_of hr) (pv 2) (pv 5) (fun _ _ => rfl)))
  (pss_one (ps_while PassesOwn.never (PW.pt (pw_and (pt_cmpR op_ne (pv 6) (pe_ix ix_list (pv 1) (pv 4) (fun _ _ => rfl)) (nomark _)) (pw_and1 (pt_cmpR op_ne (pv 6) (pv 5) (nomark _))))) (pss_cons (ps_asg (pe_op op_add (pe_ix ix_list (pv 3) (pv 6) (fun _ _ => rfl)) pe_int) (pg_sub (pv 3) (pv 6) set_list))
  (pss_one (ps_set (i := 6) sc__law_lefts.nd rfl (Or.inl rfl) (pe_dget (hu_of hr) (pv 2) (pv 6) (fun _ _ => rfl))))))))))
  (pss_one (ps_ret (pv 3))))))
theorem b__law_lefts (kV doc pm : Value) (an : Option Addr) (cdv ct : Value) (us : List Value) (hl : us.length = (["_law_drawing_here", "_law_walk_here"] : List Str).length) : bindArgs (PySem.W.fnOf "_law_lefts" "_law_lefts" (defArgs (top 49)) (defBody (top 49)) (defScope (top 49)) .none kV doc pm an cdv ct) ⟨us, []⟩ = pure ((["_law_drawing_here", "_law_walk_here"] : List Str).zip us) :=
  match us, hl with | [_, _], _ => rfl
/-! ### _law_crossing -/
abbrev nm__law_crossing : List Str := ["_law_drawing_here", "_law_walk_here", "_law_other", "_law_counts", "_law_end"]
theorem sc__law_crossing : FnScope nm__law_crossing ["_law_drawing_here", "_law_walk_here", "_law_other"] (defScope (top 50)) := ⟨rfl, rfl, rfl, by decide +kernel, rfl, by decide +kernel, by decide +kernel⟩
def t__law_crossing (K : PySem.W.Frag) (sp__law_mate : Sp) (sp__law_lefts : Sp) : TS := (tSeq (tAsg (tCall sp__law_lefts [] E0 (tCons (tVar 0) (tCons (tVar 1) tNil))) (gName 3))
  (tRet (tCB (rSum K) (tCons (tLc (iList K (tVar 2)) (gName 4) tYes (tOp rMinus (tOp (rIxL K) (tVar 3) (tVar 4)) (tOp (rIxL K) (tVar 3) (tCall sp__law_mate [] E0 (tCons (tVar 4) tNil)))) [4]) tNil))))
theorem d__law_crossing {P : Program} {w : World} {K : PySem.W.Frag} {mg : Str → Option Value} {base : Heap} (T : Txt K mg) (sp__law_mate : Sp) (sp__law_lefts : Sp) (G__law_mate : Keeps P w K mg base CX0 "_law_mate" 1 ["_law_end"] sp__law_mate) (G__law_lefts : Keeps P w K mg base CX0 "_law_lefts" 2 ["_law_drawing_here", "_law_walk_here"] sp__law_lefts)
  (f : Addr) (cdv : Value) (A : Around) (outer : List Env) (s : Shared) (H : Hp) (E : XK) (hr : Room 2 (A.deeper (envOfC "_law_crossing" (defScope (top 50)) s.heap.objs.size f cdv))) :
  PSs (cxOf CX0 P w K mg base nm__law_crossing "_law_crossing" (defScope (top 50)) f cdv A outer s H E).nox (defBody (top 50)) (t__law_crossing K sp__law_mate sp__law_lefts) :=
  (pss_cons (ps_set (i := 3) sc__law_crossing.nd rfl (Or.inr rfl) (pe_f G__law_lefts (hr.mono (by decide)) (by rfl) (pa_cons (pv 0) (pa_cons (pv 1) pa_nil))))
  (pss_one (ps_ret (pe_callB (cr_sum rfl) (by rfl) T.z_sum (by decide +kernel) (pa_cons (pe_lc (own := [("_law_end", 4)]) (g := gName 4) (tt := tYes) rfl sc__law_crossing.nd (pi_list (pv 2)) (blkOk_by (N := nm__law_crossing) (sc := defScope (top 50)) (by decide +kernel)) (fun _ _ _ _ _ => (pg_name (i := 4) sc__law_crossing.nd rfl (Or.inl rfl))) (fun _ _ _ _ _ => pts_nil) (fun _ _ _ _ _ => (pe_op op_sub (pe_ix ix_list (pv 3) (pv 4) (fun _ _ => rfl)) (pe_ix ix_list (pv 3) (pe_f G__law_mate (hr.mono (by decide)) (by rfl) (pa_cons (pv 4) pa_nil)) (fun _ _ => rfl))))) pa_nil)))))
theorem b__law_crossing (kV doc pm : Value) (an : Option Addr) (cdv ct : Value) (us : List Value) (hl : us.length = (["_law_drawing_here", "_law_walk_here", "_law_other"] : List Str).length) : bindArgs (PySem.W.fnOf "_law_crossing" "_law_crossing" (defArgs (top 50)) (defBody (top 50)) (defScope (top 50)) .none kV doc pm an cdv ct) ⟨us, []⟩ = pure ((["_law_drawing_here", "_law_walk_here", "_law_other"] : List Str).zip us) :=
  match us, hl with | [_, _, _], _ => rfl
/-! ### _law_wholes -/
abbrev nm__law_wholes : List Str := ["_law_found", "_law_number"]
theorem sc__law_wholes : FnScope nm__law_wholes ["_law_found"] (defScope (top 51)) := ⟨rfl, rfl, rfl, by decide +kernel, rfl, by decide +kernel, by decide +kernel⟩
def t__law_wholes (K : PySem.W.Frag) : TS := (tSeq (tIfS (tNot (tB (tCB (rIsi K) (tCons (tVar 0) (tCons (tC (.ty "list")) tNil))))) (tRet (tC (.bl false))) tNext)
  (tSeq (tFor (iList K (tVar 0)) (gName 1) (tIfS (tOr (tNot (tB (tCB (rIsi K) (tCons (tVar 1) (tCons (tC (.ty "int")) tNil))))) (tB (tCB (rIsi K) (tCons (tVar 1) (tCons (tC (.ty "bool")) tNil))))) (tRet (tC (.bl false))) tNext))
  (tRet (tC (.bl true)))))
theorem d__law_wholes {P : Program} {w : World} {K : PySem.W.Frag} {mg : Str → Option Value} {base : Heap} (T : Txt K mg) 
  (f : Addr) (cdv : Value) (A : Around) (outer : List Env) (s : Shared) (H : Hp) (E : XK) (hr : Room 0 (A.deeper (envOfC "_law_wholes" (defScope (top 51)) s.heap.objs.size f cdv))) :
  PSs (cxOf CX0 P w K mg base nm__law_wholes "_law_wholes" (defScope (top 51)) f cdv A outer s H E).nox (defBody (top 51)) (t__law_wholes K) :=
  (pss_cons (ps_if (pt_not (pt_val (pe_callB call_isi (by rfl) T.z_isinstance (by decide +kernel) (pa_cons (pv 0) (pa_cons (pe_bltn (v := .ty "list") (u := .type "list") (by rfl) T.z_list (by decide +kernel) rfl) pa_nil))))) (pss_one (ps_ret pe_bl)) pss_nil)
  (pss_cons (ps_for PassesOwn.never rfl (pi_list (pv 0)) (pg_name (i := 1) sc__law_wholes.nd rfl (Or.inl rfl)) (pss_one (ps_if (PW.pt (pw_or (pt_not (pt_val (pe_callB call_isi (by rfl) T.z_isinstance (by decide +kernel) (pa_cons (pv 1) (pa_cons (pe_bltn (v := .ty "int") (u := .type "int") (by rfl) T.z_int (by decide +kernel) rfl) pa_nil))))) (pw_or1 (pt_val (pe_callB call_isi (by rfl) T.z_isinstance (by decide +kernel) (pa_cons (pv 1) (pa_cons (pe_bltn (v := .ty "bool") (u := .type "bool") (by rfl) T.z_bool (by decide +kernel) rfl) pa_nil))))))) (pss_one (ps_ret pe_bl)) pss_nil)))
  (pss_one (ps_ret pe_bl))))
theorem b__law_wholes (kV doc pm : Value) (an : Option Addr) (cdv ct : Value) (us : List Value) (hl : us.length = (["_law_found"] : List Str).length) : bindArgs (PySem.W.fnOf "_law_wholes" "_law_wholes" (defArgs (top 51)) (defBody (top 51)) (defScope (top 51)) .none kV doc pm an cdv ct) ⟨us, []⟩ = pure ((["_law_found"] : List Str).zip us) :=
  match us, hl with | [_], _ => rfl
/-! ### _law_parts -/
abbrev nm__law_parts : List Str := ["_law_drawing_here", "_law_seats_here", "_law_seen", "_law_parts_here", "_law_start", "_law_part", "_law_waiting", "_law_place", "_law_end"]
theorem sc__law_parts : FnScope nm__law_parts ["_law_drawing_here"] (defScope (top 52)) := ⟨rfl, rfl, rfl, by decide +kernel, rfl, by decide +kernel, by decide +kernel⟩
def t__law_parts (K : PySem.W.Frag) (sp__law_mate : Sp) (sp__law_seats : Sp) : TS := (tSeq (tAsg (tCall sp__law_seats [] E0 (tCons (tVar 0) tNil)) (gName 1))
  (tSeq (tAsg tDNewK (gName 2))
  (tSeq (tAsg (tLst tNil) (gName 3))
  (tSeq (tFor (iRng1 (tCons (tCB (rLenS K) (tCons (tVar 0) tNil)) tNil)) (gName 4) (tSeq (tAsg (tLst tNil) (gName 5))
  (tSeq (tAsg (tLst (tCons (tVar 4) tNil)) (gName 6))
  (tSeq (tWhile (tTest (tOp rMore (tCB (rLenS K) (tCons (tVar 6) tNil)) (tC (.int 0)))) (tSeq (tAsg (tBM0 K "list" rPop (tVar 6)) (gName 7))
  (tIfS (tB (tDNotIn (tVar 7) (tVar 2))) (tSeq (sDPut (tVar 2) (tVar 7) (tC (.bl true)))
  (tSeq (tDrop (tBM K "list" rAppend (tVar 5) (tCons (tVar 7) tNil)))
  (tDrop (tBM K "list" rExtend (tVar 6) (tCons (tLc (iList K (tOp (rIxL K) (tVar 0) (tVar 7))) (gName 8) tYes (tDGet (tVar 1) (tCall sp__law_mate [] E0 (tCons (tVar 8) tNil))) [8]) tNil))))) tNext)))
  (tIfS (tTest (tOp rMore (tCB (rLenS K) (tCons (tVar 5) tNil)) (tC (.int 0)))) (tDrop (tBM K "list" rAppend (tVar 3) (tCons (tCB (rSortedI K) (tCons (tVar 5) tNil)) tNil))) tNext)))))
  (tRet (tVar 3))))))
theorem d__law_parts {P : Program} {w : World} {K : PySem.W.Frag} {mg : Str → Option Value} {base : Heap} (T : Txt K mg) (sp__law_mate : Sp) (sp__law_seats : Sp) (G__law_mate : Keeps P w K mg base CX0 "_law_mate" 1 ["_law_end"] sp__law_mate) (G__law_seats : Keeps P w K mg base CX0 "_law_seats" 1 ["_law_drawing_here"] sp__law_seats)
  (f : Addr) (cdv : Value) (A : Around) (outer : List Env) (s : Shared) (H : Hp) (E : XK) (hr : Room 1 (A.deeper (envOfC "_law_parts" (defScope (top 52)) s.heap.objs.size f cdv))) :
  PSs (cxOf CX0 P w K mg base nm__law_parts "_law_parts" (defScope (top 52)) f cdv A outer s H E).nox (defBody (top 52)) (t__law_parts K sp__law_mate sp__law_seats) :=
  (pss_cons (ps_set (i := 1) sc__law_parts.nd rfl (Or.inr rfl) (pe_f G__law_seats (hr.mono (by decide)) (by rfl) (pa_cons (pv 0) pa_nil)))
  (pss_cons (ps_set (i := 2) sc__law_parts.nd rfl (Or.inl rfl) pe_dnewK)
  (pss_cons (ps_set (i := 3) sc__law_parts.nd rfl (Or.inl rfl) (pe_lst pa_nil))
  (pss_cons (ps_for PassesOwn.never rfl (pi_range1 (by rfl) T.z_range (pa_cons (pe_callB call_lenLS (by rfl) T.z_len (by decide +kernel) (pa_cons (pv 0) pa_nil)) pa_nil)) (pg_name (i := 4) sc__law_parts.nd rfl (Or.inl rfl)) (pss_cons (ps_set (i := 5) sc__law_parts.nd rfl (Or.inl rfl) (pe_lst pa_nil))
  (pss_cons (ps_set (i := 6) sc__law_parts.nd rfl (Or.inl rfl) (pe_lst (pa_cons (pv 4) pa_nil)))
  (pss_cons (ps_while PassesOwn.never (pt_cmpR op_gt (pe_callB call_lenLS (by rfl) T.z_len (by decide +kernel) (pa_cons (pv 6) pa_nil)) pe_int (nomark _)) (pss_cons (ps_set (i := 7) sc__law_parts.nd rfl (Or.inl rfl) (pe_bm0 PySem.F.plainAttrs_list PySem.F.slot_list_pop PySem.F.type_list_pop mt_pop (pv 6)))
  (pss_one (ps_if (pt_cmp (pc_dnotin (hu_of hr) (pv 7) (pv 2)) rfl) (pss_cons (ps_dput (hu_of hr) (pv 2) (pv 7) pe_bl rfl)
  (pss_cons (ps_expr (pe_bm PySem.F.plainAttrs_list PySem.F.slot_list_append PySem.F.type_list_append mt_append (pv 5) (pa_cons (pv 7) pa_nil)))
  (pss_one (ps_expr (pe_bm PySem.F.plainAttrs_list PySem.F.slot_list_extend PySem.F.type_list_extend mt_extend (pv 6) (pa_cons (pe_lc (own := [("_law_end", 8)]) (g := gName 8) (tt := tYes) rfl sc__law_parts.nd (pi_list (pe_ix ix_list (pv 0) (pv 7) (fun _ _ => rfl))) (blkOk_by (N := nm__law_parts) (sc := defScope (top 52)) (by decide +kernel)) (fun _ _ _ _ _ => (pg_name (i := 8) sc__law_parts.nd rfl (Or.inl rfl))) (fun _ _ _ _ _ => pts_nil) (fun _ _ _ _ _ => (pe_dget (hu_of hr) (pv 1) (pe_f G__law_mate (hr.mono (by decide)) (by rfl) (pa_cons (pv 8) pa_nil)) (fun _ _ => rfl)))) pa_nil)))))) pss_nil))))
  (pss_one (ps_if (pt_cmpR op_gt (pe_callB call_lenLS (by rfl) T.z_len (by decide +kernel) (pa_cons (pv 5) pa_nil)) pe_int (nomark _)) (pss_one (ps_expr (pe_bm PySem.F.plainAttrs_list PySem.F.slot_list_append PySem.F.type_list_append mt_append (pv 3) (pa_cons (pe_callB cr_sortedI (by rfl) T.z_sorted (by decide +kernel) (pa_cons (pv 5) pa_nil)) pa_nil)))) pss_nil))))))
  (pss_one (ps_ret (pv 3)))))))
theorem b__law_parts (kV doc pm : Value) (an : Option Addr) (cdv ct : Value) (us : List Value) (hl : us.length = (["_law_drawing_here"] : List Str).length) : bindArgs (PySem.W.fnOf "_law_parts" "_law_parts" (defArgs (top 52)) (defBody (top 52)) (defScope (top 52)) .none kV doc pm an cdv ct) ⟨us, []⟩ = pure ((["_law_drawing_here"] : List Str).zip us) :=
  match us, hl with | [_], _ => rfl
/-! ### _law_filled -/
abbrev nm__law_filled : List Str := ["_law_drawing_here", "_law_walk_here", "_law_numbers_here", "_law_lands_here", "_law_inside", "_law_k", "_law_end", "_law_more", "_law_part", "_law_found", "_law_place"]
theorem sc__law_filled : FnScope nm__law_filled ["_law_drawing_here", "_law_walk_here", "_law_numbers_here"] (defScope (top 53)) := ⟨rfl, rfl, rfl, by decide +kernel, rfl, by decide +kernel, by decide +kernel⟩
def t__law_filled (K : PySem.W.Frag) (sp__law_mate : Sp) (sp__law_lands : Sp) (sp__law_wholes : Sp) (sp__law_parts : Sp) : TS := (tSeq (tAsg (tCall sp__law_lands [] E0 (tCons (tVar 0) tNil)) (gName 3))
  (tSeq (tIfS (tOr (tNot (tB (tCall sp__law_wholes [] E0 (tCons (tVar 2) tNil)))) (tTest (tOp rNe (tCB (rLenS K) (tCons (tVar 2) tNil)) (tCB (rLenS K) (tCons (tVar 3) tNil))))) (tRet (tC (.bl false))) tNext)
  (tSeq (tAsg tDNewK (gName 4))
  (tSeq (tFor (iRng1 (tCons (tCB (rLenS K) (tCons (tVar 3) tNil)) tNil)) (gName 5) (tSeq (tIfS (tAnd (tTest (tOp rEq (tCB (rLenS K) (tCons (tOp (rIxL K) (tVar 3) (tVar 5)) tNil)) (tC (.int 0)))) (tTest (tOp rNe (tOp (rIxL K) (tVar 2) (tVar 5)) (tC (.int 0))))) (tRet (tC (.bl false))) tNext)
  (tFor (iList K (tOp (rIxL K) (tVar 3) (tVar 5))) (gName 6) (sDPut (tVar 4) (tVar 6) (tOp (rIxL K) (tVar 2) (tVar 5))))))
  (tSeq (tLock (tFor (iKeys (tVar 4)) (gName 6) (tSeq (tAsg (tOp rMinus (tBM K "list" (rCntI K) (tVar 1) (tCons (tVar 6) tNil)) (tBM K "list" (rCntI K) (tVar 1) (tCons (tCall sp__law_mate [] E0 (tCons (tVar 6) tNil)) tNil))) (gName 7))
  (tIfS (tTest (tOp rNe (tOp rMinus (tDGet (tVar 4) (tVar 6)) (tDGet (tVar 4) (tCall sp__law_mate [] E0 (tCons (tVar 6) tNil)))) (tVar 7))) (tRet (tC (.bl false))) tNext))))
  (tSeq (tFor (iList K (tCall sp__law_parts [] E0 (tCons (tVar 0) tNil))) (gName 8) (tSeq (tAsg (tLst tNil) (gName 9))
  (tSeq (tFor (iList K (tVar 8)) (gName 10) (tDrop (tBM K "list" rExtend (tVar 9) (tCons (tLc (iList K (tOp (rIxL K) (tVar 0) (tVar 10))) (gName 6) tYes (tDGet (tVar 4) (tVar 6)) [6]) tNil))))
  (tIfS (tAnd (tTest (tOp rMore (tCB (rLenS K) (tCons (tVar 9) tNil)) (tC (.int 0)))) (tTest (tOp rNe (tCB (rMin K) (tCons (tVar 9) tNil)) (tC (.int 0))))) (tRet (tC (.bl false))) tNext))))
  (tRet (tC (.bl true)))))))))
theorem d__law_filled {P : Program} {w : World} {K : PySem.W.Frag} {mg : Str → Option Value} {base : Heap} (T : Txt K mg) (sp__law_mate : Sp) (sp__law_lands : Sp) (sp__law_wholes : Sp) (sp__law_parts : Sp) (G__law_mate : Keeps P w K mg base CX0 "_law_mate" 1 ["_law_end"] sp__law_mate) (G__law_lands : Keeps P w K mg base CX0 "_law_lands" 2 ["_law_drawing_here"] sp__law_lands) (G__law_wholes : Keeps P w K mg base CX0 "_law_wholes" 1 ["_law_found"] sp__law_wholes) (G__law_parts : Keeps P w K mg base CX0 "_law_parts" 2 ["_law_drawing_here"] sp__law_parts)
  (f : Addr) (cdv : Value) (A : Around) (outer : List Env) (s : Shared) (H : Hp) (E : XK) (hr : Room 2 (A.deeper (envOfC "_law_filled" (defScope (top 53)) s.heap.objs.size f cdv))) :
  PSs (cxOf CX0 P w K mg base nm__law_filled "_law_filled" (defScope (top 53)) f cdv A outer s H E).nox (defBody (top 53)) (t__law_filled K sp__law_mate sp__law_lands sp__law_wholes sp__law_parts) :=
  (pss_cons (ps_set (i := 3) sc__law_filled.nd rfl (Or.inl rfl) (pe_f G__law_lands (hr.mono (by decide)) (by rfl) (pa_cons (pv 0) pa_nil)))
  (pss_cons (ps_if (PW.pt (pw_or (pt_not (pt_val (pe_f G__law_wholes (hr.mono (by decide)) (by rfl) (pa_cons (pv 2) pa_nil)))) (pw_or1 (pt_cmpR op_ne (pe_callB call_lenLS (by rfl) T.z_len (by decide +kernel) (pa_cons (pv 2) pa_nil)) (pe_callB call_lenLS (by rfl) T.z_len (by decide +kernel) (pa_cons (pv 3) pa_nil)) (nomark _))))) (pss_one (ps_ret pe_bl)) pss_nil)
  (pss_cons (ps_set (i := 4) sc__law_filled.nd rfl (Or.inr rfl) pe_dnewK)
  (pss_cons (ps_for PassesOwn.never rfl (pi_range1 (by rfl) T.z_range (pa_cons (pe_callB call_lenLS (by rfl) T.z_len (by decide +kernel) (pa_cons (pv 3) pa_nil)) pa_nil)) (pg_name (i := 5) sc__law_filled.nd rfl (Or.inl rfl)) (pss_cons (ps_if (PW.pt (pw_and (pt_cmpR op_eq (pe_callB call_lenLS (by rfl) T.z_len (by decide +kernel) (pa_cons (pe_ix ix_list (pv 3) (pv 5) (fun _ _ => rfl)) pa_nil)) pe_int (nomark _)) (pw_and1 (pt_cmpR op_ne (pe_ix ix_list (pv 2) (pv 5) (fun _ _ => rfl)) pe_int (nomark _))))) (pss_one (ps_ret pe_bl)) pss_nil)
  (pss_one (ps_for PassesOwn.never rfl (pi_list (pe_ix ix_list (pv 3) (pv 5) (fun _ _ => rfl))) (pg_name (i := 6) sc__law_filled.nd rfl (Or.inl rfl)) (pss_one (ps_dput (hu_of hr) (pv 4) (pv 6) (pe_ix ix_list (pv 2) (pv 5) (fun _ _ => rfl)) rfl))))))
  (pss_cons (ps_lock (ps_for PassesOwn.never rfl (pi_keys (pv 4)) (pg_name (i := 6) sc__law_filled.nd rfl (Or.inl rfl)) (pss_cons (ps_set (i := 7) sc__law_filled.nd rfl (Or.inl rfl) (pe_op op_sub (pe_bm PySem.F.plainAttrs_list PySem.F.slot_list_count PySem.F.type_list_count mt_lcount (pv 1) (pa_cons (pv 6) pa_nil)) (pe_bm PySem.F.plainAttrs_list PySem.F.slot_list_count PySem.F.type_list_count mt_lcount (pv 1) (pa_cons (pe_f G__law_mate (hr.mono (by decide)) (by rfl) (pa_cons (pv 6) pa_nil)) pa_nil))))
  (pss_one (ps_if (pt_cmpR op_ne (pe_op op_sub (pe_dget (hu_of hr) (pv 4) (pv 6) (fun _ _ => rfl)) (pe_dget (hu_of hr) (pv 4) (pe_f G__law_mate (hr.mono (by decide)) (by rfl) (pa_cons (pv 6) pa_nil)) (fun _ _ => rfl))) (pv 7) (nomark _)) (pss_one (ps_ret pe_bl)) pss_nil)))))
  (pss_cons (ps_for PassesOwn.never rfl (pi_list (pe_f G__law_parts (hr.mono (by decide)) (by rfl) (pa_cons (pv 0) pa_nil))) (pg_name (i := 8) sc__law_filled.nd rfl (Or.inl rfl)) (pss_cons (ps_set (i := 9) sc__law_filled.nd rfl (Or.inl rfl) (pe_lst pa_nil))
  (pss_cons (ps_for PassesOwn.never rfl (pi_list (pv 8)) (pg_name (i := 10) sc__law_filled.nd rfl (Or.inl rfl)) (pss_one (ps_expr (pe_bm PySem.F.plainAttrs_list PySem.F.slot_list_extend PySem.F.type_list_extend mt_extend (pv 9) (pa_cons (pe_lc (own := [("_law_end", 6)]) (g := gName 6) (tt := tYes) rfl sc__law_filled.nd (pi_list (pe_ix ix_list (pv 0) (pv 10) (fun _ _ => rfl))) (blkOk_by (N := nm__law_filled) (sc := defScope (top 53)) (by decide +kernel)) (fun _ _ _ _ _ => (pg_name (i := 6) sc__law_filled.nd rfl (Or.inl rfl))) (fun _ _ _ _ _ => pts_nil) (fun _ _ _ _ _ => (pe_dget (hu_of hr) (pv 4) (pv 6) (fun _ _ => rfl)))) pa_nil)))))
  (pss_one (ps_if (PW.pt (pw_and (pt_cmpR op_gt (pe_callB call_lenLS (by rfl) T.z_len (by decide +kernel) (pa_cons (pv 9) pa_nil)) pe_int (nomark _)) (pw_and1 (pt_cmpR op_ne (pe_callB (cr_min rfl) (by rfl) T.z_min (by decide +kernel) (pa_cons (pv 9) pa_nil)) pe_int (nomark _))))) (pss_one (ps_ret pe_bl)) pss_nil)))))
  (pss_one (ps_ret pe_bl))))))))
theorem b__law_filled (kV doc pm : Value) (an : Option Addr) (cdv ct : Value) (us : List Value) (hl : us.length = (["_law_drawing_here", "_law_walk_here", "_law_numbers_here"] : List Str).length) : bindArgs (PySem.W.fnOf "_law_filled" "_law_filled" (defArgs (top 53)) (defBody (top 53)) (defScope (top 53)) .none kV doc pm an cdv ct) ⟨us, []⟩ = pure ((["_law_drawing_here", "_law_walk_here", "_law_numbers_here"] : List Str).zip us) :=
  match us, hl with | [_, _, _], _ => rfl
/-! ### _law_paper -/
abbrev nm__law_paper : List Str := ["_law_drawing_here", "_law_walk_here", "_law_found"]
theorem sc__law_paper : FnScope nm__law_paper ["_law_drawing_here", "_law_walk_here", "_law_found"] (defScope (top 54)) := ⟨rfl, rfl, rfl, by decide +kernel, rfl, by decide +kernel, by decide +kernel⟩
def t__law_paper (K : PySem.W.Frag) (sp__law_is_turn : Sp) (sp__law_crossing : Sp) (sp__law_wholes : Sp) (sp__law_filled : Sp) : TS := (tSeq (tIfS (tOr (tNot (tB (tCB (rIsi K) (tCons (tVar 2) (tCons (tC (.ty "tuple")) tNil))))) (tTest (tOp rNe (tCB (rLenS K) (tCons (tVar 2) tNil)) (tC (.int 2))))) (tRet (tC (.bl false))) tNext)
  (tSeq (tIfS (tTest (tOp rEq (tOp (rIxT K) (tVar 2) (tC (.int 0))) (tC (.str "filled")))) (tRet (tCall sp__law_filled [] E0 (tCons (tVar 0) (tCons (tVar 1) (tCons (tOp (rIxT K) (tVar 2) (tC (.int 1))) tNil))))) tNext)
  (tSeq (tIfS (tOr (tTest (tOp rNe (tOp (rIxT K) (tVar 2) (tC (.int 0))) (tC (.str "crossed")))) (tNot (tB (tCall sp__law_wholes [] E0 (tCons (tOp (rIxT K) (tVar 2) (tC (.int 1))) tNil))))) (tRet (tC (.bl false))) tNext)
  (tRet (tAndV (tCall sp__law_is_turn [] E0 (tCons (tVar 0) (tCons (tOp (rIxT K) (tVar 2) (tC (.int 1))) tNil))) (tOp rNe (tCall sp__law_crossing [] E0 (tCons (tVar 0) (tCons (tVar 1) (tCons (tOp (rIxT K) (tVar 2) (tC (.int 1))) tNil)))) (tC (.int 0))))))))
theorem d__law_paper {P : Program} {w : World} {K : PySem.W.Frag} {mg : Str → Option Value} {base : Heap} (T : Txt K mg) (sp__law_is_turn : Sp) (sp__law_crossing : Sp) (sp__law_wholes : Sp) (sp__law_filled : Sp) (G__law_is_turn : Keeps P w K mg base CX0 "_law_is_turn" 3 ["_law_drawing_here", "_law_ends"] sp__law_is_turn) (G__law_crossing : Keeps P w K mg base CX0 "_law_crossing" 3 ["_law_drawing_here", "_law_walk_here", "_law_other"] sp__law_crossing) (G__law_wholes : Keeps P w K mg base CX0 "_law_wholes" 1 ["_law_found"] sp__law_wholes) (G__law_filled : Keeps P w K mg base CX0 "_law_filled" 3 ["_law_drawing_here", "_law_walk_here", "_law_numbers_here"] sp__law_filled)
  (f : Addr) (cdv : Value) (A : Around) (outer : List Env) (s : Shared) (H : Hp) (E : XK) (hr : Room 3 (A.deeper (envOfC "_law_paper" (defScope (top 54)) s.heap.objs.size f cdv))) :
  PSs (cxOf CX0 P w K mg base nm__law_paper "_law_paper" (defScope (top 54)) f cdv A outer s H E).nox (defBody (top 54)) (t__law_paper K sp__law_is_turn sp__law_crossing sp__law_wholes sp__law_filled) :=
  (pss_cons (ps_if (PW.pt (pw_or (pt_not (pt_val (pe_callB call_isi (by rfl) T.z_isinstance (by decide +kernel) (pa_cons (pv 2) (pa_cons (pe_bltn (v := .ty "tuple") (u := .type "tuple") (by rfl) T.z_tuple (by decide +kernel) rfl) pa_nil))))) (pw_or1 (pt_cmpR op_ne (pe_callB call_lenLS (by rfl) T.z_len (by decide +kernel) (pa_cons (pv 2) pa_nil)) pe_int (nomark _))))) (pss_one (ps_ret pe_bl)) pss_nil)
  (pss_cons (ps_if (pt_cmpR op_eq (pe_ix ix_tup (pv 2) pe_int (fun _ _ => rfl)) pe_str (nomark _)) (pss_one (ps_ret (pe_f G__law_filled (hr.mono (by decide)) (by rfl) (pa_cons (pv 0) (pa_cons (pv 1) (pa_cons (pe_ix ix_tup (pv 2) pe_int (fun _ _ => rfl)) pa_nil)))))) pss_nil)
  (pss_cons (ps_if (PW.pt (pw_or (pt_cmpR op_ne (pe_ix ix_tup (pv 2) pe_int (fun _ _ => rfl)) pe_str (nomark _)) (pw_or1 (pt_not (pt_val (pe_f G__law_wholes (hr.mono (by decide)) (by rfl) (pa_cons (pe_ix ix_tup (pv 2) pe_int (fun _ _ => rfl)) pa_nil))))))) (pss_one (ps_ret pe_bl)) pss_nil)
  (pss_one (ps_ret (pe_and (pe_f G__law_is_turn (hr.mono (by decide)) (by rfl) (pa_cons (pv 0) (pa_cons (pe_ix ix_tup (pv 2) pe_int (fun _ _ => rfl)) pa_nil))) (pe_one (pe_cmpR op_ne (pe_f G__law_crossing (hr.mono (by decide)) (by rfl) (pa_cons (pv 0) (pa_cons (pv 1) (pa_cons (pe_ix ix_tup (pv 2) pe_int (fun _ _ => rfl)) pa_nil)))) pe_int (nomark _)))))))))
theorem b__law_paper (kV doc pm : Value) (an : Option Addr) (cdv ct : Value) (us : List Value) (hl : us.length = (["_law_drawing_here", "_law_walk_here", "_law_found"] : List Str).length) : bindArgs (PySem.W.fnOf "_law_paper" "_law_paper" (defArgs (top 54)) (defBody (top 54)) (defScope (top 54)) .none kV doc pm an cdv ct) ⟨us, []⟩ = pure ((["_law_drawing_here", "_law_walk_here", "_law_found"] : List Str).zip us) :=
  match us, hl with | [_, _, _], _ => rfl
/-! ### _law_refused -/
abbrev nm__law_refused : List Str := ["_law_drawing_here", "_law_walk_here", "_law_handed", "_law_word", "e", "_law_row"]
theorem sc__law_refused : FnScope nm__law_refused ["_law_drawing_here", "_law_walk_here"] (defScope (top 55)) := ⟨rfl, rfl, rfl, by decide +kernel, rfl, by decide +kernel, by decide +kernel⟩
def t__law_refused (K : PySem.W.Frag) (sp_fill_of : Sp) : TS := (tSeq (tAsg (tLst (tCons (tLc (iList K (tVar 0)) (gName 5) tYes (tCB (rListS K) (tCons (tVar 5) tNil)) [5]) (tCons (tCB (rListS K) (tCons (tVar 1) tNil)) tNil))) (gName 2))
  (tSeq (tAsg (tLst tNil) (gName 3))
  (tSeq (fun D σ H => (fun W => tDrop (tCallS sp_fill_of (WE W) (tCons (tOp (rIxL K) (tVar 2) (tC (.int 0))) (tCons (tOp (rIxL K) (tVar 2) (tC (.int 1))) tNil)))) (wAs K (.ref (He.ga K "FloorError")) 4 (fun a cls d => tOnly (cls = .ref (He.ga K "NoWalk") ∧ d = none) (tAsg (tLst (tCons (tCB (rIsE K (He.ga K "NoWalk") a) (tCons (tVar 4) (tCons (tC (.ref (He.ga K "NoWalk"))) tNil))) (tCons (tCB (rIsE K (He.ga K "NoWalk") a) (tCons (tVar 4) (tCons (tC (.ty "ValueError")) tNil))) (tCons (tCB (rIsE K (He.ga K "NoWalk") a) (tCons (tVar 4) (tCons (tC (.ref (He.ga K "NoRound"))) tNil))) tNil)))) (gName 3))) (fun _ _ _ _ => False) D) D σ H)
  (tRet (tAndV (tOp (rEqD K) (tVar 3) (tLst (tCons (tC (.bl true)) (tCons (tC (.bl true)) (tCons (tC (.bl false)) tNil))))) (tOp (rEqD K) (tVar 2) (tLst (tCons (tVar 0) (tCons (tVar 1) tNil)))))))))
theorem d__law_refused {P : Program} {w : World} {K : PySem.W.Frag} {mg : Str → Option Value} {base : Heap} (T : Txt K mg) (sp_fill_of : Sp) (G_fill_of : Keeps P w K mg base (L2.CX P w) "fill_of" 5 ["drawing", "walk"] sp_fill_of)
  (f : Addr) (cdv : Value) (A : Around) (outer : List Env) (s : Shared) (H : Hp) (E : XK) (hr : Room 5 (A.deeper (envOfC "_law_refused" (defScope (top 55)) s.heap.objs.size f cdv))) :
  PSs (cxOf CX0 P w K mg base nm__law_refused "_law_refused" (defScope (top 55)) f cdv A outer s H E).nox (defBody (top 55)) (t__law_refused K sp_fill_of) :=
  (pss_cons (ps_set (i := 2) sc__law_refused.nd rfl (Or.inl rfl) (pe_lst (pa_cons (pe_lc (own := [("_law_row", 5)]) (g := gName 5) (tt := tYes) rfl sc__law_refused.nd (pi_list (pv 0)) (blkOk_by (N := nm__law_refused) (sc := defScope (top 55)) (by decide +kernel)) (fun _ _ _ _ _ => (pg_name (i := 5) sc__law_refused.nd rfl (Or.inl rfl))) (fun _ _ _ _ _ => pts_nil) (fun _ _ _ _ _ => (pe_callTy call_listLS (by rfl) T.z_list (by decide +kernel) (pa_cons (pv 5) pa_nil)))) (pa_cons (pe_callTy call_listLS (by rfl) T.z_list (by decide +kernel) (pa_cons (pv 1) pa_nil)) pa_nil))))
  (pss_cons (ps_set (i := 3) sc__law_refused.nd rfl (Or.inl rfl) (pe_lst pa_nil))
  (pss_cons (ps_try_as (i := 4) (tb := fun W => tDrop (tCallS sp_fill_of (WE W) (tCons (tOp (rIxL K) (tVar 2) (tC (.int 0))) (tCons (tOp (rIxL K) (tVar 2) (tC (.int 1))) tNil)))) (ts := fun a cls d => tOnly (cls = .ref (He.ga K "NoWalk") ∧ d = none) (tAsg (tLst (tCons (tCB (rIsE K (He.ga K "NoWalk") a) (tCons (tVar 4) (tCons (tC (.ref (He.ga K "NoWalk"))) tNil))) (tCons (tCB (rIsE K (He.ga K "NoWalk") a) (tCons (tVar 4) (tCons (tC (.ty "ValueError")) tNil))) (tCons (tCB (rIsE K (He.ga K "NoWalk") a) (tCons (tVar 4) (tCons (tC (.ref (He.ga K "NoRound"))) tNil))) tNil)))) (gName 3))) (Wout := fun _ _ _ _ => False) rfl rfl sc__law_refused.nd rfl rfl ⟨rfl, by decide, Or.inl T.g_FloorError⟩ takes0 (fun W pn xe tk _ => pss_one (ps_expr (pe_fS G_fill_of (hr.mono (by decide)) (by rfl) (fun σ => passAt tk σ) (pa_cons (pe_ix ix_list (pv 2) pe_int (fun _ _ => rfl)) (pa_cons (pe_ix ix_list (pv 2) pe_int (fun _ _ => rfl)) pa_nil))))) (fun a oe cls d pn hz hf => pss_only fun ⟨ec, ed⟩ => by subst ec ed; exact (pss_one (ps_set (i := 3) sc__law_refused.nd rfl (Or.inl rfl) (pe_lst (pa_cons (pe_callB (call_isE T.c_NoWalk hz hf) (by rfl) T.z_isinstance (by decide +kernel) (pa_cons (pv 4) (pa_cons (pe_glob (v := .ref (He.ga K "NoWalk")) (by rfl) T.g_NoWalk rfl) pa_nil))) (pa_cons (pe_callB (call_isE T.c_NoWalk hz hf) (by rfl) T.z_isinstance (by decide +kernel) (pa_cons (pv 4) (pa_cons (pe_bltn (v := .ty "ValueError") (u := .type "ValueError") (by rfl) T.z_ValueError (by decide +kernel) rfl) pa_nil))) (pa_cons (pe_callB (call_isE T.c_NoWalk hz hf) (by rfl) T.z_isinstance (by decide +kernel) (pa_cons (pv 4) (pa_cons (pe_glob (v := .ref (He.ga K "NoRound")) (by rfl) T.g_NoRound rfl) pa_nil))) pa_nil))))))))
  (pss_one (ps_ret (pe_and (pe_cmpR (op_eqD hr.units) (pv 3) (pe_lst (pa_cons pe_bl (pa_cons pe_bl (pa_cons pe_bl pa_nil)))) (nomark _)) (pe_one (pe_cmpR (op_eqD hr.units) (pv 2) (pe_lst (pa_cons (pv 0) (pa_cons (pv 1) pa_nil))) (nomark _)))))))))
theorem b__law_refused (kV doc pm : Value) (an : Option Addr) (cdv ct : Value) (us : List Value) (hl : us.length = (["_law_drawing_here", "_law_walk_here"] : List Str).length) : bindArgs (PySem.W.fnOf "_law_refused" "_law_refused" (defArgs (top 55)) (defBody (top 55)) (defScope (top 55)) .none kV doc pm an cdv ct) ⟨us, []⟩ = pure ((["_law_drawing_here", "_law_walk_here"] : List Str).zip us) :=
  match us, hl with | [_, _], _ => rfl
/-! ### law -/
abbrev nm_law : List Str := ["_law_script", "_law_choice", "_law_spoil", "_law_at", "_law_drawing_here", "_law_walk_here", "_law_ends", "_law_handed", "_law_found", "_law_row"]
theorem sc_law : FnScope nm_law ["_law_script"] (defScope (top 56)) := ⟨rfl, rfl, rfl, by decide +kernel, rfl, by decide +kernel, by decide +kernel⟩
def t_law (K : PySem.W.Frag) (sp_fill_of : Sp) (sp__law_cell : Sp) (sp__law_draws : Sp) (sp__law_some : Sp) (sp__law_walk : Sp) (sp__law_spoilt : Sp) (sp__law_is_walk : Sp) (sp__law_paper : Sp) (sp__law_refused : Sp) : TS := (tSeq (tAsg (tCall sp__law_draws [] E0 (tCons (tCall sp__law_cell [] E0 (tCons (tVar 0) (tCons (tC (.int 0)) tNil))) (tCons (tLst (tCons (tC (.int 8)) (tCons (tC (.int 8)) (tCons (tC (.int 60)) tNil)))) tNil))) (gLst K 3 (gCons (gName 1) (gCons (gName 2) (gCons (gName 3) gNil)))))
  (tSeq (tAsg (tCall sp__law_some [] E0 (tCons (tVar 0) (tCons (tVar 1) tNil))) (gName 4))
  (tSeq (tAsg (tCall sp__law_walk [] E0 (tCons (tVar 4) (tCons (tCall sp__law_cell [] E0 (tCons (tVar 0) (tCons (tC (.int 5)) tNil))) (tCons (tC (.int 12)) tNil)))) (gName 5))
  (tSeq (tIfS (tAnd (tTest (tOp rEq (tOp rModP (tVar 3) (tC (.int 8))) (tC (.int 3)))) (tTest (tOp rLess (tVar 1) (tC (.int 6))))) (tAsg (tOp rRep (tVar 5) (tOp rDivP (tC (.int 990)) (tCB rMax2 (tCons (tC (.int 1)) (tCons (tCB (rLenS K) (tCons (tVar 5) tNil)) tNil))))) (gName 5)) tNext)
  (tSeq (tIfS (tTest (tOp rEq (tVar 2) (tC (.int 1)))) (tSeq (tAsg (tCB (rSum K) (tCons (tLc (iList K (tVar 4)) (gName 9) tYes (tCB (rLenS K) (tCons (tVar 9) tNil)) [9]) tNil)) (gName 6))
  (tAsg (tCall sp__law_spoilt [] E0 (tCons (tVar 5) (tCons (tVar 6) (tCons (tCall sp__law_draws [] E0 (tCons (tCall sp__law_cell [] E0 (tCons (tVar 0) (tCons (tC (.int 6)) tNil))) (tCons (tLst (tCons (tC (.int 5)) (tCons (tC (.int 60)) (tCons (tC (.int 60)) (tCons (tC (.int 60)) tNil))))) tNil))) tNil)))) (gName 5))) tNext)
  (tSeq (tIfS (tNot (tB (tCall sp__law_is_walk [] E0 (tCons (tVar 4) (tCons (tVar 5) tNil))))) (tRet (tCall sp__law_refused [] E0 (tCons (tVar 4) (tCons (tVar 5) tNil)))) tNext)
  (tSeq (tAsg (tLst (tCons (tLc (iList K (tVar 4)) (gName 9) tYes (tCB (rListS K) (tCons (tVar 9) tNil)) [9]) (tCons (tCB (rListS K) (tCons (tVar 5) tNil)) tNil))) (gName 7))
  (tSeq (tAsg (tCall sp_fill_of [] E0 (tCons (tOp (rIxL K) (tVar 7) (tC (.int 0))) (tCons (tOp (rIxL K) (tVar 7) (tC (.int 1))) tNil))) (gName 8))
  (tSeq (tIfS (tOr (tTest (tOp (rNeD K) (tVar 7) (tLst (tCons (tVar 4) (tCons (tVar 5) tNil))))) (tNot (tB (tCall sp__law_paper [] E0 (tCons (tVar 4) (tCons (tVar 5) (tCons (tVar 8) tNil))))))) (tRet (tC (.bl false))) tNext)
  (tSeq (tDrop (tBM K "list" rAppend (tOp (rIxT K) (tVar 8) (tC (.int 1))) (tCons (tVar 3) tNil)))
  (tSeq (tAsg (tC (.int 7)) (gSub (tOp (rIxT K) (tVar 8) (tC (.int 1))) (tC (.int 0)) rSetL))
  (tRet (tCall sp__law_paper [] E0 (tCons (tVar 4) (tCons (tVar 5) (tCons (tCall sp_fill_of [] E0 (tCons (tOp (rIxL K) (tVar 7) (tC (.int 0))) (tCons (tOp (rIxL K) (tVar 7) (tC (.int 1))) tNil))) tNil))))))))))))))))
theorem d_law {P : Program} {w : World} {K : PySem.W.Frag} {mg : Str → Option Value} {base : Heap} (T : Txt K mg) (sp_fill_of : Sp) (sp__law_cell : Sp) (sp__law_draws : Sp) (sp__law_some : Sp) (sp__law_walk : Sp) (sp__law_spoilt : Sp) (sp__law_is_walk : Sp) (sp__law_paper : Sp) (sp__law_refused : Sp) (G_fill_of : Keeps P w K mg base (L2.CX P w) "fill_of" 5 ["drawing", "walk"] sp_fill_of) (G__law_cell : Keeps P w K mg base CX0 "_law_cell" 1 ["_law_script", "_law_k"] sp__law_cell) (G__law_draws : Keeps P w K mg base CX0 "_law_draws" 1 ["_law_cell_here", "_law_sizes"] sp__law_draws) (G__law_some : Keeps P w K mg base CX0 "_law_some" 5 ["_law_script", "_law_choice"] sp__law_some) (G__law_walk : Keeps P w K mg base CX0 "_law_walk" 3 ["_law_drawing_here", "_law_cell_here", "_law_most"] sp__law_walk) (G__law_spoilt : Keeps P w K mg base CX0 "_law_spoilt" 3 ["_law_walk_here", "_law_ends", "_law_draws_here"] sp__law_spoilt) (G__law_is_walk : Keeps P w K mg base CX0 "_law_is_walk" 2 ["_law_drawing_here", "_law_ends"] sp__law_is_walk) (G__law_paper : Keeps P w K mg base CX0 "_law_paper" 4 ["_law_drawing_here", "_law_walk_here", "_law_found"] sp__law_paper) (G__law_refused : Keeps P w K mg base CX0 "_law_refused" 6 ["_law_drawing_here", "_law_walk_here"] sp__law_refused)
  (f : Addr) (cdv : Value) (A : Around) (outer : List Env) (s : Shared) (H : Hp) (E : XK) (hr : Room 6 (A.deeper (envOfC "law" (defScope (top 56)) s.heap.objs.size f cdv))) :
  PSs (cxOf CX0 P w K mg base nm_law "law" (defScope (top 56)) f cdv A outer s H E).nox (defBody (top 56)) (t_law K sp_fill_of sp__law_cell sp__law_draws sp__law_some sp__law_walk sp__law_spoilt sp__law_is_walk sp__law_paper sp__law_refused) :=
  (pss_cons (ps_asg (pe_f G__law_draws (hr.mono (by decide)) (by rfl) (pa_cons (pe_f G__law_cell (hr.mono (by decide)) (by rfl) (pa_cons (pv 0) (pa_cons pe_int pa_nil))) (pa_cons (pe_lst (pa_cons pe_int (pa_cons pe_int (pa_cons pe_int pa_nil)))) pa_nil))) (pg_lst rfl (pgs_cons (pg_name (i := 1) sc_law.nd rfl (Or.inl rfl)) (pgs_cons (pg_name (i := 2) sc_law.nd rfl (Or.inl rfl)) (pgs_cons (pg_name (i := 3) sc_law.nd rfl (Or.inl rfl)) pgs_nil)))))
  (pss_cons (ps_set (i := 4) sc_law.nd rfl (Or.inl rfl) (pe_f G__law_some (hr.mono (by decide)) (by rfl) (pa_cons (pv 0) (pa_cons (pv 1) pa_nil))))
  (pss_cons (ps_set (i := 5) sc_law.nd rfl (Or.inl rfl) (pe_f G__law_walk (hr.mono (by decide)) (by rfl) (pa_cons (pv 4) (pa_cons (pe_f G__law_cell (hr.mono (by decide)) (by rfl) (pa_cons (pv 0) (pa_cons pe_int pa_nil))) (pa_cons pe_int pa_nil)))))
  (pss_cons (ps_if (PW.pt (pw_and (pt_cmpR op_eq (pe_op op_mod (pv 3) pe_int) pe_int (nomark _)) (pw_and1 (pt_cmpR op_lt (pv 1) pe_int (nomark _))))) (pss_one (ps_set (i := 5) sc_law.nd rfl (Or.inl rfl) (pe_op op_rep (pv 5) (pe_op op_fdiv pe_int (pe_callB (call_max2I rfl) (by rfl) T.z_max (by decide +kernel) (pa_cons pe_int (pa_cons (pe_callB call_lenLS (by rfl) T.z_len (by decide +kernel) (pa_cons (pv 5) pa_nil)) pa_nil))))))) pss_nil)
  (pss_cons (ps_if (pt_cmpR op_eq (pv 2) pe_int (nomark _)) (pss_cons (ps_set (i := 6) sc_law.nd rfl (Or.inl rfl) (pe_callB (cr_sum rfl) (by rfl) T.z_sum (by decide +kernel) (pa_cons (pe_lc (own := [("_law_row", 9)]) (g := gName 9) (tt := tYes) rfl sc_law.nd (pi_list (pv 4)) (blkOk_by (N := nm_law) (sc := defScope (top 56)) (by decide +kernel)) (fun _ _ _ _ _ => (pg_name (i := 9) sc_law.nd rfl (Or.inl rfl))) (fun _ _ _ _ _ => pts_nil) (fun _ _ _ _ _ => (pe_callB call_lenLS (by rfl) T.z_len (by decide +kernel) (pa_cons (pv 9) pa_nil)))) pa_nil)))
  (pss_one (ps_set (i := 5) sc_law.nd rfl (Or.inl rfl) (pe_f G__law_spoilt (hr.mono (by decide)) (by rfl) (pa_cons (pv 5) (pa_cons (pv 6) (pa_cons (pe_f G__law_draws (hr.mono (by decide)) (by rfl) (pa_cons (pe_f G__law_cell (hr.mono (by decide)) (by rfl) (pa_cons (pv 0) (pa_cons pe_int pa_nil))) (pa_cons (pe_lst (pa_cons pe_int (pa_cons pe_int (pa_cons pe_int (pa_cons pe_int pa_nil))))) pa_nil))) pa_nil))))))) pss_nil)
  (pss_cons (ps_if (pt_not (pt_val (pe_f G__law_is_walk (hr.mono (by decide)) (by rfl) (pa_cons (pv 4) (pa_cons (pv 5) pa_nil))))) (pss_one (ps_ret (pe_f G__law_refused (hr.mono (by decide)) (by rfl) (pa_cons (pv 4) (pa_cons (pv 5) pa_nil))))) pss_nil)
  (pss_cons (ps_set (i := 7) sc_law.nd rfl (Or.inl rfl) (pe_lst (pa_cons (pe_lc (own := [("_law_row", 9)]) (g := gName 9) (tt := tYes) rfl sc_law.nd (pi_list (pv 4)) (blkOk_by (N := nm_law) (sc := defScope (top 56)) (by decide +kernel)) (fun _ _ _ _ _ => (pg_name (i := 9) sc_law.nd rfl (Or.inl rfl))) (fun _ _ _ _ _ => pts_nil) (fun _ _ _ _ _ => (pe_callTy call_listLS (by rfl) T.z_list (by decide +kernel) (pa_cons (pv 9) pa_nil)))) (pa_cons (pe_callTy call_listLS (by rfl) T.z_list (by decide +kernel) (pa_cons (pv 5) pa_nil)) pa_nil))))
  (pss_cons (ps_set (i := 8) sc_law.nd rfl (Or.inl rfl) (pe_fX G_fill_of (hr.mono (by decide)) (by rfl) (pa_cons (pe_ix ix_list (pv 7) pe_int (fun _ _ => rfl)) (pa_cons (pe_ix ix_list (pv 7) pe_int (fun _ _ => rfl)) pa_nil))))
  (pss_cons (ps_if (PW.pt (pw_or (pt_cmpR (op_neD hr.units) (pv 7) (pe_lst (pa_cons (pv 4) (pa_cons (pv 5) pa_nil))) (nomark _)) (pw_or1 (pt_not (pt_val (pe_f G__law_paper (hr.mono (by decide)) (by rfl) (pa_cons (pv 4) (pa_cons (pv 5) (pa_cons (pv 8) pa_nil))))))))) (pss_one (ps_ret pe_bl)) pss_nil)
  (pss_cons (ps_expr (pe_bm PySem.F.plainAttrs_list PySem.F.slot_list_append PySem.F.type_list_append mt_append (pe_ix ix_tup (pv 8) pe_int (fun _ _ => rfl)) (pa_cons (pv 3) pa_nil)))
  (pss_cons (ps_asg pe_int (pg_sub (pe_ix ix_tup (pv 8) pe_int (fun _ _ => rfl)) pe_int set_list))
  (pss_one (ps_ret (pe_f G__law_paper (hr.mono (by decide)) (by rfl) (pa_cons (pv 4) (pa_cons (pv 5) (pa_cons (pe_fX G_fill_of (hr.mono (by decide)) (by rfl) (pa_cons (pe_ix ix_list (pv 7) pe_int (fun _ _ => rfl)) (pa_cons (pe_ix ix_list (pv 7) pe_int (fun _ _ => rfl)) pa_nil))) pa_nil)))))))))))))))))
theorem b_law (kV doc pm : Value) (an : Option Addr) (cdv ct : Value) (us : List Value) (hl : us.length = (["_law_script"] : List Str).length) : bindArgs (PySem.W.fnOf "law" "law" (defArgs (top 56)) (defBody (top 56)) (defScope (top 56)) .none kV doc pm an cdv ct) ⟨us, []⟩ = pure ((["_law_script"] : List Str).zip us) :=
  match us, hl with | [_], _ => rfl
end RF

set_option Elab.async false
set_option linter.all false
set_option maxRecDepth 100000
set_option maxHeartbeats 4000000
namespace RF
open PySem PySem.Spec PyProof.Rows L2 Evl
/-! # The promises: the law -/
theorem flat_cut {D : Dw} {i j n : Nat} {r : List Nat} (hr : D[i]? = some r) (hn : r[j]? = some n) : (((D.take i).flatten ++ r.take j) ++ n :: (r.drop (j + 1) ++ (D.drop (i + 1)).flatten)) = D.flatten := by
  have e5 : r = r.take j ++ n :: r.drop (j + 1) := by
    have hj := (List.getElem?_eq_some_iff.mp hn)
    rw [← hj.2, List.getElem_cons_drop, List.take_append_drop]
  have e6 : D = D.take i ++ r :: D.drop (i + 1) := by
    have hj := (List.getElem?_eq_some_iff.mp hr)
    rw [← hj.2, List.getElem_cons_drop, List.take_append_drop]
  conv => rhs; rw [e6, List.flatten_append, List.flatten_cons]
  conv => rhs; rw [e5]
  simp
theorem flat_new {D : Dw} (nd : D.flatten.Nodup) {i j n : Nat} {r : List Nat} (hr : D[i]? = some r) (hn : r[j]? = some n) : n ∉ (D.take i).flatten ++ r.take j := fun hm => by
  rw [← flat_cut hr hn] at nd
  exact (List.nodup_append.mp nd).2.2 n hm n List.mem_cons_self rfl
theorem flat_lt {D : Dw} {i j n : Nat} {r : List Nat} (hr : D[i]? = some r) (hn : r[j]? = some n) : ((D.take i).flatten ++ r.take j).length < D.flatten.length := by
  have := congrArg List.length (flat_cut hr hn)
  simp only [List.length_append, List.length_cons] at this ⊢
  omega
def gT (g : Nat → Int) (l : List Nat) : List (Nat × Int) := l.map fun e => (e, g e)
theorem gT_length (g : Nat → Int) (l : List Nat) : (gT g l).length = l.length := List.length_map ..
theorem gT_look (g : Nat → Int) (l : List Nat) (e : Nat) : (gT g l).lookup e = if e ∈ l then some (g e) else none := look_map g l e
theorem gT_put {g : Nat → Int} {l : List Nat} {n : Nat} (h : n ∉ l) : putK (dT (gT g l)) (.inl ((n : Nat) : Int)) (.int (g n)) = dT (gT g (l ++ [n])) := by
  rw [dT_put (by rw [gT_look, if_neg h])]
  unfold gT
  rw [List.map_append]
  rfl
theorem valV_gT {g : Nat → Int} {l : List Nat} {e : Nat} (h : e ∈ l) : valV (dT (gT g l)) (.inl ((e : Nat) : Int)) = some (.int (g e)) := by
  rw [valV_dT, gT_look, if_pos h]
  rfl
theorem valV_dT_neg : ∀ (T : List (Nat × Int)) {z : Int}, z < 0 → valV (dT T) (.inl z) = none
  | [], z, _ => rfl
  | (a, x) :: T, z, h => by
    show valV ((Sum.inl ((a : Nat) : Int), V.int x) :: dT T) _ = none
    rw [valV_neg (fun q => by have := Sum.inl.inj q; omega), valV_dT_neg T h]
/-- a place's entries, an end's successor: the law's dicts -/
def nxT (D : Dw) : List (Nat × Int) := gT (fun e => ((nxt D e : Nat) : Int)) D.flatten
section
variable {D : Dw} {m : Nat}
theorem seatT_get (ok : Ok D m) {e : Nat} (h : e < 2 * m) : valV (dT (insT D)) (.inl ((e : Nat) : Int)) = some (.int ((seat D e : Nat) : Int)) := valV_gT (g := fun e => ((seat D e : Nat) : Int)) ((ok.mem e).mpr h)
theorem nxT_get (ok : Ok D m) {e : Nat} (h : e < 2 * m) : valV (dT (nxT D)) (.inl ((e : Nat) : Int)) = some (.int ((nxt D e : Nat) : Int)) := valV_gT (g := fun e => ((nxt D e : Nat) : Int)) ((ok.mem e).mpr h)
theorem nxT_length (ok : Ok D m) : (dT (nxT D)).length = 2 * m := by
  rw [dT_length]
  unfold nxT
  rw [gT_length, ok.len]
theorem insT_length (ok : Ok D m) : (dT (insT D)).length = 2 * m := by
  rw [dT_length]
  unfold insT
  rw [List.length_map, ok.len]
end
/-! ## cells, draws, mates -/
def sp__law_cell (K : PySem.W.Frag) : Sp := fun vs H Q _ => ∃ (a : Addr) (ns : List Int) (k : Nat), vs = [.ref a, .int ((k : Nat) : Int)] ∧ SqL K H a (zi ns) ∧ ∀ z : Int, RetV (.int z) H Q
theorem pure__law_cell (K : PySem.W.Frag) (vs : List V) (H : Hp) (Q : VK) (E : XK) (h : sp__law_cell K vs H Q E) : t__law_cell K { nx := fun _ H' => Q .non H', rt := Q } (start nm__law_cell vs) H := by
  obtain ⟨a, ns, k, rfl, ha, q⟩ := h
  have le : ∀ {H' : Hp}, Ex H H' → Ev (tCB (rLenS K) (tCons (tVar 0) tNil)) (start nm__law_cell [.ref a, .int ((k : Nat) : Int)]) H' (.int (ns.length : Int)) := fun {H'} ex => by
    have := ev_len (K := K) (σ := start nm__law_cell [.ref a, .int ((k : Nat) : Int)]) (ta := tVar 0) (ev_var rfl) (ex_l ex ha)
    rw [zi_length] at this
    exact this
  refine q_when (b := decide ((ns.length : Int) = 0)) (et_test (ev_eqI (le (Ex.refl _)) ev_c)) (fun hb H1 e1 => ?_) (fun hb H1 e1 => ?_)
  · exact s_ret (ev_add (ev_mul (i := 48271) (j := ((k : Nat) : Int)) ev_c (ev_var rfl) (.inl (by omega))) ev_c) fun H2 e2 => q (48271 * ((k : Nat) : Int) + 5) H2 (e1.trans e2)
  · have pos : 0 < ns.length := by have := of_decide_eq_false hb; omega
    refine q_when (b := decide (((k : Nat) : Int) < (ns.length : Int))) (et_test (ev_lt (ev_var rfl) (le e1))) (fun hb2 H2 e2 => ?_) (fun hb2 H2 e2 => ?_)
    · have hk : k < ns.length := by simpa using hb2
      exact s_ret (ev_ixL (ev_var rfl) (ev_var rfl) (ex_l (e1.trans e2) ha) (zi_get (List.getElem?_eq_getElem hk))) fun H3 e3 => q _ H3 (e1.trans (e2.trans e3))
    · have hk : k % ns.length < ns.length := Nat.mod_lt _ pos
      have hi : Ev (tOp rModP (tVar 1) (tCB (rLenS K) (tCons (tVar 0) tNil))) (start nm__law_cell [.ref a, .int ((k : Nat) : Int)]) H2 (.int ((k % ns.length : Nat) : Int)) := by
        have := ev_mod (ev_var (σ := start nm__law_cell [.ref a, .int ((k : Nat) : Int)]) (H := H2) (i := 1) (v := .int ((k : Nat) : Int)) rfl) (le (e1.trans e2)) (by omega)
        rw [show ((k % ns.length : Nat) : Int) = ((k : Nat) : Int) % (ns.length : Int) from by rw [Int.natCast_emod]]
        exact this
      exact s_ret (ev_add (ev_mul (ev_mod (ev_ixL (ev_var rfl) hi (ex_l (e1.trans e2) ha) (zi_get (List.getElem?_eq_getElem hk))) ev_c (by omega)) ev_c (.inr (by omega))) (ev_mul ev_c (ev_var rfl) (.inl (by omega)))) fun H3 e3 => q _ H3 (e1.trans (e2.trans e3))
theorem ev_cell {K : PySem.W.Frag} {σ : L2.St} {H : Hp} {ta tb : TE} {E : XK} {a : Addr} {ns : List Int} {k : Nat} (h1 : Ev ta σ H (.ref a)) (h2 : Ev tb σ H (.int ((k : Nat) : Int))) (ha : SqL K H a (zi ns)) :
    ∀ H1, Ex H H1 → ∀ Q : VK, (∀ (z : Int) H2, Ex H1 H2 → Q (.int z) H2) → tCall (sp__law_cell K) [] E (tCons ta (tCons tb tNil)) σ H1 Q := fun H1 e Q q => by
  refine (ea_cons h1 (ea_cons h2 ea_nil)) H1 e _ fun H2 e2 => ?_
  exact ⟨a, ns, k, rfl, ex_l (e.trans e2) ha, fun z H3 e3 => q z H3 (e2.trans e3)⟩
def Under (F S : List Nat) : Prop := F.length = S.length ∧ ∀ (k s f : Nat), S[k]? = some s → F[k]? = some f → f < s
def sp__law_draws (K : PySem.W.Frag) : Sp := fun vs H Q _ => ∃ (c : Int) (sa : Addr) (S : List Nat), vs = [.int c, .ref sa] ∧ SqL K H sa (ni S) ∧ S.length ≤ 10000 ∧ (∀ s ∈ S, 0 < s ∧ s < 1000000) ∧ ∀ F : List Nat, Under F S → RetL (ni F) H Q
theorem under_snoc {F S : List Nat} {k s f : Nat} (h : F.length = k ∧ ∀ (j s f : Nat), S[j]? = some s → F[j]? = some f → f < s) (hs : S[k]? = some s) (hf : f < s) : (F ++ [f]).length = k + 1 ∧ ∀ (j s g : Nat), S[j]? = some s → (F ++ [f])[j]? = some g → g < s := by
  refine ⟨by rw [List.length_append, h.1]; rfl, fun j s' g h1 h2 => ?_⟩
  by_cases hj : j < F.length
  · rw [List.getElem?_append_left hj] at h2
    exact h.2 j s' g h1 h2
  · have hl := (List.getElem?_eq_some_iff.mp h2).1
    rw [List.length_append, List.length_singleton] at hl
    have ej : j = F.length := by omega
    rw [List.getElem?_append_right (by omega), ej, Nat.sub_self] at h2
    rw [ej, h.1, hs] at h1
    rw [← Option.some.inj h1, ← Option.some.inj h2]
    exact hf
theorem ni_put (xs : List Nat) (x : Nat) : ni xs ++ [.int ((x : Nat) : Int)] = ni (xs ++ [x]) := by
  rw [ni_append]
  rfl
theorem mod_nat (z : Int) {s : Nat} (h : 0 < s) : ∃ f : Nat, z % ((s : Nat) : Int) = ((f : Nat) : Int) ∧ f < s := by
  have h1 := Int.emod_nonneg z (b := ((s : Nat) : Int)) (by omega)
  have h2 := Int.emod_lt_of_pos z (b := ((s : Nat) : Int)) (by omega)
  exact ⟨(z % ((s : Nat) : Int)).toNat, by omega, by omega⟩
theorem pure__law_draws (K : PySem.W.Frag) (vs : List V) (H : Hp) (Q : VK) (E : XK) (h : sp__law_draws K vs H Q E) : t__law_draws K { nx := fun _ H' => Q .non H', rt := Q } (start nm__law_draws vs) H := by
  obtain ⟨c, sa, S, rfl, hS, hl, pos, k⟩ := h
  refine q_asg ev_c fun H1 e1 => ?_
  have mid : ∀ (r0 : Int) H2, Ex H H2 → (tSeq (tAsg (tLst tNil) (gName 3)) (tSeq (tFor (iEnum K (tCons (tVar 1) tNil)) (gTup K 2 (gCons (gName 4) (gCons (gName 5) gNil))) (tIfS (tTest (tOp rMore (tVar 2) (tC (.int 0)))) (tSeq (tDrop (tBM K "list" rAppend (tVar 3) (tCons (tOp rModP (tVar 2) (tVar 5)) tNil)))
  (tAsg (tOp rDivP (tVar 2) (tVar 5)) (gName 2))) (tSeq (tAsg (tOp rModP (tOp rPowP (tOp rPlus (tOp rPlus (tOp rPlus (tOp rModP (tVar 0) (tC (.int 2147483647))) (tOp rTimes (tOp rTimes (tC (.int 1009)) (tVar 4)) (tVar 4))) (tOp rTimes (tC (.int 48611)) (tVar 4))) (tC (.int 17))) (tC (.int 5))) (tC (.int 2147483647))) (gName 6))
  (tDrop (tBM K "list" rAppend (tVar 3) (tCons (tOp rModP (tOp rModP (tOp rPlus (tOp rTimes (tVar 6) (tC (.int 48271))) (tOp rTimes (tC (.int 7919)) (tVar 4))) (tC (.int 1000000007))) (tVar 5)) tNil))))))
  (tRet (tVar 3)))) { nx := fun _ H' => Q .non H', rt := Q } [some (.int c), some (.ref sa), some (.int r0), none, none, none, none] H2 := fun r0 H2 x2 => by
    refine q_asgL (el_lst ea_nil (by show 0 ≤ 100000; omega)) fun p H3 hp0 e3 hp => ?_
    refine q_forEN (K := K) (ev_var rfl) hS (fun i σ' H' => ∃ rz y4 y5 y6 F, σ' = [some (.int c), some (.ref sa), some (.int rz), some (.ref p), y4, y5, y6] ∧ Ex H H' ∧ H' p = some (.lst (ni F)) ∧ F.length = i ∧ ∀ (j s f : Nat), S[j]? = some s → F[j]? = some f → f < s)
      (fun H4 e4 => ⟨r0, none, none, none, [], rfl, x2.trans (e3.trans e4), e4 _ _ hp, rfl, fun j s f _ h => by simp at h⟩) (fun i σ' H' ⟨_, _, _, _, _, _, e, _⟩ => e) (fun i s σ' H' H4 hs ⟨rz, y4, y5, y6, F, es, ex, hf, hu⟩ e4 => ?_) (fun σ' H' ⟨rz, y4, y5, y6, F, es, ex, hf, hu⟩ => ?_)
    · subst es
      have hi : i < S.length := (List.getElem?_eq_some_iff.mp hs).1
      have sp := pos s (List.mem_of_getElem? hs)
      have hpH : H p = none := fresh_back x2 hp0
      refine s_if (b := decide ((0 : Int) < rz)) (et_test (ev_gt (ev_var rfl) ev_c)) (fun hb H5 e5 => ?_) (fun hb H5 e5 => ?_)
      · obtain ⟨f, ef, hf2⟩ := mod_nat rz sp.1
        refine q_app (e5 _ _ (e4 _ _ hf)) (ev_var rfl) (ev_mod (ev_var rfl) (ev_var rfl) (by omega)) (by rw [ni_length, hu.1]; omega) fun H6 e6 => ?_
        rw [ef, ni_put]
        refine s_asg (ev_div (ev_var rfl) (ev_var rfl) ⟨by omega, by omega⟩) fun H7 e7 => ?_
        exact ⟨_, _, _, _, F ++ [f], rfl, (Ex.mut (ex.trans (e4.trans (e5.trans e6))) hpH).trans e7, e7 _ _ upd_same, (under_snoc hu hs hf2).1, (under_snoc hu hs hf2).2⟩
      · have b0 : ∀ x : Int, 0 ≤ x % 2147483647 ∧ x % 2147483647 < 2147483647 := fun x => ⟨Int.emod_nonneg _ (by omega), Int.emod_lt_of_pos _ (by omega)⟩
        have hi2 : i ≤ 10000 := by omega
        have m1 : (1009 * (i : Int)) * (i : Int) ≤ 1009 * 10000 * 10000 := by
          have h1 : (1009 * (i : Int)) ≤ 1009 * 10000 := by omega
          have := Int.mul_le_mul h1 (show (i : Int) ≤ 10000 by omega) (by omega) (by omega)
          omega
        have m0 : 0 ≤ (1009 * (i : Int)) * (i : Int) := Int.mul_nonneg (by omega) (by omega)
        refine q_asg (ev_mod (ev_pow (ev_add (ev_add (ev_add (ev_mod (ev_var rfl) ev_c (by omega)) (ev_mul (ev_mul ev_c (ev_var rfl) (.inl (by omega))) (ev_var rfl) (.inr (by omega)))) (ev_mul ev_c (ev_var rfl) (.inl (by omega)))) ev_c) ev_c ⟨by omega, by omega, ?_⟩) ev_c (by omega)) fun H6 e6 => ?_
        · have := b0 c
          omega
        · obtain ⟨f, ef, hf2⟩ := mod_nat ((((c % 2147483647 + 1009 * (i : Int) * (i : Int) + 48611 * (i : Int) + 17) ^ (5 : Int).toNat % 2147483647) * 48271 + 7919 * (i : Int)) % 1000000007) sp.1
          refine s_app (e6 _ _ (e5 _ _ (e4 _ _ hf))) (ev_var rfl) (ev_mod (ev_mod (ev_add (ev_mul (ev_var rfl) ev_c (.inr (by omega))) (ev_mul ev_c (ev_var rfl) (.inl (by omega)))) ev_c (by omega)) (ev_var rfl) (by omega)) (by rw [ni_length, hu.1]; omega) fun H7 e7 => ?_
          rw [ef, ni_put]
          exact ⟨_, _, _, _, F ++ [f], rfl, Ex.mut (ex.trans (e4.trans (e5.trans (e6.trans e7)))) hpH, upd_same, (under_snoc hu hs hf2).1, (under_snoc hu hs hf2).2⟩
    · subst es
      exact s_ret (ev_var rfl) fun H4 e4 => k F ⟨hu.1, hu.2⟩ p H4 (fresh_back x2 hp0) (ex.trans e4) (e4 _ _ hf)
  refine q_when (b := decide ((10 : Int) ^ (18 : Int).toNat ≤ c)) (et_test (ev_ge (ev_var rfl) (ev_pow ev_c ev_c ⟨by omega, by omega, by decide⟩))) (fun hb H2 e2 => ?_) (fun hb H2 e2 => ?_)
  · exact s_asg (ev_var rfl) fun H3 e3 => mid c H3 (e1.trans (e2.trans e3))
  · exact mid 0 H2 (e1.trans e2)
def sp__law_mate (K : PySem.W.Frag) : Sp := sp_mate_of K
theorem pure__law_mate (K : PySem.W.Frag) (vs : List V) (H : Hp) (Q : VK) (E : XK) (h : sp__law_mate K vs H Q E) : t__law_mate K { nx := fun _ H' => Q .non H', rt := Q } (start nm__law_mate vs) H := by
  obtain ⟨z, rfl, k⟩ := h
  exact s_ret (ev_sub (ev_add (ev_var rfl) ev_c) (ev_mul ev_c (ev_mod (ev_var rfl) ev_c (by omega)) (.inl (by omega)))) k
theorem ev_lmate {K : PySem.W.Frag} {σ : L2.St} {H : Hp} {te : TE} {E : XK} {e : Nat} (h : Ev te σ H (.int (e : Int))) : Ev (tCall (sp__law_mate K) [] E (tCons te tNil)) σ H (.int ((mate e : Nat) : Int)) := ev_mate h
/-! ## seats, behind -/
def sp__law_seats (K : PySem.W.Frag) : Sp := fun vs H Q _ => ∃ d D, vs = [.ref d] ∧ Rows H d D ∧ D.flatten.Nodup ∧ D.flatten.length ≤ 10000 ∧ D.length ≤ 10000 ∧ RetD (dT (insT D)) H Q
def sp__law_behind (K : PySem.W.Frag) : Sp := fun vs H Q _ => ∃ d D, vs = [.ref d] ∧ Rows H d D ∧ D.flatten.Nodup ∧ D.flatten.length ≤ 10000 ∧ D.length ≤ 10000 ∧ RetD (dT (nxT D)) H Q
theorem ed_seats {K : PySem.W.Frag} {σ : L2.St} {H : Hp} {te : TE} {E : XK} {d : Addr} {D : Dw} {m : Nat} (h : Ev te σ H (.ref d)) (dr : Dr H d D m) : EvD (tCall (sp__law_seats K) [] E (tCons te tNil)) σ H (dT (insT D)) :=
  ed_call (ea_cons h ea_nil) fun H1 e1 Q q E => ⟨d, D, rfl, dr.rows.mono e1, dr.ok.nd, by rw [dr.ok.len]; have := dr.most; omega, by have := dr.len; omega, q⟩
theorem ed_behind {K : PySem.W.Frag} {σ : L2.St} {H : Hp} {te : TE} {E : XK} {d : Addr} {D : Dw} {m : Nat} (h : Ev te σ H (.ref d)) (dr : Dr H d D m) : EvD (tCall (sp__law_behind K) [] E (tCons te tNil)) σ H (dT (nxT D)) :=
  ed_call (ea_cons h ea_nil) fun H1 e1 Q q E => ⟨d, D, rfl, dr.rows.mono e1, dr.ok.nd, by rw [dr.ok.len]; have := dr.most; omega, by have := dr.len; omega, q⟩
theorem nxt_flat {D : Dw} (nd : D.flatten.Nodup) {p e i : Nat} {r : List Nat} (hr : D[p]? = some r) (hi : r[i]? = some e) : r[(i + 1) % r.length]? = some (nxt D e) := by
  have he : e ∈ r := List.mem_of_getElem? hi
  have hl : 0 < r.length := List.length_pos_of_mem he
  have er : RF.rowOf D e = r := by
    unfold RF.rowOf
    rw [flat_seat nd hr he, List.getD_eq_getElem?_getD, hr]
    rfl
  unfold nxt
  rw [er, idxOf_get (flat_row_nodup nd hr) hi, List.getD_eq_getElem?_getD, List.getElem?_eq_getElem (Nat.mod_lt _ hl)]
  rfl
theorem rows_len {K : PySem.W.Frag} {σ : L2.St} {H : Hp} {te : TE} {d : Addr} {D : Dw} (h : Ev te σ H (.ref d)) (hD : Rows H d D) : Ev (tCB (rLenS K) (tCons te tNil)) σ H (.int (D.length : Int)) := by
  obtain ⟨xs, h1, h2⟩ := hD.lst
  have := ev_len (K := K) h (sq_of h1)
  rw [h2] at this
  exact this
theorem pure__law_seats (K : PySem.W.Frag) (vs : List V) (H : Hp) (Q : VK) (E : XK) (h : sp__law_seats K vs H Q E) : t__law_seats K { nx := fun _ H' => Q .non H', rt := Q } (start nm__law_seats vs) H := by
  obtain ⟨d, D, rfl, hD, nd, hz, hz2, k⟩ := h
  let g : Nat → Int := fun e => ((seat D e : Nat) : Int)
  refine q_asgD ed_new fun p H1 hp e1 h1 => ?_
  refine q_forR (rows_len (ev_var rfl) (hD.mono e1)) (by omega) (fun i σ' H' => ∃ y2 y3, σ' = [some (.ref d), some (.ref p), y2, y3] ∧ Ex H H' ∧ H' p = some (.dK (dT (gT g (D.take i).flatten))))
    (fun H2 e2 => ⟨none, none, rfl, e1.trans e2, e2 _ _ h1⟩) (fun i σ' H' hi ⟨y2, y3, es, ex, hl⟩ => ?_) (fun σ' H' ⟨y2, y3, es, ex, hl⟩ => ?_)
  · subst es
    obtain ⟨r, hr⟩ : ∃ r, D[i]? = some r := ⟨_, List.getElem?_eq_getElem hi⟩
    obtain ⟨xs, a, hx1, _, hx2, hx3⟩ := hD.at hr
    refine s_forN (K := K) (H0 := H) (ev_ixL (ev_var rfl) (ev_var rfl) (sq_of (ex _ _ hx1)) hx2) (sq_of hx3) (fun j σ' H' => ∃ y3, σ' = [some (.ref d), some (.ref p), some (.int (i : Int)), y3] ∧ Ex H H' ∧ H' p = some (.dK (dT (gT g ((D.take i).flatten ++ r.take j)))))
      (fun H3 e4 => ⟨y3, rfl, ex.trans e4, by simpa using e4 _ _ hl⟩) (fun j σ' H' ⟨_, _, e, _⟩ => e) (fun j n σ' H' hn ⟨y3, es, e4, hl⟩ => ?_) (fun σ' H' ⟨y3, es, e4, hl⟩ => ?_)
    · subst es
      have fl := flat_lt hr hn
      refine s_dput (v := .int ((i : Nat) : Int)) (ev_var rfl) (ev_var rfl) (ev_var rfl) hl (by rw [dT_length, gT_length]; omega) fun H5 e5 => ⟨_, rfl, Ex.mut (e4.trans e5) hp, ?_⟩
      have eg : ((i : Nat) : Int) = g n := by
        show _ = ((seat D n : Nat) : Int)
        rw [flat_seat nd hr (List.mem_of_getElem? hn)]
      rw [upd_same, eg, gT_put (flat_new nd hr hn), List.append_assoc, List.take_add_one, hn]
      rfl
    · refine ⟨_, _, es, e4, ?_⟩
      rw [take_flat_succ hr]
      rw [List.take_length] at hl
      exact hl
  · subst es
    rw [List.take_length] at hl
    exact s_ret (ev_var rfl) fun H4 e3 => k p H4 hp (ex.trans e3) (e3 _ _ hl)
theorem pure__law_behind (K : PySem.W.Frag) (vs : List V) (H : Hp) (Q : VK) (E : XK) (h : sp__law_behind K vs H Q E) : t__law_behind K { nx := fun _ H' => Q .non H', rt := Q } (start nm__law_behind vs) H := by
  obtain ⟨d, D, rfl, hD, nd, hz, hz2, k⟩ := h
  let g : Nat → Int := fun e => ((nxt D e : Nat) : Int)
  refine q_asgD ed_new fun p H1 hp e1 h1 => ?_
  refine q_forRows (K := K) (ev_var rfl) hD (fun i σ' H' => ∃ y2 y3, σ' = [some (.ref d), some (.ref p), y2, y3] ∧ Ex H H' ∧ H' p = some (.dK (dT (gT g (D.take i).flatten))))
    (fun H2 e2 => ⟨none, none, rfl, e1.trans e2, e2 _ _ h1⟩) (fun i σ' H' ⟨_, _, _, e, _⟩ => e) (fun i r a σ' H' hr ha ⟨y2, y3, es, ex, hl⟩ => ?_) (fun σ' H' ⟨y2, y3, es, ex, hl⟩ => ?_)
  · subst es
    have lr : ∀ {y : Option V} {H' : Hp}, Ex H H' → Ev (tCB (rLenS K) (tCons (tVar 2) tNil)) [some (.ref d), some (.ref p), some (.ref a), y] H' (.int (r.length : Int)) := fun {y H'} ex => by
      have q := ev_len (K := K) (σ := [some (.ref d), some (.ref p), some (.ref a), y]) (H := H') (ta := tVar 2) (ev_var rfl) (sq_of (ex _ _ ha))
      rw [ni_length] at q
      exact q
    have lrz : r.length ≤ 10000 := by
      have := congrArg List.length (show D.flatten = ((D.take i).flatten ++ r) ++ (D.drop (i + 1)).flatten by
        rw [← take_flat_succ hr, ← List.flatten_append, List.take_append_drop])
      simp only [List.length_append] at this
      omega
    refine s_forR (lr ex) (by omega) (fun j σ' H' => ∃ y3, σ' = [some (.ref d), some (.ref p), some (.ref a), y3] ∧ Ex H H' ∧ H' p = some (.dK (dT (gT g ((D.take i).flatten ++ r.take j)))))
      (fun H3 e4 => ⟨y3, rfl, ex.trans e4, by simpa using e4 _ _ hl⟩) (fun j σ' H' hj ⟨y3, es, e4, hl⟩ => ?_) (fun σ' H' ⟨y3, es, e4, hl⟩ => ?_)
    · subst es
      obtain ⟨n, hn⟩ : ∃ n, r[j]? = some n := ⟨_, List.getElem?_eq_getElem hj⟩
      have fl := flat_lt hr hn
      have hi : Ev (tOp rModP (tOp rPlus (tVar 3) (tC (.int 1))) (tCB (rLenS K) (tCons (tVar 2) tNil))) [some (.ref d), some (.ref p), some (.ref a), some (.int (j : Int))] H' (.int (((j + 1) % r.length : Nat) : Int)) := by
        rw [show (((j + 1) % r.length : Nat) : Int) = ((j : Int) + 1) % (r.length : Int) from by rw [Int.natCast_emod]; rfl]
        exact ev_mod (ev_add (ev_var rfl) ev_c) (lr e4) (by omega)
      have hrow := sq_of (K := K) (e4 _ _ ha)
      refine s_dput (ev_ixL (ev_var rfl) hi hrow (ni_get (nxt_flat nd hr hn))) (ev_var rfl) (ev_ixL (ev_var rfl) (ev_var rfl) hrow (ni_get hn)) hl (by rw [dT_length, gT_length]; omega) fun H5 e5 => ⟨_, rfl, Ex.mut (e4.trans e5) hp, ?_⟩
      rw [upd_same, show V.int ((nxt D n : Nat) : Int) = V.int (g n) from rfl, gT_put (flat_new nd hr hn), List.append_assoc, List.take_add_one, hn]
      rfl
    · refine ⟨_, _, es, e4, ?_⟩
      rw [take_flat_succ hr]
      rw [List.take_length] at hl
      exact hl
  · subst es
    rw [List.take_length] at hl
    exact s_ret (ev_var rfl) fun H4 e3 => k p H4 hp (ex.trans e3) (e3 _ _ hl)
/-! ## is_walk -/
def sp__law_is_walk (K : PySem.W.Frag) : Sp := fun vs H Q _ => ∃ d D m w W, vs = [.ref d, .ref w] ∧ Dr H d D m ∧ SqL K H w (zi W) ∧ W.length ≤ 40000 ∧ RetV (.bl (isWalkB D m W)) H Q
theorem seat_in {D : Dw} {m : Nat} (ok : Ok D m) (z : Int) : (valV (dT (insT D)) (.inl z)).isSome = (decide (0 ≤ z) && decide (z < ((2 * m : Nat) : Int))) := by
  by_cases h0 : 0 ≤ z
  · obtain ⟨e, rfl⟩ := Int.eq_ofNat_of_zero_le h0
    by_cases h1 : e < 2 * m
    · rw [seatT_get ok h1]
      simp
      omega
    · have : (insT D).lookup e = none := by
        show (gT (fun e => ((seat D e : Nat) : Int)) D.flatten).lookup e = none
        rw [gT_look, if_neg fun q => h1 ((ok.mem e).mp q)]
      rw [valV_dT, this]
      simp
      omega
  · rw [valV_dT_neg _ (by omega)]
    simp
    omega
theorem pure__law_is_walk (K : PySem.W.Frag) (vs : List V) (H : Hp) (Q : VK) (E : XK) (h : sp__law_is_walk K vs H Q E) : t__law_is_walk K (sp__law_mate K) (sp__law_seats K) { nx := fun _ H' => Q .non H', rt := Q } (start nm__law_is_walk vs) H := by
  obtain ⟨d, D, m, w, W, rfl, dr, hw, hwz, k⟩ := h
  have ok := dr.ok
  refine q_asgD (ed_seats (ev_var rfl) dr) fun p H1 hp e1 h1 => ?_
  refine q_forZ (K := K) (l := W) (ev_var rfl) hw (fun i σ' H' => ∃ y3 y4, σ' = [some (.ref d), some (.ref w), some (.ref p), y3, y4] ∧ Ex H1 H' ∧ ∀ z ∈ W.take i, 0 ≤ z ∧ z < ((2 * m : Nat) : Int))
    (fun H2 e2 => ⟨none, none, rfl, e2, fun z hz => by simp at hz⟩) (fun i σ' H' ⟨_, _, _, e, _⟩ => e1.trans e) (fun i n σ' H' hn ⟨y3, y4, es, ex, hz⟩ => ?_) (fun σ' H' ⟨y3, y4, es, ex, hz⟩ => ?_)
  · subst es
    have le := ev_dnin (σ := [some (.ref d), some (.ref w), some (.ref p), some (.int n), y4]) (H := H') (ty := tVar 3) (td := tVar 2) (ev_var rfl) (ev_var rfl) (.inl (ex _ _ h1))
    rw [seat_in ok] at le
    refine s_when (et_B le) (fun hb H4 e4 => ?_) (fun hb H4 e4 => ?_)
    · refine s_ret ev_c fun H5 e5 => ?_
      have z := k H5 (e1.trans (ex.trans (e4.trans e5)))
      have hf : isWalkB D m W = false := by
        have : okEnds m W = false := by
          rw [Bool.eq_false_iff]
          intro hk
          have := okEnds_mem hk n (List.mem_of_getElem? hn)
          simp at hb
          omega
        unfold isWalkB
        rw [this, Bool.false_and]
      rw [hf] at z
      exact z
    · refine ⟨_, y4, rfl, ex.trans e4, fun z hz' => ?_⟩
      rw [List.take_add_one, hn] at hz'
      rcases List.mem_append.mp hz' with q | q
      · exact hz z q
      · have : z = n := by simpa using q
        rw [this]
        simp at hb
        omega
  · subst es
    rw [List.take_length] at hz
    have hok : okEnds m W = true := List.all_eq_true.mpr fun z hzz => by
      have := hz z hzz
      simp
      omega
    have hnat : ∀ {i : Nat} {n : Int}, W[i]? = some n → ∃ e : Nat, n = (e : Int) ∧ e < 2 * m ∧ (nats W)[i]? = some e := fun {i n} hn => by
      have := hz n (List.mem_of_getElem? hn)
      refine ⟨n.toNat, by omega, by omega, ?_⟩
      unfold nats
      rw [List.getElem?_map, hn]
      rfl
    have lw := ev_len (K := K) (σ := [some (.ref d), some (.ref w), some (.ref p), y3, y4]) (H := H') (ta := tVar 1) (ev_var rfl) (ex_l (e1.trans ex) hw)
    rw [zi_length] at lw
    refine q_forR lw (by omega) (fun i σ' H' => ∃ y3 y4, σ' = [some (.ref d), some (.ref w), some (.ref p), y3, y4] ∧ Ex H1 H' ∧ ∀ j, j < i → ∀ v, (visits (nats W))[j]? = some v → seat D (mate v.1) = seat D v.2)
      (fun H2 e2 => ⟨y3, y4, rfl, ex.trans e2, fun j hj => by omega⟩) (fun i σ' H' hi ⟨y3, y4, es, ex, hv⟩ => ?_) (fun σ' H' ⟨y3, y4, es, ex, hv⟩ => ?_)
    · subst es
      obtain ⟨n, hn⟩ : ∃ n, W[i]? = some n := ⟨_, List.getElem?_eq_getElem hi⟩
      obtain ⟨e, rfl, he, hne⟩ := hnat hn
      obtain ⟨n', hn'⟩ : ∃ n', W[if i = 0 then W.length - 1 else i - 1]? = some n' := ⟨_, List.getElem?_eq_getElem (by split <;> omega)⟩
      obtain ⟨e', rfl, he', hne'⟩ := hnat hn'
      have hp2 : Rd H' p (.dK (dT (insT D))) := .inl (ex _ _ h1)
      have hw2 : SqL K H' w (zi W) := ex_l (e1.trans ex) hw
      have hv1 := visits_at hne (by rw [nats_length]; exact hne')
      refine s_when (b := !decide (((seat D (mate e') : Nat) : Int) = ((seat D e : Nat) : Int))) (et_test (ev_neI (ev_dget (ev_var rfl) (ev_lmate (ev_ixI (ev_var rfl) (ev_sub (ev_var rfl) ev_c) hw2 (atI_prev (by rw [zi_length]; exact hi) (by rw [zi_length]; exact zi_get hn')))) hp2 (seatT_get ok (mate_lt he'))) (ev_dget (ev_var rfl) (ev_ixL (ev_var rfl) (ev_var rfl) hw2 (zi_get hn)) hp2 (seatT_get ok he)))) (fun hb H4 e4 => ?_) (fun hb H4 e4 => ?_)
      · refine s_ret ev_c fun H5 e5 => ?_
        have z := k H5 (e1.trans (ex.trans (e4.trans e5)))
        have hf : isWalkB D m W = false := by
          unfold isWalkB
          rw [hok, Bool.true_and]
          refine decide_eq_false fun hall => ?_
          have hq : seat D (mate e') = seat D e := hall _ (List.mem_of_getElem? hv1)
          simp [hq] at hb
        rw [hf] at z
        exact z
      · refine ⟨_, _, rfl, ex.trans e4, fun j hj v hv2 => ?_⟩
        by_cases hji : j < i
        · exact hv j hji v hv2
        · have ej : j = i := by omega
          rw [ej, hv1] at hv2
          rw [← Option.some.inj hv2]
          show seat D (mate e') = seat D e
          simp at hb
          omega
    · subst es
      refine s_ret ev_c fun H5 e5 => ?_
      have z := k H5 (e1.trans (ex.trans e5))
      have hf : isWalkB D m W = true := by
        unfold isWalkB
        rw [hok, Bool.true_and]
        refine decide_eq_true fun v hvm => ?_
        obtain ⟨j, hj⟩ := List.mem_iff_getElem?.mp hvm
        refine hv j ?_ v hj
        have := (List.getElem?_eq_some_iff.mp hj).1
        rw [visits_length, nats_length] at this
        exact this
      rw [hf] at z
      exact z
end RF

set_option Elab.async false
set_option linter.all false
set_option maxRecDepth 100000
set_option maxHeartbeats 4000000
namespace RF
open PySem PySem.Spec PyProof.Rows L2 Evl
/-! ## lands -/
def bT (S : List Nat) : List (Key × V) := S.map fun e => (Sum.inl ((e : Nat) : Int), V.bl true)
theorem bT_length (S : List Nat) : (bT S).length = S.length := List.length_map ..
theorem valV_bT : ∀ (S : List Nat) (p : Nat), valV (bT S) (.inl ((p : Nat) : Int)) = if p ∈ S then some (V.bl true) else none
  | [], p => by simp [bT]; rfl
  | a :: S, p => by
    show valV ((Sum.inl ((a : Nat) : Int), V.bl true) :: bT S) _ = _
    by_cases e : p = a
    · rw [valV_pos (by rw [e]), if_pos (by rw [e]; exact List.mem_cons_self)]
    · rw [valV_neg (fun q => e (by have := Sum.inl.inj q; omega)), valV_bT S p]
      by_cases hm : p ∈ S
      · rw [if_pos hm, if_pos (List.mem_cons_of_mem _ hm)]
      · rw [if_neg hm, if_neg fun w => (List.mem_cons.mp w).elim e hm]
theorem bT_in (S : List Nat) (p : Nat) : (valV (bT S) (.inl ((p : Nat) : Int))).isSome = decide (p ∈ S) := by
  rw [valV_bT]
  by_cases h : p ∈ S
  · rw [if_pos h]; simp [h]
  · rw [if_neg h]; simp [h]
theorem bT_put {S : List Nat} {p : Nat} (h : p ∉ S) : putK (bT S) (.inl ((p : Nat) : Int)) (.bl true) = bT (S ++ [p]) := by
  rw [putK_new _ (by rw [valV_bT, if_neg h])]
  unfold bT
  rw [List.map_append]
  rfl
theorem s_retR {te : TE} {σ : L2.St} {H : Hp} {D : Ends} {B : List (List Nat)} (h : EvR te σ H B) (k : ∀ p H1, H p = none → Ex H H1 → Rows H1 p B → D.rt (.ref p) H1) : tRet te D σ H := h H (Ex.refl H) _ k
def sp__law_lands (K : PySem.W.Frag) : Sp := sp_lands_of K
theorem er_llands {K : PySem.W.Frag} {σ : L2.St} {H : Hp} {te : TE} {E : XK} {d : Addr} {D : Dw} {m : Nat} (h : Ev te σ H (.ref d)) (dr : Dr H d D m) : EvR (tCall (sp__law_lands K) [] E (tCons te tNil)) σ H (lands D m) := er_lands h dr
theorem bare_map : ∀ D : Dw, (D.filter fun r => r.isEmpty).map (fun _ => ([] : List Nat)) = List.replicate (D.countP fun r => r.isEmpty) []
  | [] => rfl
  | r :: D => by
    rw [List.filter_cons, List.countP_cons]
    cases h : r.isEmpty with
    | true =>
      rw [if_pos rfl, if_pos rfl, List.map_cons, bare_map D]
      rfl
    | false =>
      rw [if_neg (by simp), if_neg (by simp), bare_map D]
      rfl
theorem pure__law_lands (K : PySem.W.Frag) (vs : List V) (H : Hp) (Q : VK) (E : XK) (h : sp__law_lands K vs H Q E) : t__law_lands K (sp__law_mate K) (sp__law_behind K) { nx := fun _ H' => Q .non H', rt := Q } (start nm__law_lands vs) H := by
  obtain ⟨d, D, m, rfl, dr, k⟩ := h
  have hm := dr.most
  have ok := dr.ok
  refine q_asgD (ed_behind (ev_var rfl) dr) fun b H1 hb0 e1 hb => ?_
  refine q_asgD ed_new fun s H2 hs0 e2 hs => ?_
  refine q_asgL (el_lst ea_nil (by show 0 ≤ 100000; omega)) fun L H3 hL0 e3 hL => ?_
  have nLs : L ≠ s := fun z => by rw [z, hs] at hL0; cases hL0
  have hL1 : H1 L = none := fresh_back e2 hL0
  have lenB := ev_lenD (σ := [some (.ref d), some (.ref b), some (.ref s), some (.ref L), none, none, none, none]) (H := H3) (td := tVar 1) (ev_var rfl) (e3 _ _ (e2 _ _ hb))
  rw [nxT_length ok] at lenB
  refine q_forR (k := 2 * m) lenB (by omega) (fun i σ' H' => ∃ S Ls as y4 y5 y6 y7, σ' = [some (.ref d), some (.ref b), some (.ref s), some (.ref L), y4, y5, y6, y7] ∧ Ex H1 H' ∧ H' s = some (.dK (bT S.reverse)) ∧ RowsA H' L as Ls ∧ (∀ c ∈ as, c ≠ s ∧ c ≠ L) ∧ OT (stp D) (2 * m) i S Ls)
    (fun H4 e4 => ⟨[], [], [], none, none, none, none, rfl, (e2.trans e3).trans e4, (show H4 s = some (.dK (bT [].reverse)) from e4 _ _ (e3 _ _ hs)), ⟨e4 _ _ hL, rfl, fun i a r ha _ => by simp at ha⟩, (fun c hc => by cases hc), OT.start⟩)
    (fun i σ' H' hi ⟨S, Ls, as, y4, y5, y6, y7, es, ex, h1, h2, h3, h4⟩ => ?_) (fun σ' H' ⟨S, Ls, as, y4, y5, y6, y7, es, ex, h1, h2, h3, h4⟩ => ?_)
  · subst es
    refine q_asgL (el_lst ea_nil (by show 0 ≤ 100000; omega)) fun p H5 hp0 e5 hp => ?_
    have nps : p ≠ s := fun z => by rw [z, h1] at hp0; cases hp0
    have npL : p ≠ L := fun z => by rw [z, h2.1] at hp0; cases hp0
    have npa : ∀ c ∈ as, c ≠ p := fun c hc z => by
      obtain ⟨j, hj⟩ := List.mem_iff_getElem?.mp hc
      have hl : j < Ls.length := by rw [← h2.2.1]; exact (List.getElem?_eq_some_iff.mp hj).1
      have q := h2.2.2 j c _ hj (List.getElem?_eq_getElem hl)
      rw [z, hp0] at q
      cases q
    have hp1 : H1 p = none := fresh_back ex hp0
    have hs1 : H1 s = none := hs0
    refine q_asg (ev_var rfl) fun H6 e6 => ?_
    refine q_while (fun n σ2 H7 => ∃ S2 acc e, σ2 = [some (.ref d), some (.ref b), some (.ref s), some (.ref L), some (.int (i : Int)), some (.ref p), some (.int ((e : Nat) : Int)), y7] ∧ Ex H1 H7 ∧ H7 s = some (.dK (bT S2.reverse)) ∧ H7 p = some (.lst (ni acc)) ∧ RowsA H7 L as Ls ∧ OS (stp D) (2 * m) S (orb (stp D) (2 * m + 1) S i) n S2 acc e)
      (2 * m + 1) ⟨S, [], i, rfl, (ex.trans e5).trans e6, e6 _ _ (e5 _ _ h1), e6 _ _ hp, h2.mono (e5.trans e6), OS.start h4.nd h4.lt hi⟩ ?_
    rintro n σ2 H7 ⟨S2, acc, e, rfl, ex7, g1, g2, g3, g4⟩
    have dn := ev_dnin (σ := [some (.ref d), some (.ref b), some (.ref s), some (.ref L), some (.int (i : Int)), some (.ref p), some (.int ((e : Nat) : Int)), y7]) (H := H7) (ty := tVar 6) (td := tVar 2) (ev_var rfl) (ev_var rfl) (.inl g1)
    rw [bT_in] at dn
    refine ⟨_, et_B dn, fun hb2 H8 e8 => ?_, fun hb2 H8 e8 => ?_⟩
    · have he : e ∉ S2 := by simpa using hb2
      obtain ⟨n', rfl, g5⟩ := g4.step ok.stp he
      have big := nodup_bound g4.nd g4.lt
      have lacc : acc.length ≤ 2 * m := by
        have := g4.sS
        rw [this] at big
        simp at big
        omega
      refine ⟨fun σ3 H9 => ∃ S2 acc e, σ3 = [some (.ref d), some (.ref b), some (.ref s), some (.ref L), some (.int (i : Int)), some (.ref p), some (.int ((e : Nat) : Int)), y7] ∧ Ex H1 H9 ∧ H9 s = some (.dK (bT S2.reverse)) ∧ H9 p = some (.lst (ni acc)) ∧ RowsA H9 L as Ls ∧ OS (stp D) (2 * m) S (orb (stp D) (2 * m + 1) S i) n' S2 acc e, fun σ3 H9 w => ⟨n', by omega, w⟩, ?_⟩
      refine q_dput (v := .bl true) ev_c (ev_var rfl) (ev_var rfl) (e8 _ _ g1) (by rw [bT_length, List.length_reverse]; omega) fun H9 e9 => ?_
      rw [bT_put (by simpa using he), show S2.reverse ++ [e] = (e :: S2).reverse from by simp]
      have x9 := Ex.mut (o := HO.dK (bT (e :: S2).reverse)) ((ex7.trans e8).trans e9) hs1
      have r9 : RowsA (upd H9 s (.dK (bT (e :: S2).reverse))) L as Ls := (g3.mono (e8.trans e9)).upd nLs fun c hc => (h3 c hc).1
      have p9 : (upd H9 s (.dK (bT (e :: S2).reverse))) p = some (.lst (ni acc)) := by rw [upd_ne nps]; exact e9 _ _ (e8 _ _ g2)
      refine q_app p9 (ev_var rfl) (ev_var (v := .int ((e : Nat) : Int)) rfl) (by rw [ni_length]; omega) fun H10 e10 => ?_
      have x10 := Ex.mut (o := HO.lst (ni acc ++ [.int ((e : Nat) : Int)])) (x9.trans e10) hp1
      refine s_asg (ev_dget (v := .int ((stp D e : Nat) : Int)) (ev_var rfl) (ev_lmate (ev_var rfl)) (.inl (x10 _ _ hb)) (nxT_get ok (mate_lt g4.el))) fun H11 e11 => ?_
      refine ⟨e :: S2, acc ++ [e], stp D e, rfl, x10.trans e11, ?_, ?_, ?_, g5⟩
      · refine e11 _ _ ?_
        rw [upd_ne nps.symm]
        exact e10 _ _ upd_same
      · refine e11 _ _ ?_
        rw [upd_same, ni_append]
        rfl
      · exact ((r9.mono e10).upd npL.symm npa).mono e11
    · have he : e ∈ S2 := by simpa using hb2
      obtain ⟨q1, q2⟩ := g4.stop he
      have q3 := q2
      rw [← q1] at q2
      have hle := h4.le
      have la : as.length = Ls.length := h2.2.1
      have le := ev_len (K := K) (σ := [some (.ref d), some (.ref b), some (.ref s), some (.ref L), some (.int (i : Int)), some (.ref p), some (.int ((e : Nat) : Int)), y7]) (H := H8) (ta := tVar 5) (ev_var rfl) (sq_of (e8 _ _ g2))
      rw [ni_length] at le
      refine s_when (b := decide ((0 : Int) < (acc.length : Int))) (et_test (ev_gt le ev_c)) (fun hb3 H8' e8' => ?_) (fun hb3 H8' e8' => ?_)
      · have hS : i ∉ S := fun z => by
          rw [show orb (stp D) (2 * m + 1) S i = [] from by unfold orb; rw [if_pos z]] at q1
          rw [q1] at hb3
          simp at hb3
        refine s_app (e8' _ _ (e8 _ _ g3.1)) (ev_var rfl) (ev_var (v := .ref p) rfl) (by rw [List.length_map, la]; omega) fun H9 e9 => ?_
        have x9 := e8.trans (e8'.trans e9)
        have r9 := (g3.mono x9).push (x9 _ _ g2) npL (fun c hc => (h3 c hc).2)
        refine ⟨S2, Ls ++ [acc], as ++ [p], _, _, _, _, rfl, Ex.mut (ex7.trans x9) hL1, ?_, r9, ?_, h4.take hi hS q1 q2 g4.nd g4.lt⟩
        · rw [upd_ne nLs.symm]
          exact x9 _ _ g1
        · intro c hc
          rcases List.mem_append.mp hc with z | z
          · exact h3 c z
          · rw [List.mem_singleton.mp z]
            exact ⟨nps, npL⟩
      · have ea : acc = [] := List.eq_nil_of_length_eq_zero (by have := of_decide_eq_false hb3; omega)
        have hS : i ∈ S := Classical.byContradiction fun z => orb_ne (st := stp D) (n := 2 * m) z (by rw [← q1, ea])
        have eS : S2 = S := by rw [q2, ea]; rfl
        rw [eS] at g1
        exact ⟨S, Ls, as, _, _, _, _, rfl, ex7.trans (e8.trans e8'), e8' _ _ (e8 _ _ g1), g3.mono (e8.trans e8'), h3, h4.skip hi hS⟩
  · subst es
    have hLs := h4.done
    have hlen : Ls.length ≤ 2 * m := h4.le
    have hD := dr.len
    have hd := dr.rows.mono (e1.trans ex)
    have bare := er_lcRows (K := K) (σ := [some (.ref d), some (.ref b), some (.ref s), some (.ref L), y4, y5, y6, y7]) (H := H') (tl := tVar 0) (te := tLst tNil) (t := tTest (tOp rEq (tCB (rLenS K) (tCons (tVar 7) tNil)) (tC (.int 0)))) (j := 7) (vs := [7]) (fun r => r.isEmpty) (fun _ => []) (ev_var rfl) hd (by omega) (fun _ => rfl)
      (fun i r a H1 e1 hi ha => by
        have le := ev_len (K := K) (σ := (wipe [some (.ref d), some (.ref b), some (.ref s), some (.ref L), y4, y5, y6, y7] [7]).set 7 (some (.ref a))) (H := H1) (ta := tVar 7) (ev_var rfl) (sq_of ha)
        rw [ni_length] at le
        refine et_is (et_test (ev_eqI le ev_c)) ?_
        cases r with
        | nil => rfl
        | cons x r =>
          show decide ((((x :: r).length : Nat) : Int) = 0) = false
          exact decide_eq_false (by rw [List.length_cons]; omega))
      (fun i r a H1 e1 hi ha => el_lst ea_nil (by show 0 ≤ 100000; omega))
    rw [bare_map] at bare
    refine s_retR (er_cat (ev_var rfl) ⟨as, h2⟩ bare ?_) fun p H4 hp e4 hr => ?_
    · rw [List.length_replicate]
      have : D.countP (fun r => r.isEmpty) ≤ D.length := List.countP_le_length
      omega
    · unfold lands at k
      rw [hLs] at k
      exact k p H4 (fresh_back (e1.trans ex) hp) (e1.trans (ex.trans e4)) hr
/-! ## lefts, crossing -/
def sp__law_lefts (K : PySem.W.Frag) : Sp := sp_left_counts K
theorem pure__law_lefts (K : PySem.W.Frag) (vs : List V) (H : Hp) (Q : VK) (E : XK) (h : sp__law_lefts K vs H Q E) : t__law_lefts K (sp__law_mate K) (sp__law_behind K) { nx := fun _ H' => Q .non H', rt := Q } (start nm__law_lefts vs) H := by
  obtain ⟨d, D, m, w, W, rfl, dr, hw, hwl, wk, k⟩ := h
  have hm := dr.most
  have ok := dr.ok
  refine q_asgD (ed_behind (ev_var rfl) dr) fun b H1 hb0 e1 hb => ?_
  have lenB := ev_lenD (σ := [some (.ref d), some (.ref w), some (.ref b), none, none, none, none]) (H := H1) (td := tVar 2) (ev_var rfl) hb
  rw [nxT_length ok] at lenB
  refine q_asgL (el_rep1 ev_c lenB (by omega)) fun p H2 hp e2 h2 => ?_
  rw [map_zero] at h2
  have lw := ev_len (K := K) (σ := [some (.ref d), some (.ref w), some (.ref b), some (.ref p), none, none, none]) (H := H2) (ta := tVar 1) (ev_var rfl) (ex_l (e1.trans e2) hw)
  rw [ni_length] at lw
  refine q_forR lw (by omega) (fun i σ' H' => ∃ y4 y5 y6, σ' = [some (.ref d), some (.ref w), some (.ref b), some (.ref p), y4, y5, y6] ∧ Ex H1 H' ∧ H' p = some (.lst (zi ((List.range (2 * m)).map (LFs D (2 * m + 1) ((visits W).take i) fun _ => 0)))))
    (fun H3 e3 => ⟨none, none, none, rfl, e2.trans e3, by simpa [LFs] using e3 _ _ h2⟩) (fun i σ' H3 hi ⟨y4, y5, y6, es, ex, hl⟩ => ?_) (fun σ' H' ⟨y4, y5, y6, es, ex, hl⟩ => ?_)
  · subst es
    obtain ⟨g, hg⟩ : ∃ g, W[i]? = some g := ⟨_, List.getElem?_eq_getElem hi⟩
    obtain ⟨a0, ha0⟩ : ∃ a0, W[if i = 0 then W.length - 1 else i - 1]? = some a0 := ⟨_, List.getElem?_eq_getElem (by split <;> omega)⟩
    have hv := visits_at hg ha0
    have la := wk.lt a0 (List.mem_of_getElem? ha0)
    have lg := wk.lt g (List.mem_of_getElem? hg)
    have hon := wk.on _ (List.mem_of_getElem? hv)
    have hw3 : SqL K H3 w (ni W) := ex_l (e1.trans ex) hw
    refine q_asg (ev_lmate (ev_ixI (ev_var rfl) (ev_sub (ev_var rfl) ev_c) hw3 (atI_prev (by rw [ni_length]; exact hi) (by rw [ni_length]; exact ni_get ha0)))) fun H4 e4 => ?_
    refine q_asg (ev_dget (ev_var rfl) (ev_var rfl) (.inl (e4 _ _ (ex _ _ hb))) (nxT_get ok (mate_lt la))) fun H5 e5 => ?_
    have tgt : (visits W).take (i + 1) = (visits W).take i ++ [(a0, g)] := by rw [List.take_add_one, hv]; rfl
    refine s_while (fun n σ2 H7 => ∃ x c, σ2 = [some (.ref d), some (.ref w), some (.ref b), some (.ref p), some (.int (i : Int)), some (.int ((mate a0 : Nat) : Int)), some (.int ((x : Nat) : Int))] ∧ Ex H1 H7 ∧ H7 p = some (.lst (zi ((List.range (2 * m)).map c))) ∧ x < 2 * m ∧ Hit (nxt D) (mate a0) g n x ∧
        spin (nxt D) (mate a0) g n x c = LFs D (2 * m + 1) ((visits W).take (i + 1)) fun _ => 0)
      (2 * m + 1) ⟨nxt D (mate a0), _, rfl, ex.trans (e4.trans e5), e5 _ _ (e4 _ _ hl), ok.nxt_lt (mate_lt la), ok.hit (mate_lt la) lg hon, by rw [tgt, LFs_snoc]⟩ ?_
    rintro n σ2 H7 ⟨x, c, rfl, ex7, h7, hx, hit, sp⟩
    refine ⟨_, et_and (a := !decide (((x : Nat) : Int) = ((g : Nat) : Int))) (b := !decide (((x : Nat) : Int) = ((mate a0 : Nat) : Int))) (et_test (ev_neI (ev_var rfl) (ev_ixL (ev_var rfl) (ev_var rfl) (ex_l (e1.trans ex7) hw) (ni_get hg)))) fun _ => et_test (ev_neI (ev_var rfl) (ev_var rfl)), fun hb2 H8 e8 => ?_, fun hb2 H8 e8 => ?_⟩
    · have n1 : x ≠ g := fun z => by simp [z] at hb2
      have n2 : x ≠ mate a0 := fun z => by simp [z] at hb2
      obtain ⟨n', rfl⟩ : ∃ n', n = n' + 1 := ⟨n - 1, by have := hit.pos; omega⟩
      rw [spin_step n1 n2] at sp
      refine ⟨fun σ3 H9 => ∃ x c, σ3 = [some (.ref d), some (.ref w), some (.ref b), some (.ref p), some (.int (i : Int)), some (.int ((mate a0 : Nat) : Int)), some (.int ((x : Nat) : Int))] ∧ Ex H1 H9 ∧ H9 p = some (.lst (zi ((List.range (2 * m)).map c))) ∧ x < 2 * m ∧ Hit (nxt D) (mate a0) g n' x ∧
        spin (nxt D) (mate a0) g n' x c = LFs D (2 * m + 1) ((visits W).take (i + 1)) fun _ => 0, fun σ3 H9 w => ⟨n', by omega, w⟩, ?_⟩
      refine q_setL (j := x) (e8 _ _ h7) (ev_add (ev_ixL (ev_var rfl) (ev_var rfl) (sq_of (e8 _ _ h7)) (zi_get (map_get c hx))) ev_c) (ev_var rfl) (ev_var rfl) (by rw [zi_length, List.length_map, List.length_range]; exact hx) fun H9 e9 => ?_
      rw [zi_set, bump_set c hx]
      have x9 := Ex.mut (o := HO.lst (zi ((List.range (2 * m)).map (bump c x)))) ((ex7.trans e8).trans e9) hp
      refine s_asg (ev_dget (ev_var rfl) (ev_var rfl) (.inl (x9 _ _ hb)) (nxT_get ok hx)) fun H10 e10 => ?_
      exact ⟨nxt D x, bump c x, rfl, x9.trans e10, e10 _ _ upd_same, ok.nxt_lt hx, (hit.next n1).2, sp⟩
    · have stop : x = g ∨ x = mate a0 := by
        by_cases z : x = g
        · exact .inl z
        · refine .inr ?_
          simp at hb2
          have := hb2 (by omega)
          omega
      rw [spin_stop stop] at sp
      refine ⟨_, _, _, rfl, ex7.trans e8, ?_⟩
      rw [← sp]
      exact e8 _ _ h7
  · subst es
    rw [← visits_length W, List.take_length] at hl
    exact s_ret (ev_var rfl) fun H4 e4 => k p H4 (fresh_back e1 hp) (e1.trans (ex.trans e4)) (e4 _ _ hl)
def sp__law_crossing (K : PySem.W.Frag) : Sp := fun vs H Q _ => ∃ d D m w W o U, vs = [.ref d, .ref w, .ref o] ∧ Dr H d D m ∧ SqL K H w (ni W) ∧ W.length ≤ 40000 ∧ WalkN D m W ∧ SqL K H o (ni U) ∧ U.length ≤ 40000 ∧ (∀ e ∈ U, e < 2 * m) ∧ RetV (.int (cross (LF D m W) U)) H Q
theorem pure__law_crossing (K : PySem.W.Frag) (vs : List V) (H : Hp) (Q : VK) (E : XK) (h : sp__law_crossing K vs H Q E) : t__law_crossing K (sp__law_mate K) (sp__law_lefts K) { nx := fun _ H' => Q .non H', rt := Q } (start nm__law_crossing vs) H := by
  obtain ⟨d, D, m, w, W, o, U, rfl, dr, hw, hl, wk, ho, hu, lt, k⟩ := h
  refine q_asgL (el_f (ea_cons (ev_var rfl) (ea_cons (ev_var rfl) ea_nil)) fun H2 e2 Q q E => ⟨d, D, m, w, W, rfl, dr.mono e2, ex_l e2 hw, hl, wk, q⟩) fun c H1 hc0 e1 hc => ?_
  refine s_ret (ev_sumN (ns := U.map fun e => LF D m W e - LF D m W (mate e)) ?_) fun H2 e2 => k H2 (e1.trans e2)
  have q := el_lcN (K := K) (σ := [some (.ref d), some (.ref w), some (.ref o), some (.ref c), none]) (H := H1) (tl := tVar 2) (te := tOp rMinus (tOp (rIxL K) (tVar 3) (tVar 4)) (tOp (rIxL K) (tVar 3) (tCall (sp__law_mate K) [] E0 (tCons (tVar 4) tNil)))) (j := 4) (vs := [4]) (fun e => V.int (LF D m W e - LF D m W (mate e))) (ev_var rfl) (ex_l e1 ho) hu (fun _ => rfl) (fun i e H2 e2 he => by
    have h1 := lt e (List.mem_of_getElem? he)
    exact ev_sub (ev_ixL (ev_var rfl) (ev_var rfl) (sq_of (e2 _ _ hc)) (zi_get (map_get (LF D m W) h1))) (ev_ixL (ev_var rfl) (ev_lmate (ev_var rfl)) (sq_of (e2 _ _ hc)) (zi_get (map_get (LF D m W) (mate_lt h1)))))
  have e : zi (U.map fun e => LF D m W e - LF D m W (mate e)) = U.map fun e => V.int (LF D m W e - LF D m W (mate e)) := by
    unfold zi
    rw [List.map_map]
    rfl
  rw [e]
  exact q
/-! ## wholes, is_turn -/
def sp__law_wholes (K : PySem.W.Frag) : Sp := fun vs H Q _ => ∃ (p : Addr) (ns : List Int), vs = [.ref p] ∧ H p = some (.lst (zi ns)) ∧ RetV (.bl true) H Q
theorem ev_isi {K : PySem.W.Frag} {σ : L2.St} {H : Hp} {ta : TE} {x : V} {t : Value} {c : String} {b : Bool} (h : Ev ta σ H x) (ty : ∀ H1, Ex H H1 → TyX K H1 x t) (hb : PySem.W.kitOne K t (.type c) = some b) : Ev (tCB (rIsi K) (tCons ta (tCons (tC (.ty c)) tNil))) σ H (.bl b) := fun H1 e Q q =>
  h H1 e _ fun H2 e2 => ⟨x, .ty c, t, .type c, b, rfl, .ty c, ty H2 (e.trans e2), hb, q H2 e2⟩
theorem pure__law_wholes (K : PySem.W.Frag) (vs : List V) (H : Hp) (Q : VK) (E : XK) (h : sp__law_wholes K vs H Q E) : t__law_wholes K { nx := fun _ H' => Q .non H', rt := Q } (start nm__law_wholes vs) H := by
  obtain ⟨p, ns, rfl, hp, k⟩ := h
  refine q_when (et_not (et_B (b := true) (ev_isi (ev_var rfl) (fun H1 e1 => .base (.lst (e1 _ _ hp))) rfl))) (fun hb => by cases hb) (fun _ H1 e1 => ?_)
  refine q_forZ (K := K) (l := ns) (ev_var rfl) (sq_of hp) (fun i σ' H' => ∃ y1, σ' = [some (.ref p), y1] ∧ Ex H H') (fun H2 e2 => ⟨none, rfl, e1.trans e2⟩) (fun i σ' H' ⟨_, _, e⟩ => e) (fun i n σ' H' hn ⟨y1, es, ex⟩ => ?_) (fun σ' H' ⟨y1, es, ex⟩ => ?_)
  · subst es
    refine s_when (et_or (a := false) (b := false) (et_not (et_B (b := true) (ev_isi (x := .int n) (ev_var rfl) (fun H1 e1 => .base (.int _)) rfl))) fun _ => et_B (ev_isi (x := .int n) (t := .type "int") (ev_var rfl) (fun H1 e1 => .base (.int _)) rfl)) (fun hb => by cases hb) (fun _ H2 e2 => ⟨_, rfl, ex.trans e2⟩)
  · subst es
    exact s_ret ev_c fun H2 e2 => k H2 (ex.trans e2)
theorem ev_lenSet {K : PySem.W.Frag} {σ : L2.St} {H : Hp} {ta : TE} {l : List Nat} (h : EvL ta σ H (ni l)) (nd : l.Nodup) (hz : l.length ≤ 4000) : Ev (RZ.tLenSetI K ta) σ H (.int (l.length : Int)) := fun H1 e Q q =>
  h H1 e _ fun p H2 hp e2 h2 => ⟨p, l.map fun n => ((n : Nat) : Int), rfl, by
    have := sq_of (K := K) h2
    rw [ni_zi] at this
    exact this, nodup_map nd fun a _ b _ q => by omega, by rw [List.length_map]; exact hz, by
    rw [List.length_map]
    exact q H2 e2⟩
def sp__law_is_turn (K : PySem.W.Frag) : Sp := fun vs H Q _ => ∃ d D m w U, vs = [.ref d, .ref w] ∧ Dr H d D m ∧ SqL K H w (ni U) ∧ U.length ≤ 4000 ∧ Turn D m U ∧ RetV (.bl true) H Q
theorem pure__law_is_turn (K : PySem.W.Frag) (vs : List V) (H : Hp) (Q : VK) (E : XK) (h : sp__law_is_turn K vs H Q E) : t__law_is_turn K (sp__law_seats K) (sp__law_is_walk K) { nx := fun _ H' => Q .non H', rt := Q } (start nm__law_is_turn vs) H := by
  obtain ⟨d, D, m, w, U, rfl, dr, hw, hz, tn, k⟩ := h
  have ok := dr.ok
  have lw : ∀ {y2 y3 : Option V} {H' : Hp}, Ex H H' → Ev (tCB (rLenS K) (tCons (tVar 1) tNil)) [some (.ref d), some (.ref w), y2, y3] H' (.int (U.length : Int)) := fun {y2 y3 H'} ex => by
    have := ev_len (K := K) (σ := [some (.ref d), some (.ref w), y2, y3]) (H := H') (ta := tVar 1) (ev_var rfl) (ex_l ex hw)
    rw [ni_length] at this
    exact this
  have pos : 0 < U.length := List.length_pos_iff.mpr tn.ne
  have hwz : SqL K H w (zi (zOf U)) := by rw [zi_zOf]; exact hw
  refine q_when (et_or (a := decide (((U.length : Nat) : Int) = 0)) (b := !true) (et_test (ev_eqI (lw (Ex.refl _)) ev_c)) fun _ => et_not (et_B (ev_f (ea_cons (ev_var rfl) (ea_cons (ev_var rfl) ea_nil)) fun H1 e1 Q q E => ⟨d, D, m, w, zOf U, rfl, dr.mono e1, ex_l e1 hwz, by rw [zOf_length]; omega, by rw [isWalk_of tn.walk]; exact q⟩))) (fun hb H1 e1 => ?_) (fun hb H1 e1 => ?_)
  · rw [decide_eq_false (by omega)] at hb
    cases hb
  · refine q_asgD (ed_seats (ev_var rfl) (dr.mono e1)) fun p H2 hp0 e2 hp => ?_
    have x2 := e1.trans e2
    have q1 := el_lcN (K := K) (σ := [some (.ref d), some (.ref w), some (.ref p), none]) (H := H2) (tl := tVar 1) (te := tDGet (tVar 2) (tVar 3)) (j := 3) (vs := [3]) (fun e => V.int ((seat D e : Nat) : Int)) (ev_var rfl) (ex_l x2 hw) (by omega) (fun _ => rfl) (fun i e H3 e3 he =>
      ev_dget (ev_var rfl) (ev_var rfl) (.inl (e3 _ _ hp)) (seatT_get ok (tn.walk.lt e (List.mem_of_getElem? he))))
    have z1 : (U.map fun e => V.int ((seat D e : Nat) : Int)) = ni (U.map (seat D)) := by
      unfold ni
      rw [List.map_map]
      rfl
    rw [z1] at q1
    have l1 := ev_lenSet (K := K) q1 tn.places (by rw [List.length_map]; omega)
    rw [List.length_map] at l1
    refine q_when (b := !decide (((U.length : Nat) : Int) = ((U.length : Nat) : Int))) (et_test (ev_neI l1 (lw x2))) (fun hb2 => by simp at hb2) (fun hb2 H3 e3 => ?_)
    have x3 := x2.trans e3
    have q2 := el_lcN (K := K) (σ := [some (.ref d), some (.ref w), some (.ref p), none]) (H := H3) (tl := tVar 1) (te := tOp rDivP (tVar 3) (tC (.int 2))) (j := 3) (vs := [3]) (fun e => V.int ((e / 2 : Nat) : Int)) (ev_var rfl) (ex_l x3 hw) (by omega) (fun _ => rfl) (fun i e H4 e4 he => by
      have := ev_div (σ := (wipe [some (.ref d), some (.ref w), some (.ref p), none] [3]).set 3 (some (.int ((e : Nat) : Int)))) (H := H4) (ta := tVar 3) (tb := tC (.int 2)) (ev_var rfl) ev_c ⟨by omega, by omega⟩
      rw [show ((e / 2 : Nat) : Int) = ((e : Nat) : Int) / 2 from by omega]
      exact this)
    have z2 : (U.map fun e => V.int ((e / 2 : Nat) : Int)) = ni (U.map (· / 2)) := by
      unfold ni
      rw [List.map_map]
      rfl
    rw [z2] at q2
    have l2 := ev_lenSet (K := K) q2 tn.ties (by rw [List.length_map]; omega)
    rw [List.length_map] at l2
    have fin := ev_eqI l2 (lw (y2 := some (.ref p)) (y3 := none) x3)
    rw [decide_eq_true rfl] at fin
    exact s_ret fin fun H4 e4 => k H4 (x3.trans e4)
end RF

set_option Elab.async false
set_option linter.all false
set_option maxRecDepth 100000
set_option maxHeartbeats 4000000
namespace RF
open PySem PySem.Spec PyProof.Rows L2 Evl
/-! ## parts -/
def rs (D : Dw) (S : List Nat) : Nat := (S.map fun p => (D.getD p []).length).sum
theorem rs_append (D : Dw) (S T : List Nat) : rs D (S ++ T) = rs D S + rs D T := by
  unfold rs
  rw [List.map_append, List.sum_append]
theorem rs_range : ∀ (D : Dw), rs D (List.range D.length) = D.flatten.length := fun D => by
  unfold rs
  rw [List.length_flatten, range_map D (fun r => r.length) (fun p => (D.getD p []).length) (fun i x hx => by rw [List.getD_eq_getElem?_getD, hx]; rfl)]
theorem rs_le {D : Dw} {S : List Nat} (nd : S.Nodup) (lt : ∀ p ∈ S, p < D.length) : rs D S ≤ D.flatten.length := by
  obtain ⟨t, ht⟩ := nodup_sub (l' := List.range D.length) nd fun x hx => List.mem_range.mpr (lt x hx)
  have h : (((S ++ t).map fun p => (D.getD p []).length)).sum = ((List.range D.length).map fun p => (D.getD p []).length).sum := (ht.map _).sum_nat
  have h2 := rs_append D S t
  have h3 := rs_range D
  unfold rs at h2 h3 ⊢
  omega
/-- closed under going along an end -/
def C1 (D : Dw) (m : Nat) (S : List Nat) : Prop := ∀ x, x < 2 * m → seat D x ∈ S → seat D (mate x) ∈ S
structure PS (D : Dw) (m : Nat) (S : List Nat) (n : Nat) (acc Wt : List Nat) : Prop where
  nd : (S ++ acc).Nodup
  lt : ∀ p ∈ S ++ acc, p < D.length
  wl : ∀ q ∈ Wt, q < D.length
  cl : ∀ x, x < 2 * m → seat D x ∈ acc → seat D (mate x) ∈ S ++ acc ∨ seat D (mate x) ∈ Wt
  fu : n = Wt.length + (2 * m - rs D (S ++ acc))
  bd : n ≤ 2 * m + 1
section
variable {D : Dw} {m : Nat} {S : List Nat}
theorem PS.start (nd : S.Nodup) (lt : ∀ p ∈ S, p < D.length) {i : Nat} (hi : i < D.length) : PS D m S (1 + (2 * m - rs D S)) [] [i] :=
  ⟨by simpa using nd, by simpa using lt, (fun q hq => by rw [List.mem_singleton.mp hq]; exact hi), (fun x _ h => by cases h), by simp, by omega⟩
theorem PS.old {n : Nat} {acc Wt : List Nat} {p : Nat} (h : PS D m S n acc (Wt ++ [p])) (hp : p ∈ S ++ acc) : ∃ k, n = k + 1 ∧ PS D m S k acc Wt := by
  have f := h.fu
  rw [List.length_append, List.length_singleton] at f
  refine ⟨Wt.length + (2 * m - rs D (S ++ acc)), by omega, h.nd, h.lt, fun q hq => h.wl q (List.mem_append_left _ hq), fun x hx hs => ?_, rfl, by have := h.bd; omega⟩
  rcases h.cl x hx hs with q | q
  · exact .inl q
  · rcases List.mem_append.mp q with z | z
    · exact .inr z
    · rw [List.mem_singleton.mp z]
      exact .inl hp
theorem PS.new (ok : Ok D m) {n : Nat} {acc Wt : List Nat} {p : Nat} {r : List Nat} (h : PS D m S n acc (Wt ++ [p])) (hp : p ∉ S ++ acc) (hr : D[p]? = some r) : ∃ k, n = k + 1 ∧ PS D m S k (acc ++ [p]) (Wt ++ r.map fun e => seat D (mate e)) := by
  have f := h.fu
  rw [List.length_append, List.length_singleton] at f
  have nd' : (S ++ (acc ++ [p])).Nodup := by
    rw [← List.append_assoc]
    exact List.nodup_append.mpr ⟨h.nd, List.nodup_cons.mpr ⟨by simp, List.nodup_nil⟩, fun a ha b hb e => hp (by rw [List.mem_singleton.mp hb] at e; rw [← e]; exact ha)⟩
  have lt' : ∀ q ∈ S ++ (acc ++ [p]), q < D.length := fun q hq => by
    rw [← List.append_assoc] at hq
    rcases List.mem_append.mp hq with z | z
    · exact h.lt q z
    · rw [List.mem_singleton.mp z]
      exact h.wl p (by simp)
  have le := rs_le nd' lt'
  rw [ok.len] at le
  have er : rs D (S ++ (acc ++ [p])) = rs D (S ++ acc) + r.length := by
    rw [← List.append_assoc, rs_append]
    congr 1
    unfold rs
    rw [List.map_singleton, List.getD_eq_getElem?_getD, hr]
    simp
  rw [er] at le
  refine ⟨Wt.length + (2 * m - rs D (S ++ acc)), by omega, nd', lt', fun q hq => ?_, fun x hx hs => ?_, ?_, by have := h.bd; omega⟩
  · rcases List.mem_append.mp hq with z | z
    · exact h.wl q (List.mem_append_left _ z)
    · obtain ⟨e, he, rfl⟩ := List.mem_map.mp z
      exact ok.seat_lt (mate_lt (ok.row_lt hr he))
  · rcases List.mem_append.mp hs with z | z
    · rcases h.cl x hx z with q | q
      · left
        rw [← List.append_assoc]
        exact List.mem_append_left _ q
      · rcases List.mem_append.mp q with w | w
        · exact .inr (List.mem_append_left _ w)
        · left
          rw [List.mem_singleton.mp w]
          simp
    · right
      refine List.mem_append_right _ (List.mem_map.mpr ⟨x, ?_, rfl⟩)
      obtain ⟨r', h1, h2⟩ := ok.row hx
      rw [List.mem_singleton.mp z, hr] at h1
      rw [Option.some.inj h1]
      exact h2
  · rw [er, List.length_append, List.length_map]
    omega
theorem PS.done {n : Nat} {acc : List Nat} (h : PS D m S n acc []) (c : C1 D m S) : C1 D m acc ∧ C1 D m (S ++ acc) ∧ acc.Nodup := by
  have nda := List.nodup_append.mp h.nd
  have c1 : C1 D m acc := fun x hx hs => by
    rcases h.cl x hx hs with q | q
    · rcases List.mem_append.mp q with z | z
      · exfalso
        have := c (mate x) (mate_lt hx) z
        rw [mate_mate] at this
        exact nda.2.2 _ this _ hs rfl
      · exact z
    · cases q
  exact ⟨c1, fun x hx hs => (List.mem_append.mp hs).elim (fun z => List.mem_append_left _ (c x hx z)) fun z => List.mem_append_right _ (c1 x hx z), nda.2.1⟩
end
section
variable {K : PySem.W.Frag} {σ : L2.St} {H : Hp} {ta te tl : TE} {tu tz : TS} {D : Ends} {v : V} {n : Nat} {g : TG}
/-- x = xs.pop() -/
theorem q_pop {l : Addr} {xs : List V} (hl : H l = some (.lst (xs ++ [v]))) (ha : Ev ta σ H (.ref l)) (k : ∀ H1, Ex H H1 → tz D (σ.set n (some v)) (upd H1 l (.lst xs))) : tSeq (tAsg (tBM0 K "list" rPop ta) (gName n)) tz D σ H :=
  ha H (Ex.refl H) _ fun H1 e1 => ⟨Or.inl ⟨rfl, _, sq_of (e1 _ _ hl)⟩, l, xs ++ [v], v, rfl, rfl, e1 _ _ hl, by simp, by
    rw [List.dropLast_concat]
    exact k H1 e1⟩
/-- xs.extend(ys) -/
theorem s_ext {l : Addr} {xs ys : List V} (hl : H l = some (.lst xs)) (ha : Ev ta σ H (.ref l)) (h : EvL te σ H ys) (hz : xs.length + ys.length ≤ 100000) (k : ∀ H1, Ex H H1 → D.nx σ (upd H1 l (.lst (xs ++ ys)))) :
    tDrop (tBM K "list" rExtend ta (tCons te tNil)) D σ H :=
  ha H (Ex.refl H) _ fun H1 e1 => ⟨Or.inl ⟨rfl, _, sq_of (e1 _ _ hl)⟩, h H1 e1 _ fun p H2 hp e2 h2 => ⟨l, p, xs, ys, rfl, rfl, e2 _ _ (e1 _ _ hl), h2, sz_of hz, k H2 (e1.trans e2)⟩⟩
theorem q_ext {l : Addr} {xs ys : List V} (hl : H l = some (.lst xs)) (ha : Ev ta σ H (.ref l)) (h : EvL te σ H ys) (hz : xs.length + ys.length ≤ 100000) (k : ∀ H1, Ex H H1 → tz D σ (upd H1 l (.lst (xs ++ ys)))) :
    tSeq (tDrop (tBM K "list" rExtend ta (tCons te tNil))) tz D σ H := s_ext (D := { D with nx := tz D }) hl ha h hz k
/-- xs.append(sorted(numbers)) -/
theorem s_appSort {l a : Addr} {xs : List V} {ns : List Nat} (hl : H l = some (.lst xs)) (ha : Ev ta σ H (.ref l)) (h : Ev te σ H (.ref a)) (hn : H a = some (.lst (ni ns))) (hz : xs.length < 100000)
    (k : ∀ (p : Addr) (ns' : List Nat) H1, ns'.Perm ns → H p = none → Ex H H1 → H1 p = some (.lst (ni ns')) → D.nx σ (upd H1 l (.lst (xs ++ [.ref p])))) :
    tDrop (tBM K "list" rAppend ta (tCons (tCB (rSortedI K) (tCons te tNil)) tNil)) D σ H :=
  ha H (Ex.refl H) _ fun H1 e1 => ⟨Or.inl ⟨rfl, _, sq_of (e1 _ _ hl)⟩, h H1 e1 _ fun H2 e2 => ⟨a, ns.map fun n => ((n : Nat) : Int), rfl, by
    have := sq_of (K := K) (e2 _ _ (e1 _ _ hn))
    rw [ni_zi] at this
    exact this, fun ns' p pm _ hp => ⟨l, xs, .ref p, rfl, rfl, Ex.new hp _ _ (e2 _ _ (e1 _ _ hl)), sz_lt hz, by
      have e : ns' = (ns'.map Int.toNat).map fun n => ((n : Nat) : Int) := by
        rw [List.map_map]
        conv => lhs; rw [← List.map_id ns']
        refine List.map_congr_left fun z hz => ?_
        obtain ⟨n, _, rfl⟩ := List.mem_map.mp (pm.mem_iff.mp hz)
        rfl
      refine k p (ns'.map Int.toNat) _ ?_ (fresh_back (e1.trans e2) hp) ((e1.trans e2).trans (Ex.new hp)) ?_
      · have := pm.map Int.toNat
        rw [List.map_map] at this
        rwa [show (Int.toNat ∘ fun n : Nat => ((n : Nat) : Int)) = id from rfl, List.map_id] at this
      · rw [upd_same, ni_zi, ← e]
        rfl⟩⟩⟩
theorem q_forEvR {B : List (List Nat)} (h : EvR tl σ H B) (k : ∀ p H1, H p = none → Ex H H1 → Rows H1 p B → tSeq (tFor (iList K (tC (.ref p))) g tu) tz D σ H1) : tSeq (tFor (iList K tl) g tu) tz D σ H := h H (Ex.refl H) _ fun p H1 hp e hr => k p H1 hp e hr
theorem s_forEvL {xs : List V} (h : EvL tl σ H xs) (k : ∀ p H1, H p = none → Ex H H1 → H1 p = some (.lst xs) → tFor (iList K (tC (.ref p))) g tu D σ H1) : tFor (iList K tl) g tu D σ H := h H (Ex.refl H) _ fun p H1 hp e hr => k p H1 hp e hr
theorem q_forEvL {xs : List V} (h : EvL tl σ H xs) (k : ∀ p H1, H p = none → Ex H H1 → H1 p = some (.lst xs) → tSeq (tFor (iList K (tC (.ref p))) g tu) tz D σ H1) : tSeq (tFor (iList K tl) g tu) tz D σ H := h H (Ex.refl H) _ fun p H1 hp e hr => k p H1 hp e hr
theorem ev_min {a : Addr} {ns : List Int} {c : Int} (ha : Ev ta σ H (.ref a)) (h : SqL K H a (zi ns)) (hc : c ∈ ns) (hm : ∀ y ∈ ns, c ≤ y) : Ev (tCB (rMin K) (tCons ta tNil)) σ H (.int c) := fun H1 e Q q =>
  ha H1 e _ fun H2 e2 => ⟨a, ns, rfl, ex_l (e.trans e2) h, List.length_pos_of_mem hc, fun m h1 h2 => by
    rw [Int.le_antisymm (h2 c hc) (hm m h1)]
    exact q H2 e2⟩
end
theorem snoc_of {l : List Nat} (h : l ≠ []) : ∃ l' x, l = l' ++ [x] := ⟨l.dropLast, l.getLast h, (List.dropLast_concat_getLast h).symm⟩
theorem not_row {H : Hp} {L p : Addr} {as : List Addr} {Ls : List (List Nat)} (h : RowsA H L as Ls) (hp : H p = none) : (∀ c ∈ as, c ≠ p) ∧ p ≠ L := by
  refine ⟨fun c hc z => ?_, fun z => ?_⟩
  · obtain ⟨j, hj⟩ := List.mem_iff_getElem?.mp hc
    have hl : j < Ls.length := by rw [← h.2.1]; exact (List.getElem?_eq_some_iff.mp hj).1
    have q := h.2.2 j c _ hj (List.getElem?_eq_getElem hl)
    rw [z, hp] at q
    cases q
  · rw [z, h.1] at hp
    cases hp
def Part (D : Dw) (m : Nat) (P : List Nat) : Prop := P.Nodup ∧ (∀ p ∈ P, p < D.length) ∧ C1 D m P
def sp__law_parts (K : PySem.W.Frag) : Sp := fun vs H Q _ => ∃ d D m, vs = [.ref d] ∧ Dr H d D m ∧ ∀ Ps : List (List Nat), Ps.length ≤ D.length → (∀ P ∈ Ps, Part D m P) → RetR Ps H Q
theorem pure__law_parts (K : PySem.W.Frag) (vs : List V) (H : Hp) (Q : VK) (E : XK) (h : sp__law_parts K vs H Q E) : t__law_parts K (sp__law_mate K) (sp__law_seats K) { nx := fun _ H' => Q .non H', rt := Q } (start nm__law_parts vs) H := by
  obtain ⟨d, D, m, rfl, dr, k⟩ := h
  have hm := dr.most
  have hD := dr.len
  have ok := dr.ok
  refine q_asgD (ed_seats (ev_var rfl) dr) fun s H1 hs0 e1 hs => ?_
  refine q_asgD ed_new fun n H2 hn0 e2 hn => ?_
  refine q_asgL (el_lst ea_nil (by show 0 ≤ 100000; omega)) fun L H3 hL0 e3 hL => ?_
  have nLn : L ≠ n := fun z => by rw [z, hn] at hL0; cases hL0
  have hL1 : H1 L = none := fresh_back e2 hL0
  have hn1 : H1 n = none := hn0
  refine q_forR (rows_len (ev_var rfl) (dr.rows.mono (e1.trans (e2.trans e3)))) (by omega) (fun i σ' H' => ∃ S Ps as y4 y5 y6 y7 y8, σ' = [some (.ref d), some (.ref s), some (.ref n), some (.ref L), y4, y5, y6, y7, y8] ∧ Ex H1 H' ∧ H' n = some (.dK (bT S)) ∧ RowsA H' L as Ps ∧ (∀ c ∈ as, c ≠ n ∧ c ≠ L) ∧ S.Nodup ∧ (∀ p ∈ S, p < D.length) ∧ C1 D m S ∧ Ps.length ≤ i ∧ ∀ P ∈ Ps, Part D m P)
    (fun H4 e4 => ⟨[], [], [], none, none, none, none, none, rfl, (e2.trans e3).trans e4, (show H4 n = some (.dK (bT [])) from e4 _ _ (e3 _ _ hn)), ⟨e4 _ _ hL, rfl, fun i a r ha _ => by simp at ha⟩, (fun c hc => by cases hc), List.nodup_nil, (fun p hp => by cases hp), (fun x _ h => by cases h), Nat.le_refl _, (fun P hP => by cases hP)⟩)
    (fun i σ' H' hi ⟨S, Ps, as, y4, y5, y6, y7, y8, es, ex, h1, h2, h3, snd, slt, sc, pl, pp⟩ => ?_) (fun σ' H' ⟨S, Ps, as, y4, y5, y6, y7, y8, es, ex, h1, h2, h3, snd, slt, sc, pl, pp⟩ => ?_)
  · subst es
    refine q_asgL (el_lst ea_nil (by show 0 ≤ 100000; omega)) fun p H4 hp0 e4 hp => ?_
    obtain ⟨npa, npL⟩ := not_row h2 hp0
    have npn : p ≠ n := fun z => by rw [z, h1] at hp0; cases hp0
    refine q_asgL (el_lst (ea_cons (ev_var (v := .int ((i : Nat) : Int)) rfl) ea_nil) (by show 1 ≤ 100000; omega)) fun w H5 hw0 e5 hw => ?_
    obtain ⟨nwa, nwL⟩ := not_row (h2.mono e4) hw0
    have nwn : w ≠ n := fun z => by rw [z, e4 _ _ h1] at hw0; cases hw0
    have nwp : w ≠ p := fun z => by rw [z, hp] at hw0; cases hw0
    have hp1 : H1 p = none := fresh_back ex hp0
    have hw1 : H1 w = none := fresh_back (ex.trans e4) hw0
    refine q_while (fun f σ2 H7 => ∃ acc Wt y7, σ2 = [some (.ref d), some (.ref s), some (.ref n), some (.ref L), some (.int (i : Int)), some (.ref p), some (.ref w), y7, y8] ∧ Ex H1 H7 ∧ H7 n = some (.dK (bT (S ++ acc))) ∧ H7 p = some (.lst (ni acc)) ∧ H7 w = some (.lst (ni Wt)) ∧ RowsA H7 L as Ps ∧ PS D m S f acc Wt)
      (1 + (2 * m - rs D S)) ⟨[], [i], y7, rfl, ex.trans (e4.trans e5), by rw [List.append_nil]; exact e5 _ _ (e4 _ _ h1), e5 _ _ hp, hw, h2.mono (e4.trans e5), PS.start snd slt hi⟩ ?_
    rintro f σ2 H7 ⟨acc, Wt, y7, rfl, ex7, g1, g2, g3, g4, ps⟩
    have le := ev_len (K := K) (σ := [some (.ref d), some (.ref s), some (.ref n), some (.ref L), some (.int (i : Int)), some (.ref p), some (.ref w), y7, y8]) (H := H7) (ta := tVar 6) (ev_var rfl) (sq_of g3)
    rw [ni_length] at le
    have accz : acc.length ≤ D.length ∧ (S ++ acc).length ≤ D.length := by
      have := nodup_bound ps.nd ps.lt
      refine ⟨?_, this⟩
      rw [List.length_append] at this
      omega
    refine ⟨decide ((0 : Int) < (Wt.length : Int)), et_test (ev_gt le ev_c), fun hb H8 e8 => ?_, fun hb H8 e8 => ?_⟩
    · have ne : Wt ≠ [] := fun z => by rw [z] at hb; simp at hb
      obtain ⟨W', q, rfl⟩ := snoc_of ne
      have hq : q < D.length := ps.wl q (by simp)
      have fz := ps.fu
      have bz := ps.bd
      rw [List.length_append, List.length_singleton] at fz
      have step : ∃ k, f = k + 1 := ⟨f - 1, by omega⟩
      obtain ⟨k', hk'⟩ := step
      refine ⟨fun σ3 H9 => ∃ acc Wt y7, σ3 = [some (.ref d), some (.ref s), some (.ref n), some (.ref L), some (.int (i : Int)), some (.ref p), some (.ref w), y7, y8] ∧ Ex H1 H9 ∧ H9 n = some (.dK (bT (S ++ acc))) ∧ H9 p = some (.lst (ni acc)) ∧ H9 w = some (.lst (ni Wt)) ∧ RowsA H9 L as Ps ∧ PS D m S k' acc Wt, fun σ3 H9 z => ⟨k', by omega, z⟩, ?_⟩
      refine q_pop (xs := ni W') (v := .int ((q : Nat) : Int)) (by rw [ni_put]; exact e8 _ _ g3) (ev_var rfl) fun H9 e9 => ?_
      have x9 := Ex.mut (o := HO.lst (ni W')) (ex7.trans (e8.trans e9)) hw1
      have n9 : (upd H9 w (.lst (ni W'))) n = some (.dK (bT (S ++ acc))) := by rw [upd_ne nwn.symm]; exact e9 _ _ (e8 _ _ g1)
      have p9 : (upd H9 w (.lst (ni W'))) p = some (.lst (ni acc)) := by rw [upd_ne nwp.symm]; exact e9 _ _ (e8 _ _ g2)
      have r9 : RowsA (upd H9 w (.lst (ni W'))) L as Ps := (g4.mono (e8.trans e9)).upd nwL.symm nwa
      have dn := ev_dnin (σ := [some (.ref d), some (.ref s), some (.ref n), some (.ref L), some (.int (i : Int)), some (.ref p), some (.ref w), some (.int ((q : Nat) : Int)), y8]) (H := upd H9 w (.lst (ni W'))) (ty := tVar 7) (td := tVar 2) (ev_var rfl) (ev_var rfl) (.inl n9)
      rw [bT_in] at dn
      refine s_when (et_B dn) (fun hb2 H10 e10 => ?_) (fun hb2 H10 e10 => ?_)
      · have hqn : q ∉ S ++ acc := by
          intro z
          rw [decide_eq_true z] at hb2
          cases hb2
        obtain ⟨r, hr⟩ : ∃ r, D[q]? = some r := ⟨_, List.getElem?_eq_getElem hq⟩
        obtain ⟨k2, ek, ps2⟩ := ps.new ok hqn hr
        have ekk : k2 = k' := by omega
        subst ekk
        refine q_dput (v := .bl true) ev_c (ev_var rfl) (ev_var rfl) (e10 _ _ n9) (by rw [bT_length]; omega) fun H11 e11 => ?_
        rw [bT_put hqn, List.append_assoc]
        have x11 := Ex.mut (o := HO.dK (bT (S ++ (acc ++ [q])))) (x9.trans (e10.trans e11)) hn1
        have p11 : (upd H11 n (.dK (bT (S ++ (acc ++ [q]))))) p = some (.lst (ni acc)) := by rw [upd_ne npn]; exact e11 _ _ (e10 _ _ p9)
        refine q_app p11 (ev_var rfl) (ev_var (v := .int ((q : Nat) : Int)) rfl) (by rw [ni_length]; omega) fun H12 e12 => ?_
        rw [ni_put]
        have x12 := Ex.mut (o := HO.lst (ni (acc ++ [q]))) (x11.trans e12) hp1
        have w12 : (upd H12 p (.lst (ni (acc ++ [q])))) w = some (.lst (ni W')) := by
          rw [upd_ne nwp]
          refine e12 _ _ ?_
          rw [upd_ne nwn]
          exact e11 _ _ (e10 _ _ upd_same)
        obtain ⟨xs, a, hx1, _, hx2, hx3⟩ := dr.rows.at hr
        have hmap := el_lcN (K := K) (σ := [some (.ref d), some (.ref s), some (.ref n), some (.ref L), some (.int (i : Int)), some (.ref p), some (.ref w), some (.int ((q : Nat) : Int)), y8]) (H := upd H12 p (.lst (ni (acc ++ [q])))) (l := r) (te := tDGet (tVar 1) (tCall (sp__law_mate K) [] E0 (tCons (tVar 8) tNil))) (j := 8) (vs := [8]) (a := a) (tl := tOp (rIxL K) (tVar 0) (tVar 7)) (fun e => V.int ((seat D (mate e) : Nat) : Int))
          (ev_ixL (ev_var rfl) (ev_var rfl) (sq_of (x12 _ _ (e1 _ _ hx1))) hx2) (sq_of (x12 _ _ (e1 _ _ hx3))) (by have := nodup_bound (ok.row_nd hr) (fun x hx => ok.row_lt hr hx); omega) (fun _ => rfl) (fun j e H13 e13 he =>
            ev_dget (ev_var rfl) (ev_lmate (ev_var rfl)) (.inl (e13 _ _ (x12 _ _ hs))) (seatT_get ok (mate_lt (ok.row_lt hr (List.mem_of_getElem? he)))))
        have em : (r.map fun e => V.int ((seat D (mate e) : Nat) : Int)) = ni (r.map fun e => seat D (mate e)) := by
          unfold ni
          rw [List.map_map]
          rfl
        rw [em] at hmap
        have z2 := ps2.fu
        rw [List.length_append, List.length_map] at z2
        refine s_ext w12 (ev_var rfl) hmap (by rw [ni_length, ni_length, List.length_map]; omega) fun H13 e13 => ?_
        refine ⟨acc ++ [q], W' ++ r.map fun e => seat D (mate e), _, rfl, Ex.mut (x12.trans e13) hw1, ?_, ?_, ?_, ?_, ps2⟩
        · rw [upd_ne nwn.symm]
          refine e13 _ _ ?_
          rw [upd_ne npn.symm]
          exact e12 _ _ upd_same
        · rw [upd_ne nwp.symm]
          exact e13 _ _ upd_same
        · rw [upd_same, ni_append]
        · exact ((((r9.mono (e10.trans e11)).upd nLn fun c hc => (h3 c hc).1).mono e12).upd npL.symm npa |>.mono e13).upd nwL.symm nwa
      · have hqn : q ∈ S ++ acc := by
          refine Classical.byContradiction fun z => ?_
          rw [decide_eq_false z] at hb2
          cases hb2
        obtain ⟨k2, ek, ps2⟩ := ps.old hqn
        have ekk : k2 = k' := by omega
        subst ekk
        exact ⟨acc, W', _, rfl, x9.trans e10, e10 _ _ n9, e10 _ _ p9, e10 _ _ upd_same, r9.mono e10, ps2⟩
    · have ew : Wt = [] := List.eq_nil_of_length_eq_zero (by have := of_decide_eq_false hb; omega)
      subst ew
      obtain ⟨c1, c2, ndc⟩ := ps.done sc
      have lea := ev_len (K := K) (σ := [some (.ref d), some (.ref s), some (.ref n), some (.ref L), some (.int (i : Int)), some (.ref p), some (.ref w), y7, y8]) (H := H8) (ta := tVar 5) (ev_var rfl) (sq_of (e8 _ _ g2))
      rw [ni_length] at lea
      have la := g4.2.1
      refine s_when (b := decide ((0 : Int) < (acc.length : Int))) (et_test (ev_gt lea ev_c)) (fun hb3 H9 e9 => ?_) (fun hb3 H9 e9 => ?_)
      · refine s_appSort (e9 _ _ (e8 _ _ g4.1)) (ev_var rfl) (ev_var rfl) (e9 _ _ (e8 _ _ g2)) (by rw [List.length_map, la]; omega) fun a ns' H10 pm ha0 e10 ha => ?_
        have x10 := e8.trans (e9.trans e10)
        obtain ⟨naa, naL⟩ := not_row (g4.mono (e8.trans e9)) ha0
        have nan : a ≠ n := fun z => by rw [z, e9 _ _ (e8 _ _ g1)] at ha0; cases ha0
        have r10 := (g4.mono x10).push ha naL (fun c hc => (h3 c hc).2)
        refine ⟨S ++ acc, Ps ++ [ns'], as ++ [a], _, _, _, _, _, rfl, Ex.mut (ex7.trans x10) hL1, ?_, r10, ?_, ps.nd, ps.lt, c2, ?_, ?_⟩
        · rw [upd_ne nLn.symm]
          exact x10 _ _ g1
        · intro c hc
          rcases List.mem_append.mp hc with z | z
          · exact h3 c z
          · rw [List.mem_singleton.mp z]
            exact ⟨nan, naL⟩
        · rw [List.length_append]
          exact Nat.succ_le_succ pl
        · intro P hP
          rcases List.mem_append.mp hP with z | z
          · exact pp P z
          · rw [List.mem_singleton.mp z]
            exact ⟨pm.nodup_iff.mpr ndc, fun x hx => ps.lt x (List.mem_append_right _ (pm.mem_iff.mp hx)), fun x hx hs2 => pm.mem_iff.mpr (c1 x hx (pm.mem_iff.mp hs2))⟩
      · exact ⟨S ++ acc, Ps, as, _, _, _, _, _, rfl, ex7.trans (e8.trans e9), e9 _ _ (e8 _ _ g1), g4.mono (e8.trans e9), h3, ps.nd, ps.lt, c2, Nat.le_succ_of_le pl, pp⟩
  · subst es
    exact s_ret (ev_var rfl) fun H4 e4 => k Ps pl pp L H4 (fresh_back e1 hL1) (e1.trans (ex.trans e4)) ⟨as, h2.mono e4⟩
end RF

set_option Elab.async false
set_option linter.all false
set_option maxRecDepth 100000
set_option maxHeartbeats 4000000
namespace RF
open PySem PySem.Spec PyProof.Rows L2 Evl
/-! ## filled, paper -/
theorem count_zOf (e : Nat) : ∀ W : List Nat, (zOf W).count ((e : Nat) : Int) = W.count e
  | [] => rfl
  | x :: W => by
    show (((x : Nat) : Int) :: zOf W).count _ = _
    rw [List.count_cons, List.count_cons, count_zOf e W]
    congr 1
    by_cases h : x = e
    · simp [h]
    · have h2 : ¬ ((x : Nat) : Int) = ((e : Nat) : Int) := by omega
      simp [h, h2]
theorem ev_countN {K : PySem.W.Frag} {σ : L2.St} {H : Hp} {td ty : TE} {a : Addr} {W : List Nat} {e : Nat} (hd : Ev td σ H (.ref a)) (hk : Ev ty σ H (.int ((e : Nat) : Int))) (h : SqL K H a (ni W)) : Ev (tBM K "list" (rCntI K) td (tCons ty tNil)) σ H (.int ((W.count e : Nat) : Int)) := by
  rw [← zi_zOf] at h
  have := ev_count hd hk h
  rw [count_zOf] at this
  exact this
theorem q_forCall {K : PySem.W.Frag} {sp : Sp} {E : XK} {ta : TA} {σ : L2.St} {H : Hp} {vs : List V} {g : TG} {tu tz : TS} {D : Ends} (ha : EvA ta σ H vs) (k : ∀ H1, Ex H H1 → sp vs H1 (fun x H2 => tSeq (tFor (iList K (tC x)) g tu) tz D σ H2) E) : tSeq (tFor (iList K (tCall sp [] E ta)) g tu) tz D σ H := by
  show ta σ H (fun vs H1 => sp (vs ++ []) H1 (fun x H2 => tSeq (tFor (iList K (tC x)) g tu) tz D σ H2) E)
  refine ha H (Ex.refl H) _ fun H1 e => ?_
  rw [List.append_nil]
  exact k H1 e
/-- the number of an end's land -/
def numAt (L : List (List Nat)) (ns : List Int) (e : Nat) : Int := ns.getD (seat L e) 0
section
variable {D : Dw} {m : Nat} {W : List Nat} {L : List (List Nat)} {ns : List Int}
theorem numAt_of (hL : Lands D m L) {i e : Nat} {l : List Nat} (hi : L[i]? = some l) (he : e ∈ l) {a : Int} (ha : ns[i]? = some a) : numAt L ns e = a := by
  unfold numAt
  rw [flat_seat hL.nd hi he, List.getD_eq_getElem?_getD, ha]
  rfl
theorem Filled.num (h : Filled D m W L ns) {i : Nat} (hi : i < L.length) : ∃ a, ns[i]? = some a := ⟨_, List.getElem?_eq_getElem (by rw [h.len]; exact hi)⟩
theorem Filled.step (h : Filled D m W L ns) (hL : Lands D m L) {e : Nat} (he : e < 2 * m) : numAt L ns e - numAt L ns (mate e) = (W.count e : Int) - (W.count (mate e) : Int) := by
  obtain ⟨i, l, h1, h2⟩ := hL.of he
  obtain ⟨j, l', h3, h4⟩ := hL.of (mate_lt he)
  obtain ⟨a, b, ha, hb, q⟩ := h.diff i j l l' e h1 h2 h3 h4
  rw [numAt_of hL h1 h2 ha, numAt_of hL h3 h4 hb]
  exact q
theorem Filled.pos (h : Filled D m W L ns) (hL : Lands D m L) {e : Nat} (he : e < 2 * m) : 0 ≤ numAt L ns e := by
  obtain ⟨i, l, h1, h2⟩ := hL.of he
  obtain ⟨a, ha⟩ := h.num (List.getElem?_eq_some_iff.mp h1).1
  rw [numAt_of hL h1 h2 ha]
  exact h.nonneg a (List.mem_of_getElem? ha)
/-- the numbers of a part -/
def partNums (D : Dw) (g : Nat → Int) (P : List Nat) : List Int := (P.map fun p => (D.getD p []).map g).flatten
theorem partNums_snoc (g : Nat → Int) (P : List Nat) {p : Nat} {r : List Nat} (hr : D[p]? = some r) : partNums D g (P ++ [p]) = partNums D g P ++ r.map g := by
  unfold partNums
  rw [List.map_append, List.flatten_append, List.map_singleton, List.getD_eq_getElem?_getD, hr]
  simp
theorem partNums_length (g : Nat → Int) (P : List Nat) : (partNums D g P).length = rs D P := by
  unfold partNums rs
  rw [List.length_flatten, List.map_map]
  congr 1
  exact List.map_congr_left fun p _ => by simp
theorem partNums_mem {g : Nat → Int} {P : List Nat} {y : Int} : y ∈ partNums D g P ↔ ∃ p ∈ P, ∃ e ∈ D.getD p [], y = g e := by
  unfold partNums
  rw [List.mem_flatten]
  constructor
  · rintro ⟨l, hl, hy⟩
    obtain ⟨p, hp, rfl⟩ := List.mem_map.mp hl
    obtain ⟨e, he, rfl⟩ := List.mem_map.mp hy
    exact ⟨p, hp, e, he, rfl⟩
  · rintro ⟨p, hp, e, he, rfl⟩
    exact ⟨_, List.mem_map.mpr ⟨p, hp, rfl⟩, List.mem_map.mpr ⟨e, he, rfl⟩⟩
theorem row_getD {p e : Nat} (h : e ∈ D.getD p []) : ∃ r, D[p]? = some r ∧ e ∈ r := by
  rw [List.getD_eq_getElem?_getD] at h
  cases hr : D[p]? with
  | none => rw [hr] at h; cases h
  | some r => rw [hr] at h; exact ⟨r, rfl, h⟩
theorem part_min (ok : Ok D m) (hL : Lands D m L) (h : Filled D m W L ns) {P : List Nat} (hP : Part D m P) (ne : partNums D (numAt L ns) P ≠ []) : (0 : Int) ∈ partNums D (numAt L ns) P ∧ ∀ y ∈ partNums D (numAt L ns) P, (0 : Int) ≤ y := by
  refine ⟨?_, fun y hy => ?_⟩
  · obtain ⟨y, hy⟩ := List.exists_mem_of_ne_nil _ ne
    obtain ⟨p, hp, e, he, _⟩ := partNums_mem.mp hy
    obtain ⟨r, hr, her⟩ := row_getD he
    have he2 := ok.row_lt hr her
    obtain ⟨e0, i, l, h0, sm, h1, h2, h3⟩ := h.zero e he2
    have q := (sm (fun p => p ∈ P) fun x hx => ⟨hP.2.2 x hx, fun z => by
      have := hP.2.2 (mate x) (mate_lt hx) z
      rwa [mate_mate] at this⟩).mp (by rw [ok.seat_of hr her]; exact hp)
    obtain ⟨r0, hr0, he0⟩ := ok.row h0
    exact partNums_mem.mpr ⟨seat D e0, q, e0, by rw [List.getD_eq_getElem?_getD, hr0]; exact he0, (numAt_of hL h1 h2 h3).symm⟩
  · obtain ⟨p, hp, e, he, rfl⟩ := partNums_mem.mp hy
    obtain ⟨r, hr, her⟩ := row_getD he
    exact h.pos hL (ok.row_lt hr her)
end
def sp__law_filled (K : PySem.W.Frag) : Sp := fun vs H Q _ => ∃ d D m w W p ns, vs = [.ref d, .ref w, .ref p] ∧ Dr H d D m ∧ SqL K H w (ni W) ∧ H p = some (.lst (zi ns)) ∧ Filled D m W (lands D m) ns ∧ RetV (.bl true) H Q
theorem pure__law_filled (K : PySem.W.Frag) (vs : List V) (H : Hp) (Q : VK) (E : XK) (h : sp__law_filled K vs H Q E) : t__law_filled K (sp__law_mate K) (sp__law_lands K) (sp__law_wholes K) (sp__law_parts K) { nx := fun _ H' => Q .non H', rt := Q } (start nm__law_filled vs) H := by
  obtain ⟨d, D, m, w, W, p, ns, rfl, dr, hw, hp, fil, k⟩ := h
  have hm := dr.most
  have hD := dr.len
  have ok := dr.ok
  have hL := ok.lands
  have zL := lands_length (D := D) (m := m)
  have fl : (lands D m).flatten.length ≤ 2 * m := nodup_bound hL.nd fun x hx => (hL.mem x).mp hx
  let g := numAt (lands D m) ns
  refine q_asgR (er_llands (ev_var rfl) dr) fun ls H1 hls0 e1 hls => ?_
  have lp := ev_len (K := K) (σ := [some (.ref d), some (.ref w), some (.ref p), some (.ref ls), none, none, none, none, none, none, none]) (H := H1) (ta := tVar 2) (ev_var rfl) (sq_of (e1 _ _ hp))
  rw [zi_length] at lp
  refine q_when (et_or (a := !true) (b := !decide (((ns.length : Nat) : Int) = (((lands D m).length : Nat) : Int))) (et_not (et_B (ev_f (ea_cons (ev_var rfl) ea_nil) fun H2 e2 Q q E => ⟨p, ns, rfl, e2 _ _ (e1 _ _ hp), q⟩))) fun _ => et_test (ev_neI lp (rows_len (ev_var rfl) hls))) (fun hb => ?_) (fun _ H2 e2 => ?_)
  · rw [fil.len] at hb
    simp at hb
  refine q_asgD ed_new fun c H3 hc0 e3 hc => ?_
  have x3 := e1.trans (e2.trans e3)
  refine q_forR (rows_len (ev_var rfl) (hls.mono (e2.trans e3))) (by omega) (fun i σ' H' => ∃ y5 y6, σ' = [some (.ref d), some (.ref w), some (.ref p), some (.ref ls), some (.ref c), y5, y6, none, none, none, none] ∧ Ex H2 H' ∧ H' c = some (.dK (dT (gT g ((lands D m).take i).flatten))))
    (fun H4 e4 => ⟨none, none, rfl, e3.trans e4, e4 _ _ hc⟩) (fun i σ' H' hi ⟨y5, y6, es, ex, hc⟩ => ?_) (fun σ' H' ⟨y5, y6, es, ex, hc⟩ => ?_)
  · subst es
    obtain ⟨l, hl⟩ : ∃ l, (lands D m)[i]? = some l := ⟨_, List.getElem?_eq_getElem hi⟩
    obtain ⟨xs, a, hx1, _, hx2, hx3⟩ := (hls.mono e2).at hl
    obtain ⟨z, hz⟩ := fil.num hi
    have xa : ∀ {H'}, Ex H2 H' → Ex H H' := fun e => e1.trans (e2.trans e)
    have item : ∀ {y6 : Option V} {H' : Hp}, Ex H2 H' → Ev (tOp (rIxL K) (tVar 3) (tVar 5)) [some (.ref d), some (.ref w), some (.ref p), some (.ref ls), some (.ref c), some (.int (i : Int)), y6, none, none, none, none] H' (.ref a) := fun {y6 H'} e => ev_ixL (ev_var rfl) (ev_var rfl) (sq_of (e _ _ hx1)) hx2
    have num : ∀ {y6 : Option V} {H' : Hp}, Ex H2 H' → Ev (tOp (rIxL K) (tVar 2) (tVar 5)) [some (.ref d), some (.ref w), some (.ref p), some (.ref ls), some (.ref c), some (.int (i : Int)), y6, none, none, none, none] H' (.int z) := fun {y6 H'} e => ev_ixL (ev_var rfl) (ev_var rfl) (sq_of (xa e _ _ hp)) (zi_get hz)
    have ll := ev_len (K := K) (item (y6 := y6) ex) (sq_of (ex _ _ hx3))
    rw [ni_length] at ll
    refine q_when (et_and (a := decide (((l.length : Nat) : Int) = 0)) (b := !decide (z = 0)) (et_test (ev_eqI ll ev_c)) fun _ => et_test (ev_neI (num ex) ev_c)) (fun hb => ?_) (fun _ H4 e4 => ?_)
    · exfalso
      rw [Bool.and_eq_true] at hb
      have el : l = [] := List.eq_nil_of_length_eq_zero (by have := of_decide_eq_true hb.1; omega)
      rw [el] at hl
      have := fil.empty i hl
      rw [hz] at this
      rw [Option.some.inj this] at hb
      simp at hb
    · refine s_forN (K := K) (l := l) (H0 := H2) (item (ex.trans e4)) (sq_of hx3) (fun j σ' H' => ∃ y6, σ' = [some (.ref d), some (.ref w), some (.ref p), some (.ref ls), some (.ref c), some (.int (i : Int)), y6, none, none, none, none] ∧ Ex H2 H' ∧ H' c = some (.dK (dT (gT g (((lands D m).take i).flatten ++ l.take j)))))
        (fun H5 e5 => ⟨y6, rfl, ex.trans (e4.trans e5), by simpa using e5 _ _ (e4 _ _ hc)⟩) (fun j σ' H' ⟨_, _, e, _⟩ => e) (fun j e σ' H' he ⟨y6, es, ex', hc'⟩ => ?_) (fun σ' H' ⟨y6, es, ex', hc'⟩ => ?_)
      · subst es
        have fz := flat_lt hl he
        refine s_dput (v := .int z) (num ex') (ev_var rfl) (ev_var rfl) hc' (by rw [dT_length, gT_length]; omega) fun H6 e6 => ⟨_, rfl, Ex.mut (ex'.trans e6) hc0, ?_⟩
        rw [upd_same, show z = g e from (numAt_of hL hl (List.mem_of_getElem? he) hz).symm, gT_put (flat_new hL.nd hl he), List.append_assoc, List.take_add_one, he]
        rfl
      · refine ⟨_, _, es, ex', ?_⟩
        rw [take_flat_succ hl]
        rw [List.take_length] at hc'
        exact hc'
  · subst es
    rw [List.take_length] at hc
    have gmem : ∀ e, e < 2 * m → valV (dT (gT g (lands D m).flatten)) (.inl ((e : Nat) : Int)) = some (.int (g e)) := fun e he => valV_gT ((hL.mem e).mpr he)
    have xa : ∀ {H'}, Ex H2 H' → Ex H H' := fun e => e1.trans (e2.trans e)
    refine s_forKeys (K := K) (D := { nx := tSeq _ _ _, rt := _, bk := _, ct := _ }) (T := gT g (lands D m).flatten) (d := c) rfl hc (fun od i σ' H' => ∃ y6 y7, σ' = [some (.ref d), some (.ref w), some (.ref p), some (.ref ls), some (.ref c), y5, y6, y7, none, none, none] ∧ Ex H2 H' ∧ H' c = some (.frz od (.dK (dT (gT g (lands D m).flatten)))))
      (fun od => ⟨y6, none, rfl, Ex.mut ex hc0, upd_same⟩) (fun od i σ' H' ⟨_, _, _, _, h⟩ => h) (fun od i q σ' H' hq ⟨y6, y7, es, ex', hf⟩ => ?_) (fun od σ' H' ⟨y6, y7, es, ex', hf⟩ => ?_)
    · subst es
      obtain ⟨e, he, rfl⟩ := List.mem_map.mp (List.mem_of_getElem? hq)
      have he2 : e < 2 * m := (hL.mem e).mp he
      have hd' : Rd H' c (.dK (dT (gT g (lands D m).flatten))) := .inr ⟨od, hf⟩
      have hw' : SqL K H' w (ni W) := ex_l (xa ex') hw
      show tSeq (tAsg _ (gName 7)) _ _ [some (.ref d), some (.ref w), some (.ref p), some (.ref ls), some (.ref c), y5, some (.int ((e : Nat) : Int)), y7, none, none, none] H'
      refine q_asg (ev_sub (ev_countN (ev_var rfl) (ev_var rfl) hw') (ev_countN (ev_var rfl) (ev_lmate (ev_var rfl)) hw')) fun H4 e4 => ?_
      refine s_when (b := !decide (g e - g (mate e) = (W.count e : Int) - (W.count (mate e) : Int))) (et_test (ev_neI (ev_sub (ev_dget (ev_var rfl) (ev_var rfl) (ex_rd e4 hd') (gmem e he2)) (ev_dget (ev_var rfl) (ev_lmate (ev_var rfl)) (ex_rd e4 hd') (gmem _ (mate_lt he2)))) (ev_var rfl))) (fun hb => ?_) (fun _ H5 e5 => ⟨_, _, rfl, ex'.trans (e4.trans e5), e5 _ _ (e4 _ _ hf)⟩)
      exfalso
      rw [decide_eq_true (fil.step hL he2)] at hb
      cases hb
    · subst es
      have hc2 : (upd H' c (.dK (dT (gT g (lands D m).flatten)))) c = some (.dK (dT (gT g (lands D m).flatten))) := upd_same
      have x4 : Ex H2 (upd H' c (.dK (dT (gT g (lands D m).flatten)))) := Ex.mut ex' hc0
      generalize upd H' c (.dK (dT (gT g (lands D m).flatten))) = H4 at hc2 x4
      show tSeq (tFor (iList K (tCall (sp__law_parts K) [] E0 (tCons (tVar 0) tNil))) (gName 8) _) _ _ [some (.ref d), some (.ref w), some (.ref p), some (.ref ls), some (.ref c), y5, y6, y7, none, none, none] H4
      refine q_forCall (ea_cons (ev_var rfl) ea_nil) fun H5 e5 => ⟨d, D, m, rfl, dr.mono (xa (x4.trans e5)), fun Ps pl pp a H6 ha0 e6 ha => ?_⟩
      have x6 := x4.trans (e5.trans e6)
      refine q_forRows (K := K) ev_c ha (fun i σ' H' => ∃ y6 y8 y9 y10, σ' = [some (.ref d), some (.ref w), some (.ref p), some (.ref ls), some (.ref c), y5, y6, y7, y8, y9, y10] ∧ Ex H6 H')
        (fun H7 e7 => ⟨y6, none, none, none, rfl, e7⟩) (fun i σ' H' ⟨_, _, _, _, _, e⟩ => e) (fun i P b σ' H' hP hb ⟨y6, y8, y9, y10, es, ex7⟩ => ?_) (fun σ' H' ⟨y6, y8, y9, y10, es, ex7⟩ => ?_)
      · subst es
        have hpp := pp P (List.mem_of_getElem? hP)
        refine q_asgL (el_lst ea_nil (by show 0 ≤ 100000; omega)) fun f H8 hf0 e8 hf => ?_
        have hf6 : H6 f = none := fresh_back ex7 hf0
        refine q_forN (K := K) (l := P) (ev_var rfl) (sq_of hb) (fun j σ' H' => ∃ y6 y10, σ' = [some (.ref d), some (.ref w), some (.ref p), some (.ref ls), some (.ref c), y5, y6, y7, some (.ref b), some (.ref f), y10] ∧ Ex H6 H' ∧ H' f = some (.lst (zi (partNums D g (P.take j)))))
          (fun H9 e9 => ⟨y6, y10, rfl, ex7.trans (e8.trans e9), e9 _ _ hf⟩) (fun j σ' H' ⟨_, _, _, e, _⟩ => e) (fun j q σ' H' hq ⟨y6, y10, es, ex9, hf9⟩ => ?_) (fun σ' H' ⟨y6, y10, es, ex9, hf9⟩ => ?_)
        · subst es
          obtain ⟨r, hr⟩ : ∃ r, D[q]? = some r := ⟨_, List.getElem?_eq_getElem (hpp.2.1 q (List.mem_of_getElem? hq))⟩
          obtain ⟨xs, a2, hx1, _, hx2, hx3⟩ := dr.rows.at hr
          have xx : Ex H H' := xa (x6.trans ex9)
          have hmap := el_lcN (K := K) (σ := [some (.ref d), some (.ref w), some (.ref p), some (.ref ls), some (.ref c), y5, y6, y7, some (.ref b), some (.ref f), some (.int ((q : Nat) : Int))]) (H := H') (l := r) (te := tDGet (tVar 4) (tVar 6)) (j := 6) (vs := [6]) (a := a2) (tl := tOp (rIxL K) (tVar 0) (tVar 10)) (fun e => V.int (g e))
            (ev_ixL (ev_var rfl) (ev_var rfl) (sq_of (xx _ _ hx1)) hx2) (sq_of (xx _ _ hx3)) (by have := nodup_bound (ok.row_nd hr) (fun x hx => ok.row_lt hr hx); omega) (fun _ => rfl) (fun j e H10 e10 he =>
              ev_dget (ev_var rfl) (ev_var rfl) (.inl (e10 _ _ (ex9 _ _ (e6 _ _ (e5 _ _ hc2))))) (gmem e (ok.row_lt hr (List.mem_of_getElem? he))))
          have em : (r.map fun e => V.int (g e)) = zi (r.map g) := by
            unfold zi
            rw [List.map_map]
            rfl
          rw [em] at hmap
          have tk : P.take (j + 1) = P.take j ++ [q] := by rw [List.take_add_one, hq]; rfl
          have sz : (partNums D g (P.take (j + 1))).length ≤ 2 * m := by
            rw [partNums_length, ← ok.len]
            exact rs_le ((List.take_sublist _ _).nodup hpp.1) fun x hx => hpp.2.1 x (List.mem_of_mem_take hx)
          rw [tk, partNums_snoc g _ hr, List.length_append] at sz
          refine s_ext hf9 (ev_var rfl) hmap (by rw [zi_length, zi_length]; omega) fun H10 e10 => ⟨_, _, rfl, Ex.mut (ex9.trans e10) hf6, ?_⟩
          rw [upd_same, tk, partNums_snoc g _ hr, zi_append]
        · subst es
          rw [List.take_length] at hf9
          have lf := ev_len (K := K) (σ := [some (.ref d), some (.ref w), some (.ref p), some (.ref ls), some (.ref c), y5, y6, y7, some (.ref b), some (.ref f), y10]) (H := H') (ta := tVar 9) (ev_var rfl) (sq_of hf9)
          rw [zi_length] at lf
          refine s_when (et_and (a := decide ((0 : Int) < (((partNums D g P).length : Nat) : Int))) (b := false) (et_test (ev_gt lf ev_c)) fun hne => ?_) (fun hb2 => ?_) (fun _ H10 e10 => ⟨_, _, _, _, rfl, ex9.trans e10⟩)
          · have ne : partNums D g P ≠ [] := fun z => by rw [z] at hne; simp at hne
            obtain ⟨z1, z2⟩ := part_min ok hL fil hpp ne
            exact et_is (et_test (ev_neI (ev_min (ev_var rfl) (sq_of hf9) z1 z2) ev_c)) rfl
          · rw [Bool.and_false] at hb2
            cases hb2
      · subst es
        exact s_ret ev_c fun H8 e8 => k H8 (xa (x6.trans (ex7.trans e8)))
def sp__law_paper (K : PySem.W.Frag) : Sp := fun vs H Q _ => ∃ d D m w W t p, vs = [.ref d, .ref w, .ref t] ∧ Dr H d D m ∧ SqL K H w (ni W) ∧ W.length ≤ 40000 ∧ WalkN D m W ∧ ((∃ ns, Filled1 D m W H t p ns) ∨ ∃ U, Crossed1 D m W H t p U) ∧ RetV (.bl true) H Q
theorem ne_words : (V.str "crossed" = V.str "filled") = False := by
  refine eq_false fun h => ?_
  exact absurd (V.str.inj h) (by decide)
theorem pure__law_paper (K : PySem.W.Frag) (vs : List V) (H : Hp) (Q : VK) (E : XK) (h : sp__law_paper K vs H Q E) : t__law_paper K (sp__law_is_turn K) (sp__law_crossing K) (sp__law_wholes K) (sp__law_filled K) { nx := fun _ H' => Q .non H', rt := Q } (start nm__law_paper vs) H := by
  obtain ⟨d, D, m, w, W, t, p, rfl, dr, hw, hz, wk, ans, k⟩ := h
  have hD := dr.len
  obtain ⟨x, ht⟩ : ∃ x : Str, H t = some (.tup [.str x, .ref p]) := by
    rcases ans with ⟨ns, f⟩ | ⟨U, f⟩
    · exact ⟨_, f.tup⟩
    · exact ⟨_, f.tup⟩
  have lt2 : Ev (tCB (rLenS K) (tCons (tVar 2) tNil)) (start nm__law_paper [.ref d, .ref w, .ref t]) H (.int 2) := fun H1 e Q q => ⟨.ref t, rfl, t, _, rfl, .inr (st_of (e _ _ ht)), q H1 (Ex.refl _)⟩
  refine q_when (et_or (a := !true) (b := !decide ((2 : Int) = 2)) (et_not (et_B (ev_isi (ev_var rfl) (fun H1 e1 => .base (.tup (e1 _ _ ht))) rfl))) fun _ => et_test (ev_neI lt2 ev_c)) (fun hb => by simp at hb) (fun _ H1 e1 => ?_)
  have i1 : ∀ {H' : Hp}, Ex H H' → Ev (tOp (rIxT K) (tVar 2) (tC (.int 1))) (start nm__law_paper [.ref d, .ref w, .ref t]) H' (.ref p) := fun {H'} e => ev_ixU (k := 1) (ev_var rfl) ev_c (st_of (e _ _ ht)) rfl
  rcases ans with ⟨ns, f⟩ | ⟨U, f⟩
  · have i0 : ∀ {H' : Hp}, Ex H H' → Ev (tOp (rIxT K) (tVar 2) (tC (.int 0))) (start nm__law_paper [.ref d, .ref w, .ref t]) H' (.str "filled") := fun {H'} e => ev_ixU (k := 0) (ev_var rfl) ev_c (st_of (e _ _ f.tup)) rfl
    refine q_when (et_test (ev_op (i0 e1) ev_c (rv_eq (x := V.str "filled") (y := V.str "filled") rfl))) (fun _ H2 e2 => ?_) (fun hb => ?_)
    · exact s_ret (ev_f (ea_cons (ev_var rfl) (ea_cons (ev_var rfl) (ea_cons (i1 (e1.trans e2)) ea_nil))) fun H3 e3 Q q E => ⟨d, D, m, w, W, p, ns, rfl, dr.mono (e1.trans (e2.trans e3)), ex_l (e1.trans (e2.trans e3)) hw, e3 _ _ (e2 _ _ (e1 _ _ f.lst)), f.ok, q⟩) fun H3 e3 => k H3 (e1.trans (e2.trans e3))
    · rw [decide_eq_true rfl] at hb
      cases hb
  · have i0 : ∀ {H' : Hp}, Ex H H' → Ev (tOp (rIxT K) (tVar 2) (tC (.int 0))) (start nm__law_paper [.ref d, .ref w, .ref t]) H' (.str "crossed") := fun {H'} e => ev_ixU (k := 0) (ev_var rfl) ev_c (st_of (e _ _ f.tup)) rfl
    have tz := turn_len dr.ok f.turn
    refine q_when (et_test (ev_op (i0 e1) ev_c (rv_eq (x := V.str "crossed") (y := V.str "filled") rfl))) (fun hb => ?_) (fun _ H2 e2 => ?_)
    · have z := of_decide_eq_true hb
      rw [ne_words] at z
      exact z.elim
    · have x2 := e1.trans e2
      have hu : H p = some (.lst (zi (zOf U))) := by rw [zi_zOf]; exact f.lst
      refine q_when (et_or (a := !decide (V.str "crossed" = V.str "crossed")) (b := !true) (et_test (ev_op (i0 x2) ev_c (rv_ne (x := V.str "crossed") (y := V.str "crossed") rfl))) fun _ => et_not (et_B (ev_f (ea_cons (i1 x2) ea_nil) fun H3 e3 Q q E => ⟨p, zOf U, rfl, e3 _ _ (x2 _ _ hu), q⟩))) (fun hb => ?_) (fun _ H3 e3 => ?_)
      · rw [decide_eq_true rfl] at hb
        cases hb
      · have x3 := x2.trans e3
        have fin := ev_andV (a := true) (b := !decide (cross (LF D m W) U = 0)) (ev_f (σ := start nm__law_paper [.ref d, .ref w, .ref t]) (H := H3) (E := E0) (sp := sp__law_is_turn K) (ea_cons (ev_var (i := 0) rfl) (ea_cons (i1 x3) ea_nil)) fun H4 e4 Q q E => ⟨d, D, m, p, U, rfl, dr.mono (x3.trans e4), sq_of (e4 _ _ (x3 _ _ f.lst)), by omega, f.turn, q⟩)
          fun _ => ev_neI (ev_f (E := E0) (sp := sp__law_crossing K) (ea_cons (ev_var (i := 0) rfl) (ea_cons (ev_var (i := 1) rfl) (ea_cons (i1 x3) ea_nil))) fun H4 e4 Q q E => ⟨d, D, m, w, W, p, U, rfl, dr.mono (x3.trans e4), ex_l (x3.trans e4) hw, hz, wk, sq_of (e4 _ _ (x3 _ _ f.lst)), by omega, f.turn.walk.lt, q⟩) (ev_c (v := .int 0))
        rw [decide_eq_false f.nz] at fin
        exact s_ret fin fun H4 e4 => k H4 (x3.trans e4)
end RF

set_option Elab.async false
set_option linter.all false
set_option maxRecDepth 100000
set_option maxHeartbeats 4000000
namespace RF
open PySem PySem.Spec PyProof.Rows L2 Evl
/-! ## calls with arguments that are only bounded -/
def AnyInt (te : TE) (σ : L2.St) (H : Hp) : Prop := ∀ H1, Ex H H1 → ∀ Q : VK, (∀ (z : Int) H2, Ex H1 H2 → Q (.int z) H2) → te σ H1 Q
section
variable {K : PySem.W.Frag} {σ : L2.St} {H : Hp} {ta tb tc te tl : TE} {tr : TA} {tu tz : TS} {D : Ends} {x y v : V} {vs : List V} {n : Nat} {g : TG} {sp sp2 : Sp} {E E2 : XK} {Q : VK}
theorem any_of {c : Int} (h : Ev te σ H (.int c)) : AnyInt te σ H := fun H1 e Q q => h H1 e _ fun H2 e2 => q c H2 e2
theorem any_cell {a : Addr} {ns : List Int} {k : Nat} (h1 : Ev ta σ H (.ref a)) (h2 : Ev tb σ H (.int ((k : Nat) : Int))) (ha : SqL K H a (zi ns)) : AnyInt (tCall (sp__law_cell K) [] E (tCons ta (tCons tb tNil))) σ H := ev_cell h1 h2 ha
theorem q_asgE (h : te σ H fun x H1 => g x σ H1 (tz D)) : tSeq (tAsg te g) tz D σ H := h
theorem draws_any {S : List Nat} (hc : AnyInt te σ H) (hs : EvL tl σ H (ni S)) (hl : S.length ≤ 10000) (pos : ∀ s ∈ S, 0 < s ∧ s < 1000000) (k : ∀ (F : List Nat) p H1, Under F S → H p = none → Ex H H1 → H1 p = some (.lst (ni F)) → Q (.ref p) H1) :
    tCall (sp__law_draws K) [] E (tCons te (tCons tl tNil)) σ H Q := by
  show te σ H fun x H1 => tl σ H1 fun y H2 => tNil σ H2 fun xs H3 => sp__law_draws K (x :: y :: xs ++ []) H3 Q E
  refine hc H (Ex.refl H) _ fun z H1 e1 => ?_
  refine hs H1 e1 _ fun s H2 hs0 e2 h2 => ?_
  exact ⟨z, s, S, rfl, sq_of h2, hl, pos, fun F hF p H3 hp e3 h3 => k F p H3 hF (fresh_back (e1.trans e2) hp) (e1.trans (e2.trans e3)) h3⟩
theorem call_any2 (ha : Ev ta σ H x) (hb : AnyInt tb σ H) (hr : EvA tr σ H vs) (k : ∀ (z : Int) H1, Ex H H1 → sp (x :: .int z :: vs) H1 Q E) : tCall sp [] E (tCons ta (tCons tb tr)) σ H Q := by
  show ta σ H fun x H1 => tb σ H1 fun y H2 => tr σ H2 fun xs H3 => sp (x :: y :: xs ++ []) H3 Q E
  refine ha H (Ex.refl H) _ fun H1 e1 => ?_
  refine hb H1 e1 _ fun z H2 e2 => ?_
  refine hr H2 (e1.trans e2) _ fun H3 e3 => ?_
  rw [List.append_nil]
  exact k z H3 (e1.trans (e2.trans e3))
theorem call_any3 (ha : Ev ta σ H x) (hb : Ev tb σ H y) (hc : AnyInt tc σ H) (k : ∀ (z : Int) H1, Ex H H1 → sp [x, y, .int z] H1 Q E) : tCall sp [] E (tCons ta (tCons tb (tCons tc tNil))) σ H Q := by
  show ta σ H fun x H1 => tb σ H1 fun y H2 => tc σ H2 fun z H3 => tNil σ H3 fun xs H4 => sp (x :: y :: z :: xs ++ []) H4 Q E
  refine ha H (Ex.refl H) _ fun H1 e1 => ?_
  refine hb H1 e1 _ fun H2 e2 => ?_
  refine hc H2 (e1.trans e2) _ fun z H3 e3 => ?_
  exact k z H3 (e1.trans (e2.trans e3))
theorem call_in3 (ha : Ev ta σ H x) (hb : Ev tb σ H y) (hc : EvA tr σ H vs) (k : ∀ H1, Ex H H1 → sp2 vs H1 (fun z H2 => sp [x, y, z] H2 Q E) E2) : tCall sp [] E (tCons ta (tCons tb (tCons (tCall sp2 [] E2 tr) tNil))) σ H Q := by
  show ta σ H fun x H1 => tb σ H1 fun y H2 => tr σ H2 fun xs H3 => sp2 (xs ++ []) H3 (fun z H4 => sp [x, y, z] H4 Q E) E2
  refine ha H (Ex.refl H) _ fun H1 e1 => ?_
  refine hb H1 e1 _ fun H2 e2 => ?_
  refine hc H2 (e1.trans e2) _ fun H3 e3 => ?_
  rw [List.append_nil]
  exact k H3 (e1.trans (e2.trans e3))
theorem call_te3 (ha : Ev ta σ H x) (hb : Ev tb σ H y) (hc : ∀ H1, Ex H H1 → tc σ H1 fun z H2 => sp [x, y, z] H2 Q E) : tCall sp [] E (tCons ta (tCons tb (tCons tc tNil))) σ H Q := by
  show ta σ H fun x H1 => tb σ H1 fun y H2 => tc σ H2 fun z H3 => sp [x, y, z] H3 Q E
  refine ha H (Ex.refl H) _ fun H1 e1 => ?_
  refine hb H1 e1 _ fun H2 e2 => ?_
  exact hc H2 (e1.trans e2)
theorem q_tie (M : L2.St → Hp → Prop) (k : ∀ σ' H', M σ' H' → tz D σ' H') (h : (∀ σ' H', M σ' H' → tz D σ' H') → tSeq tu tz D σ H) : tSeq tu tz D σ H := h k
theorem s_retE (h : te σ H D.rt) : tRet te D σ H := h
/-- x, y, z = xs -/
theorem names3 {p : Addr} {a b c : V} {i j k : Nat} {R : L2.St → Hp → Prop} (h : SqL K H p [a, b, c]) (q : R (((σ.set i (some a)).set j (some b)).set k (some c)) H) : gLst K 3 (gCons (gName i) (gCons (gName j) (gCons (gName k) gNil))) (.ref p) σ H R :=
  ⟨p, _, rfl, h, rfl, a, [b, c], rfl, b, [c], rfl, c, [], rfl, rfl, q⟩
theorem names4 {p : Addr} {a b c d : V} {i j k l : Nat} {R : L2.St → Hp → Prop} (h : SqL K H p [a, b, c, d]) (q : R ((((σ.set i (some a)).set j (some b)).set k (some c)).set l (some d)) H) : gLst K 4 (gCons (gName i) (gCons (gName j) (gCons (gName k) (gCons (gName l) gNil)))) (.ref p) σ H R :=
  ⟨p, _, rfl, h, rfl, a, [b, c, d], rfl, b, [c, d], rfl, c, [d], rfl, d, [], rfl, rfl, q⟩
theorem names5 {p : Addr} {a b c d e : V} {i j k l m : Nat} {R : L2.St → Hp → Prop} (h : SqL K H p [a, b, c, d, e]) (q : R (((((σ.set i (some a)).set j (some b)).set k (some c)).set l (some d)).set m (some e)) H) : gLst K 5 (gCons (gName i) (gCons (gName j) (gCons (gName k) (gCons (gName l) (gCons (gName m) gNil))))) (.ref p) σ H R :=
  ⟨p, _, rfl, h, rfl, a, [b, c, d, e], rfl, b, [c, d, e], rfl, c, [d, e], rfl, d, [e], rfl, e, [], rfl, rfl, q⟩
/-- x = [rows made anew, a list made anew] -/
theorem q_asgPair {B : List (List Nat)} {xs : List V} (h1 : EvR ta σ H B) (h2 : EvL tb σ H xs) (k : ∀ a b p H1, Ex H H1 → Rows H1 a B → H1 b = some (.lst xs) → H1 p = some (.lst [.ref a, .ref b]) → tz D (σ.set n (some (.ref p))) H1) : tSeq (tAsg (tLst (tCons ta (tCons tb tNil))) (gName n)) tz D σ H := by
  show ta σ H fun x H1 => tb σ H1 fun y H2 => tNil σ H2 fun zs H3 => (x :: y :: zs).length ≤ sizeLine ∧ ∀ p, H3 p = none → tz D (σ.set n (some (.ref p))) (upd H3 p (.lst (x :: y :: zs)))
  refine h1 H (Ex.refl H) _ fun a H1 ha e1 hA => ?_
  refine h2 H1 e1 _ fun b H2 hb e2 hB => ?_
  exact ⟨sz_of (by show 2 ≤ 100000; omega), fun p hp => k a b p _ ((e1.trans e2).trans (Ex.new hp)) (hA.mono (e2.trans (Ex.new hp))) (Ex.new hp _ _ hB) upd_same⟩
end
theorem under_get {F S : List Nat} (h : Under F S) {i s : Nat} (hs : S[i]? = some s) : ∃ f, F[i]? = some f ∧ f < s := by
  have hl : i < F.length := by rw [h.1]; exact (List.getElem?_eq_some_iff.mp hs).1
  exact ⟨F[i], List.getElem?_eq_getElem hl, h.2 i s _ hs (List.getElem?_eq_getElem hl)⟩
theorem under3 {F : List Nat} {a b c : Nat} (h : Under F [a, b, c]) : ∃ x y z, F = [x, y, z] ∧ x < a ∧ y < b ∧ z < c := by
  match F, h with
  | [x, y, z], h => exact ⟨x, y, z, rfl, h.2 0 a x rfl rfl, h.2 1 b y rfl rfl, h.2 2 c z rfl rfl⟩
theorem under4 {F : List Nat} {a b c d : Nat} (h : Under F [a, b, c, d]) : ∃ x y z w, F = [x, y, z, w] ∧ x < a ∧ y < b ∧ z < c ∧ w < d := by
  match F, h with
  | [x, y, z, w], h => exact ⟨x, y, z, w, rfl, h.2 0 a x rfl rfl, h.2 1 b y rfl rfl, h.2 2 c z rfl rfl, h.2 3 d w rfl rfl⟩
theorem under5 {F : List Nat} {a b c d e : Nat} (h : Under F [a, b, c, d, e]) : ∃ x y z w u, F = [x, y, z, w, u] ∧ x < a ∧ y < b ∧ z < c ∧ w < d ∧ u < e := by
  match F, h with
  | [x, y, z, w, u], h => exact ⟨x, y, z, w, u, rfl, h.2 0 a x rfl rfl, h.2 1 b y rfl rfl, h.2 2 c z rfl rfl, h.2 3 d w rfl rfl, h.2 4 e u rfl rfl⟩
/-! ## what reads as data -/
def dNums (l : List Int) : PyData := .list (l.map PyData.int)
def dDraw (D : Dw) : PyData := .list (D.map fun r => dNums (zOf r))
def dPair (D : Dw) (W : List Int) : PyData := .list [dDraw D, dNums W]
theorem lay_all {n : Nat} : ∀ xs : List PyData, (∀ d ∈ xs, d.canLay0 = true ∧ d.depth ≤ n) → PyData.canLayAll0 xs = true ∧ PyData.depthAll xs ≤ n
  | [], _ => by simp [PyData.canLayAll0, PyData.depthAll]
  | x :: xs, h => by
    have h1 := h x List.mem_cons_self
    have h2 := lay_all xs fun d hd => h d (List.mem_cons_of_mem _ hd)
    simp only [PyData.canLayAll0, PyData.depthAll, h1.1, h2.1, Bool.and_self, true_and]
    exact Nat.max_le.mpr ⟨h1.2, h2.2⟩
theorem lay_list {n : Nat} {xs : List PyData} (h : ∀ d ∈ xs, d.canLay0 = true ∧ d.depth ≤ n) : (PyData.list xs).canLay0 = true ∧ (PyData.list xs).depth ≤ n + 1 := by
  have := lay_all xs h
  simp only [PyData.canLay0, PyData.depth, this.1, true_and]
  omega
theorem lay_nums (l : List Int) : (dNums l).canLay0 = true ∧ (dNums l).depth ≤ 1 := by
  refine lay_list fun d hd => ?_
  obtain ⟨z, _, rfl⟩ := List.mem_map.mp hd
  simp [PyData.canLay0, PyData.depth]
theorem lay_draw (D : Dw) : (dDraw D).canLay0 = true ∧ (dDraw D).depth ≤ 2 := by
  refine lay_list fun d hd => ?_
  obtain ⟨z, _, rfl⟩ := List.mem_map.mp hd
  exact lay_nums _
theorem lay_pair (D : Dw) (W : List Int) : (dPair D W).canLay0 = true ∧ (dPair D W).depth ≤ 3 := by
  refine lay_list fun d hd => ?_
  rcases List.mem_cons.mp hd with rfl | hd
  · exact lay_draw D
  · rw [List.mem_singleton.mp hd]
    have := lay_nums W
    exact ⟨this.1, by omega⟩
theorem shaped_of {d : PyData} {n : Nat} (h : d.canLay0 = true ∧ d.depth ≤ n) (hn : n ≤ 64) : SeqAt.shaped d = true := by
  unfold SeqAt.shaped
  rw [h.1, decide_eq_true (Nat.le_trans h.2 hn)]
  rfl
section
variable {K : PySem.W.Frag} {H : Hp}
theorem dpAll_nums : ∀ l : List Int, DpAll K H (zi l) (l.map PyData.int)
  | [] => .nil
  | z :: l => .cons (.int z) (dpAll_nums l)
theorem dp_nums {p : Addr} {l : List Int} (h : SqL K H p (zi l)) : Dp K H (.ref p) (dNums l) := .lst h (dpAll_nums l)
theorem dpAll_rows : ∀ (as : List Addr) (D : Dw), as.length = D.length → (∀ (i : Nat) (a : Addr) (r : List Nat), as[i]? = some a → D[i]? = some r → H a = some (.lst (ni r))) → DpAll K H (as.map V.ref) (D.map fun r => dNums (zOf r))
  | [], [], _, _ => .nil
  | [], _ :: _, h, _ => by cases h
  | _ :: _, [], h, _ => by cases h
  | a :: as, r :: D, h, q => .cons (dp_nums (by rw [zi_zOf]; exact sq_of (q 0 a r rfl rfl))) (dpAll_rows as D (by simpa using h) fun i a r h1 h2 => q (i + 1) a r h1 h2)
theorem dp_draw {d : Addr} {D : Dw} (h : Rows H d D) : Dp K H (.ref d) (dDraw D) := by
  obtain ⟨as, h1, h2, h3⟩ := h
  exact .lst (sq_of h1) (dpAll_rows as D h2 h3)
theorem dp_pair {p d w : Addr} {D : Dw} {W : List Int} (h : H p = some (.lst [.ref d, .ref w])) (hd : Rows H d D) (hw : SqL K H w (zi W)) : Dp K H (.ref p) (dPair D W) := .lst (sq_of h) (.cons (dp_draw hd) (.cons (dp_nums hw) .nil))
theorem rv_eqD {x y : V} {d : PyData} {n : Nat} (h1 : ∀ H1, Ex H H1 → Dp K H1 x d) (h2 : ∀ H1, Ex H H1 → Dp K H1 y d) (l : d.canLay0 = true ∧ d.depth ≤ n) (hn : n ≤ 64) : RV (rEqD K) x y H (.bl true) := fun H1 e Q q =>
  ⟨d, d, h1 H1 e, h2 H1 e, shaped_of l hn, shaped_of l hn, by rw [SeqAt.eqv_refl d l.1]; exact q H1 (Ex.refl _)⟩
theorem rv_neD {x y : V} {d : PyData} {n : Nat} (h1 : ∀ H1, Ex H H1 → Dp K H1 x d) (h2 : ∀ H1, Ex H H1 → Dp K H1 y d) (l : d.canLay0 = true ∧ d.depth ≤ n) (hn : n ≤ 64) : RV (rNeD K) x y H (.bl false) := fun H1 e Q q =>
  ⟨d, d, h1 H1 e, h2 H1 e, shaped_of l hn, shaped_of l hn, by rw [SeqAt.eqv_refl d l.1]; exact q H1 (Ex.refl _)⟩
end
/-! ## what the law asks of its makers -/
def sp__law_some (K : PySem.W.Frag) : Sp := fun vs H Q _ => ∃ (a : Addr) (ns : List Int) (c : Nat), vs = [.ref a, .int ((c : Nat) : Int)] ∧ SqL K H a (zi ns) ∧ c < 8 ∧ ∀ D m, Ok D m → D.length ≤ 300 → m ≤ 300 → RetR D H Q
def sp__law_walk (K : PySem.W.Frag) : Sp := fun vs H Q _ => ∃ (d : Addr) (D : Dw) (m : Nat) (c : Int), vs = [.ref d, .int c, .int 12] ∧ Dr H d D m ∧ ∀ W : List Nat, W.length ≤ 12 + D.length → RetL (ni W) H Q
def sp__law_spoilt (K : PySem.W.Frag) : Sp := fun vs H Q _ => ∃ (w : Addr) (W : List Int) (e : Nat) (ds : Addr) (f0 f1 f2 f3 : Nat), vs = [.ref w, .int ((e : Nat) : Int), .ref ds] ∧ SqL K H w (zi W) ∧ W.length ≤ 2000 ∧ SqL K H ds (ni [f0, f1, f2, f3]) ∧ f1 < 60 ∧ f2 < 60 ∧ f3 < 60 ∧ ∀ W' : List Int, W'.length ≤ W.length + 1 → RetL (zi W') H Q
/-! ## refused -/
def sp__law_refused (K : PySem.W.Frag) : Sp := fun vs H Q _ => ∃ d D m w W, vs = [.ref d, .ref w] ∧ Dr H d D m ∧ SqL K H w (zi W) ∧ W.length ≤ 40000 ∧ isWalkB D m W = false ∧ RetV (.bl true) H Q
theorem er_copy {K : PySem.W.Frag} {σ : L2.St} {H : Hp} {tl : TE} {d : Addr} {D : Dw} {j : Nat} (h : Ev tl σ H (.ref d)) (hx : Rows H d D) (hz : D.length ≤ 40000) (hw : ∀ x, wipe ((wipe σ [j]).set j (some x)) [j] = wipe σ [j]) (hv : ∀ x : V, ((wipe σ [j]).set j (some x))[j]? = some (some x)) : EvR (tLc (iList K tl) (gName j) tYes (tCB (rListS K) (tCons (tVar j) tNil)) [j]) σ H D := by
  have q := er_lcRows (K := K) (te := tCB (rListS K) (tCons (tVar j) tNil)) (t := tYes) (vs := [j]) (fun _ => true) (fun r => r) h hx hz hw (fun i r a H1 e1 hi ha H2 _ Q q => q H2 (Ex.refl H2)) (fun i r a H1 e1 hi ha => el_list (ev_var (hv _)) (sq_of ha))
  rw [List.filter_eq_self.mpr (fun _ _ => rfl), List.map_id'] at q
  exact q
/-- f(..) dropped in a try -/
theorem q_tryCallS {sp : Sp} {ta : TA} {σ : L2.St} {H : Hp} {vs : List V} {tz : TS} {D : Ends} {F : Ends → WX} (ha : EvA ta σ H vs) (k : ∀ H1, Ex H H1 → sp vs H1 (fun _ H2 => tz D σ H2) (WE (F { D with nx := tz D }) σ)) :
    tSeq (fun D σ H => (fun W => tDrop (tCallS sp (WE W) ta)) (F D) D σ H) tz D σ H := by
  show ta σ H (fun vs H1 => sp vs H1 (fun _ H2 => tz D σ H2) (WE (F { D with nx := tz D }) σ))
  exact ha H (Ex.refl H) _ fun H1 e => k H1 e
theorem pure__law_refused (K : PySem.W.Frag) (mg : Str → Option Value) (T : Txt K mg) (vs : List V) (H : Hp) (Q : VK) (E : XK) (h : sp__law_refused K vs H Q E) : t__law_refused K (sp_fill_of K) { nx := fun _ H' => Q .non H', rt := Q } (start nm__law_refused vs) H := by
  obtain ⟨d, D, m, w, W, rfl, dr, hw, hz, bad, k⟩ := h
  have hD := dr.len
  refine q_asgPair (er_copy (ev_var rfl) dr.rows (by omega) (fun _ => rfl) (fun _ => rfl)) (el_list (ev_var rfl) hw) fun a b p H1 e1 ha hb hp => ?_
  refine q_asgL (el_lst ea_nil (by show 0 ≤ 100000; omega)) fun q H2 hq0 e2 hq => ?_
  have x2 := e1.trans e2
  have args : EvA (tCons (tOp (rIxL K) (tVar 2) (tC (.int 0))) (tCons (tOp (rIxL K) (tVar 2) (tC (.int 1))) tNil)) [some (.ref d), some (.ref w), some (.ref p), some (.ref q), none, none] H2 [.ref a, .ref b] :=
    ea_cons (ev_ixL (k := 0) (ev_var rfl) ev_c (sq_of (e2 _ _ hp)) rfl) (ea_cons (ev_ixL (k := 1) (ev_var rfl) ev_c (sq_of (e2 _ _ hp)) rfl) ea_nil)
  refine q_tryCallS args fun H3 e3 => ?_
  refine ⟨a, D, m, b, W, rfl, ⟨ha.mono (e2.trans e3), dr.ok, dr.len, dr.most⟩, sq_of (e3 _ _ (e2 _ _ hb)), hz, fun _ H4 e4 => ?_, fun h => by rw [bad] at h; cases h⟩
  refine ⟨true, T.m_NoWalk, fun _ x hx => ⟨⟨rfl, rfl⟩, ?_⟩, fun h => by cases h⟩
  have isE : ∀ {c : V} {cv : Value} {bb : Bool} {H' : Hp}, (∀ u, RelV c u → u = cv) → PySem.W.kitOne K (.ref (He.ga K "NoWalk")) cv = some bb → Ev (tCB (rIsE K (He.ga K "NoWalk") x) (tCons (tVar 4) (tCons (tC c) tNil))) [some (.ref d), some (.ref w), some (.ref p), some (.ref q), some (.ref x), none] H' (.bl bb) := fun {c cv bb H'} h1 h2 =>
    ev_cb (ea_cons (ev_var rfl) (ea_cons ev_c ea_nil)) fun H1 _ Q q => ⟨c, cv, bb, rfl, h1, h2, q H1 (Ex.refl _)⟩
  refine s_asgL (el_lst (ea_cons (isE (fun u h => h) T.i_NoWalk) (ea_cons (isE (fun u h => h) T.i_ValueError) (ea_cons (isE (fun u h => h) T.i_NoRound) ea_nil))) (by show 3 ≤ 100000; omega)) fun y H5 hy0 e5 hy => ?_
  have x5 : Ex H1 H5 := e2.trans (e3.trans (e4.trans e5))
  show tRet (tAndV (tOp (rEqD K) (tVar 3) (tLst (tCons (tC (.bl true)) (tCons (tC (.bl true)) (tCons (tC (.bl false)) tNil))))) (tOp (rEqD K) (tVar 2) (tLst (tCons (tVar 0) (tCons (tVar 1) tNil))))) { nx := fun _ H' => Q .non H', rt := Q } [some (.ref d), some (.ref w), some (.ref p), some (.ref y), none, none] H5
  refine s_ret (ev_andV (a := true) (b := true) (ev_opL (ev_var rfl) (el_lst (ea_cons ev_c (ea_cons ev_c (ea_cons ev_c ea_nil))) (by show 3 ≤ 100000; omega)) fun z H6 hz6 e6 => rv_eqD (d := .list [.bool true, .bool true, .bool false]) (n := 1) (fun H7 e7 => .lst (sq_of (e7 _ _ (e6 _ _ hy))) (.cons (.bl _) (.cons (.bl _) (.cons (.bl _) .nil)))) (fun H7 e7 => .lst (sq_of (e7 _ _ hz6)) (.cons (.bl _) (.cons (.bl _) (.cons (.bl _) .nil)))) (by simp [PyData.canLay0, PyData.depth, PyData.canLayAll0, PyData.depthAll]) (by omega))
    fun _ => ev_opL (ev_var rfl) (el_lst (ea_cons (ev_var rfl) (ea_cons (ev_var rfl) ea_nil)) (by show 2 ≤ 100000; omega)) fun z H6 hz6 e6 => rv_eqD (d := dPair D W) (n := 3) (fun H7 e7 => dp_pair (e7 _ _ (e6 _ _ (x5 _ _ hp))) (ha.mono (x5.trans (e6.trans e7))) (sq_of (e7 _ _ (e6 _ _ (x5 _ _ hb)))))
      (fun H7 e7 => dp_pair (e7 _ _ hz6) (dr.rows.mono (e1.trans (x5.trans (e6.trans e7)))) (ex_l (e1.trans (x5.trans (e6.trans e7))) hw)) (lay_pair D W) (by omega)) fun H6 e6 => k H6 (e1.trans (x5.trans e6))
/-! ## the law -/
def Paper (D : Dw) (m : Nat) (W : List Nat) (H : Hp) (t p : Addr) : Prop := (∃ ns, Filled1 D m W H t p ns) ∨ ∃ U, Crossed1 D m W H t p U
theorem fill_call {K : PySem.W.Frag} {H : Hp} {d w : Addr} {D : Dw} {m : Nat} {W : List Int} {Q : VK} {E : XK} (dr : Dr H d D m) (hw : SqL K H w (zi W)) (hz : W.length ≤ 40000) (hwk : isWalkB D m W = true)
    (k : ∀ t p H2, H p = none → Ex H H2 → Paper D m (nats W) H2 t p → Q (.ref t) H2) : sp_fill_of K [.ref d, .ref w] H Q E :=
  ⟨d, D, m, w, W, rfl, dr, hw, hz, (fun h => by rw [hwk] at h; cases h), fun _ => ⟨fun ns t p H2 hp e f => k t p H2 hp e (.inl ⟨ns, f⟩), fun U t p H2 hp e f => k t p H2 hp e (.inr ⟨U, f⟩)⟩⟩
theorem Paper.at {D : Dw} {m : Nat} {W : List Nat} {H : Hp} {t p : Addr} (ok : Ok D m) (h : Paper D m W H t p) : ∃ (x : Str) (xs : List V), H t = some (.tup [.str x, .ref p]) ∧ H p = some (.lst xs) ∧ xs.length ≤ 2 * m + D.length := by
  rcases h with ⟨ns, f⟩ | ⟨U, f⟩
  · refine ⟨_, _, f.tup, f.lst, ?_⟩
    rw [zi_length, f.ok.len]
    exact lands_length
  · refine ⟨_, _, f.tup, f.lst, ?_⟩
    rw [ni_length]
    have := turn_len ok f.turn
    omega
def sp_law (K : PySem.W.Frag) : Sp := fun vs H Q _ => ∃ (a : Addr) (ns : List Int), vs = [.ref a] ∧ SqL K H a (zi ns) ∧ RetV (.bl true) H Q
theorem pure_law (K : PySem.W.Frag) (vs : List V) (H : Hp) (Q : VK) (E : XK) (h : sp_law K vs H Q E) : t_law K (sp_fill_of K) (sp__law_cell K) (sp__law_draws K) (sp__law_some K) (sp__law_walk K) (sp__law_spoilt K) (sp__law_is_walk K) (sp__law_paper K) (sp__law_refused K) { nx := fun _ H' => Q .non H', rt := Q } (start nm_law vs) H := by
  obtain ⟨a, ns, rfl, ha, k⟩ := h
  refine q_asgE (draws_any (S := [8, 8, 60]) (any_cell (k := 0) (ev_var rfl) ev_c ha) (el_lst (ea_cons ev_c (ea_cons ev_c (ea_cons ev_c ea_nil))) (by show 3 ≤ 100000; omega)) (by show 3 ≤ 10000; omega) (by decide) fun F p0 H1 hu hp0 e1 hF => ?_)
  obtain ⟨c, s, t, rfl, hc, hs, ht⟩ := under3 hu
  refine names3 (sq_of hF) ?_
  show tSeq (tAsg (tCall (sp__law_some K) [] E0 (tCons (tVar 0) (tCons (tVar 1) tNil))) (gName 4)) _ _ [some (.ref a), some (.int ((c : Nat) : Int)), some (.int ((s : Nat) : Int)), some (.int ((t : Nat) : Int)), none, none, none, none, none, none] H1
  refine q_asgCall (ea_cons (ev_var rfl) (ea_cons (ev_var rfl) ea_nil)) fun H2 e2 => ⟨a, ns, c, rfl, ex_l (e1.trans e2) ha, hc, fun D m ok hD hm d H3 hd0 e3 hd => ?_⟩
  have x3 : Ex H H3 := e1.trans (e2.trans e3)
  have dr : Dr H3 d D m := ⟨hd, ok, by omega, by omega⟩
  show tSeq _ _ _ [some (.ref a), some (.int ((c : Nat) : Int)), some (.int ((s : Nat) : Int)), some (.int ((t : Nat) : Int)), some (.ref d), none, none, none, none, none] H3
  refine q_asgE (call_any2 (ev_var (v := .ref d) rfl) (any_cell (k := 5) (ev_var rfl) ev_c (ex_l x3 ha)) (ea_cons (ev_c (v := .int 12)) ea_nil) fun z H4 e4 => ⟨d, D, m, z, rfl, dr.mono e4, fun W0 hW0 w0 H5 hw0 e5 hw => ?_⟩)
  have dr5 := dr.mono (e4.trans e5)
  have x5 : Ex H H5 := x3.trans (e4.trans e5)
  show tSeq _ _ _ [some (.ref a), some (.int ((c : Nat) : Int)), some (.int ((s : Nat) : Int)), some (.int ((t : Nat) : Int)), some (.ref d), some (.ref w0), none, none, none, none] H5
  rw [ni_zi] at hw
  have hz0 : (W0.map fun n => ((n : Nat) : Int)).length ≤ 400 := by rw [List.length_map]; omega
  generalize (W0.map fun n => ((n : Nat) : Int)) = W1 at hw hz0
  clear hW0 W0
  refine q_tie (fun σ' H' => ∃ w W, σ' = [some (.ref a), some (.int ((c : Nat) : Int)), some (.int ((s : Nat) : Int)), some (.int ((t : Nat) : Int)), some (.ref d), some (.ref w), none, none, none, none] ∧ Ex H5 H' ∧ H' w = some (.lst (zi W)) ∧ W.length ≤ 1000) (fun σ' H' ⟨w, W, es, ex, hw, hz⟩ => ?_) (fun rest => ?_)
  · subst es
    refine q_tie (fun σ' H' => ∃ w W y6 y9, σ' = [some (.ref a), some (.int ((c : Nat) : Int)), some (.int ((s : Nat) : Int)), some (.int ((t : Nat) : Int)), some (.ref d), some (.ref w), y6, none, none, y9] ∧ Ex H5 H' ∧ H' w = some (.lst (zi W)) ∧ W.length ≤ 1001) (fun σ' H' ⟨w, W, y6, y9, es, ex, hw, hz⟩ => ?_) (fun rest => ?_)
    · subst es
      have drx := dr5.mono ex
      refine q_when (et_not (et_B (ev_f (ea_cons (ev_var rfl) (ea_cons (ev_var rfl) ea_nil)) fun H6 e6 Q q E => ⟨d, D, m, w, W, rfl, drx.mono e6, sq_of (e6 _ _ hw), by omega, q⟩))) (fun hb H6 e6 => ?_) (fun hb H6 e6 => ?_)
      · have bad : isWalkB D m W = false := by simpa using hb
        exact s_ret (ev_f (ea_cons (ev_var rfl) (ea_cons (ev_var rfl) ea_nil)) fun H7 e7 Q q E => ⟨d, D, m, w, W, rfl, drx.mono (e6.trans e7), sq_of (e7 _ _ (e6 _ _ hw)), by omega, bad, q⟩) fun H7 e7 => k H7 (x5.trans (ex.trans (e6.trans e7)))
      · have good : isWalkB D m W = true := by simpa using hb
        obtain ⟨wk, eW⟩ := isWalk_nat good
        have lenW : (nats W).length ≤ 40000 := by rw [nats_length]; omega
        have wn : ∀ {H'}, SqL K H' w (zi W) → SqL K H' w (ni (nats W)) := fun {H'} h => by
          rw [← zi_zOf, ← eW]
          exact h
        refine q_asgPair (er_copy (ev_var rfl) (drx.rows.mono e6) (by omega) (fun _ => rfl) (fun _ => rfl)) (el_list (ev_var rfl) (sq_of (e6 _ _ hw))) fun a1 b1 p1 H7 e7 ha1 hb1 hp1 => ?_
        have dr7 := drx.mono (e6.trans e7)
        have hw7 : H7 w = some (.lst (zi W)) := e7 _ _ (e6 _ _ hw)
        have da1 : Dr H7 a1 D m := ⟨ha1, ok, dr.len, dr.most⟩
        have args : ∀ {y8 : Option V} {H' : Hp}, Ex H7 H' → EvA (tCons (tOp (rIxL K) (tVar 7) (tC (.int 0))) (tCons (tOp (rIxL K) (tVar 7) (tC (.int 1))) tNil)) [some (.ref a), some (.int ((c : Nat) : Int)), some (.int ((s : Nat) : Int)), some (.int ((t : Nat) : Int)), some (.ref d), some (.ref w), y6, some (.ref p1), y8, y9] H' [.ref a1, .ref b1] := fun {y8 H'} e =>
          ea_cons (ev_ixL (k := 0) (ev_var rfl) ev_c (sq_of (e _ _ hp1)) rfl) (ea_cons (ev_ixL (k := 1) (ev_var rfl) ev_c (sq_of (e _ _ hp1)) rfl) ea_nil)
        show tSeq (tAsg (tCall (sp_fill_of K) [] E0 _) (gName 8)) _ _ [some (.ref a), some (.int ((c : Nat) : Int)), some (.int ((s : Nat) : Int)), some (.int ((t : Nat) : Int)), some (.ref d), some (.ref w), y6, some (.ref p1), none, y9] H7
        refine q_asgCall (args (y8 := none) (Ex.refl _)) fun H8 e8 => fill_call (da1.mono e8) (sq_of (e8 _ _ hb1)) (by omega) good fun t1 l1 H9 hl0 e9 pap => ?_
        have x9 : Ex H7 H9 := e8.trans e9
        obtain ⟨xw, xs, ht1, hl1, lxs⟩ := pap.at ok
        show tSeq _ _ _ [some (.ref a), some (.int ((c : Nat) : Int)), some (.int ((s : Nat) : Int)), some (.int ((t : Nat) : Int)), some (.ref d), some (.ref w), y6, some (.ref p1), some (.ref t1), y9] H9
        refine q_when (et_or (a := false) (b := !true) (et_test (ev_opL (ev_var rfl) (el_lst (ea_cons (ev_var rfl) (ea_cons (ev_var rfl) ea_nil)) (by show 2 ≤ 100000; omega)) fun z H10 hz10 e10 => rv_neD (d := dPair D W) (n := 3) (fun H11 e11 => dp_pair (e11 _ _ (e10 _ _ (x9 _ _ hp1))) (ha1.mono (x9.trans (e10.trans e11))) (sq_of (e11 _ _ (e10 _ _ (x9 _ _ hb1)))))
          (fun H11 e11 => dp_pair (e11 _ _ hz10) (dr7.rows.mono (x9.trans (e10.trans e11))) (sq_of (e11 _ _ (e10 _ _ (x9 _ _ hw7))))) (lay_pair D W) (by omega))) fun _ => et_not (et_B (ev_f (ea_cons (ev_var rfl) (ea_cons (ev_var rfl) (ea_cons (ev_var rfl) ea_nil))) fun H10 e10 Q q E => ⟨d, D, m, w, nats W, t1, l1, rfl, dr7.mono (x9.trans e10), wn (sq_of (e10 _ _ (x9 _ _ hw7))), lenW, wk, ?_, q⟩))) (fun hb => by cases hb) (fun _ H10 e10 => ?_)
        · rcases pap with ⟨ns, f⟩ | ⟨U, f⟩
          · exact .inl ⟨ns, f.ok, e10 _ _ f.lst, e10 _ _ f.tup⟩
          · exact .inr ⟨U, f.turn, f.nz, e10 _ _ f.lst, e10 _ _ f.tup⟩
        · have f1 : ∀ {H' : Hp}, H' t1 = some (.tup [.str xw, .ref l1]) → Ev (tOp (rIxT K) (tVar 8) (tC (.int 1))) [some (.ref a), some (.int ((c : Nat) : Int)), some (.int ((s : Nat) : Int)), some (.int ((t : Nat) : Int)), some (.ref d), some (.ref w), y6, some (.ref p1), some (.ref t1), y9] H' (.ref l1) := fun {H'} h => ev_ixU (k := 1) (ev_var rfl) ev_c (st_of h) rfl
          have ntl : t1 ≠ l1 := fun z => by rw [z, hl1] at ht1; cases ht1
          refine q_app (e10 _ _ hl1) (f1 (e10 _ _ ht1)) (ev_var rfl) (by omega) fun H11 e11 => ?_
          have ht11 : (upd H11 l1 (.lst (xs ++ [V.int ((t : Nat) : Int)]))) t1 = some (.tup [.str xw, .ref l1]) := by rw [upd_ne ntl]; exact e11 _ _ (e10 _ _ ht1)
          refine q_setL (j := 0) upd_same (ev_c (v := .int 7)) (f1 ht11) ev_c (by rw [List.length_append]; exact Nat.succ_pos _) fun H12 e12 => ?_
          have x12 : Ex H8 (upd H12 l1 (.lst ((xs ++ [V.int ((t : Nat) : Int)]).set 0 (V.int 7)))) := Ex.mut ((Ex.mut (e9.trans (e10.trans e11)) hl0).trans e12) hl0
          generalize upd H12 l1 (.lst ((xs ++ [V.int ((t : Nat) : Int)]).set 0 (V.int 7))) = H13 at x12
          have x13 : Ex H7 H13 := e8.trans x12
          refine s_retE (call_in3 (ev_var (v := .ref d) rfl) (ev_var (v := .ref w) rfl) (args x13) fun H14 e14 => fill_call (da1.mono (x13.trans e14)) (sq_of (e14 _ _ (x13 _ _ hb1))) (by omega) good fun t2 l2 H15 hl20 e15 pap2 => ?_)
          have x15 := x13.trans (e14.trans e15)
          exact ⟨d, D, m, w, nats W, t2, l2, rfl, dr7.mono x15, wn (sq_of (x15 _ _ hw7)), lenW, wk, pap2, fun H16 e16 => k H16 (x5.trans (ex.trans (e6.trans (e7.trans (x15.trans e16)))))⟩
    · have drx := dr5.mono ex
      have ax : SqL K H' a (zi ns) := ex_l (x5.trans ex) ha
      refine q_when (b := decide (((s : Nat) : Int) = 1)) (et_test (ev_eqI (ev_var rfl) ev_c)) (fun _ H6 e6 => ?_) (fun _ H6 e6 => rest _ _ ⟨w, W, none, none, rfl, ex.trans e6, e6 _ _ hw, by omega⟩)
      have e : D.map (fun r => V.int (r.length : Int)) = zi (D.map fun r => (r.length : Int)) := by
        unfold zi
        rw [List.map_map]
        rfl
      have q := el_lcRows (K := K) (σ := [some (.ref a), some (.int ((c : Nat) : Int)), some (.int ((s : Nat) : Int)), some (.int ((t : Nat) : Int)), some (.ref d), some (.ref w), none, none, none, none]) (H := H6) (tl := tVar 4) (te := tCB (rLenS K) (tCons (tVar 9) tNil)) (j := 9) (vs := [9]) (fun r => V.int (r.length : Int)) (ev_var rfl) (drx.rows.mono e6) (by omega) (fun _ => rfl) (fun i r a1 H1 e1 hi ha => by
        have := ev_len (K := K) (σ := (wipe [some (.ref a), some (.int ((c : Nat) : Int)), some (.int ((s : Nat) : Int)), some (.int ((t : Nat) : Int)), some (.ref d), some (.ref w), none, none, none, none] [9]).set 9 (some (.ref a1))) (H := H1) (ta := tVar 9) (p := a1) (ev_var rfl) (sq_of ha)
        rw [ni_length] at this
        exact this)
      rw [e] at q
      have q2 := ev_sumN (K := K) q
      rw [sum_flat] at q2
      refine q_asg q2 fun H7 e7 => ?_
      have x7 := ex.trans (e6.trans e7)
      show tAsg (tCall (sp__law_spoilt K) [] E0 _) (gName 5) _ [some (.ref a), some (.int ((c : Nat) : Int)), some (.int ((s : Nat) : Int)), some (.int ((t : Nat) : Int)), some (.ref d), some (.ref w), some (.int ((D.flatten.length : Nat) : Int)), none, none, none] H7
      refine call_te3 (ev_var (v := .ref w) rfl) (ev_var rfl) fun H8 e8 => ?_
      refine draws_any (S := [5, 60, 60, 60]) (any_cell (k := 6) (ev_var rfl) ev_c (ex_l (e6.trans (e7.trans e8)) ax)) (el_lst (ea_cons ev_c (ea_cons ev_c (ea_cons ev_c (ea_cons ev_c ea_nil)))) (by show 4 ≤ 100000; omega)) (by show 4 ≤ 10000; omega) (by decide) fun F p4 H9 hu4 hp4 e9 hF4 => ?_
      obtain ⟨f0, f1, f2, f3, rfl, hf0, hf1, hf2, hf3⟩ := under4 hu4
      have x9 := e6.trans (e7.trans (e8.trans e9))
      exact ⟨w, W, D.flatten.length, p4, f0, f1, f2, f3, rfl, sq_of (x9 _ _ hw), by omega, sq_of hF4, hf1, hf2, hf3, fun W' hW' w' H10 hw' e10 h10 => rest _ _ ⟨w', W', _, _, rfl, ex.trans (x9.trans e10), h10, by omega⟩⟩
  · have lw := ev_len (K := K) (σ := [some (.ref a), some (.int ((c : Nat) : Int)), some (.int ((s : Nat) : Int)), some (.int ((t : Nat) : Int)), some (.ref d), some (.ref w0), none, none, none, none]) (ta := tVar 5) (ev_var rfl) (sq_of (K := K) hw)
    rw [zi_length] at lw
    refine q_when (et_and (a := decide (((t : Nat) : Int) % 8 = 3)) (b := decide (((c : Nat) : Int) < 6)) (et_test (ev_eqI (ev_mod (ev_var rfl) ev_c (by omega)) ev_c)) fun _ => et_test (ev_lt (ev_var rfl) ev_c)) (fun _ H6 e6 => ?_) (fun _ H6 e6 => rest _ _ ⟨w0, W1, rfl, e6, e6 _ _ hw, by omega⟩)
    obtain ⟨M, hM, hM1, hM2⟩ : ∃ M : Nat, (if ((W1.length : Nat) : Int) > 1 then ((W1.length : Nat) : Int) else 1) = ((M : Nat) : Int) ∧ 1 ≤ M ∧ W1.length ≤ M ∧ M ≤ 400 := by
      by_cases z : ((W1.length : Nat) : Int) > 1
      · exact ⟨W1.length, by rw [if_pos z], by omega, by omega, by omega⟩
      · exact ⟨1, by rw [if_neg z]; rfl, by omega, by omega, by omega⟩
    have dv := ev_div (σ := [some (.ref a), some (.int ((c : Nat) : Int)), some (.int ((s : Nat) : Int)), some (.int ((t : Nat) : Int)), some (.ref d), some (.ref w0), none, none, none, none]) (H := H6) (ta := tC (.int 990)) ev_c (ev_max2 (ev_c (v := .int 1)) (lw.mono e6)) (by rw [hM]; exact ⟨by omega, by omega⟩)
    rw [hM, show (990 : Int) / ((M : Nat) : Int) = ((990 / M : Nat) : Int) from by rw [Int.natCast_ediv]; rfl] at dv
    have small : W1.length * (990 / M) ≤ 990 := Nat.le_trans (Nat.mul_le_mul_right _ hM2.1) (Nat.mul_div_le _ _)
    have rp := el_Vrep (xs := zi W1) (ev_var (σ := [some (.ref a), some (.int ((c : Nat) : Int)), some (.int ((s : Nat) : Int)), some (.int ((t : Nat) : Int)), some (.ref d), some (.ref w0), none, none, none, none]) (H := H6) (i := 5) rfl) (e6 _ _ hw) dv (by rw [zi_length]; omega) (Nat.le_trans (Nat.div_le_self _ _) (by omega))
    have er : (List.replicate (990 / M) (zi W1)).flatten = zi (List.replicate (990 / M) W1).flatten := by
      unfold zi
      rw [List.map_flatten, List.map_replicate]
    rw [er] at rp
    refine s_asgL rp fun w' H7 hw' e7 h7 => rest _ _ ⟨w', _, rfl, e6.trans e7, h7, ?_⟩
    rw [List.length_flatten, List.map_replicate, List.sum_replicate_nat, Nat.mul_comm]
    omega
end RF

set_option Elab.async false
set_option linter.all false
set_option maxRecDepth 100000
set_option maxHeartbeats 4000000
namespace RF
open PySem PySem.Spec PyProof.Rows L2 Evl
/-! ## words for pops, inserts, slices -/
section
variable {K : PySem.W.Frag} {σ : L2.St} {H : Hp} {ta tb tc te tl : TE} {tr : TA} {tu tz : TS} {D : Ends} {x y v : V} {vs : List V} {n : Nat} {g : TG} {sp sp2 : Sp} {E E2 : XK} {Q : VK} {tt : TT}
/-- x = xs.pop(k) -/
theorem q_popAt {l : Addr} {xs : List V} {k : Nat} (hl : H l = some (.lst xs)) (ha : Ev ta σ H (.ref l)) (hi : Ev te σ H (.int ((k : Nat) : Int))) (hx : xs[k]? = some v) (hz : xs.length ≤ 100000) (kk : ∀ H1, Ex H H1 → tz D (σ.set n (some v)) (upd H1 l (.lst (xs.eraseIdx k)))) :
    tSeq (tAsg (tBM K "list" rPopAt ta (tCons te tNil)) (gName n)) tz D σ H :=
  ha H (Ex.refl H) _ fun H1 e1 => ⟨Or.inl ⟨rfl, _, sq_of (e1 _ _ hl)⟩, hi H1 e1 _ fun H2 e2 => ⟨l, xs, (k : Int), k, v, rfl, rfl, e2 _ _ (e1 _ _ hl), by omega, by have := (List.getElem?_eq_some_iff.mp hx).1; omega, by
    have h := (List.getElem?_eq_some_iff.mp hx).1
    rw [seqIndex_of (by omega) (by omega), Int.toNat_natCast], hx, kk H2 (e1.trans e2)⟩⟩
/-- xs.append(ys.pop(k)) -/
theorem s_appPop {l q : Addr} {xs ys : List V} {k : Nat} (hl : H l = some (.lst xs)) (hq : H q = some (.lst ys)) (ne : l ≠ q) (ha : Ev ta σ H (.ref l)) (hb : Ev tb σ H (.ref q)) (hi : Ev te σ H (.int ((k : Nat) : Int))) (hx : ys[k]? = some v) (hz : ys.length ≤ 100000) (hz2 : xs.length < 100000)
    (kk : ∀ H1, Ex H H1 → D.nx σ (upd (upd H1 q (.lst (ys.eraseIdx k))) l (.lst (xs ++ [v])))) : tDrop (tBM K "list" rAppend ta (tCons (tBM K "list" rPopAt tb (tCons te tNil)) tNil)) D σ H :=
  ha H (Ex.refl H) _ fun H1 e1 => ⟨Or.inl ⟨rfl, _, sq_of (e1 _ _ hl)⟩, hb H1 e1 _ fun H2 e2 => ⟨Or.inl ⟨rfl, _, sq_of ((e1.trans e2) _ _ hq)⟩, hi H2 (e1.trans e2) _ fun H3 e3 => ⟨q, ys, (k : Int), k, v, rfl, rfl, ((e1.trans e2).trans e3) _ _ hq, by omega, by have := (List.getElem?_eq_some_iff.mp hx).1; omega, by
    have h := (List.getElem?_eq_some_iff.mp hx).1
    rw [seqIndex_of (by omega) (by omega), Int.toNat_natCast], hx, l, xs, v, rfl, rfl, by
      rw [upd_ne ne]
      exact ((e1.trans e2).trans e3) _ _ hl, sz_lt hz2, kk H3 ((e1.trans e2).trans e3)⟩⟩⟩
/-- xs.insert(k, v) -/
theorem s_ins {l : Addr} {xs : List V} {k : Nat} (hl : H l = some (.lst xs)) (ha : Ev ta σ H (.ref l)) (hi : Ev tb σ H (.int ((k : Nat) : Int))) (hv : Ev te σ H v) (hk : k ≤ 100000) (hz : xs.length < 100000)
    (kk : ∀ H1, Ex H H1 → D.nx σ (upd H1 l (.lst (xs.take k ++ [v] ++ xs.drop k)))) : tDrop (tBM K "list" rInsertL ta (tCons tb (tCons te tNil))) D σ H :=
  ha H (Ex.refl H) _ fun H1 e1 => ⟨Or.inl ⟨rfl, _, sq_of (e1 _ _ hl)⟩, hi H1 e1 _ fun H2 e2 => hv H2 (e1.trans e2) _ fun H3 e3 => ⟨l, xs, (k : Int), v, rfl, rfl, ((e1.trans e2).trans e3) _ _ hl, sz_lt hz, by omega, by omega, by
    rw [Int.toNat_natCast]
    exact kk H3 ((e1.trans e2).trans e3)⟩⟩
theorem s_insL {l : Addr} {xs ys : List V} {k : Nat} (hl : H l = some (.lst xs)) (ha : Ev ta σ H (.ref l)) (hi : Ev tb σ H (.int ((k : Nat) : Int))) (hv : EvL te σ H ys) (hk : k ≤ 100000) (hz : xs.length < 100000)
    (kk : ∀ p H1, H p = none → Ex H H1 → H1 p = some (.lst ys) → D.nx σ (upd H1 l (.lst (xs.take k ++ [.ref p] ++ xs.drop k)))) : tDrop (tBM K "list" rInsertL ta (tCons tb (tCons te tNil))) D σ H :=
  ha H (Ex.refl H) _ fun H1 e1 => ⟨Or.inl ⟨rfl, _, sq_of (e1 _ _ hl)⟩, hi H1 e1 _ fun H2 e2 => hv H2 (e1.trans e2) _ fun p H3 hp e3 h3 => ⟨l, xs, (k : Int), .ref p, rfl, rfl, ((e1.trans e2).trans e3) _ _ hl, sz_lt hz, by omega, by omega, by
    rw [Int.toNat_natCast]
    exact kk p H3 (fresh_back (e1.trans e2) hp) ((e1.trans e2).trans e3) h3⟩⟩
theorem q_ins {l : Addr} {xs : List V} {k : Nat} (hl : H l = some (.lst xs)) (ha : Ev ta σ H (.ref l)) (hi : Ev tb σ H (.int ((k : Nat) : Int))) (hv : Ev te σ H v) (hk : k ≤ 100000) (hz : xs.length < 100000)
    (kk : ∀ H1, Ex H H1 → tz D σ (upd H1 l (.lst (xs.take k ++ [v] ++ xs.drop k)))) : tSeq (tDrop (tBM K "list" rInsertL ta (tCons tb (tCons te tNil)))) tz D σ H := s_ins (D := { D with nx := tz D }) hl ha hi hv hk hz kk
/-- xs.index(e) -/
theorem ev_idx {a : Addr} {l : List Nat} {e : Nat} (ha : Ev ta σ H (.ref a)) (hb : Ev tb σ H (.int ((e : Nat) : Int))) (h : SqL K H a (ni l)) (he : e ∈ l) : Ev (tBM K "list" (rIndex K) ta (tCons tb tNil)) σ H (.int ((l.idxOf e : Nat) : Int)) := fun H1 e1 Q q =>
  ha H1 e1 _ fun H2 e2 => ⟨Or.inl ⟨rfl, _, ex_l (e1.trans e2) h⟩, hb H2 (e1.trans e2) _ fun H3 e3 => ⟨a, ni l, .int ((e : Nat) : Int), l.idxOf e, .int ((e : Nat) : Int), rfl, rfl, ex_l ((e1.trans e2).trans e3) h, rfl, by
    refine List.all_eq_true.mpr fun z hz => ?_
    obtain ⟨n, _, rfl⟩ := List.mem_map.mp hz
    rfl, ni_get (by
      have hl := List.idxOf_lt_length_of_mem he
      rw [List.getElem?_eq_getElem hl, List.getElem_idxOf hl]), by
    show (((e : Nat) : Int) == ((e : Nat) : Int)) = true
    exact beq_self_eq_true _, fun m z hm hz => by
      obtain ⟨n, hn, rfl⟩ := ni_get' hz
      show (((n : Nat) : Int) == ((e : Nat) : Int)) = false
      refine beq_eq_false_iff_ne.mpr fun w => ?_
      have w2 : n = e := by omega
      rw [w2] at hn
      have hl := (List.getElem?_eq_some_iff.mp hn)
      have := List.not_of_lt_findIdx (p := fun x => x == e) (xs := l) (show m < l.findIdx _ from hm)
      rw [hl.2] at this
      simp at this, q H3 (e2.trans e3)⟩⟩
/-- an operation on a list just made -/
theorem ev_opL0 {xs : List V} {r : R2} {z : V} (ha : EvL ta σ H xs) (hb : Ev tb σ H y) (hr : ∀ p H1, H1 p = some (.lst xs) → Ex H H1 → RV r (.ref p) y H1 z) : Ev (tOp r ta tb) σ H z := ev_opL1 ha (fun H1 e => hb.mono e) hr
theorem el_slL {t1 t2 : TO} {xs : List V} {lo hi : Option Int} (h : EvL te σ H xs) (h1 : EvO t1 σ H lo) (h2 : EvO t2 σ H hi) : EvL (tSl (rSlL K) te t1 t2) σ H (cutV xs lo hi) := fun H1 e Q q =>
  h H1 e _ fun p H2 hp e2 hx => h1 H2 (e.trans e2) _ fun H3 e3 => h2 H3 ((e.trans e2).trans e3) _ fun H4 e4 => ⟨p, xs, rfl, sq_of (e4 _ _ (e3 _ _ hx)), fun r hr => q r _ (fresh_back (e2.trans (e3.trans e4)) hr) ((e2.trans (e3.trans e4)).trans (Ex.new hr)) upd_same⟩
/-- a comprehension over a list just made -/
theorem el_lcOf {xs ys : List V} {ws : List Nat} (h : EvL tl σ H xs) (k : ∀ p H1, H1 p = some (.lst xs) → Ex H H1 → EvL (tLc (iList K (tC (.ref p))) g tt te ws) σ H1 ys) : EvL (tLc (iList K tl) g tt te ws) σ H ys := fun H1 e Q q =>
  h H1 e _ fun p H2 hp e2 h2 => k p H2 h2 (e.trans e2) H2 (Ex.refl _) Q fun r H3 hr e3 h3 => q r H3 (fresh_back e2 hr) (e2.trans e3) h3
end
theorem cutV_from {xs : List V} {k : Nat} (h : k ≤ xs.length) : cutV xs (some ((k : Nat) : Int)) none = xs.drop k := by
  unfold cutV
  rw [HT.sIx_nat, HT.sIx_none, Nat.min_eq_left h, List.take_of_length_le (by rw [List.length_drop]; exact Nat.le_refl _)]
theorem cutV_to {xs : List V} {k : Nat} (h : k ≤ xs.length) : cutV xs none (some ((k : Nat) : Int)) = xs.take k := by
  unfold cutV
  rw [HT.sIx_nat, HT.sIx_none, Nat.min_eq_left h, List.drop_zero, Nat.sub_zero]
theorem cutV_ni (l : List Nat) (lo hi : Option Int) : ∃ F : List Nat, cutV (ni l) lo hi = ni F ∧ F.length ≤ l.length := by
  unfold cutV
  refine ⟨(l.drop (HT.sIx (ni l).length 0 lo)).take (HT.sIx (ni l).length (ni l).length hi - HT.sIx (ni l).length 0 lo), ?_, ?_⟩
  · unfold ni
    rw [List.map_take, List.map_drop]
  · rw [List.length_take, List.length_drop]
    omega
theorem cutV_zi (l : List Int) (lo hi : Option Int) : ∃ F : List Int, cutV (zi l) lo hi = zi F ∧ F.length ≤ l.length := by
  unfold cutV
  refine ⟨(l.drop (HT.sIx (zi l).length 0 lo)).take (HT.sIx (zi l).length (zi l).length hi - HT.sIx (zi l).length 0 lo), ?_, ?_⟩
  · unfold zi
    rw [List.map_take, List.map_drop]
  · rw [List.length_take, List.length_drop]
    omega
/-! ## rows that are one's own -/
structure Own (H0 H : Hp) (d : Addr) (as : List Addr) (D : List (List Nat)) : Prop where
  rows : RowsA H d as D
  nd : as.Nodup
  out : d ∉ as
  new : ∀ c ∈ as, H0 c = none
  dnew : H0 d = none
theorem Own.mono {H0 H H' : Hp} {d : Addr} {as : List Addr} {D : List (List Nat)} (h : Own H0 H d as D) (e : Ex H H') : Own H0 H' d as D := ⟨h.rows.mono e, h.nd, h.out, h.new, h.dnew⟩
theorem Own.upd {H0 H : Hp} {d p : Addr} {as : List Addr} {D : List (List Nat)} {o : HO} (h : Own H0 H d as D) (h1 : d ≠ p) (h2 : ∀ c ∈ as, c ≠ p) : Own H0 (L2.upd H p o) d as D := ⟨h.rows.upd h1 h2, h.nd, h.out, h.new, h.dnew⟩
theorem Own.push {H0 H : Hp} {d p : Addr} {as : List Addr} {D : List (List Nat)} {r : List Nat} (h : Own H0 H d as D) (hp : H p = some (.lst (ni r))) (h0 : H0 p = none) (h1 : p ≠ d) (h2 : p ∉ as) : Own H0 (L2.upd H d (.lst (as.map V.ref ++ [.ref p]))) d (as ++ [p]) (D ++ [r]) :=
  ⟨h.rows.push hp h1 fun c hc z => h.out (by rw [← z]; exact hc), List.nodup_append.mpr ⟨h.nd, List.nodup_cons.mpr ⟨by simp, List.nodup_nil⟩, fun a ha b hb e => h2 (by rw [List.mem_singleton.mp hb] at e; rw [← e]; exact ha)⟩,
    (fun hm => (List.mem_append.mp hm).elim h.out fun z => h1 (List.mem_singleton.mp z).symm), (fun c hc => (List.mem_append.mp hc).elim (h.new c) fun z => by rw [List.mem_singleton.mp z]; exact h0), h.dnew⟩
theorem Own.put {H0 H : Hp} {d a : Addr} {as : List Addr} {D : List (List Nat)} {r' : List Nat} (h : Own H0 H d as D) {i : Nat} (ha : as[i]? = some a) : Own H0 (L2.upd H a (.lst (ni r'))) d as (D.set i r') := by
  have ham := List.mem_of_getElem? ha
  refine ⟨⟨?_, ?_, fun j b r hb hr => ?_⟩, h.nd, h.out, h.new, h.dnew⟩
  · rw [upd_ne (fun z => h.out (by rw [z]; exact ham))]
    exact h.rows.1
  · rw [List.length_set]
    exact h.rows.2.1
  · by_cases z : j = i
    · rw [z, ha] at hb
      rw [z, List.getElem?_set_self (by rw [← h.rows.2.1]; exact (List.getElem?_eq_some_iff.mp ha).1)] at hr
      rw [← Option.some.inj hb, upd_same, Option.some.inj hr]
    · rw [List.getElem?_set_ne (fun w => z w.symm)] at hr
      have ne : b ≠ a := fun w => z (nodup_addr h.nd hb (by rw [w]; exact ha))
      rw [upd_ne ne]
      exact h.rows.2.2 j b r hb hr
where nodup_addr {l : List Addr} (nd : l.Nodup) {i j : Nat} {x : Addr} (a : l[i]? = some x) (b : l[j]? = some x) : i = j := nodup_get nd a b
theorem Own.at {H0 H : Hp} {d : Addr} {as : List Addr} {D : List (List Nat)} (h : Own H0 H d as D) {i : Nat} {r : List Nat} (hr : D[i]? = some r) : ∃ a, as[i]? = some a ∧ (as.map V.ref)[i]? = some (.ref a) ∧ H a = some (.lst (ni r)) ∧ H0 a = none := by
  have hl : i < as.length := by rw [h.rows.2.1]; exact (List.getElem?_eq_some_iff.mp hr).1
  have ha := List.getElem?_eq_getElem hl
  refine ⟨as[i], ha, ?_, h.rows.2.2 i _ r ha hr, h.new _ (List.getElem_mem hl)⟩
  rw [List.getElem?_map, ha]
  rfl
theorem Own.notin {H0 H : Hp} {d p : Addr} {as : List Addr} {D : List (List Nat)} (h : Own H0 H d as D) (hp : H p = none) : p ∉ as ∧ p ≠ d := by
  obtain ⟨h1, h2⟩ := not_row h.rows hp
  exact ⟨fun hm => h1 p hm rfl, h2⟩
theorem Own.ins {H0 H : Hp} {d p : Addr} {as : List Addr} {D : List (List Nat)} {r : List Nat} {k : Nat} (h : Own H0 H d as D) (hk : k ≤ as.length) (hp : H p = some (.lst (ni r))) (h0 : H0 p = none) (h1 : p ≠ d) (h2 : p ∉ as) : Own H0 (L2.upd H d (.lst ((as.map V.ref).take k ++ [.ref p] ++ (as.map V.ref).drop k))) d (as.take k ++ [p] ++ as.drop k) (D.take k ++ [r] ++ D.drop k) := by
  have hl := h.rows.2.1
  have mem : ∀ c, c ∈ as.take k ++ [p] ++ as.drop k → c ∈ as ∨ c = p := fun c hc => by
    rcases List.mem_append.mp hc with z | z
    · rcases List.mem_append.mp z with z | z
      · exact .inl (List.mem_of_mem_take z)
      · exact .inr (List.mem_singleton.mp z)
    · exact .inl (List.mem_of_mem_drop z)
  have pm : (as.take k ++ [p] ++ as.drop k).Perm (p :: as) := by
    have := (List.perm_append_comm (l₁ := as.take k) (l₂ := [p])).append_right (as.drop k)
    rwa [List.append_assoc [p], List.take_append_drop] at this
  refine ⟨⟨?_, ?_, fun j b s hb hs => ?_⟩, pm.nodup_iff.mpr (List.nodup_cons.mpr ⟨h2, h.nd⟩), (fun hm => (mem d hm).elim h.out fun z => h1 z.symm), (fun c hc => (mem c hc).elim (h.new c) fun z => by rw [z]; exact h0), h.dnew⟩
  · rw [upd_same, List.map_append, List.map_append, List.map_take, List.map_drop]
    rfl
  · simp only [List.length_append, List.length_take, List.length_drop, List.length_singleton]
    omega
  · have bn : b ≠ d := fun z => (mem b (List.mem_of_getElem? hb)).elim (fun w => h.out (by rw [← z]; exact w)) fun w => h1 (by rw [← z]; exact w.symm)
    rw [upd_ne bn]
    have l1 : (as.take k).length = k := by rw [List.length_take]; omega
    have l2 : (D.take k).length = k := by rw [List.length_take]; omega
    rw [List.append_assoc] at hb hs
    by_cases hj : j < k
    · rw [List.getElem?_append_left (by omega), List.getElem?_take_of_lt hj] at hb
      rw [List.getElem?_append_left (by omega), List.getElem?_take_of_lt hj] at hs
      exact h.rows.2.2 j b s hb hs
    · rw [List.getElem?_append_right (by omega), l1] at hb
      rw [List.getElem?_append_right (by omega), l2] at hs
      by_cases hj2 : j = k
      · rw [hj2, Nat.sub_self] at hb hs
        have e1 : p = b := Option.some.inj hb
        have e2 : r = s := Option.some.inj hs
        rw [← e1, ← e2]
        exact hp
      · obtain ⟨i, hi⟩ : ∃ i, j - k = i + 1 := ⟨j - k - 1, by omega⟩
        rw [hi] at hb hs
        have hb2 : (as.drop k)[i]? = some b := hb
        have hs2 : (D.drop k)[i]? = some s := hs
        rw [List.getElem?_drop] at hb2 hs2
        exact h.rows.2.2 _ b s hb2 hs2
/-! ## settled -/
def sp__law_settled (K : PySem.W.Frag) : Sp := fun vs H Q _ => ∃ (d : Addr) (D : Dw), vs = [.ref d] ∧ Rows H d D ∧ D.length ≤ 1000 ∧ D.flatten.length ≤ 10000 ∧ ∀ D' : Dw, D'.length = D.length → D'.flatten.Perm D.flatten → RetR D' H Q
theorem least_of : ∀ (l : List Nat), l ≠ [] → ∃ e ∈ l, ∀ y ∈ l, e ≤ y
  | [], h => absurd rfl h
  | [x], _ => ⟨x, List.mem_cons_self, fun y hy => by rw [List.mem_singleton.mp hy]; exact Nat.le_refl _⟩
  | x :: z :: l, _ => by
    obtain ⟨e, he, hm⟩ := least_of (z :: l) (by simp)
    by_cases h : x ≤ e
    · exact ⟨x, List.mem_cons_self, fun y hy => (List.mem_cons.mp hy).elim (fun w => by rw [w]; exact Nat.le_refl _) fun w => Nat.le_trans h (hm y w)⟩
    · exact ⟨e, List.mem_cons_of_mem _ he, fun y hy => (List.mem_cons.mp hy).elim (fun w => by omega) fun w => hm y w⟩
theorem row_flat_len {D : Dw} {i : Nat} {r : List Nat} (hr : D[i]? = some r) : r.length ≤ D.flatten.length := by
  have := congrArg List.length (show D.flatten = ((D.take i).flatten ++ r) ++ (D.drop (i + 1)).flatten by
    rw [← take_flat_succ hr, ← List.flatten_append, List.take_append_drop])
  simp only [List.length_append] at this
  omega
theorem pure__law_settled (K : PySem.W.Frag) (vs : List V) (H : Hp) (Q : VK) (E : XK) (h : sp__law_settled K vs H Q E) : t__law_settled K { nx := fun _ H' => Q .non H', rt := Q } (start nm__law_settled vs) H := by
  obtain ⟨d, D, rfl, hD, hz, hz2, k⟩ := h
  refine q_asgL (el_lst ea_nil (by show 0 ≤ 100000; omega)) fun L H1 hL0 e1 hL => ?_
  refine q_forRows (K := K) (ev_var rfl) hD (fun i σ' H' => ∃ as B y2 y3, σ' = [some (.ref d), some (.ref L), y2, y3] ∧ Ex H H' ∧ Own H H' L as B ∧ B.length = i ∧ B.flatten.Perm (D.take i).flatten)
    (fun H2 e2 => ⟨[], [], none, none, rfl, e1.trans e2, ⟨⟨e2 _ _ hL, rfl, fun i a r ha _ => by simp at ha⟩, List.nodup_nil, (by simp), (fun c hc => by cases hc), hL0⟩, rfl, .refl _⟩) (fun i σ' H' ⟨_, _, _, _, _, e, _⟩ => e) (fun i r a σ' H' hr ha ⟨as, B, y2, y3, es, ex, ow, hB, pm⟩ => ?_) (fun σ' H' ⟨as, B, y2, y3, es, ex, ow, hB, pm⟩ => ?_)
  · subst es
    have hi : i < D.length := (List.getElem?_eq_some_iff.mp hr).1
    have rz := row_flat_len hr
    have fin : ∀ (j : Nat) H2, Ex H' H2 → j ≤ r.length → tDrop (tBM K "list" rAppend (tVar 1) (tCons (tOp rCat (tSl (rSlL K) (tVar 2) (tPart (tVar 3)) tNoPart) (tSl (rSlL K) (tVar 2) tNoPart (tPart (tVar 3)))) tNil)) { nx := fun σ' H' => ∃ as B y2 y3, σ' = [some (.ref d), some (.ref L), y2, y3] ∧ Ex H H' ∧ Own H H' L as B ∧ B.length = i + 1 ∧ B.flatten.Perm (D.take (i + 1)).flatten, rt := Q, ct := fun σ' H' => ∃ as B y2 y3, σ' = [some (.ref d), some (.ref L), y2, y3] ∧ Ex H H' ∧ Own H H' L as B ∧ B.length = i + 1 ∧ B.flatten.Perm (D.take (i + 1)).flatten, bk := tRet (tVar 1) { nx := fun _ H' => Q .non H', rt := Q } } [some (.ref d), some (.ref L), some (.ref a), some (.int ((j : Nat) : Int))] H2 := fun j H2 e2 hj => by
      have hra : SqL K H2 a (ni r) := sq_of (e2 _ _ (ex _ _ ha))
      have cc := el_cat (el_sl (σ := [some (.ref d), some (.ref L), some (.ref a), some (.int ((j : Nat) : Int))]) (te := tVar 2) (ev_var rfl) (eo_some (te := tVar 3) (ev_var rfl)) eo_none hra) (el_sl (te := tVar 2) (ev_var rfl) eo_none (eo_some (te := tVar 3) (ev_var rfl)) hra) (by have := cutV_length (ni r) (some ((j : Nat) : Int)) none; have := cutV_length (ni r) none (some ((j : Nat) : Int)); rw [ni_length] at *; omega)
      rw [cutV_from (by rw [ni_length]; exact hj), cutV_to (by rw [ni_length]; exact hj), show (ni r).drop j ++ (ni r).take j = ni (r.drop j ++ r.take j) from by unfold ni; rw [List.map_append, List.map_drop, List.map_take]] at cc
      have ow2 := ow.mono e2
      have la := ow.rows.2.1
      refine s_appL ow2.rows.1 (ev_var rfl) cc (by rw [List.length_map, la]; omega) fun p H3 hp0 e3 hp => ?_
      obtain ⟨n1, n2⟩ := ow2.notin hp0
      have ow3 := (ow2.mono e3).push hp (fresh_back (ex.trans e2) hp0) n2 n1
      refine ⟨_, _, _, _, rfl, Ex.mut (ex.trans (e2.trans e3)) ow.dnew, ow3, by rw [List.length_append, hB]; rfl, ?_⟩
      rw [take_flat_succ hr, List.flatten_append]
      refine pm.append ?_
      have : (r.drop j ++ r.take j).Perm r := by
        have := List.perm_append_comm (l₁ := r.drop j) (l₂ := r.take j)
        rwa [List.take_append_drop] at this
      simpa using this
    have lr : ∀ {H2 : Hp}, Ex H' H2 → Ev (tCB (rLenS K) (tCons (tVar 2) tNil)) [some (.ref d), some (.ref L), some (.ref a), some (.int 0)] H2 (.int (r.length : Int)) := fun {H2} e => by
      have := ev_len (K := K) (σ := [some (.ref d), some (.ref L), some (.ref a), some (.int 0)]) (H := H2) (ta := tVar 2) (ev_var rfl) (sq_of (e _ _ (ex _ _ ha)))
      rw [ni_length] at this
      exact this
    refine q_asg (ev_c (v := .int 0)) fun H2 e2 => ?_
    refine q_when (b := decide ((0 : Int) < ((r.length : Nat) : Int))) (et_test (ev_gt (lr e2) ev_c)) (fun hb H3 e3 => ?_) (fun _ H3 e3 => fin 0 H3 (e2.trans e3) (Nat.zero_le _))
    have ne : r ≠ [] := fun z => by rw [z] at hb; simp at hb
    obtain ⟨e, he, hm⟩ := least_of r ne
    have hra : ∀ {H4 : Hp}, Ex H' H4 → SqL K H4 a (ni r) := fun x => sq_of (x _ _ (ex _ _ ha))
    have mn : Ev (tCB (rMin K) (tCons (tVar 2) tNil)) [some (.ref d), some (.ref L), some (.ref a), some (.int 0)] H3 (.int ((e : Nat) : Int)) := ev_min (ns := zOf r) (ev_var rfl) (by rw [zi_zOf]; exact hra (e2.trans e3)) (List.mem_map.mpr ⟨e, he, rfl⟩) fun y hy => by
      obtain ⟨z, hz, rfl⟩ := List.mem_map.mp hy
      have := hm z hz
      omega
    refine s_asg (ev_idx (ev_var rfl) mn (hra (e2.trans e3)) he) fun H4 e4 => ?_
    exact fin _ H4 (e2.trans (e3.trans e4)) (Nat.le_of_lt (List.idxOf_lt_length_of_mem he))
  · subst es
    rw [List.take_length] at pm
    exact s_ret (ev_var rfl) fun H2 e2 => k B hB pm L H2 hL0 (ex.trans e2) ⟨as, ow.rows.mono e2⟩
end RF

set_option Elab.async false
set_option linter.all false
set_option maxRecDepth 100000
set_option maxHeartbeats 4000000
namespace RF
open PySem PySem.Spec PyProof.Rows L2 Evl
/-! ## drawing -/
/-- xs.pop(k), dropped -/
theorem s_popAt {K : PySem.W.Frag} {σ : L2.St} {H : Hp} {ta te : TE} {D : Ends} {v : V} {l : Addr} {xs : List V} {k : Nat} (hl : H l = some (.lst xs)) (ha : Ev ta σ H (.ref l)) (hi : Ev te σ H (.int ((k : Nat) : Int))) (hx : xs[k]? = some v) (hz : xs.length ≤ 100000) (kk : ∀ H1, Ex H H1 → D.nx σ (upd H1 l (.lst (xs.eraseIdx k)))) :
    tDrop (tBM K "list" rPopAt ta (tCons te tNil)) D σ H :=
  ha H (Ex.refl H) _ fun H1 e1 => ⟨Or.inl ⟨rfl, _, sq_of (e1 _ _ hl)⟩, hi H1 e1 _ fun H2 e2 => ⟨l, xs, (k : Int), k, v, rfl, rfl, e2 _ _ (e1 _ _ hl), by omega, by have := (List.getElem?_eq_some_iff.mp hx).1; omega, by
    have h := (List.getElem?_eq_some_iff.mp hx).1
    rw [seqIndex_of (by omega) (by omega), Int.toNat_natCast], hx, kk H2 (e1.trans e2)⟩⟩
/-- a heap that holds one thing -/
def OneH (p : Addr) (o : HO) : Hp := upd (fun _ => none) p o
theorem oneH {p : Addr} {o : HO} {H : Hp} (h : H p = some o) : Ex (OneH p o) H := fun x u e => by
  by_cases z : x = p
  · rw [z] at e ⊢
    unfold OneH at e
    rw [upd_same] at e
    rw [← Option.some.inj e]
    exact h
  · unfold OneH at e
    rw [upd_ne z] at e
    cases e
def sp__law_drawing (K : PySem.W.Frag) : Sp := fun vs H Q _ => ∃ (a : Addr) (ns : List Int) (b : Nat), vs = [.ref a, .int ((b : Nat) : Int), .int 7] ∧ SqL K H a (zi ns) ∧ ∀ D m, Ok D m → D.length ≤ 300 → m ≤ 300 → RetR D H Q
theorem perm_erase {l : List Nat} {k e : Nat} (h : l[k]? = some e) : l.Perm (e :: l.eraseIdx k) := by
  induction l generalizing k with
  | nil => simp at h
  | cons x l ih =>
    cases k with
    | zero =>
      rw [show x = e from Option.some.inj h]
      exact .refl _
    | succ k =>
      have h2 : l[k]? = some e := h
      rw [List.eraseIdx_cons_succ]
      exact ((ih h2).cons x).trans (List.Perm.swap e x _)
theorem ni_erase (l : List Nat) (k : Nat) : (ni l).eraseIdx k = ni (l.eraseIdx k) := by
  induction l generalizing k with
  | nil => rfl
  | cons x l ih =>
    cases k with
    | zero => rfl
    | succ k => exact congrArg (V.int ((x : Nat) : Int) :: ·) (ih k)
theorem flat_set_snoc {D : Dw} {r : List Nat} {e : Nat} {j : Nat} (h : D[j]? = some r) : (D.set j (r ++ [e])).flatten.Perm (e :: D.flatten) := by
  induction D generalizing j with
  | nil => simp at h
  | cons x D ih =>
    cases j with
    | zero =>
      rw [show x = r from Option.some.inj h, List.set_cons_zero, List.flatten_cons, List.flatten_cons, List.append_assoc]
      exact List.perm_middle
    | succ j =>
      rw [List.set_cons_succ, List.flatten_cons, List.flatten_cons]
      exact ((ih h).append_left x).trans List.perm_middle
theorem ins_flat (D : Dw) (k : Nat) : (D.take k ++ [[]] ++ D.drop k).flatten = D.flatten := by
  rw [List.flatten_append, List.flatten_append]
  simp
  rw [← List.flatten_append, List.take_append_drop]
/-- while the ends are dealt out -/
structure Deal (T k : Nat) (B : Dw) (Lf : List Nat) : Prop where
  left : Lf.length = T - k
  pm : (B.flatten ++ Lf).Perm (List.range T)
theorem Deal.lens {T k : Nat} {B : Dw} {Lf : List Nat} (h : Deal T k B Lf) : B.flatten.length ≤ T := by
  have := h.pm.length_eq
  rw [List.length_append, List.length_range] at this
  omega
theorem Deal.put {T k : Nat} {B : Dw} {Lf : List Nat} (h : Deal T k B Lf) {j i e : Nat} {r : List Nat} (hr : B[j]? = some r) (he : Lf[i]? = some e) : Deal T (k + 1) (B.set j (r ++ [e])) (Lf.eraseIdx i) := by
  have hi := (List.getElem?_eq_some_iff.mp he).1
  refine ⟨?_, ?_⟩
  · rw [List.length_eraseIdx, if_pos hi, h.left]
    omega
  · refine ((flat_set_snoc hr).append_right _).trans ?_
    refine List.Perm.trans ?_ h.pm
    exact (List.perm_middle (l₁ := B.flatten) (a := e) (l₂ := Lf.eraseIdx i)).symm.trans ((perm_erase he).symm.append_left _)
theorem s_retCall {sp : Sp} {E : XK} {ta : TA} {σ : L2.St} {H : Hp} {vs : List V} {D : Ends} (ha : EvA ta σ H vs) (k : ∀ H1, Ex H H1 → sp vs H1 D.rt E) : tRet (tCall sp [] E ta) D σ H := by
  show ta σ H fun xs H1 => sp (xs ++ []) H1 D.rt E
  refine ha H (Ex.refl H) _ fun H1 e => ?_
  rw [List.append_nil]
  exact k H1 e
theorem pure__law_drawing (K : PySem.W.Frag) (vs : List V) (H : Hp) (Q : VK) (E : XK) (h : sp__law_drawing K vs H Q E) : t__law_drawing K (sp__law_cell K) (sp__law_draws K) (sp__law_settled K) { nx := fun _ H' => Q .non H', rt := Q } (start nm__law_drawing vs) H := by
  obtain ⟨a, ns, b, rfl, ha, k⟩ := h
  refine q_asgE (draws_any (S := [8, 4, 4, 60, 60]) (any_cell (k := b) (ev_var rfl) (ev_var rfl) ha) (el_lst (vs := ni [8, 4, 4, 60, 60]) (ea_cons (ev_add (i := 7) (j := 1) (ev_var rfl) ev_c) (ea_cons ev_c (ea_cons ev_c (ea_cons ev_c (ea_cons ev_c ea_nil))))) (by show 5 ≤ 100000; omega)) (by show 5 ≤ 10000; omega) (by decide) fun F p0 H1 hu hp0 e1 hF => ?_)
  obtain ⟨T, th, br, o1, o2, rfl, hT, hth, hbr, ho1, ho2⟩ := under5 hu
  refine names5 (sq_of hF) ?_
  have tw : ∀ {y8 y9 y10 y11 y12 y13 : Option V} {H' : Hp}, Ev (tOp rTimes (tC (.int 2)) (tVar 3)) [some (.ref a), some (.int ((b : Nat) : Int)), some (.int 7), some (.int ((T : Nat) : Int)), some (.int ((th : Nat) : Int)), some (.int ((br : Nat) : Int)), some (.int ((o1 : Nat) : Int)), some (.int ((o2 : Nat) : Int)), y8, y9, y10, y11, y12, y13] H' (.int ((2 * T : Nat) : Int)) := fun {_ _ _ _ _ _ _} => by
    refine ev_is (ev_mul (i := 2) (j := ((T : Nat) : Int)) ev_c (ev_var rfl) (.inl (by omega))) ?_
    rw [show ((2 * T : Nat) : Int) = 2 * ((T : Nat) : Int) from by omega]
  show tSeq _ _ _ [some (.ref a), some (.int ((b : Nat) : Int)), some (.int 7), some (.int ((T : Nat) : Int)), some (.int ((th : Nat) : Int)), some (.int ((br : Nat) : Int)), some (.int ((o1 : Nat) : Int)), some (.int ((o2 : Nat) : Int)), none, none, none, none, none, none] H1
  have sz : EvL (tLc (iRng1 (tCons (tOp rTimes (tC (.int 2)) (tVar 3)) tNil)) (gName 12) tYes (tOp rMinus (tOp rTimes (tC (.int 2)) (tVar 3)) (tVar 12)) [12]) [some (.ref a), some (.int ((b : Nat) : Int)), some (.int 7), some (.int ((T : Nat) : Int)), some (.int ((th : Nat) : Int)), some (.int ((br : Nat) : Int)), some (.int ((o1 : Nat) : Int)), some (.int ((o2 : Nat) : Int)), none, none, none, none, none, none] H1 (ni ((List.range (2 * T)).map fun i => 2 * T - i)) := by
    have := el_lcR (k := 2 * T) (j := 12) (vs := [12]) (te := tOp rMinus (tOp rTimes (tC (.int 2)) (tVar 3)) (tVar 12)) (σ := [some (.ref a), some (.int ((b : Nat) : Int)), some (.int 7), some (.int ((T : Nat) : Int)), some (.int ((th : Nat) : Int)), some (.int ((br : Nat) : Int)), some (.int ((o1 : Nat) : Int)), some (.int ((o2 : Nat) : Int)), none, none, none, none, none, none]) (H := H1) (fun i => V.int ((2 * T - i : Nat) : Int)) tw (by omega) (fun _ => rfl) (fun i H2 e2 hi => by
      rw [show ((2 * T - i : Nat) : Int) = ((2 * T : Nat) : Int) - ((i : Nat) : Int) from by omega]
      exact ev_sub tw (ev_var rfl))
    unfold ni
    rw [List.map_map]
    exact this
  refine q_asgE (draws_any (any_cell (k := b + 1) (ev_var rfl) (ev_add (i := ((b : Nat) : Int)) (j := 1) (ev_var rfl) ev_c) (ex_l e1 ha)) sz (by rw [List.length_map, List.length_range]; omega) (fun s hs => by
    obtain ⟨i, hi, rfl⟩ := List.mem_map.mp hs
    have := List.mem_range.mp hi
    omega) fun P p1 H2 hP hp1 e2 hPl => ?_)
  have hPi : ∀ i, i < 2 * T → ∃ f, P[i]? = some f ∧ f < 2 * T - i := fun i hi => under_get hP (by rw [List.getElem?_map, List.getElem?_range hi]; rfl)
  obtain ⟨s, hs, hs1, hs2⟩ : ∃ s : Nat, (ni [2, 3, 5, 40])[th]? = some (.int ((s : Nat) : Int)) ∧ 0 < s ∧ s < 1000000 := by
    match th, hth with
    | 0, _ => exact ⟨2, rfl, by omega, by omega⟩
    | 1, _ => exact ⟨3, rfl, by omega, by omega⟩
    | 2, _ => exact ⟨5, rfl, by omega, by omega⟩
    | 3, _ => exact ⟨40, rfl, by omega, by omega⟩
  show tSeq _ _ _ [some (.ref a), some (.int ((b : Nat) : Int)), some (.int 7), some (.int ((T : Nat) : Int)), some (.int ((th : Nat) : Int)), some (.int ((br : Nat) : Int)), some (.int ((o1 : Nat) : Int)), some (.int ((o2 : Nat) : Int)), some (.ref p1), none, none, none, none, none] H2
  have cz : EvL (tOp rRep (tLst (tCons (tOp (rIxL K) (tLst (tCons (tC (.int 2)) (tCons (tC (.int 3)) (tCons (tC (.int 5)) (tCons (tC (.int 40)) tNil))))) (tVar 4)) tNil)) (tOp rTimes (tC (.int 2)) (tVar 3))) [some (.ref a), some (.int ((b : Nat) : Int)), some (.int 7), some (.int ((T : Nat) : Int)), some (.int ((th : Nat) : Int)), some (.int ((br : Nat) : Int)), some (.int ((o1 : Nat) : Int)), some (.int ((o2 : Nat) : Int)), some (.ref p1), none, none, none, none, none] H2 (ni (List.replicate (2 * T) s)) := by
    have := el_rep1 (k := 2 * T) (v := .int ((s : Nat) : Int)) (ev_opL0 (y := .int ((th : Nat) : Int)) (r := rIxL K) (el_lst (vs := ni [2, 3, 5, 40]) (ea_cons (ev_c (σ := [some (.ref a), some (.int ((b : Nat) : Int)), some (.int 7), some (.int ((T : Nat) : Int)), some (.int ((th : Nat) : Int)), some (.int ((br : Nat) : Int)), some (.int ((o1 : Nat) : Int)), some (.int ((o2 : Nat) : Int)), some (.ref p1), none, none, none, none, none]) (H := H2)) (ea_cons ev_c (ea_cons ev_c (ea_cons ev_c ea_nil)))) (by show 4 ≤ 100000; omega)) (ev_var (i := 4) rfl) fun p H3 h3 e3 => rv_ixL (sq_of h3) (atI_nat hs)) tw (by omega)
    unfold ni
    rw [List.map_replicate]
    exact this
  refine q_asgE (draws_any (any_cell (k := b + 2) (ev_var rfl) (ev_add (i := ((b : Nat) : Int)) (j := 2) (ev_var rfl) ev_c) (ex_l (e1.trans e2) ha)) cz (by rw [List.length_replicate]; omega) (fun z hz => by rw [List.eq_of_mem_replicate hz]; exact ⟨hs1, hs2⟩) fun C p2 H3 hC hp2 e3 hCl => ?_)
  have hCi : ∀ i, i < 2 * T → ∃ f, C[i]? = some f := fun i hi => by
    obtain ⟨f, hf, _⟩ := under_get hC (i := i) (s := s) (by rw [List.getElem?_replicate, if_pos hi])
    exact ⟨f, hf⟩
  have x3 : Ex H H3 := e1.trans (e2.trans e3)
  show tSeq _ _ _ [some (.ref a), some (.int ((b : Nat) : Int)), some (.int 7), some (.int ((T : Nat) : Int)), some (.int ((th : Nat) : Int)), some (.int ((br : Nat) : Int)), some (.int ((o1 : Nat) : Int)), some (.int ((o2 : Nat) : Int)), some (.ref p1), some (.ref p2), none, none, none, none] H3
  refine q_asgL (el_range tw (by omega)) fun l H4 hl0 e4 hl => ?_
  refine q_asgL (el_lst ea_nil (by show 0 ≤ 100000; omega)) fun R H5 hR0 e5 hR => ?_
  have nlR : R ≠ l := fun z => by rw [z, hl] at hR0; cases hR0
  have hR3 : H3 R = none := fresh_back e4 hR0
  show tSeq _ _ _ [some (.ref a), some (.int ((b : Nat) : Int)), some (.int 7), some (.int ((T : Nat) : Int)), some (.int ((th : Nat) : Int)), some (.int ((br : Nat) : Int)), some (.int ((o1 : Nat) : Int)), some (.int ((o2 : Nat) : Int)), some (.ref p1), some (.ref p2), some (.ref l), some (.ref R), none, none] H5
  refine q_forR tw (by omega) (fun i σ' H' => ∃ as B Lf y12, σ' = [some (.ref a), some (.int ((b : Nat) : Int)), some (.int 7), some (.int ((T : Nat) : Int)), some (.int ((th : Nat) : Int)), some (.int ((br : Nat) : Int)), some (.int ((o1 : Nat) : Int)), some (.int ((o2 : Nat) : Int)), some (.ref p1), some (.ref p2), some (.ref l), some (.ref R), y12, none] ∧ Ex H3 H' ∧ Own H3 H' R as B ∧ (∀ c ∈ as, c ≠ l) ∧ H' l = some (.lst (ni Lf)) ∧ Deal (2 * T) i B Lf ∧ B.length ≤ i)
    (fun H6 e6 => ⟨[], [], List.range (2 * T), none, rfl, e4.trans (e5.trans e6), ⟨⟨e6 _ _ hR, rfl, fun i a r ha _ => by simp at ha⟩, List.nodup_nil, (by simp), (fun c hc => by cases hc), hR3⟩, (fun c hc => by cases hc), e6 _ _ (e5 _ _ hl), ⟨by simp, by simp⟩, Nat.le_refl _⟩) (fun i σ' H' hi ⟨as, B, Lf, y12, es, ex, ow, nl, hlf, dl, bl⟩ => ?_) (fun σ' H' ⟨as, B, Lf, y12, es, ex, ow, nl, hlf, dl, bl⟩ => ?_)
  · subst es
    obtain ⟨ci, hci⟩ := hCi i hi
    obtain ⟨pi, hpi, hpl⟩ := hPi i hi
    have lR : ∀ {H2}, Ex H' H2 → Ev (tCB (rLenS K) (tCons (tVar 11) tNil)) [some (.ref a), some (.int ((b : Nat) : Int)), some (.int 7), some (.int ((T : Nat) : Int)), some (.int ((th : Nat) : Int)), some (.int ((br : Nat) : Int)), some (.int ((o1 : Nat) : Int)), some (.int ((o2 : Nat) : Int)), some (.ref p1), some (.ref p2), some (.ref l), some (.ref R), some (.int ((i : Nat) : Int)), none] H2 (.int (B.length : Int)) := fun {H2} e => rows_len (ev_var rfl) ⟨as, ow.rows.mono e⟩
    have la := ow.rows.2.1
    refine q_tie (fun σ' H' => ∃ as B, σ' = [some (.ref a), some (.int ((b : Nat) : Int)), some (.int 7), some (.int ((T : Nat) : Int)), some (.int ((th : Nat) : Int)), some (.int ((br : Nat) : Int)), some (.int ((o1 : Nat) : Int)), some (.int ((o2 : Nat) : Int)), some (.ref p1), some (.ref p2), some (.ref l), some (.ref R), some (.int ((i : Nat) : Int)), none] ∧ Ex H3 H' ∧ Own H3 H' R as B ∧ (∀ c ∈ as, c ≠ l) ∧ H' l = some (.lst (ni Lf)) ∧ Deal (2 * T) i B Lf ∧ B.length ≤ i + 1 ∧ 0 < B.length) (fun σ' H6 ⟨as, B, es, ex, ow, nl, hlf, dl, bl, bp⟩ => ?_) (fun rest => ?_)
    · subst es
      obtain ⟨r, hr⟩ : ∃ r, B[B.length - 1]? = some r := ⟨_, List.getElem?_eq_getElem (by omega)⟩
      obtain ⟨ra, h1, h2, h3, h4⟩ := ow.at hr
      obtain ⟨e, he⟩ : ∃ e, Lf[pi]? = some e := ⟨_, List.getElem?_eq_getElem (by rw [dl.left]; exact hpl)⟩
      have nral : ra ≠ l := nl ra (List.mem_of_getElem? h1)
      have la := ow.rows.2.1
      have rz := row_flat_len hr
      have dz := dl.lens
      have lz := dl.left
      have l3 : H3 l = none := hl0
      refine s_appPop (k := pi) h3 hlf nral (ev_ixI (ev_var rfl) (ev_neg ev_c) (sq_of ow.rows.1) (atI_back (j := B.length - 1) (by omega) (by rw [List.length_map, la]; omega) h2)) (ev_var rfl) (ev_ixL (ev_var rfl) (ev_var rfl) (sq_of (ex _ _ (e3 _ _ hPl))) (ni_get hpi)) (ni_get he) (by rw [ni_length]; omega) (by rw [ni_length]; omega) fun H7 e7 => ?_
      rw [ni_erase, ni_put]
      have ow7 := (ow.mono e7).upd (p := l) (o := .lst (ni (Lf.eraseIdx pi))) nlR nl
      refine ⟨as, _, _, _, rfl, Ex.mut (Ex.mut (ex.trans e7) l3) h4, ow7.put h1, nl, ?_, dl.put hr he, by rw [List.length_set]; exact bl⟩
      rw [upd_ne nral.symm]
      exact upd_same
    · refine q_when (et_or (a := decide (((ci : Nat) : Int) = 0)) (b := decide (((B.length : Nat) : Int) = 0)) (et_test (ev_eqI (ev_ixL (ev_var rfl) (ev_var rfl) (sq_of (ex _ _ hCl)) (ni_get hci)) ev_c)) fun _ => et_test (ev_eqI (lR (Ex.refl _)) ev_c)) (fun hb H6 e6 => ?_) (fun hb H6 e6 => ?_)
      · refine s_appL (ow.mono e6).rows.1 (ev_var rfl) (el_lst ea_nil (by show 0 ≤ 100000; omega)) (by rw [List.length_map, la]; omega) fun p H7 hp0 e7 hp => ?_
        obtain ⟨n1, n2⟩ := (ow.mono e6).notin hp0
        have npl : p ≠ l := fun z => by rw [z, e6 _ _ hlf] at hp0; cases hp0
        refine rest _ _ ⟨as ++ [p], B ++ [[]], rfl, Ex.mut (ex.trans (e6.trans e7)) hR3, (ow.mono (e6.trans e7)).push hp (fresh_back (ex.trans e6) hp0) n2 n1, ?_, ?_, ⟨dl.left, by simpa using dl.pm⟩, by rw [List.length_append]; exact Nat.succ_le_succ bl, by rw [List.length_append]; exact Nat.succ_pos _⟩
        · intro c hc
          rcases List.mem_append.mp hc with z | z
          · exact nl c z
          · rw [List.mem_singleton.mp z]
            exact npl
        · rw [upd_ne nlR.symm]
          exact e7 _ _ (e6 _ _ hlf)
      · refine rest _ _ ⟨as, B, rfl, ex.trans e6, ow.mono e6, nl, e6 _ _ hlf, dl, by omega, ?_⟩
        rw [Bool.or_eq_false_iff] at hb
        have := of_decide_eq_false hb.2
        omega
  · subst es
    have Lf0 : Lf = [] := List.eq_nil_of_length_eq_zero (by rw [dl.left]; omega)
    have pmB : B.flatten.Perm (List.range (2 * T)) := by
      have := dl.pm
      rw [Lf0, List.append_nil] at this
      exact this
    obtain ⟨F, eF, lF⟩ := cutV_ni [o1, o2] none (some (if ((br : Nat) : Int) - 1 > 0 then ((br : Nat) : Int) - 1 else 0))
    have sl := el_slL (K := K) (lo := none) (te := tLst (tCons (tVar 6) (tCons (tVar 7) tNil))) (el_lst (vs := ni [o1, o2]) (ea_cons (ev_var (σ := [some (.ref a), some (.int ((b : Nat) : Int)), some (.int 7), some (.int ((T : Nat) : Int)), some (.int ((th : Nat) : Int)), some (.int ((br : Nat) : Int)), some (.int ((o1 : Nat) : Int)), some (.int ((o2 : Nat) : Int)), some (.ref p1), some (.ref p2), some (.ref l), some (.ref R), y12, none]) (H := H') rfl) (ea_cons (ev_var rfl) ea_nil)) (by show 2 ≤ 100000; omega)) eo_none (eo_some (te := tCB rMax2 (tCons (tC (.int 0)) (tCons (tOp rMinus (tVar 5) (tC (.int 1))) tNil))) (ev_max2 (i := 0) (j := ((br : Nat) : Int) - 1) ev_c (ev_sub (ev_var rfl) ev_c)))
    rw [eF] at sl
    have lF2 : F.length ≤ 2 := lF
    refine q_forEvL sl fun pF H6 hpF0 e6 hpF => ?_
    have npR : pF ≠ R := fun z => by rw [z, ow.rows.1] at hpF0; cases hpF0
    have npas : pF ∉ as := (ow.notin hpF0).1
    refine q_forN (K := K) (l := F) (H0 := OneH pF (.lst (ni F))) (ev_c (v := .ref pF)) (sq_of upd_same) (fun i σ' H' => ∃ as B y13, σ' = [some (.ref a), some (.int ((b : Nat) : Int)), some (.int 7), some (.int ((T : Nat) : Int)), some (.int ((th : Nat) : Int)), some (.int ((br : Nat) : Int)), some (.int ((o1 : Nat) : Int)), some (.int ((o2 : Nat) : Int)), some (.ref p1), some (.ref p2), some (.ref l), some (.ref R), y12, y13] ∧ H' pF = some (.lst (ni F)) ∧ pF ∉ as ∧ Ex H3 H' ∧ Own H3 H' R as B ∧ B.flatten.Perm (List.range (2 * T)) ∧ B.length ≤ 2 * T + i)
      (fun H7 e7 => ⟨as, B, none, rfl, e7 _ _ hpF, npas, ex.trans (e6.trans e7), ow.mono (e6.trans e7), pmB, by omega⟩) (fun i σ' H' ⟨_, _, _, _, e, _⟩ => oneH e) (fun i n σ' H7 hn ⟨as, B, y13, es, e7, npas, x7, ow, pmB, bl⟩ => ?_) (fun σ' H7 ⟨as, B, y13, es, e7, npas, x7, ow, pmB, bl⟩ => ?_)
    · subst es
      have hi : i < F.length := (List.getElem?_eq_some_iff.mp hn).1
      have la := ow.rows.2.1
      have hk : n % (B.length + 1) < B.length + 1 := Nat.mod_lt _ (by omega)
      have hidx : Ev (tOp rModP (tVar 13) (tOp rPlus (tCB (rLenS K) (tCons (tVar 11) tNil)) (tC (.int 1)))) [some (.ref a), some (.int ((b : Nat) : Int)), some (.int 7), some (.int ((T : Nat) : Int)), some (.int ((th : Nat) : Int)), some (.int ((br : Nat) : Int)), some (.int ((o1 : Nat) : Int)), some (.int ((o2 : Nat) : Int)), some (.ref p1), some (.ref p2), some (.ref l), some (.ref R), y12, some (.int ((n : Nat) : Int))] H7 (.int ((n % (B.length + 1) : Nat) : Int)) := by
        refine ev_is (ev_mod (ev_var rfl) (ev_add (rows_len (ev_var rfl) ⟨as, ow.rows⟩) ev_c) (by omega)) ?_
        rw [show ((n % (B.length + 1) : Nat) : Int) = ((n : Nat) : Int) % (((B.length : Nat) : Int) + 1) from by rw [Int.natCast_emod]; rfl]
      refine s_insL ow.rows.1 (ev_var rfl) hidx (el_lst ea_nil (by show 0 ≤ 100000; omega)) (by omega) (by rw [List.length_map, la]; omega) fun p H8 hp0 e8 hp => ?_
      obtain ⟨n1, n2⟩ := ow.notin hp0
      have npp : p ≠ pF := fun z => by rw [z, e7] at hp0; cases hp0
      refine ⟨_, _, _, rfl, ?_, ?_, Ex.mut (x7.trans e8) hR3, (ow.mono e8).ins (r := []) (by omega) hp (fresh_back x7 hp0) n2 n1, ?_, ?_⟩
      · rw [upd_ne npR]
        exact e8 _ _ e7
      · intro hm
        rcases List.mem_append.mp hm with z | z
        · rcases List.mem_append.mp z with z | z
          · exact npas (List.mem_of_mem_take z)
          · exact npp (List.mem_singleton.mp z).symm
        · exact npas (List.mem_of_mem_drop z)
      · rw [ins_flat]
        exact pmB
      · simp only [List.length_append, List.length_take, List.length_drop, List.length_singleton]
        omega
    · subst es
      have zf : B.flatten.length = 2 * T := by rw [pmB.length_eq, List.length_range]
      refine s_retCall (ea_cons (ev_var rfl) ea_nil) fun H8 e8 => ⟨R, B, rfl, ⟨as, ow.rows.mono e8⟩, by omega, by omega, fun D' hl pm p H9 hp e9 hr => ?_⟩
      exact k D' T (ok_of_perm (pm.trans pmB)) (by omega) (by omega) p H9 (fresh_back (x3.trans (x7.trans e8)) hp) (x3.trans (x7.trans (e8.trans e9))) hr
/-! ## numbers -/
def RetT (xs : List V) (H : Hp) (Q : VK) : Prop := ∀ p H2, H p = none → Ex H H2 → H2 p = some (.tup xs) → Q (.ref p) H2
def sp__law_numbers (K : PySem.W.Frag) : Sp := fun vs H Q _ => ∃ c : Int, vs = [.int c, .int 40] ∧ ∀ r k s : Nat, 1 ≤ r → 1 ≤ k → r * k ≤ 40 → s < k → RetT [.int ((r : Nat) : Int), .int ((k : Nat) : Int), .int ((s : Nat) : Int)] H Q
theorem pure__law_numbers (K : PySem.W.Frag) (vs : List V) (H : Hp) (Q : VK) (E : XK) (h : sp__law_numbers K vs H Q E) : t__law_numbers K (sp__law_draws K) { nx := fun _ H' => Q .non H', rt := Q } (start nm__law_numbers vs) H := by
  obtain ⟨c, rfl, k⟩ := h
  refine q_asgE (draws_any (S := [7, 40, 5040, 5040]) (any_of (ev_var rfl)) (el_lst (ea_cons ev_c (ea_cons ev_c (ea_cons ev_c (ea_cons ev_c ea_nil)))) (by show 4 ≤ 100000; omega)) (by show 4 ≤ 10000; omega) (by decide) fun F p0 H1 hu hp0 e1 hF => ?_)
  obtain ⟨f0, f1, f2, f3, rfl, h0, h1, h2, h3⟩ := under4 hu
  refine names4 (sq_of hF) ?_
  refine q_asg (v := .int ((1 + f0 : Nat) : Int)) (ev_is (ev_add (i := 1) (j := ((f0 : Nat) : Int)) ev_c (ev_var rfl)) (by rw [show ((1 + f0 : Nat) : Int) = 1 + ((f0 : Nat) : Int) from by omega])) fun H2 e2 => ?_
  refine q_tie (fun σ' H' => ∃ r : Nat, σ' = [some (.int c), some (.int 40), some (.int ((f0 : Nat) : Int)), some (.int ((f1 : Nat) : Int)), some (.int ((f2 : Nat) : Int)), some (.int ((f3 : Nat) : Int)), some (.int ((r : Nat) : Int)), none] ∧ Ex H H' ∧ 1 ≤ r ∧ r ≤ 40) (fun σ' H' ⟨r, es, ex, hr1, hr2⟩ => ?_) (fun rest => ?_)
  · subst es
    have q1 : 1 ≤ 40 / r := (Nat.le_div_iff_mul_le (by omega)).mpr (by omega)
    have hk : f2 % (40 / r) < 40 / r := Nat.mod_lt _ (by omega)
    have mx : (if ((40 / r : Nat) : Int) > 1 then ((40 / r : Nat) : Int) else 1) = ((40 / r : Nat) : Int) := by
      by_cases z : ((40 / r : Nat) : Int) > 1
      · rw [if_pos z]
      · rw [if_neg z]
        omega
    have dv : Ev (tOp rDivP (tVar 1) (tVar 6)) [some (.int c), some (.int 40), some (.int ((f0 : Nat) : Int)), some (.int ((f1 : Nat) : Int)), some (.int ((f2 : Nat) : Int)), some (.int ((f3 : Nat) : Int)), some (.int ((r : Nat) : Int)), none] H' (.int ((40 / r : Nat) : Int)) :=
      ev_is (ev_div (i := 40) (j := ((r : Nat) : Int)) (ev_var rfl) (ev_var rfl) ⟨by omega, by omega⟩) (by rw [show ((40 / r : Nat) : Int) = 40 / ((r : Nat) : Int) from by rw [Int.natCast_ediv]; rfl])
    have m2 := ev_max2 (ev_c (v := .int 1)) dv
    rw [mx] at m2
    refine q_asg (v := .int ((1 + f2 % (40 / r) : Nat) : Int)) (ev_is (ev_add (i := 1) (j := ((f2 : Nat) : Int) % ((40 / r : Nat) : Int)) ev_c (ev_mod (ev_var rfl) m2 (by omega))) (by rw [show ((1 + f2 % (40 / r) : Nat) : Int) = 1 + ((f2 : Nat) : Int) % ((40 / r : Nat) : Int) from by rw [← Int.natCast_emod]; omega])) fun H3 e3 => ?_
    have le40 : r * (1 + f2 % (40 / r)) ≤ 40 := Nat.le_trans (Nat.mul_le_mul_left r (show 1 + f2 % (40 / r) ≤ 40 / r by omega)) (Nat.mul_div_le _ _)
    obtain ⟨c2, ec⟩ : ∃ c2, c2 = 1 + f2 % (40 / r) := ⟨_, rfl⟩
    have hc2 : 1 ≤ c2 := by omega
    rw [← ec] at le40 ⊢
    have hs : f3 % c2 < c2 := Nat.mod_lt _ hc2
    exact s_retU (eu_tup (ea_cons (ev_var rfl) (ea_cons (ev_var rfl) (ea_cons (ev_is (w := .int ((f3 % c2 : Nat) : Int)) (ev_mod (i := ((f3 : Nat) : Int)) (j := ((c2 : Nat) : Int)) (ev_var rfl) (ev_var rfl) (by omega)) (by rw [Int.natCast_emod])) ea_nil))) (by show 3 ≤ 100000; omega)) fun p H4 hp e4 h4 => k r c2 (f3 % c2) hr1 hc2 le40 hs p H4 (fresh_back (ex.trans e3) hp) (ex.trans (e3.trans e4)) h4
  · have x2 : Ex H H2 := e1.trans e2
    refine q_when (b := decide (((f0 : Nat) : Int) = 6)) (et_test (ev_eqI (ev_var rfl) ev_c)) (fun _ H3 e3 => ?_) (fun _ H3 e3 => rest _ _ ⟨1 + f0, rfl, x2.trans e3, by omega, by omega⟩)
    have hm : f1 % 40 < 40 := Nat.mod_lt _ (by omega)
    refine s_asg (v := .int ((1 + f1 % 40 : Nat) : Int)) (ev_is (ev_add (i := 1) (j := ((f1 : Nat) : Int) % 40) ev_c (ev_mod (ev_var rfl) (ev_var rfl) (by omega))) (by rw [show ((1 + f1 % 40 : Nat) : Int) = 1 + ((f1 : Nat) : Int) % 40 from by omega])) fun H4 e4 => ?_
    exact rest _ _ ⟨1 + f1 % 40, rfl, x2.trans (e3.trans e4), by omega, by omega⟩
/-! ## about, spoilt -/
def sp__law_about (K : PySem.W.Frag) : Sp := fun vs H Q _ => ∃ (w : Addr) (W : List Int), vs = [.ref w] ∧ SqL K H w (zi W) ∧ W.length ≤ 40000 ∧ RetL (zi (W.reverse.map mz)) H Q
theorem pure__law_about (K : PySem.W.Frag) (vs : List V) (H : Hp) (Q : VK) (E : XK) (h : sp__law_about K vs H Q E) : t__law_about K (sp__law_mate K) { nx := fun _ H' => Q .non H', rt := Q } (start nm__law_about vs) H := by
  obtain ⟨w, W, rfl, hw, hz, k⟩ := h
  refine s_retL (el_lcOf (xs := zi W.reverse) ?_ fun p H1 hp e1 => ?_) k
  · have := el_rev (K := K) (σ := start nm__law_about [.ref w]) (ta := tVar 0) (ev_var rfl) hw
    rw [show (zi W).reverse = zi W.reverse from by unfold zi; rw [List.map_reverse]] at this
    exact this
  · have q := el_lcZ (K := K) (σ := start nm__law_about [.ref w]) (H := H1) (l := W.reverse) (tl := tC (.ref p)) (te := tCall (sp__law_mate K) [] E0 (tCons (tVar 1) tNil)) (j := 1) (vs := [1]) (fun z => V.int (mz z)) ev_c (sq_of hp) (by rw [List.length_reverse]; exact hz) (fun _ => rfl) (fun i z H2 e2 _ =>
      ev_f (ea_cons (ev_var rfl) ea_nil) fun H3 e3 Q q E => ⟨z, rfl, q⟩)
    have e : W.reverse.map (fun z => V.int (mz z)) = zi (W.reverse.map mz) := by
      unfold zi
      rw [List.map_map]
      rfl
    rw [e] at q
    exact q
theorem zi_erase (l : List Int) (k : Nat) : (zi l).eraseIdx k = zi (l.eraseIdx k) := by
  induction l generalizing k with
  | nil => rfl
  | cons x l ih =>
    cases k with
    | zero => rfl
    | succ k => exact congrArg (V.int x :: ·) (ih k)
theorem zi_ins (l : List Int) (k : Nat) (z : Int) : (zi l).take k ++ [.int z] ++ (zi l).drop k = zi (l.take k ++ [z] ++ l.drop k) := by
  unfold zi
  simp only [List.map_append, List.map_take, List.map_drop]
  rfl
/-- how spoilt stands -/
def Sp1 (H : Hp) (K : PySem.W.Frag) (w ds : Addr) (e f0 : Nat) (n : Nat) (c : Prop) (σ' : L2.St) (H' : Hp) : Prop := ∃ (a1 a2 : Nat) (f3 : Int) (f : Addr) (L : List Int) (z : Int) (y : Option V), σ' = [some (.ref w), some (.int ((e : Nat) : Int)), some (.ref ds), some (.int ((f0 : Nat) : Int)), some (.int ((a1 : Nat) : Int)), some (.int ((a2 : Nat) : Int)), some (.int f3), some (.ref f), some (.int z), y] ∧ Ex H H' ∧ H f = none ∧ H' f = some (.lst (zi L)) ∧ L.length ≤ n ∧ (c ∨ (a1 < L.length ∧ a2 < L.length))
theorem pure__law_spoilt (K : PySem.W.Frag) (vs : List V) (H : Hp) (Q : VK) (E : XK) (h : sp__law_spoilt K vs H Q E) : t__law_spoilt K (sp__law_about K) { nx := fun _ H' => Q .non H', rt := Q } (start nm__law_spoilt vs) H := by
  obtain ⟨w, W, e, ds, f0, f1, f2, f3, rfl, hw, hz, hds, h1, h2, h3, k⟩ := h
  refine q_asgE ((ev_var (v := .ref ds) rfl) H (Ex.refl _) _ fun H1 e1 => names4 (ex_l e1 hds) ?_)
  refine q_asgL (el_list (ev_var rfl) (ex_l e1 hw)) fun f H2 hf0 e2 hf => ?_
  have hfH : H f = none := fresh_back e1 hf0
  refine q_asg (ev_sub (ev_mod (i := ((f3 : Nat) : Int)) (j := ((e : Nat) : Int) + 5) (ev_var rfl) (ev_add (ev_var rfl) ev_c) (by omega)) (ev_c (v := .int 2))) fun H3 e3 => ?_
  have x3 : Ex H H3 := e1.trans (e2.trans e3)
  refine q_tie (fun σ' H' => ∃ z : Int, σ' = [some (.ref w), some (.int ((e : Nat) : Int)), some (.ref ds), some (.int ((f0 : Nat) : Int)), some (.int ((f1 : Nat) : Int)), some (.int ((f2 : Nat) : Int)), some (.int ((f3 : Nat) : Int)), some (.ref f), some (.int z), none] ∧ Ex H H' ∧ H' f = some (.lst (zi W))) (fun σ' H' ⟨z, es, ex, hf⟩ => ?_) (fun rest => ?_)
  · subst es
    have lf : ∀ {L : List Int} {σ : L2.St} {H2 : Hp}, H2 f = some (.lst (zi L)) → σ[7]? = some (some (.ref f)) → Ev (tCB (rLenS K) (tCons (tVar 7) tNil)) σ H2 (.int (L.length : Int)) := fun {L σ H2} hh hσ => by
      have := ev_len (K := K) (σ := σ) (H := H2) (ta := tVar 7) (ev_var hσ) (sq_of hh)
      rw [zi_length] at this
      exact this
    refine q_tie (fun σ' H' => ∃ L : List Int, σ' = [some (.ref w), some (.int ((e : Nat) : Int)), some (.ref ds), some (.int ((f0 : Nat) : Int)), some (.int ((f1 : Nat) : Int)), some (.int ((f2 : Nat) : Int)), some (.int ((f3 : Nat) : Int)), some (.ref f), some (.int z), none] ∧ Ex H H' ∧ H' f = some (.lst (zi L)) ∧ L.length ≤ W.length + 1) (fun σ' H' ⟨L, es, ex, hf, hL⟩ => ?_) (fun rest => ?_)
    · subst es
      refine q_when (b := decide (((L.length : Nat) : Int) = 0)) (et_test (ev_eqI (lf hf rfl) ev_c)) (fun _ H4 e4 => s_ret (ev_var rfl) fun H5 e5 => k L hL f H5 hfH (ex.trans (e4.trans e5)) (e5 _ _ (e4 _ _ hf))) (fun hb H4 e4 => ?_)
      have lp : 0 < L.length := by have := of_decide_eq_false hb; omega
      have hf4 := e4 _ _ hf
      refine q_asg (v := .int ((f1 % L.length : Nat) : Int)) (ev_is (ev_mod (ev_var rfl) (lf hf4 rfl) (by omega)) (by rw [Int.natCast_emod])) fun H5 e5 => ?_
      refine q_asg (v := .int ((f2 % L.length : Nat) : Int)) (ev_is (ev_mod (ev_var rfl) (lf (e5 _ _ hf4) rfl) (by omega)) (by rw [Int.natCast_emod])) fun H6 e6 => ?_
      have m1 : f1 % L.length < L.length := Nat.mod_lt _ lp
      have m2 : f2 % L.length < L.length := Nat.mod_lt _ lp
      have st0 : Sp1 H K w ds e f0 (W.length + 1) False [some (.ref w), some (.int ((e : Nat) : Int)), some (.ref ds), some (.int ((f0 : Nat) : Int)), some (.int ((f1 % L.length : Nat) : Int)), some (.int ((f2 % L.length : Nat) : Int)), some (.int ((f3 : Nat) : Int)), some (.ref f), some (.int z), none] H6 :=
        ⟨_, _, _, f, L, z, none, rfl, ex.trans (e4.trans (e5.trans e6)), hfH, e6 _ _ (e5 _ _ hf4), hL, .inr ⟨m1, m2⟩⟩
      have isF : ∀ {n : Int} {a1 a2 : Nat} {f3 : Int} {f : Addr} {z : Int} {y : Option V} {H2 : Hp}, EvT (tTest (tOp rEq (tVar 3) (tC (.int n)))) [some (.ref w), some (.int ((e : Nat) : Int)), some (.ref ds), some (.int ((f0 : Nat) : Int)), some (.int ((a1 : Nat) : Int)), some (.int ((a2 : Nat) : Int)), some (.int f3), some (.ref f), some (.int z), y] H2 (decide (((f0 : Nat) : Int) = n)) := fun {n a1 a2 f3 f z y H2} => et_test (ev_eqI (ev_var rfl) ev_c)
      refine q_tie (Sp1 H K w ds e f0 (W.length + 1) False) (fun σ' H' ⟨a1, a2, f3, f, L, z, y, es, ex, hf0, hf, hL, hi⟩ => ?_) (fun rest => ?_)
      · subst es
        refine q_tie (Sp1 H K w ds e f0 (W.length + 1) (f0 = 3)) (fun σ' H' ⟨a1, a2, f3, f, L, z, y, es, ex, hf0, hf, hL, hi⟩ => ?_) (fun rest => ?_)
        · subst es
          refine q_tie (Sp1 H K w ds e f0 (W.length + 1) (f0 = 3)) (fun σ' H' ⟨a1, a2, f3, f, L, z, y, es, ex, hf0, hf, hL, hi⟩ => ?_) (fun rest => ?_)
          · subst es
            refine q_tie (Sp1 H K w ds e f0 (W.length + 1) (f0 = 3)) (fun σ' H' ⟨a1, a2, f3, f, L, z, y, es, ex, hf0, hf, hL, hi⟩ => ?_) (fun rest => ?_)
            · subst es
              refine q_tie (fun σ' H' => ∃ (f : Addr) (L : List Int) (y3 y4 y5 y6 y8 y9 : Option V), σ' = [some (.ref w), some (.int ((e : Nat) : Int)), some (.ref ds), y3, y4, y5, y6, some (.ref f), y8, y9] ∧ y3 = some (.int ((f0 : Nat) : Int)) ∧ Ex H H' ∧ H f = none ∧ H' f = some (.lst (zi L)) ∧ L.length ≤ W.length + 1) (fun σ' H' ⟨f, L, y3, y4, y5, y6, y8, y9, es, e3, ex, hf0, hf, hL⟩ => ?_) (fun rest => ?_)
              · subst es
                subst e3
                refine q_tie (fun σ' H' => ∃ (f : Addr) (L : List Int) (y3 y4 y5 y6 y8 y9 : Option V), σ' = [some (.ref w), some (.int ((e : Nat) : Int)), some (.ref ds), y3, y4, y5, y6, some (.ref f), y8, y9] ∧ Ex H H' ∧ H f = none ∧ H' f = some (.lst (zi L)) ∧ L.length ≤ W.length + 1) (fun σ' H' ⟨f, L, y3, y4, y5, y6, y8, y9, es, ex, hf0, hf, hL⟩ => ?_) (fun rest => ?_)
                · subst es
                  exact s_ret (ev_var rfl) fun H5 e5 => k L hL f H5 hf0 (ex.trans e5) (e5 _ _ hf)
                · refine q_when (et_test (ev_eqI (ev_var rfl) ev_c)) (fun _ H7 e7 => ?_) (fun _ H7 e7 => rest _ _ ⟨f, L, _, _, _, _, _, _, rfl, ex.trans e7, hf0, e7 _ _ hf, hL⟩)
                  refine s_asgL (el_f (ea_cons (ev_var rfl) ea_nil) fun H8 e8 Q q E => ⟨f, L, rfl, sq_of (e8 _ _ (e7 _ _ hf)), by omega, q⟩) fun p H8 hp0 e8 hp => ?_
                  exact rest _ _ ⟨p, _, _, _, _, _, _, _, rfl, ex.trans (e7.trans e8), fresh_back (ex.trans e7) hp0, hp, by rw [List.length_map, List.length_reverse]; exact hL⟩
              · refine q_when isF (fun _ H7 e7 => ?_) (fun _ H7 e7 => rest _ _ ⟨f, L, _, _, _, _, _, _, rfl, rfl, ex.trans e7, hf0, e7 _ _ hf, hL⟩)
                have hs := sq_of (K := K) (e7 _ _ hf)
                have f6 : f0 = 6 := by have := of_decide_eq_true ‹decide (((f0 : Nat) : Int) = 6) = true›; omega
                obtain ⟨i1, i2⟩ := hi.resolve_left (by omega)
                have cc := el_cat (el_sl (σ := [some (.ref w), some (.int ((e : Nat) : Int)), some (.ref ds), some (.int ((f0 : Nat) : Int)), some (.int ((a1 : Nat) : Int)), some (.int ((a2 : Nat) : Int)), some (.int f3), some (.ref f), some (.int z), y]) (te := tVar 7) (ev_var rfl) (eo_some (te := tVar 4) (ev_var rfl)) eo_none hs) (el_sl (te := tVar 7) (ev_var rfl) eo_none (eo_some (te := tVar 4) (ev_var rfl)) hs) (by have := cutV_length (zi L) (some ((a1 : Nat) : Int)) none; have := cutV_length (zi L) none (some ((a1 : Nat) : Int)); rw [zi_length] at *; omega)
                rw [cutV_from (by rw [zi_length]; omega), cutV_to (by rw [zi_length]; omega), show (zi L).drop a1 ++ (zi L).take a1 = zi (L.drop a1 ++ L.take a1) from by unfold zi; rw [List.map_append, List.map_drop, List.map_take]] at cc
                refine s_asgL cc fun p H8 hp0 e8 hp => ?_
                exact rest _ _ ⟨p, _, _, _, _, _, _, _, rfl, rfl, ex.trans (e7.trans e8), fresh_back (ex.trans e7) hp0, hp, by rw [List.length_append, List.length_drop, List.length_take]; omega⟩
            · refine q_when isF (fun hb7 H7 e7 => ?_) (fun _ H7 e7 => rest _ _ ⟨a1, a2, f3, f, L, z, y, rfl, ex.trans e7, hf0, e7 _ _ hf, hL, hi⟩)
              have rv := el_rev (K := K) (σ := [some (.ref w), some (.int ((e : Nat) : Int)), some (.ref ds), some (.int ((f0 : Nat) : Int)), some (.int ((a1 : Nat) : Int)), some (.int ((a2 : Nat) : Int)), some (.int f3), some (.ref f), some (.int z), y]) (ta := tVar 7) (ev_var rfl) (sq_of (e7 _ _ hf))
              rw [show (zi L).reverse = zi L.reverse from by unfold zi; rw [List.map_reverse]] at rv
              refine s_asgL rv fun p H8 hp0 e8 hp => ?_
              exact rest _ _ ⟨a1, a2, f3, p, L.reverse, z, y, rfl, ex.trans (e7.trans e8), fresh_back (ex.trans e7) hp0, hp, by rw [List.length_reverse]; exact hL, by rw [List.length_reverse]; exact hi⟩
          · refine q_when isF (fun hb7 H7 e7 => ?_) (fun _ H7 e7 => rest _ _ ⟨a1, a2, f3, f, L, z, y, rfl, ex.trans e7, hf0, e7 _ _ hf, hL, hi⟩)
            have f4 : f0 = 4 := by have := of_decide_eq_true hb7; omega
            obtain ⟨i1, i2⟩ := hi.resolve_left (by omega)
            have hf7 := e7 _ _ hf
            refine q_asg (ev_ixL (ev_var rfl) (ev_var rfl) (sq_of hf7) (zi_get (List.getElem?_eq_getElem i1))) fun H8 e8 => ?_
            refine q_setL (j := a1) (e8 _ _ hf7) (ev_ixL (ev_var rfl) (ev_var rfl) (sq_of (e8 _ _ hf7)) (zi_get (List.getElem?_eq_getElem i2))) (ev_var rfl) (ev_var rfl) (by rw [zi_length]; exact i1) fun H9 e9 => ?_
            rw [zi_set]
            refine s_setL (j := a2) upd_same (ev_var (v := .int L[a1]) rfl) (ev_var rfl) (ev_var rfl) (by rw [zi_length, List.length_set]; exact i2) fun H10 e10 => ?_
            rw [zi_set]
            exact rest _ _ ⟨a1, a2, f3, f, _, z, _, rfl, Ex.mut ((Ex.mut (ex.trans (e7.trans (e8.trans e9))) hf0).trans e10) hf0, hf0, upd_same, by rw [List.length_set, List.length_set]; exact hL, .inr (by rw [List.length_set, List.length_set]; exact ⟨i1, i2⟩)⟩
        · obtain ⟨i1, i2⟩ := hi.resolve_left id
          refine q_when isF (fun hb7 H7 e7 => ?_) (fun _ H7 e7 => rest _ _ ⟨a1, a2, f3, f, L, z, y, rfl, ex.trans e7, hf0, e7 _ _ hf, hL, .inr ⟨i1, i2⟩⟩)
          have f3' : f0 = 3 := by have := of_decide_eq_true hb7; omega
          refine s_popAt (e7 _ _ hf) (ev_var rfl) (ev_var rfl) (zi_get (List.getElem?_eq_getElem i1)) (by rw [zi_length]; omega) fun H8 e8 => ?_
          rw [zi_erase]
          exact rest _ _ ⟨a1, a2, f3, f, L.eraseIdx a1, z, y, rfl, Ex.mut (ex.trans (e7.trans e8)) hf0, hf0, upd_same, by rw [List.length_eraseIdx]; split <;> omega, .inl f3'⟩
      · refine q_when isF (fun hb7 H7 e7 => ?_) (fun _ H7 e7 => rest _ _ ⟨_, _, _, f, L, z, none, rfl, ex.trans (e4.trans (e5.trans (e6.trans e7))), hfH, e7 _ _ (e6 _ _ (e5 _ _ hf4)), hL, .inr ⟨m1, m2⟩⟩)
        refine s_setL (j := f1 % L.length) (e7 _ _ (e6 _ _ (e5 _ _ hf4))) (ev_var (v := .int z) rfl) (ev_var rfl) (ev_var rfl) (by rw [zi_length]; exact m1) fun H8 e8 => ?_
        rw [zi_set]
        exact rest _ _ ⟨_, _, _, f, _, z, none, rfl, Ex.mut (ex.trans (e4.trans (e5.trans (e6.trans (e7.trans e8))))) hfH, hfH, upd_same, by rw [List.length_set]; exact hL, .inr (by rw [List.length_set]; exact ⟨m1, m2⟩)⟩
    · refine q_when (b := decide (((f0 : Nat) : Int) = 1)) (et_test (ev_eqI (ev_var rfl) ev_c)) (fun _ H4 e4 => ?_) (fun _ H4 e4 => rest _ _ ⟨W, rfl, ex.trans e4, e4 _ _ hf, by omega⟩)
      have hf4 := e4 _ _ hf
      have hidx : Ev (tOp rModP (tVar 4) (tOp rPlus (tCB (rLenS K) (tCons (tVar 7) tNil)) (tC (.int 1)))) [some (.ref w), some (.int ((e : Nat) : Int)), some (.ref ds), some (.int ((f0 : Nat) : Int)), some (.int ((f1 : Nat) : Int)), some (.int ((f2 : Nat) : Int)), some (.int ((f3 : Nat) : Int)), some (.ref f), some (.int z), none] H4 (.int ((f1 % (W.length + 1) : Nat) : Int)) := by
        refine ev_is (ev_mod (ev_var rfl) (ev_add (lf hf4 rfl) ev_c) (by omega)) ?_
        rw [show ((f1 % (W.length + 1) : Nat) : Int) = ((f1 : Nat) : Int) % (((W.length : Nat) : Int) + 1) from by rw [Int.natCast_emod]; rfl]
      have hm : f1 % (W.length + 1) < W.length + 1 := Nat.mod_lt _ (by omega)
      refine s_ins hf4 (ev_var rfl) hidx (ev_var (v := .int z) rfl) (by omega) (by rw [zi_length]; omega) fun H5 e5 => ?_
      rw [zi_ins]
      refine rest _ _ ⟨_, rfl, Ex.mut (ex.trans (e4.trans e5)) hfH, upd_same, ?_⟩
      simp only [List.length_append, List.length_take, List.length_drop, List.length_singleton]
      omega
  · have hf3 := e3 _ _ hf
    refine q_when (b := decide ((52 : Int) < ((f3 : Nat) : Int))) (et_test (ev_gt (ev_var rfl) ev_c)) (fun _ H4 e4 => ?_) (fun _ H4 e4 => rest _ _ ⟨_, rfl, x3.trans e4, e4 _ _ hf3⟩)
    have b2 := Int.emod_nonneg ((f3 : Nat) : Int) (b := 2) (by omega)
    have b3 := Int.emod_lt_of_pos ((f3 : Nat) : Int) (b := 2) (by omega)
    refine s_asg (ev_mul (i := (10 : Int) ^ (59 : Int).toNat + ((f3 : Nat) : Int)) (j := 1 - 2 * (((f3 : Nat) : Int) % 2)) (ev_add (ev_pow (i := 10) (j := 59) ev_c ev_c ⟨by omega, by omega, by decide⟩) (ev_var rfl)) (ev_sub (ev_c (v := .int 1)) (ev_mul (i := 2) (j := ((f3 : Nat) : Int) % 2) ev_c (ev_mod (ev_var rfl) ev_c (by omega)) (.inl (by omega)))) (.inr (by omega))) fun H5 e5 => ?_
    exact rest _ _ ⟨_, rfl, x3.trans (e4.trans e5), e5 _ _ (e4 _ _ hf3)⟩
end RF

set_option Elab.async false
set_option linter.all false
set_option maxRecDepth 100000
set_option maxHeartbeats 4000000
namespace RF
open PySem PySem.Spec PyProof.Rows L2 Evl
/-! ## home -/
/-- the ends by which places were come to: the mates of the tree's -/
def cmz (z : Int) : Int := if z < 0 then z else mz z
def cm (T : List (Nat × Int)) : List (Nat × Int) := T.map fun q => (q.1, cmz q.2)
theorem cm_keys (T : List (Nat × Int)) : (cm T).map (·.1) = T.map (·.1) := by
  unfold cm
  rw [List.map_map]
  rfl
theorem cm_look : ∀ (T : List (Nat × Int)) (p : Nat), (cm T).lookup p = (T.lookup p).map cmz
  | [], p => rfl
  | (a, z) :: T, p => by
    show (match p == a with | true => some (cmz z) | false => (cm T).lookup p) = (match p == a with | true => some z | false => T.lookup p).map cmz
    cases e : (p == a) with
    | true => rfl
    | false => exact cm_look T p
theorem cmz_mate (e : Nat) : cmz ((mate e : Nat) : Int) = ((e : Nat) : Int) := by
  unfold cmz
  rw [if_neg (by omega), mz_nat, mate_mate]
theorem cm_snoc (T : List (Nat × Int)) (p e : Nat) : cm (T ++ [(p, ((mate e : Nat) : Int))]) = cm T ++ [(p, ((e : Nat) : Int))] := by
  unfold cm
  rw [List.map_append]
  show _ ++ [(p, cmz ((mate e : Nat) : Int))] = _
  rw [cmz_mate]
theorem cm_none {T : List (Nat × Int)} {p : Nat} : (cm T).lookup p = none ↔ T.lookup p = none := by
  rw [cm_look]
  cases T.lookup p <;> simp
def sp__law_home (K : PySem.W.Frag) : Sp := fun vs H Q _ => ∃ (d s : Addr) (D : Dw) (m st gl : Nat), vs = [.ref d, .ref s, .int ((st : Nat) : Int), .int ((gl : Nat) : Int)] ∧ Dr H d D m ∧ H s = some (.dK (dT (insT D))) ∧ st < D.length ∧
  (∀ C : Nat → Prop, (∀ x, x < 2 * m → (C (seat D x) ↔ C (seat D (mate x)))) → C st → C gl) ∧ ∀ l : List Nat, l.length ≤ D.length → RetL (ni l) H Q
theorem pure__law_home (K : PySem.W.Frag) (vs : List V) (H : Hp) (Q : VK) (E : XK) (h : sp__law_home K vs H Q E) : t__law_home K (sp__law_mate K) { nx := fun _ H' => Q .non H', rt := Q } (start nm__law_home vs) H := by
  obtain ⟨d, s, D, m, root, gl, rfl, dr, hs, hroot, conn, k⟩ := h
  have hm := dr.most
  have hD := dr.len
  have ok := dr.ok
  refine q_asgD (ed_disp (ev_var rfl) (ev_neg ev_c)) fun nr H2 hn0 e2 hn => ?_
  refine q_asgL (el_lst (ea_cons (ev_var rfl) ea_nil) (by show 1 ≤ 100000; omega)) fun w H3 hw0 e3 hw => ?_
  refine q_asg ev_c fun H4 e4 => ?_
  have nwn : w ≠ nr := fun z => by rw [z, hn] at hw0; cases hw0
  have hw1 : H w = none := fresh_back e2 hw0
  have ex0 : Ex H H4 := e2.trans (e3.trans e4)
  refine q_while (fun n σ' H' => ∃ i T y7 y8, σ' = [some (.ref d), some (.ref s), some (.int ((root : Nat) : Int)), some (.int ((gl : Nat) : Int)), some (.ref nr), some (.ref w), some (.int ((i : Nat) : Int)), y7, y8, none] ∧ Ex H H' ∧ H' nr = some (.dK (dT (cm T))) ∧ H' w = some (.lst (ni (T.map (·.1)))) ∧ Tree D m root T ∧ (∀ j q, j < i → T[j]? = some q → Clo D T q.1) ∧ i ≤ T.length ∧ n = D.length - i)
    D.length ⟨0, [(root, -1)], none, none, rfl, ex0, (by rw [show cm [(root, -1)] = [(root, -1)] from by simp [cm, cmz]]; exact e4 _ _ (e3 _ _ hn)), e4 _ _ hw, Tree.start hroot, fun j q hj => by omega, Nat.zero_le _, rfl⟩ ?_
  rintro n σ' H' ⟨i, T, y7, y8, rfl, ex, gn, gw, tr, clo, hi, rfl⟩
  have tl := tr.key_lt
  have le := ev_len (K := K) (σ := [some (.ref d), some (.ref s), some (.int ((root : Nat) : Int)), some (.int ((gl : Nat) : Int)), some (.ref nr), some (.ref w), some (.int ((i : Nat) : Int)), y7, y8, none]) (ta := tVar 5) (ev_var rfl) (sq_of gw)
  rw [ni_length, List.length_map] at le
  refine ⟨_, et_and (a := !(valV (dT (cm T)) (.inl ((gl : Nat) : Int))).isSome) (et_B (ev_dnin (ev_var rfl) (ev_var rfl) (.inl gn))) fun _ => et_test (ev_lt (ev_var rfl) le), fun hb H5 e5 => ?_, fun hb H5 e5 => ?_⟩
  · rw [Bool.and_eq_true] at hb
    have hi2 : i < T.length := by have := of_decide_eq_true hb.2; omega
    obtain ⟨⟨p, z⟩, hTi⟩ : ∃ q, T[i]? = some q := ⟨_, List.getElem?_eq_getElem hi2⟩
    have hp : p < D.length := tr.lt _ (List.mem_of_getElem? hTi)
    obtain ⟨r, hr⟩ : ∃ r, D[p]? = some r := ⟨_, List.getElem?_eq_getElem hp⟩
    obtain ⟨xs, a, hx1, _, hx2, hx3⟩ := dr.rows.at hr
    have hwi : (ni (T.map (·.1)))[i]? = some (.int ((p : Nat) : Int)) := ni_get (by rw [List.getElem?_map, hTi]; rfl)
    refine ⟨fun σ' H' => ∃ T y7 y8, σ' = [some (.ref d), some (.ref s), some (.int ((root : Nat) : Int)), some (.int ((gl : Nat) : Int)), some (.ref nr), some (.ref w), some (.int (((i + 1 : Nat)) : Int)), y7, y8, none] ∧ Ex H H' ∧ H' nr = some (.dK (dT (cm T))) ∧ H' w = some (.lst (ni (T.map (·.1)))) ∧ Tree D m root T ∧ (∀ j q, j < i + 1 → T[j]? = some q → Clo D T q.1) ∧ i + 1 ≤ T.length,
      fun σ2 H6 ⟨T, y6, y7, h1, h2, h3, h4, h5, h6, h7⟩ => ⟨D.length - (i + 1), by omega, i + 1, T, y6, y7, h1, h2, h3, h4, h5, h6, h7, rfl⟩, ?_⟩
    refine q_forN (K := K) (l := r) (ev_ixL (k := p) (ev_var rfl) (ev_ixL (ev_var rfl) (ev_var rfl) (sq_of (e5 _ _ gw)) hwi) (sq_of (e5 _ _ (ex _ _ hx1))) hx2) (sq_of hx3)
      (fun j σ' H' => ∃ T' y7 y8, σ' = [some (.ref d), some (.ref s), some (.int ((root : Nat) : Int)), some (.int ((gl : Nat) : Int)), some (.ref nr), some (.ref w), some (.int ((i : Nat) : Int)), y7, y8, none] ∧ Ex H H' ∧ H' nr = some (.dK (dT (cm T'))) ∧ H' w = some (.lst (ni (T'.map (·.1)))) ∧ Tree D m root T' ∧ (∃ X, T' = T ++ X) ∧ ∀ e ∈ r.take j, seat D (mate e) ∈ T'.map (·.1))
      (fun H6 e6 => ⟨T, y7, y8, rfl, ex.trans (e5.trans e6), e6 _ _ (e5 _ _ gn), e6 _ _ (e5 _ _ gw), tr, ⟨[], by simp⟩, fun e he => by simp at he⟩) (fun j σ' H' ⟨_, _, _, _, e, _⟩ => e) (fun j e σ' H' he ⟨T', y7, y8, es, ex', gn', gw', tr', ⟨X, eX⟩, hk⟩ => ?_) (fun σ' H' ⟨T', y7, y8, es, ex', gn', gw', tr', ⟨X, eX⟩, hk⟩ => ?_)
    · subst es
      have her : e ∈ r := List.mem_of_getElem? he
      have he2 := ok.row_lt hr her
      have hse := ok.seat_of hr her
      have tl' := tr'.key_lt
      refine q_asg (ev_dget (ev_var rfl) (ev_lmate (ev_var rfl)) (.inl (ex' _ _ hs)) (seatT_get ok (mate_lt he2))) fun H7 e7 => ?_
      have tk : ∀ x ∈ r.take (j + 1), x ∈ r.take j ∨ x = e := fun x hx => take_succ_mem he hx
      refine s_if (b := !(valV (dT (cm T')) (.inl ((seat D (mate e) : Nat) : Int))).isSome) (et_B (ev_dnin (ev_var rfl) (ev_var rfl) (.inl (e7 _ _ gn')))) (fun hb2 H8 e8 => ?_) (fun hb2 H8 e8 => ?_)
      · rw [valV_dT] at hb2
        have hl0 : (cm T').lookup (seat D (mate e)) = none := by
          cases q : (cm T').lookup (seat D (mate e)) with
          | none => rfl
          | some v => rw [q] at hb2; simp at hb2
        have hl := cm_none.mp hl0
        have new := look_none.mp hl
        refine q_dput (v := .int ((e : Nat) : Int)) (ev_var rfl) (ev_var rfl) (ev_var rfl) (e8 _ _ (e7 _ _ gn')) (by rw [dT_length]; unfold cm; rw [List.length_map]; omega) fun H9 e9 => ?_
        rw [dT_put hl0, ← cm_snoc]
        have x9 := Ex.mut (o := HO.dK (dT (cm (T' ++ [(seat D (mate e), ((mate e : Nat) : Int))])))) ((ex'.trans e7).trans (e8.trans e9)) hn0
        have w9 : (upd H9 nr (.dK (dT (cm (T' ++ [(seat D (mate e), ((mate e : Nat) : Int))]))))) w = some (.lst (ni (T'.map (·.1)))) := by
          rw [upd_ne nwn]
          exact e9 _ _ (e8 _ _ (e7 _ _ gw'))
        refine s_app w9 (ev_var rfl) (ev_var (v := .int ((seat D (mate e) : Nat) : Int)) rfl) (by rw [ni_length, List.length_map]; omega) fun H10 e10 => ?_
        refine ⟨T' ++ [(seat D (mate e), ((mate e : Nat) : Int))], _, _, rfl, Ex.mut (x9.trans e10) hw1, ?_, ?_, tr'.snoc (mate_lt he2) new ?_ (ok.seat_lt (mate_lt he2)), ⟨X ++ [(seat D (mate e), ((mate e : Nat) : Int))], by rw [eX]; simp⟩, fun x hx => ?_⟩
        · rw [upd_ne nwn.symm]
          exact e10 _ _ upd_same
        · rw [upd_same, List.map_append, ni_append]
          rfl
        · rw [mate_mate, hse, eX]
          exact key_of (i := i) (z := z) (by rw [List.getElem?_append_left hi2]; exact hTi)
        · rw [List.map_append]
          rcases tk x hx with q | q
          · exact List.mem_append_left _ (hk x q)
          · rw [q]
            exact List.mem_append_right _ (by simp)
      · rw [valV_dT] at hb2
        have hl : T'.lookup (seat D (mate e)) ≠ none := fun q => by rw [cm_none.mpr q] at hb2; simp at hb2
        refine ⟨T', _, _, rfl, ex'.trans (e7.trans e8), e8 _ _ (e7 _ _ gn'), e8 _ _ (e7 _ _ gw'), tr', ⟨X, eX⟩, fun x hx => ?_⟩
        rcases tk x hx with q | q
        · exact hk x q
        · rw [q]
          exact Classical.not_not.mp fun w => hl (look_none.mpr w)
    · subst es
      rw [List.take_length] at hk
      refine s_asg (ev_add (i := ((i : Nat) : Int)) (j := 1) (ev_var rfl) ev_c) fun H7 e7 => ?_
      refine ⟨T', y7, y8, ?_, ex'.trans e7, e7 _ _ gn', e7 _ _ gw', tr', fun j q hj hq => ?_, ?_⟩
      · rw [show (((i + 1 : Nat)) : Int) = (i : Int) + 1 by omega]
        rfl
      · have hjT : T[j]? = some q := by
          rw [eX, List.getElem?_append_left (by omega)] at hq
          exact hq
        by_cases hji : j < i
        · intro r' hr' e he
          have := clo j q hji hjT r' hr' e he
          rw [eX, List.map_append]
          exact List.mem_append_left _ this
        · have ej : j = i := by omega
          rw [ej, hTi] at hjT
          rw [← Option.some.inj hjT]
          intro r' hr' e he
          have hr2 : D[p]? = some r' := hr'
          rw [hr] at hr2
          rw [← Option.some.inj hr2] at he
          exact hk e he
      · rw [eX, List.length_append]
        omega
  · have hgl : gl ∈ T.map (·.1) := by
      refine Classical.byContradiction fun no => ?_
      have l1 : T.lookup gl = none := look_none.mpr no
      rw [valV_dT, cm_none.mpr l1] at hb
      have hi2 : i = T.length := by
        have : decide (((i : Nat) : Int) < ((T.length : Nat) : Int)) = false := by simpa using hb
        have := of_decide_eq_false this
        omega
      have step : ∀ x, x < 2 * m → seat D x ∈ T.map (·.1) → seat D (mate x) ∈ T.map (·.1) := fun x hx hk => by
        obtain ⟨q, hq, eq⟩ := List.mem_map.mp hk
        obtain ⟨j, hj⟩ := List.mem_iff_getElem?.mp hq
        obtain ⟨r, h1, h2⟩ := ok.row hx
        exact clo j q (by rw [hi2]; exact (List.getElem?_eq_some_iff.mp hj).1) hj r (by rw [eq]; exact h1) x h2
      refine no (conn (fun p => p ∈ T.map (·.1)) (fun x hx => ⟨step x hx, fun z => ?_⟩) (key_of tr.head))
      have := step (mate x) (mate_lt hx) z
      rwa [mate_mate] at this
    obtain ⟨i0, z0, hi0⟩ := key_get hgl
    have i0l := (List.getElem?_eq_some_iff.mp hi0).1
    refine q_asgL (el_lst ea_nil (by show 0 ≤ 100000; omega)) fun y H6 hy0 e6 hy => ?_
    have gn6 := e6 _ _ (e5 _ _ gn)
    have x6 : Ex H H6 := ex.trans (e5.trans e6)
    have hyH : H y = none := fresh_back (ex.trans e5) hy0
    refine q_while (fun n σ' H' => ∃ p z l, σ' = [some (.ref d), some (.ref s), some (.int ((root : Nat) : Int)), some (.int ((p : Nat) : Int)), some (.ref nr), some (.ref w), some (.int ((i : Nat) : Int)), y7, y8, some (.ref y)] ∧ Ex H H' ∧ H' nr = some (.dK (dT (cm T))) ∧ H' y = some (.lst (ni l)) ∧ T[n]? = some (p, z) ∧ l.length + n ≤ i0)
      i0 ⟨gl, z0, [], rfl, x6, gn6, hy, hi0, by show 0 + i0 ≤ i0; omega⟩ ?_
    rintro n σ' H7 ⟨p, z, l, rfl, x7, gn7, hy7, hTn, hl7⟩
    have nyn : y ≠ nr := fun w => by rw [w, e5 _ _ gn] at hy0; cases hy0
    refine ⟨_, et_test (ev_neI (ev_var rfl) (ev_var rfl)), fun hb H8 e8 => ?_, fun hb H8 e8 => ?_⟩
    · have pne : p ≠ root := fun w => by rw [w] at hb; simp at hb
      obtain ⟨n', rfl⟩ : ∃ n', n = n' + 1 := by
        cases n with
        | zero =>
          rw [tr.head] at hTn
          exact absurd (congrArg Prod.fst (Option.some.inj hTn)).symm pne
        | succ n' => exact ⟨n', rfl⟩
      obtain ⟨t, rfl, ht, hst, j, z', hj, hTj⟩ := tr.par n' p z hTn
      have lk : (cm T).lookup p = some ((mate t : Nat) : Int) := by
        rw [cm_look, look_at tr.nd hTn]
        show some (cmz ((t : Nat) : Int)) = _
        have := cmz_mate (mate t)
        rw [mate_mate] at this
        rw [this]
      have cg : ∀ {H' : Hp} {σ : L2.St}, H' nr = some (.dK (dT (cm T))) → σ[4]? = some (some (.ref nr)) → σ[3]? = some (some (.int ((p : Nat) : Int))) → Ev (tDGet (tVar 4) (tVar 3)) σ H' (.int ((mate t : Nat) : Int)) := fun {H' σ} hh h4 h3 => ev_dget (ev_var h4) (ev_var h3) (.inl hh) (by rw [valV_dT, lk]; rfl)
      refine ⟨fun σ' H' => ∃ p z l, σ' = [some (.ref d), some (.ref s), some (.int ((root : Nat) : Int)), some (.int ((p : Nat) : Int)), some (.ref nr), some (.ref w), some (.int ((i : Nat) : Int)), y7, y8, some (.ref y)] ∧ Ex H H' ∧ H' nr = some (.dK (dT (cm T))) ∧ H' y = some (.lst (ni l)) ∧ T[j]? = some (p, z) ∧ l.length + j ≤ i0, fun σ2 H9 w => ⟨j, by omega, w⟩, ?_⟩
      refine q_ins (k := 0) (e8 _ _ hy7) (ev_var rfl) ev_c (cg (e8 _ _ gn7) rfl rfl) (by omega) (by rw [ni_length]; omega) fun H9 e9 => ?_
      have x9 := Ex.mut (o := HO.lst ((ni l).take 0 ++ [V.int ((mate t : Nat) : Int)] ++ (ni l).drop 0)) (x7.trans (e8.trans e9)) hyH
      have g9 : (upd H9 y (.lst ((ni l).take 0 ++ [V.int ((mate t : Nat) : Int)] ++ (ni l).drop 0))) nr = some (.dK (dT (cm T))) := by rw [upd_ne nyn.symm]; exact e9 _ _ (e8 _ _ gn7)
      refine s_asg (ev_dget (ev_var rfl) (cg g9 rfl rfl) (.inl (x9 _ _ hs)) (seatT_get ok (mate_lt ht))) fun H10 e10 => ?_
      refine ⟨seat D (mate t), z', mate t :: l, rfl, x9.trans e10, e10 _ _ g9, ?_, hTj, by rw [List.length_cons]; omega⟩
      exact e10 _ _ upd_same
    · exact s_ret (ev_var rfl) fun H9 e9 => k l (by omega) y H9 hyH (x7.trans (e8.trans e9)) (e9 _ _ (e8 _ _ hy7))
/-! ## walk -/
theorem s_retCatCall {sp : Sp} {E : XK} {ta : TA} {tb : TE} {σ : L2.St} {H : Hp} {vs xs : List V} {D : Ends} {p : Addr} (hb : Ev tb σ H (.ref p)) (hp : H p = some (.lst xs)) (ha : EvA ta σ H vs) (k : ∀ H1, Ex H H1 → H1 p = some (.lst xs) → sp vs H1 (fun y H2 => rCat (.ref p) y H2 D.rt) E) : tRet (tOp rCat tb (tCall sp [] E ta)) D σ H := by
  show tb σ H fun x H1 => ta σ H1 fun zs H2 => sp (zs ++ []) H2 (fun y H3 => rCat x y H3 D.rt) E
  refine hb H (Ex.refl H) _ fun H1 e1 => ?_
  refine ha H1 e1 _ fun H2 e2 => ?_
  rw [List.append_nil]
  exact k H2 (e1.trans e2) (e2 _ _ (e1 _ _ hp))
theorem pure__law_walk (K : PySem.W.Frag) (vs : List V) (H : Hp) (Q : VK) (E : XK) (h : sp__law_walk K vs H Q E) : t__law_walk K (sp__law_draws K) (sp__law_mate K) (sp__law_seats K) (sp__law_home K) { nx := fun _ H' => Q .non H', rt := Q } (start nm__law_walk vs) H := by
  obtain ⟨d, D, m, c, rfl, dr, k⟩ := h
  have hm := dr.most
  have hD := dr.len
  have ok := dr.ok
  refine q_asgD (ed_seats (ev_var rfl) dr) fun s H1 hs0 e1 hs => ?_
  have ls : ∀ {σ : L2.St} {H' : Hp}, σ[3]? = some (some (.ref s)) → Ex H1 H' → Ev (tCB rLenDK (tCons (tVar 3) tNil)) σ H' (.int ((2 * m : Nat) : Int)) := fun {σ H'} hσ e => by
    have := ev_lenD (σ := σ) (H := H') (td := tVar 3) (ev_var hσ) (e _ _ hs)
    rw [insT_length ok] at this
    exact this
  refine q_when (b := decide (((2 * m : Nat) : Int) = 0)) (et_test (ev_eqI (ls rfl (Ex.refl _)) ev_c)) (fun _ H2 e2 => s_retL (el_lst ea_nil (by show 0 ≤ 100000; omega)) fun p H3 hp e3 h3 => k [] (Nat.zero_le _) p H3 (fresh_back (e1.trans e2) hp) (e1.trans (e2.trans e3)) h3) (fun hb H2 e2 => ?_)
  have pos : 0 < 2 * m := by have := of_decide_eq_false hb; omega
  have sz : EvL (tOp rCat (tLst (tCons (tOp rPlus (tVar 2) (tC (.int 1))) (tCons (tCB rLenDK (tCons (tVar 3) tNil)) tNil))) (tOp rRep (tLst (tCons (tC (.int 60)) tNil)) (tVar 2))) [some (.ref d), some (.int c), some (.int 12), some (.ref s), none, none, none, none, none] H2 (ni ([13, 2 * m] ++ List.replicate 12 60)) := by
    have := el_cat (xs := ni [13, 2 * m]) (ys := List.replicate 12 (V.int 60)) (el_lst (ea_cons (ev_add (i := 12) (j := 1) (ev_var (σ := [some (.ref d), some (.int c), some (.int 12), some (.ref s), none, none, none, none, none]) (H := H2) (i := 2) rfl) ev_c) (ea_cons (ls rfl e2) ea_nil)) (by show 2 ≤ 100000; omega)) (el_rep1 (k := 12) (v := .int 60) ev_c (ev_var (i := 2) rfl) (by omega)) (by rw [List.length_replicate]; show 2 + 12 ≤ 100000; omega)
    rw [ni_append]
    exact this
  refine q_asgE (draws_any (any_of (ev_var rfl)) sz (by rw [List.length_append, List.length_replicate]; show 2 + 12 ≤ 10000; omega) (fun z hz => by
    rcases List.mem_append.mp hz with q | q
    · rcases List.mem_cons.mp q with q | q
      · rw [q]; omega
      · rw [List.mem_singleton.mp q]; omega
    · rw [List.eq_of_mem_replicate q]; omega) fun F p0 H3 hu hp0 e3 hF => ?_)
  obtain ⟨n0, hn0, ln0⟩ := under_get hu (i := 0) (s := 13) rfl
  obtain ⟨e0, he0, le0⟩ := under_get hu (i := 1) (s := 2 * m) rfl
  have more : ∀ i, i < 12 → ∃ f, F[i + 2]? = some f := fun i hi => by
    obtain ⟨f, hf, _⟩ := under_get hu (i := i + 2) (s := 60) (by
      show (List.replicate 12 60)[i]? = some 60
      rw [List.getElem?_replicate, if_pos hi])
    exact ⟨f, hf⟩
  have x3 : Ex H H3 := e1.trans (e2.trans e3)
  show tSeq _ _ _ [some (.ref d), some (.int c), some (.int 12), some (.ref s), some (.ref p0), none, none, none, none] H3
  refine q_asgL (el_lst ea_nil (by show 0 ≤ 100000; omega)) fun w H4 hw0 e4 hw => ?_
  have hw3 : H3 w = none := hw0
  refine q_asg (ev_ixL (k := 1) (ev_var rfl) ev_c (sq_of (e4 _ _ hF)) (ni_get he0)) fun H5 e5 => ?_
  refine q_forR (k := n0) (ev_ixL (k := 0) (ev_var rfl) ev_c (sq_of (e5 _ _ (e4 _ _ hF))) (ni_get hn0)) (by omega) (fun i σ' H' => ∃ W e y7 y8, σ' = [some (.ref d), some (.int c), some (.int 12), some (.ref s), some (.ref p0), some (.ref w), some (.int ((e : Nat) : Int)), y7, y8] ∧ Ex H3 H' ∧ H' w = some (.lst (ni W)) ∧ W.length = i ∧ e < 2 * m ∧ Same D m e0 e ∧ ∀ x ∈ W, x < 2 * m ∧ Same D m e0 x)
    (fun H6 e6 => ⟨[], e0, none, none, rfl, e4.trans (e5.trans e6), e6 _ _ (e5 _ _ hw), rfl, le0, Same.refl _, fun x hx => by cases hx⟩) (fun i σ' H' hi ⟨W, e, y7, y8, es, ex, hw, hW, he, sm, al⟩ => ?_) (fun σ' H' ⟨W, e, y7, y8, es, ex, hw, hW, he, sm, al⟩ => ?_)
  · subst es
    refine q_app hw (ev_var rfl) (ev_var (v := .int ((e : Nat) : Int)) rfl) (by rw [ni_length, hW]; omega) fun H6 e6 => ?_
    rw [ni_put]
    have x6 := Ex.mut (o := HO.lst (ni (W ++ [e]))) (ex.trans e6) hw3
    obtain ⟨r, hr, hmr⟩ := ok.row (mate_lt he)
    obtain ⟨xs, a, hx1, _, hx2, hx3⟩ := dr.rows.at hr
    have x36 := x3.trans x6
    refine q_asg (ev_ixL (k := seat D (mate e)) (ev_var rfl) (ev_dget (ev_var rfl) (ev_lmate (ev_var rfl)) (.inl ((e2.trans e3).trans x6 _ _ hs)) (seatT_get ok (mate_lt he))) (sq_of (x36 _ _ hx1)) hx2) fun H7 e7 => ?_
    obtain ⟨f, hf⟩ := more i (by omega)
    have rpos : 0 < r.length := List.length_pos_of_mem hmr
    have lr := ev_len (K := K) (σ := [some (.ref d), some (.int c), some (.int 12), some (.ref s), some (.ref p0), some (.ref w), some (.int ((e : Nat) : Int)), some (.int ((i : Nat) : Int)), some (.ref a)]) (H := H7) (ta := tVar 8) (ev_var rfl) (sq_of (e7 _ _ (x36 _ _ hx3)))
    rw [ni_length] at lr
    obtain ⟨e', he'⟩ : ∃ e', r[f % r.length]? = some e' := ⟨_, List.getElem?_eq_getElem (Nat.mod_lt _ rpos)⟩
    have hidx : Ev (tOp rModP (tOp (rIxL K) (tVar 4) (tOp rPlus (tVar 7) (tC (.int 2)))) (tCB (rLenS K) (tCons (tVar 8) tNil))) [some (.ref d), some (.int c), some (.int 12), some (.ref s), some (.ref p0), some (.ref w), some (.int ((e : Nat) : Int)), some (.int ((i : Nat) : Int)), some (.ref a)] H7 (.int ((f % r.length : Nat) : Int)) := by
      refine ev_is (ev_mod (ev_ixL (k := i + 2) (ev_var rfl) (ev_is (ev_add (i := ((i : Nat) : Int)) (j := 2) (ev_var rfl) ev_c) (by rw [show ((i + 2 : Nat) : Int) = ((i : Nat) : Int) + 2 from by omega])) (sq_of (e7 _ _ (x6 _ _ hF))) (ni_get hf)) lr (by omega)) ?_
      rw [Int.natCast_emod]
    refine s_asg (ev_ixL (ev_var rfl) hidx (sq_of (e7 _ _ (x36 _ _ hx3))) (ni_get he')) fun H8 e8 => ?_
    have her := List.mem_of_getElem? he'
    have se' : seat D e' = seat D (mate e) := ok.seat_of hr her
    refine ⟨W ++ [e], e', _, _, rfl, x6.trans (e7.trans e8), e8 _ _ (e7 _ _ upd_same), by rw [List.length_append, hW]; rfl, ok.row_lt hr her, ?_, fun x hx => ?_⟩
    · refine (sm.trans (Same.mate he)).trans fun C hC => ?_
      rw [se']
    · rcases List.mem_append.mp hx with q | q
      · exact al x q
      · rw [List.mem_singleton.mp q]
        exact ⟨he, sm⟩
  · subst es
    have lw := ev_len (K := K) (σ := [some (.ref d), some (.int c), some (.int 12), some (.ref s), some (.ref p0), some (.ref w), some (.int ((e : Nat) : Int)), y7, y8]) (H := H') (ta := tVar 5) (ev_var rfl) (sq_of hw)
    rw [ni_length] at lw
    refine q_when (b := decide (((W.length : Nat) : Int) = 0)) (et_test (ev_eqI lw ev_c)) (fun _ H6 e6 => s_retL (el_lst ea_nil (by show 0 ≤ 100000; omega)) fun p H7 hp e7 h7 => k [] (Nat.zero_le _) p H7 (fresh_back (x3.trans (ex.trans e6)) hp) (x3.trans (ex.trans (e6.trans e7))) h7) (fun hb H6 e6 => ?_)
    have wp : 0 < W.length := by have := of_decide_eq_false hb; omega
    obtain ⟨a0, ha0⟩ : ∃ a0, W[0]? = some a0 := ⟨_, List.getElem?_eq_getElem wp⟩
    obtain ⟨az, haz⟩ : ∃ az, W[W.length - 1]? = some az := ⟨_, List.getElem?_eq_getElem (by omega)⟩
    obtain ⟨l1, s1⟩ := al a0 (List.mem_of_getElem? ha0)
    obtain ⟨l2, s2⟩ := al az (List.mem_of_getElem? haz)
    have hw6 := e6 _ _ hw
    have hs6 : Rd H6 s (.dK (dT (insT D))) := .inl (e6 _ _ (ex _ _ (e3 _ _ (e2 _ _ hs))))
    refine s_retCatCall (ev_var rfl) hw6 (ea_cons (ev_var rfl) (ea_cons (ev_var rfl) (ea_cons (ev_dget (ev_var rfl) (ev_lmate (ev_ixI (ev_var rfl) (ev_neg ev_c) (sq_of hw6) (atI_back (j := W.length - 1) (by omega) (by rw [ni_length]; omega) (ni_get haz)))) hs6 (seatT_get ok (mate_lt l2))) (ea_cons (ev_dget (ev_var rfl) (ev_ixL (k := 0) (ev_var rfl) ev_c (sq_of hw6) (ni_get ha0)) hs6 (seatT_get ok l1)) ea_nil)))) fun H7 e7 hw7 => ?_
    have x7 : Ex H H7 := x3.trans (ex.trans (e6.trans e7))
    refine ⟨d, s, D, m, seat D (mate az), seat D a0, rfl, dr.mono x7, e7 _ _ (e6 _ _ (ex _ _ (e3 _ _ (e2 _ _ hs)))), ok.seat_lt (mate_lt l2), fun C hC hc => ?_, fun l hl q H8 hq e8 h8 => ?_⟩
    · exact ((s1.symm.trans s2).trans (Same.mate l2) C hC).mpr hc
    · refine ⟨w, q, ni W, ni l, rfl, rfl, e8 _ _ hw7, h8, sz_of (by rw [ni_length, ni_length]; omega), fun y hy => ?_⟩
      refine k (W ++ l) (by rw [List.length_append]; omega) y _ (fresh_back (x7.trans e8) hy) ((x7.trans e8).trans (Ex.new hy)) ?_
      rw [upd_same, ni_append]
end RF

set_option Elab.async false
set_option linter.all false
set_option maxRecDepth 100000
set_option maxHeartbeats 4000000
namespace RF
open PySem PySem.Spec PyProof.Rows L2 Evl
/-! ## renamed -/
theorem perm_eraseA {α : Type} {l : List α} {k : Nat} {e : α} (h : l[k]? = some e) : l.Perm (e :: l.eraseIdx k) := by
  induction l generalizing k with
  | nil => simp at h
  | cons x l ih =>
    cases k with
    | zero =>
      rw [show x = e from Option.some.inj h]
      exact .refl _
    | succ k =>
      have h2 : l[k]? = some e := h
      rw [List.eraseIdx_cons_succ]
      exact ((ih h2).cons x).trans (List.Perm.swap e x _)
theorem map_eraseA {α β : Type} (f : α → β) (l : List α) (k : Nat) : (l.map f).eraseIdx k = (l.eraseIdx k).map f := by
  induction l generalizing k with
  | nil => rfl
  | cons x l ih =>
    cases k with
    | zero => rfl
    | succ k => exact congrArg (f x :: ·) (ih k)
def pT (P : List Nat) : List (Nat × Int) := gT (fun x => ((P.getD x 0 : Nat) : Int)) (List.range P.length)
theorem pT_length (P : List Nat) : (dT (pT P)).length = P.length := by
  rw [dT_length]
  unfold pT
  rw [gT_length, List.length_range]
theorem pT_put (P : List Nat) (x : Nat) : putK (dT (pT P)) (.inl ((P.length : Nat) : Int)) (.int ((x : Nat) : Int)) = dT (pT (P ++ [x])) := by
  have hn : P.length ∉ List.range P.length := by simp
  rw [dT_put (by unfold pT; rw [gT_look, if_neg hn])]
  congr 1
  unfold pT gT
  rw [List.length_append, List.length_singleton, List.range_succ, List.map_append]
  congr 1
  · refine List.map_congr_left fun y hy => ?_
    have := List.mem_range.mp hy
    show (y, ((P.getD y 0 : Nat) : Int)) = (y, (((P ++ [x]).getD y 0 : Nat) : Int))
    rw [List.getD_eq_getElem?_getD, List.getD_eq_getElem?_getD, List.getElem?_append_left this]
  · show [(P.length, ((x : Nat) : Int))] = [(P.length, (((P ++ [x]).getD P.length 0 : Nat) : Int))]
    rw [List.getD_eq_getElem?_getD, List.getElem?_append_right (Nat.le_refl _), Nat.sub_self]
    rfl
theorem pT_get (P : List Nat) {x : Nat} (h : x < P.length) : valV (dT (pT P)) (.inl ((x : Nat) : Int)) = some (.int ((P.getD x 0 : Nat) : Int)) := valV_gT (List.mem_range.mpr h)
def both (Lf : List Nat) : List Nat := (Lf.map fun n => [2 * n, 2 * n + 1]).flatten
theorem both_perm {a b : List Nat} (h : a.Perm b) : (both a).Perm (both b) := (h.map _).flatten
theorem both_range : ∀ m, (both (List.range m)).Perm (List.range (2 * m))
  | 0 => .refl _
  | m + 1 => by
    unfold both
    rw [List.range_succ, List.map_append, List.flatten_append, show 2 * (m + 1) = 2 * m + 1 + 1 from by omega, List.range_succ, List.range_succ, List.append_assoc]
    exact (both_range m).append (.refl _)
/-- while ties are named -/
structure Nam (m i : Nat) (P Lf : List Nat) : Prop where
  left : Lf.length = m - i
  len : P.length = 2 * i
  pm : (P ++ both Lf).Perm (List.range (2 * m))
theorem Nam.start (m : Nat) : Nam m 0 [] (List.range m) := ⟨by simp, rfl, both_range m⟩
theorem Nam.step {m i : Nat} {P Lf : List Nat} (h : Nam m i P Lf) {k n b : Nat} (hn : Lf[k]? = some n) (hb : b < 2) : Nam m (i + 1) (P ++ [2 * n + b] ++ [2 * n + 1 - b]) (Lf.eraseIdx k) := by
  have hk := (List.getElem?_eq_some_iff.mp hn).1
  refine ⟨?_, ?_, ?_⟩
  · rw [List.length_eraseIdx, if_pos hk, h.left]
    omega
  · simp only [List.length_append, List.length_singleton, h.len]
    omega
  · refine List.Perm.trans ?_ h.pm
    rw [List.append_assoc, List.append_assoc]
    refine List.Perm.append_left P ?_
    refine List.Perm.trans ?_ (both_perm (perm_eraseA hn)).symm
    show ([2 * n + b] ++ ([2 * n + 1 - b] ++ both (Lf.eraseIdx k))).Perm ([2 * n, 2 * n + 1] ++ both (Lf.eraseIdx k))
    rw [← List.append_assoc]
    refine List.Perm.append_right _ ?_
    match b, hb with
    | 0, _ => exact .refl _
    | 1, _ => exact List.Perm.swap _ _ _
theorem Nam.done {m : Nat} {P Lf : List Nat} (h : Nam m m P Lf) : P.Perm (List.range (2 * m)) ∧ P.length = 2 * m := by
  have e : Lf = [] := List.eq_nil_of_length_eq_zero (by rw [h.left]; omega)
  have := h.pm
  rw [e] at this
  have h2 : (P ++ both []).Perm _ := this
  rw [show both [] = [] from rfl, List.append_nil] at h2
  exact ⟨h2, h.len⟩
theorem rename_perm {D : Dw} {m : Nat} (ok : Ok D m) {P : List Nat} (hP : P.Perm (List.range (2 * m))) : (D.map fun r => r.map fun e => P.getD e 0).flatten.Perm (List.range (2 * m)) := by
  have e : (D.map fun r => r.map fun e => P.getD e 0).flatten = D.flatten.map fun e => P.getD e 0 := by rw [List.map_flatten]
  rw [e]
  refine (ok.perm.map _).trans ?_
  have l : P.length = 2 * m := by rw [hP.length_eq, List.length_range]
  have e2 : (List.range (2 * m)).map (fun e => P.getD e 0) = P := by
    rw [← l]
    have := range_map P (fun x => x) (fun e => P.getD e 0) (fun i x hx => by rw [List.getD_eq_getElem?_getD, hx]; rfl)
    rw [this, List.map_id']
  rw [e2]
  exact hP
def sp__law_renamed (K : PySem.W.Frag) : Sp := fun vs H Q _ => ∃ (d : Addr) (D : Dw) (m : Nat) (c : Int), vs = [.ref d, .int ((m : Nat) : Int), .int c] ∧ Dr H d D m ∧ D.length ≤ 300 ∧ m ≤ 300 ∧ ∀ D' : Dw, Ok D' m → D'.length = D.length → RetR D' H Q
theorem el_down {σ : L2.St} {H : Hp} {ta : TE} {n j : Nat} (h0 : Ev ta σ H (.int ((n : Nat) : Int))) (h1 : ∀ (x : V) H', Ex H H' → Ev ta ((wipe σ [j]).set j (some x)) H' (.int ((n : Nat) : Int))) (hn : n ≤ 300) (hw : ∀ x, wipe ((wipe σ [j]).set j (some x)) [j] = wipe σ [j]) (hv : ∀ x : V, ((wipe σ [j]).set j (some x))[j]? = some (some x)) :
    EvL (tLc (iRng1 (tCons ta tNil)) (gName j) tYes (tOp rMinus ta (tVar j)) [j]) σ H (ni ((List.range n).map fun i => n - i)) := by
  have := el_lcR (k := n) (j := j) (vs := [j]) (te := tOp rMinus ta (tVar j)) (σ := σ) (H := H) (fun i => V.int ((n - i : Nat) : Int)) h0 (by omega) hw (fun i H2 e2 hi => by
    rw [show ((n - i : Nat) : Int) = ((n : Nat) : Int) - ((i : Nat) : Int) from by omega]
    exact ev_sub (h1 _ H2 e2) (ev_var (hv _)))
  unfold ni
  rw [List.map_map]
  exact this
theorem RowsA.ne {H : Hp} {d : Addr} {as : List Addr} {D : Dw} (h : RowsA H d as D) : d ∉ as := fun hm => by
  obtain ⟨j, hj⟩ := List.mem_iff_getElem?.mp hm
  have hl : j < D.length := by rw [← h.2.1]; exact (List.getElem?_eq_some_iff.mp hj).1
  have q := h.2.2 j d _ hj (List.getElem?_eq_getElem hl)
  rw [h.1] at q
  have e : as.map V.ref = ni D[j] := HO.lst.inj (Option.some.inj q)
  have e2 := congrArg (fun l => l[j]?) e
  simp only [List.getElem?_map, hj] at e2
  obtain ⟨n, _, w⟩ := ni_get' (i := j) e2.symm
  cases w
theorem pure__law_renamed (K : PySem.W.Frag) (vs : List V) (H : Hp) (Q : VK) (E : XK) (h : sp__law_renamed K vs H Q E) : t__law_renamed K (sp__law_draws K) (sp__law_settled K) { nx := fun _ H' => Q .non H', rt := Q } (start nm__law_renamed vs) H := by
  obtain ⟨d, D, m, c, rfl, dr, hD, hm, k⟩ := h
  have ok := dr.ok
  have s1 : EvL (tLc (iRng1 (tCons (tVar 1) tNil)) (gName 9) tYes (tOp rMinus (tVar 1) (tVar 9)) [9]) (start nm__law_renamed [.ref d, .int ((m : Nat) : Int), .int c]) H (ni ((List.range m).map fun i => m - i)) :=
    el_down (ev_var rfl) (fun x H' e => ev_var rfl) hm (fun _ => rfl) (fun _ => rfl)
  have s3 : EvL (tLc (iRng1 (tCons (tCB (rLenS K) (tCons (tVar 0) tNil)) tNil)) (gName 9) tYes (tOp rMinus (tCB (rLenS K) (tCons (tVar 0) tNil)) (tVar 9)) [9]) (start nm__law_renamed [.ref d, .int ((m : Nat) : Int), .int c]) H (ni ((List.range D.length).map fun i => D.length - i)) :=
    el_down (rows_len (ev_var rfl) dr.rows) (fun x H' e => rows_len (ev_var rfl) (dr.rows.mono e)) hD (fun _ => rfl) (fun _ => rfl)
  have s2 : EvL (tOp rRep (tLst (tCons (tC (.int 2)) tNil)) (tVar 1)) (start nm__law_renamed [.ref d, .int ((m : Nat) : Int), .int c]) H (ni (List.replicate m 2)) := by
    have := el_rep1 (k := m) (v := .int 2) ev_c (ev_var (σ := start nm__law_renamed [.ref d, .int ((m : Nat) : Int), .int c]) (H := H) (i := 1) rfl) (by omega)
    unfold ni
    rw [List.map_replicate]
    exact this
  have s12 := el_cat s1 s2 (by rw [ni_length, ni_length, List.length_map, List.length_range, List.length_replicate]; omega)
  rw [← ni_append] at s12
  have sz := el_cat s12 s3 (by rw [ni_length, ni_length, List.length_append, List.length_map, List.length_range, List.length_replicate, List.length_map, List.length_range]; omega)
  rw [← ni_append] at sz
  refine q_asgE (draws_any (any_of (ev_var rfl)) sz (by simp only [List.length_append, List.length_map, List.length_range, List.length_replicate]; omega) (fun z hz => ?_) fun F p0 H1 hu hp0 e1 hF => ?_)
  · rcases List.mem_append.mp hz with q | q
    · rcases List.mem_append.mp q with q | q
      · obtain ⟨i, hi, rfl⟩ := List.mem_map.mp q
        have := List.mem_range.mp hi
        omega
      · rw [List.eq_of_mem_replicate q]
        omega
    · obtain ⟨i, hi, rfl⟩ := List.mem_map.mp q
      have := List.mem_range.mp hi
      omega
  · have f1 : ∀ i, i < m → ∃ f, F[i]? = some f ∧ f < m - i := fun i hi => under_get hu (by
      rw [List.getElem?_append_left (by simp only [List.length_append, List.length_map, List.length_range, List.length_replicate]; omega), List.getElem?_append_left (by rw [List.length_map, List.length_range]; exact hi), List.getElem?_map, List.getElem?_range hi]
      rfl)
    have f2 : ∀ i, i < m → ∃ f, F[m + i]? = some f ∧ f < 2 := fun i hi => under_get hu (by
      rw [List.getElem?_append_left (by simp only [List.length_append, List.length_map, List.length_range, List.length_replicate]; omega), List.getElem?_append_right (by rw [List.length_map, List.length_range]; omega), List.length_map, List.length_range, List.getElem?_replicate, if_pos (by omega)])
    have f3 : ∀ i, i < D.length → ∃ f, F[2 * m + i]? = some f ∧ f < D.length - i := fun i hi => under_get hu (by
      rw [List.getElem?_append_right (by simp only [List.length_append, List.length_map, List.length_range, List.length_replicate]; omega), List.getElem?_map]
      simp only [List.length_append, List.length_map, List.length_range, List.length_replicate]
      rw [show 2 * m + i - (m + m) = i from by omega, List.getElem?_range hi]
      rfl)
    show tSeq _ _ _ [some (.ref d), some (.int ((m : Nat) : Int)), some (.int c), some (.ref p0), none, none, none, none, none, none, none, none] H1
    refine q_asgL (el_range (n := m) (ev_var rfl) (by omega)) fun l H2 hl0 e2 hl => ?_
    refine q_asgD ed_new fun nm H3 hn0 e3 hn => ?_
    have nln : nm ≠ l := fun z => by rw [z, hl] at hn0; cases hn0
    have hn1 : H1 nm = none := fresh_back e2 hn0
    have hl1 : H1 l = none := hl0
    refine q_forR (k := m) (ev_var rfl) (by omega) (fun i σ' H' => ∃ P Lf y6 y7, σ' = [some (.ref d), some (.int ((m : Nat) : Int)), some (.int c), some (.ref p0), some (.ref l), some (.ref nm), y6, y7, none, none, none, none] ∧ Ex H1 H' ∧ H' l = some (.lst (ni Lf)) ∧ H' nm = some (.dK (dT (pT P))) ∧ Nam m i P Lf)
      (fun H4 e4 => ⟨[], List.range m, none, none, rfl, e2.trans (e3.trans e4), e4 _ _ (e3 _ _ hl), (show H4 nm = some (.dK (dT (pT []))) from e4 _ _ hn), Nam.start m⟩) (fun i σ' H' hi ⟨P, Lf, y6, y7, es, ex, hl, hn, na⟩ => ?_) (fun σ' H' ⟨P, Lf, y6, y7, es, ex, hl, hn, na⟩ => ?_)
    · subst es
      obtain ⟨g1, hg1, lg1⟩ := f1 i hi
      obtain ⟨g2, hg2, lg2⟩ := f2 i hi
      obtain ⟨n, hn2⟩ : ∃ n, Lf[g1]? = some n := ⟨_, List.getElem?_eq_getElem (by rw [na.left]; exact lg1)⟩
      have lP := na.len
      have lL := na.left
      refine q_popAt (k := g1) hl (ev_var rfl) (ev_ixL (ev_var rfl) (ev_var rfl) (sq_of (ex _ _ hF)) (ni_get hg1)) (ni_get hn2) (by rw [ni_length]; omega) fun H4 e4 => ?_
      rw [ni_erase]
      have x4 := Ex.mut (o := HO.lst (ni (Lf.eraseIdx g1))) (ex.trans e4) hl1
      have n4 : (upd H4 l (.lst (ni (Lf.eraseIdx g1)))) nm = some (.dK (dT (pT P))) := by rw [upd_ne nln]; exact e4 _ _ hn
      have pick : ∀ {σ : L2.St} {H' : Hp}, Ex H1 H' → σ[3]? = some (some (.ref p0)) → σ[1]? = some (some (.int ((m : Nat) : Int))) → σ[6]? = some (some (.int ((i : Nat) : Int))) → Ev (tOp (rIxL K) (tVar 3) (tOp rPlus (tVar 1) (tVar 6))) σ H' (.int ((g2 : Nat) : Int)) := fun {σ H'} e a b c =>
        ev_ixL (k := m + i) (ev_var a) (ev_is (ev_add (i := ((m : Nat) : Int)) (j := ((i : Nat) : Int)) (ev_var b) (ev_var c)) (by rw [show ((m + i : Nat) : Int) = ((m : Nat) : Int) + ((i : Nat) : Int) from by omega])) (sq_of (e _ _ hF)) (ni_get hg2)
      have v1 : ∀ {σ : L2.St} {H' : Hp}, Ex H1 H' → σ[3]? = some (some (.ref p0)) → σ[1]? = some (some (.int ((m : Nat) : Int))) → σ[6]? = some (some (.int ((i : Nat) : Int))) → σ[7]? = some (some (.int ((n : Nat) : Int))) → Ev (tOp rPlus (tOp rTimes (tC (.int 2)) (tVar 7)) (tOp (rIxL K) (tVar 3) (tOp rPlus (tVar 1) (tVar 6)))) σ H' (.int ((2 * n + g2 : Nat) : Int)) := fun {σ H'} e a b c d =>
        ev_is (ev_add (i := 2 * ((n : Nat) : Int)) (j := ((g2 : Nat) : Int)) (ev_mul (i := 2) (j := ((n : Nat) : Int)) ev_c (ev_var d) (.inl (by omega))) (pick e a b c)) (by rw [show ((2 * n + g2 : Nat) : Int) = 2 * ((n : Nat) : Int) + ((g2 : Nat) : Int) from by omega])
      have v2 : ∀ {σ : L2.St} {H' : Hp}, Ex H1 H' → σ[3]? = some (some (.ref p0)) → σ[1]? = some (some (.int ((m : Nat) : Int))) → σ[6]? = some (some (.int ((i : Nat) : Int))) → σ[7]? = some (some (.int ((n : Nat) : Int))) → Ev (tOp rMinus (tOp rPlus (tOp rTimes (tC (.int 2)) (tVar 7)) (tC (.int 1))) (tOp (rIxL K) (tVar 3) (tOp rPlus (tVar 1) (tVar 6)))) σ H' (.int ((2 * n + 1 - g2 : Nat) : Int)) := fun {σ H'} e a b c d =>
        ev_is (ev_sub (i := 2 * ((n : Nat) : Int) + 1) (j := ((g2 : Nat) : Int)) (ev_add (i := 2 * ((n : Nat) : Int)) (j := 1) (ev_mul (i := 2) (j := ((n : Nat) : Int)) ev_c (ev_var d) (.inl (by omega))) ev_c) (pick e a b c)) (by rw [show ((2 * n + 1 - g2 : Nat) : Int) = 2 * ((n : Nat) : Int) + 1 - ((g2 : Nat) : Int) from by omega])
      refine q_dput (i := ((P.length : Nat) : Int)) (v1 x4 rfl rfl rfl rfl) (ev_var rfl) (ev_is (ev_mul (i := 2) (j := ((i : Nat) : Int)) ev_c (ev_var rfl) (.inl (by omega))) (by rw [lP, show ((2 * i : Nat) : Int) = 2 * ((i : Nat) : Int) from by omega])) n4 (by rw [pT_length]; omega) fun H5 e5 => ?_
      rw [pT_put]
      have x5 := Ex.mut (o := HO.dK (dT (pT (P ++ [2 * n + g2])))) (x4.trans e5) hn1
      refine s_dput (i := (((P ++ [2 * n + g2]).length : Nat) : Int)) (v2 x5 rfl rfl rfl rfl) (ev_var rfl) (ev_is (ev_add (i := 2 * ((i : Nat) : Int)) (j := 1) (ev_mul (i := 2) (j := ((i : Nat) : Int)) ev_c (ev_var rfl) (.inl (by omega))) ev_c) (by rw [List.length_append, lP, List.length_singleton, show ((2 * i + 1 : Nat) : Int) = 2 * ((i : Nat) : Int) + 1 from by omega])) upd_same (by rw [pT_length, List.length_append, List.length_singleton]; omega) fun H6 e6 => ?_
      rw [pT_put]
      refine ⟨_, Lf.eraseIdx g1, _, _, rfl, Ex.mut (x5.trans e6) hn1, ?_, upd_same, na.step hn2 lg2⟩
      rw [upd_ne nln.symm]
      refine e6 _ _ ?_
      rw [upd_ne nln.symm]
      exact e5 _ _ upd_same
    · subst es
      obtain ⟨pm, lP⟩ := na.done
      have x := e1.trans ex
      have hd := dr.rows.mono x
      have er := er_lcRows (K := K) (σ := [some (.ref d), some (.int ((m : Nat) : Int)), some (.int c), some (.ref p0), some (.ref l), some (.ref nm), y6, y7, none, none, none, none]) (H := H') (tl := tVar 0) (t := tYes) (te := tLc (iList K (tVar 10)) (gName 11) tYes (tDGet (tVar 5) (tVar 11)) [11]) (j := 10) (vs := [10]) (fun _ => true) (fun r => r.map fun e => P.getD e 0) (ev_var rfl) hd (by omega) (fun _ => rfl)
        (fun i r a H1 e1 hi ha H2 _ Q q => q H2 (Ex.refl H2)) (fun i r a H4 e4 hi ha => by
          have rz := row_flat_len hi
          rw [ok.len] at rz
          have := el_lcN (K := K) (σ := (wipe [some (.ref d), some (.int ((m : Nat) : Int)), some (.int c), some (.ref p0), some (.ref l), some (.ref nm), y6, y7, none, none, none, none] [10]).set 10 (some (.ref a))) (H := H4) (l := r) (tl := tVar 10) (te := tDGet (tVar 5) (tVar 11)) (j := 11) (vs := [11]) (fun e => V.int ((P.getD e 0 : Nat) : Int)) (ev_var rfl) (sq_of ha) (by omega) (fun _ => rfl) (fun j e H5 e5 he =>
            ev_dget (ev_var rfl) (ev_var rfl) (.inl (e5 _ _ (e4 _ _ hn))) (pT_get P (by rw [lP]; exact ok.row_lt hi (List.mem_of_getElem? he))))
          unfold ni
          rw [List.map_map]
          exact this)
      rw [List.filter_eq_self.mpr (fun _ _ => rfl)] at er
      have rp := rename_perm ok pm
      have ll : (D.map fun r => r.map fun e => P.getD e 0).length = D.length := List.length_map ..
      generalize (D.map fun r => r.map fun e => P.getD e 0) = D1 at er rp ll
      refine q_asgR er fun l2 H4 hl20 e4 ⟨as, hr⟩ => ?_
      obtain ⟨hr1, hr2, hr3⟩ := hr
      refine q_asgL (el_lst ea_nil (by show 0 ≤ 100000; omega)) fun f H5 hf0 e5 hf => ?_
      have nf : f ≠ l2 := fun z => by rw [z, hr1] at hf0; cases hf0
      have nl2 := RowsA.ne ⟨hr1, hr2, hr3⟩
      have nfa : f ∉ as := fun hm => (not_row ⟨hr1, hr2, hr3⟩ hf0).1 f hm rfl
      have hal : ∀ q ∈ as.zip D1, q.1 ∈ as ∧ H4 q.1 = some (.lst (ni q.2)) := fun q hq => by
        obtain ⟨j, hj⟩ := List.mem_iff_getElem?.mp hq
        obtain ⟨h1, h2⟩ := List.getElem?_zip_eq_some.mp hj
        exact ⟨List.mem_of_getElem? h1, hr3 j _ _ h1 h2⟩
      have hf1 : H f = none := fresh_back (x.trans e4) hf0
      have hl2 : H l2 = none := fresh_back x hl20
      refine q_forR (rows_len (ev_var rfl) (dr.rows.mono (x.trans (e4.trans e5)))) (by omega) (fun i σ' H' => ∃ rem fnd y9, σ' = [some (.ref d), some (.int ((m : Nat) : Int)), some (.int c), some (.ref p0), some (.ref l2), some (.ref nm), y6, y7, some (.ref f), y9, none, none] ∧ Ex H H' ∧ H' p0 = some (.lst (ni F)) ∧ H' l2 = some (.lst (rem.map fun q : Addr × List Nat => V.ref q.1)) ∧ H' f = some (.lst (fnd.map fun q : Addr × List Nat => V.ref q.1)) ∧ (∀ q ∈ as.zip D1, H' q.1 = some (.lst (ni q.2))) ∧ (fnd ++ rem).Perm (as.zip D1) ∧ rem.length = D.length - i ∧ fnd.length = i)
        (fun H6 e6 => ⟨as.zip D1, [], none, rfl, x.trans (e4.trans (e5.trans e6)), e6 _ _ (e5 _ _ (e4 _ _ (ex _ _ hF))), ?_, e6 _ _ hf, fun q hq => e6 _ _ (e5 _ _ (hal q hq).2), .refl _, ?_, rfl⟩) (fun i σ' H' hi ⟨rem, fnd, y9, es, ex', hp', hl2', hf', al, pm', lr, lf⟩ => ?_) (fun σ' H' ⟨rem, fnd, y9, es, ex', hp', hl2', hf', al, pm', lr, lf⟩ => ?_)
      · have e := List.map_fst_zip (l₁ := as) (l₂ := D1) (by omega)
        rw [show (as.zip D1).map (fun q : Addr × List Nat => V.ref q.1) = ((as.zip D1).map Prod.fst).map V.ref from by rw [List.map_map]; rfl, e]
        exact e6 _ _ (e5 _ _ hr1)
      · rw [List.length_zip]
        omega
      · subst es
        obtain ⟨g3, hg3, lg3⟩ := f3 i hi
        obtain ⟨q, hq⟩ : ∃ q, rem[g3]? = some q := ⟨_, List.getElem?_eq_getElem (by rw [lr]; exact lg3)⟩
        have lg := (List.getElem?_eq_some_iff.mp hq).1
        have idx : Ev (tOp rPlus (tOp rTimes (tC (.int 2)) (tVar 1)) (tVar 9)) [some (.ref d), some (.int ((m : Nat) : Int)), some (.int c), some (.ref p0), some (.ref l2), some (.ref nm), y6, y7, some (.ref f), some (.int ((i : Nat) : Int)), none, none] H' (.int ((2 * m + i : Nat) : Int)) :=
          ev_is (ev_add (i := 2 * ((m : Nat) : Int)) (j := ((i : Nat) : Int)) (ev_mul (i := 2) (j := ((m : Nat) : Int)) ev_c (ev_var rfl) (.inl (by omega))) (ev_var rfl)) (by rw [show ((2 * m + i : Nat) : Int) = 2 * ((m : Nat) : Int) + ((i : Nat) : Int) from by omega])
        refine s_appPop (k := g3) (v := .ref q.1) hf' hl2' nf (ev_var rfl) (ev_var rfl) (ev_ixL (ev_var rfl) idx (sq_of hp') (ni_get hg3)) (by rw [List.getElem?_map, hq]; rfl) (by rw [List.length_map, lr]; omega) (by rw [List.length_map, lf]; omega) fun H7 e7 => ?_
        rw [map_eraseA]
        have p2 : p0 ≠ l2 := fun z => by rw [← z, ex _ _ hF] at hl20; cases hl20
        have pf : p0 ≠ f := fun z => by rw [← z, e4 _ _ (ex _ _ hF)] at hf0; cases hf0
        refine ⟨rem.eraseIdx g3, fnd ++ [q], _, rfl, Ex.mut (Ex.mut (ex'.trans e7) hl2) hf1, ?_, ?_, ?_, fun q' hq' => ?_, ?_, ?_, ?_⟩
        · rw [upd_ne pf, upd_ne p2]
          exact e7 _ _ hp'
        · rw [upd_ne nf.symm, upd_same]
        · rw [upd_same, List.map_append]
          rfl
        · obtain ⟨h1, h2⟩ := hal q' hq'
          rw [upd_ne (fun z => nfa (by rw [← z]; exact h1)), upd_ne (fun z => nl2 (by rw [← z]; exact h1))]
          exact e7 _ _ (al q' hq')
        · rw [List.append_assoc]
          exact ((perm_eraseA hq).symm.append_left fnd).trans pm'
        · rw [List.length_eraseIdx, if_pos lg, lr]
          omega
        · rw [List.length_append, lf]
          rfl
      · subst es
        have er : rem = [] := List.eq_nil_of_length_eq_zero (by rw [lr]; omega)
        rw [er, List.append_nil] at pm'
        have p2 : (fnd.map Prod.snd).Perm D1 := by
          have := pm'.map Prod.snd
          rwa [List.map_snd_zip (by omega)] at this
        have ok2 : (fnd.map Prod.snd).flatten.Perm (List.range (2 * m)) := p2.flatten.trans rp
        refine s_retCall (ea_cons (ev_var rfl) ea_nil) fun H8 e8 => ⟨f, fnd.map Prod.snd, rfl, ⟨fnd.map Prod.fst, ?_, by rw [List.length_map, List.length_map], fun i a r ha hr => ?_⟩, by rw [List.length_map, lf]; omega, by rw [ok2.length_eq, List.length_range]; omega, fun D' hl pm2 p H9 hp e9 hr => ?_⟩
        · rw [List.map_map]
          exact e8 _ _ hf'
        · rw [List.getElem?_map] at ha hr
          cases hq : fnd[i]? with
          | none => rw [hq] at ha; cases ha
          | some q =>
            rw [hq] at ha hr
            rw [← Option.some.inj ha, ← Option.some.inj hr]
            exact e8 _ _ (al q (pm'.mem_iff.mp (List.mem_of_getElem? hq)))
        · exact k D' (ok_of_perm (pm2.trans ok2)) (by rw [hl, List.length_map, lf]) p H9 (fresh_back (ex'.trans e8) hp) (ex'.trans (e8.trans e9)) hr
end RF

set_option Elab.async false
set_option linter.all false
set_option maxRecDepth 100000
set_option maxHeartbeats 400000
namespace RF
open PySem PySem.Spec PyProof.Rows L2 Evl
theorem call_te2 {σ : L2.St} {H : Hp} {ta tb : TE} {y : V} {sp : Sp} {E : XK} {Q : VK} (ha : AnyInt ta σ H) (hb : Ev tb σ H y) (k : ∀ (z : Int) H1, Ex H H1 → sp [.int z, y] H1 Q E) : tCall sp [] E (tCons ta (tCons tb tNil)) σ H Q := by
  show ta σ H fun x H1 => tb σ H1 fun y H2 => sp [x, y] H2 Q E
  refine ha H (Ex.refl H) _ fun z H1 e1 => ?_
  refine hb H1 e1 _ fun H2 e2 => ?_
  exact k z H2 (e1.trans e2)
/-! ## kind -/
def kindWord (f : Bool) : Str := if f then "fours" else "threes"
def sp__law_kind (K : PySem.W.Frag) : Sp := fun vs H Q _ => ∃ (f : Bool) (r c s : Nat), vs = [.str (kindWord f), .int ((r : Nat) : Int), .int ((c : Nat) : Int), .int ((s : Nat) : Int)] ∧ 1 ≤ r ∧ 1 ≤ c ∧ r * c ≤ 40 ∧ s < c ∧ ∀ D, Ok D (kindTies f * (r * c)) → D.length = r * c → RetR D H Q
/-- n steps round, as whole numbers count -/
theorem round_nat {x : Int} {n c : Nat} {k : Nat} (e : x + ((k * c : Nat) : Int) = ((n : Nat) : Int)) : x % ((c : Nat) : Int) = ((n % c : Nat) : Int) := by
  rw [Int.natCast_emod, ← e]
  have : (((k * c : Nat) : Int)) = ((c : Nat) : Int) * ((k : Nat) : Int) := by rw [Int.natCast_mul, Int.mul_comm]
  rw [this, Int.add_mul_emod_self_left]
theorem ev_lin0 {σ : L2.St} {H : Hp} {v b : Nat} (n : Nat) (hn : n ≤ 100) (h : σ[v]? = some (some (.int ((b : Nat) : Int)))) : Ev (tOp rTimes (tC (.int ((n : Nat) : Int))) (tVar v)) σ H (.int ((n * b : Nat) : Int)) :=
  ev_is (ev_mul (i := ((n : Nat) : Int)) (j := ((b : Nat) : Int)) ev_c (ev_var h) (.inl (by omega))) (by rw [Int.natCast_mul])
theorem ev_lin {σ : L2.St} {H : Hp} {v b : Nat} (n q : Nat) (hn : n ≤ 100) (h : σ[v]? = some (some (.int ((b : Nat) : Int)))) : Ev (tOp rPlus (tOp rTimes (tC (.int ((n : Nat) : Int))) (tVar v)) (tC (.int ((q : Nat) : Int)))) σ H (.int ((n * b + q : Nat) : Int)) :=
  ev_is (ev_add (i := ((n * b : Nat) : Int)) (j := ((q : Nat) : Int)) (ev_lin0 n hn h) ev_c) (by rw [Int.natCast_add])
theorem lin42 {σ : L2.St} {H : Hp} {v b : Nat} (h : σ[v]? = some (some (.int ((b : Nat) : Int)))) : Ev (tOp rPlus (tOp rTimes (tC (.int 4)) (tVar v)) (tC (.int 2))) σ H (.int ((4 * b + 2 : Nat) : Int)) := ev_lin 4 2 (by omega) h
theorem lin43 {σ : L2.St} {H : Hp} {v b : Nat} (h : σ[v]? = some (some (.int ((b : Nat) : Int)))) : Ev (tOp rPlus (tOp rTimes (tC (.int 4)) (tVar v)) (tC (.int 3))) σ H (.int ((4 * b + 3 : Nat) : Int)) := ev_lin 4 3 (by omega) h
theorem lin41 {σ : L2.St} {H : Hp} {v b : Nat} (h : σ[v]? = some (some (.int ((b : Nat) : Int)))) : Ev (tOp rPlus (tOp rTimes (tC (.int 4)) (tVar v)) (tC (.int 1))) σ H (.int ((4 * b + 1 : Nat) : Int)) := ev_lin 4 1 (by omega) h
theorem lin62 {σ : L2.St} {H : Hp} {v b : Nat} (h : σ[v]? = some (some (.int ((b : Nat) : Int)))) : Ev (tOp rPlus (tOp rTimes (tC (.int 6)) (tVar v)) (tC (.int 2))) σ H (.int ((6 * b + 2 : Nat) : Int)) := ev_lin 6 2 (by omega) h
theorem lin64 {σ : L2.St} {H : Hp} {v b : Nat} (h : σ[v]? = some (some (.int ((b : Nat) : Int)))) : Ev (tOp rPlus (tOp rTimes (tC (.int 6)) (tVar v)) (tC (.int 4))) σ H (.int ((6 * b + 4 : Nat) : Int)) := ev_lin 6 4 (by omega) h
theorem lin63 {σ : L2.St} {H : Hp} {v b : Nat} (h : σ[v]? = some (some (.int ((b : Nat) : Int)))) : Ev (tOp rPlus (tOp rTimes (tC (.int 6)) (tVar v)) (tC (.int 3))) σ H (.int ((6 * b + 3 : Nat) : Int)) := ev_lin 6 3 (by omega) h
theorem lin65 {σ : L2.St} {H : Hp} {v b : Nat} (h : σ[v]? = some (some (.int ((b : Nat) : Int)))) : Ev (tOp rPlus (tOp rTimes (tC (.int 6)) (tVar v)) (tC (.int 5))) σ H (.int ((6 * b + 5 : Nat) : Int)) := ev_lin 6 5 (by omega) h
theorem lin61 {σ : L2.St} {H : Hp} {v b : Nat} (h : σ[v]? = some (some (.int ((b : Nat) : Int)))) : Ev (tOp rPlus (tOp rTimes (tC (.int 6)) (tVar v)) (tC (.int 1))) σ H (.int ((6 * b + 1 : Nat) : Int)) := ev_lin 6 1 (by omega) h
theorem lin4 {σ : L2.St} {H : Hp} {v b : Nat} (h : σ[v]? = some (some (.int ((b : Nat) : Int)))) : Ev (tOp rTimes (tC (.int 4)) (tVar v)) σ H (.int ((4 * b : Nat) : Int)) := ev_lin0 4 (by omega) h
theorem lin6 {σ : L2.St} {H : Hp} {v b : Nat} (h : σ[v]? = some (some (.int ((b : Nat) : Int)))) : Ev (tOp rTimes (tC (.int 6)) (tVar v)) σ H (.int ((6 * b : Nat) : Int)) := ev_lin0 6 (by omega) h
theorem fours_ni (r c s i j : Nat) : ni (kindRow true r c s i j) = [V.int ((4 * (i * c + j) + 2 : Nat) : Int), V.int ((4 * (i * c + j) : Nat) : Int), V.int ((4 * belowP r c s i j + 3 : Nat) : Int), V.int ((4 * leftP c i j + 1 : Nat) : Int)] := by
  unfold kindRow ni
  rw [if_pos rfl]
  rfl
theorem threes_ni (r c s i j : Nat) : ni (kindRow false r c s i j) = [V.int ((6 * (i * c + j) + 2 : Nat) : Int), V.int ((6 * (i * c + j) + 4 : Nat) : Int), V.int ((6 * (i * c + j) : Nat) : Int)] ++ [V.int ((6 * belowP r c s i j + 3 : Nat) : Int), V.int ((6 * slantP r c s i j + 5 : Nat) : Int), V.int ((6 * leftP c i j + 1 : Nat) : Int)] := by
  unfold kindRow ni
  rw [if_neg (by simp), List.map_append]
  rfl
theorem is_fours : decide (V.str (kindWord true) = V.str "fours") = true := decide_eq_true rfl
theorem is_threes : decide (V.str (kindWord false) = V.str "fours") = false := by
  refine decide_eq_false fun h => ?_
  exact absurd (V.str.inj h) (by decide)
theorem pure__law_kind (K : PySem.W.Frag) (vs : List V) (H : Hp) (Q : VK) (E : XK) (h : sp__law_kind K vs H Q E) : t__law_kind K (sp__law_settled K) { nx := fun _ H' => Q .non H', rt := Q } (start nm__law_kind vs) H := by
  obtain ⟨f, r, c, s, rfl, hr, hc, hrc, hs, k⟩ := h
  have hr40 : r ≤ 40 := Nat.le_trans (Nat.le_mul_of_pos_right r hc) hrc
  have hc40 : c ≤ 40 := Nat.le_trans (Nat.le_mul_of_pos_left c hr) hrc
  refine q_asgL (el_lst ea_nil (by show 0 ≤ 100000; omega)) fun L H1 hL0 e1 hL => ?_
  refine q_forR (k := r) (ev_var rfl) (by omega) (fun i σ' H' => ∃ as y5 y6 y7 y8 y9 y10 y11, σ' = [some (.str (kindWord f)), some (.int ((r : Nat) : Int)), some (.int ((c : Nat) : Int)), some (.int ((s : Nat) : Int)), some (.ref L), y5, y6, y7, y8, y9, y10, y11] ∧ Ex H H' ∧ Own H H' L as (kindD f r c s (i * c)))
    (fun H2 e2 => ⟨[], none, none, none, none, none, none, none, rfl, e1.trans e2, by rw [Nat.zero_mul]; exact ⟨⟨e2 _ _ hL, rfl, fun i a r ha _ => by simp at ha⟩, List.nodup_nil, (by simp), (fun c hc => by cases hc), hL0⟩⟩) (fun i σ' H' hi ⟨as, y5, y6, y7, y8, y9, y10, y11, es, ex, ow⟩ => ?_) (fun σ' H' ⟨as, y5, y6, y7, y8, y9, y10, y11, es, ex, ow⟩ => ?_)
  · subst es
    refine s_forR (k := c) (ev_var rfl) (by omega) (fun j σ' H' => ∃ as y6 y7 y8 y9 y10 y11, σ' = [some (.str (kindWord f)), some (.int ((r : Nat) : Int)), some (.int ((c : Nat) : Int)), some (.int ((s : Nat) : Int)), some (.ref L), some (.int ((i : Nat) : Int)), y6, y7, y8, y9, y10, y11] ∧ Ex H H' ∧ Own H H' L as (kindD f r c s (i * c + j)))
      (fun H2 e2 => ⟨as, y6, y7, y8, y9, y10, y11, rfl, ex.trans e2, ow.mono e2⟩) (fun j σ' H' hj ⟨as, y6, y7, y8, y9, y10, y11, es, ex, ow⟩ => ?_) (fun σ' H' ⟨as, y6, y7, y8, y9, y10, y11, es, ex, ow⟩ => ?_)
    · subst es
      have hplace := pl_lt hi hj
      have ic : i * c ≤ 40 := by omega
      have mulc : ((i * c : Nat) : Int) = ((i : Nat) : Int) * ((c : Nat) : Int) := Int.natCast_mul i c
      have here : ((i : Nat) : Int) * ((c : Nat) : Int) + ((j : Nat) : Int) = ((i * c + j : Nat) : Int) := by rw [← mulc]; omega
      have left : ((i : Nat) : Int) * ((c : Nat) : Int) + (((j : Nat) : Int) - 1) % ((c : Nat) : Int) = ((leftP c i j : Nat) : Int) := by
        rw [round_nat (n := j + (c - 1)) (k := 1) (by rw [Nat.one_mul]; omega), ← mulc]
        unfold leftP
        omega
      refine q_asg (v := .int ((i * c + j : Nat) : Int)) (ev_is (ev_add (ev_mul (i := ((i : Nat) : Int)) (j := ((c : Nat) : Int)) (ev_var rfl) (ev_var rfl) (.inl (by omega))) (ev_var rfl)) (by rw [here])) fun H2 e2 => ?_
      refine q_asg (v := .int ((leftP c i j : Nat) : Int)) (ev_is (ev_add (ev_mul (i := ((i : Nat) : Int)) (j := ((c : Nat) : Int)) (ev_var rfl) (ev_var rfl) (.inl (by omega))) (ev_mod (i := ((j : Nat) : Int) - 1) (j := ((c : Nat) : Int)) (ev_sub (ev_var rfl) ev_c) (ev_var rfl) (by omega))) (by rw [left])) fun H3 e3 => ?_
      refine q_asg (ev_sub (i := ((i * c + j : Nat) : Int)) (j := ((c : Nat) : Int)) (ev_var rfl) (ev_var rfl)) fun H4 e4 => ?_
      refine q_asg (ev_sub (i := ((leftP c i j : Nat) : Int)) (j := ((c : Nat) : Int)) (ev_var rfl) (ev_var rfl)) fun H5 e5 => ?_
      have ow5 := ow.mono (e2.trans (e3.trans (e4.trans e5)))
      have x5 := ex.trans (e2.trans (e3.trans (e4.trans e5)))
      refine q_tie (fun σ' H' => σ' = [some (.str (kindWord f)), some (.int ((r : Nat) : Int)), some (.int ((c : Nat) : Int)), some (.int ((s : Nat) : Int)), some (.ref L), some (.int ((i : Nat) : Int)), some (.int ((j : Nat) : Int)), some (.int ((i * c + j : Nat) : Int)), some (.int ((leftP c i j : Nat) : Int)), some (.int ((belowP r c s i j : Nat) : Int)), some (.int ((slantP r c s i j : Nat) : Int)), y11] ∧ Ex H5 H') (fun σ' H' ⟨es, e6⟩ => ?_) (fun rest => ?_)
      · subst es
        have ow6 := ow5.mono e6
        have x6 := x5.trans e6
        have la := ow6.rows.2.1
        rw [kindD_length] at la
        have fin : ∀ {te : TE} {σ : L2.St} {H7 : Hp} {R : Ends}, σ[4]? = some (some (.ref L)) → Ex H' H7 → EvL te σ H7 (ni (kindRow f r c s i j)) → (∀ as H8, Ex H H8 → Own H H8 L as (kindD f r c s (i * c + (j + 1))) → R.nx σ H8) → tDrop (tBM K "list" rAppend (tVar 4) (tCons te tNil)) R σ H7 := fun {te σ H7 R} h4 e7 hl kk => by
          refine s_appL (ow6.mono e7).rows.1 (ev_var h4) hl (by rw [List.length_map, la]; omega) fun p H8 hp0 e8 hp => ?_
          obtain ⟨n1, n2⟩ := (ow6.mono e7).notin hp0
          have := ((ow6.mono (e7.trans e8)).push hp (fresh_back (x6.trans e7) hp0) n2 n1)
          rw [← kindD_next f hj] at this
          exact kk _ _ (Ex.mut (x6.trans (e7.trans e8)) ow.dnew) this
        cases f with
        | true =>
          have t := ev_op (ev_var (σ := [some (.str (kindWord true)), some (.int ((r : Nat) : Int)), some (.int ((c : Nat) : Int)), some (.int ((s : Nat) : Int)), some (.ref L), some (.int ((i : Nat) : Int)), some (.int ((j : Nat) : Int)), some (.int ((i * c + j : Nat) : Int)), some (.int ((leftP c i j : Nat) : Int)), some (.int ((belowP r c s i j : Nat) : Int)), some (.int ((slantP r c s i j : Nat) : Int)), y11]) (H := H') (i := 0) rfl) (ev_c (v := .str "fours")) (rv_eq (x := V.str (kindWord true)) (y := V.str "fours") rfl)
          rw [is_fours] at t
          refine s_if (et_test t) (fun _ H7 e7 => ?_) (fun hb => by cases hb)
          have row := el_lst (ea_cons (lin42 (σ := [some (.str (kindWord true)), some (.int ((r : Nat) : Int)), some (.int ((c : Nat) : Int)), some (.int ((s : Nat) : Int)), some (.ref L), some (.int ((i : Nat) : Int)), some (.int ((j : Nat) : Int)), some (.int ((i * c + j : Nat) : Int)), some (.int ((leftP c i j : Nat) : Int)), some (.int ((belowP r c s i j : Nat) : Int)), some (.int ((slantP r c s i j : Nat) : Int)), y11]) (H := H7) (v := 7) rfl) (ea_cons (lin4 (v := 7) rfl) (ea_cons (lin43 (v := 9) rfl) (ea_cons (lin41 (v := 8) rfl) ea_nil)))) (by show 4 ≤ 100000; omega)
          rw [← fours_ni] at row
          exact fin rfl e7 row fun as' H8 x8 ow8 => ⟨as', _, _, _, _, _, _, rfl, x8, ow8⟩
        | false =>
          have t := ev_op (ev_var (σ := [some (.str (kindWord false)), some (.int ((r : Nat) : Int)), some (.int ((c : Nat) : Int)), some (.int ((s : Nat) : Int)), some (.ref L), some (.int ((i : Nat) : Int)), some (.int ((j : Nat) : Int)), some (.int ((i * c + j : Nat) : Int)), some (.int ((leftP c i j : Nat) : Int)), some (.int ((belowP r c s i j : Nat) : Int)), some (.int ((slantP r c s i j : Nat) : Int)), y11]) (H := H') (i := 0) rfl) (ev_c (v := .str "fours")) (rv_eq (x := V.str (kindWord false)) (y := V.str "fours") rfl)
          rw [is_threes] at t
          refine s_if (et_test t) (fun hb => by cases hb) (fun _ H7 e7 => ?_)
          have row1 := el_lst (ea_cons (lin62 (σ := [some (.str (kindWord false)), some (.int ((r : Nat) : Int)), some (.int ((c : Nat) : Int)), some (.int ((s : Nat) : Int)), some (.ref L), some (.int ((i : Nat) : Int)), some (.int ((j : Nat) : Int)), some (.int ((i * c + j : Nat) : Int)), some (.int ((leftP c i j : Nat) : Int)), some (.int ((belowP r c s i j : Nat) : Int)), some (.int ((slantP r c s i j : Nat) : Int)), y11]) (H := H7) (v := 7) rfl) (ea_cons (lin64 (v := 7) rfl) (ea_cons (lin6 (v := 7) rfl) ea_nil))) (by show 3 ≤ 100000; omega)
          refine q_asgL row1 fun p H8 hp0 e8 hp => ?_
          have row2 := el_lst (ea_cons (lin63 (σ := [some (.str (kindWord false)), some (.int ((r : Nat) : Int)), some (.int ((c : Nat) : Int)), some (.int ((s : Nat) : Int)), some (.ref L), some (.int ((i : Nat) : Int)), some (.int ((j : Nat) : Int)), some (.int ((i * c + j : Nat) : Int)), some (.int ((leftP c i j : Nat) : Int)), some (.int ((belowP r c s i j : Nat) : Int)), some (.int ((slantP r c s i j : Nat) : Int)), some (.ref p)]) (H := H8) (v := 9) rfl) (ea_cons (lin65 (v := 10) rfl) (ea_cons (lin61 (v := 8) rfl) ea_nil))) (by show 3 ≤ 100000; omega)
          have cc := el_Vcat (ev_var (i := 11) rfl) hp row2 (by show 3 + 3 ≤ 100000; omega)
          rw [← threes_ni] at cc
          exact fin rfl (e7.trans e8) cc fun as' H8 x8 ow8 => ⟨as', _, _, _, _, _, _, rfl, x8, ow8⟩
      · refine q_when (b := decide (((i : Nat) : Int) = 0)) (et_test (ev_eqI (ev_var rfl) ev_c)) (fun hb H6 e6 => ?_) (fun hb H6 e6 => rest _ _ ⟨?_, e6⟩)
        · have i0 : i = 0 := by have := of_decide_eq_true hb; omega
          have rc : (((r - 1) * c : Nat) : Int) = (((r : Nat) : Int) - 1) * ((c : Nat) : Int) := by rw [Int.natCast_mul]; congr 1; omega
          have b1 : (((r : Nat) : Int) - 1) * ((c : Nat) : Int) + (((j : Nat) : Int) - ((s : Nat) : Int)) % ((c : Nat) : Int) = ((belowP r c s i j : Nat) : Int) := by
            rw [round_nat (n := j + (c - s)) (k := 1) (by rw [Nat.one_mul]; omega), ← rc]
            unfold belowP upRow
            rw [if_pos i0, if_pos i0]
            omega
          have b2 : (((r : Nat) : Int) - 1) * ((c : Nat) : Int) + (((j : Nat) : Int) - 1 - ((s : Nat) : Int)) % ((c : Nat) : Int) = ((slantP r c s i j : Nat) : Int) := by
            rw [round_nat (n := j + (2 * c - 1 - s)) (k := 2) (by omega), ← rc]
            unfold slantP upRow
            rw [if_pos i0, if_pos i0]
            omega
          refine q_asg (v := .int ((belowP r c s i j : Nat) : Int)) (ev_is (ev_add (ev_mul (i := ((r : Nat) : Int) - 1) (j := ((c : Nat) : Int)) (ev_sub (ev_var rfl) ev_c) (ev_var rfl) (.inl (by omega))) (ev_mod (i := ((j : Nat) : Int) - ((s : Nat) : Int)) (j := ((c : Nat) : Int)) (ev_sub (ev_var rfl) (ev_var rfl)) (ev_var rfl) (by omega))) (by rw [b1])) fun H7 e7 => ?_
          refine s_asg (v := .int ((slantP r c s i j : Nat) : Int)) (ev_is (ev_add (ev_mul (i := ((r : Nat) : Int) - 1) (j := ((c : Nat) : Int)) (ev_sub (ev_var rfl) ev_c) (ev_var rfl) (.inl (by omega))) (ev_mod (i := ((j : Nat) : Int) - 1 - ((s : Nat) : Int)) (j := ((c : Nat) : Int)) (ev_sub (ev_sub (ev_var rfl) ev_c) (ev_var rfl)) (ev_var rfl) (by omega))) (by rw [b2])) fun H8 e8 => ?_
          exact rest _ _ ⟨rfl, e6.trans (e7.trans e8)⟩
        · have i0 : i ≠ 0 := by have := of_decide_eq_false hb; omega
          obtain ⟨i', rfl⟩ : ∃ i', i = i' + 1 := ⟨i - 1, by omega⟩
          have m1 : (i' + 1) * c = i' * c + c := by rw [Nat.add_mul, Nat.one_mul]
          have b1 : (((i' + 1) * c + j : Nat) : Int) - ((c : Nat) : Int) = ((belowP r c s (i' + 1) j : Nat) : Int) := by
            unfold belowP upRow
            rw [if_neg i0, if_neg i0, m1, Nat.add_sub_cancel]
            omega
          have b2 : ((leftP c (i' + 1) j : Nat) : Int) - ((c : Nat) : Int) = ((slantP r c s (i' + 1) j : Nat) : Int) := by
            unfold slantP upRow leftP
            rw [if_neg i0, if_neg i0, m1, Nat.add_sub_cancel]
            omega
          rw [← b1, ← b2]
          rfl
    · subst es
      exact ⟨as, _, _, _, _, _, _, _, rfl, ex, by rw [Nat.add_mul, Nat.one_mul]; exact ow⟩
  · subst es
    have ok := kindD_ok f (r := r) (c := c) (s := s) hc
    refine s_retCall (ea_cons (ev_var rfl) ea_nil) fun H2 e2 => ⟨L, _, rfl, ⟨as, ow.rows.mono e2⟩, by rw [kindD_length]; omega, ?_, fun D' hl pm p H3 hp e3 h3 => ?_⟩
    · rw [ok.len]
      have : kindTies f ≤ 3 := by cases f <;> decide
      have := Nat.mul_le_mul this hrc
      omega
    · exact k D' (ok_of_perm (pm.trans ok.perm)) (by rw [hl, kindD_length]) p H3 (fresh_back (ex.trans e2) hp) (ex.trans (e2.trans e3)) h3
/-! ## some -/
def sp__law_grown (K : PySem.W.Frag) : Sp := fun vs H Q _ => ∃ (a : Addr) (ns : List Int) (hl : Nat), vs = [.ref a, .int 1, .int ((hl : Nat) : Int)] ∧ SqL K H a (zi ns) ∧ hl ≤ 1 ∧ ∀ D m, Ok D m → D.length ≤ 300 → m ≤ 300 → RetR D H Q
theorem pure__law_some (K : PySem.W.Frag) (vs : List V) (H : Hp) (Q : VK) (E : XK) (h : sp__law_some K vs H Q E) : t__law_some K (sp__law_cell K) (sp__law_drawing K) (sp__law_renamed K) (sp__law_grown K) (sp__law_kind K) (sp__law_numbers K) { nx := fun _ H' => Q .non H', rt := Q } (start nm__law_some vs) H := by
  obtain ⟨a, ns, c, rfl, ha, hc, k⟩ := h
  refine q_when (b := decide (((c : Nat) : Int) < 2)) (et_test (ev_lt (ev_var rfl) ev_c)) (fun _ H1 e1 => ?_) (fun hb H1 e1 => ?_)
  · exact s_retCall (ea_cons (ev_var rfl) (ea_cons ev_c (ea_cons ev_c ea_nil))) fun H2 e2 => ⟨a, ns, 1, rfl, ex_l (e1.trans e2) ha, fun D m ok l1 l2 p H3 hp e3 hr => k D m ok l1 l2 p H3 (fresh_back (e1.trans e2) hp) (e1.trans (e2.trans e3)) hr⟩
  · have c2 : 2 ≤ c := by have := of_decide_eq_false hb; omega
    refine q_when (b := decide (((c : Nat) : Int) < 6)) (et_test (ev_lt (ev_var rfl) ev_c)) (fun hb2 H2 e2 => ?_) (fun hb2 H2 e2 => ?_)
    · have c6 : c < 6 := by have := of_decide_eq_true hb2; omega
      refine s_retCall (ea_cons (ev_var rfl) (ea_cons ev_c (ea_cons (ev_is (w := .int ((c / 2 - 1 : Nat) : Int)) (ev_sub (i := ((c : Nat) : Int) / 2) (j := 1) (ev_div (i := ((c : Nat) : Int)) (j := 2) (ev_var rfl) ev_c ⟨by omega, by omega⟩) ev_c) (by rw [show ((c / 2 - 1 : Nat) : Int) = ((c : Nat) : Int) / 2 - 1 from by omega])) ea_nil))) fun H3 e3 => ?_
      exact ⟨a, ns, c / 2 - 1, rfl, ex_l (e1.trans (e2.trans e3)) ha, by omega, fun D m ok l1 l2 p H4 hp e4 hr => k D m ok l1 l2 p H4 (fresh_back (e1.trans (e2.trans e3)) hp) (e1.trans (e2.trans (e3.trans e4))) hr⟩
    · have c6 : 6 ≤ c := by have := of_decide_eq_false hb2; omega
      have x2 := e1.trans e2
      refine q_asgE (call_te2 (any_cell (k := 1) (ev_var rfl) ev_c (ex_l x2 ha)) (ev_c (v := .int 40)) fun z H3 e3 => ⟨z, rfl, fun r q s hr hq hrq hs t H4 ht0 e4 ht => ?_⟩)
      have x4 : Ex H H4 := x2.trans (e3.trans e4)
      obtain ⟨f, hf, hff⟩ : ∃ f : Bool, ([V.str "fours", V.str "threes"] : List V)[c - 6]? = some (.str (kindWord f)) ∧ c - 4 = kindTies f := by
        match c, hc, c6 with
        | 6, _, _ => exact ⟨true, rfl, rfl⟩
        | 7, _, _ => exact ⟨false, rfl, rfl⟩
      have word : Ev (tOp (rIxL K) (tLst (tCons (tC (.str "fours")) (tCons (tC (.str "threes")) tNil))) (tOp rMinus (tVar 1) (tC (.int 6)))) [some (.ref a), some (.int ((c : Nat) : Int)), some (.ref t), none] H4 (.str (kindWord f)) :=
        ev_opL0 (y := .int ((c - 6 : Nat) : Int)) (el_lst (vs := [V.str "fours", V.str "threes"]) (ea_cons ev_c (ea_cons ev_c ea_nil)) (by show 2 ≤ 100000; omega)) (ev_is (ev_sub (i := ((c : Nat) : Int)) (j := 6) (ev_var rfl) ev_c) (by rw [show ((c - 6 : Nat) : Int) = ((c : Nat) : Int) - 6 from by omega])) fun p H5 h5 e5 => rv_ixL (sq_of h5) (atI_nat hf)
      show tSeq (tAsg (tCall (sp__law_kind K) [] E0 _) (gName 3)) _ _ [some (.ref a), some (.int ((c : Nat) : Int)), some (.ref t), none] H4
      refine q_asgCall (ea_cons word (ea_cons (ev_ixU (k := 0) (ev_var rfl) ev_c (st_of ht) rfl) (ea_cons (ev_ixU (k := 1) (ev_var rfl) ev_c (st_of ht) rfl) (ea_cons (ev_ixU (k := 2) (ev_var rfl) ev_c (st_of ht) rfl) ea_nil)))) fun H5 e5 => ⟨f, r, q, s, rfl, hr, hq, hrq, hs, fun D ok hD d H6 hd0 e6 hd => ?_⟩
      have x6 : Ex H H6 := x4.trans (e5.trans e6)
      have ties : kindTies f * (r * q) ≤ 120 := by
        have : kindTies f ≤ 3 := by cases f <;> decide
        have := Nat.mul_le_mul this hrq
        omega
      show tRet (tCall (sp__law_renamed K) [] E0 _) _ [some (.ref a), some (.int ((c : Nat) : Int)), some (.ref t), some (.ref d)] H6
      refine s_retE (call_any3 (ev_var (v := .ref d) rfl) (ev_is (w := .int ((kindTies f * (r * q) : Nat) : Int)) (ev_mul (i := ((c : Nat) : Int) - 4) (j := ((D.length : Nat) : Int)) (ev_sub (ev_var rfl) ev_c) (rows_len (ev_var rfl) hd) (.inl (by omega))) (by rw [hD, ← hff, Int.natCast_mul (c - 4) (r * q), show ((c - 4 : Nat) : Int) = ((c : Nat) : Int) - 4 from by omega])) (any_cell (k := 2) (ev_var rfl) ev_c (ex_l x6 ha)) fun z2 H7 e7 => ?_)
      exact ⟨d, D, kindTies f * (r * q), z2, rfl, ⟨hd.mono e7, ok, by omega, by omega⟩, by omega, by omega, fun D' ok' hD' p H8 hp e8 hr8 => k D' _ ok' (by omega) (by omega) p H8 (fresh_back (x6.trans e7) hp) (x6.trans (e7.trans e8)) hr8⟩
end RF

set_option Elab.async false
set_option linter.all false
set_option maxRecDepth 100000
set_option maxHeartbeats 1000000
namespace RF
open PySem PySem.Spec PyProof.Rows L2 Evl
/-! ## tied -/
def But (as : List Addr) (H H' : Hp) : Prop := ∀ x o, x ∉ as → H x = some o → H' x = some o
theorem But.of_ex {as : List Addr} {H H' : Hp} (h : Ex H H') : But as H H' := fun x o _ e => h x o e
theorem But.trans {as : List Addr} {H H1 H2 : Hp} (a : But as H H1) (b : But as H1 H2) : But as H H2 := fun x o n e => b x o n (a x o n e)
theorem But.upd {as : List Addr} {H H' : Hp} {p : Addr} {o : HO} (h : But as H H') (hp : p ∈ as) : But as H (L2.upd H' p o) := fun x u n e => by
  rw [upd_ne (fun z => n (by rw [z]; exact hp))]
  exact h x u n e
theorem But.ex {as : List Addr} {H0 H H' : Hp} (h : But as H H') (e : Ex H0 H) (n : ∀ c ∈ as, H0 c = none) : Ex H0 H' := fun x o hx => h x o (fun hm => by rw [n x hm] at hx; cases hx) (e x o hx)
def NoH : Hp := fun _ => none
def sp__law_tied (K : PySem.W.Frag) : Sp := fun vs H Q _ => ∃ (d : Addr) (as : List Addr) (D : Dw) (t one two : Nat) (high : Bool), vs = [.ref d, .int ((t : Nat) : Int), .int ((one : Nat) : Int), .int ((two : Nat) : Int), .bl high] ∧ RowsA H d as D ∧ as.Nodup ∧ d ∉ as ∧ Ok D t ∧ D.length ≤ 300 ∧ t ≤ 300 ∧
  (t = 0 → D = [[]]) ∧ (high = true → Two D t) ∧ ∀ D' H', Ok D' (t + 1) → D'.length = D.length → (high = false → Two D' (t + 1)) → But as H H' → RowsA H' d as D' → Q .non H'
theorem inV_ni (l : List Nat) (e : Nat) : inV (.int ((e : Nat) : Int)) (ni l) = decide (e ∈ l) := by
  induction l with
  | nil => rfl
  | cons x l ih =>
    show (((x : Nat) : Int) == ((e : Nat) : Int) || inV (.int ((e : Nat) : Int)) (ni l)) = _
    rw [ih]
    by_cases h : x = e
    · simp [h]
    · have h2 : ¬ ((x : Nat) : Int) = ((e : Nat) : Int) := by omega
      have h3 : ¬ e = x := fun z => h z.symm
      simp [h2, h3]
theorem flat_ni (l : List Nat) : (ni l).all flatV = true := List.all_eq_true.mpr fun z hz => by
  obtain ⟨n, _, rfl⟩ := List.mem_map.mp hz
  rfl
theorem given_ni (n : Nat) (f : Nat → Bool) : given n f (fun i => V.int ((i : Nat) : Int)) = ni ((List.range n).filter f) := rfl
section
variable {K : PySem.W.Frag} {σ : L2.St} {H : Hp} {ta tb : TE} {g : TG} {tu tz : TS} {D : Ends}
theorem s_forTups2 {xs ys : List V} (h1 : EvU ta σ H xs) (h2 : EvU tb σ H ys) (k : ∀ p1 p2 l H1, H p1 = none → H p2 = none → H l = none → Ex H H1 → H1 p1 = some (.tup xs) → H1 p2 = some (.tup ys) → H1 l = some (.lst [.ref p1, .ref p2]) → tFor (iList K (tC (.ref l))) g tu D σ H1) : tFor (iList K (tLst (tCons ta (tCons tb tNil)))) g tu D σ H := by
  refine h1 H (Ex.refl H) _ fun p1 H1 hp1 e1 h1' => ?_
  refine h2 H1 e1 _ fun p2 H2 hp2 e2 h2' => ?_
  refine ⟨sz_of (by show 2 ≤ 100000; omega), fun l hl => ?_⟩
  exact k p1 p2 l _ hp1 (fresh_back e1 hp2) (fresh_back (e1.trans e2) hl) ((e1.trans e2).trans (Ex.new hl)) (Ex.new hl _ _ (e2 _ _ h1')) (Ex.new hl _ _ h2') upd_same
theorem names2 {p : Addr} {a b : V} {i j : Nat} {R : L2.St → Hp → Prop} (h : SqT K H p [a, b]) (q : R ((σ.set i (some a)).set j (some b)) H) : gTup K 2 (gCons (gName i) (gCons (gName j) gNil)) (.ref p) σ H R :=
  ⟨p, _, rfl, h, rfl, a, [b], rfl, b, [], rfl, rfl, q⟩
end
theorem take_map_set {D : Dw} {f : List Nat → List Nat} {i : Nat} {r : List Nat} (hr : D[i]? = some r) : ((D.take i).map f ++ D.drop i).set i (f r) = (D.take (i + 1)).map f ++ D.drop (i + 1) := by
  have hi := (List.getElem?_eq_some_iff.mp hr).1
  have e : D.drop i = r :: D.drop (i + 1) := by
    have := (List.getElem?_eq_some_iff.mp hr).2
    rw [← this, List.getElem_cons_drop]
  have l1 : ((D.take i).map f).length = i := by rw [List.length_map, List.length_take]; omega
  rw [e, List.set_append_right _ _ (by omega), l1, Nat.sub_self, List.set_cons_zero, List.take_add_one, hr, List.map_append, List.append_assoc]
  rfl
/-- the tie's end x is put ahead of the end e -/
theorem tied_put {K : PySem.W.Frag} {H : Hp} {d : Addr} {as : List Addr} {B : Dw} {e x : Nat} {w1 w2 w3 w4 w5 w6 w7 w9 w10 w11 w13 : Option V} {D : Ends} (ow : Own NoH H d as B) (hz : B.flatten.length ≤ 10000) (k : ∀ w13 H', But as H H' → Own NoH H' d as (insB B e x) → D.nx [some (.ref d), w1, w2, w3, w4, w5, w6, w7, some (.int ((e : Nat) : Int)), w9, w10, w11, some (.int ((x : Nat) : Int)), w13] H') :
    tFor (iList K (tVar 0)) (gName 13) (tIfS (tTest (tOp (rIn K false) (tVar 8) (tVar 13))) (tDrop (tBM K "list" rInsertL (tVar 13) (tCons (tBM K "list" (rIndex K) (tVar 13) (tCons (tVar 8) tNil)) (tCons (tVar 12) tNil)))) tNext) D [some (.ref d), w1, w2, w3, w4, w5, w6, w7, some (.int ((e : Nat) : Int)), w9, w10, w11, some (.int ((x : Nat) : Int)), w13] H := by
  have la := ow.rows.2.1
  refine s_forLn (K := K) (xs := as.map V.ref) (ev_var rfl) (sq_of ow.rows.1) (fun i σ' H' => ∃ w13, σ' = [some (.ref d), w1, w2, w3, w4, w5, w6, w7, some (.int ((e : Nat) : Int)), w9, w10, w11, some (.int ((x : Nat) : Int)), w13] ∧ But as H H' ∧ Own NoH H' d as ((B.take i).map (insR e x) ++ B.drop i))
    (fun H1 e1 => ⟨w13, rfl, But.of_ex e1, by simpa using ow.mono e1⟩) (fun i σ' H' _ ⟨_, _, _, o⟩ => sq_of o.rows.1) (fun i v σ' H' hv ⟨w13, es, bt, o⟩ => ?_) (fun σ' H' ⟨w13, es, bt, o⟩ => ?_)
  · subst es
    rw [List.getElem?_map] at hv
    cases ea : as[i]? with
    | none => rw [ea] at hv; cases hv
    | some a =>
      rw [ea] at hv
      rw [← Option.some.inj hv]
      have hi : i < B.length := by rw [← la]; exact (List.getElem?_eq_some_iff.mp ea).1
      obtain ⟨r, hr⟩ : ∃ r, B[i]? = some r := ⟨_, List.getElem?_eq_getElem hi⟩
      have rz := row_flat_len hr
      have cur : ((B.take i).map (insR e x) ++ B.drop i)[i]? = some r := by
        have l1 : ((B.take i).map (insR e x)).length = i := by rw [List.length_map, List.length_take]; omega
        rw [List.getElem?_append_right (by omega), l1, Nat.sub_self, List.getElem?_drop]
        exact hr
      have ha := o.rows.2.2 i a r ea cur
      have st := take_map_set (f := insR e x) hr
      have isin := ev_op (σ := [some (.ref d), w1, w2, w3, w4, w5, w6, w7, some (.int ((e : Nat) : Int)), w9, w10, w11, some (.int ((x : Nat) : Int)), some (.ref a)]) (H := H') (ev_var (i := 8) (v := .int ((e : Nat) : Int)) rfl) (ev_var (i := 13) rfl) (rv_isL (sq_of (K := K) ha) rfl (flat_ni r))
      rw [inV_ni] at isin
      refine s_when (et_test isin) (fun hb H1 e1 => ?_) (fun hb H1 e1 => ?_)
      · have he : e ∈ r := of_decide_eq_true hb
        have hl := List.idxOf_lt_length_of_mem he
        refine s_ins (k := r.idxOf e) (e1 _ _ ha) (ev_var rfl) (ev_idx (ev_var rfl) (ev_var rfl) (sq_of (e1 _ _ ha)) he) (ev_var (v := .int ((x : Nat) : Int)) rfl) (by omega) (by rw [ni_length]; omega) fun H2 e2 => ?_
        have en : (ni r).take (r.idxOf e) ++ [V.int ((x : Nat) : Int)] ++ (ni r).drop (r.idxOf e) = ni (insR e x r) := by
          unfold insR
          rw [if_pos he]
          unfold ni
          simp only [List.map_append, List.map_take, List.map_drop]
          rfl
        rw [en]
        refine ⟨_, rfl, (bt.trans (But.of_ex (e1.trans e2))).upd (List.mem_of_getElem? ea), ?_⟩
        have := (o.mono (e1.trans e2)).put (r' := insR e x r) ea
        rw [st] at this
        exact this
      · have he : e ∉ r := of_decide_eq_false hb
        refine ⟨_, rfl, bt.trans (But.of_ex e1), ?_⟩
        rw [← st, insR_no he]
        have e2 : ((B.take i).map (insR e x) ++ B.drop i).set i r = (B.take i).map (insR e x) ++ B.drop i := by
          apply List.ext_getElem?
          intro j
          by_cases z : j = i
          · rw [z, List.getElem?_set_self (List.getElem?_eq_some_iff.mp cur).1, cur]
          · rw [List.getElem?_set_ne fun w => z w.symm]
        rw [e2]
        exact o.mono e1
  · subst es
    rw [List.length_map, la, List.take_length, List.drop_length, List.append_nil] at o
    exact k _ H' bt o
theorem pure__law_tied (K : PySem.W.Frag) (vs : List V) (H : Hp) (Q : VK) (E : XK) (h : sp__law_tied K vs H Q E) : t__law_tied K (sp__law_lands K) { nx := fun _ H' => Q .non H', rt := Q } (start nm__law_tied vs) H := by
  obtain ⟨d, as, D, t, one, two, high, rfl, ra, nda, out, ok, hD, ht, first, hi, k⟩ := h
  have la := ra.2.1
  refine q_when (b := decide (((t : Nat) : Int) = 0)) (et_test (ev_eqI (ev_var rfl) ev_c)) (fun hb H1 e1 => ?_) (fun hb H1 e1 => ?_)
  · have t0 : t = 0 := by have := of_decide_eq_true hb; omega
    have hD0 := first t0
    subst t0
    subst hD0
    have lo : as.length = 1 := la
    obtain ⟨a, rfl⟩ : ∃ a, as = [a] := List.length_eq_one_iff.mp lo
    have ha : H a = some (.lst (ni [])) := ra.2.2 0 a [] rfl rfl
    refine q_ext (xs := []) (ys := ni [0, 1]) (e1 _ _ ha) (ev_ixL (k := 0) (ev_var rfl) ev_c (sq_of (e1 _ _ ra.1)) rfl) (el_lst (ea_cons ev_c (ea_cons ev_c ea_nil)) (by show 2 ≤ 100000; omega)) (by show 0 + 2 ≤ 100000; omega) fun H2 e2 => ?_
    refine k [[0, 1]] _ ok_first rfl (fun _ => two_first) ((But.of_ex (e1.trans e2)).upd List.mem_cons_self) ?_
    have o := (⟨ra.mono (e1.trans e2), nda, out, (fun _ _ => rfl), rfl⟩ : Own NoH H2 d [a] [[]]).put (r' := [0, 1]) (i := 0) rfl
    exact o.rows
  · have t1 : 1 ≤ t := by have := of_decide_eq_false hb; omega
    have dr1 : Dr H1 d D t := ⟨⟨as, ra.mono e1⟩, ok, by omega, by omega⟩
    have hL := ok.lands
    have zL := lands_length (D := D) (m := t)
    refine q_asgR (er_llands (ev_var rfl) dr1) fun ls H2 hls0 e2 hls => ?_
    have fl : (lands D t).flatten.length ≤ 2 * t := nodup_bound hL.nd fun x hx => (hL.mem x).mp hx
    let g : Nat → Int := fun e => ((seat (lands D t) e : Nat) : Int)
    refine q_asgD ed_new fun c H3 hc0 e3 hc => ?_
    refine q_forR (rows_len (ev_var rfl) (hls.mono e3)) (by omega) (fun i σ' H' => ∃ y7 y8, σ' = [some (.ref d), some (.int ((t : Nat) : Int)), some (.int ((one : Nat) : Int)), some (.int ((two : Nat) : Int)), some (.bl high), some (.ref ls), some (.ref c), y7, y8, none, none, none, none, none] ∧ Ex H2 H' ∧ H' c = some (.dK (dT (gT g ((lands D t).take i).flatten))))
      (fun H4 e4 => ⟨none, none, rfl, e3.trans e4, e4 _ _ hc⟩) (fun i σ' H' hi ⟨y7, y8, es, ex, hc⟩ => ?_) (fun σ' H' ⟨y7, y8, es, ex, hc⟩ => ?_)
    · subst es
      obtain ⟨l, hl⟩ : ∃ l, (lands D t)[i]? = some l := ⟨_, List.getElem?_eq_getElem hi⟩
      obtain ⟨xs, a, hx1, _, hx2, hx3⟩ := hls.at hl
      refine s_forN (K := K) (l := l) (H0 := H2) (ev_ixL (ev_var rfl) (ev_var rfl) (sq_of (ex _ _ hx1)) hx2) (sq_of hx3) (fun j σ' H' => ∃ y8, σ' = [some (.ref d), some (.int ((t : Nat) : Int)), some (.int ((one : Nat) : Int)), some (.int ((two : Nat) : Int)), some (.bl high), some (.ref ls), some (.ref c), some (.int (i : Int)), y8, none, none, none, none, none] ∧ Ex H2 H' ∧ H' c = some (.dK (dT (gT g (((lands D t).take i).flatten ++ l.take j)))))
        (fun H5 e5 => ⟨y8, rfl, ex.trans e5, by simpa using e5 _ _ hc⟩) (fun j σ' H' ⟨_, _, e, _⟩ => e) (fun j e σ' H' he ⟨y8, es, ex', hc'⟩ => ?_) (fun σ' H' ⟨y8, es, ex', hc'⟩ => ?_)
      · subst es
        have fz := flat_lt hl he
        refine s_dput (v := .int ((i : Nat) : Int)) (ev_var rfl) (ev_var rfl) (ev_var rfl) hc' (by rw [dT_length, gT_length]; omega) fun H6 e6 => ⟨_, rfl, Ex.mut (ex'.trans e6) hc0, ?_⟩
        have eg : ((i : Nat) : Int) = g e := by
          show _ = ((seat (lands D t) e : Nat) : Int)
          rw [flat_seat hL.nd hl (List.mem_of_getElem? he)]
        rw [upd_same, eg, gT_put (flat_new hL.nd hl he), List.append_assoc, List.take_add_one, he]
        rfl
      · refine ⟨_, _, es, ex', ?_⟩
        rw [take_flat_succ hl]
        rw [List.take_length] at hc'
        exact hc'
    · subst es
      rw [List.take_length] at hc
      have gmem : ∀ e, e < 2 * t → valV (dT (gT g (lands D t).flatten)) (.inl ((e : Nat) : Int)) = some (.int (g e)) := fun e he => valV_gT ((hL.mem e).mpr he)
      obtain ⟨f1, ef1⟩ : ∃ f1, f1 = one % (2 * t) := ⟨_, rfl⟩
      have hf1 : f1 < 2 * t := by rw [ef1]; exact Nat.mod_lt _ (by omega)
      have tt : ∀ {σ : L2.St} {H' : Hp}, σ[1]? = some (some (.int ((t : Nat) : Int))) → Ev (tOp rTimes (tC (.int 2)) (tVar 1)) σ H' (.int ((2 * t : Nat) : Int)) := fun {σ H'} h =>
        ev_is (ev_mul (i := 2) (j := ((t : Nat) : Int)) ev_c (ev_var h) (.inl (by omega))) (by rw [show ((2 * t : Nat) : Int) = 2 * ((t : Nat) : Int) from by omega])
      refine q_asg (v := .int ((f1 : Nat) : Int)) (ev_is (ev_mod (i := ((one : Nat) : Int)) (j := ((2 * t : Nat) : Int)) (ev_var rfl) (tt rfl) (by omega)) (by rw [ef1, Int.natCast_emod])) fun H4 e4 => ?_
      have hc4 := e4 _ _ hc
      let P : Nat → Bool := fun e => decide (V.bl (!decide (g e = g f1)) = V.bl high)
      have lc := el_lcR1 (ta := tCons (tOp rTimes (tC (.int 2)) (tVar 1)) tNil) (n := ((2 * t : Nat) : Int)) (j := 8) (vs := [8]) (σ := [some (.ref d), some (.int ((t : Nat) : Int)), some (.int ((one : Nat) : Int)), some (.int ((two : Nat) : Int)), some (.bl high), some (.ref ls), some (.ref c), y7, y8, some (.int ((f1 : Nat) : Int)), none, none, none, none]) (H := H4) (t := tTest (tOp rEq (tOp rNe (tDGet (tVar 6) (tVar 8)) (tDGet (tVar 6) (tVar 9))) (tVar 4))) (te := tVar 8) P (fun i => V.int ((i : Nat) : Int)) (ea_cons (tt rfl) ea_nil) ⟨by omega, by omega⟩ (fun _ => rfl)
        (fun e H5 e5 he => et_test (ev_op (ev_neI (ev_dget (ev_var rfl) (ev_var rfl) (.inl (e5 _ _ hc4)) (gmem e (by omega))) (ev_dget (ev_var rfl) (ev_var rfl) (.inl (e5 _ _ hc4)) (gmem f1 hf1))) (ev_var (i := 4) rfl) (rv_eq rfl))) (fun e H5 e5 he _ => ev_var rfl)
      rw [Int.toNat_natCast, given_ni] at lc
      have ges : ∀ e, g e = g f1 ↔ seat (lands D t) e = seat (lands D t) f1 := fun e => by
        show ((seat (lands D t) e : Nat) : Int) = ((seat (lands D t) f1 : Nat) : Int) ↔ _
        omega
      have ne : (List.range (2 * t)).filter P ≠ [] := by
        cases hh : high with
        | false =>
          refine List.ne_nil_of_mem (a := f1) (List.mem_filter.mpr ⟨List.mem_range.mpr hf1, ?_⟩)
          show decide (V.bl (!decide (g f1 = g f1)) = V.bl high) = true
          rw [decide_eq_true rfl, hh]
          exact decide_eq_true rfl
        | true =>
          obtain ⟨e, he, hne⟩ := (hi hh).lands ok hL f1
          refine List.ne_nil_of_mem (a := e) (List.mem_filter.mpr ⟨List.mem_range.mpr he, ?_⟩)
          show decide (V.bl (!decide (g e = g f1)) = V.bl high) = true
          rw [decide_eq_false fun w => hne ((ges e).mp w), hh]
          exact decide_eq_true rfl
      have mem : ∀ e ∈ (List.range (2 * t)).filter P, e < 2 * t ∧ (high = false → seat (lands D t) e = seat (lands D t) f1) := fun e he => by
        obtain ⟨h1, h2⟩ := List.mem_filter.mp he
        refine ⟨List.mem_range.mp h1, fun hh => (ges e).mp ?_⟩
        have h3 : V.bl (!decide (g e = g f1)) = V.bl high := of_decide_eq_true h2
        rw [hh] at h3
        have h4 : (!decide (g e = g f1)) = false := V.bl.inj h3
        simpa using h4
      have eslen : ((List.range (2 * t)).filter P).length ≤ 2 * t := Nat.le_trans (List.length_filter_le _ _) (by rw [List.length_range]; omega)
      generalize (List.range (2 * t)).filter P = Es at lc ne mem eslen
      refine q_asgL lc fun es H5 hes0 e5 hes => ?_
      have epos : 0 < Es.length := List.length_pos_iff.mpr ne
      obtain ⟨s2, hs2⟩ : ∃ s2, Es[two % Es.length]? = some s2 := ⟨_, List.getElem?_eq_getElem (Nat.mod_lt _ epos)⟩
      obtain ⟨ls2, same⟩ := mem s2 (List.mem_of_getElem? hs2)
      have lE := ev_len (K := K) (σ := [some (.ref d), some (.int ((t : Nat) : Int)), some (.int ((one : Nat) : Int)), some (.int ((two : Nat) : Int)), some (.bl high), some (.ref ls), some (.ref c), y7, y8, some (.int ((f1 : Nat) : Int)), some (.ref es), none, none, none]) (H := H5) (ta := tVar 10) (ev_var rfl) (sq_of hes)
      rw [ni_length] at lE
      refine q_asg (ev_ixL (k := two % Es.length) (ev_var rfl) (ev_is (ev_mod (i := ((two : Nat) : Int)) (j := ((Es.length : Nat) : Int)) (ev_var rfl) lE (by omega)) (by rw [Int.natCast_emod])) (sq_of hes) (ni_get hs2)) fun H6 e6 => ?_
      obtain ⟨ok2, _⟩ := tied_facts ok hf1 ls2
      have two2 : high = false → Two (tiedD D t f1 s2) (t + 1) := fun hh => by
        refine tied_two ok hf1 ls2 ?_
        obtain ⟨i, l, h1, h2⟩ := hL.of hf1
        obtain ⟨j, l', h3, h4⟩ := hL.of ls2
        have e1 := flat_seat hL.nd h1 h2
        have e2 := flat_seat hL.nd h3 h4
        have ij : j = i := by rw [← e1, ← e2, same hh]
        rw [ij, h1] at h3
        rw [← Option.some.inj h3] at h4
        exact land_reach ok hL h1 h2 h4
      have x6 : Ex H H6 := e1.trans (e2.trans (ex.trans (e4.trans (e5.trans e6))))
      show tFor _ _ _ _ [some (.ref d), some (.int ((t : Nat) : Int)), some (.int ((one : Nat) : Int)), some (.int ((two : Nat) : Int)), some (.bl high), some (.ref ls), some (.ref c), y7, y8, some (.int ((f1 : Nat) : Int)), some (.ref es), some (.int ((s2 : Nat) : Int)), none, none] H6
      refine s_forTups2 (eu_tup (ea_cons (tt rfl) (ea_cons (ev_var (v := .int ((f1 : Nat) : Int)) rfl) ea_nil)) (by show 2 ≤ 100000; omega)) (eu_tup (ea_cons (ev_is (w := .int ((2 * t + 1 : Nat) : Int)) (ev_add (i := ((2 * t : Nat) : Int)) (j := 1) (tt rfl) ev_c) (by rw [show ((2 * t + 1 : Nat) : Int) = ((2 * t : Nat) : Int) + 1 from by omega])) (ea_cons (ev_var (v := .int ((s2 : Nat) : Int)) rfl) ea_nil)) (by show 2 ≤ 100000; omega)) fun p1 p2 l H7 hp1 hp2 hl0 e7 h1 h2 hl => ?_
      have o6 : Own NoH H6 d as D := ⟨ra.mono x6, nda, out, (fun _ _ => rfl), rfl⟩
      have npas : ∀ {p}, H6 p = none → p ∉ as := fun {p} hp => (o6.notin hp).1
      have b7 : But as H H7 := But.of_ex (x6.trans e7)
      have fz : D.flatten.length = 2 * t := ok.len
      have fz1 : (insB D f1 (2 * t)).flatten.length = 2 * t + 1 := by
        rw [(insB_perm ok.nd ((ok.mem f1).mpr hf1)).length_eq, List.length_cons, fz]
      have keep : ∀ {H' p o}, But as H7 H' → H6 p = none → H7 p = some o → H' p = some o := fun b hp h => b _ _ (npas hp) h
      refine s_forL (K := K) (xs := [V.ref p1, V.ref p2]) ev_c (sq_of hl) (fun i σ' H' => But as H7 H' ∧ ∃ y8 y12 y13, σ' = [some (.ref d), some (.int ((t : Nat) : Int)), some (.int ((one : Nat) : Int)), some (.int ((two : Nat) : Int)), some (.bl high), some (.ref ls), some (.ref c), y7, y8, some (.int ((f1 : Nat) : Int)), some (.ref es), some (.int ((s2 : Nat) : Int)), y12, y13] ∧ ((i = 0 ∧ Own NoH H' d as D) ∨ (i = 1 ∧ Own NoH H' d as (insB D f1 (2 * t))) ∨ (i = 2 ∧ Own NoH H' d as (tiedD D t f1 s2))))
        (fun H8 e8 => ⟨But.of_ex e8, y8, none, none, rfl, .inl ⟨rfl, o6.mono (e7.trans e8)⟩⟩) (fun i σ' H' _ ⟨b, _⟩ => sq_of (keep b hl0 hl)) (fun i v σ' H' hv ⟨b, y8, y12, y13, es', cs⟩ => ?_) (fun σ' H' ⟨b, y8, y12, y13, es', cs⟩ => ?_)
      · subst es'
        rcases cs with ⟨rfl, o⟩ | ⟨rfl, o⟩ | ⟨rfl, o⟩
        · rw [← show V.ref p1 = v from Option.some.inj hv]
          refine names2 (st_of (keep b hp1 h1)) ?_
          refine tied_put o (by omega) fun w13 H8 b8 o8 => ⟨b.trans b8, _, _, _, rfl, .inr (.inl ⟨rfl, o8⟩)⟩
        · rw [← show V.ref p2 = v from Option.some.inj hv]
          refine names2 (st_of (keep b hp2 h2)) ?_
          refine tied_put o (by omega) fun w13 H8 b8 o8 => ⟨b.trans b8, _, _, _, rfl, .inr (.inr ⟨rfl, o8⟩)⟩
        · cases hv
      · subst es'
        rcases cs with ⟨h, _⟩ | ⟨h, _⟩ | ⟨_, o⟩
        · cases h
        · cases h
        · refine k _ H' ok2 ?_ two2 (b7.trans b) o.rows
          unfold tiedD
          rw [insB_length, insB_length]
end RF

set_option Elab.async false
set_option linter.all false
set_option maxRecDepth 100000
set_option maxHeartbeats 1000000
namespace RF
open PySem PySem.Spec PyProof.Rows L2 Evl
/-! ## grown -/
theorem rep_pair (s n : Nat) : (List.replicate n [V.int ((s : Nat) : Int), V.int ((s : Nat) : Int)]).flatten = ni (List.replicate (2 * n) s) := by
  induction n with
  | zero => rfl
  | succ n ih =>
    rw [List.replicate_succ, List.flatten_cons, ih, show 2 * (n + 1) = 2 * n + 1 + 1 from by omega, List.replicate_succ, List.replicate_succ]
    rfl
theorem set_flat {D : Dw} {r r' : List Nat} {e : Nat} {j : Nat} (h : D[j]? = some r) (p : r'.Perm (e :: r)) : (D.set j r').flatten.Perm (e :: D.flatten) := by
  induction D generalizing j with
  | nil => simp at h
  | cons x D ih =>
    cases j with
    | zero =>
      rw [show x = r from Option.some.inj h, List.set_cons_zero, List.flatten_cons, List.flatten_cons]
      exact p.append_right _
    | succ j =>
      rw [List.set_cons_succ, List.flatten_cons, List.flatten_cons]
      exact ((ih h).append_left x).trans List.perm_middle
theorem ins_perm (r : List Nat) (k e : Nat) : (r.take k ++ [e] ++ r.drop k).Perm (e :: r) := by
  rw [List.append_assoc]
  have := List.perm_middle (a := e) (l₁ := r.take k) (l₂ := r.drop k)
  rwa [List.take_append_drop] at this
theorem ni_ins (l : List Nat) (k z : Nat) : (ni l).take k ++ [.int ((z : Nat) : Int)] ++ (ni l).drop k = ni (l.take k ++ [z] ++ l.drop k) := by
  unfold ni
  simp only [List.map_append, List.map_take, List.map_drop]
  rfl
section
variable {K : PySem.W.Frag} {σ : L2.St} {H : Hp} {ta : TA} {te : TE} {tz : TS} {D : Ends} {n : Nat} {sp : Sp} {E : XK} {vs : List V}
/-- x = [[..]] -/
theorem q_asgOne {xs : List V} (h : EvL te σ H xs) (k : ∀ a p H1, H a = none → H p = none → a ≠ p → Ex H H1 → H1 a = some (.lst xs) → H1 p = some (.lst [.ref a]) → tz D (σ.set n (some (.ref p))) H1) : tSeq (tAsg (tLst (tCons te tNil)) (gName n)) tz D σ H := by
  show te σ H fun x H1 => tNil σ H1 fun zs H3 => (x :: zs).length ≤ sizeLine ∧ ∀ p, H3 p = none → tz D (σ.set n (some (.ref p))) (upd H3 p (.lst (x :: zs)))
  refine h H (Ex.refl H) _ fun a H1 ha e1 hA => ?_
  exact ⟨sz_of (by show 1 ≤ 100000; omega), fun p hp => k a p _ ha (fresh_back e1 hp) (fun z => by rw [z, hp] at hA; cases hA) (e1.trans (Ex.new hp)) (Ex.new hp _ _ hA) upd_same⟩
theorem s_dropCall (ha : EvA ta σ H vs) (k : ∀ H1, Ex H H1 → sp vs H1 (fun _ H2 => D.nx σ H2) E) : tDrop (tCall sp [] E ta) D σ H := by
  show ta σ H fun xs H1 => sp (xs ++ []) H1 (fun _ H2 => D.nx σ H2) E
  refine ha H (Ex.refl H) _ fun H1 e => ?_
  rw [List.append_nil]
  exact k H1 e
end
theorem pure__law_grown (K : PySem.W.Frag) (vs : List V) (H : Hp) (Q : VK) (E : XK) (h : sp__law_grown K vs H Q E) : t__law_grown K (sp__law_cell K) (sp__law_draws K) (sp__law_tied K) (sp__law_renamed K) { nx := fun _ H' => Q .non H', rt := Q } (start nm__law_grown vs) H := by
  obtain ⟨a, ns, hl, rfl, ha, hhl, k⟩ := h
  refine q_asgE (draws_any (S := [6, 5, 420]) (any_cell (k := 1) (ev_var rfl) (ev_var rfl) ha) (el_lst (ea_cons ev_c (ea_cons ev_c (ea_cons ev_c ea_nil))) (by show 3 ≤ 100000; omega)) (by show 3 ≤ 10000; omega) (by decide) fun F p0 H1 hu hp0 e1 hF => ?_)
  obtain ⟨S, m0, lt, rfl, hS, hm0, hlt⟩ := under3 hu
  refine names3 (sq_of hF) ?_
  show tSeq _ _ _ [some (.ref a), some (.int 1), some (.int ((hl : Nat) : Int)), some (.int ((S : Nat) : Int)), some (.int ((m0 : Nat) : Int)), some (.int ((lt : Nat) : Int)), none, none, none, none, none, none] H1
  have z1 := el_rep (xs := [V.int ((60 : Nat) : Int), V.int ((60 : Nat) : Int)]) (k := S) (ta := tLst (tCons (tC (.int 60)) (tCons (tC (.int 60)) tNil))) (tb := tVar 3) (σ := [some (.ref a), some (.int 1), some (.int ((hl : Nat) : Int)), some (.int ((S : Nat) : Int)), some (.int ((m0 : Nat) : Int)), some (.int ((lt : Nat) : Int)), none, none, none, none, none, none]) (H := H1) (el_lst (ea_cons ev_c (ea_cons ev_c ea_nil)) (by show 2 ≤ 100000; omega)) (ev_var rfl) (by show 2 * S ≤ 100000; omega) (by omega)
  rw [rep_pair] at z1
  refine q_asgE (draws_any (any_cell (k := 2) (ev_var rfl) (ev_add (i := 1) (j := 1) (ev_var rfl) ev_c) (ex_l e1 ha)) z1 (by rw [List.length_replicate]; omega) (fun z hz => by rw [List.eq_of_mem_replicate hz]; omega) fun Tr p1 H2 hTr hp1 e2 hTl => ?_)
  have tr : ∀ i, i < 2 * S → ∃ f, Tr[i]? = some f := fun i hi => by
    obtain ⟨f, hf, _⟩ := under_get hTr (i := i) (s := 60) (by rw [List.getElem?_replicate, if_pos hi])
    exact ⟨f, hf⟩
  obtain ⟨M, eM⟩ : ∃ M, M = m0 + 2 * hl := ⟨_, rfl⟩
  refine q_asg (v := .int ((M : Nat) : Int)) (ev_is (ev_add (i := ((m0 : Nat) : Int)) (j := 2 * ((hl : Nat) : Int)) (ev_var rfl) (ev_mul (i := 2) (j := ((hl : Nat) : Int)) ev_c (ev_var rfl) (.inl (by omega)))) (by rw [eM, show ((m0 + 2 * hl : Nat) : Int) = ((m0 : Nat) : Int) + 2 * ((hl : Nat) : Int) from by omega])) fun H3 e3 => ?_
  have hM : M ≤ 6 := by omega
  have x3 : Ex H H3 := e1.trans (e2.trans e3)
  show tSeq _ _ _ [some (.ref a), some (.int 1), some (.int ((hl : Nat) : Int)), some (.int ((S : Nat) : Int)), some (.int ((M : Nat) : Int)), some (.int ((lt : Nat) : Int)), some (.ref p1), none, none, none, none, none] H3
  have z2 := el_rep (xs := [V.int ((5040 : Nat) : Int), V.int ((5040 : Nat) : Int)]) (k := M) (ta := tLst (tCons (tC (.int 5040)) (tCons (tC (.int 5040)) tNil))) (tb := tVar 4) (σ := [some (.ref a), some (.int 1), some (.int ((hl : Nat) : Int)), some (.int ((S : Nat) : Int)), some (.int ((M : Nat) : Int)), some (.int ((lt : Nat) : Int)), some (.ref p1), none, none, none, none, none]) (H := H3) (el_lst (ea_cons ev_c (ea_cons ev_c ea_nil)) (by show 2 ≤ 100000; omega)) (ev_var rfl) (by show 2 * M ≤ 100000; omega) (by omega)
  rw [rep_pair] at z2
  refine q_asgE (draws_any (any_cell (k := 3) (ev_var rfl) (ev_add (i := 1) (j := 2) (ev_var rfl) ev_c) (ex_l x3 ha)) z2 (by rw [List.length_replicate]; omega) (fun z hz => by rw [List.eq_of_mem_replicate hz]; omega) fun Pk p2 H4 hPk hp2 e4 hPl => ?_)
  have pk : ∀ i, i < 2 * M → ∃ f, Pk[i]? = some f := fun i hi => by
    obtain ⟨f, hf, _⟩ := under_get hPk (i := i) (s := 5040) (by rw [List.getElem?_replicate, if_pos hi])
    exact ⟨f, hf⟩
  have x4 := x3.trans e4
  have hT4 : H4 p1 = some (.lst (ni Tr)) := e4 _ _ (e3 _ _ hTl)
  show tSeq _ _ _ [some (.ref a), some (.int 1), some (.int ((hl : Nat) : Int)), some (.int ((S : Nat) : Int)), some (.int ((M : Nat) : Int)), some (.int ((lt : Nat) : Int)), some (.ref p1), some (.ref p2), none, none, none, none] H4
  refine q_asgOne (el_lst ea_nil (by show 0 ≤ 100000; omega)) fun r0 R H5 hr0 hR0 nrR e5 hr0l hRl => ?_
  refine q_forR (k := S) (ev_var rfl) (by omega) (fun i σ' H' => ∃ as B y9 y10, σ' = [some (.ref a), some (.int 1), some (.int ((hl : Nat) : Int)), some (.int ((S : Nat) : Int)), some (.int ((M : Nat) : Int)), some (.int ((lt : Nat) : Int)), some (.ref p1), some (.ref p2), some (.ref R), y9, y10, none] ∧ Ex H4 H' ∧ Own H4 H' R as B ∧ B.flatten.Perm (List.range (2 * i)) ∧ B.length = i + 1 ∧ (i = 0 → B = [[]]))
    (fun H6 e6 => ⟨[r0], [[]], none, none, rfl, e5.trans e6, ⟨⟨e6 _ _ hRl, rfl, fun i b r hb hr => ?_⟩, by simp, by simpa using nrR.symm, (fun c hc => by rw [List.mem_singleton.mp hc]; exact hr0), hR0⟩, .refl _, rfl, fun _ => rfl⟩) (fun i σ' H' hi ⟨as, B, y9, y10, es, ex, ow, pm, lB, _⟩ => ?_) (fun σ' H' ⟨as, B, y9, y10, es, ex, ow, pm, lB, fB⟩ => ?_)
  · cases i with
    | zero =>
      rw [← show r0 = b from Option.some.inj hb, ← show [] = r from Option.some.inj hr]
      exact e6 _ _ hr0l
    | succ i => cases hb
  · subst es
    have la := ow.rows.2.1
    obtain ⟨f1, hf1⟩ := tr (2 * i) (by omega)
    obtain ⟨f2, hf2⟩ := tr (2 * i + 1) (by omega)
    have hj : f1 % B.length < B.length := Nat.mod_lt _ (by omega)
    obtain ⟨r, hr⟩ : ∃ r, B[f1 % B.length]? = some r := ⟨_, List.getElem?_eq_getElem hj⟩
    obtain ⟨ra, h1, h2, h3, h4⟩ := ow.at hr
    have rz := row_flat_len hr
    have fz : B.flatten.length = 2 * i := by rw [pm.length_eq, List.length_range]
    have dbl : ∀ {σ : L2.St} {H' : Hp}, σ[9]? = some (some (.int ((i : Nat) : Int))) → Ev (tOp rTimes (tC (.int 2)) (tVar 9)) σ H' (.int ((2 * i : Nat) : Int)) := fun {σ H'} h =>
      ev_is (ev_mul (i := 2) (j := ((i : Nat) : Int)) ev_c (ev_var h) (.inl (by omega))) (by rw [show ((2 * i : Nat) : Int) = 2 * ((i : Nat) : Int) from by omega])
    have dbl1 : ∀ {σ : L2.St} {H' : Hp}, σ[9]? = some (some (.int ((i : Nat) : Int))) → Ev (tOp rPlus (tOp rTimes (tC (.int 2)) (tVar 9)) (tC (.int 1))) σ H' (.int ((2 * i + 1 : Nat) : Int)) := fun {σ H'} h =>
      ev_is (ev_add (i := ((2 * i : Nat) : Int)) (j := 1) (dbl h) ev_c) (by rw [show ((2 * i + 1 : Nat) : Int) = ((2 * i : Nat) : Int) + 1 from by omega])
    refine q_asg (ev_ixL (k := f1 % B.length) (ev_var rfl) (ev_is (ev_mod (i := ((f1 : Nat) : Int)) (j := ((B.length : Nat) : Int)) (ev_ixL (ev_var rfl) (dbl rfl) (sq_of (ex _ _ hT4)) (ni_get hf1)) (rows_len (ev_var rfl) ⟨as, ow.rows⟩) (by omega)) (by rw [Int.natCast_emod])) (sq_of ow.rows.1) h2) fun H6 e6 => ?_
    have hm : f2 % (r.length + 1) < r.length + 1 := Nat.mod_lt _ (by omega)
    have lr := ev_len (K := K) (σ := [some (.ref a), some (.int 1), some (.int ((hl : Nat) : Int)), some (.int ((S : Nat) : Int)), some (.int ((M : Nat) : Int)), some (.int ((lt : Nat) : Int)), some (.ref p1), some (.ref p2), some (.ref R), some (.int ((i : Nat) : Int)), some (.ref ra), none]) (H := H6) (ta := tVar 10) (ev_var rfl) (sq_of (e6 _ _ h3))
    rw [ni_length] at lr
    refine q_ins (k := f2 % (r.length + 1)) (e6 _ _ h3) (ev_var rfl) (ev_is (ev_mod (i := ((f2 : Nat) : Int)) (j := ((r.length : Nat) : Int) + 1) (ev_ixL (ev_var rfl) (dbl1 rfl) (sq_of (e6 _ _ (ex _ _ hT4))) (ni_get hf2)) (ev_add lr ev_c) (by omega)) (by rw [show ((f2 % (r.length + 1) : Nat) : Int) = ((f2 : Nat) : Int) % (((r.length : Nat) : Int) + 1) from by rw [Int.natCast_emod]; rfl])) (dbl rfl) (by omega) (by rw [ni_length]; omega) fun H7 e7 => ?_
    rw [ni_ins]
    have ow7 := (ow.mono (e6.trans e7)).put (r' := r.take (f2 % (r.length + 1)) ++ [2 * i] ++ r.drop (f2 % (r.length + 1))) h1
    have x7 := Ex.mut (o := HO.lst (ni (r.take (f2 % (r.length + 1)) ++ [2 * i] ++ r.drop (f2 % (r.length + 1))))) (ex.trans (e6.trans e7)) h4
    have pm7 := set_flat hr (ins_perm r (f2 % (r.length + 1)) (2 * i))
    refine s_appL ow7.rows.1 (ev_var rfl) (el_lst (vs := ni [2 * i + 1]) (ea_cons (dbl1 rfl) ea_nil) (by show 1 ≤ 100000; omega)) (by rw [List.length_map, la]; omega) fun p H8 hp0 e8 hp => ?_
    obtain ⟨n1, n2⟩ := ow7.notin hp0
    refine ⟨_, _, _, _, rfl, Ex.mut (x7.trans e8) hR0, (ow7.mono e8).push hp (fresh_back x7 hp0) n2 n1, ?_, by rw [List.length_append, List.length_set, lB]; rfl, fun z => by omega⟩
    rw [List.flatten_append, show 2 * (i + 1) = 2 * i + 1 + 1 from by omega, List.range_succ, List.range_succ]
    refine List.Perm.append ?_ (.refl _)
    refine pm7.trans ?_
    refine (List.Perm.cons _ pm).trans ?_
    exact (List.perm_append_comm (l₁ := [2 * i]) (l₂ := List.range (2 * i)))
  · subst es
    obtain ⟨G, eG, hG⟩ : ∃ G : Nat, (if ((M : Nat) : Int) - 1 > 1 then ((M : Nat) : Int) - 1 else 1) = ((G : Nat) : Int) ∧ 0 < G := by
      by_cases z : ((M : Nat) : Int) - 1 > 1
      · exact ⟨M - 1, by rw [if_pos z]; omega, by omega⟩
      · exact ⟨1, by rw [if_neg z]; rfl, by omega⟩
    obtain ⟨hx, ehx⟩ : ∃ hx, hx = 1 + lt % G := ⟨_, rfl⟩
    refine q_forR (k := M) (ev_var rfl) (by omega) (fun i σ' H' => ∃ B y9 y11, σ' = [some (.ref a), some (.int 1), some (.int ((hl : Nat) : Int)), some (.int ((S : Nat) : Int)), some (.int ((M : Nat) : Int)), some (.int ((lt : Nat) : Int)), some (.ref p1), some (.ref p2), some (.ref R), y9, y10, y11] ∧ Ex H4 H' ∧ Own H4 H' R as B ∧ Ok B (S + i) ∧ B.length = S + 1 ∧ (S + i = 0 → B = [[]]) ∧ (0 < i → i ≤ hx → Two B (S + i)))
      (fun H6 e6 => ⟨B, y9, none, rfl, ex.trans e6, ow.mono e6, ok_of_perm pm, lB, fun z => fB (by omega), fun z => by omega⟩) (fun i σ' H' hi ⟨B, y9, y11, es, ex, ow, ok, lB, fB, tw⟩ => ?_) (fun σ' H' ⟨B, y9, y11, es, ex, ow, ok, lB, fB, tw⟩ => ?_)
    · subst es
      obtain ⟨f1, hf1⟩ := pk (2 * i) (by omega)
      obtain ⟨f2, hf2⟩ := pk (2 * i + 1) (by omega)
      have hp2' : H' p2 = some (.lst (ni Pk)) := ex _ _ hPl
      have dbl : ∀ {σ : L2.St} {H' : Hp}, σ[9]? = some (some (.int ((i : Nat) : Int))) → Ev (tOp rTimes (tC (.int 2)) (tVar 9)) σ H' (.int ((2 * i : Nat) : Int)) := fun {σ H'} h =>
        ev_is (ev_mul (i := 2) (j := ((i : Nat) : Int)) ev_c (ev_var h) (.inl (by omega))) (by rw [show ((2 * i : Nat) : Int) = 2 * ((i : Nat) : Int) from by omega])
      have dbl1 : ∀ {σ : L2.St} {H' : Hp}, σ[9]? = some (some (.int ((i : Nat) : Int))) → Ev (tOp rPlus (tOp rTimes (tC (.int 2)) (tVar 9)) (tC (.int 1))) σ H' (.int ((2 * i + 1 : Nat) : Int)) := fun {σ H'} h =>
        ev_is (ev_add (i := ((2 * i : Nat) : Int)) (j := 1) (dbl h) ev_c) (by rw [show ((2 * i + 1 : Nat) : Int) = ((2 * i : Nat) : Int) + 1 from by omega])
      have mx := ev_max2 (σ := [some (.ref a), some (.int 1), some (.int ((hl : Nat) : Int)), some (.int ((S : Nat) : Int)), some (.int ((M : Nat) : Int)), some (.int ((lt : Nat) : Int)), some (.ref p1), some (.ref p2), some (.ref R), some (.int ((i : Nat) : Int)), y10, y11]) (H := H') (ev_c (v := .int 1)) (ev_sub (i := ((M : Nat) : Int)) (j := 1) (ev_var (i := 4) rfl) ev_c)
      rw [eG] at mx
      have hv := ev_andV (a := decide (((hl : Nat) : Int) = 1)) (b := decide (((i : Nat) : Int) = ((hx : Nat) : Int))) (ev_eqI (σ := [some (.ref a), some (.int 1), some (.int ((hl : Nat) : Int)), some (.int ((S : Nat) : Int)), some (.int ((M : Nat) : Int)), some (.int ((lt : Nat) : Int)), some (.ref p1), some (.ref p2), some (.ref R), some (.int ((i : Nat) : Int)), y10, y11]) (H := H') (ev_var (i := 2) rfl) (ev_c (v := .int 1))) fun _ => ev_eqI (ev_var (i := 9) rfl) (ev_is (w := .int ((hx : Nat) : Int)) (ev_add (i := 1) (j := ((lt : Nat) : Int) % ((G : Nat) : Int)) ev_c (ev_mod (ev_var (i := 5) rfl) mx (by omega))) (by rw [ehx, show ((1 + lt % G : Nat) : Int) = 1 + ((lt : Nat) : Int) % ((G : Nat) : Int) from by rw [← Int.natCast_emod]; omega]))
      refine q_asg hv fun H6 e6 => ?_
      have ok2 : ∀ high, high = (decide (((hl : Nat) : Int) = 1) && decide (((i : Nat) : Int) = ((hx : Nat) : Int))) → (high = true → Two B (S + i)) ∧ (high = true → i = hx) := fun high e => by
        have q : high = true → i = hx := fun h => by
          rw [e, Bool.and_eq_true] at h
          have := of_decide_eq_true h.2
          omega
        exact ⟨fun h => tw (by have := q h; omega) (by have := q h; omega), q⟩
      obtain ⟨hg1, hg2⟩ := ok2 _ rfl
      generalize (decide (((hl : Nat) : Int) = 1) && decide (((i : Nat) : Int) = ((hx : Nat) : Int))) = high at hg1 hg2
      refine s_dropCall (ea_cons (ev_var rfl) (ea_cons (ev_is (w := .int ((S + i : Nat) : Int)) (ev_add (i := ((S : Nat) : Int)) (j := ((i : Nat) : Int)) (ev_var rfl) (ev_var rfl)) (by rw [show ((S + i : Nat) : Int) = ((S : Nat) : Int) + ((i : Nat) : Int) from by omega])) (ea_cons (ev_ixL (ev_var rfl) (dbl rfl) (sq_of (e6 _ _ hp2')) (ni_get hf1)) (ea_cons (ev_ixL (ev_var rfl) (dbl1 rfl) (sq_of (e6 _ _ hp2')) (ni_get hf2)) (ea_cons (ev_var rfl) ea_nil))))) fun H7 e7 => ?_
      have ow7 := ow.mono (e6.trans e7)
      refine ⟨R, as, B, S + i, f1, f2, high, rfl, ow7.rows, ow7.nd, ow7.out, ok, by omega, by omega, fB, hg1, fun D' H8 okD lD twD bt ra => ?_⟩
      refine ⟨D', _, _, rfl, bt.ex (ex.trans (e6.trans e7)) ow.new, ⟨ra, ow.nd, ow.out, ow.new, ow.dnew⟩, okD, by omega, fun z => by omega, fun _ z => ?_⟩
      refine twD ?_
      cases high with
      | false => rfl
      | true =>
        have := hg2 rfl
        omega
    · subst es
      refine s_retE (call_any3 (ev_var (v := .ref R) rfl) (ev_is (w := .int ((S + M : Nat) : Int)) (ev_add (i := ((S : Nat) : Int)) (j := ((M : Nat) : Int)) (ev_var rfl) (ev_var rfl)) (by rw [show ((S + M : Nat) : Int) = ((S : Nat) : Int) + ((M : Nat) : Int) from by omega])) (any_cell (k := 4) (ev_var rfl) (ev_add (i := 1) (j := 3) (ev_var rfl) ev_c) (ex_l (x4.trans ex) ha)) fun z2 H7 e7 => ?_)
      exact ⟨R, B, S + M, z2, rfl, ⟨⟨as, ow.rows.mono e7⟩, ok, by omega, by omega⟩, by omega, by omega, fun D' ok' hD' p H8 hp e8 hr8 => k D' _ ok' (by omega) (by omega) p H8 (fresh_back (x4.trans (ex.trans e7)) hp) (x4.trans (ex.trans (e7.trans e8))) hr8⟩
end RF

set_option Elab.async false
set_option linter.all false
set_option maxRecDepth 100000
set_option maxHeartbeats 0
namespace RF
open PySem PySem.Spec PyProof.Rows L2 Evl
abbrev R : PySem.W.OpenRow := PySem.W.OpenLaw.row PySem.Challenge.rw_ringfloor_k54_whole_fill
abbrev qv : Program := PySem.W.view R.prog [56]
def moreOk (K : PySem.W.Frag) : Bool :=
  He.eqO (PySem.W.findIn K (.ref (He.ga K "NoWalk")) "__getattribute__") (some (some (.builtin "BaseException.__getattribute__"))) && (He.eqO (PySem.W.findIn K (.ref (He.ga K "NoWalk")) "__getattr__") (some none) &&
  (decide (PySem.W.subIn K (.ref (He.ga K "NoWalk")) (.type "BaseException") = some true) && (PySem.W.hasDictIn K (He.ga K "NoWalk") && (He.eqO (PySem.W.findIn K (.ref (He.ga K "NoWalk")) "__class__") (some (some (.builtin "object.__class__"))) &&
  (He.eqO (PySem.W.specialIn K (.builtin "object.__class__") "__get__") (some (some (.builtin "getset_descriptor.__get__"))) && (decide (PySem.W.takesIn K (.builtin "object.__class__") = some true) && (decide (PySem.W.mroIn K (He.ga K "NoWalk") (.type "object") = some true) &&
  (decide (PySem.W.kitOne K (.ref (He.ga K "NoWalk")) (.ref (He.ga K "NoWalk")) = some true) && (decide (PySem.W.kitOne K (.ref (He.ga K "NoWalk")) (.type "ValueError") = some true) && decide (PySem.W.kitOne K (.ref (He.ga K "NoWalk")) (.ref (He.ga K "NoRound")) = some false))))))))))
theorem more_ok {K : PySem.W.Frag} (h : moreOk K = true) : ExcC K (He.ga K "NoWalk") ∧ PySem.W.kitOne K (.ref (He.ga K "NoWalk")) (.ref (He.ga K "NoWalk")) = some true ∧ PySem.W.kitOne K (.ref (He.ga K "NoWalk")) (.type "ValueError") = some true ∧
    PySem.W.kitOne K (.ref (He.ga K "NoWalk")) (.ref (He.ga K "NoRound")) = some false := by
  obtain ⟨h1, h⟩ := He.ba h
  obtain ⟨h2, h⟩ := He.ba h
  obtain ⟨h3, h⟩ := He.ba h
  obtain ⟨h4, h⟩ := He.ba h
  obtain ⟨h5, h⟩ := He.ba h
  obtain ⟨h6, h⟩ := He.ba h
  obtain ⟨h7, h⟩ := He.ba h
  obtain ⟨h8, h⟩ := He.ba h
  obtain ⟨h9, h⟩ := He.ba h
  obtain ⟨h10, h11⟩ := He.ba h
  exact ⟨⟨He.eqO_ok h1, He.eqO_ok h2, of_decide_eq_true h3, h4, He.eqO_ok h5, He.eqO_ok h6, of_decide_eq_true h7, of_decide_eq_true h8⟩, of_decide_eq_true h9, of_decide_eq_true h10, of_decide_eq_true h11⟩
def loose1 : List PySem.Str := ["mate_of", "count_ends", "seats_of", "behind_of", "lands_of", "tree_from", "way_up", "turned_about", "round_along", "land_numbers", "is_walk", "ask_walk", "left_counts", "crossing_by", "net_counts", "spread_numbers", "filling", "crosser", "fill_of", "_law_cell", "_law_draws", "_law_mate", "_law_settled", "_law_drawing", "_law_seats", "_law_behind", "_law_lands", "_law_tied", "_law_renamed", "_law_grown"]
def loose2 : List PySem.Str := ["_law_kind", "_law_numbers", "_law_some", "_law_home", "_law_walk", "_law_about", "_law_spoilt", "_law_is_walk", "_law_is_turn", "_law_lefts", "_law_crossing", "_law_wholes", "_law_parts", "_law_filled", "_law_paper", "_law_refused", "FloorError", "NoWalk", "NoRound"]
def loose : List PySem.Str := loose1 ++ loose2
def dfn (x : Str) (i : Nat) : He.DefD := ⟨(x, none), x, x, defArgs (top i), defBody (top i), defScope (top i), [], []⟩
def fn0 : List He.DefD := [dfn "mate_of" 1, dfn "count_ends" 2, dfn "seats_of" 3, dfn "behind_of" 4, dfn "lands_of" 6, dfn "tree_from" 8, dfn "way_up" 9, dfn "turned_about" 10, dfn "round_along" 11, dfn "land_numbers" 12, dfn "is_walk" 18, dfn "ask_walk" 19, dfn "left_counts" 20, dfn "crossing_by" 21, dfn "net_counts" 23, dfn "spread_numbers" 24, dfn "filling" 25, dfn "crosser" 26, dfn "fill_of" 27, dfn "_law_cell" 29, dfn "_law_draws" 30, dfn "_law_mate" 31, dfn "_law_settled" 32, dfn "_law_drawing" 33, dfn "_law_seats" 34, dfn "_law_behind" 35, dfn "_law_lands" 36, dfn "_law_tied" 37, dfn "_law_renamed" 38, dfn "_law_grown" 39]
def fn1 : List He.DefD := [dfn "_law_kind" 40, dfn "_law_numbers" 41, dfn "_law_some" 42, dfn "_law_home" 43, dfn "_law_walk" 44, dfn "_law_about" 45, dfn "_law_spoilt" 46, dfn "_law_is_walk" 47, dfn "_law_is_turn" 48, dfn "_law_lefts" 49, dfn "_law_crossing" 50, dfn "_law_wholes" 51, dfn "_law_parts" 52, dfn "_law_filled" 53, dfn "_law_paper" 54, dfn "_law_refused" 55, dfn "law" 56]
def fn : List He.DefD := fn0 ++ fn1
def fa0 : List He.Fa := [.glo "mate_of", .glo "count_ends", .glo "seats_of", .glo "behind_of", .glo "lands_of", .glo "tree_from", .glo "way_up", .glo "turned_about", .glo "round_along", .glo "land_numbers", .glo "is_walk", .glo "ask_walk", .glo "left_counts", .glo "crossing_by", .glo "net_counts", .glo "spread_numbers", .glo "filling", .glo "crosser", .glo "fill_of", .glo "_law_cell", .glo "_law_draws", .glo "_law_mate", .glo "_law_settled", .glo "_law_drawing", .glo "_law_seats", .glo "_law_behind", .glo "_law_lands", .glo "_law_tied", .glo "_law_renamed", .glo "_law_grown"]
def fa1 : List He.Fa := [.glo "_law_kind", .glo "_law_numbers", .glo "_law_some", .glo "_law_home", .glo "_law_walk", .glo "_law_about", .glo "_law_spoilt", .glo "_law_is_walk", .glo "_law_is_turn", .glo "_law_lefts", .glo "_law_crossing", .glo "_law_wholes", .glo "_law_parts", .glo "_law_filled", .glo "_law_paper", .glo "_law_refused", .glo "law", .free "len", .free "range", .free "enumerate", .free "reversed", .free "min", .free "max", .free "sum", .free "sorted", .free "list", .free "set", .free "isinstance", .free "int", .free "bool"]
def fa2 : List He.Fa := [.free "tuple", .free "ValueError", .glo "NoWalk", .glo "FloorError", .glo "NoRound", .exc "NoWalk", .exm "NoWalk" "FloorError" true]
def fa : List He.Fa := fa0 ++ fa1 ++ fa2
theorem fnF_of {K : PySem.W.Frag} {h : Heap} {mg : Str → Option Value} (X : K.In h) (G : h.Ns mainGlobals mg) (c : He.SaysD fa fn K) {x : Str} {i : Nat} (h1 : (He.Fa.glo x) ∈ fa) (h2 : dfn x i ∈ fn) : FnF K mg x (top i) :=
  ⟨He.glo_ok X G (c.facts h1), c.defs h2⟩
structure Fns (K : PySem.W.Frag) (mg : Str → Option Value) : Prop where
  f_mate_of : FnF K mg "mate_of" (top 1)
  f_count_ends : FnF K mg "count_ends" (top 2)
  f_seats_of : FnF K mg "seats_of" (top 3)
  f_behind_of : FnF K mg "behind_of" (top 4)
  f_lands_of : FnF K mg "lands_of" (top 6)
  f_tree_from : FnF K mg "tree_from" (top 8)
  f_way_up : FnF K mg "way_up" (top 9)
  f_turned_about : FnF K mg "turned_about" (top 10)
  f_round_along : FnF K mg "round_along" (top 11)
  f_land_numbers : FnF K mg "land_numbers" (top 12)
  f_is_walk : FnF K mg "is_walk" (top 18)
  f_ask_walk : FnF K mg "ask_walk" (top 19)
  f_left_counts : FnF K mg "left_counts" (top 20)
  f_crossing_by : FnF K mg "crossing_by" (top 21)
  f_net_counts : FnF K mg "net_counts" (top 23)
  f_spread_numbers : FnF K mg "spread_numbers" (top 24)
  f_filling : FnF K mg "filling" (top 25)
  f_crosser : FnF K mg "crosser" (top 26)
  f_fill_of : FnF K mg "fill_of" (top 27)
  f__law_cell : FnF K mg "_law_cell" (top 29)
  f__law_draws : FnF K mg "_law_draws" (top 30)
  f__law_mate : FnF K mg "_law_mate" (top 31)
  f__law_settled : FnF K mg "_law_settled" (top 32)
  f__law_drawing : FnF K mg "_law_drawing" (top 33)
  f__law_seats : FnF K mg "_law_seats" (top 34)
  f__law_behind : FnF K mg "_law_behind" (top 35)
  f__law_lands : FnF K mg "_law_lands" (top 36)
  f__law_tied : FnF K mg "_law_tied" (top 37)
  f__law_renamed : FnF K mg "_law_renamed" (top 38)
  f__law_grown : FnF K mg "_law_grown" (top 39)
  f__law_kind : FnF K mg "_law_kind" (top 40)
  f__law_numbers : FnF K mg "_law_numbers" (top 41)
  f__law_some : FnF K mg "_law_some" (top 42)
  f__law_home : FnF K mg "_law_home" (top 43)
  f__law_walk : FnF K mg "_law_walk" (top 44)
  f__law_about : FnF K mg "_law_about" (top 45)
  f__law_spoilt : FnF K mg "_law_spoilt" (top 46)
  f__law_is_walk : FnF K mg "_law_is_walk" (top 47)
  f__law_is_turn : FnF K mg "_law_is_turn" (top 48)
  f__law_lefts : FnF K mg "_law_lefts" (top 49)
  f__law_crossing : FnF K mg "_law_crossing" (top 50)
  f__law_wholes : FnF K mg "_law_wholes" (top 51)
  f__law_parts : FnF K mg "_law_parts" (top 52)
  f__law_filled : FnF K mg "_law_filled" (top 53)
  f__law_paper : FnF K mg "_law_paper" (top 54)
  f__law_refused : FnF K mg "_law_refused" (top 55)
  f_law : FnF K mg "law" (top 56)
theorem fns_of {K : PySem.W.Frag} {h : Heap} {mg : Str → Option Value} (X : K.In h) (G : h.Ns mainGlobals mg) (c : He.SaysD fa fn K) : Fns K mg where
  f_mate_of := ⟨He.glo_ok X G (c.fact 0), c.def_ 0⟩
  f_count_ends := ⟨He.glo_ok X G (c.fact 1), c.def_ 1⟩
  f_seats_of := ⟨He.glo_ok X G (c.fact 2), c.def_ 2⟩
  f_behind_of := ⟨He.glo_ok X G (c.fact 3), c.def_ 3⟩
  f_lands_of := ⟨He.glo_ok X G (c.fact 4), c.def_ 4⟩
  f_tree_from := ⟨He.glo_ok X G (c.fact 5), c.def_ 5⟩
  f_way_up := ⟨He.glo_ok X G (c.fact 6), c.def_ 6⟩
  f_turned_about := ⟨He.glo_ok X G (c.fact 7), c.def_ 7⟩
  f_round_along := ⟨He.glo_ok X G (c.fact 8), c.def_ 8⟩
  f_land_numbers := ⟨He.glo_ok X G (c.fact 9), c.def_ 9⟩
  f_is_walk := ⟨He.glo_ok X G (c.fact 10), c.def_ 10⟩
  f_ask_walk := ⟨He.glo_ok X G (c.fact 11), c.def_ 11⟩
  f_left_counts := ⟨He.glo_ok X G (c.fact 12), c.def_ 12⟩
  f_crossing_by := ⟨He.glo_ok X G (c.fact 13), c.def_ 13⟩
  f_net_counts := ⟨He.glo_ok X G (c.fact 14), c.def_ 14⟩
  f_spread_numbers := ⟨He.glo_ok X G (c.fact 15), c.def_ 15⟩
  f_filling := ⟨He.glo_ok X G (c.fact 16), c.def_ 16⟩
  f_crosser := ⟨He.glo_ok X G (c.fact 17), c.def_ 17⟩
  f_fill_of := ⟨He.glo_ok X G (c.fact 18), c.def_ 18⟩
  f__law_cell := ⟨He.glo_ok X G (c.fact 19), c.def_ 19⟩
  f__law_draws := ⟨He.glo_ok X G (c.fact 20), c.def_ 20⟩
  f__law_mate := ⟨He.glo_ok X G (c.fact 21), c.def_ 21⟩
  f__law_settled := ⟨He.glo_ok X G (c.fact 22), c.def_ 22⟩
  f__law_drawing := ⟨He.glo_ok X G (c.fact 23), c.def_ 23⟩
  f__law_seats := ⟨He.glo_ok X G (c.fact 24), c.def_ 24⟩
  f__law_behind := ⟨He.glo_ok X G (c.fact 25), c.def_ 25⟩
  f__law_lands := ⟨He.glo_ok X G (c.fact 26), c.def_ 26⟩
  f__law_tied := ⟨He.glo_ok X G (c.fact 27), c.def_ 27⟩
  f__law_renamed := ⟨He.glo_ok X G (c.fact 28), c.def_ 28⟩
  f__law_grown := ⟨He.glo_ok X G (c.fact 29), c.def_ 29⟩
  f__law_kind := ⟨He.glo_ok X G (c.fact 30), c.def_ 30⟩
  f__law_numbers := ⟨He.glo_ok X G (c.fact 31), c.def_ 31⟩
  f__law_some := ⟨He.glo_ok X G (c.fact 32), c.def_ 32⟩
  f__law_home := ⟨He.glo_ok X G (c.fact 33), c.def_ 33⟩
  f__law_walk := ⟨He.glo_ok X G (c.fact 34), c.def_ 34⟩
  f__law_about := ⟨He.glo_ok X G (c.fact 35), c.def_ 35⟩
  f__law_spoilt := ⟨He.glo_ok X G (c.fact 36), c.def_ 36⟩
  f__law_is_walk := ⟨He.glo_ok X G (c.fact 37), c.def_ 37⟩
  f__law_is_turn := ⟨He.glo_ok X G (c.fact 38), c.def_ 38⟩
  f__law_lefts := ⟨He.glo_ok X G (c.fact 39), c.def_ 39⟩
  f__law_crossing := ⟨He.glo_ok X G (c.fact 40), c.def_ 40⟩
  f__law_wholes := ⟨He.glo_ok X G (c.fact 41), c.def_ 41⟩
  f__law_parts := ⟨He.glo_ok X G (c.fact 42), c.def_ 42⟩
  f__law_filled := ⟨He.glo_ok X G (c.fact 43), c.def_ 43⟩
  f__law_paper := ⟨He.glo_ok X G (c.fact 44), c.def_ 44⟩
  f__law_refused := ⟨He.glo_ok X G (c.fact 45), c.def_ 45⟩
  f_law := ⟨He.glo_ok X G (c.fact 46), c.def_ 46⟩
theorem txt_of {K : PySem.W.Frag} {h : Heap} {mg : Str → Option Value} (X : K.In h) (G : h.Ns mainGlobals mg) (c : He.SaysD fa fn K) (m : moreOk K = true) : Txt K mg where
  z_len := He.free_ok X G (c.fact 47)
  z_range := He.free_ok X G (c.fact 48)
  z_enumerate := He.free_ok X G (c.fact 49)
  z_reversed := He.free_ok X G (c.fact 50)
  z_min := He.free_ok X G (c.fact 51)
  z_max := He.free_ok X G (c.fact 52)
  z_sum := He.free_ok X G (c.fact 53)
  z_sorted := He.free_ok X G (c.fact 54)
  z_list := He.free_ok X G (c.fact 55)
  z_set := He.free_ok X G (c.fact 56)
  z_isinstance := He.free_ok X G (c.fact 57)
  z_int := He.free_ok X G (c.fact 58)
  z_bool := He.free_ok X G (c.fact 59)
  z_tuple := He.free_ok X G (c.fact 60)
  z_ValueError := He.free_ok X G (c.fact 61)
  x_NoWalk := (He.exc_ok (c.fact 65)).1
  g_NoWalk := He.glo_ok X G (c.fact 62)
  k_NoWalk := (He.exc_ok (c.fact 65)).2.1
  b_NoWalk := (He.exc_ok (c.fact 65)).2.2.1
  t_NoWalk := (He.exc_ok (c.fact 65)).2.2.2
  g_FloorError := He.glo_ok X G (c.fact 63)
  g_NoRound := He.glo_ok X G (c.fact 64)
  c_NoWalk := (more_ok m).1
  m_NoWalk := He.exm_ok (c.fact 66)
  i_NoWalk := (more_ok m).2.1
  i_ValueError := (more_ok m).2.2.1
  i_NoRound := (more_ok m).2.2.2
abbrev hk : PySem.W.Hook := He.hookX 4 fa fn [] [] moreOk
def ob (s : PySem.W.SharedT) : He.AlX := He.obsX 4 fa fn [] [] moreOk (HandSHeadRun.getT s)
theorem ob_eq (s : PySem.W.SharedT) : ob s = hk.obs s.abs := He.obsX_eq (HandSHeadRun.getT_eq s)
theorem run (w : World) : HandSHeadRun.RunEq R qv hk ob 3000 loose w := by
  intro os
  kernel_rfl
end RF

set_option Elab.async false
set_option linter.all false
set_option maxRecDepth 100000
set_option maxHeartbeats 1000000
namespace RF
open PySem PySem.Spec PyProof.Rows L2 Evl
/-! # Each def keeps its promise -/
section
variable {P : Program} {w : World} {K : PySem.W.Frag} {mg : Str → Option Value} {base : Heap}
theorem ok_mate_of (T : Txt K mg) (F : Fns K mg) : Keeps P w K mg base CX0 "mate_of" 1 ["end"] (sp_mate_of K) :=
  keeps_of (sp := sp_mate_of K) F.f_mate_of sc_mate_of b_mate_of (fun vs H Q E h => by obtain ⟨_, rfl, _⟩ := h; rfl) (fun f cdv A outer s H E hr => d_mate_of T  f cdv A outer s H E hr) (pure_mate_of K)
theorem ok_count_ends (T : Txt K mg) (F : Fns K mg) : Keeps P w K mg base CX0 "count_ends" 1 ["drawing"] (sp_count_ends K) :=
  keeps_of (sp := sp_count_ends K) F.f_count_ends sc_count_ends b_count_ends (fun vs H Q E h => by obtain ⟨_, _, rfl, _⟩ := h; rfl) (fun f cdv A outer s H E hr => d_count_ends T  f cdv A outer s H E hr) (pure_count_ends K)
theorem ok_seats_of (T : Txt K mg) (F : Fns K mg) : Keeps P w K mg base CX0 "seats_of" 2 ["drawing"] (sp_seats_of K) :=
  keeps_of (sp := sp_seats_of K) F.f_seats_of sc_seats_of b_seats_of (fun vs H Q E h => by obtain ⟨_, _, _, rfl, _⟩ := h; rfl) (fun f cdv A outer s H E hr => d_seats_of T (sp_count_ends K) (ok_count_ends T F) f cdv A outer s H E hr) (pure_seats_of K)
theorem ok_behind_of (T : Txt K mg) (F : Fns K mg) : Keeps P w K mg base CX0 "behind_of" 2 ["drawing"] (sp_behind_of K) :=
  keeps_of (sp := sp_behind_of K) F.f_behind_of sc_behind_of b_behind_of (fun vs H Q E h => by obtain ⟨_, _, _, rfl, _⟩ := h; rfl) (fun f cdv A outer s H E hr => d_behind_of T (sp_count_ends K) (ok_count_ends T F) f cdv A outer s H E hr) (pure_behind_of K)
theorem ok_lands_of (T : Txt K mg) (F : Fns K mg) : Keeps P w K mg base CX0 "lands_of" 3 ["drawing"] (sp_lands_of K) :=
  keeps_of (sp := sp_lands_of K) F.f_lands_of sc_lands_of b_lands_of (fun vs H Q E h => by obtain ⟨_, _, _, rfl, _⟩ := h; rfl) (fun f cdv A outer s H E hr => d_lands_of T (sp_mate_of K) (sp_behind_of K) (ok_mate_of T F) (ok_behind_of T F) f cdv A outer s H E hr) (pure_lands_of K)
theorem ok_tree_from (T : Txt K mg) (F : Fns K mg) : Keeps P w K mg base CX0 "tree_from" 3 ["drawing", "root"] (sp_tree_from K) :=
  keeps_of (sp := sp_tree_from K) F.f_tree_from sc_tree_from b_tree_from (fun vs H Q E h => by obtain ⟨_, _, _, _, rfl, _⟩ := h; rfl) (fun f cdv A outer s H E hr => d_tree_from T (sp_mate_of K) (sp_seats_of K) (ok_mate_of T F) (ok_seats_of T F) f cdv A outer s H E hr) (pure_tree_from K)
theorem ok_way_up (T : Txt K mg) (F : Fns K mg) : Keeps P w K mg base CX0 "way_up" 2 ["seats", "nearer", "place"] (sp_way_up K) :=
  keeps_of (sp := sp_way_up K) F.f_way_up sc_way_up b_way_up (fun vs H Q E h => by obtain ⟨_, _, _, _, _, _, _, rfl, _⟩ := h; rfl) (fun f cdv A outer s H E hr => d_way_up T (sp_mate_of K) (ok_mate_of T F) f cdv A outer s H E hr) (pure_way_up K)
theorem ok_turned_about (T : Txt K mg) (F : Fns K mg) : Keeps P w K mg base CX0 "turned_about" 2 ["way"] (sp_turned_about K) :=
  keeps_of (sp := sp_turned_about K) F.f_turned_about sc_turned_about b_turned_about (fun vs H Q E h => by obtain ⟨_, _, rfl, _⟩ := h; rfl) (fun f cdv A outer s H E hr => d_turned_about T (sp_mate_of K) (ok_mate_of T F) f cdv A outer s H E hr) (pure_turned_about K)
theorem ok_round_along (T : Txt K mg) (F : Fns K mg) : Keeps P w K mg base CX0 "round_along" 3 ["seats", "nearer", "end"] (sp_round_along K) :=
  keeps_of (sp := sp_round_along K) F.f_round_along sc_round_along b_round_along (fun vs H Q E h => by obtain ⟨_, _, _, _, _, _, _, _, rfl, _⟩ := h; rfl) (fun f cdv A outer s H E hr => d_round_along T (sp_mate_of K) (sp_way_up K) (sp_turned_about K) (ok_mate_of T F) (ok_way_up T F) (ok_turned_about T F) f cdv A outer s H E hr) (pure_round_along K)
theorem ok_land_numbers (T : Txt K mg) (F : Fns K mg) : Keeps P w K mg base CX0 "land_numbers" 1 ["lands"] (sp_land_numbers K) :=
  keeps_of (sp := sp_land_numbers K) F.f_land_numbers sc_land_numbers b_land_numbers (fun vs H Q E h => by obtain ⟨_, _, rfl, _⟩ := h; rfl) (fun f cdv A outer s H E hr => d_land_numbers T  f cdv A outer s H E hr) (pure_land_numbers K)
theorem ok_is_walk (T : Txt K mg) (F : Fns K mg) : Keeps P w K mg base CX0 "is_walk" 3 ["drawing", "ends"] (sp_is_walk K) :=
  keeps_of (sp := sp_is_walk K) F.f_is_walk sc_is_walk b_is_walk (fun vs H Q E h => by obtain ⟨_, _, _, _, _, rfl, _⟩ := h; rfl) (fun f cdv A outer s H E hr => d_is_walk T (sp_mate_of K) (sp_seats_of K) (ok_mate_of T F) (ok_seats_of T F) f cdv A outer s H E hr) (pure_is_walk K)
theorem ok_ask_walk (T : Txt K mg) (F : Fns K mg) : Keeps P w K mg base (L2.CX P w) "ask_walk" 4 ["drawing", "ends"] (sp_ask_walk K) :=
  keepsX_of (sp := sp_ask_walk K) F.f_ask_walk sc_ask_walk b_ask_walk (fun vs H Q E h => by obtain ⟨_, _, _, _, _, rfl, _⟩ := h; rfl) (fun f cdv A outer s H E hr => d_ask_walk T (sp_is_walk K) (ok_is_walk T F) f cdv A outer s H E hr) (pure_ask_walk K)
theorem ok_left_counts (T : Txt K mg) (F : Fns K mg) : Keeps P w K mg base CX0 "left_counts" 3 ["drawing", "walk"] (sp_left_counts K) :=
  keeps_of (sp := sp_left_counts K) F.f_left_counts sc_left_counts b_left_counts (fun vs H Q E h => by obtain ⟨_, _, _, _, _, rfl, _⟩ := h; rfl) (fun f cdv A outer s H E hr => d_left_counts T (sp_mate_of K) (sp_behind_of K) (ok_mate_of T F) (ok_behind_of T F) f cdv A outer s H E hr) (pure_left_counts K)
theorem ok_crossing_by (T : Txt K mg) (F : Fns K mg) : Keeps P w K mg base CX0 "crossing_by" 2 ["counts", "walk"] (sp_crossing_by K) :=
  keeps_of (sp := sp_crossing_by K) F.f_crossing_by sc_crossing_by b_crossing_by (fun vs H Q E h => by obtain ⟨_, _, _, _, _, rfl, _⟩ := h; rfl) (fun f cdv A outer s H E hr => d_crossing_by T (sp_mate_of K) (ok_mate_of T F) f cdv A outer s H E hr) (pure_crossing_by K)
theorem ok_net_counts (T : Txt K mg) (F : Fns K mg) : Keeps P w K mg base CX0 "net_counts" 2 ["drawing", "walk"] (sp_net_counts K) :=
  keeps_of (sp := sp_net_counts K) F.f_net_counts sc_net_counts b_net_counts (fun vs H Q E h => by obtain ⟨_, _, _, _, _, rfl, _⟩ := h; rfl) (fun f cdv A outer s H E hr => d_net_counts T (sp_mate_of K) (sp_count_ends K) (ok_mate_of T F) (ok_count_ends T F) f cdv A outer s H E hr) (pure_net_counts K)
theorem ok_spread_numbers (T : Txt K mg) (F : Fns K mg) : Keeps P w K mg base CX0 "spread_numbers" 2 ["lands", "inside", "net", "first"] (sp_spread_numbers K) :=
  keeps_of (sp := sp_spread_numbers K) F.f_spread_numbers sc_spread_numbers b_spread_numbers (fun vs H Q E h => by obtain ⟨_, _, _, _, _, _, _, _, rfl, _⟩ := h; rfl) (fun f cdv A outer s H E hr => d_spread_numbers T (sp_mate_of K) (ok_mate_of T F) f cdv A outer s H E hr) (pure_spread_numbers K)
theorem ok_filling (T : Txt K mg) (F : Fns K mg) : Keeps P w K mg base CX0 "filling" 4 ["drawing", "walk"] (sp_filling K) :=
  keeps_of (sp := sp_filling K) F.f_filling sc_filling b_filling (fun vs H Q E h => by obtain ⟨_, _, _, _, _, rfl, _⟩ := h; rfl) (fun f cdv A outer s H E hr => d_filling T (sp_lands_of K) (sp_land_numbers K) (sp_net_counts K) (sp_spread_numbers K) (ok_lands_of T F) (ok_land_numbers T F) (ok_net_counts T F) (ok_spread_numbers T F) f cdv A outer s H E hr) (pure_filling K)
theorem ok_crosser (T : Txt K mg) (F : Fns K mg) : Keeps P w K mg base CX0 "crosser" 4 ["drawing", "walk"] (sp_crosser K) :=
  keeps_of (sp := sp_crosser K) F.f_crosser sc_crosser b_crosser (fun vs H Q E h => by obtain ⟨_, _, _, _, _, rfl, _⟩ := h; rfl) (fun f cdv A outer s H E hr => d_crosser T (sp_mate_of K) (sp_seats_of K) (sp_tree_from K) (sp_round_along K) (sp_left_counts K) (sp_crossing_by K) (ok_mate_of T F) (ok_seats_of T F) (ok_tree_from T F) (ok_round_along T F) (ok_left_counts T F) (ok_crossing_by T F) f cdv A outer s H E hr) (pure_crosser K)
theorem ok_fill_of (T : Txt K mg) (F : Fns K mg) : Keeps P w K mg base (L2.CX P w) "fill_of" 5 ["drawing", "walk"] (sp_fill_of K) :=
  keepsX_of (sp := sp_fill_of K) F.f_fill_of sc_fill_of b_fill_of (fun vs H Q E h => by obtain ⟨_, _, _, _, _, rfl, _⟩ := h; rfl) (fun f cdv A outer s H E hr => d_fill_of T (sp_ask_walk K) (sp_filling K) (sp_crosser K) (ok_ask_walk T F) (ok_filling T F) (ok_crosser T F) f cdv A outer s H E hr) (pure_fill_of K)
theorem ok__law_cell (T : Txt K mg) (F : Fns K mg) : Keeps P w K mg base CX0 "_law_cell" 1 ["_law_script", "_law_k"] (sp__law_cell K) :=
  keeps_of (sp := sp__law_cell K) F.f__law_cell sc__law_cell b__law_cell (fun vs H Q E h => by obtain ⟨_, _, _, rfl, _⟩ := h; rfl) (fun f cdv A outer s H E hr => d__law_cell T  f cdv A outer s H E hr) (pure__law_cell K)
theorem ok__law_draws (T : Txt K mg) (F : Fns K mg) : Keeps P w K mg base CX0 "_law_draws" 1 ["_law_cell_here", "_law_sizes"] (sp__law_draws K) :=
  keeps_of (sp := sp__law_draws K) F.f__law_draws sc__law_draws b__law_draws (fun vs H Q E h => by obtain ⟨_, _, _, rfl, _⟩ := h; rfl) (fun f cdv A outer s H E hr => d__law_draws T  f cdv A outer s H E hr) (pure__law_draws K)
theorem ok__law_mate (T : Txt K mg) (F : Fns K mg) : Keeps P w K mg base CX0 "_law_mate" 1 ["_law_end"] (sp__law_mate K) :=
  keeps_of (sp := sp__law_mate K) F.f__law_mate sc__law_mate b__law_mate (fun vs H Q E h => by obtain ⟨_, rfl, _⟩ := h; rfl) (fun f cdv A outer s H E hr => d__law_mate T  f cdv A outer s H E hr) (pure__law_mate K)
theorem ok__law_settled (T : Txt K mg) (F : Fns K mg) : Keeps P w K mg base CX0 "_law_settled" 1 ["_law_rows"] (sp__law_settled K) :=
  keeps_of (sp := sp__law_settled K) F.f__law_settled sc__law_settled b__law_settled (fun vs H Q E h => by obtain ⟨_, _, rfl, _⟩ := h; rfl) (fun f cdv A outer s H E hr => d__law_settled T  f cdv A outer s H E hr) (pure__law_settled K)
theorem ok__law_drawing (T : Txt K mg) (F : Fns K mg) : Keeps P w K mg base CX0 "_law_drawing" 2 ["_law_script", "_law_base", "_law_most"] (sp__law_drawing K) :=
  keeps_of (sp := sp__law_drawing K) F.f__law_drawing sc__law_drawing b__law_drawing (fun vs H Q E h => by obtain ⟨_, _, _, rfl, _⟩ := h; rfl) (fun f cdv A outer s H E hr => d__law_drawing T (sp__law_cell K) (sp__law_draws K) (sp__law_settled K) (ok__law_cell T F) (ok__law_draws T F) (ok__law_settled T F) f cdv A outer s H E hr) (pure__law_drawing K)
theorem ok__law_seats (T : Txt K mg) (F : Fns K mg) : Keeps P w K mg base CX0 "_law_seats" 1 ["_law_drawing_here"] (sp__law_seats K) :=
  keeps_of (sp := sp__law_seats K) F.f__law_seats sc__law_seats b__law_seats (fun vs H Q E h => by obtain ⟨_, _, rfl, _⟩ := h; rfl) (fun f cdv A outer s H E hr => d__law_seats T  f cdv A outer s H E hr) (pure__law_seats K)
theorem ok__law_behind (T : Txt K mg) (F : Fns K mg) : Keeps P w K mg base CX0 "_law_behind" 1 ["_law_drawing_here"] (sp__law_behind K) :=
  keeps_of (sp := sp__law_behind K) F.f__law_behind sc__law_behind b__law_behind (fun vs H Q E h => by obtain ⟨_, _, rfl, _⟩ := h; rfl) (fun f cdv A outer s H E hr => d__law_behind T  f cdv A outer s H E hr) (pure__law_behind K)
theorem ok__law_lands (T : Txt K mg) (F : Fns K mg) : Keeps P w K mg base CX0 "_law_lands" 2 ["_law_drawing_here"] (sp__law_lands K) :=
  keeps_of (sp := sp__law_lands K) F.f__law_lands sc__law_lands b__law_lands (fun vs H Q E h => by obtain ⟨_, _, _, rfl, _⟩ := h; rfl) (fun f cdv A outer s H E hr => d__law_lands T (sp__law_mate K) (sp__law_behind K) (ok__law_mate T F) (ok__law_behind T F) f cdv A outer s H E hr) (pure__law_lands K)
theorem ok__law_tied (T : Txt K mg) (F : Fns K mg) : Keeps P w K mg base CX0 "_law_tied" 3 ["_law_rows", "_law_tie", "_law_one", "_law_two", "_law_high"] (sp__law_tied K) :=
  keeps_of (sp := sp__law_tied K) F.f__law_tied sc__law_tied b__law_tied (fun vs H Q E h => by obtain ⟨_, _, _, _, _, _, _, rfl, _⟩ := h; rfl) (fun f cdv A outer s H E hr => d__law_tied T (sp__law_lands K) (ok__law_lands T F) f cdv A outer s H E hr) (pure__law_tied K)
theorem ok__law_renamed (T : Txt K mg) (F : Fns K mg) : Keeps P w K mg base CX0 "_law_renamed" 2 ["_law_rows", "_law_ties", "_law_cell_here"] (sp__law_renamed K) :=
  keeps_of (sp := sp__law_renamed K) F.f__law_renamed sc__law_renamed b__law_renamed (fun vs H Q E h => by obtain ⟨_, _, _, _, rfl, _⟩ := h; rfl) (fun f cdv A outer s H E hr => d__law_renamed T (sp__law_draws K) (sp__law_settled K) (ok__law_draws T F) (ok__law_settled T F) f cdv A outer s H E hr) (pure__law_renamed K)
theorem ok__law_grown (T : Txt K mg) (F : Fns K mg) : Keeps P w K mg base CX0 "_law_grown" 4 ["_law_script", "_law_base", "_law_holes"] (sp__law_grown K) :=
  keeps_of (sp := sp__law_grown K) F.f__law_grown sc__law_grown b__law_grown (fun vs H Q E h => by obtain ⟨_, _, _, rfl, _⟩ := h; rfl) (fun f cdv A outer s H E hr => d__law_grown T (sp__law_cell K) (sp__law_draws K) (sp__law_tied K) (sp__law_renamed K) (ok__law_cell T F) (ok__law_draws T F) (ok__law_tied T F) (ok__law_renamed T F) f cdv A outer s H E hr) (pure__law_grown K)
theorem ok__law_kind (T : Txt K mg) (F : Fns K mg) : Keeps P w K mg base CX0 "_law_kind" 2 ["_law_sort", "_law_rows", "_law_columns", "_law_shift"] (sp__law_kind K) :=
  keeps_of (sp := sp__law_kind K) F.f__law_kind sc__law_kind b__law_kind (fun vs H Q E h => by obtain ⟨_, _, _, _, rfl, _⟩ := h; rfl) (fun f cdv A outer s H E hr => d__law_kind T (sp__law_settled K) (ok__law_settled T F) f cdv A outer s H E hr) (pure__law_kind K)
theorem ok__law_numbers (T : Txt K mg) (F : Fns K mg) : Keeps P w K mg base CX0 "_law_numbers" 2 ["_law_cell_here", "_law_most"] (sp__law_numbers K) :=
  keeps_of (sp := sp__law_numbers K) F.f__law_numbers sc__law_numbers b__law_numbers (fun vs H Q E h => by obtain ⟨_, rfl, _⟩ := h; rfl) (fun f cdv A outer s H E hr => d__law_numbers T (sp__law_draws K) (ok__law_draws T F) f cdv A outer s H E hr) (pure__law_numbers K)
theorem ok__law_some (T : Txt K mg) (F : Fns K mg) : Keeps P w K mg base CX0 "_law_some" 5 ["_law_script", "_law_choice"] (sp__law_some K) :=
  keeps_of (sp := sp__law_some K) F.f__law_some sc__law_some b__law_some (fun vs H Q E h => by obtain ⟨_, _, _, rfl, _⟩ := h; rfl) (fun f cdv A outer s H E hr => d__law_some T (sp__law_cell K) (sp__law_drawing K) (sp__law_renamed K) (sp__law_grown K) (sp__law_kind K) (sp__law_numbers K) (ok__law_cell T F) (ok__law_drawing T F) (ok__law_renamed T F) (ok__law_grown T F) (ok__law_kind T F) (ok__law_numbers T F) f cdv A outer s H E hr) (pure__law_some K)
theorem ok__law_home (T : Txt K mg) (F : Fns K mg) : Keeps P w K mg base CX0 "_law_home" 2 ["_law_drawing_here", "_law_seats_here", "_law_start", "_law_goal"] (sp__law_home K) :=
  keeps_of (sp := sp__law_home K) F.f__law_home sc__law_home b__law_home (fun vs H Q E h => by obtain ⟨_, _, _, _, _, _, rfl, _⟩ := h; rfl) (fun f cdv A outer s H E hr => d__law_home T (sp__law_mate K) (ok__law_mate T F) f cdv A outer s H E hr) (pure__law_home K)
theorem ok__law_walk (T : Txt K mg) (F : Fns K mg) : Keeps P w K mg base CX0 "_law_walk" 3 ["_law_drawing_here", "_law_cell_here", "_law_most"] (sp__law_walk K) :=
  keeps_of (sp := sp__law_walk K) F.f__law_walk sc__law_walk b__law_walk (fun vs H Q E h => by obtain ⟨_, _, _, _, rfl, _⟩ := h; rfl) (fun f cdv A outer s H E hr => d__law_walk T (sp__law_draws K) (sp__law_mate K) (sp__law_seats K) (sp__law_home K) (ok__law_draws T F) (ok__law_mate T F) (ok__law_seats T F) (ok__law_home T F) f cdv A outer s H E hr) (pure__law_walk K)
theorem ok__law_about (T : Txt K mg) (F : Fns K mg) : Keeps P w K mg base CX0 "_law_about" 2 ["_law_walk_here"] (sp__law_about K) :=
  keeps_of (sp := sp__law_about K) F.f__law_about sc__law_about b__law_about (fun vs H Q E h => by obtain ⟨_, _, rfl, _⟩ := h; rfl) (fun f cdv A outer s H E hr => d__law_about T (sp__law_mate K) (ok__law_mate T F) f cdv A outer s H E hr) (pure__law_about K)
theorem ok__law_spoilt (T : Txt K mg) (F : Fns K mg) : Keeps P w K mg base CX0 "_law_spoilt" 3 ["_law_walk_here", "_law_ends", "_law_draws_here"] (sp__law_spoilt K) :=
  keeps_of (sp := sp__law_spoilt K) F.f__law_spoilt sc__law_spoilt b__law_spoilt (fun vs H Q E h => by obtain ⟨_, _, _, _, _, _, _, _, rfl, _⟩ := h; rfl) (fun f cdv A outer s H E hr => d__law_spoilt T (sp__law_about K) (ok__law_about T F) f cdv A outer s H E hr) (pure__law_spoilt K)
theorem ok__law_is_walk (T : Txt K mg) (F : Fns K mg) : Keeps P w K mg base CX0 "_law_is_walk" 2 ["_law_drawing_here", "_law_ends"] (sp__law_is_walk K) :=
  keeps_of (sp := sp__law_is_walk K) F.f__law_is_walk sc__law_is_walk b__law_is_walk (fun vs H Q E h => by obtain ⟨_, _, _, _, _, rfl, _⟩ := h; rfl) (fun f cdv A outer s H E hr => d__law_is_walk T (sp__law_mate K) (sp__law_seats K) (ok__law_mate T F) (ok__law_seats T F) f cdv A outer s H E hr) (pure__law_is_walk K)
theorem ok__law_is_turn (T : Txt K mg) (F : Fns K mg) : Keeps P w K mg base CX0 "_law_is_turn" 3 ["_law_drawing_here", "_law_ends"] (sp__law_is_turn K) :=
  keeps_of (sp := sp__law_is_turn K) F.f__law_is_turn sc__law_is_turn b__law_is_turn (fun vs H Q E h => by obtain ⟨_, _, _, _, _, rfl, _⟩ := h; rfl) (fun f cdv A outer s H E hr => d__law_is_turn T (sp__law_seats K) (sp__law_is_walk K) (ok__law_seats T F) (ok__law_is_walk T F) f cdv A outer s H E hr) (pure__law_is_turn K)
theorem ok__law_lefts (T : Txt K mg) (F : Fns K mg) : Keeps P w K mg base CX0 "_law_lefts" 2 ["_law_drawing_here", "_law_walk_here"] (sp__law_lefts K) :=
  keeps_of (sp := sp__law_lefts K) F.f__law_lefts sc__law_lefts b__law_lefts (fun vs H Q E h => by obtain ⟨_, _, _, _, _, rfl, _⟩ := h; rfl) (fun f cdv A outer s H E hr => d__law_lefts T (sp__law_mate K) (sp__law_behind K) (ok__law_mate T F) (ok__law_behind T F) f cdv A outer s H E hr) (pure__law_lefts K)
theorem ok__law_crossing (T : Txt K mg) (F : Fns K mg) : Keeps P w K mg base CX0 "_law_crossing" 3 ["_law_drawing_here", "_law_walk_here", "_law_other"] (sp__law_crossing K) :=
  keeps_of (sp := sp__law_crossing K) F.f__law_crossing sc__law_crossing b__law_crossing (fun vs H Q E h => by obtain ⟨_, _, _, _, _, _, _, rfl, _⟩ := h; rfl) (fun f cdv A outer s H E hr => d__law_crossing T (sp__law_mate K) (sp__law_lefts K) (ok__law_mate T F) (ok__law_lefts T F) f cdv A outer s H E hr) (pure__law_crossing K)
theorem ok__law_wholes (T : Txt K mg) (F : Fns K mg) : Keeps P w K mg base CX0 "_law_wholes" 1 ["_law_found"] (sp__law_wholes K) :=
  keeps_of (sp := sp__law_wholes K) F.f__law_wholes sc__law_wholes b__law_wholes (fun vs H Q E h => by obtain ⟨_, _, rfl, _⟩ := h; rfl) (fun f cdv A outer s H E hr => d__law_wholes T  f cdv A outer s H E hr) (pure__law_wholes K)
theorem ok__law_parts (T : Txt K mg) (F : Fns K mg) : Keeps P w K mg base CX0 "_law_parts" 2 ["_law_drawing_here"] (sp__law_parts K) :=
  keeps_of (sp := sp__law_parts K) F.f__law_parts sc__law_parts b__law_parts (fun vs H Q E h => by obtain ⟨_, _, _, rfl, _⟩ := h; rfl) (fun f cdv A outer s H E hr => d__law_parts T (sp__law_mate K) (sp__law_seats K) (ok__law_mate T F) (ok__law_seats T F) f cdv A outer s H E hr) (pure__law_parts K)
theorem ok__law_filled (T : Txt K mg) (F : Fns K mg) : Keeps P w K mg base CX0 "_law_filled" 3 ["_law_drawing_here", "_law_walk_here", "_law_numbers_here"] (sp__law_filled K) :=
  keeps_of (sp := sp__law_filled K) F.f__law_filled sc__law_filled b__law_filled (fun vs H Q E h => by obtain ⟨_, _, _, _, _, _, _, rfl, _⟩ := h; rfl) (fun f cdv A outer s H E hr => d__law_filled T (sp__law_mate K) (sp__law_lands K) (sp__law_wholes K) (sp__law_parts K) (ok__law_mate T F) (ok__law_lands T F) (ok__law_wholes T F) (ok__law_parts T F) f cdv A outer s H E hr) (pure__law_filled K)
theorem ok__law_paper (T : Txt K mg) (F : Fns K mg) : Keeps P w K mg base CX0 "_law_paper" 4 ["_law_drawing_here", "_law_walk_here", "_law_found"] (sp__law_paper K) :=
  keeps_of (sp := sp__law_paper K) F.f__law_paper sc__law_paper b__law_paper (fun vs H Q E h => by obtain ⟨_, _, _, _, _, _, _, rfl, _⟩ := h; rfl) (fun f cdv A outer s H E hr => d__law_paper T (sp__law_is_turn K) (sp__law_crossing K) (sp__law_wholes K) (sp__law_filled K) (ok__law_is_turn T F) (ok__law_crossing T F) (ok__law_wholes T F) (ok__law_filled T F) f cdv A outer s H E hr) (pure__law_paper K)
theorem ok__law_refused (T : Txt K mg) (F : Fns K mg) : Keeps P w K mg base CX0 "_law_refused" 6 ["_law_drawing_here", "_law_walk_here"] (sp__law_refused K) :=
  keeps_of (sp := sp__law_refused K) F.f__law_refused sc__law_refused b__law_refused (fun vs H Q E h => by obtain ⟨_, _, _, _, _, rfl, _⟩ := h; rfl) (fun f cdv A outer s H E hr => d__law_refused T (sp_fill_of K) (ok_fill_of T F) f cdv A outer s H E hr) (pure__law_refused K mg T)
end
end RF

set_option Elab.async false
set_option linter.all false
set_option maxRecDepth 100000
set_option maxHeartbeats 0
namespace RF
open PySem PySem.Spec PyProof.Rows L2 Evl
theorem law_fn {P : Program} {w : World} {K : PySem.W.Frag} {mg : Str → Option Value} (T : Txt K mg) (F : Fns K mg) {fd : FuncData} (FD : FunD K "law" "law" (defArgs (top 56)) (defBody (top 56)) (defScope (top 56)) [] [] (He.ga K "law") fd) (base : Heap) : FnOk P w K mg base CX0 7 (He.ga K "law") fd ["_law_script"] (sp_law K) :=
  FD.ok sc_law (fun vs H Q E h => by obtain ⟨_, _, rfl, _⟩ := h; rfl) fun cdv A outer s H vs Q E hr h =>
    ⟨_, (d_law T (sp_fill_of K) (sp__law_cell K) (sp__law_draws K) (sp__law_some K) (sp__law_walk K) (sp__law_spoilt K) (sp__law_is_walk K) (sp__law_paper K) (sp__law_refused K) (ok_fill_of T F) (ok__law_cell T F) (ok__law_draws T F) (ok__law_some T F) (ok__law_walk T F) (ok__law_spoilt T F) (ok__law_is_walk T F) (ok__law_paper T F) (ok__law_refused T F) _ cdv A outer s H E hr).nox, pure_law K vs H Q E h⟩
end RF
open PySem PySem.W PySem.Calls PyProof.Rows
theorem PySem.Challenge.cw_ringfloor_k54_whole_fill_holds : PySem.Challenge.rw_ringfloor_k54_whole_fill.Holds := by
  w_on; o_law
  refine HandSHeadRun.head_any (r := OpenLaw.row PySem.Challenge.rw_ringfloor_k54_whole_fill) (q := RF.qv) (H := RF.hk) (ob := RF.ob) (M := 3000) (loose := RF.loose) (d := HandSHeadRun.topDef (OpenLaw.row PySem.Challenge.rw_ringfloor_k54_whole_fill).prog 56) (kwd := []) RF.ob_eq
    (by kernel_rfl) (fun s => by kernel_rfl) RF.run (by kernel_rfl) (by kernel_rfl) (by kernel_rfl) (by rfl) (by first | assumption | decide +kernel) (by decide +kernel) ⟨rfl, rfl, rfl, rfl, rfl, by decide +kernel⟩ ?hw ?hc
  case hw => w_witness2
  case hc =>
    refine L2.walk_ofE (l := PySem.Challenge.rw_ringfloor_k54_whole_fill) (n := 63) (k := 7) (x := "_law_script") (CX := L2.CX0) rfl (by decide) (by kernel_rfl) ⟨rfl, by decide, by decide⟩ ?F (fun _ _ _ _ z => z)
    intro w mg fa h Y G hmg0
    obtain ⟨K, KX, c⟩ := Y
    have hmg : mg ("law" : PySem.Str) = some (.ref fa) := by
      have e : (HandSHeadRun.topDef (OpenLaw.row PySem.Challenge.rw_ringfloor_k54_whole_fill).prog 56).name = ("law" : PySem.Str) := by kernel_rfl
      rw [← e]
      exact hmg0
    have T := RF.txt_of KX G c.t.d c.more
    have F := RF.fns_of KX G c.t.d
    have e := hmg.symm.trans F.f_law.gl
    cases e
    obtain ⟨fd, FD⟩ := F.f_law.fn
    have b := L2.FunD.bindsA (ps := ["_law_script"]) FD RF.b_law
    refine ⟨K, fd, RF.sp_law K, KX, ?_, fun H a ns _ _ hS => ⟨a, ns, rfl, hS, fun _ _ => rfl⟩, fun base _ _ => RF.law_fn T F FD base⟩
    exact fun s u => b s [u] rfl
