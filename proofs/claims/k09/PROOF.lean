import PyProof.Rows.All
import Wide.All
import OpenK.AllK
import Wide.FinOn
import HandS.ForMost
import HandS.Property
import HandS.OwnEq
import PyProof.Rows.SortShellAny
import HandS.FStr
import HandS.StrMore
import PyProof.FString3
import HandS.Strs
import HandS.WideBits
import HandS.IsInst
import HandS.Walk
import HandS.Style
import HandS.Codes
import PySem.Challenge.RW_bitspans_k09_whole_spans_are_rows
/-! Bitspans: whole spans are rows (k09). -/
set_option Elab.async false
set_option linter.all false
section PartMath
/-! Bitspans k09: the mathematics, no program in sight. -/
namespace Bp

/-- the last d bits of n, as codes of signs -/
def bs : Nat → Nat → List Nat
  | 0, _ => []
  | d + 1, n => (48 + n / 2 ^ d % 2) :: bs d n
theorem bs_len : ∀ d n, (bs d n).length = d
  | 0, _ => rfl
  | d + 1, n => by rw [bs, List.length_cons, bs_len d n]
theorem bs_take : ∀ (L m k : Nat), (bs (L + m) k).take L = bs L (k / 2 ^ m)
  | 0, m, k => by rw [List.take_zero]; rfl
  | L + 1, m, k => by
    rw [show L + 1 + m = (L + m) + 1 by omega, bs, List.take_succ_cons, bs_take L m k, bs]
    rw [Nat.div_div_eq_div_mul, ← Nat.pow_add, Nat.add_comm m L]
theorem bs_inj : ∀ {d a b : Nat}, bs d a = bs d b → a % 2 ^ d = b % 2 ^ d
  | 0, a, b, _ => by rw [Nat.pow_zero, Nat.mod_one, Nat.mod_one]
  | d + 1, a, b, h => by
    rw [bs, bs] at h
    obtain ⟨h1, h2⟩ := List.cons.inj h
    have ih := bs_inj h2
    have e1 : a / 2 ^ d % 2 = b / 2 ^ d % 2 := by omega
    rw [Nat.pow_succ, Nat.mod_mul, Nat.mod_mul, ih, e1]
theorem bs_eq {d a b : Nat} (ha : a < 2 ^ d) (hb : b < 2 ^ d) : bs d a = bs d b ↔ a = b := by
  constructor
  · intro h
    have := bs_inj h
    rwa [Nat.mod_eq_of_lt ha, Nat.mod_eq_of_lt hb] at this
  · intro h; rw [h]
theorem div_lt {k L m : Nat} (h : k < 2 ^ (L + m)) : k / 2 ^ m < 2 ^ L := by
  rw [Nat.div_lt_iff_lt_mul (Nat.two_pow_pos m), ← Nat.pow_add]
  exact h
theorem bs_pre {L m k j : Nat} (hk : k < 2 ^ (L + m)) (hj : j < 2 ^ L) : (bs (L + m) k).take L = bs L j ↔ k / 2 ^ m = j := by
  rw [bs_take, bs_eq (div_lt hk) hj]

/-! ### finite checks -/
def allLt (n : Nat) (p : Nat → Bool) : Bool := (List.range n).all p
theorem of_allLt {n : Nat} {p : Nat → Bool} (h : allLt n p = true) {k : Nat} (hk : k < n) : p k = true :=
  List.all_eq_true.mp h k (List.mem_range.mpr hk)
/-- every span of a depth up to D -/
def allDom (D : Nat) (p : Nat → Nat → Nat → Bool) : Bool := allLt (D + 1) fun d => allLt (2 ^ d) fun l => allLt (2 ^ d - l) fun w => p d l (w + 1)
theorem of_allDom {D : Nat} {p : Nat → Nat → Nat → Bool} (h : allDom D p = true) {d l w : Nat} (hd : d ≤ D) (hw : 1 ≤ w) (hl : l + w ≤ 2 ^ d) : p d l w = true := by
  have h1 := of_allLt h (k := d) (by omega)
  have h2 := of_allLt h1 (k := l) (by omega)
  have h3 := of_allLt h2 (k := w - 1) (by omega)
  rwa [Nat.sub_add_cancel hw] at h3

/-! ### what the functions reckon -/
/-- how many signs a number has in base 2 -/
def blen (x : Nat) : Nat := if x = 0 then 0 else Nat.log2 x + 1
def opn (l w : Nat) : Nat := blen (l ^^^ (l + w - 1))
/-- the number of the sure bits -/
def sureN (l w : Nat) : Nat := l / 2 ^ opn l w
def least : Nat → Nat → Nat → Nat × Nat × Nat
  | l, w, 0 => (l, w, 0)
  | l, w, d + 1 => if l % 2 = 0 ∧ w % 2 = 0 then least (l / 2) (w / 2) d else (l, w, d + 1)
/-- the places of the block at a place -/
def plc (d p e : Nat) : Nat :=
  if (if p = 0 then d else blen (p ^^^ (p - 1)) - 1) < blen (e - p) - 1 then (if p = 0 then d else blen (p ^^^ (p - 1)) - 1) else blen (e - p) - 1
/-- the blocks from a place on: length and number -/
def blk (d e : Nat) : Nat → Nat → List (Nat × Nat)
  | 0, _ => []
  | f + 1, p => if p < e then (d - plc d p e, p / 2 ^ plc d p e) :: blk d e f (p + 2 ^ plc d p e) else []
/-- the blocks of a span -/
def blks (l w d : Nat) : List (Nat × Nat) := blk d (l + w) w l

/-- of the loop of blocks: every place that lies ahead of the end -/
def blkOk (d p e : Nat) : Bool := decide (plc d p e ≤ d) && decide (p / 2 ^ plc d p e < 2 ^ (d - plc d p e)) && decide (p + 2 ^ plc d p e ≤ e)
theorem blk_chk : (allLt 7 fun d => allLt (2 ^ d) fun p => allLt (2 ^ d - p) fun e => blkOk d p (p + e + 1)) = true := by decide +kernel
theorem blk_ok {d p e : Nat} (hd : d ≤ 6) (hp : p < e) (he : e ≤ 2 ^ d) : plc d p e ≤ d ∧ p / 2 ^ plc d p e < 2 ^ (d - plc d p e) ∧ p + 2 ^ plc d p e ≤ e := by
  have h1 := of_allLt blk_chk (k := d) (by omega)
  have h2 := of_allLt h1 (k := p) (by omega)
  have h3 := of_allLt h2 (k := e - p - 1) (by omega)
  rw [show p + (e - p - 1) + 1 = e by omega] at h3
  unfold blkOk at h3
  simp only [Bool.and_eq_true, decide_eq_true_eq] at h3
  exact ⟨h3.1.1, h3.1.2, h3.2⟩
theorem pos_chk : (allLt 65 fun p => p == 0 || (decide (1 ≤ blen p) && decide (1 ≤ blen (p ^^^ (p - 1))))) = true := by decide +kernel
theorem pos_ok {p : Nat} (h : p ≤ 64) (h0 : 0 < p) : 1 ≤ blen p ∧ 1 ≤ blen (p ^^^ (p - 1)) := by
  have h1 := of_allLt pos_chk (k := p) (by omega)
  have e : (p == 0) = false := by simp; omega
  rw [e, Bool.false_or, Bool.and_eq_true] at h1
  exact ⟨of_decide_eq_true h1.1, of_decide_eq_true h1.2⟩
theorem blk_end {d e p : Nat} (h : e ≤ p) : ∀ f, blk d e f p = []
  | 0 => rfl
  | f + 1 => by rw [blk, if_neg (by omega)]
/-- more fuel than needed changes nothing -/
theorem blk_fuel {d e : Nat} : ∀ {f p : Nat}, e - p ≤ f → blk d e f p = blk d e (e - p) p
  | 0, p, h => by rw [show e - p = 0 by omega]
  | f + 1, p, h => by
    by_cases hp : p < e
    · have hq : 0 < 2 ^ plc d p e := Nat.two_pow_pos _
      obtain ⟨g, hg⟩ : ∃ g, e - p = g + 1 := ⟨e - p - 1, by omega⟩
      rw [hg, blk, blk, if_pos hp, if_pos hp]
      have e1 := blk_fuel (d := d) (e := e) (f := f) (p := p + 2 ^ plc d p e) (by omega)
      have e2 := blk_fuel (d := d) (e := e) (f := g) (p := p + 2 ^ plc d p e) (by omega)
      rw [e1, e2]
    · rw [blk_end (by omega), blk_end (by omega)]
theorem blk_step {d e p : Nat} (hp : p < e) : blk d e (e - p) p = (d - plc d p e, p / 2 ^ plc d p e) :: blk d e (e - (p + 2 ^ plc d p e)) (p + 2 ^ plc d p e) := by
  have hq : 0 < 2 ^ plc d p e := Nat.two_pow_pos _
  obtain ⟨g, hg⟩ : ∃ g, e - p = g + 1 := ⟨e - p - 1, by omega⟩
  rw [hg, blk, if_pos hp, blk_fuel (f := g) (by omega)]

/-- a word's set of rows -/
def hasM (l w d L j : Nat) : Bool :=
  if d ≤ L then decide (l ≤ j / 2 ^ (L - d)) && decide (j / 2 ^ (L - d) < l + w)
  else decide (l ≤ j * 2 ^ (d - L)) && decide (j * 2 ^ (d - L) + 2 ^ (d - L) ≤ l + w)
/-- left and right -/
def mid (l w : Nat) : Nat := (l + w - 1) / 2 ^ (opn l w - 1) * 2 ^ (opn l w - 1)
def gcdM : Nat → Nat → Nat → Nat
  | 0, a, _ => a
  | f + 1, a, b => if 0 < b then gcdM f b (a % b) else a
/-- one deeper if there is but one cell -/
def wide (l w d : Nat) : Nat × Nat × Nat := if w = 1 then (2 * l, 2, d + 1) else (l, w, d)
def side (a : Nat) (t : Nat × Nat × Nat) : Nat × Nat × Nat :=
  if a = 0 then (t.1, mid t.1 t.2.1 - t.1, t.2.2) else (t.1 + (mid t.1 t.2.1 - t.1), t.1 + t.2.1 - mid t.1 t.2.1, t.2.2)
/-- a half: low, width, depth -/
def half (l w d a : Nat) : Nat × Nat × Nat := side a (wide l w d)
def fewest : Nat → List Nat → Nat
  | 0, ks => if ks = [] then 0 else 1
  | n + 1, ks => if ks.length = 2 ^ (n + 1) ∨ ks = [] then (if ks = [] then 0 else 1)
    else fewest n (ks.filter fun k => decide (k < 2 ^ n)) + fewest n ((ks.filter fun k => decide (2 ^ n ≤ k)).map fun k => k - 2 ^ n)
/-- the cells one deeper -/
def known (l w : Nat) : List Nat := List.range' (2 * l) (2 * w)

/-- of the open places -/
def opnOk (d l w : Nat) : Bool := decide (opn l w ≤ d) && decide (sureN l w < 2 ^ (d - opn l w)) && (decide (w ≤ 1) || (decide (1 ≤ opn l w) && decide (l < mid l w) && decide (mid l w < l + w)))
theorem opn_chk : allDom 6 opnOk = true := by decide +kernel
theorem opn_ok {d l w : Nat} (hd : d ≤ 6) (hw : 1 ≤ w) (hl : l + w ≤ 2 ^ d) : opn l w ≤ d ∧ sureN l w < 2 ^ (d - opn l w) ∧ (2 ≤ w → 1 ≤ opn l w ∧ l < mid l w ∧ mid l w < l + w) := by
  have h := of_allDom opn_chk hd hw hl
  unfold opnOk at h
  simp only [Bool.and_eq_true, Bool.or_eq_true, decide_eq_true_eq] at h
  exact ⟨h.1.1, h.1.2, fun h2 => by rcases h.2 with z | z; · omega
                                    · exact ⟨z.1.1, z.1.2, z.2⟩⟩

/-! ### what the law asks, for every span of a depth up to five -/
def madeN (l w d : Nat) : List Nat := (blks l w d).flatMap fun b => (List.range (2 ^ (d + 1))).filter fun k => k / 2 ^ (d + 1 - b.1) == b.2
theorem made_chk : (allDom 5 fun d l w => madeN l w d == known l w) = true := by decide +kernel
theorem few_chk : (allDom 5 fun d l w => fewest (d + 1) (known l w) == (blks l w d).length) = true := by decide +kernel
end Bp
end PartMath
section PartR1
set_option maxRecDepth 100000
set_option maxHeartbeats 4000000
namespace Bz
open PySem PySem.Spec PyProof.Rows L2

section
variable {X : Cx} {CX : CXT} {k : Nat} {C f : Addr} {fd : FuncData} {ps : List Str} {sp : Sp} {E : XK}

/-! ### in, [..], bool(..) of an own instance, by its own methods -/
/-- x in o, by the class's own __contains__ that hands back a bool -/
def rOwnIn (C : Addr) (sp : Sp) (E : XK) : R2 := fun x y H Q => ∃ a dx fs, y = .ref a ∧ H a = some (.ins C dx fs) ∧ sp [y, x] H (fun v H' => ∃ b, v = .bl b ∧ Q (.bl b) H') E
theorem op_ownIn (F : FnOk X.prog X.w X.K X.mg X.base CX k f fd ps sp) (hr : Room k X.A) (hs : PySem.W.findIn X.K (.ref C) "__contains__" = some (some (.ref f))) (hf : PySem.W.isFn X.K (.ref f) = true)
    (hb : Binds X.K fd ps []) (hx : Passes CX X E) : OpR X (compareOp .In) (rOwnIn C sp E) := by
  intro pins s σ H x y v u Q I rx ry ⟨a, dx, fs, hy, ha, q⟩
  subst hy
  obtain rfl : u = Value.ref a := ry
  obtain ⟨mA, J0, _⟩ := ins_get I.hok ha
  obtain ⟨od, J, _⟩ := J0.look
  obtain ⟨m, hF⟩ := I.fr
  refine PySem.W.in_K hF I.ok.mod.kin J hs hf (thn (run_fn (us := [.ref a, v]) (vs := [.ref a, x]) F hr hb .nil hx I (.cons rfl (.cons rx .nil)) q) fun r s' z => ?_)
  obtain ⟨w', H', I', rw', b, hb', q'⟩ := z
  subst hb'
  obtain rfl : r = Value.bool b := rw'
  exact wpAny_truthy_bool ⟨.bl b, H', I', rfl, q'⟩

/-- o[i], by the class's own __getitem__ -/
def rOwnIx (C : Addr) (sp : Sp) (E : XK) : R2 := fun x y H Q => ∃ a dx fs, x = .ref a ∧ H a = some (.ins C dx fs) ∧ sp [x, y] H Q E
theorem pe_ownIx {a b : Expr} {ta tb : TE} {pos : Pos} (F : FnOk X.prog X.w X.K X.mg X.base CX k f fd ps sp) (hr : Room (k + 1) X.A) (hs : PySem.W.findIn X.K (.ref C) "__getitem__" = some (some (.ref f))) (hf : PySem.W.isFn X.K (.ref f) = true)
    (hfn : PySem.W.fnIn X.K f = true) (hb : Binds X.K fd ps []) (hx : Passes CX X.nox E) (ha : PE X a ta) (hb' : PE X b tb)
    (hsl : ∀ o i, subscripted b true o i = runValue (.builtin "lifetime.subscript" ⟨[o, i], []⟩)) : PE X (.Subscript a b pos) (tOp (rOwnIx C sp E) ta tb) := by
  refine ⟨fun pins s0 σ H0 Q I0 h => Subscript_ (binT ha hb' I0 h fun v u s x y H I rx ry q => ?_)⟩
  obtain ⟨a, dx, fs, hx', ha, q⟩ := q
  subst hx'
  obtain rfl : v = Value.ref a := rx
  obtain ⟨mA, J0, _⟩ := ins_get I.hok ha
  obtain ⟨od, J, _⟩ := J0.look
  obtain ⟨m, hF⟩ := I.fr
  have r2 : Vals [V.ref a, y] [Value.ref a, u] := .cons rfl (.cons ry .nil)
  have hl := F.len _ _ _ _ q
  refine PySem.W.sub_K hF I.ok.mod.kin J hs hfn hf (wpAny_call (codeAny_mono (F.run X.A.in1 X.stack s H ⟨[.ref a, u], []⟩ [.ref a, u] [.ref a, y] Q E hr.in1 I.env0.in1 ?_ r2 q) fun r s' hq => ?_)) (hsl _ _)
  · have z := hb s [.ref a, u] I.kIn (by simpa using hl)
    simpa using z
  · cases r with
    | error er => exact False.elim (hx pins σ H s er s' (I.wish _) hq)
    | ok fl =>
      cases fl with
      | ret w => exact I.after hq
      | next => exact False.elim hq
      | brk => exact False.elim hq
      | cont => exact False.elim hq

/-- the callee runs two calls deeper -/
theorem run_in2 {pins : List (Addr × Obj)} {σ : L2.St} {H : Hp} {s : Shared} {Q : VK} {us : List Value} {vs : List V} (F : FnOk X.prog X.w X.K X.mg X.base CX k f fd ps sp) (hr : Room (k + 2) X.A) (hb : Binds X.K fd ps [])
    (hx : Passes CX X.nox E) (I : L2.Inv X pins σ H s) (r : Vals vs us) (q : sp vs H Q E) {E' : Value → Shared → Prop} : wpAny (model X.prog X.w) X.A.in1.in1 (call (.ref f) us) (EP X pins σ Q) E' s := by
  have hl := F.len _ _ _ _ q
  refine wpAny_call (codeAny_mono (F.run X.A.in1.in1 X.stack s H ⟨us, []⟩ us vs Q E hr.in1.in1 I.env0.in1.in1 ?_ r q) fun r s' hq => ?_)
  · have z := hb s us I.kIn (by rw [List.append_nil, ← r.length]; exact hl)
    simpa using z
  · cases r with
    | error er => exact False.elim (hx pins σ H s er s' (I.wish _) hq)
    | ok fl =>
      cases fl with
      | ret w => exact I.after hq
      | next => exact False.elim hq
      | brk => exact False.elim hq
      | cont => exact False.elim hq

theorem new_bool_in {prog : Program} {w : World} (x : Value) : MeetsIn prog w (Builtin.«bool.__new__» ⟨[.type "bool", x], []⟩)
    (fun A R s => wpAny (model prog w) A.in1 (truthy x) (fun b s1 => R (.ok (.ret (.bool b))) s1) (fun e s1 => R (.error e) s1) s) :=
  .of_wp fun A R s h => by
    unfold Builtin.«bool.__new__»
    have f1 := PySem.F.conv_sub_bool
    generalize hT : truthy x = T at h
    obtain ⟨hp, g, d, tk, os⟩ := s
    repeat (any_goals (first | assumption | wp_step))
    subst hT
    exact wpAny_mono h (fun b s1 hR => wpAny_pure ⟨_, rfl, hR⟩) fun _ _ z => z

/-- bool(o), by the class's own __bool__ -/
theorem call_ownBool (F : FnOk X.prog X.w X.K X.mg X.base CX k f fd ps sp) (hr : Room (k + 2) X.A) (hs : PySem.W.findIn X.K (.ref C) "__bool__" = some (some (.ref f))) (hf : PySem.W.isFn X.K (.ref f) = true)
    (hb : Binds X.K fd ps []) (hx : Passes CX X.nox E) : CallR X (.type "bool") (fun xs H Q => ∃ a dx fs, xs = [.ref a] ∧ H a = some (.ins C dx fs) ∧ sp [.ref a] H (fun v H' => ∃ b, v = .bl b ∧ Q (.bl b) H') E) := by
  intro pins s σ H xs us Q I r ⟨a, dx, fs, he, ha, q⟩
  subst he
  obtain ⟨u, rfl, ru⟩ := vals1 r
  obtain rfl : u = Value.ref a := ru
  obtain ⟨mA, J0, _⟩ := ins_get I.hok ha
  obtain ⟨od, J, _⟩ := J0.look
  obtain ⟨m, hF⟩ := I.fr
  refine callType_newIn PySem.F.called_bool PySem.F.newNe_bool (PySem.F.typeCall_bool_1 _) (PySem.F.newCall_bool_1 _) (fun obj => PySem.F.args_object_init_2 obj _) PySem.F.entry_bool_new (new_bool_in _) ?_
  show wpAny (model X.prog X.w) X.A.in1.in1 (truthy (.ref a)) _ _ s
  refine PySem.W.truthy_K hF I.ok.mod.kin J hs hf (thn (run_in2 (us := [.ref a]) (vs := [.ref a]) F hr hb hx I (.cons rfl .nil) q) fun r s' z => ?_)
  obtain ⟨w', H', I', rw', b, hb', q'⟩ := z
  subst hb'
  obtain rfl : r = Value.bool b := rw'
  exact ⟨rfl, .bl b, H', I', rfl, q'⟩
end
end Bz
end PartR1
section PartR2
set_option maxRecDepth 100000
set_option maxHeartbeats 4000000
namespace Bz
open PySem PySem.Spec PyProof.Rows L2

/-! ### sorted texts are the only ones -/
theorem rising_pw : ∀ (p : Str) (l : List Str), risingS p l = true → (p :: l).Pairwise fun a b => a.cps.toList ≤ b.cps.toList
  | p, [], _ => List.pairwise_singleton _ _
  | p, x :: r, h => by
    have h' : (!ltCps x.cps.toList p.cps.toList && risingS x r) = true := h
    obtain ⟨h1, h2⟩ := Bool.and_eq_true_iff.mp h'
    have px : p.cps.toList ≤ x.cps.toList := by
      rw [ltCps_eq] at h1
      exact fun z => by simp [z] at h1
    have ih := rising_pw x r h2
    refine List.pairwise_cons.mpr ⟨fun y hy => ?_, ih⟩
    rcases List.mem_cons.mp hy with rfl | hy
    · exact px
    · exact List.le_trans px ((List.pairwise_cons.mp ih).1 y hy)
theorem sorted_pw : ∀ (l : List Str), sortedS l = true → l.Pairwise fun a b => a.cps.toList ≤ b.cps.toList
  | [], _ => .nil
  | x :: r, h => rising_pw x r h
theorem str_ext {a b : Str} (h : a.cps.toList = b.cps.toList) : a = b := by
  obtain ⟨a⟩ := a
  obtain ⟨b⟩ := b
  have e : a = b := Array.toList_inj.mp h
  rw [e]
/-- a sorted rearrangement of what is ascending is that itself -/
theorem sorted_same {xs ys : List Str} (hx : xs.Pairwise fun a b => a.cps.toList ≤ b.cps.toList) (p : ys.Perm xs) (hy : sortedS ys = true) : ys = xs :=
  List.Perm.eq_of_pairwise (le := fun a b : Str => a.cps.toList ≤ b.cps.toList) (fun a b _ _ h1 h2 => str_ext (List.le_antisymm h1 h2)) (sorted_pw ys hy) hx p

/-! ### sorted(xs), a list or a tuple of texts, any length -/
section
variable {prog : Program} {w : World} {A : Around} {E : Value → Shared → Prop} {s : Shared}
/-- the items of a tuple, gathered into a new list -/
theorem gather_tup {l : Addr} {vs : List Value} {Q : List Value → Shared → Prop} (hl : IsTup s.heap l vs.toArray) (hz : vs.length ≤ sizeLine)
    (h : Q vs { s with heap := (s.heap.push (seqObj "list" #[] 0)).update s.heap.objs.size (Obj.mapSeq (· ++ vs.toArray)) }) : wpAny (model prog w) A (collect (.ref l)) Q E s := by
  obtain ⟨ob, hob, hcls, k, hdat⟩ := hl
  unfold collect
  refine wpAny_bind (wpAny_runValue (codeAny_builtin entry_proto_collect' ?_))
  show wpAny _ _ (do again (.builtin "list.__iadd__" ⟨[← newList [], Value.ref l], []⟩)) _ _ s
  refine wpAny_bind (wpAny_newList (wpAny_pure ⟨Code.quiet_builtin _ (by decide +kernel), codeAny_builtin entry_list_iadd' ?_⟩))
  show wpAny _ _ (Builtin.List.listExtendWith (Value.ref s.heap.objs.size) (Value.ref l) (Value.ref s.heap.objs.size)) _ _ { s with heap := s.heap.push (seqObj "list" #[] 0) }
  unfold Builtin.List.listExtendWith
  have g1 : (s.heap.push (seqObj "list" #[] 0)).get? l = some ob := Heap.get?_push_of_some _ hob
  have g0 : (s.heap.push (seqObj "list" #[] 0)).get? s.heap.objs.size = some (seqObj "list" #[] 0) := Heap.get?_push_size _ rfl
  refine wpAny_bind (wpAny_typeOf (T := "tuple") ⟨ob, g1, hcls⟩ ?_)
  have tt : (Value.type "tuple" == Value.type "tuple") = true := by rfl
  rw [if_pos (by rw [tt, Bool.or_true])]
  refine wpAny_bind (listItems_at g1 hdat (wpAny_bind (listItems_at (xs := #[]) (n := 0) g0 rfl ?_)))
  rw [if_neg (by simp)]
  refine wpAny_bind (listUpdate_at (xs := #[]) (n := 0) g0 rfl ?_ (Nat.zero_le _) ?_)
  · refine wpAny_pure (wpAny_bind (wpAny_load (get?_update_seq g0 _) ?_))
    show wpAny _ _ (pure ((#[] : Array Value) ++ vs.toArray).toList) Q E _
    have e : ((#[] : Array Value) ++ vs.toArray).toList = vs := by simp
    rw [e]
    exact wpAny_pure h
  · show (#[] ++ vs.toArray).size ≤ sizeLine + 1
    have e : ((#[] : Array Value) ++ vs.toArray).size = vs.length := by simp
    rw [e]
    exact Nat.le_succ_of_le hz
/-- sorted of a tuple of texts -/
theorem sorted_strsTup {l : Addr} {vs : List Value} {ss : List Str} {Q : Value → Shared → Prop} (hl : IsTup s.heap l vs.toArray) (hS : StrsAre vs ss) (hz : vs.length ≤ sizeLine)
    (h : ∀ (out : Array Value) (ss' : List Str), StrsAre out.toList ss' → ss'.Perm ss → sortedS ss' = true → Q (.ref (s.heap.objs.size + 1)) { s with heap := sortedAll s.heap vs out }) :
    wpAny (model prog w) A (call (.builtin "sorted") [.ref l]) Q E s := by
  refine Calls.call_function_entry PyProof.Rows.kind_sorted PyProof.Rows.plain_sorted PyProof.Rows.entry_sorted (PyProof.Rows.args_sorted1 _) ?_
  unfold Builtin.«sorted»
  refine wpAny_bind (m := checkCount "sorted" 1 1 _) (wpAny_pure (wpAny_bind (gather_tup hl hz (wpAny_bind (wpAny_newList ?_ hz)))))
  generalize hU : (s.heap.push (seqObj "list" #[] 0)).update s.heap.objs.size (Obj.mapSeq (· ++ vs.toArray)) = U
  have hsz : U.objs.size = s.heap.objs.size + 1 := by rw [← hU, Heap.size_update, size_push']
  have hat : (U.push (seqObj "list" vs.toArray 0)).get? (s.heap.objs.size + 1) = some (seqObj "list" vs.toArray 0) := by rw [← hsz]; exact Heap.get?_push_size _ rfl
  show wpAny _ _ _ _ _ { s with heap := U.push (seqObj "list" vs.toArray 0) }
  rw [hsz]
  refine wpAny_bind (wpAny_holding (wpAny_call_entry slot_list_sort ⟨_, hat, rfl⟩ entry_list_sort
    (list_sort_treeKAny strKind_oneLt hat hS.keysOf (fun v₁ v₂ rest e => keyKind_strs (by rw [← e]; exact hS)) hz fun st' a1 a2 => ⟨_, rfl, ?_⟩) (args_list_sort _)))
  obtain ⟨ss', h1, h2, h3⟩ := sorted_out_str hS a1 a2
  refine wpAny_pure ⟨_, rfl, ?_⟩
  have q := h _ ss' h1 h2 h3
  unfold sortedAll at q
  rw [hU] at q
  exact q
end
section
variable {X : Cx}
/-- sorted(xs) of texts -/
def rSortTx (K : PySem.W.Frag) : List V → Hp → VK → Prop := fun vs H Q => ∃ (a : Addr) (xs : List Str), vs = [V.ref a] ∧ (SqL K H a (xs.map V.str) ∨ SqT K H a (xs.map V.str)) ∧
  ∀ (ys : List Str) (p : Addr), ys.Perm xs → sortedS ys = true → H p = none → Q (.ref p) (upd H p (.lst (ys.map V.str)))
theorem cr_sortTx : CallR X (.builtin "sorted") (rSortTx X.K) := by
  intro pins s σ H vs us Q I r ⟨a, xs, he, hs, q⟩
  subst he
  rw [Vals.ref1 r]
  have fin : ∀ (its : List Value), Vals (xs.map V.str) its → (xs.map V.str).length ≤ sizeLine → ∀ (out : Array Value) (ys : List Str), StrsAre out.toList ys → ys.Perm xs → sortedS ys = true →
      EP X pins σ Q (.ref (s.heap.objs.size + 1)) { s with heap := sortedAll s.heap its out } := fun its rv hz out ys h1 h2 h3 => by
    obtain ⟨ep, he'⟩ := PyProof.Rows.sortedAll_at s.heap its out
    rw [List.length_map] at hz
    exact ⟨.ref _, upd H (s.heap.objs.size + 1) (.lst (ys.map V.str)), I.laid (t' := s.toks) (fun _ _ => PyProof.Rows.sortedAll_old) (Nat.le_succ _) ⟨by rw [List.length_map, h2.length_eq]; exact hz, out.toList, ep, vals_of_strs h1, he'⟩, rfl, q ys _ h2 h3 (I.hok.fresh (Nat.le_succ _))⟩
  rcases hs with hs | hs
  · obtain ⟨its, rv, hl, hz⟩ := I.list hs
    exact PyProof.Rows.sorted_strsAny hl.isList rv.strs (by rw [← rv.length]; exact hz) fun out ys h1 h2 h3 => fin its rv hz out ys h1 h2 h3
  · obtain ⟨its, rv, hl, hz⟩ := I.tuple hs
    exact sorted_strsTup hl rv.strs (by rw [← rv.length]; exact hz) fun out ys h1 h2 h3 => fin its rv hz out ys h1 h2 h3

/-- repr(a bool) -/
theorem call_repr_bl : CallR X (.builtin "repr") (fun xs H Q => ∃ b, xs = [.bl b] ∧ Q (.str (if b then "True" else "False")) H) := by
  intro pins s σ H xs us Q I r ⟨b, he, q⟩
  subst he
  obtain ⟨u, rfl, ru⟩ := vals1 r
  obtain rfl : u = Value.bool b := ru
  exact call_repr_gives (PySem.typeIs_bool s b) PySem.F.slot_bool_repr PySem.F.entry_bool_repr (PySem.F.args_bool_repr_1 _) (gives_bool_repr b) ⟨.str (if b then "True" else "False"), H, I.tok _, ⟨_, by cases b <;> rfl⟩, q⟩ rfl (by cases b <;> decide)
end
end Bz
end PartR2
section PartR3
set_option maxRecDepth 100000
set_option maxHeartbeats 4000000
namespace Bz
open PySem PySem.Builtin PySem.Spec PyProof.Rows L2

/-! ### f'{n:b}' of a number below 64, and zfill -/
def binS (n : Nat) : Str := ⟨((Nat.toDigits 2 n).map Char.toNat).toArray⟩
theorem fmt_eq : ∀ (n : Nat), n < 64 → ∀ (t u : Tok), Builtin.«int.__format__» ⟨[.int (n : Int) t, .str (Str.ofString "b") u], []⟩ = (do
   let _ ← typeNameOf (.str (Str.ofString "b") u)
   let _ ← typeNameOfCut 200 (.int (n : Int) t)
   retStr (binS n))
  | 0, _, t, u => by with_unfolding_all rfl
  | 1, _, t, u => by with_unfolding_all rfl
  | 2, _, t, u => by with_unfolding_all rfl
  | 3, _, t, u => by with_unfolding_all rfl
  | 4, _, t, u => by with_unfolding_all rfl
  | 5, _, t, u => by with_unfolding_all rfl
  | 6, _, t, u => by with_unfolding_all rfl
  | 7, _, t, u => by with_unfolding_all rfl
  | 8, _, t, u => by with_unfolding_all rfl
  | 9, _, t, u => by with_unfolding_all rfl
  | 10, _, t, u => by with_unfolding_all rfl
  | 11, _, t, u => by with_unfolding_all rfl
  | 12, _, t, u => by with_unfolding_all rfl
  | 13, _, t, u => by with_unfolding_all rfl
  | 14, _, t, u => by with_unfolding_all rfl
  | 15, _, t, u => by with_unfolding_all rfl
  | 16, _, t, u => by with_unfolding_all rfl
  | 17, _, t, u => by with_unfolding_all rfl
  | 18, _, t, u => by with_unfolding_all rfl
  | 19, _, t, u => by with_unfolding_all rfl
  | 20, _, t, u => by with_unfolding_all rfl
  | 21, _, t, u => by with_unfolding_all rfl
  | 22, _, t, u => by with_unfolding_all rfl
  | 23, _, t, u => by with_unfolding_all rfl
  | 24, _, t, u => by with_unfolding_all rfl
  | 25, _, t, u => by with_unfolding_all rfl
  | 26, _, t, u => by with_unfolding_all rfl
  | 27, _, t, u => by with_unfolding_all rfl
  | 28, _, t, u => by with_unfolding_all rfl
  | 29, _, t, u => by with_unfolding_all rfl
  | 30, _, t, u => by with_unfolding_all rfl
  | 31, _, t, u => by with_unfolding_all rfl
  | 32, _, t, u => by with_unfolding_all rfl
  | 33, _, t, u => by with_unfolding_all rfl
  | 34, _, t, u => by with_unfolding_all rfl
  | 35, _, t, u => by with_unfolding_all rfl
  | 36, _, t, u => by with_unfolding_all rfl
  | 37, _, t, u => by with_unfolding_all rfl
  | 38, _, t, u => by with_unfolding_all rfl
  | 39, _, t, u => by with_unfolding_all rfl
  | 40, _, t, u => by with_unfolding_all rfl
  | 41, _, t, u => by with_unfolding_all rfl
  | 42, _, t, u => by with_unfolding_all rfl
  | 43, _, t, u => by with_unfolding_all rfl
  | 44, _, t, u => by with_unfolding_all rfl
  | 45, _, t, u => by with_unfolding_all rfl
  | 46, _, t, u => by with_unfolding_all rfl
  | 47, _, t, u => by with_unfolding_all rfl
  | 48, _, t, u => by with_unfolding_all rfl
  | 49, _, t, u => by with_unfolding_all rfl
  | 50, _, t, u => by with_unfolding_all rfl
  | 51, _, t, u => by with_unfolding_all rfl
  | 52, _, t, u => by with_unfolding_all rfl
  | 53, _, t, u => by with_unfolding_all rfl
  | 54, _, t, u => by with_unfolding_all rfl
  | 55, _, t, u => by with_unfolding_all rfl
  | 56, _, t, u => by with_unfolding_all rfl
  | 57, _, t, u => by with_unfolding_all rfl
  | 58, _, t, u => by with_unfolding_all rfl
  | 59, _, t, u => by with_unfolding_all rfl
  | 60, _, t, u => by with_unfolding_all rfl
  | 61, _, t, u => by with_unfolding_all rfl
  | 62, _, t, u => by with_unfolding_all rfl
  | 63, _, t, u => by with_unfolding_all rfl
  | n + 64, h, _, _ => absurd h (by omega)
theorem binS_len : ∀ n, n < 64 → (binS n).length ≤ 6 := by decide +kernel
theorem gives_fmt {n : Nat} (hn : n < 64) (t u : Tok) : Gives (Builtin.«int.__format__» ⟨[.int (n : Int) t, .str (Str.ofString "b") u], []⟩) (.str (binS n)) := by
  rw [fmt_eq n hn t u]
  refine gives_after_typeNameOf (T := "str") (fun s => PySem.typeIs_str s _ _) (by decide) fun _ => ?_
  intro prog w A R s hq
  exact wpAny_bind (wpAny_typeNameOfCut_int ((Gives.of_eq rfl : Gives (retStr (binS n)) (.str (binS n))) prog w A R s hq))
section
variable {X : Cx}
def tFmtB (te : TE) : TE := fun σ H Q => te σ H fun x H1 => ∃ n : Nat, x = .int (n : Int) ∧ n < 64 ∧ Q (.str (binS n)) H1
theorem pe_fmtB {e : Expr} {te : TE} {k : Nat} {p1 p2 pos : Pos} (he : PE X e te) : PE X (.FormattedValue e (-1) (some (.JoinedStr [.Constant (.str (Str.ofString "b")) k p1] p2)) pos) (tFmtB te) := by
  refine ⟨fun pins s σ H Q I h => wpAny_FormattedValue_spec (thn (he.run pins s σ H _ I h) fun v s1 ⟨x, H1, I1, r1, n, hx, hn, q⟩ => ?_)⟩
  subst hx
  obtain ⟨t, rfl⟩ := r1
  refine thn ((pe_joined1 pe_str).run pins s1 σ H1 (fun y H2 => y = .str (Str.ofString "b") ∧ H2 = H1) I1 ⟨rfl, rfl⟩) fun r s2 ⟨y, H2, I2, r2, hy, hH⟩ => ?_
  subst hy
  subst hH
  obtain ⟨t2, rfl⟩ := r2
  refine ⟨_, _, rfl, ?_⟩
  have hz := binS_len n hn
  exact wpAny_formatField_spec (by decide) (fun s' => PySem.typeIs_int s' _ t) PySem.F.slot_int_format PySem.F.entry_int_format PySem.F.args_int_format_2 (fun u => gives_fmt hn t u) ⟨.str (binS n), H2, (I2.tok _).tok _, ⟨_, rfl⟩, q⟩ (by decide)
    (by rw [sizeLine_eq]; omega)
end
/-- a text of these signs -/
def tx (l : List Nat) : Str := ⟨l.toArray⟩
theorem tx_list (l : List Nat) : (tx l).cps.toList = l := rfl
theorem tx_len (l : List Nat) : (tx l).length = l.length := by show l.toArray.size = _; rw [List.size_toArray]
theorem tx_inj {a b : List Nat} : tx a = tx b ↔ a = b := ⟨fun h => congrArg (fun z : Str => z.cps.toList) h, fun h => by rw [h]⟩
theorem zfill_chk : (Bp.allLt 7 fun d => Bp.allLt (2 ^ d) fun n => d == 0 || decide (Txt.zfill (binS n) (d : Int) = tx (Bp.bs d n))) = true := by decide +kernel
theorem zfill_bin {d n : Nat} (hd : d ≤ 6) (h0 : 0 < d) (hn : n < 2 ^ d) : Txt.zfill (binS n) (d : Int) = tx (Bp.bs d n) := by
  have h1 := Bp.of_allLt (Bp.of_allLt zfill_chk (k := d) (by omega)) hn
  have e : (d == 0) = false := by simp; omega
  rw [e, Bool.false_or] at h1
  exact of_decide_eq_true h1
end Bz
end PartR3
section PartR4
set_option maxRecDepth 100000
set_option maxHeartbeats 8000000
namespace Bz
open PySem PySem.Spec PyProof.Rows L2

/-! ### len(set(xs)), xs a list of texts: how many different ones -/
/-- the different ones, each where it is met first -/
def met : List Str → List Str → List Str
  | σ, [] => σ
  | σ, k :: r => met (if σ.contains k then σ else σ ++ [k]) r
def metS (l : List Str) (i : Nat) : List Str := met [] (l.take i)
theorem met_snoc : ∀ (r σ : List Str) (k : Str), met σ (r ++ [k]) = (if (met σ r).contains k then met σ r else met σ r ++ [k])
  | [], σ, k => rfl
  | x :: r, σ, k => met_snoc r _ k
theorem met_len : ∀ (r σ : List Str), (met σ r).length ≤ σ.length + r.length
  | [], σ => Nat.le_refl _
  | x :: r, σ => by
    have ih := met_len r (if σ.contains x then σ else σ ++ [x])
    show (met (if σ.contains x then σ else σ ++ [x]) r).length ≤ σ.length + (r.length + 1)
    split at ih <;> rename_i h
    · rw [if_pos h]; omega
    · rw [if_neg h]; rw [List.length_append] at ih; simp only [List.length_singleton] at ih; omega
theorem metS_next {l : List Str} {i : Nat} {k : Str} (h : l[i]? = some k) : metS l (i + 1) = (if (metS l i).contains k then metS l i else metS l i ++ [k]) := by
  unfold metS
  rw [List.take_add_one, h]
  exact met_snoc _ _ _
theorem metS_le (l : List Str) (i : Nat) : (metS l i).length ≤ i := by
  have h := met_len (l.take i) []
  rw [List.length_take] at h
  have := Nat.min_le_left i l.length
  unfold metS
  simp only [List.length_nil] at h
  omega
section
variable {prog : Program} {w : World} {A : Around} {R : Result → Shared → Prop} {I : Addr} {fp wr : List Addr} {G : Array GenState → Array GenState → Prop} {n : Nat} {P : Nat → Value → Prop} {St : Nat → Shared → Prop}
/-- what stands in the set behind i items -/
def SetI (prog : Program) (w : World) (h : Heap) (S : Addr) (xs : List Str) (i : Nat) : Prop := h.SetOf (PySem.strKind prog w) S (fun k => (metS xs i).contains k) (metS xs i).length
theorem SetI.at {h h' : Heap} {S : Addr} {xs : List Str} {i : Nat} (x : SetI prog w h S xs i) (k : ∀ o, h.get? S = some o → h'.get? S = some o) : SetI prog w h' S xs i := by
  obtain ⟨ob, es, ep, tb, ho, more⟩ := x
  exact ⟨ob, es, ep, tb, k ob ho, more⟩
theorem set_turns (W : WalksS prog w A.in1 I fp wr G n P St) {S : Addr} (nS : S ∉ fp) {xs : List Str} (hlen : n + 1 < scanBound) (hP : ∀ i v, P i v → ∃ x t, xs[i]? = some x ∧ v = .str x t) :
    ∀ (m i : Nat), n - i = m → i ≤ n → ∀ s : Shared, St i s → SetI prog w s.heap S xs i →
      (∀ s', Moved (S :: wr) G s s' → SetI prog w s'.heap S xs n → R (.ok (.ret .none)) s') → codeAny (model prog w) A (.builtin "set.update.loop" ⟨[.ref S, .ref I], []⟩) R s := by
  have nSw : S ∉ wr := fun z => nS (W.sub S z)
  have up : ∀ b ∈ wr, b ∈ S :: wr := fun b z => List.mem_cons_of_mem _ z
  intro m
  induction m with
  | zero =>
    intro i hm hi s st hS fin
    obtain rfl : i = n := by omega
    refine codeAny_builtin PyProof.Rows.F.entry_set_update_loop ?_
    rw [Around.under_plainId PyProof.Rows.F.plain_set_update_loop _]
    show wpAny _ A.in1 (pyNext (Value.ref I) >>= _) _ _ s
    exact wpAny_bind (W.done s _ _ st fun s1 mv => wpAny_pure (fin s1 (mv.mono up) (hS.at fun o e => mv.heap S o nSw e)))
  | succ m ih =>
    intro i hm hi s st hS fin
    have lt : i < n := by omega
    refine codeAny_builtin PyProof.Rows.F.entry_set_update_loop ?_
    rw [Around.under_plainId PyProof.Rows.F.plain_set_update_loop _]
    show wpAny _ A.in1 (pyNext (Value.ref I) >>= _) _ _ s
    refine wpAny_bind (W.item i s _ _ lt st fun v s1 hv st1 mv => ?_)
    obtain ⟨x, t, hx, rfl⟩ := hP i v hv
    have hS1 := hS.at (h' := s1.heap) fun o e => mv.heap S o nSw e
    show wpAny _ A.in1 (holding [Value.str x t] (setAdd S (Value.str x t)) >>= _) _ _ s1
    refine wpAny_bind (wpAny_holding ?_)
    unfold setAdd
    refine wpAny_holding (wpAny_bind ((PySem.strKind prog w).pyHash (k := x) (strKind_is _ _ _ _) ?_))
    have room : (metS xs i).length + 1 < scanBound := by have := metS_le xs i; omega
    refine wpAny_setAddHashed_of (knd := PySem.strKind prog w) (s := { s1 with toks := s1.toks + 1 }) (strKind_is _ _ _ _) rfl hS1 room fun h2 sb hS2 => ?_
    have hS3 : SetI prog w h2 S xs (i + 1) := by
      refine SetOf_congr hS2 (fun k => ?_) ?_
      · rw [metS_next hx]
        by_cases hc : (metS xs i).contains x = true
        · rw [if_pos hc]
          by_cases e : k = x
          · subst e; rw [hc]; rfl
          · rw [decide_eq_false e, Bool.or_false]
        · rw [if_neg hc]
          by_cases e : k = x
          · subst e; simp
          · simp [e]
      · rw [metS_next hx]
        by_cases hc : (metS xs i).contains x = true
        · rw [if_pos hc, if_pos hc]
        · rw [if_neg hc, if_neg hc, List.length_append]; rfl
    have st2 : St (i + 1) { s1 with heap := h2, toks := s1.toks + 1 } := W.frame _ s1 _ _ st1 (Nat.le_succ _) fun b hb o e => (sb.2 b fun z : b = S => nS (z ▸ hb)).trans e
    refine wpAny_pure ⟨plainId_quiet PyProof.Rows.F.plain_set_update_loop _, ih (i + 1) (by omega) lt _ st2 hS3 fun s3 mv3 hS4 => fin s3 (Moved.trans W.gtrans ((mv.mono up).then_heap (Nat.le_succ _) fun b o hb e => ?_) mv3) hS4⟩
    exact (sb.2 b fun z : b = S => hb (z ▸ List.mem_cons_self)).trans e
end

section
variable {prog : Program} {w : World} {A : Around} {E : Value → Shared → Prop} {s : Shared}
/-- a set of n things stands at a, of whatever kind -/
def SetLen (h : Heap) (a : Addr) (n : Nat) : Prop := ∃ o es ep t, h.get? a = some o ∧ o.ExactSet ∧ o.data = .set es ep t ∧ SetTable.fits t es.size = true ∧ es.size = n
theorem SetI.len {h : Heap} {S : Addr} {xs : List Str} {i : Nat} (x : SetI prog w h S xs i) : SetLen h S (metS xs i).length := by
  obtain ⟨o, es, ep, t, ho, hex, hd, _, _, _, hf, hn⟩ := x
  exact ⟨o, es, ep, t, ho, hex, hd, hf, hn⟩
abbrev freshSet (led : Bool) : Obj := { cls := .type "set", dict := none, data := .set #[] 0 (.fresh 0 0 led) }
/-- the set's own start: it is filled from the list -/
theorem set_fill {l : Addr} {its : List Value} {xs : List Str} {led : Bool} {g : Array GenState} {d : Drawn} {tk : Nat} {os : OsState} {hp : Heap} {R : Result → Shared → Prop} (hh : A.handled = none) (hl : hp.IsList l its.toArray) (hi : StrsAre its xs)
    (hb : xs.length + 1 < scanBound)
    (fin : ∀ (h' : Heap) (tk' : Nat), SetLen h' hp.objs.size (metS xs xs.length).length → (∀ b o, b < hp.objs.size → hp.get? b = some o → h'.get? b = some o) → R (.ok (.ret .none)) ⟨h', g, d, tk', os⟩) :
    wpAny (model prog w) A.in1 (Builtin.«set.__init__» ⟨[.ref hp.objs.size, .ref l], []⟩) (fun fin s' => match fin with | .done f => R (.ok f) s' | .again c' => c'.quiet = true ∧ codeAny (model prog w) A c' R s') (fun e s' => R (.error e) s')
      ⟨hp.push (freshSet led), g, d, tk, os⟩ := by
  have gS : (hp.push (freshSet led)).get? hp.objs.size = some (freshSet led) := Heap.get?_push_size _ rfl
  obtain ⟨⟨c1, d1, a1, s1⟩, hol, hcl, nl, hdl⟩ := id hl
  simp only at hcl hdl
  subst hcl
  subst hdl
  have gL : (hp.push (freshSet led)).get? l = some { cls := .type "list", dict := d1, data := .seq its.toArray nl, slots := s1 } := Heap.get?_push_of_some _ hol
  have lL : (hp.push (freshSet led)).IsList l its.toArray := ⟨_, gL, rfl, nl, rfl⟩
  have ltL : l < hp.objs.size := Heap.lt_size hol
  have hT : Shared.TypeIs ⟨hp.push (freshSet led), g, d, tk, os⟩ (.ref hp.objs.size) "set" := ⟨_, gS, rfl⟩
  have k1 := PySem.F.sub_list_set
  have k2 := PySem.F.sub_list_frozenset
  have k3 : (Value.type "list" == Value.type "dict") = false := by decide
  unfold Builtin.«set.__init__» noKeywords Builtin.Frozenset.updateFrom
  generalize hPI : pyIter = PI
  wp_walk
  subst hPI
  refine wpAny_pyIter_list lL (wpAny_bind (wpAny_runValue ?_))
  generalize hU : hp.push (freshSet led) = U at gS gL lL hT
  have zU : U.objs.size = hp.objs.size + 1 := by rw [← hU]; exact Heap.size_push ..
  have nlI : l ≠ U.objs.size := by rw [zU]; exact Nat.ne_of_lt (Nat.lt_succ_of_lt ltL)
  have nS : hp.objs.size ∉ [U.objs.size, l] := by
    simp only [List.mem_cons, List.not_mem_nil, or_false, not_or]
    exact ⟨by rw [zU]; exact Nat.ne_of_lt (Nat.lt_succ_self _), Nat.ne_of_gt ltL⟩
  have hlen := hi.length
  have hP : ∀ (i : Nat) (v : Value), its.toArray[i]? = some v → ∃ x t, xs[i]? = some x ∧ v = .str x t := fun i v hv => by
    have hv' : its[i]? = some v := by simpa using hv
    obtain ⟨t, ht⟩ := SS.strs_at hi i v hv'
    have lt : i < xs.length := by
      have := (List.getElem?_eq_some_iff.mp hv').1
      omega
    refine ⟨_, t, List.getElem?_eq_getElem lt, ?_⟩
    rw [ht, List.getD_eq_getElem?_getD, List.getElem?_eq_getElem lt]
    rfl
  have e3 : A.in1.in1.handled = none := by simp [hh]
  have eN : its.toArray.size = xs.length := by rw [List.size_toArray]; exact hlen
  refine set_turns (xs := xs) ((Walks.list e3 _ l nlI its.toArray).toS) nS (by rw [eN]; exact hb) hP (its.toArray.size - 0) 0 rfl (Nat.zero_le _) { heap := U.push { cls := .type "list_iterator", data := .fields #[.ref l, .int 0 0] }, gens := g, drawn := d, toks := tk, os := os } ⟨⟨_, Heap.get?_push_size _ rfl, rfl, rfl⟩, lL.push _⟩ ?_ ?_
  · have gS2 : (U.push { cls := .type "list_iterator", data := .fields #[.ref l, .int 0 0] }).get? hp.objs.size = some (freshSet led) := Heap.get?_push_of_some _ gS
    exact SetOf_congr ((setObjOf_fresh (knd := PySem.strKind prog w) led).setOf gS2 (by unfold scanBound; omega)) (fun _ => rfl) rfl
  · intro s2 mv x
    obtain ⟨h2, g2, d2, t2, o2⟩ := s2
    obtain rfl : g2 = g := mv.gens
    obtain rfl : d2 = d := mv.drawn
    obtain rfl : o2 = os := mv.os
    refine wpAny_pure (wpAny_pure (fin h2 t2 (by rw [eN] at x; exact x.len) fun b o hb' e => ?_))
    refine mv.heap b o ?_ (Heap.get?_push_of_some _ (by rw [← hU]; exact Heap.get?_push_of_some _ e))
    simp only [List.mem_cons, List.not_mem_nil, or_false, not_or]
    exact ⟨Nat.ne_of_lt hb', by rw [zU]; exact Nat.ne_of_lt (Nat.lt_succ_of_lt hb')⟩
end
section
variable {prog : Program} {w : World} {A : Around} {E : Value → Shared → Prop} {s : Shared}
/-- set(a list of texts): only its size is told -/
theorem call_set_tx {l : Addr} {its : List Value} {xs : List Str} {Q : Value → Shared → Prop} (hh : A.handled = none) (hl : s.heap.IsList l its.toArray) (hi : StrsAre its xs) (hb : xs.length + 1 < scanBound)
    (h : ∀ (h' : Heap) (tk' : Nat), SetLen h' s.heap.objs.size (metS xs xs.length).length → (∀ b o, b < s.heap.objs.size → s.heap.get? b = some o → h'.get? b = some o) → Q (.ref s.heap.objs.size) { s with heap := h', toks := tk' }) :
    wpAny (model prog w) A (call (.type "set") [.ref l]) Q E s := by
  obtain ⟨mc, mt, m0⟩ := PySem.F.called_set.mro
  have m1 := PySem.F.called_set.made
  have m2 := PySem.F.called_set.sub
  have m3 := PySem.F.called_set.notType
  have m4 := PySem.F.called_set.canCreate
  have m5 := PySem.F.typeCall_set_1 (.ref l)
  refine wpAny_call (codeAny_of_tree ?_)
  show wpAny _ _ (callAny (.type "set") _) _ _ _
  refine wpAny_pure ⟨Code.quiet_builtin _ (by decide +kernel), codeAny_builtin PySem.F.entry_type_call ?_⟩
  rw [Around.under_plain (weight_type_call_type "set" [.ref l] []) rfl]
  repeat (any_goals (first | assumption | wp_step))
  obtain ⟨hp, g, d, tk, os⟩ := s
  refine codeAny_mono (code_set_new_1 (.ref l) (E := E) (Q₁ := fun o s1 => o = .ref hp.objs.size ∧ ∃ led : Bool, s1 = ⟨hp.push (freshSet led), g, d, tk, os⟩) fun led => ⟨rfl, led, rfl⟩) fun r s1 q => ?_
  cases r with
  | error er => exact q
  | ok fl =>
    cases fl with
    | ret o =>
      obtain ⟨rfl, led, rfl⟩ := q
      have gS : (hp.push (freshSet led)).get? hp.objs.size = some (freshSet led) := Heap.get?_push_size _ rfl
      have hT : Shared.TypeIs ⟨hp.push (freshSet led), g, d, tk, os⟩ (.ref hp.objs.size) "set" := ⟨_, gS, rfl⟩
      have i1 := PySem.F.called_set.init.lookup
      have i2 := PySem.F.called_set.init.bind (.ref hp.objs.size)
      repeat (any_goals (first | assumption | wp_step))
      refine codeAny_mono (codeAny_call_builtin (R := wants (fun v s2 => v = .none ∧ Q (.ref hp.objs.size) s2) E) PySem.F.called_set.init.plain PySem.F.entry_set_init (check_set_init_1 hT ?_)) fun r2 s2 q2 => ?_
      · refine set_fill (led := led) ?_ hl hi hb fun h2 t2 x k => ⟨rfl, h h2 t2 x k⟩
        simp [hh]
      · cases r2 with
        | error er => exact q2
        | ok fl2 =>
          cases fl2 with
          | ret v =>
            obtain ⟨rfl, q3⟩ := q2
            repeat (any_goals (first | assumption | wp_step))
          | _ => exact q2.elim
    | _ => exact q.elim
end

section
variable {X : Cx}
/-- len(set(xs)) -/
def tSetLen (K : PySem.W.Frag) (ta : TE) : TE := fun σ H Q => ta σ H fun x H1 => ∃ (l : Addr) (xs : List Str), x = .ref l ∧ SqL K H1 l (xs.map V.str) ∧ xs.length ≤ 1000 ∧ Q (.int ((metS xs xs.length).length : Nat)) H1
theorem pe_setLen {a : Expr} {ta : TE} {p p2 q pos : Pos} (hc : X.calm = true) (hg : Gl X "len") (hm : X.mg "len" = none) (hg2 : Gl X "set") (hm2 : X.mg "set" = none) (ha : PE X a ta)
    (na : starEach [a] X.env = (false, eval a X.env) :: starEach [] X.env := by rfl) : PE X (.Call (.Name "len" p) [.Call (.Name "set" p2) [a] [] q] [] pos) (tSetLen X.K ta) := by
  refine ⟨fun pins s σ H Q I h => Call_ (ld_blt I hg hm PySem.boot_len (PyProof.Rows.callWith_builtin1 (PyProof.Rows.args_cons (Call_ (ld_blt I hg2 hm2 boot_set ?_)) rfl) rfl rfl))⟩
  refine PyProof.Rows.callWith_type1 (PyProof.Rows.args_cons (thn (ha.run pins s σ H _ I h) fun v s1 ⟨x, H1, I1, r1, l, xs, hx, hq, hz, q1⟩ => PyProof.Rows.args_nil ?_) na) na rfl
  subst hx
  obtain rfl : v = Value.ref l := r1
  obtain ⟨its, r, pl, _⟩ := I1.list hq
  refine call_set_tx (I1.ok.hd hc) pl.isList r.strs (by unfold scanBound; omega) fun h2 t2 ⟨o, es, ep, t, ho, hex, hd, hf, hn⟩ k => PyProof.Rows.args_nil ?_
  have I2 : L2.Inv X pins σ H1 { s1 with heap := h2, toks := t2 } := I1.kept fun b o e => k b o (Heap.lt_size e) e
  have hle := metS_le xs xs.length
  exact call_len_set ho hex hd hf (by rw [hn]; omega) ⟨.int _, H1, I2.tok _, ⟨_, by rw [hn]⟩, q1⟩
end
end Bz
end PartR4
section PartD0
set_option maxRecDepth 100000
set_option maxHeartbeats 4000000
namespace Bz
open PySem PySem.Spec PyProof.Rows L2

/-! ### the text by places -/
def top (i : Nat) : Stmt := PySem.Challenge.pw_bitspans_k09_whole_spans_are_rows.main.body.getD i (.Pass ⟨0, 0, 0, 0⟩)
abbrev sInt : Stmt := top 7
abbrev sNum : Stmt := top 8
abbrev sCnt : Stmt := top 9
abbrev sDep : Stmt := top 10
abbrev sTup : Stmt := top 11
abbrev sBits : Stmt := top 12
abbrev sSpan : Stmt := top 13
abbrev sReq : Stmt := top 15
abbrev sBw : Stmt := top 17
abbrev sNi : Stmt := top 18
abbrev sOp : Stmt := top 19
abbrev sSure : Stmt := top 20
abbrev sSides : Stmt := top 21
abbrev sLow : Stmt := top 22
abbrev sLeast : Stmt := top 23
abbrev sBlk : Stmt := top 24
abbrev sHas : Stmt := top 25
abbrev cInit : Stmt := inClass (top 30) 0
abbrev cLow : Stmt := inClass (top 30) 4
abbrev cWidth : Stmt := inClass (top 30) 5
abbrev cDepth : Stmt := inClass (top 30) 6
abbrev cSure : Stmt := inClass (top 30) 7
abbrev cShare : Stmt := inClass (top 30) 8
abbrev cDoubled : Stmt := inClass (top 30) 9
abbrev cBlocks : Stmt := inClass (top 30) 11
abbrev cGet : Stmt := inClass (top 30) 13
abbrev cHas : Stmt := inClass (top 30) 14
abbrev cEq : Stmt := inClass (top 30) 15
abbrev cBool : Stmt := inClass (top 30) 22
abbrev sSrc : Stmt := top 32
abbrev sDraw : Stmt := top 33
abbrev sLBits : Stmt := top 34
abbrev sRows : Stmt := top 35
abbrev sWords : Stmt := top 36
abbrev sFew : Stmt := top 37
abbrev sLaw : Stmt := top 38

/-! ### a def that may be called by its name -/
structure Cl (P : Program) (w : World) (K : PySem.W.Frag) (mg : Str → Option Value) (base : Heap) (k : Nat) (x : Str) (ps : List Str) (sp : Sp) : Prop where
  ex : ∃ (f : Addr) (fd : FuncData), FnOk P w K mg base CX0 k f fd ps sp ∧ mg x = some (.ref f) ∧ PySem.W.keepIn K (.ref f) = true ∧ Binds K fd ps []
section
variable {X : Cx} {k : Nat} {x : Str} {ps : List Str} {sp : Sp} {e : Expr} {es : List Expr} {t : TA} {p pos : Pos}
theorem pe_cl (C : Cl X.prog X.w X.K X.mg X.base k x ps sp) (hr : Room k X.A) (hg : Gl X x) (ha : PA X (e :: es) t) (hdb : (x == ("__debug__" : Str)) = false := by decide)
    (he : starEach (e :: es) X.env = (false, eval e X.env) :: starEach es X.env := by rfl) (hpl : (backTo pos (starEach es X.env)).any (·.1) = false := by rfl) :
    PE X (.Call (.Name x p) (e :: es) [] pos) (tCall sp [] E0 t) := by
  obtain ⟨f, fd, F, hm, hk, hb⟩ := C.ex
  exact pe_call F hr hg hm hk hb .nil pass0 ha hdb he hpl
theorem Cl.imp {P : Program} {w : World} {K : PySem.W.Frag} {mg : Str → Option Value} {base : Heap} {sp' : Sp} {j : Nat} (C : Cl P w K mg base j x ps sp) (hj : j ≤ k) (h : ∀ vs H Q E, sp' vs H Q E → sp vs H Q E) : Cl P w K mg base k x ps sp' := by
  obtain ⟨f, fd, F, hm, hk, hb⟩ := C.ex
  exact ⟨f, fd, (F.imp h).mono hj, hm, hk, hb⟩
end

/-! ### numbers -/
abbrev N (n : Nat) : V := .int (n : Int)
section
variable {X : Cx}
theorem op_ltN : OpR X (compareOp .Lt) (fun x y H Q => ∃ n m : Nat, x = N n ∧ y = N m ∧ Q (.bl (decide (n < m))) H) := fun pins s σ H x y v u Q I rx ry ⟨n, m, hx, hy, q⟩ =>
  op_lt pins s σ H x y v u Q I rx ry ⟨n, m, hx, hy, by
    show Q (.bl (decide ((n : Int) < m))) H
    rw [show decide ((n : Int) < m) = decide (n < m) from by simp]
    exact q⟩
theorem op_leN : OpR X (compareOp .LtE) (fun x y H Q => ∃ n m : Nat, x = N n ∧ y = N m ∧ Q (.bl (decide (n ≤ m))) H) := fun pins s σ H x y v u Q I rx ry ⟨n, m, hx, hy, q⟩ =>
  op_le pins s σ H x y v u Q I rx ry ⟨n, m, hx, hy, by
    show Q (.bl (decide ((n : Int) ≤ m))) H
    rw [show decide ((n : Int) ≤ m) = decide (n ≤ m) from by simp]
    exact q⟩
theorem op_gtN : OpR X (compareOp .Gt) (fun x y H Q => ∃ n m : Nat, x = N n ∧ y = N m ∧ Q (.bl (decide (m < n))) H) := fun pins s σ H x y v u Q I rx ry ⟨n, m, hx, hy, q⟩ =>
  op_gt pins s σ H x y v u Q I rx ry ⟨n, m, hx, hy, by
    show Q (.bl (decide ((m : Int) < n))) H
    rw [show decide ((m : Int) < n) = decide (m < n) from by simp]
    exact q⟩
theorem op_geN : OpR X (compareOp .GtE) (fun x y H Q => ∃ n m : Nat, x = N n ∧ y = N m ∧ Q (.bl (decide (m ≤ n))) H) := fun pins s σ H x y v u Q I rx ry ⟨n, m, hx, hy, q⟩ =>
  op_ge pins s σ H x y v u Q I rx ry ⟨n, m, hx, hy, by
    show Q (.bl (decide ((m : Int) ≤ n))) H
    rw [show decide ((m : Int) ≤ n) = decide (m ≤ n) from by simp]
    exact q⟩
theorem op_eqN : OpR X (compareOp .Eq) (fun x y H Q => ∃ n m : Nat, x = N n ∧ y = N m ∧ Q (.bl (decide (n = m))) H) := fun pins s σ H x y v u Q I rx ry ⟨n, m, hx, hy, q⟩ => by
  subst hx hy
  refine op_eq pins s σ H _ _ v u Q I rx ry ⟨rfl, ?_⟩
  rw [show decide (N n = N m) = decide (n = m) from decide_eq_decide.mpr ⟨fun h => by injection h with h; omega, fun h => by rw [h]⟩]
  exact q
theorem op_neN : OpR X (compareOp .NotEq) (fun x y H Q => ∃ n m : Nat, x = N n ∧ y = N m ∧ Q (.bl (!decide (n = m))) H) := fun pins s σ H x y v u Q I rx ry ⟨n, m, hx, hy, q⟩ => by
  subst hx hy
  refine op_ne pins s σ H _ _ v u Q I rx ry ⟨rfl, ?_⟩
  rw [show decide (N n = N m) = decide (n = m) from decide_eq_decide.mpr ⟨fun h => by injection h with h; omega, fun h => by rw [h]⟩]
  exact q
theorem op_shrNN : OpR X (binaryOp .RShift) (fun x y H Q => ∃ n k : Nat, x = N n ∧ y = N k ∧ Q (N (n / 2 ^ k)) H) := fun pins s σ H x y v u Q I rx ry ⟨n, k, hx, hy, q⟩ => by
  refine op_shrN pins s σ H x y v u Q I rx ry ⟨n, k, hx, hy, ?_⟩
  have e : (n : Int) / 2 ^ k = ((n / 2 ^ k : Nat) : Int) := by rw [Int.natCast_ediv, Int.natCast_pow]; rfl
  rw [e]
  exact q
theorem op_shlNN : OpR X (binaryOp .LShift) (fun x y H Q => ∃ n k : Nat, x = N n ∧ y = N k ∧ (n < 2 ^ 64 ∧ k ≤ 1000) ∧ Q (N (n * 2 ^ k)) H) := fun pins s σ H x y v u Q I rx ry ⟨n, k, hx, hy, ⟨h1, h2⟩, q⟩ => by
  refine op_shlN pins s σ H x y v u Q I rx ry ⟨n, k, hx, hy, shl_ok (n := 64) (by rw [Int.natAbs_natCast]; exact h1) (by omega), ?_⟩
  have e : (n : Int) * 2 ^ k = ((n * 2 ^ k : Nat) : Int) := by rw [Int.natCast_mul, Int.natCast_pow]; rfl
  rw [e]
  exact q
theorem op_xorNN : OpR X (binaryOp .BitXor) (fun x y H Q => ∃ n m : Nat, x = N n ∧ y = N m ∧ Q (N (n ^^^ m)) H) := fun pins s σ H x y v u Q I rx ry ⟨n, m, hx, hy, q⟩ => by
  refine op_xor pins s σ H x y v u Q I rx ry ⟨n, m, hx, hy, ?_⟩
  show Q (.int (Builtin.bitXor (n : Int) m)) H
  rw [Bits.bitXor_pp (Int.natCast_nonneg _) (Int.natCast_nonneg _)]
  exact q
theorem op_fdivP : OpR X (binaryOp .FloorDiv) (fun x y H Q => ∃ n m : Nat, x = N n ∧ y = N m ∧ (1 ≤ m ∧ m < 1073741824) ∧ Q (N (n / m)) H) := op_fdivNN
theorem op_modNN : OpR X (binaryOp .Mod) (fun x y H Q => ∃ n m : Nat, x = N n ∧ y = N m ∧ 1 ≤ m ∧ Q (N (n % m)) H) := fun pins s σ H x y v u Q I rx ry ⟨n, m, hx, hy, h, q⟩ => by
  refine op_mod pins s σ H x y v u Q I rx ry ⟨n, m, hx, hy, by show (0 : Int) < m; omega, ?_⟩
  show Q (.int ((n : Int) % m)) H
  rw [← Int.natCast_emod]
  exact q
theorem blen_eq (n : Nat) : Builtin.Int.intBits (n : Int) = Bp.blen n := by
  unfold Builtin.Int.intBits Bp.blen
  by_cases h : n = 0
  · subst h; rfl
  · rw [if_neg h, if_neg (by simpa using h), Int.natAbs_natCast]
/-- x.bit_length() -/
def tBl (to : TE) : TE := fun σ H Q => to σ H fun x H1 => ∃ n : Nat, x = N n ∧ Q (N (Bp.blen n)) H1
theorem pe_bl' {o : Expr} {to : TE} {apos pos : Pos} (ho : PE X o to) (hbase : attributeBase o "bit_length" X.env (eval o X.env) = eval o X.env := by rfl) (hline : (apos.endLine == pos.line) = true := by rfl) :
    PE X (.Call (.Attribute o "bit_length" apos) [] [] pos) (tBl to) := by
  refine ⟨fun pins s σ H Q I h => PySem.Call_method0 hbase hline (thn (ho.run pins s σ H _ I h) fun v s1 ⟨x, H1, I1, r1, n, hx, q⟩ => ?_)⟩
  subst hx
  obtain ⟨t, rfl⟩ := r1
  have fin : EP X pins σ Q (.int (Builtin.Int.intBits (n : Int) : Nat) s1.toks) { s1 with toks := s1.toks + 1 } := ⟨N (Bp.blen n), H1, I1.tok _, ⟨_, by rw [blen_eq]⟩, q⟩
  refine ⟨"int", _, PySem.F.plainAttrs_int, PyProof.Rows.slot_int_bit_length, ?_⟩
  exact ⟨PyProof.Rows.type_int_bit_length, PySem.typeIs_int _ _ t, (fun _ e => nomatch e), Calls.callWith_builtin rfl (PySem.evalArgs_none (call_int_bit_length fin))⟩
end
end Bz
end PartD0
section PartD1
set_option maxRecDepth 100000
set_option maxHeartbeats 4000000
namespace Bz
open PySem PySem.Spec PyProof.Rows L2

/-- built-in names are still the built-in ones; the module's one number -/
structure Tx (mg : Str → Option Value) : Prop where
  isi : mg "isinstance" = none
  int : mg "int" = none
  bool : mg "bool" = none
  tuple : mg "tuple" = none
  len : mg "len" = none
  str : mg "str" = none
  all : mg "all" = none
  range : mg "range" = none
  sorted : mg "sorted" = none
  list : mg "list" = none
  min : mg "min" = none
  repr : mg "repr" = none
  set : mg "set" = none
  gd : ∃ t, mg "GREATEST_DEPTH" = some (.int 400 t)

/-! ### kinds -/
def spInt : Sp := fun vs H Q _ => ∃ i : Int, vs = [.int i] ∧ Q (.bl true) H
def spNum : Sp := fun vs H Q _ => ∃ n : Nat, vs = [N n] ∧ Q (.bl true) H
def spCnt : Sp := fun vs H Q _ => ∃ n : Nat, vs = [N n] ∧ 1 ≤ n ∧ Q (.bl true) H
def spDep : Sp := fun vs H Q _ => ∃ n : Nat, vs = [N n] ∧ n ≤ 400 ∧ Q (.bl true) H
def spTup : Sp := fun vs H Q _ => ∃ (a : Addr) (xs : List V), vs = [.ref a, N xs.length] ∧ H a = some (.tup xs) ∧ Q (.bl true) H
def spSpan : Sp := fun vs H Q _ => ∃ (a : Addr) (l w d : Nat), vs = [.ref a] ∧ H a = some (.tup [N l, N w, N d]) ∧ 1 ≤ w ∧ l + w ≤ 2 ^ d ∧ d ≤ 6 ∧ Q (.bl true) H
def spReq : Sp := fun vs H Q _ => ∃ x : Str, vs = [.bl true, .str x] ∧ Q .non H
section
variable {P : Program} {w : World} {K : PySem.W.Frag} {mg : Str → Option Value} {base : Heap} {f : Addr} {fd : FuncData}
theorem scInt : FnScope ["thing"] ["thing"] (defScope sInt) := ⟨rfl, rfl, rfl, by decide +kernel, rfl, by decide +kernel, by decide +kernel⟩
theorem ok_int (F : Fun K "is_integer" "is_integer" sInt f fd) (T : Tx mg) : FnOk P w K mg base CX0 1 f fd ["thing"] spInt := by
  refine F.ok scInt (fun vs H Q E h => ?_) (fun cdv A outer s H vs Q E hr h => ?_)
  · obtain ⟨i, rfl, _⟩ := h
    rfl
  obtain ⟨i, rfl, q⟩ := h
  refine ⟨_, pss_one (ps_ret (pe_and (pe_callB call_isi (by rfl) T.isi (by decide +kernel) (pa_cons (pv 0) (pa_cons (pe_bltn (v := .ty "int") (by rfl) T.int (by decide +kernel) rfl) pa_nil)))
    (pe_one (pe_not (pe_callB call_isi (by rfl) T.isi (by decide +kernel) (pa_cons (pv 0) (pa_cons (pe_bltn (v := .ty "bool") (by rfl) T.bool (by decide +kernel) rfl) pa_nil))))))), ?_⟩
  refine ⟨_, rfl, .int i, .ty "int", .type "int", .type "int", true, rfl, .ty "int", .base (.int i), kit_ty (by decide +kernel), true, rfl, iteT ?_⟩
  exact ⟨_, rfl, .int i, .ty "bool", .type "int", .type "bool", false, rfl, .ty "bool", .base (.int i), kit_ty (by decide +kernel), false, rfl, q⟩
theorem scNum : FnScope ["thing"] ["thing"] (defScope sNum) := ⟨rfl, rfl, rfl, by decide +kernel, rfl, by decide +kernel, by decide +kernel⟩
theorem ok_num (F : Fun K "is_number" "is_number" sNum f fd) (C : Cl P w K mg base 1 "is_integer" ["thing"] spInt) : FnOk P w K mg base CX0 2 f fd ["thing"] spNum := by
  refine F.ok scNum (fun vs H Q E h => ?_) (fun cdv A outer s H vs Q E hr h => ?_)
  · obtain ⟨i, rfl, _⟩ := h
    rfl
  obtain ⟨n, rfl, q⟩ := h
  refine ⟨_, pss_one (ps_ret (pe_and (pe_cl C hr (by rfl) (pa_cons (pv 0) pa_nil)) (pe_one (pe_cmpR op_geN (pv 0) pe_int (nomark _))))), ?_⟩
  refine ⟨_, rfl, n, rfl, true, rfl, iteT ⟨_, rfl, n, 0, rfl, rfl, ?_⟩⟩
  rw [decide_eq_true (Nat.zero_le n)]
  exact q
theorem scCnt : FnScope ["thing"] ["thing"] (defScope sCnt) := ⟨rfl, rfl, rfl, by decide +kernel, rfl, by decide +kernel, by decide +kernel⟩
theorem ok_cnt (F : Fun K "is_count" "is_count" sCnt f fd) (C : Cl P w K mg base 1 "is_integer" ["thing"] spInt) : FnOk P w K mg base CX0 2 f fd ["thing"] spCnt := by
  refine F.ok scCnt (fun vs H Q E h => ?_) (fun cdv A outer s H vs Q E hr h => ?_)
  · obtain ⟨i, rfl, _⟩ := h
    rfl
  obtain ⟨n, rfl, h1, q⟩ := h
  refine ⟨_, pss_one (ps_ret (pe_and (pe_cl C hr (by rfl) (pa_cons (pv 0) pa_nil)) (pe_one (pe_cmpR op_gtN (pv 0) pe_int (nomark _))))), ?_⟩
  refine ⟨_, rfl, n, rfl, true, rfl, iteT ⟨_, rfl, n, 0, rfl, rfl, ?_⟩⟩
  rw [decide_eq_true (show 0 < n from h1)]
  exact q
theorem scDep : FnScope ["thing"] ["thing"] (defScope sDep) := ⟨rfl, rfl, rfl, by decide +kernel, rfl, by decide +kernel, by decide +kernel⟩
theorem ok_dep (F : Fun K "is_depth" "is_depth" sDep f fd) (T : Tx mg) (C : Cl P w K mg base 2 "is_number" ["thing"] spNum) : FnOk P w K mg base CX0 3 f fd ["thing"] spDep := by
  refine F.ok scDep (fun vs H Q E h => ?_) (fun cdv A outer s H vs Q E hr h => ?_)
  · obtain ⟨i, rfl, _⟩ := h
    rfl
  obtain ⟨n, rfl, h1, q⟩ := h
  obtain ⟨tk, gd⟩ := T.gd
  refine ⟨_, pss_one (ps_ret (pe_and (pe_cl C hr (by rfl) (pa_cons (pv 0) pa_nil)) (pe_one (pe_cmpR op_leN (pv 0) (pe_glob (v := N 400) (by rfl) gd ⟨tk, rfl⟩) (nomark _))))), ?_⟩
  refine ⟨_, rfl, n, rfl, true, rfl, iteT ⟨_, rfl, n, 400, rfl, rfl, ?_⟩⟩
  rw [decide_eq_true h1]
  exact q
theorem scTup : FnScope ["thing", "many"] ["thing", "many"] (defScope sTup) := ⟨rfl, rfl, rfl, by decide +kernel, rfl, by decide +kernel, by decide +kernel⟩
theorem ok_tup (F : Fun K "is_tuple_of" "is_tuple_of" sTup f fd) (T : Tx mg) : FnOk P w K mg base CX0 1 f fd ["thing", "many"] spTup := by
  refine F.ok scTup (fun vs H Q E h => ?_) (fun cdv A outer s H vs Q E hr h => ?_)
  · obtain ⟨a, xs, rfl, _⟩ := h
    rfl
  obtain ⟨a, xs, rfl, ha, q⟩ := h
  refine ⟨_, pss_one (ps_ret (pe_and (pe_callB call_isi (by rfl) T.isi (by decide +kernel) (pa_cons (pv 0) (pa_cons (pe_bltn (v := .ty "tuple") (by rfl) T.tuple (by decide +kernel) rfl) pa_nil)))
    (pe_one (pe_cmpR op_eqN (pe_callB call_len_seq (by rfl) T.len PySem.boot_len (pa_cons (pv 0) pa_nil)) (pv 1) (nomark _))))), ?_⟩
  refine ⟨_, rfl, .ref a, .ty "tuple", .type "tuple", .type "tuple", true, rfl, .ty "tuple", .base (.tup ha), kit_ty (by decide +kernel), true, rfl, iteT ?_⟩
  refine ⟨_, rfl, a, xs, rfl, .inr (SqT.of ha), _, rfl, xs.length, xs.length, rfl, rfl, ?_⟩
  rw [decide_eq_true rfl]
  exact q
theorem scSpan : FnScope ["thing", "low", "width", "depth"] ["thing"] (defScope sSpan) := ⟨rfl, rfl, rfl, by decide +kernel, rfl, by decide +kernel, by decide +kernel⟩
theorem ok_span (F : Fun K "is_span" "is_span" sSpan f fd) (c1 : Cl P w K mg base 1 "is_tuple_of" ["thing", "many"] spTup) (c2 : Cl P w K mg base 2 "is_number" ["thing"] spNum) (c3 : Cl P w K mg base 2 "is_count" ["thing"] spCnt)
    (c4 : Cl P w K mg base 3 "is_depth" ["thing"] spDep) : FnOk P w K mg base CX0 4 f fd ["thing"] spSpan := by
  refine F.ok scSpan (fun vs H Q E h => ?_) (fun cdv A outer s H vs Q E hr h => ?_)
  · obtain ⟨a, l, wd, d, rfl, _⟩ := h
    rfl
  obtain ⟨a, l, wd, d, rfl, ha, h1, h2, h3, q⟩ := h
  refine ⟨_, pss_cons (ps_if (pt_not (pt_val (pe_cl c1 (hr.mono (by decide)) (by rfl) (pa_cons (pv 0) (pa_cons pe_int pa_nil))))) (pss_one (ps_ret pe_bl)) pss_nil)
    (pss_cons (ps_asg (pv 0) (pg_tup rfl (pgs_cons (pg_name (i := 1) scSpan.nd rfl (.inl rfl)) (pgs_cons (pg_name (i := 2) scSpan.nd rfl (.inl rfl)) (pgs_cons (pg_name (i := 3) scSpan.nd rfl (.inl rfl)) pgs_nil)))))
    (pss_one (ps_ret (pe_and (pe_cl c2 (hr.mono (by decide)) (by rfl) (pa_cons (pv 1) pa_nil)) (pe_and (pe_cl c3 (hr.mono (by decide)) (by rfl) (pa_cons (pv 2) pa_nil)) (pe_and (pe_cl c4 hr (by rfl) (pa_cons (pv 3) pa_nil))
      (pe_one (pe_cmpR op_leN (pe_op op_addN (pv 1) (pv 2)) (pe_op op_shlNN pe_int (pv 3)) (nomark _))))))))), ?_⟩
  refine ⟨_, rfl, a, _, rfl, ha, true, rfl, iteF ?_⟩
  refine ⟨_, rfl, a, _, rfl, SqT.of ha, rfl, _, _, rfl, _, _, rfl, _, _, rfl, rfl, ?_⟩
  refine ⟨_, rfl, l, rfl, true, rfl, iteT ⟨_, rfl, wd, rfl, h1, true, rfl, iteT ⟨_, rfl, d, rfl, by omega, true, rfl, iteT ?_⟩⟩⟩
  refine ⟨_, rfl, _, rfl, l, wd, rfl, rfl, _, rfl, 1, d, rfl, rfl, ⟨by decide, by omega⟩, _, _, rfl, rfl, ?_⟩
  rw [decide_eq_true (by rw [Nat.one_mul]; exact h2)]
  exact q
theorem scReq : FnScope ["is_usable", "word"] ["is_usable", "word"] (defScope sReq) := ⟨rfl, rfl, rfl, by decide +kernel, rfl, by decide +kernel, by decide +kernel⟩
theorem ok_req (F : Fun K "require_usable" "require_usable" sReq f fd) : FnOk P w K mg base CX0 1 f fd ["is_usable", "word"] spReq := by
  refine F.ok scReq (fun vs H Q E h => ?_) (fun cdv A outer s H vs Q E hr h => ?_)
  · obtain ⟨x, rfl, _⟩ := h
    rfl
  obtain ⟨x, rfl, q⟩ := h
  refine ⟨_, pss_one (ps_if (pt_not (pt_val (pv 0))) (pss_one ps_never) pss_nil), ?_⟩
  exact ⟨_, rfl, true, rfl, iteF q⟩
end
end Bz
end PartD1
section PartD2
set_option maxRecDepth 100000
set_option maxHeartbeats 4000000
namespace Bz
open PySem PySem.Spec PyProof.Rows L2

/-- d bits of n, as a text -/
abbrev B (d n : Nat) : V := .str (tx (Bp.bs d n))
theorem B_len (d n : Nat) : (tx (Bp.bs d n)).length = d := by rw [tx_len, Bp.bs_len]
theorem pad_ok {d : Nat} (h : d ≤ 6) : PadOk (d : Int) = true := by
  have : ∀ d : Nat, d < 7 → PadOk (d : Int) = true := by decide +kernel
  exact this d (by omega)
def spBw : Sp := fun vs H Q _ => ∃ n d : Nat, vs = [N n, N d] ∧ d ≤ 6 ∧ n < 2 ^ d ∧ Q (B d n) H
def spNi : Sp := fun vs H Q _ => ∃ n d : Nat, vs = [B d n] ∧ n < 2 ^ d ∧ Q (N n) H
def spOp : Sp := fun vs H Q _ => ∃ l w : Nat, vs = [N l, N w] ∧ 1 ≤ w ∧ Q (N (Bp.opn l w)) H
def spSure : Sp := fun vs H Q _ => ∃ l w d : Nat, vs = [N l, N w, N d] ∧ 1 ≤ w ∧ l + w ≤ 2 ^ d ∧ d ≤ 6 ∧ Q (B (d - Bp.opn l w) (Bp.sureN l w)) H
def spSides : Sp := fun vs H Q _ => ∃ l w d : Nat, vs = [N l, N w] ∧ 2 ≤ w ∧ l + w ≤ 2 ^ d ∧ d ≤ 6 ∧ ∀ p, H p = none → Q (.ref p) (upd H p (.tup [N (Bp.mid l w - l), N (l + w - Bp.mid l w)]))
def spLow : Sp := fun vs H Q _ => ∃ m n : Nat, vs = [N m, N n] ∧ 1 ≤ n ∧ m < 1073741824 ∧ n < 1073741824 ∧ ∀ p, H p = none → Q (.ref p) (upd H p (.tup [N (m / Nat.gcd m n), N (n / Nat.gcd m n)]))
section
variable {P : Program} {w : World} {K : PySem.W.Frag} {mg : Str → Option Value} {base : Heap} {f : Addr} {fd : FuncData}
theorem scBw : FnScope ["number", "depth"] ["number", "depth"] (defScope sBw) := ⟨rfl, rfl, rfl, by decide +kernel, rfl, by decide +kernel, by decide +kernel⟩
theorem ok_bw (F : Fun K "bits_written" "bits_written" sBw f fd) : FnOk P w K mg base CX0 1 f fd ["number", "depth"] spBw := by
  refine F.ok scBw (fun vs H Q E h => ?_) (fun cdv A outer s H vs Q E hr h => ?_)
  · obtain ⟨n, d, rfl, _⟩ := h
    rfl
  obtain ⟨n, d, rfl, h1, h2, q⟩ := h
  refine ⟨_, pss_one (ps_ret (pe_ifExp (pt_cmpR op_gtN (pv 1) pe_int (nomark _)) (pe_bm PySem.F.plainAttrs_str PySem.F.slot_str_zfill PySem.F.type_str_zfill mt_zfill (pe_joined1 (pe_fmtB (pv 0))) (pa_cons (pv 1) pa_nil)) pe_str)), ?_⟩
  refine ⟨_, rfl, d, 0, rfl, rfl, _, rfl, ite2 (fun c => ?_) (fun c => ?_)⟩
  · have c' : 0 < d := of_decide_eq_true c
    have hn : n < 64 := Nat.lt_of_lt_of_le h2 (Nat.pow_le_pow_right (by decide) h1)
    refine ⟨_, rfl, n, rfl, hn, rfl, _, rfl, _, _, rfl, rfl, pad_ok h1, ?_⟩
    rw [zfill_bin h1 c' h2]
    exact q
  · have c' : d = 0 := by
      have := of_decide_eq_false (Bool.eq_false_iff.mpr c)
      omega
    subst c'
    exact q
theorem bs_get : ∀ (d n i : Nat), i < d → (Bp.bs d n)[i]? = some (48 + n / 2 ^ (d - 1 - i) % 2)
  | d + 1, n, 0, _ => by rw [Bp.bs]; simp
  | d + 1, n, i + 1, h => by
    rw [Bp.bs, List.getElem?_cons_succ, bs_get d n i (by omega), show d + 1 - 1 - (i + 1) = d - 1 - i by omega]
theorem sg0 : decide ((V.str ⟨#[48]⟩ : V) = V.str (Str.ofString "1")) = false := by decide +kernel
theorem sg1 : decide ((V.str ⟨#[49]⟩ : V) = V.str (Str.ofString "1")) = true := by decide +kernel
theorem scNi : FnScope ["bits", "found", "sign"] ["bits"] (defScope sNi) := ⟨rfl, rfl, rfl, by decide +kernel, rfl, by decide +kernel, by decide +kernel⟩
theorem ok_ni (F : Fun K "number_in" "number_in" sNi f fd) : FnOk P w K mg base CX0 1 f fd ["bits"] spNi := by
  refine F.ok scNi (fun vs H Q E h => ?_) (fun cdv A outer s H vs Q E hr h => ?_)
  · obtain ⟨n, d, rfl, _⟩ := h
    rfl
  obtain ⟨n, d, rfl, h1, q⟩ := h
  refine ⟨_, pss_cons (ps_set (i := 1) scNi.nd rfl (.inl rfl) pe_int) (pss_cons (ps_for PassesOwn.never rfl (pi_str (pv 0)) (pg_name (i := 2) scNi.nd rfl (.inl rfl))
    (pss_one (ps_set (i := 1) scNi.nd rfl (.inl rfl) (pe_op op_addN (pe_op op_mulN pe_int (pv 1)) (pe_ifExp (pt_cmpR op_eq (pv 2) pe_str (nomark _)) pe_int pe_int))))) (pss_one (ps_ret (pv 1)))), ?_⟩
  have hz : (tx (Bp.bs d n)).cps.size = d := B_len d n
  refine ⟨_, rfl, _, rfl, for_it (walk_str (z := tx (Bp.bs d n))) (fun i σ H2 => ∃ v, σ = [some (B d n), some (N (n / 2 ^ (d - i))), v] ∧ H2 = H) ⟨none, ?_, rfl⟩ (fun _ _ _ _ _ => trivial) ?_ ?_⟩
  · rw [Nat.sub_zero, Nat.div_eq_of_lt h1]
    rfl
  · rintro i x σ H2 H3 hi ⟨v, rfl, rfl⟩ ⟨rfl, c, hc, rfl⟩
    rw [hz] at hi
    have hc2 : (Bp.bs d n)[i]? = some c := by
      rw [← Array.getElem?_toList] at hc
      exact hc
    rw [bs_get d n i hi] at hc2
    have ec : c = 48 + n / 2 ^ (d - 1 - i) % 2 := (Option.some.inj hc2).symm
    have em : n / 2 ^ (d - (i + 1)) = 2 * (n / 2 ^ (d - i)) + n / 2 ^ (d - 1 - i) % 2 := by
      rw [show d - i = (d - 1 - i) + 1 by omega, show d - (i + 1) = d - 1 - i by omega, Nat.pow_succ, ← Nat.div_div_eq_div_mul]
      omega
    refine ⟨_, rfl, 2, _, rfl, rfl, by decide, _, rfl, rfl, _, rfl, ?_⟩
    rcases Nat.mod_two_eq_zero_or_one (n / 2 ^ (d - 1 - i)) with e0 | e0
    · rw [e0] at ec em
      subst ec
      refine Eq.mpr (if_neg (by rw [sg0]; exact Bool.false_ne_true)) ?_
      exact ⟨_, 0, rfl, rfl, some (.str ⟨#[48]⟩), by rw [em]; rfl, rfl⟩
    · rw [e0] at ec em
      subst ec
      refine Eq.mpr (if_pos sg1) ?_
      exact ⟨_, 1, rfl, rfl, some (.str ⟨#[49]⟩), by rw [em]; rfl, rfl⟩
  · rintro σ H2 ⟨v, rfl, rfl⟩
    rw [hz, Nat.sub_self, Nat.pow_zero, Nat.div_one]
    exact ⟨_, rfl, q⟩
theorem scOp : FnScope ["low", "width"] ["low", "width"] (defScope sOp) := ⟨rfl, rfl, rfl, by decide +kernel, rfl, by decide +kernel, by decide +kernel⟩
theorem ok_op (F : Fun K "open_places" "open_places" sOp f fd) : FnOk P w K mg base CX0 1 f fd ["low", "width"] spOp := by
  refine F.ok scOp (fun vs H Q E h => ?_) (fun cdv A outer s H vs Q E hr h => ?_)
  · obtain ⟨n, d, rfl, _⟩ := h
    rfl
  obtain ⟨l, wd, rfl, h1, q⟩ := h
  refine ⟨_, pss_one (ps_ret (pe_bl' (pe_op op_xorNN (pv 0) (pe_op op_subN (pe_op op_addN (pv 0) (pv 1)) pe_int)))), ?_⟩
  refine ⟨_, rfl, _, rfl, _, rfl, _, _, rfl, rfl, _, 1, rfl, rfl, by omega, _, _, rfl, rfl, _, rfl, ?_⟩
  exact q
theorem scSure : FnScope ["low", "width", "depth", "places"] ["low", "width", "depth"] (defScope sSure) := ⟨rfl, rfl, rfl, by decide +kernel, rfl, by decide +kernel, by decide +kernel⟩
theorem ok_sure (F : Fun K "sure_bits" "sure_bits" sSure f fd) (c1 : Cl P w K mg base 1 "open_places" ["low", "width"] spOp) (c2 : Cl P w K mg base 1 "bits_written" ["number", "depth"] spBw) : FnOk P w K mg base CX0 2 f fd ["low", "width", "depth"] spSure := by
  refine F.ok scSure (fun vs H Q E h => ?_) (fun cdv A outer s H vs Q E hr h => ?_)
  · obtain ⟨l, wd, d, rfl, _⟩ := h
    rfl
  obtain ⟨l, wd, d, rfl, h1, h2, h3, q⟩ := h
  obtain ⟨o1, o2, _⟩ := Bp.opn_ok h3 h1 h2
  refine ⟨_, pss_cons (ps_set (i := 3) scSure.nd rfl (.inl rfl) (pe_cl c1 hr (by rfl) (pa_cons (pv 0) (pa_cons (pv 1) pa_nil))))
    (pss_one (ps_ret (pe_cl c2 hr (by rfl) (pa_cons (pe_op op_shrNN (pv 0) (pv 3)) (pa_cons (pe_op op_subN (pv 2) (pv 3)) pa_nil))))), ?_⟩
  refine ⟨_, rfl, _, rfl, l, wd, rfl, h1, ?_⟩
  refine ⟨_, rfl, _, rfl, _, _, rfl, rfl, _, rfl, _, rfl, _, _, rfl, rfl, o1, _, _, rfl, by omega, o2, ?_⟩
  exact q
theorem scSides : FnScope ["low", "width", "places", "middle"] ["low", "width"] (defScope sSides) := ⟨rfl, rfl, rfl, by decide +kernel, rfl, by decide +kernel, by decide +kernel⟩
theorem ok_sides (F : Fun K "sides_of" "sides_of" sSides f fd) (c1 : Cl P w K mg base 1 "open_places" ["low", "width"] spOp) : FnOk P w K mg base CX0 2 f fd ["low", "width"] spSides := by
  refine F.ok scSides (fun vs H Q E h => ?_) (fun cdv A outer s H vs Q E hr h => ?_)
  · obtain ⟨l, wd, d, rfl, _⟩ := h
    rfl
  obtain ⟨l, wd, d, rfl, h1, h2, h3, q⟩ := h
  obtain ⟨o1, _, o3⟩ := Bp.opn_ok h3 (show 1 ≤ wd by omega) h2
  obtain ⟨o4, o5, o6⟩ := o3 h1
  have b : l + wd ≤ 64 := Nat.le_trans h2 (Nat.pow_le_pow_right (by decide) h3)
  refine ⟨_, pss_cons (ps_set (i := 2) scSides.nd rfl (.inl rfl) (pe_op op_subN (pe_cl c1 hr (by rfl) (pa_cons (pv 0) (pa_cons (pv 1) pa_nil))) pe_int))
    (pss_cons (ps_set (i := 3) scSides.nd rfl (.inl rfl) (pe_op op_shlNN (pe_op op_shrNN (pe_op op_subN (pe_op op_addN (pv 0) (pv 1)) pe_int) (pv 2)) (pv 2)))
    (pss_one (ps_ret (pe_tup (pa_cons (pe_op op_subN (pv 3) (pv 0)) (pa_cons (pe_op op_subN (pe_op op_addN (pv 0) (pv 1)) (pv 3)) pa_nil)))))), ?_⟩
  refine ⟨_, rfl, _, rfl, l, wd, rfl, by omega, _, 1, rfl, rfl, o4, ?_⟩
  refine ⟨_, rfl, _, rfl, _, _, rfl, rfl, _, 1, rfl, rfl, by omega, _, rfl, _, _, rfl, rfl, _, rfl, _, _, rfl, rfl, ⟨?_, by omega⟩, ?_⟩
  · exact Nat.lt_of_le_of_lt (Nat.div_le_self _ _) (by omega)
  refine ⟨_, rfl, _, rfl, _, _, rfl, rfl, Nat.le_of_lt o5, _, rfl, _, rfl, _, _, rfl, rfl, _, rfl, _, _, rfl, rfl, Nat.le_of_lt o6, (by show 2 ≤ sizeLine; decide), fun p hp => ?_⟩
  exact q p hp
theorem scLow : FnScope ["m", "n", "greater", "lesser"] ["m", "n"] (defScope sLow) := ⟨rfl, rfl, rfl, by decide +kernel, rfl, by decide +kernel, by decide +kernel⟩
theorem ok_low (F : Fun K "lowest_terms" "lowest_terms" sLow f fd) : FnOk P w K mg base CX0 1 f fd ["m", "n"] spLow := by
  refine F.ok scLow (fun vs H Q E h => ?_) (fun cdv A outer s H vs Q E hr h => ?_)
  · obtain ⟨m, n, rfl, _⟩ := h
    rfl
  obtain ⟨m, n, rfl, h1, h2, h3, q⟩ := h
  refine ⟨_, pss_cons (ps_par (i := 2) (j := 3) (by rfl) scLow.nd rfl rfl (by decide) rfl rfl (pa_cons (pv 0) (pa_cons (pv 1) pa_nil)) (by rfl))
    (pss_cons (ps_while PassesOwn.never (pt_cmpR op_gtN (pv 3) pe_int (nomark _)) (pss_one (ps_par (i := 2) (j := 3) (by rfl) scLow.nd rfl rfl (by decide) rfl rfl (pa_cons (pv 3) (pa_cons (pe_op op_modNN (pv 2) (pv 3)) pa_nil)) (by rfl))))
    (pss_one (ps_ret (pe_tup (pa_cons (pe_op op_fdivP (pv 0) (pv 2)) (pa_cons (pe_op op_fdivP (pv 1) (pv 2)) pa_nil)))))), ?_⟩
  refine ⟨_, rfl, _, rfl, _, _, rfl, ?_⟩
  refine ⟨fun k σ H2 => ∃ a b : Nat, k = b ∧ σ = [some (N m), some (N n), some (N a), some (N b)] ∧ Nat.gcd a b = Nat.gcd m n ∧ H2 = H, ⟨n, m, n, rfl, rfl, rfl, rfl⟩, ?_⟩
  rintro b σ H2 ⟨a, _, rfl, rfl, hg, rfl⟩
  refine ⟨_, rfl, b, 0, rfl, rfl, _, rfl, ite2 (fun c => ?_) (fun c => ?_)⟩
  · have c' : 0 < b := of_decide_eq_true c
    refine ⟨fun σ' H' => ∃ a' b', b' < b ∧ σ' = [some (N m), some (N n), some (N a'), some (N b')] ∧ Nat.gcd a' b' = Nat.gcd m n ∧ H' = H2, fun σ' H' ⟨a', b', hb, hs, hg', hH⟩ => ⟨b', hb, a', b', rfl, hs, hg', hH⟩, ?_⟩
    refine ⟨_, rfl, _, rfl, _, rfl, a, b, rfl, rfl, by omega, _, _, rfl, ?_⟩
    refine ⟨b, a % b, Nat.mod_lt _ c', rfl, ?_, rfl⟩
    rw [Nat.gcd_comm b, ← Nat.gcd_rec, Nat.gcd_comm]
    exact hg
  · have c' : b = 0 := by
      have := of_decide_eq_false (Bool.eq_false_iff.mpr c)
      omega
    subst c'
    rw [Nat.gcd_zero_right] at hg
    subst hg
    have g1 : 1 ≤ Nat.gcd m n := Nat.gcd_pos_of_pos_right m h1
    have g2 : Nat.gcd m n ≤ n := Nat.gcd_le_right m h1
    refine ⟨_, rfl, _, rfl, _, _, rfl, rfl, ⟨g1, by omega⟩, _, rfl, _, rfl, _, _, rfl, rfl, ⟨g1, by omega⟩, (by show 2 ≤ sizeLine; decide), fun p hp => ?_⟩
    exact q p hp
end
end Bz
end PartD2
section PartD3
set_option maxRecDepth 100000
set_option maxHeartbeats 4000000
namespace Bz
open PySem PySem.Spec PyProof.Rows L2

theorem cut_pre {n L k : Nat} (h : L ≤ n) : cutS (tx (Bp.bs n k)) none (some (L : Int)) = tx (Bp.bs L (k / 2 ^ (n - L))) := by
  unfold cutS
  rw [HT.sIx_none, HT.sIx_nat, B_len, Nat.min_eq_left h, List.drop_zero, Nat.sub_zero, tx_list]
  show tx _ = _
  have e := Bp.bs_take L (n - L) k
  rw [Nat.add_sub_cancel' h] at e
  rw [e]
/-- a new object leaves what stood -/
theorem same_new {H : Hp} {p : Addr} (h : H p = none) (o : HO) : Same H (upd H p o) := fun b u q => by rw [upd_ne (ne_of_none q h)]; exact q
/-- a change at what was not there before -/
theorem same_upd {H0 H : Hp} {p : Addr} (s : Same H0 H) (h : H0 p = none) (o : HO) : Same H0 (upd H p o) := fun b u q => by
  rw [upd_ne (ne_of_none q h)]
  exact s b u q
abbrev T3 (t : Nat × Nat × Nat) : HO := .tup [N t.1, N t.2.1, N t.2.2]
abbrev Bt (b : Nat × Nat) : V := B b.1 b.2
def spLeast : Sp := fun vs H Q _ => ∃ l w d : Nat, vs = [N l, N w, N d] ∧ ∀ H' p, Same H H' → H p = none → H' p = some (T3 (Bp.least l w d)) → Q (.ref p) H'
def spBlk : Sp := fun vs H Q _ => ∃ l w d : Nat, vs = [N l, N w, N d] ∧ l + w ≤ 2 ^ d ∧ d ≤ 6 ∧ ∀ H' p, Same H H' → H p = none → H' p = some (.tup ((Bp.blks l w d).map Bt)) → Q (.ref p) H'
def spHas : Sp := fun vs H Q _ => ∃ l w d L j : Nat, vs = [N l, N w, N d, B L j] ∧ j < 2 ^ L ∧ L ≤ 6 ∧ d ≤ 6 ∧ Q (.bl (Bp.hasM l w d L j)) H
section
variable {P : Program} {w : World} {K : PySem.W.Frag} {mg : Str → Option Value} {base : Heap} {f : Addr} {fd : FuncData}
theorem scLeast : FnScope ["low", "width", "depth", "found"] ["low", "width", "depth"] (defScope sLeast) := ⟨rfl, rfl, rfl, by decide +kernel, rfl, by decide +kernel, by decide +kernel⟩
theorem ok_least (F : Fun K "least_span" "least_span" sLeast f fd) : FnOk P w K mg base CX0 1 f fd ["low", "width", "depth"] spLeast := by
  refine F.ok scLeast (fun vs H Q E h => ?_) (fun cdv A outer s H vs Q E hr h => ?_)
  · obtain ⟨l, wd, d, rfl, _⟩ := h
    rfl
  obtain ⟨l, wd, d, rfl, q⟩ := h
  refine ⟨_, pss_cons (ps_set (i := 3) scLeast.nd rfl (.inl rfl) (pe_tup (pa_cons (pv 0) (pa_cons (pv 1) (pa_cons (pv 2) pa_nil)))))
    (pss_cons (ps_while PassesOwn.never (PW.pt (pw_and (pt_cmpR op_gtN (pe_ix ix_tup (pv 3) pe_int (fun _ _ => rfl)) pe_int (nomark _)) (pw_and (pt_cmpR op_eqN (pe_op op_odd (pe_ix ix_tup (pv 3) pe_int (fun _ _ => rfl)) pe_int) pe_int (nomark _))
        (pw_and1 (pt_cmpR op_eqN (pe_op op_odd (pe_ix ix_tup (pv 3) pe_int (fun _ _ => rfl)) pe_int) pe_int (nomark _))))))
      (pss_one (ps_set (i := 3) scLeast.nd rfl (.inl rfl) (pe_tup (pa_cons (pe_op op_halfN (pe_ix ix_tup (pv 3) pe_int (fun _ _ => rfl)) pe_int) (pa_cons (pe_op op_halfN (pe_ix ix_tup (pv 3) pe_int (fun _ _ => rfl)) pe_int)
        (pa_cons (pe_op op_subN (pe_ix ix_tup (pv 3) pe_int (fun _ _ => rfl)) pe_int) pa_nil)))))))
    (pss_one (ps_ret (pv 3)))), ?_⟩
  refine ⟨_, rfl, _, rfl, _, rfl, (by show 3 ≤ sizeLine; decide), fun p0 hp0 => ?_⟩
  refine ⟨fun k σ H2 => ∃ a b c p, k = c ∧ σ = [some (N l), some (N wd), some (N d), some (.ref p)] ∧ Same H H2 ∧ H p = none ∧ H2 p = some (.tup [N a, N b, N c]) ∧ Bp.least a b c = Bp.least l wd d,
    ⟨d, l, wd, d, p0, rfl, rfl, same_new hp0 _, hp0, upd_same, rfl⟩, ?_⟩
  rintro c σ H2 ⟨a, b, _, p, rfl, rfl, sm, hp, ht, he⟩
  have i0 : atI [N a, N b, N c] (0 : Int) = some (N a) := atI_nat (j := 0) rfl
  have i1 : atI [N a, N b, N c] (1 : Int) = some (N b) := atI_nat (j := 1) rfl
  have i2 : atI [N a, N b, N c] (2 : Int) = some (N c) := atI_nat (j := 2) rfl
  have fin : Bp.least a b c = (a, b, c) → Q (.ref p) H2 := fun e => q H2 p sm hp (by rw [ht, ← he, e])
  refine ⟨_, rfl, p, _, _, _, rfl, rfl, SqT.of ht, i2, c, 0, rfl, rfl, _, rfl, ite2 (fun c1 => ?_) (fun c1 => ?_)⟩
  · have h1 : 0 < c := of_decide_eq_true c1
    refine ⟨_, rfl, p, _, _, _, rfl, rfl, SqT.of ht, i0, a, rfl, rfl, a % 2, 0, rfl, rfl, _, rfl, ite2 (fun c2 => ?_) (fun c2 => ?_)⟩
    · have h2 : a % 2 = 0 := of_decide_eq_true c2
      refine ⟨_, rfl, p, _, _, _, rfl, rfl, SqT.of ht, i1, b, rfl, rfl, b % 2, 0, rfl, rfl, _, rfl, ite2 (fun c3 => ?_) (fun c3 => ?_)⟩
      · have h3 : b % 2 = 0 := of_decide_eq_true c3
        refine ⟨fun σ' H' => ∃ p', σ' = [some (N l), some (N wd), some (N d), some (.ref p')] ∧ Same H H' ∧ H p' = none ∧ H' p' = some (.tup [N (a / 2), N (b / 2), N (c - 1)]),
          fun σ' H' ⟨p', e1, e2, e3, e4⟩ => ⟨c - 1, by omega, a / 2, b / 2, c - 1, p', rfl, e1, e2, e3, e4, ?_⟩, ?_⟩
        · rw [← he]
          obtain ⟨c', rfl⟩ : ∃ c', c = c' + 1 := ⟨c - 1, by omega⟩
          rw [Nat.add_sub_cancel, Bp.least, if_pos ⟨h2, h3⟩]
        · refine ⟨_, rfl, p, _, _, _, rfl, rfl, SqT.of ht, i0, a, rfl, rfl, _, rfl, p, _, _, _, rfl, rfl, SqT.of ht, i1, b, rfl, rfl, _, rfl, p, _, _, _, rfl, rfl, SqT.of ht, i2, c, 1, rfl, rfl, h1, (by show 3 ≤ sizeLine; decide), fun p' hp' => ?_⟩
          exact ⟨p', rfl, sm.trans (same_new hp' _), sm.free hp', upd_same⟩
      · refine ⟨_, rfl, fin ?_⟩
        obtain ⟨c', rfl⟩ : ∃ c', c = c' + 1 := ⟨c - 1, by omega⟩
        have h3 : ¬ b % 2 = 0 := of_decide_eq_false (Bool.eq_false_iff.mpr c3)
        rw [Bp.least, if_neg (fun z => h3 z.2)]
    · have h2 : ¬ a % 2 = 0 := of_decide_eq_false (Bool.eq_false_iff.mpr c2)
      refine iteF ⟨_, rfl, fin ?_⟩
      obtain ⟨c', rfl⟩ : ∃ c', c = c' + 1 := ⟨c - 1, by omega⟩
      rw [Bp.least, if_neg (fun z => h2 z.1)]
  · have h1 : ¬ 0 < c := of_decide_eq_false (Bool.eq_false_iff.mpr c1)
    obtain rfl : c = 0 := by omega
    exact iteF ⟨_, rfl, fin rfl⟩
theorem line100 {n : Nat} (h : n ≤ 100) : n < sizeLine := small1000 (by omega)
theorem scBlk : FnScope ["low", "width", "depth", "found", "place", "end", "places", "aligned"] ["low", "width", "depth"] (defScope sBlk) := ⟨rfl, rfl, rfl, by decide +kernel, rfl, by decide +kernel, by decide +kernel⟩
theorem ok_blk (F : Fun K "blocks_of" "blocks_of" sBlk f fd) (T : Tx mg) (c2 : Cl P w K mg base 1 "bits_written" ["number", "depth"] spBw) : FnOk P w K mg base CX0 2 f fd ["low", "width", "depth"] spBlk := by
  refine F.ok scBlk (fun vs H Q E h => ?_) (fun cdv A outer s H vs Q E hr h => ?_)
  · obtain ⟨l, wd, d, rfl, _⟩ := h
    rfl
  obtain ⟨l, wd, d, rfl, h1, h2, q⟩ := h
  have b64 : l + wd ≤ 64 := Nat.le_trans h1 (Nat.pow_le_pow_right (by decide) h2)
  refine ⟨_, pss_cons (ps_set (i := 3) scBlk.nd rfl (.inl rfl) (pe_lst pa_nil))
    (pss_cons (ps_par (i := 4) (j := 5) (by rfl) scBlk.nd rfl rfl (by decide) rfl rfl (pa_cons (pv 0) (pa_cons (pe_op op_addN (pv 0) (pv 1)) pa_nil)) (by rfl))
    (pss_cons (ps_while PassesOwn.never (pt_cmpR op_ltN (pv 4) (pv 5) (nomark _))
      (pss_cons (ps_set (i := 6) scBlk.nd rfl (.inl rfl) (pe_op op_subN (pe_bl' (pe_op op_subN (pv 5) (pv 4))) pe_int))
      (pss_cons (ps_set (i := 7) scBlk.nd rfl (.inl rfl) (pe_ifExp (pt_cmpR op_eqN (pv 4) pe_int (nomark _)) (pv 2) (pe_op op_subN (pe_bl' (pe_op op_xorNN (pv 4) (pe_op op_subN (pv 4) pe_int))) pe_int)))
      (pss_cons (ps_if (pt_cmpR op_ltN (pv 7) (pv 6) (nomark _)) (pss_one (ps_set (i := 6) scBlk.nd rfl (.inl rfl) (pv 7))) pss_nil)
      (pss_cons (ps_expr (pe_bm PySem.F.plainAttrs_list PySem.F.slot_list_append PySem.F.type_list_append mt_append (pv 3) (pa_cons (pe_cl c2 hr (by rfl) (pa_cons (pe_op op_shrNN (pv 4) (pv 6)) (pa_cons (pe_op op_subN (pv 2) (pv 6)) pa_nil))) pa_nil)))
      (pss_one (ps_set (i := 4) scBlk.nd rfl (.inl rfl) (pe_op op_addN (pv 4) (pe_op op_shlNN pe_int (pv 6))))))))))
    (pss_one (ps_ret (pe_callTy call_tuple_of (by rfl) T.tuple (by decide +kernel) (pa_cons (pv 3) pa_nil)))))), ?_⟩
  refine ⟨Nat.zero_le _, fun a ha => ⟨_, rfl, _, rfl, _, rfl, l, wd, rfl, rfl, _, _, rfl, ?_⟩⟩
  refine ⟨fun k σ H2 => ∃ p acc v6 v7, k = l + wd - p ∧ p ≤ l + wd ∧ σ = [some (N l), some (N wd), some (N d), some (.ref a), some (N p), some (N (l + wd)), v6, v7] ∧ Same H H2 ∧ H2 a = some (.lst (acc.map Bt)) ∧
    acc ++ Bp.blk d (l + wd) (l + wd - p) p = Bp.blks l wd d ∧ acc.length + l ≤ p, ⟨_, l, [], none, none, rfl, by omega, rfl, same_new ha _, upd_same, ?_, by simp⟩, ?_⟩
  · rw [List.nil_append, Nat.add_sub_cancel_left]
    rfl
  rintro _ σ H2 ⟨p, acc, v6, v7, rfl, hp, rfl, sm, hL, he, hn⟩
  refine ⟨_, rfl, _, rfl, p, l + wd, rfl, rfl, _, rfl, ite2 (fun c => ?_) (fun c => ?_)⟩
  · have c' : p < l + wd := of_decide_eq_true c
    obtain ⟨k1, k2, k3⟩ := Bp.blk_ok h2 c' h1
    have hlen : (acc.map Bt).length < sizeLine := by rw [List.length_map]; exact line100 (by omega)
    refine ⟨fun σ' H' => ∃ v6 v7, σ' = [some (N l), some (N wd), some (N d), some (.ref a), some (N (p + 2 ^ Bp.plc d p (l + wd))), some (N (l + wd)), v6, v7] ∧ Same H H' ∧
      H' a = some (.lst ((acc ++ [(d - Bp.plc d p (l + wd), p / 2 ^ Bp.plc d p (l + wd))]).map Bt)), fun σ' H' ⟨v6, v7, e1, e2, e3⟩ => ?_, ?_⟩
    · have z : 0 < 2 ^ Bp.plc d p (l + wd) := Nat.two_pow_pos _
      refine ⟨l + wd - (p + 2 ^ Bp.plc d p (l + wd)), by omega, _, _, v6, v7, rfl, k3, e1, e2, e3, ?_, by rw [List.length_append, List.length_singleton]; omega⟩
      rw [List.append_assoc, List.singleton_append, ← Bp.blk_step c']
      exact he
    · have g1 := (Bp.pos_ok (p := l + wd - p) (by omega) (by omega)).1
      generalize hpl : Bp.blen (l + wd - p) - 1 = pl
      have ed : Bp.plc d p (l + wd) = if (if p = 0 then d else Bp.blen (p ^^^ (p - 1)) - 1) < pl then (if p = 0 then d else Bp.blen (p ^^^ (p - 1)) - 1) else pl := by rw [← hpl]; rfl
      refine ⟨_, rfl, _, rfl, _, _, rfl, rfl, hp, _, rfl, _, 1, rfl, rfl, g1, ?_⟩
      rw [hpl]
      refine ⟨_, rfl, p, 0, rfl, rfl, _, rfl, ite2 (fun c2 => ?_) (fun c2 => ?_)⟩
      · have c2' : p = 0 := of_decide_eq_true c2
        rw [if_pos c2'] at ed
        obtain ⟨al, hal⟩ : ∃ al, al = d := ⟨d, rfl⟩
        refine ⟨N al, by rw [hal]; rfl, _, rfl, _, rfl, al, pl, rfl, rfl, _, rfl, ite2 (fun c3 => ?_) (fun c3 => ?_)⟩
        · have c3' : al < pl := of_decide_eq_true c3
          refine ⟨_, rfl, ?_⟩
          obtain rfl : al = Bp.plc d p (l + wd) := by rw [ed, if_pos (by omega), hal]
          refine ⟨_, rfl, .inl ⟨rfl, _, SqL.of hL⟩, _, rfl, _, rfl, p, _, rfl, rfl, _, rfl, _, rfl, d, _, rfl, rfl, k1, _, _, rfl, by omega, k2, a, _, _, rfl, rfl, hL, hlen, ?_⟩
          refine ⟨_, rfl, _, rfl, 1, _, rfl, rfl, ⟨by decide, by omega⟩, p, _, rfl, rfl, ?_⟩
          exact ⟨_, _, by rw [Nat.one_mul]; rfl, same_upd sm ha _, by rw [upd_same, List.map_append]; rfl⟩
        · have c3' : ¬ al < pl := of_decide_eq_false (Bool.eq_false_iff.mpr c3)
          obtain rfl : pl = Bp.plc d p (l + wd) := by rw [ed, if_neg (by omega)]
          refine ⟨_, rfl, .inl ⟨rfl, _, SqL.of hL⟩, _, rfl, _, rfl, p, _, rfl, rfl, _, rfl, _, rfl, d, _, rfl, rfl, k1, _, _, rfl, by omega, k2, a, _, _, rfl, rfl, hL, hlen, ?_⟩
          refine ⟨_, rfl, _, rfl, 1, _, rfl, rfl, ⟨by decide, by omega⟩, p, _, rfl, rfl, ?_⟩
          exact ⟨_, _, by rw [Nat.one_mul]; rfl, same_upd sm ha _, by rw [upd_same, List.map_append]; rfl⟩
      · have c2' : ¬ p = 0 := of_decide_eq_false (Bool.eq_false_iff.mpr c2)
        have g2 := (Bp.pos_ok (p := p) (by omega) (by omega)).2
        rw [if_neg c2'] at ed
        generalize hal : Bp.blen (p ^^^ (p - 1)) - 1 = al at ed
        refine ⟨_, rfl, _, rfl, _, 1, rfl, rfl, by omega, _, _, rfl, rfl, _, rfl, _, 1, rfl, rfl, g2, ?_⟩
        rw [hal]
        refine ⟨_, rfl, _, rfl, al, pl, rfl, rfl, _, rfl, ite2 (fun c3 => ?_) (fun c3 => ?_)⟩
        · have c3' : al < pl := of_decide_eq_true c3
          refine ⟨_, rfl, ?_⟩
          obtain rfl : al = Bp.plc d p (l + wd) := by rw [ed, if_pos c3']
          refine ⟨_, rfl, .inl ⟨rfl, _, SqL.of hL⟩, _, rfl, _, rfl, p, _, rfl, rfl, _, rfl, _, rfl, d, _, rfl, rfl, k1, _, _, rfl, by omega, k2, a, _, _, rfl, rfl, hL, hlen, ?_⟩
          refine ⟨_, rfl, _, rfl, 1, _, rfl, rfl, ⟨by decide, by omega⟩, p, _, rfl, rfl, ?_⟩
          exact ⟨_, _, by rw [Nat.one_mul]; rfl, same_upd sm ha _, by rw [upd_same, List.map_append]; rfl⟩
        · have c3' : ¬ al < pl := of_decide_eq_false (Bool.eq_false_iff.mpr c3)
          obtain rfl : pl = Bp.plc d p (l + wd) := by rw [ed, if_neg c3']
          refine ⟨_, rfl, .inl ⟨rfl, _, SqL.of hL⟩, _, rfl, _, rfl, p, _, rfl, rfl, _, rfl, _, rfl, d, _, rfl, rfl, k1, _, _, rfl, by omega, k2, a, _, _, rfl, rfl, hL, hlen, ?_⟩
          refine ⟨_, rfl, _, rfl, 1, _, rfl, rfl, ⟨by decide, by omega⟩, p, _, rfl, rfl, ?_⟩
          exact ⟨_, _, by rw [Nat.one_mul]; rfl, same_upd sm ha _, by rw [upd_same, List.map_append]; rfl⟩
  · have c' : l + wd ≤ p := by
      have := of_decide_eq_false (Bool.eq_false_iff.mpr c)
      omega
    rw [Bp.blk_end c', List.append_nil] at he
    subst he
    refine ⟨_, rfl, a, _, rfl, .inl ⟨SqL.of hL, fun p' hp' => ?_⟩⟩
    exact q _ p' (sm.trans (same_new hp' _)) (sm.free hp') upd_same
theorem lineB {L n : Nat} (h : L ≤ 100) : (tx (Bp.bs L n)).length ≤ sizeLine := by rw [B_len]; exact Nat.le_of_lt (line100 h)
theorem scHas : FnScope ["low", "width", "depth", "bits", "places", "begin"] ["low", "width", "depth", "bits"] (defScope sHas) := ⟨rfl, rfl, rfl, by decide +kernel, rfl, by decide +kernel, by decide +kernel⟩
theorem ok_has (F : Fun K "has_block" "has_block" sHas f fd) (T : Tx mg) (c1 : Cl P w K mg base 1 "number_in" ["bits"] spNi) : FnOk P w K mg base CX0 2 f fd ["low", "width", "depth", "bits"] spHas := by
  refine F.ok scHas (fun vs H Q E h => ?_) (fun cdv A outer s H vs Q E hr h => ?_)
  · obtain ⟨l, wd, d, L, j, rfl, _⟩ := h
    rfl
  obtain ⟨l, wd, d, L, j, rfl, h1, h2, h3, q⟩ := h
  refine ⟨_, pss_cons (ps_if (pt_cmpR op_geN (pe_callB call_len_str (by rfl) T.len PySem.boot_len (pa_cons (pv 3) pa_nil)) (pv 2) (nomark _))
      (pss_one (ps_ret (pe_chain op_leN op_ltN (pv 0) (pe_cl c1 hr (by rfl) (pa_cons (pe_slice sl_str (pv 3) po_none (po_some (pv 2))) pa_nil)) (pe_op op_addN (pv 0) (pv 1))))) pss_nil)
    (pss_cons (ps_set (i := 4) scHas.nd rfl (.inl rfl) (pe_op op_subN (pv 2) (pe_callB call_len_str (by rfl) T.len PySem.boot_len (pa_cons (pv 3) pa_nil))))
    (pss_cons (ps_set (i := 5) scHas.nd rfl (.inl rfl) (pe_op op_shlNN (pe_cl c1 hr (by rfl) (pa_cons (pv 3) pa_nil)) (pv 4)))
    (pss_one (ps_ret (pe_and (pe_cmpR op_leN (pv 0) (pv 5) (nomark _)) (pe_one (pe_cmpR op_leN (pe_op op_addN (pv 5) (pe_op op_shlNN pe_int (pv 4))) (pe_op op_addN (pv 0) (pv 1)) (nomark _)))))))), ?_⟩
  refine ⟨_, rfl, _, rfl, lineB (by omega), _, rfl, _, d, rfl, rfl, _, rfl, ?_⟩
  rw [B_len]
  unfold Bp.hasM at q
  refine ite2 (fun c => ?_) (fun c => ?_)
  · have c' : d ≤ L := of_decide_eq_true c
    rw [if_pos c'] at q
    have hj : j / 2 ^ (L - d) < 2 ^ d := Bp.div_lt (by rw [Nat.add_sub_cancel' c']; exact h1)
    refine ⟨_, rfl, _, rfl, _, rfl, _, rfl, _, rfl, lineB (by omega), ?_⟩
    rw [cut_pre c']
    refine ⟨_, _, rfl, hj, l, _, rfl, rfl, _, rfl, ite2 (fun c2 => ?_) (fun c2 => ?_)⟩
    · rw [c2, Bool.true_and] at q
      exact ⟨_, rfl, _, rfl, _, _, rfl, rfl, _, _, rfl, rfl, q⟩
    · rw [Bool.eq_false_iff.mpr c2, Bool.false_and] at q
      exact q
  · have c' : ¬ d ≤ L := of_decide_eq_false (Bool.eq_false_iff.mpr c)
    rw [if_neg c'] at q
    refine ⟨_, rfl, _, rfl, _, rfl, lineB (by omega), d, _, rfl, rfl, by rw [B_len]; omega, ?_⟩
    rw [B_len]
    have j64 : j < 64 := Nat.lt_of_lt_of_le h1 (Nat.pow_le_pow_right (by decide) h2)
    refine ⟨_, rfl, j, L, rfl, h1, _, rfl, j, d - L, rfl, rfl, ⟨by omega, by omega⟩, ?_⟩
    refine ⟨_, rfl, _, rfl, l, _, rfl, rfl, _, rfl, ite2 (fun c2 => ?_) (fun c2 => ?_)⟩
    · rw [c2, Bool.true_and] at q
      refine ⟨_, rfl, _, rfl, 1, d - L, rfl, rfl, ⟨by decide, by omega⟩, _, _, rfl, rfl, _, rfl, _, rfl, _, _, rfl, rfl, _, _, rfl, rfl, ?_⟩
      rw [Nat.one_mul]
      exact q
    · rw [Bool.eq_false_iff.mpr c2, Bool.false_and] at q
      exact q
end
end Bz
end PartD3
section PartD4
set_option maxRecDepth 100000
set_option maxHeartbeats 4000000
namespace Bz
open PySem PySem.Spec PyProof.Rows L2

def spBits : Sp := fun vs H Q _ => ∃ L j : Nat, vs = [B L j] ∧ L ≤ 100 ∧ ∀ H', Same H H' → Q (.bl true) H'
theorem bs_sign {L j c : Nat} (h : c ∈ Bp.bs L j) : c = 48 ∨ c = 49 := by
  obtain ⟨i, hi, e⟩ := List.getElem_of_mem h
  rw [Bp.bs_len] at hi
  have g := bs_get L j i hi
  rw [List.getElem?_eq_getElem (by rw [Bp.bs_len]; exact hi), e] at g
  have := Option.some.inj g
  omega
theorem sign01 {c : Nat} (h : c = 48 ∨ c = 49) : decide (c ∈ (Str.ofString "01").cps.toList) = true := by
  rcases h with rfl | rfl <;> decide +kernel
/-- behind i turns of a comprehension: what stood stands, the new list at D holds acc i -/
structure Acc (D : Addr) (H1 : Hp) (acc : Nat → List V) (i : Nat) (H : Hp) : Prop where
  same : Same H1 H
  at_ : H D = some (.lst (acc i))
theorem Acc.start {D : Addr} {H1 : Hp} {acc : Nat → List V} (h : H1 D = none) (h0 : acc 0 = []) : Acc D H1 acc 0 (upd H1 D (.lst [])) := ⟨same_new h _, by rw [upd_same, h0]⟩
theorem Acc.push {D : Addr} {H1 H H4 : Hp} {acc : Nat → List V} {i : Nat} {y : V} (p : Acc D H1 acc i H) (hD : H1 D = none) (s : Same H H4) (hl : (acc i).length ≤ 100) (e : acc (i + 1) = acc i ++ [y]) :
    ∃ a, H4 D = some (.lst a) ∧ a.length < sizeLine ∧ Acc D H1 acc (i + 1) (upd H4 D (.lst (a ++ [y]))) :=
  ⟨acc i, s _ _ p.at_, line100 hl, same_upd (p.same.trans s) hD _, by rw [upd_same, e]⟩
theorem Acc.skip {D : Addr} {H1 H H4 : Hp} {acc : Nat → List V} {i : Nat} (p : Acc D H1 acc i H) (s : Same H H4) (e : acc (i + 1) = acc i) : Acc D H1 acc (i + 1) H4 := ⟨p.same.trans s, by rw [e]; exact s _ _ p.at_⟩
section
variable {P : Program} {w : World} {K : PySem.W.Frag} {mg : Str → Option Value} {base : Heap} {f : Addr} {fd : FuncData}
theorem scBits : FnScope ["thing", "sign"] ["thing"] (defScope sBits) := ⟨rfl, rfl, rfl, by decide +kernel, rfl, by decide +kernel, by decide +kernel⟩
theorem ok_bits (F : Fun K "is_bits" "is_bits" sBits f fd) (T : Tx mg) : FnOk P w K mg base CX0 1 f fd ["thing"] spBits := by
  refine F.ok scBits (fun vs H Q E h => ?_) (fun cdv A outer s H vs Q E hr h => ?_)
  · obtain ⟨L, j, rfl, _⟩ := h
    rfl
  obtain ⟨L, j, rfl, h1, q⟩ := h
  refine ⟨_, pss_one (ps_ret (pe_and (pe_callB call_isi (by rfl) T.isi (by decide +kernel) (pa_cons (pv 0) (pa_cons (pe_bltn (v := .ty "str") (by rfl) T.str (by decide +kernel) rfl) pa_nil)))
    (pe_one (pe_callB (cr_all rfl) (by rfl) T.all (by decide +kernel) (pa_cons
      (pe_lc (own := [("sign", 1)]) (g := gName 1) (tt := tYes) rfl scBits.nd (pi_str (pv 0)) (blkOk_by (N := ["thing", "sign"]) (sc := defScope sBits) (by decide +kernel)) (fun _ _ _ _ _ => pg_name (i := 1) scBits.nd rfl (Or.inl rfl))
        (fun _ _ _ _ _ => pts_nil) (fun _ _ _ _ _ => pe_cmpR op_in_sign (pv 1) pe_str rfl)) pa_nil))))), ?_⟩
  refine ⟨_, rfl, _, .ty "str", .type "str", .type "str", true, rfl, .ty "str", .base (.str _), kit_ty (by decide +kernel), true, rfl, iteT ?_⟩
  refine ⟨_, rfl, _, rfl, fun D hD => ?_⟩
  have hz : (tx (Bp.bs L j)).cps.size = L := B_len L j
  refine lc_it (walk_str (z := tx (Bp.bs L j))) (Acc D H fun i => (List.replicate i true).map V.bl) (.start hD rfl) (fun _ _ _ _ => trivial) ?_ ?_
  · rintro i x H2 H3 hi p ⟨rfl, c, hc, rfl⟩
    have hc' : c ∈ Bp.bs L j := by
      rw [← Array.getElem?_toList] at hc
      exact List.mem_of_getElem? hc
    rw [hz] at hi
    refine ⟨rfl, ?_⟩
    refine ⟨_, rfl, c, _, rfl, rfl, ?_⟩
    rw [sign01 (bs_sign hc')]
    exact p.push hD (Same.refl _) (by simp; omega) (by simp [List.replicate_succ'])
  · rintro H2 p
    refine ⟨D, List.replicate _ true, rfl, SqL.of p.at_, ?_⟩
    rw [show (List.replicate (tx (Bp.bs L j)).cps.size true).all id = true by simp]
    exact q H2 p.same
end
end Bz
end PartD4
section PartD5
set_option maxRecDepth 100000
set_option maxHeartbeats 4000000
namespace Bz
open PySem PySem.Spec PyProof.Rows L2

/-! ### a Span -/
def fs1 (a : Addr) : List (Str × V) := putF "own_span" (.ref a) []
def fs2 (a b : Addr) : List (Str × V) := putF "own_least" (.ref b) (fs1 a)
def fs3 (a b c : Addr) : List (Str × V) := putF "own_blocks" (.ref c) (fs2 a b)
theorem n12 : ¬ ("own_span" : Str) = "own_least" := by decide +kernel
theorem n13 : ¬ ("own_span" : Str) = "own_blocks" := by decide +kernel
theorem n23 : ¬ ("own_least" : Str) = "own_blocks" := by decide +kernel
theorem fs_span (a b c : Addr) : (fs3 a b c).lookup ("own_span" : Str) = some (.ref a) := by
  unfold fs3 fs2 fs1
  rw [lookup_putF, if_neg n13, lookup_putF, if_neg n12, lookup_putF, if_pos rfl]
theorem fs_least (a b c : Addr) : (fs3 a b c).lookup ("own_least" : Str) = some (.ref b) := by
  unfold fs3 fs2
  rw [lookup_putF, if_neg n23, lookup_putF, if_pos rfl]
theorem fs_blocks (a b c : Addr) : (fs3 a b c).lookup ("own_blocks" : Str) = some (.ref c) := by
  unfold fs3
  rw [lookup_putF, if_pos rfl]
theorem fs_no (a b c : Addr) {m : Str} (h1 : ¬ m = "own_span") (h2 : ¬ m = "own_least") (h3 : ¬ m = "own_blocks") : (fs3 a b c).lookup m = none := by
  unfold fs3 fs2 fs1
  rw [lookup_putF, if_neg h3, lookup_putF, if_neg h2, lookup_putF, if_neg h1]
  rfl
theorem fs1_len (a : Addr) : (fs1 a).length < 1000 := Nat.lt_of_le_of_lt (length_putF _ _ _) (by show 1 < 1000; decide)
theorem fs2_len (a b : Addr) : (fs2 a b).length < 1000 := by
  have h1 := length_putF ("own_least" : Str) (.ref b) (fs1 a)
  have h2 := length_putF ("own_span" : Str) (.ref a) []
  unfold fs2
  simp only [List.length_nil] at h2
  unfold fs1 at h1 ⊢
  omega
structure Sok (l w d : Nat) : Prop where
  pos : 1 ≤ w
  fits : l + w ≤ 2 ^ d
  dep : d ≤ 6
/-- a Span of these cells stands at p -/
structure SpanAt (S : Addr) (H : Hp) (p : Addr) (l w d : Nat) : Prop where
  ex : ∃ dx a b c, H p = some (.ins S dx (fs3 a b c)) ∧ H a = some (.tup [N l, N w, N d]) ∧ H b = some (T3 (Bp.least l w d)) ∧ H c = some (.tup ((Bp.blks l w d).map Bt))
  ok : Sok l w d
theorem SpanAt.same {S : Addr} {H H' : Hp} {p : Addr} {l w d : Nat} (x : SpanAt S H p l w d) (s : Same H H') : SpanAt S H' p l w d := by
  obtain ⟨⟨dx, a, b, c, h1, h2, h3, h4⟩, k⟩ := x
  exact ⟨⟨dx, a, b, c, s _ _ h1, s _ _ h2, s _ _ h3, s _ _ h4⟩, k⟩
/-- what the walk asks of the class -/
structure Sx (K : PySem.W.Frag) (mg : Str → Option Value) (S : Addr) : Prop where
  cl : Cls K S
  n1 : NoAttr K S "own_span"
  n2 : NoAttr K S "own_least"
  n3 : NoAttr K S "own_blocks"
  mgS : mg "Span" = some (.ref S)
def spInit (S : Addr) : Sp := fun vs H Q _ => ∃ (p dx : Addr) (l w d : Nat), vs = [.ref p, N l, N w, N d] ∧ H p = some (.ins S dx []) ∧ Sok l w d ∧ ∀ H', SpanAt S H' p l w d → (∀ b o, H b = some o → b ≠ p → H' b = some o) → Q .non H'
section
variable {P : Program} {w : World} {K : PySem.W.Frag} {mg : Str → Option Value} {base : Heap} {f S : Addr} {fd : FuncData}
theorem scInit : FnScope ["self", "low", "width", "depth", "span"] ["self", "low", "width", "depth"] (defScope cInit) := ⟨rfl, rfl, rfl, by decide +kernel, rfl, by decide +kernel, by decide +kernel⟩
theorem ok_init (F : Fun K "__init__" "Span.__init__" cInit f fd) (T : Sx K mg S) (c1 : Cl P w K mg base 4 "is_span" ["thing"] spSpan) (c2 : Cl P w K mg base 1 "require_usable" ["is_usable", "word"] spReq)
    (c3 : Cl P w K mg base 1 "least_span" ["low", "width", "depth"] spLeast) (c4 : Cl P w K mg base 2 "blocks_of" ["low", "width", "depth"] spBlk) : FnOk P w K mg base CX0 5 f fd ["self", "low", "width", "depth"] (spInit S) := by
  refine F.ok scInit (fun vs H Q E h => ?_) (fun cdv A outer s H vs Q E hr h => ?_)
  · obtain ⟨p, dx, l, wd, d, rfl, _⟩ := h
    rfl
  obtain ⟨p, dx, l, wd, d, rfl, hp, ok, q⟩ := h
  refine ⟨_, pss_cons (ps_set (i := 4) scInit.nd rfl (.inl rfl) (pe_tup (pa_cons (pv 1) (pa_cons (pv 2) (pa_cons (pv 3) pa_nil)))))
    (pss_cons (ps_expr (pe_cl c2 (hr.mono (by decide)) (by rfl) (pa_cons (pe_cl c1 hr (by rfl) (pa_cons (pv 4) pa_nil)) (pa_cons pe_str pa_nil))))
    (pss_cons (ps_fld (pv 0) (pv 4) rfl)
    (pss_cons (ps_fld (pv 0) (pe_cl c3 (hr.mono (by decide)) (by rfl) (pa_cons (pv 1) (pa_cons (pv 2) (pa_cons (pv 3) pa_nil)))) rfl)
    (pss_one (ps_fld (pv 0) (pe_cl c4 (hr.mono (by decide)) (by rfl) (pa_cons (pv 1) (pa_cons (pv 2) (pa_cons (pv 3) pa_nil)))) rfl))))), ?_⟩
  refine ⟨_, rfl, _, rfl, _, rfl, (by show 3 ≤ sizeLine; decide), fun a na => ?_⟩
  have npa : p ≠ a := ne_of_none hp na
  have g1 : Same H (upd H a (.tup [N l, N wd, N d])) := same_new na _
  -- require_usable(is_span(span), 'span')
  refine ⟨_, rfl, a, l, wd, d, rfl, upd_same, ok.pos, ok.fits, ok.dep, _, rfl, ?_⟩
  -- self.own_span = span
  refine ⟨_, rfl, _, rfl, p, S, dx, _, rfl, g1 _ _ hp, T.cl, T.n1, (by show 0 < 1000; decide), ?_⟩
  generalize hH1 : upd (upd H a (.tup [N l, N wd, N d])) p (.ins S dx (putF "own_span" (.ref a) [])) = H1
  have p1 : H1 p = some (.ins S dx (fs1 a)) := by rw [← hH1]; exact upd_same
  have a1 : H1 a = some (.tup [N l, N wd, N d]) := by rw [← hH1, upd_ne npa.symm]; exact upd_same
  have k1 : ∀ b o, H b = some o → b ≠ p → H1 b = some o := fun b o e hb => by rw [← hH1, upd_ne hb]; exact g1 b o e
  -- self.own_least = least_span(low, width, depth)
  refine ⟨_, rfl, _, rfl, _, rfl, l, wd, d, rfl, fun H2 b s2 nb b2 => ?_⟩
  have npb : p ≠ b := ne_of_none p1 nb
  refine ⟨_, rfl, p, S, dx, _, rfl, s2 _ _ p1, T.cl, T.n2, fs1_len a, ?_⟩
  generalize hH3 : upd H2 p (.ins S dx (putF "own_least" (.ref b) (fs1 a))) = H3
  have p3 : H3 p = some (.ins S dx (fs2 a b)) := by rw [← hH3]; exact upd_same
  have a3 : H3 a = some (.tup [N l, N wd, N d]) := by rw [← hH3, upd_ne npa.symm]; exact s2 _ _ a1
  have b3 : H3 b = some (T3 (Bp.least l wd d)) := by rw [← hH3, upd_ne npb.symm]; exact b2
  have k3 : ∀ c o, H c = some o → c ≠ p → H3 c = some o := fun c o e hc => by rw [← hH3, upd_ne hc]; exact s2 c o (k1 c o e hc)
  -- self.own_blocks = blocks_of(low, width, depth)
  refine ⟨_, rfl, _, rfl, _, rfl, l, wd, d, rfl, ok.fits, ok.dep, fun H4 c s4 nc c4' => ?_⟩
  have npc : p ≠ c := ne_of_none p3 nc
  refine ⟨_, rfl, p, S, dx, _, rfl, s4 _ _ p3, T.cl, T.n3, fs2_len a b, ?_⟩
  refine q _ ⟨⟨dx, a, b, c, upd_same, ?_, ?_, ?_⟩, ok⟩ fun e o he hne => ?_
  · rw [upd_ne npa.symm]; exact s4 _ _ a3
  · rw [upd_ne npb.symm]; exact s4 _ _ b3
  · rw [upd_ne npc.symm]; exact c4'
  · rw [upd_ne hne]; exact s4 _ _ (k3 e o he hne)
end
end Bz
end PartD5
section PartR5
set_option maxRecDepth 100000
set_option maxHeartbeats 4000000
namespace Bz
open PySem PySem.Spec PyProof.Rows L2
/-! ### == and != of lists, of tuples, of ints and texts -/
def fl : V → Bool
  | .int _ => true
  | .str x => PyData.canLay0 (.str x)
  | _ => false
def dat : V → PyData
  | .int i => .int i
  | .str x => .str x
  | _ => .none
theorem dp_fl {K : PySem.W.Frag} {H : Hp} : ∀ {v : V}, fl v = true → Dp K H v (dat v)
  | .int i, _ => .int i
  | .str x, _ => .str x
theorem dpAll_fl {K : PySem.W.Frag} {H : Hp} : ∀ {xs : List V}, xs.all fl = true → DpAll K H xs (xs.map dat)
  | [], _ => .nil
  | v :: r, h => by
    rw [List.all_cons, Bool.and_eq_true] at h
    exact .cons (dp_fl h.1) (dpAll_fl h.2)
theorem lay_fl : ∀ {v : V}, fl v = true → (dat v).canLay0 = true ∧ (dat v).depth = 0
  | .int i, _ => ⟨rfl, rfl⟩
  | .str x, h => ⟨h, rfl⟩
theorem layAll_fl : ∀ {xs : List V}, xs.all fl = true → PyData.canLayAll0 (xs.map dat) = true ∧ PyData.depthAll (xs.map dat) = 0
  | [], _ => ⟨rfl, rfl⟩
  | v :: r, h => by
    rw [List.all_cons, Bool.and_eq_true] at h
    have h1 := lay_fl h.1
    have h2 := layAll_fl h.2
    constructor
    · show (PyData.canLay0 (dat v) && PyData.canLayAll0 (r.map dat)) = true
      rw [h1.1, h2.1]
      rfl
    · show max (PyData.depth (dat v)) (PyData.depthAll (r.map dat)) = 0
      rw [h1.2, h2.2]
      rfl
theorem shL {xs : List V} (h : xs.all fl = true) : SeqAt.shaped (.list (xs.map dat)) = true := by
  have q := layAll_fl h
  unfold SeqAt.shaped
  rw [Bool.and_eq_true]
  refine ⟨q.1, decide_eq_true ?_⟩
  show PyData.depthAll (xs.map dat) + 1 ≤ 64
  rw [q.2]
  decide
theorem shT {xs : List V} (h : xs.all fl = true) : SeqAt.shaped (.tuple (xs.map dat)) = true := by
  have q := layAll_fl h
  unfold SeqAt.shaped
  rw [Bool.and_eq_true]
  refine ⟨q.1, decide_eq_true ?_⟩
  show PyData.depthAll (xs.map dat) + 1 ≤ 64
  rw [q.2]
  decide
theorem eqv_fl {x y : V} (hx : fl x = true) (hy : fl y = true) : PyData.eqv (dat x) (dat y) = decide (x = y) := by
  cases x <;> cases y <;> first | exact absurd hx Bool.false_ne_true | exact absurd hy Bool.false_ne_true | skip
  · exact dec_int.symm
  · rw [decide_eq_false (fun h => V.noConfusion h)]; rfl
  · rw [decide_eq_false (fun h => V.noConfusion h)]; rfl
  · exact dec_str.symm
theorem eqvAll_fl : ∀ {xs ys : List V}, xs.all fl = true → ys.all fl = true → PyData.eqvAll (xs.map dat) (ys.map dat) = decide (xs = ys)
  | [], [], _, _ => rfl
  | [], _ :: _, _, _ => rfl
  | _ :: _, [], _, _ => rfl
  | x :: r, y :: t, h1, h2 => by
    rw [List.all_cons, Bool.and_eq_true] at h1 h2
    show (PyData.eqv (dat x) (dat y) && PyData.eqvAll (r.map dat) (t.map dat)) = _
    rw [eqv_fl h1.1 h2.1, eqvAll_fl h1.2 h2.2]
    by_cases e1 : x = y
    · subst e1
      by_cases e2 : r = t
      · subst e2; simp
      · simp [e2]
    · simp [e1]
section
variable {X : Cx}
def TwoFl (K : PySem.W.Frag) (H : Hp) (a b : Addr) (xs ys : List V) : Prop := (SqL K H a xs ∧ SqL K H b ys ∨ SqT K H a xs ∧ SqT K H b ys) ∧ xs.all fl = true ∧ ys.all fl = true
theorem TwoFl.dp {K : PySem.W.Frag} {H : Hp} {a b : Addr} {xs ys : List V} (t : TwoFl K H a b xs ys) : ∃ d e, Dp K H (.ref a) d ∧ Dp K H (.ref b) e ∧ SeqAt.shaped d = true ∧ SeqAt.shaped e = true ∧ PyData.eqv d e = decide (xs = ys) := by
  obtain ⟨t, h1, h2⟩ := t
  rcases t with ⟨ha, hb⟩ | ⟨ha, hb⟩
  · exact ⟨_, _, .lst ha (dpAll_fl h1), .lst hb (dpAll_fl h2), shL h1, shL h2, eqvAll_fl h1 h2⟩
  · exact ⟨_, _, .tup ha (dpAll_fl h1), .tup hb (dpAll_fl h2), shT h1, shT h2, eqvAll_fl h1 h2⟩
theorem op_eqF (hu : X.A.units + 64 < cLine) : OpR X (compareOp .Eq) (fun x y H Q => ∃ a b xs ys, x = .ref a ∧ y = .ref b ∧ TwoFl X.K H a b xs ys ∧ Q (.bl (decide (xs = ys))) H) := fun pins s σ H x y v u Q I rx ry ⟨a, b, xs, ys, hx, hy, t, q⟩ => by
  subst hx hy
  obtain ⟨d, e, h1, h2, h3, h4, h5⟩ := t.dp
  exact op_eqD hu pins s σ H _ _ v u Q I rx ry ⟨d, e, h1, h2, h3, h4, by rw [h5]; exact q⟩
theorem op_neF (hu : X.A.units + 64 < cLine) : OpR X (compareOp .NotEq) (fun x y H Q => ∃ a b xs ys, x = .ref a ∧ y = .ref b ∧ TwoFl X.K H a b xs ys ∧ Q (.bl (!decide (xs = ys))) H) := fun pins s σ H x y v u Q I rx ry ⟨a, b, xs, ys, hx, hy, t, q⟩ => by
  subst hx hy
  obtain ⟨d, e, h1, h2, h3, h4, h5⟩ := t.dp
  exact op_neD hu pins s σ H _ _ v u Q I rx ry ⟨d, e, h1, h2, h3, h4, by rw [h5]; exact q⟩
theorem fl_ints (ns : List Int) : (ns.map V.int).all fl = true := by simp [fl]
theorem fl_nats (ns : List Nat) : (ns.map N).all fl = true := by simp [fl, N]
end
end Bz
end PartR5
section PartD6
set_option maxRecDepth 100000
set_option maxHeartbeats 4000000
namespace Bz
open PySem PySem.Spec PyProof.Rows L2

def spPos (S : Addr) (g : Nat → Nat → Nat → Nat) : Sp := fun vs H Q _ => ∃ (p : Addr) (l w d : Nat), vs = [.ref p] ∧ SpanAt S H p l w d ∧ Q (N (g l w d)) H
def spSureP (S : Addr) : Sp := fun vs H Q _ => ∃ (p : Addr) (l w d : Nat), vs = [.ref p] ∧ SpanAt S H p l w d ∧ Q (B (d - Bp.opn l w) (Bp.sureN l w)) H
def spShare (S : Addr) : Sp := fun vs H Q _ => ∃ (p : Addr) (l w d : Nat), vs = [.ref p] ∧ SpanAt S H p l w d ∧ ∀ q, H q = none → Q (.ref q) (upd H q (.tup [N (w / Nat.gcd w (2 ^ d)), N (2 ^ d / Nat.gcd w (2 ^ d))]))
def spDbl (S : Addr) : Sp := fun vs H Q _ => ∃ (p : Addr) (l w d : Nat), vs = [.ref p] ∧ SpanAt S H p l w d ∧ d ≤ 5 ∧ ∀ H' x, Same H H' → SpanAt S H' x (2 * l) (2 * w) (d + 1) → Q (.ref x) H'
def spBlocks (S : Addr) : Sp := fun vs H Q _ => ∃ (p : Addr) (l w d : Nat), vs = [.ref p] ∧ SpanAt S H p l w d ∧ ∀ c, H c = some (.tup ((Bp.blks l w d).map Bt)) → Q (.ref c) H
def spGet (S : Addr) : Sp := fun vs H Q _ => ∃ (p : Addr) (a l w d : Nat), vs = [.ref p, N a] ∧ a ≤ 1 ∧ SpanAt S H p l w d ∧ d ≤ 5 ∧
  ∀ H' x, Same H H' → SpanAt S H' x (Bp.half l w d a).1 (Bp.half l w d a).2.1 (Bp.half l w d a).2.2 → Q (.ref x) H'
def spIn (S : Addr) : Sp := fun vs H Q _ => ∃ (p : Addr) (l w d L j : Nat), vs = [.ref p, B L j] ∧ j < 2 ^ L ∧ L ≤ 6 ∧ SpanAt S H p l w d ∧ ∀ H', Same H H' → Q (.bl (Bp.hasM l w d L j)) H'
def EqR (S : Addr) (a b : Addr) (H : Hp) : Prop := ∃ l w d l' w' d', SpanAt S H a l w d ∧ SpanAt S H b l' w' d' ∧ Bp.least l w d = Bp.least l' w' d'
def spBool (S : Addr) : Sp := fun vs H Q _ => ∃ (p : Addr) (l w d : Nat), vs = [.ref p] ∧ SpanAt S H p l w d ∧ Q (.bl (decide (Bp.opn l w < d))) H
/-- a Span can be made -/
structure Ms (P : Program) (w : World) (K : PySem.W.Frag) (mg : Str → Option Value) (base : Heap) (S : Addr) : Prop where
  ex : ∃ (f : Addr) (fd : FuncData), Mk K S f ∧ FnOk P w K mg base CX0 5 f fd ["self", "low", "width", "depth"] (spInit S) ∧ Binds K fd ["self", "low", "width", "depth"] []
theorem pe_mk {X : Cx} {S : Addr} {e : Expr} {es : List Expr} {t : TA} {p pos : Pos} (M : Ms X.prog X.w X.K X.mg X.base S) (T : Sx X.K X.mg S) (hr : Room 6 X.A) (hg : Gl X "Span") (ha : PA X (e :: es) t)
    (he : starEach (e :: es) X.env = (false, eval e X.env) :: starEach es X.env := by rfl) (hpl : (backTo pos (starEach es X.env)).any (·.1) = false := by rfl) :
    PE X (.Call (.Name "Span" p) (e :: es) [] pos) (tMake S (spInit S) [] E0 t) := by
  obtain ⟨f, fd, mk, F, hb⟩ := M.ex
  exact pe_make mk F hr hg T.mgS hb .nil pass0 ha (by decide) he hpl
/-- the reading of a Span that is made -/
theorem mk_read {S : Addr} {H : Hp} {Q : VK} {l w d : Nat} (ok : Sok l w d) (q : ∀ H2 x, Same H H2 → SpanAt S H2 x l w d → Q (.ref x) H2) :
    ∀ x dx, H x = none → H dx = none → dx ≠ x → spInit S (.ref x :: ([N l, N w, N d] ++ [])) (upd (upd H dx (.own x)) x (.ins S dx [])) (fun v H2 => v = .non ∧ Q (.ref x) H2) E0 :=
  fun x dx nx ndx _ => ⟨x, dx, l, w, d, rfl, upd_same, ok, fun H2 s2 k2 => ⟨rfl, q H2 x (Same.made nx ndx k2) s2⟩⟩
theorem Sok.dbl {l w d : Nat} (h : Sok l w d) (h5 : d ≤ 5) : Sok (2 * l) (2 * w) (d + 1) := ⟨by have := h.pos; omega, by have := h.fits; rw [Nat.pow_succ]; omega, by omega⟩
section
variable {P : Program} {w : World} {K : PySem.W.Frag} {mg : Str → Option Value} {base : Heap} {f S : Addr} {fd : FuncData}
theorem scP (st : Stmt) (h : st = cLow ∨ st = cWidth ∨ st = cDepth ∨ st = cBlocks) : FnScope ["self"] ["self"] (defScope st) := by
  rcases h with rfl | rfl | rfl | rfl <;> exact ⟨rfl, rfl, rfl, by decide +kernel, rfl, by decide +kernel, by decide +kernel⟩
theorem ok_lowP (F : Fun K "low" "Span.low" cLow f fd) (T : Sx K mg S) : FnOk P w K mg base CX0 1 f fd ["self"] (spPos S fun l _ _ => l) := by
  refine F.ok (scP _ (.inl rfl)) (fun vs H Q E h => ?_) (fun cdv A outer s H vs Q E hr h => ?_)
  · obtain ⟨p, l, wd, d, rfl, _⟩ := h
    rfl
  obtain ⟨p, l, wd, d, rfl, ⟨⟨dx, a, b, c, hp, ha, hb, hc⟩, ok⟩, q⟩ := h
  refine ⟨_, pss_one (ps_ret (pe_ix ix_tup (pe_fld (pv 0) rfl) pe_int (fun _ _ => rfl))), ?_⟩
  exact ⟨_, rfl, p, S, dx, _, _, rfl, hp, T.cl, T.n1, fs_span a b c, a, _, _, _, rfl, rfl, SqT.of ha, atI_nat (j := 0) rfl, q⟩
theorem ok_widthP (F : Fun K "width" "Span.width" cWidth f fd) (T : Sx K mg S) : FnOk P w K mg base CX0 1 f fd ["self"] (spPos S fun _ w _ => w) := by
  refine F.ok (scP _ (.inr (.inl rfl))) (fun vs H Q E h => ?_) (fun cdv A outer s H vs Q E hr h => ?_)
  · obtain ⟨p, l, wd, d, rfl, _⟩ := h
    rfl
  obtain ⟨p, l, wd, d, rfl, ⟨⟨dx, a, b, c, hp, ha, hb, hc⟩, ok⟩, q⟩ := h
  refine ⟨_, pss_one (ps_ret (pe_ix ix_tup (pe_fld (pv 0) rfl) pe_int (fun _ _ => rfl))), ?_⟩
  exact ⟨_, rfl, p, S, dx, _, _, rfl, hp, T.cl, T.n1, fs_span a b c, a, _, _, _, rfl, rfl, SqT.of ha, atI_nat (j := 1) rfl, q⟩
theorem ok_depthP (F : Fun K "depth" "Span.depth" cDepth f fd) (T : Sx K mg S) : FnOk P w K mg base CX0 1 f fd ["self"] (spPos S fun _ _ d => d) := by
  refine F.ok (scP _ (.inr (.inr (.inl rfl)))) (fun vs H Q E h => ?_) (fun cdv A outer s H vs Q E hr h => ?_)
  · obtain ⟨p, l, wd, d, rfl, _⟩ := h
    rfl
  obtain ⟨p, l, wd, d, rfl, ⟨⟨dx, a, b, c, hp, ha, hb, hc⟩, ok⟩, q⟩ := h
  refine ⟨_, pss_one (ps_ret (pe_ix ix_tup (pe_fld (pv 0) rfl) pe_int (fun _ _ => rfl))), ?_⟩
  exact ⟨_, rfl, p, S, dx, _, _, rfl, hp, T.cl, T.n1, fs_span a b c, a, _, _, _, rfl, rfl, SqT.of ha, atI_nat (j := 2) rfl, q⟩
theorem ok_blocks (F : Fun K "blocks" "Span.blocks" cBlocks f fd) (T : Sx K mg S) : FnOk P w K mg base CX0 1 f fd ["self"] (spBlocks S) := by
  refine F.ok (scP _ (.inr (.inr (.inr rfl)))) (fun vs H Q E h => ?_) (fun cdv A outer s H vs Q E hr h => ?_)
  · obtain ⟨p, l, wd, d, rfl, _⟩ := h
    rfl
  obtain ⟨p, l, wd, d, rfl, ⟨⟨dx, a, b, c, hp, ha, hb, hc⟩, ok⟩, q⟩ := h
  refine ⟨_, pss_one (ps_ret (pe_fld (pv 0) rfl)), ?_⟩
  exact ⟨_, rfl, p, S, dx, _, _, rfl, hp, T.cl, T.n3, fs_blocks a b c, q c hc⟩
theorem scU (st : Stmt) (h : st = cSure ∨ st = cShare ∨ st = cDoubled ∨ st = cBool) : FnScope ["self", "low", "width", "depth"] ["self"] (defScope st) := by
  rcases h with rfl | rfl | rfl | rfl <;> exact ⟨rfl, rfl, rfl, by decide +kernel, rfl, by decide +kernel, by decide +kernel⟩
theorem ok_sureP (F : Fun K "sure" "Span.sure" cSure f fd) (T : Sx K mg S) (c1 : Cl P w K mg base 2 "sure_bits" ["low", "width", "depth"] spSure) : FnOk P w K mg base CX0 3 f fd ["self"] (spSureP S) := by
  have sc := scU _ (.inl rfl)
  refine F.ok sc (fun vs H Q E h => ?_) (fun cdv A outer s H vs Q E hr h => ?_)
  · obtain ⟨p, l, wd, d, rfl, _⟩ := h
    rfl
  obtain ⟨p, l, wd, d, rfl, ⟨⟨dx, a, b, c, hp, ha, hb, hc⟩, ok⟩, q⟩ := h
  refine ⟨_, pss_cons (ps_asg (pe_fld (pv 0) rfl) (pg_tup rfl (pgs_cons (pg_name (i := 1) sc.nd rfl (.inl rfl)) (pgs_cons (pg_name (i := 2) sc.nd rfl (.inl rfl)) (pgs_cons (pg_name (i := 3) sc.nd rfl (.inl rfl)) pgs_nil)))))
    (pss_one (ps_ret (pe_cl c1 hr (by rfl) (pa_cons (pv 1) (pa_cons (pv 2) (pa_cons (pv 3) pa_nil)))))), ?_⟩
  refine ⟨_, rfl, p, S, dx, _, _, rfl, hp, T.cl, T.n1, fs_span a b c, a, _, rfl, SqT.of ha, rfl, _, _, rfl, _, _, rfl, _, _, rfl, rfl, ?_⟩
  exact ⟨_, rfl, _, rfl, _, rfl, l, wd, d, rfl, ok.pos, ok.fits, ok.dep, q⟩
theorem ok_share (F : Fun K "share" "Span.share" cShare f fd) (T : Sx K mg S) (c1 : Cl P w K mg base 1 "lowest_terms" ["m", "n"] spLow) : FnOk P w K mg base CX0 2 f fd ["self"] (spShare S) := by
  have sc := scU _ (.inr (.inl rfl))
  refine F.ok sc (fun vs H Q E h => ?_) (fun cdv A outer s H vs Q E hr h => ?_)
  · obtain ⟨p, l, wd, d, rfl, _⟩ := h
    rfl
  obtain ⟨p, l, wd, d, rfl, ⟨⟨dx, a, b, c, hp, ha, hb, hc⟩, ok⟩, q⟩ := h
  have b1 : 2 ^ d ≤ 64 := Nat.pow_le_pow_right (n := 2) (by decide) ok.dep
  have b2 := ok.fits
  have b3 : 0 < 2 ^ d := Nat.two_pow_pos d
  have b4 := ok.dep
  refine ⟨_, pss_cons (ps_asg (pe_fld (pv 0) rfl) (pg_tup rfl (pgs_cons (pg_name (i := 1) sc.nd rfl (.inl rfl)) (pgs_cons (pg_name (i := 2) sc.nd rfl (.inl rfl)) (pgs_cons (pg_name (i := 3) sc.nd rfl (.inl rfl)) pgs_nil)))))
    (pss_one (ps_ret (pe_cl c1 hr (by rfl) (pa_cons (pv 2) (pa_cons (pe_op op_shlNN pe_int (pv 3)) pa_nil))))), ?_⟩
  refine ⟨_, rfl, p, S, dx, _, _, rfl, hp, T.cl, T.n1, fs_span a b c, a, _, rfl, SqT.of ha, rfl, _, _, rfl, _, _, rfl, _, _, rfl, rfl, ?_⟩
  refine ⟨_, rfl, _, rfl, 1, d, rfl, rfl, ⟨by decide, by omega⟩, ?_⟩
  rw [Nat.one_mul]
  exact ⟨wd, 2 ^ d, rfl, by omega, by omega, by omega, q⟩
theorem ok_bool (F : Fun K "__bool__" "Span.__bool__" cBool f fd) (T : Sx K mg S) (U : Tx mg) (c1 : Cl P w K mg base 1 "open_places" ["low", "width"] spOp) : FnOk P w K mg base CX0 2 f fd ["self"] (spBool S) := by
  have sc := scU _ (.inr (.inr (.inr rfl)))
  refine F.ok sc (fun vs H Q E h => ?_) (fun cdv A outer s H vs Q E hr h => ?_)
  · obtain ⟨p, l, wd, d, rfl, _⟩ := h
    rfl
  obtain ⟨p, l, wd, d, rfl, ⟨⟨dx, a, b, c, hp, ha, hb, hc⟩, ok⟩, q⟩ := h
  refine ⟨_, pss_cons (ps_asg (pe_fld (pv 0) rfl) (pg_tup rfl (pgs_cons (pg_name (i := 1) sc.nd rfl (.inl rfl)) (pgs_cons (pg_name (i := 2) sc.nd rfl (.inl rfl)) (pgs_cons (pg_name (i := 3) sc.nd rfl (.inl rfl)) pgs_nil)))))
    (pss_one (ps_ret (pe_callTy call_bool1 (by rfl) U.bool (by decide +kernel) (pa_cons (pe_cmpR op_ltN (pe_cl c1 hr (by rfl) (pa_cons (pv 1) (pa_cons (pv 2) pa_nil))) (pv 3) (nomark _)) pa_nil)))), ?_⟩
  refine ⟨_, rfl, p, S, dx, _, _, rfl, hp, T.cl, T.n1, fs_span a b c, a, _, rfl, SqT.of ha, rfl, _, _, rfl, _, _, rfl, _, _, rfl, rfl, ?_⟩
  exact ⟨_, rfl, _, rfl, l, wd, rfl, ok.pos, _, rfl, _, _, rfl, rfl, .inr ⟨_, rfl, q⟩⟩
theorem ok_dbl (F : Fun K "doubled" "Span.doubled" cDoubled f fd) (T : Sx K mg S) (U : Tx mg) (M : Ms P w K mg base S) (c1 : Cl P w K mg base 1 "require_usable" ["is_usable", "word"] spReq) : FnOk P w K mg base CX0 7 f fd ["self"] (spDbl S) := by
  have sc := scU _ (.inr (.inr (.inl rfl)))
  refine F.ok sc (fun vs H Q E h => ?_) (fun cdv A outer s H vs Q E hr h => ?_)
  · obtain ⟨p, l, wd, d, rfl, _⟩ := h
    rfl
  obtain ⟨p, l, wd, d, rfl, ⟨⟨dx, a, b, c, hp, ha, hb, hc⟩, ok⟩, h5, q⟩ := h
  obtain ⟨tk, gd⟩ := U.gd
  refine ⟨_, pss_cons (ps_asg (pe_fld (pv 0) rfl) (pg_tup rfl (pgs_cons (pg_name (i := 1) sc.nd rfl (.inl rfl)) (pgs_cons (pg_name (i := 2) sc.nd rfl (.inl rfl)) (pgs_cons (pg_name (i := 3) sc.nd rfl (.inl rfl)) pgs_nil)))))
    (pss_cons (ps_expr (pe_cl c1 (hr.mono (by decide)) (by rfl) (pa_cons (pe_cmpR op_ltN (pv 3) (pe_glob (v := N 400) (by rfl) gd ⟨tk, rfl⟩) (nomark _)) (pa_cons pe_str pa_nil))))
    (pss_one (ps_ret (pe_mk M T hr (by rfl) (pa_cons (pe_op op_mulN pe_int (pv 1)) (pa_cons (pe_op op_mulN pe_int (pv 2)) (pa_cons (pe_op op_addN (pv 3) pe_int) pa_nil))))))), ?_⟩
  refine ⟨_, rfl, p, S, dx, _, _, rfl, hp, T.cl, T.n1, fs_span a b c, a, _, rfl, SqT.of ha, rfl, _, _, rfl, _, _, rfl, _, _, rfl, rfl, ?_⟩
  refine ⟨_, rfl, d, 400, rfl, rfl, ?_⟩
  rw [decide_eq_true (show d < 400 by omega)]
  refine ⟨_, rfl, ?_⟩
  refine ⟨_, rfl, 2, l, rfl, rfl, by decide, _, rfl, 2, wd, rfl, rfl, by decide, _, rfl, d, 1, rfl, rfl, ?_⟩
  exact mk_read (ok.dbl h5) q
end
end Bz
end PartD6
section PartD7
set_option maxRecDepth 100000
set_option maxHeartbeats 4000000
namespace Bz
open PySem PySem.Spec PyProof.Rows L2

theorem wide_ok {l w d : Nat} (ok : Sok l w d) (h5 : d ≤ 5) : Sok (Bp.wide l w d).1 (Bp.wide l w d).2.1 (Bp.wide l w d).2.2 ∧ 2 ≤ (Bp.wide l w d).2.1 := by
  have h1 := ok.pos
  have h2 := ok.fits
  unfold Bp.wide
  by_cases e : w = 1
  · rw [if_pos e]
    exact ⟨⟨by show 1 ≤ 2; decide, by show 2 * l + 2 ≤ 2 ^ (d + 1); rw [Nat.pow_succ]; omega, by show d + 1 ≤ 6; omega⟩, Nat.le_refl 2⟩
  · rw [if_neg e]
    exact ⟨ok, by show 2 ≤ w; omega⟩
theorem side_ok {l w d a : Nat} (ok : Sok l w d) (h2 : 2 ≤ w) : Sok (Bp.side a (l, w, d)).1 (Bp.side a (l, w, d)).2.1 (Bp.side a (l, w, d)).2.2 := by
  obtain ⟨_, _, k⟩ := Bp.opn_ok ok.dep ok.pos ok.fits
  obtain ⟨_, k1, k2⟩ := k h2
  have f := ok.fits
  unfold Bp.side
  by_cases e : a = 0
  · rw [if_pos e]
    exact ⟨by show 1 ≤ Bp.mid l w - l; omega, by show l + (Bp.mid l w - l) ≤ 2 ^ d; omega, ok.dep⟩
  · rw [if_neg e]
    exact ⟨by show 1 ≤ l + w - Bp.mid l w; omega, by show l + (Bp.mid l w - l) + (l + w - Bp.mid l w) ≤ 2 ^ d; omega, ok.dep⟩
theorem half_ok {l w d a : Nat} (ok : Sok l w d) (h5 : d ≤ 5) : Sok (Bp.half l w d a).1 (Bp.half l w d a).2.1 (Bp.half l w d a).2.2 := by
  obtain ⟨k, k2⟩ := wide_ok ok h5
  exact side_ok k k2
section
variable {P : Program} {w : World} {K : PySem.W.Frag} {mg : Str → Option Value} {base : Heap} {f S : Addr} {fd : FuncData}
theorem scG : FnScope ["self", "at", "low", "width", "depth", "left", "right"] ["self", "at"] (defScope cGet) := ⟨rfl, rfl, rfl, by decide +kernel, rfl, by decide +kernel, by decide +kernel⟩
theorem ok_get (F : Fun K "__getitem__" "Span.__getitem__" cGet f fd) (T : Sx K mg S) (U : Tx mg) (M : Ms P w K mg base S) (c1 : Cl P w K mg base 1 "require_usable" ["is_usable", "word"] spReq) (c2 : Cl P w K mg base 2 "is_number" ["thing"] spNum)
    (c3 : Cl P w K mg base 2 "sides_of" ["low", "width"] spSides) : FnOk P w K mg base CX0 7 f fd ["self", "at"] (spGet S) := by
  refine F.ok scG (fun vs H Q E h => ?_) (fun cdv A outer s H vs Q E hr h => ?_)
  · obtain ⟨p, a, l, wd, d, rfl, _⟩ := h
    rfl
  obtain ⟨p, a, l, wd, d, rfl, h1, ⟨⟨dx, a1, a2, a3, hp, ha, hb, hc⟩, ok⟩, h5, q⟩ := h
  obtain ⟨tk, gd⟩ := U.gd
  refine ⟨_, pss_cons (ps_expr (pe_cl c1 (hr.mono (by decide)) (by rfl) (pa_cons (pe_and (pe_cl c2 (hr.mono (by decide)) (by rfl) (pa_cons (pv 1) pa_nil)) (pe_one (pe_cmpR op_ltN (pv 1) pe_int (nomark _)))) (pa_cons pe_str pa_nil))))
    (pss_cons (ps_asg (pe_fld (pv 0) rfl) (pg_tup rfl (pgs_cons (pg_name (i := 2) scG.nd rfl (.inl rfl)) (pgs_cons (pg_name (i := 3) scG.nd rfl (.inl rfl)) (pgs_cons (pg_name (i := 4) scG.nd rfl (.inl rfl)) pgs_nil)))))
    (pss_cons (ps_if (pt_cmpR op_eqN (pv 3) pe_int (nomark _))
      (pss_cons (ps_expr (pe_cl c1 (hr.mono (by decide)) (by rfl) (pa_cons (pe_cmpR op_ltN (pv 4) (pe_glob (v := N 400) (by rfl) gd ⟨tk, rfl⟩) (nomark _)) (pa_cons pe_str pa_nil))))
      (pss_one (ps_par3 (i := 2) (j := 3) (l := 4) (by rfl) scG.nd rfl rfl rfl (by decide) (by decide) (by decide) rfl rfl rfl (pa_cons (pe_op op_mulN pe_int (pv 2)) (pa_cons pe_int (pa_cons (pe_op op_addN (pv 4) pe_int) pa_nil))) (by rfl)))) pss_nil)
    (pss_cons (ps_asg (pe_cl c3 (hr.mono (by decide)) (by rfl) (pa_cons (pv 2) (pa_cons (pv 3) pa_nil))) (pg_tup rfl (pgs_cons (pg_name (i := 5) scG.nd rfl (.inl rfl)) (pgs_cons (pg_name (i := 6) scG.nd rfl (.inl rfl)) pgs_nil))))
    (pss_one (ps_ret (pe_ifExp (pt_cmpR op_eqN (pv 1) pe_int (nomark _)) (pe_mk M T hr (by rfl) (pa_cons (pv 2) (pa_cons (pv 5) (pa_cons (pv 4) pa_nil)))) (pe_mk M T hr (by rfl) (pa_cons (pe_op op_addN (pv 2) (pv 5)) (pa_cons (pv 6) (pa_cons (pv 4) pa_nil)))))))))), ?_⟩
  -- require_usable(is_number(at) and at < 2, 'index')
  refine ⟨_, rfl, a, rfl, true, rfl, iteT ⟨_, rfl, a, 2, rfl, rfl, ?_⟩⟩
  rw [decide_eq_true (show a < 2 by omega)]
  refine ⟨_, rfl, ?_⟩
  -- low, width, depth = self.own_span
  refine ⟨_, rfl, p, S, dx, _, _, rfl, hp, T.cl, T.n1, fs_span a1 a2 a3, a1, _, rfl, SqT.of ha, rfl, _, _, rfl, _, _, rfl, _, _, rfl, rfl, ?_⟩
  obtain ⟨w1, w2⟩ := wide_ok ok h5
  have ho := half_ok (a := a) ok h5
  refine ⟨_, rfl, wd, 1, rfl, rfl, _, rfl, ite2 (fun c => ?_) (fun c => ?_)⟩
  · have c' : wd = 1 := of_decide_eq_true c
    have ew : Bp.wide l wd d = (2 * l, 2, d + 1) := by unfold Bp.wide; rw [if_pos c']
    rw [ew] at w1 w2
    refine ⟨_, rfl, d, 400, rfl, rfl, ?_⟩
    rw [decide_eq_true (show d < 400 by omega)]
    refine ⟨_, rfl, ?_⟩
    refine ⟨_, rfl, 2, l, rfl, rfl, by decide, _, rfl, d, 1, rfl, rfl, _, _, _, rfl, ?_⟩
    unfold Bp.half at q ho
    rw [ew] at q ho
    refine ⟨_, rfl, _, rfl, 2 * l, 2, d + 1, rfl, w2, w1.fits, w1.dep, fun t nt => ?_⟩
    refine ⟨t, _, rfl, SqT.of upd_same, rfl, _, _, rfl, _, _, rfl, rfl, ?_⟩
    refine ⟨_, rfl, a, 0, rfl, rfl, _, rfl, ite2 (fun c2 => ?_) (fun c2 => ?_)⟩
    · have c2' : a = 0 := of_decide_eq_true c2
      have es : Bp.side a (2 * l, 2, d + 1) = (2 * l, Bp.mid (2 * l) 2 - 2 * l, d + 1) := by unfold Bp.side; rw [if_pos c2']
      rw [es] at q ho
      exact ⟨_, rfl, _, rfl, _, rfl, mk_read ho fun H2 x s2 => q H2 x ((same_new nt _).trans s2)⟩
    · have c2' : ¬ a = 0 := of_decide_eq_false (Bool.eq_false_iff.mpr c2)
      have es : Bp.side a (2 * l, 2, d + 1) = (2 * l + (Bp.mid (2 * l) 2 - 2 * l), 2 * l + 2 - Bp.mid (2 * l) 2, d + 1) := by unfold Bp.side; rw [if_neg c2']
      rw [es] at q ho
      exact ⟨_, rfl, _, rfl, _, _, rfl, rfl, _, rfl, _, rfl, mk_read ho fun H2 x s2 => q H2 x ((same_new nt _).trans s2)⟩
  · have c' : ¬ wd = 1 := of_decide_eq_false (Bool.eq_false_iff.mpr c)
    have ew : Bp.wide l wd d = (l, wd, d) := by unfold Bp.wide; rw [if_neg c']
    rw [ew] at w1 w2
    unfold Bp.half at q ho
    rw [ew] at q ho
    refine ⟨_, rfl, _, rfl, l, wd, d, rfl, w2, w1.fits, w1.dep, fun t nt => ?_⟩
    refine ⟨t, _, rfl, SqT.of upd_same, rfl, _, _, rfl, _, _, rfl, rfl, ?_⟩
    refine ⟨_, rfl, a, 0, rfl, rfl, _, rfl, ite2 (fun c2 => ?_) (fun c2 => ?_)⟩
    · have c2' : a = 0 := of_decide_eq_true c2
      have es : Bp.side a (l, wd, d) = (l, Bp.mid l wd - l, d) := by unfold Bp.side; rw [if_pos c2']
      rw [es] at q ho
      exact ⟨_, rfl, _, rfl, _, rfl, mk_read ho fun H2 x s2 => q H2 x ((same_new nt _).trans s2)⟩
    · have c2' : ¬ a = 0 := of_decide_eq_false (Bool.eq_false_iff.mpr c2)
      have es : Bp.side a (l, wd, d) = (l + (Bp.mid l wd - l), l + wd - Bp.mid l wd, d) := by unfold Bp.side; rw [if_neg c2']
      rw [es] at q ho
      exact ⟨_, rfl, _, rfl, _, _, rfl, rfl, _, rfl, _, rfl, mk_read ho fun H2 x s2 => q H2 x ((same_new nt _).trans s2)⟩
theorem scC : FnScope ["self", "thing", "low", "width", "depth"] ["self", "thing"] (defScope cHas) := ⟨rfl, rfl, rfl, by decide +kernel, rfl, by decide +kernel, by decide +kernel⟩
theorem ok_in (F : Fun K "__contains__" "Span.__contains__" cHas f fd) (T : Sx K mg S) (c1 : Cl P w K mg base 1 "is_bits" ["thing"] spBits) (c2 : Cl P w K mg base 2 "has_block" ["low", "width", "depth", "bits"] spHas) : FnOk P w K mg base CX0 3 f fd ["self", "thing"] (spIn S) := by
  refine F.ok scC (fun vs H Q E h => ?_) (fun cdv A outer s H vs Q E hr h => ?_)
  · obtain ⟨p, l, wd, d, L, j, rfl, _⟩ := h
    rfl
  obtain ⟨p, l, wd, d, L, j, rfl, h1, h2, ⟨⟨dx, a1, a2, a3, hp, ha, hb, hc⟩, ok⟩, q⟩ := h
  refine ⟨_, pss_cons (ps_asg (pe_fld (pv 0) rfl) (pg_tup rfl (pgs_cons (pg_name (i := 2) scC.nd rfl (.inl rfl)) (pgs_cons (pg_name (i := 3) scC.nd rfl (.inl rfl)) (pgs_cons (pg_name (i := 4) scC.nd rfl (.inl rfl)) pgs_nil)))))
    (pss_one (ps_ret (pe_and (pe_cl c1 (hr.mono (by decide)) (by rfl) (pa_cons (pv 1) pa_nil)) (pe_one (pe_cl c2 hr (by rfl) (pa_cons (pv 2) (pa_cons (pv 3) (pa_cons (pv 4) (pa_cons (pv 1) pa_nil))))))))), ?_⟩
  refine ⟨_, rfl, p, S, dx, _, _, rfl, hp, T.cl, T.n1, fs_span a1 a2 a3, a1, _, rfl, SqT.of ha, rfl, _, _, rfl, _, _, rfl, _, _, rfl, rfl, ?_⟩
  refine ⟨_, rfl, L, j, rfl, by omega, fun H' s' => ⟨true, rfl, iteT ?_⟩⟩
  exact ⟨_, rfl, _, rfl, _, rfl, _, rfl, l, wd, d, L, j, rfl, h1, h2, ok.dep, q H' s'⟩
/-- what isinstance asks of the class -/
structure Ix (K : PySem.W.Frag) (S : Addr) : Prop where
  a : PySem.W.findIn K (.ref S) "__class__" = some (some (.builtin "object.__class__"))
  n : PySem.W.specialIn K (.builtin "object.__class__") "__get__" = some (some (.builtin "getset_descriptor.__get__"))
  t : PySem.W.takesIn K (.builtin "object.__class__") = some true
  m : PySem.W.mroIn K S (.type "object") = some true
  k : PySem.W.kitOne K (.ref S) (.ref S) = some true
theorem scE : FnScope ["self", "other"] ["self", "other"] (defScope cEq) := ⟨rfl, rfl, rfl, by decide +kernel, rfl, by decide +kernel, by decide +kernel⟩
theorem ok_eq (F : Fun K "__eq__" "Span.__eq__" cEq f fd) (T : Sx K mg S) (I : Ix K S) (U : Tx mg) : FnOk P w K mg base CX0 1 f fd ["self", "other"] (spEq (EqR S)) := by
  refine F.ok scE (fun vs H Q E h => ?_) (fun cdv A outer s H vs Q E hr h => ?_)
  · obtain ⟨a, b, rfl, _⟩ := h
    rfl
  obtain ⟨x, y, rfl, ⟨l, wd, d, l2, wd2, d2, ⟨⟨dx, a, b, c, hp, ha, hb, hc⟩, ok⟩, ⟨⟨dx2, a2, b2, c2, hp2, ha2, hb2, hc2⟩, ok2⟩, e⟩, q⟩ := h
  refine ⟨_, pss_one (ps_ret (pe_and (pe_callB call_isi (by rfl) U.isi (by decide +kernel) (pa_cons (pv 1) (pa_cons (pe_glob (v := .ref S) (by rfl) T.mgS rfl) pa_nil)))
    (pe_one (pe_cmpR (op_eqF hr.units) (pe_fld (pv 0) rfl) (pe_fld (pv 1) rfl) (nomark _))))), ?_⟩
  refine ⟨_, rfl, .ref y, .ref S, .ref S, .ref S, true, rfl, .own S, .base (.ins hp2 T.cl I.a I.n I.t I.m), I.k, true, rfl, iteT ?_⟩
  refine ⟨_, rfl, x, S, dx, _, _, rfl, hp, T.cl, T.n2, fs_least a b c, _, rfl, y, S, dx2, _, _, rfl, hp2, T.cl, T.n2, fs_least a2 b2 c2, b, b2, _, _, rfl, rfl, ⟨.inr ⟨SqT.of hb, SqT.of hb2⟩, rfl, rfl⟩, ?_⟩
  rw [e, decide_eq_true rfl]
  exact q H Ext.rfl'
end
end Bz
end PartD7
section PartD8
set_option maxRecDepth 100000
set_option maxHeartbeats 4000000
namespace Bz
open PySem PySem.Spec PyProof.Rows L2

theorem cut63 {xs : List V} (h : xs.length ≤ 63) : cutV xs none (some (63 : Int)) = xs := by
  unfold cutV
  rw [HT.sIx_none, show HT.sIx xs.length xs.length (some (63 : Int)) = min 63 xs.length from HT.sIx_nat xs.length xs.length 63, Nat.min_eq_right h, List.drop_zero, Nat.sub_zero]
  exact List.take_length
def spSrc (K : PySem.W.Frag) : Sp := fun vs H Q _ => ∃ (a : Addr) (ns : List Int), vs = [.ref a] ∧ SqL K H a (ns.map V.int) ∧ ns.length ≤ 63 ∧
  ∀ H' p q, Same H H' → H p = none → p ≠ q → H' p = some (.lst [.ref q, N 0, N 0, N 0]) → H' q = some (.lst (ns.map V.int)) → Q (.ref p) H'
/-- the law's source at p, of the script's numbers at q; of at most m draws -/
structure SrcAt (H : Hp) (p q : Addr) (ns : List Int) (m : Nat) : Prop where
  ne : p ≠ q
  lst : H q = some (.lst (ns.map V.int))
  ex : ∃ (i n : Nat) (c : Int), H p = some (.lst [.ref q, N i, .int c, N n]) ∧ 0 ≤ c ∧ i ≤ m ∧ n ≤ m
def spDraw : Sp := fun vs H Q _ => ∃ (p q : Addr) (ns : List Int) (m size : Nat), vs = [.ref p, N size] ∧ 1 ≤ size ∧ size ≤ 1000 ∧ SrcAt H p q ns m ∧ m ≤ 100 ∧
  ∀ r H', r < size → SrcAt H' p q ns (m + 1) → (∀ b o, H b = some o → b ≠ p → H' b = some o) → Q (N r) H'
theorem rest_of (c : Int) {z : Nat} (h : 1 ≤ z) : ∃ r : Nat, c % (z : Int) = (r : Int) ∧ r < z := by
  have h1 := Int.emod_nonneg c (b := (z : Int)) (by omega)
  have h2 := Int.emod_lt_of_pos c (b := (z : Int)) (by omega)
  exact ⟨(c % (z : Int)).toNat, by omega, by omega⟩
section
variable {P : Program} {w : World} {K : PySem.W.Frag} {mg : Str → Option Value} {base : Heap} {f : Addr} {fd : FuncData}
theorem scSrc : FnScope ["_law_script"] ["_law_script"] (defScope sSrc) := ⟨rfl, rfl, rfl, by decide +kernel, rfl, by decide +kernel, by decide +kernel⟩
theorem ok_src (F : Fun K "_law_source" "_law_source" sSrc f fd) : FnOk P w K mg base CX0 1 f fd ["_law_script"] (spSrc K) := by
  refine F.ok scSrc (fun vs H Q E h => ?_) (fun cdv A outer s H vs Q E hr h => ?_)
  · obtain ⟨a, ns, rfl, _⟩ := h
    rfl
  obtain ⟨a, ns, rfl, hs, hn, q⟩ := h
  refine ⟨_, pss_one (ps_ret (pe_lst (pa_cons (pe_slice sl_list (pv 0) po_none (po_some pe_int)) (pa_cons pe_int (pa_cons pe_int (pa_cons pe_int pa_nil)))))), ?_⟩
  refine ⟨_, rfl, 63, rfl, a, _, rfl, hs, fun y ny => ⟨by show 4 ≤ sizeLine; decide, fun x nx => ?_⟩⟩
  rw [cut63 (by rw [List.length_map]; exact hn)] at nx ⊢
  have nyx : y ≠ x := ne_of_none upd_same nx
  have nx0 : H x = none := (same_new ny _).free nx
  exact q _ x y ((same_new ny _).trans (same_new nx _)) nx0 nyx.symm upd_same (by rw [upd_ne nyx]; exact upd_same)
theorem scDraw : FnScope ["_law_source_here", "_law_size", "_law_found", "_law_spot", "_law_cell", "_law_mixed"] ["_law_source_here", "_law_size"] (defScope sDraw) := ⟨rfl, rfl, rfl, by decide +kernel, rfl, by decide +kernel, by decide +kernel⟩
theorem ok_draw (F : Fun K "_law_draw" "_law_draw" sDraw f fd) (T : Tx mg) : FnOk P w K mg base CX0 1 f fd ["_law_source_here", "_law_size"] spDraw := by
  refine F.ok scDraw (fun vs H Q E h => ?_) (fun cdv A outer s H vs Q E hr h => ?_)
  · obtain ⟨p, q, ns, m, size, rfl, _⟩ := h
    rfl
  obtain ⟨p, q, ns, m, size, rfl, h1, h2, ⟨ne, hq, i, n, c, hp, hc, hi, hn⟩, hm, k⟩ := h
  have hn2 : n + 1 ≤ 101 := by omega
  refine ⟨_, pss_cons (ps_asg (pe_op op_addN (pe_ix ix_list (pv 0) pe_int (fun _ _ => rfl)) pe_int) (pg_sub (pv 0) pe_int set_list))
    (pss_cons (ps_if (pt_cmpR op_gt (pe_ix ix_list (pv 0) pe_int (fun _ _ => rfl)) pe_int (nomark _))
      (pss_cons (ps_set (i := 2) scDraw.nd rfl (.inl rfl) (pe_op op_mod (pe_callTy call_int1 (by rfl) T.int (by decide +kernel) (pa_cons (pe_ix ix_list (pv 0) pe_int (fun _ _ => rfl)) pa_nil)) (pv 1)))
      (pss_cons (ps_asg (pe_op op_fdiv (pe_ix ix_list (pv 0) pe_int (fun _ _ => rfl)) (pv 1)) (pg_sub (pv 0) pe_int set_list))
      (pss_one (ps_ret (pv 2))))) pss_nil)
    (pss_cons (ps_set (i := 3) scDraw.nd rfl (.inl rfl) (pe_ix ix_list (pv 0) pe_int (fun _ _ => rfl)))
    (pss_cons (ps_asg (pe_op op_addN (pv 3) pe_int) (pg_sub (pv 0) pe_int set_list))
    (pss_cons (ps_set (i := 4) scDraw.nd rfl (.inl rfl) (pe_ifExp (pt_cmpR (op_neF hr.units) (pe_ix ix_list (pv 0) pe_int (fun _ _ => rfl)) (pe_lst pa_nil) (nomark _))
      (pe_ix ix_list (pe_ix ix_list (pv 0) pe_int (fun _ _ => rfl)) (pe_op op_modNN (pe_callTy call_int1 (by rfl) T.int (by decide +kernel) (pa_cons (pv 3) pa_nil))
        (pe_callB call_len_seq (by rfl) T.len PySem.boot_len (pa_cons (pe_ix ix_list (pv 0) pe_int (fun _ _ => rfl)) pa_nil))) (fun _ _ => rfl)) pe_int))
    (pss_cons (ps_if (PW.pt (pw_and (pt_cmpR op_ge (pv 4) (pe_op op_pow pe_int pe_int) (nomark _)) (pw_and1 (pt_cmpR op_ltN (pv 3) (pe_callB call_len_seq (by rfl) T.len PySem.boot_len (pa_cons (pe_ix ix_list (pv 0) pe_int (fun _ _ => rfl)) pa_nil)) (nomark _)))))
      (pss_cons (ps_asg (pe_op op_fdiv (pv 4) (pv 1)) (pg_sub (pv 0) pe_int set_list))
      (pss_one (ps_ret (pe_op op_mod (pe_callTy call_int1 (by rfl) T.int (by decide +kernel) (pa_cons (pv 4) pa_nil)) (pv 1))))) pss_nil)
    (pss_cons (ps_set (i := 5) scDraw.nd rfl (.inl rfl) (pe_op op_mod (pe_callTy call_int1 (by rfl) T.int (by decide +kernel) (pa_cons (pe_op op_pow (pe_op op_add (pe_op op_add (pe_op op_mod (pe_callTy call_int1 (by rfl) T.int (by decide +kernel) (pa_cons (pv 4) pa_nil)) pe_int)
      (pe_op op_mul pe_int (pe_ix ix_list (pv 0) pe_int (fun _ _ => rfl)))) pe_int) pe_int) pa_nil)) pe_int))
    (pss_cons (ps_set (i := 5) scDraw.nd rfl (.inl rfl) (pe_op op_mod (pe_callTy call_int1 (by rfl) T.int (by decide +kernel) (pa_cons (pe_op op_pow (pe_op op_add (pe_op op_add (pv 5)
      (pe_op op_mul (pe_op op_mul pe_int (pe_ix ix_list (pv 0) pe_int (fun _ _ => rfl))) (pe_ix ix_list (pv 0) pe_int (fun _ _ => rfl)))) pe_int) pe_int) pa_nil)) pe_int))
    (pss_one (ps_ret (pe_op op_mod (pe_callTy call_int1 (by rfl) T.int (by decide +kernel) (pa_cons (pe_op op_fdiv (pv 5) pe_int) pa_nil)) (pv 1))))))))))), ?_⟩
  have pos : (0 : Int) < (size : Int) := by omega
  have fin : ∀ (y : Int) (H' : Hp), SrcAt H' p q ns (m + 1) → (∀ b o, H b = some o → b ≠ p → H' b = some o) → Q (.int (y % (size : Int))) H' := fun y H' x1 x2 => by
    obtain ⟨r, er, hr2⟩ := rest_of y h1
    rw [er]
    exact k r H' hr2 x1 x2
  have sm : (size : Int) < 1073741824 := by omega
  -- src[3] = src[3] + 1
  refine ⟨_, rfl, p, _, _, _, rfl, rfl, SqL.of hp, atI_nat (j := 3) rfl, n, 1, rfl, rfl, _, rfl, p, _, _, 3, rfl, rfl, hp, rfl, ?_⟩
  generalize hH1 : upd H p (.lst (List.set [.ref q, N i, .int c, N n] 3 (N (n + 1)))) = H1
  have hp1 : H1 p = some (.lst [.ref q, N i, .int c, N (n + 1)]) := by rw [← hH1]; exact upd_same
  have k1 : ∀ b o, H b = some o → b ≠ p → H1 b = some o := fun b o e hb => by rw [← hH1, upd_ne hb]; exact e
  have hq1 := k1 q _ hq ne.symm
  -- if src[2] > 0
  refine ⟨_, rfl, p, _, _, _, rfl, rfl, SqL.of hp1, atI_nat (j := 2) rfl, c, 0, rfl, rfl, _, rfl, ite2 (fun c1 => ?_) (fun c1 => ?_)⟩
  · refine ⟨_, rfl, p, _, _, _, rfl, rfl, SqL.of hp1, atI_nat (j := 2) rfl, .inl ⟨_, rfl, _, rfl, _, _, rfl, rfl, pos, ?_⟩⟩
    refine ⟨_, rfl, p, _, _, _, rfl, rfl, SqL.of hp1, atI_nat (j := 2) rfl, _, rfl, _, _, rfl, rfl, ⟨pos, sm⟩, _, rfl, p, _, _, 2, rfl, rfl, hp1, rfl, ?_⟩
    exact ⟨_, rfl, fin c _ ⟨ne, by rw [upd_ne ne.symm]; exact hq1, i, n + 1, c / size, upd_same, Int.ediv_nonneg hc (by omega), by omega, by omega⟩ fun b o e hb => by rw [upd_ne hb]; exact k1 b o e hb⟩
  -- spot = src[1]; src[1] = spot + 1
  refine ⟨_, rfl, p, _, _, _, rfl, rfl, SqL.of hp1, atI_nat (j := 1) rfl, ?_⟩
  refine ⟨_, rfl, i, 1, rfl, rfl, _, rfl, p, _, _, 1, rfl, rfl, hp1, rfl, ?_⟩
  generalize hH2 : upd H1 p (.lst (List.set [.ref q, N i, .int c, N (n + 1)] 1 (N (i + 1)))) = H2
  have hp2 : H2 p = some (.lst [.ref q, N (i + 1), .int c, N (n + 1)]) := by rw [← hH2]; exact upd_same
  have k2 : ∀ b o, H b = some o → b ≠ p → H2 b = some o := fun b o e hb => by rw [← hH2, upd_ne hb]; exact k1 b o e hb
  have hq2 := k2 q _ hq ne.symm
  -- if src[0] != []
  refine ⟨_, rfl, p, _, _, _, rfl, rfl, SqL.of hp2, atI_nat (j := 0) rfl, Nat.zero_le _, fun z nz => ?_⟩
  have hp3 : (upd H2 z (.lst [])) p = some (.lst [.ref q, N (i + 1), .int c, N (n + 1)]) := by rw [upd_ne (ne_of_none hp2 nz)]; exact hp2
  have hq3 : (upd H2 z (.lst [])) q = some (.lst (ns.map V.int)) := by rw [upd_ne (ne_of_none hq2 nz)]; exact hq2
  have k3 : ∀ b o, H b = some o → b ≠ p → (upd H2 z (.lst [])) b = some o := fun b o e hb => by rw [upd_ne (ne_of_none (k2 b o e hb) nz)]; exact k2 b o e hb
  have hz3 : (upd H2 z (.lst [])) z = some (.lst []) := upd_same
  generalize upd H2 z (.lst []) = H3 at hp3 hq3 k3 hz3
  refine ⟨q, z, _, [], rfl, rfl, ⟨.inl ⟨SqL.of hq3, SqL.of hz3⟩, fl_ints ns, rfl⟩, _, rfl, ?_⟩
  by_cases hn0 : ns = []
  · subst hn0
    refine Eq.mpr (if_neg (by decide)) ?_
    generalize (53 : Int) = cell
    -- if cell >= 10 ** 18 and spot < len(src[0])
    refine ⟨_, rfl, 10, 18, rfl, rfl, ⟨by decide, by decide, by decide⟩, _, _, rfl, rfl, _, rfl, ite2 (fun d1 => ?_) (fun d1 => ?_)⟩
    · have d1' : (10 : Int) ^ (18 : Int).toNat ≤ cell := of_decide_eq_true d1
      have d0 : (0 : Int) ≤ (10 : Int) ^ (18 : Int).toNat := by decide
      refine ⟨_, rfl, _, rfl, p, _, _, _, rfl, rfl, SqL.of hp3, atI_nat (j := 0) rfl, q, _, rfl, .inl (SqL.of hq3), _, _, rfl, rfl, _, rfl, ite2 (fun d2 => ?_) (fun d2 => ?_)⟩
      · refine ⟨_, rfl, _, rfl, _, _, rfl, rfl, ⟨pos, sm⟩, _, rfl, p, _, _, 2, rfl, rfl, hp3, rfl, ?_⟩
        refine ⟨_, rfl, .inl ⟨_, rfl, _, rfl, _, _, rfl, rfl, pos, ?_⟩⟩
        exact fin cell _ ⟨ne, by rw [upd_ne ne.symm]; exact hq3, i + 1, n + 1, cell / size, upd_same, Int.ediv_nonneg (by omega) (by omega), by omega, by omega⟩ fun b o e hb => by rw [upd_ne hb]; exact k3 b o e hb
      · refine ⟨_, rfl, .inl ⟨cell, rfl, _, _, rfl, rfl, (by show (0 : Int) < 1999999973; decide), _, rfl, p, _, _, _, rfl, rfl, SqL.of hp3, atI_nat (j := 3) rfl, _, _, rfl, rfl, .inl ⟨by decide, by decide⟩, _, _, rfl, rfl, _, _, rfl, rfl,
          _, _, rfl, rfl, ⟨by decide, by decide, ?_⟩, .inl ⟨_, rfl, _, _, rfl, rfl, (by show (0 : Int) < 2147483549; decide), ?_⟩⟩⟩
        · show (cell % 1999999973 + 60103 * ((n + 1 : Nat) : Int) + 307).natAbs < 2 ^ 64
          omega
        generalize (cell % 1999999973 + 60103 * ((n + 1 : Nat) : Int) + 307) ^ (3 : Int).toNat = x3
        have b3 := Int.emod_nonneg x3 (b := 2147483549) (by decide)
        have b4 := Int.emod_lt_of_pos x3 (b := 2147483549) (by decide)
        refine ⟨_, rfl, _, rfl, p, _, _, _, rfl, rfl, SqL.of hp3, atI_nat (j := 3) rfl, _, _, rfl, rfl, .inl ⟨by decide, by decide⟩, _, rfl, p, _, _, _, rfl, rfl, SqL.of hp3, atI_nat (j := 3) rfl, _, _, rfl, rfl, .inl ⟨?_, ?_⟩, _, _, rfl, rfl, _, _, rfl, rfl,
          _, _, rfl, rfl, ⟨by decide, by decide, ?_⟩, .inl ⟨_, rfl, _, _, rfl, rfl, (by show (0 : Int) < 2147483563; decide), ?_⟩⟩
        · show -(2 ^ 64) < (4987 : Int) * ((n + 1 : Nat) : Int)
          omega
        · show (4987 : Int) * ((n + 1 : Nat) : Int) < 2 ^ 64
          omega
        · show (x3 % 2147483549 + 4987 * ((n + 1 : Nat) : Int) * ((n + 1 : Nat) : Int) + 71).natAbs < 2 ^ 64
          have c1 : (0 : Int) ≤ 4987 * ((n + 1 : Nat) : Int) * ((n + 1 : Nat) : Int) := Int.mul_nonneg (by omega) (by omega)
          have c2 : 4987 * ((n + 1 : Nat) : Int) * ((n + 1 : Nat) : Int) ≤ 4987 * 101 * 101 := Int.mul_le_mul (by omega) (by omega) (by omega) (by omega)
          omega
        refine ⟨_, rfl, _, _, rfl, rfl, ⟨by decide, by decide⟩, .inl ⟨_, rfl, _, rfl, _, _, rfl, rfl, pos, ?_⟩⟩
        exact fin _ H3 ⟨ne, hq3, i + 1, n + 1, c, hp3, hc, by omega, by omega⟩ k3
    · refine iteF ?_
      refine ⟨_, rfl, .inl ⟨cell, rfl, _, _, rfl, rfl, (by show (0 : Int) < 1999999973; decide), _, rfl, p, _, _, _, rfl, rfl, SqL.of hp3, atI_nat (j := 3) rfl, _, _, rfl, rfl, .inl ⟨by decide, by decide⟩, _, _, rfl, rfl, _, _, rfl, rfl,
        _, _, rfl, rfl, ⟨by decide, by decide, ?_⟩, .inl ⟨_, rfl, _, _, rfl, rfl, (by show (0 : Int) < 2147483549; decide), ?_⟩⟩⟩
      · show (cell % 1999999973 + 60103 * ((n + 1 : Nat) : Int) + 307).natAbs < 2 ^ 64
        omega
      generalize (cell % 1999999973 + 60103 * ((n + 1 : Nat) : Int) + 307) ^ (3 : Int).toNat = x3
      have b3 := Int.emod_nonneg x3 (b := 2147483549) (by decide)
      have b4 := Int.emod_lt_of_pos x3 (b := 2147483549) (by decide)
      refine ⟨_, rfl, _, rfl, p, _, _, _, rfl, rfl, SqL.of hp3, atI_nat (j := 3) rfl, _, _, rfl, rfl, .inl ⟨by decide, by decide⟩, _, rfl, p, _, _, _, rfl, rfl, SqL.of hp3, atI_nat (j := 3) rfl, _, _, rfl, rfl, .inl ⟨?_, ?_⟩, _, _, rfl, rfl, _, _, rfl, rfl,
        _, _, rfl, rfl, ⟨by decide, by decide, ?_⟩, .inl ⟨_, rfl, _, _, rfl, rfl, (by show (0 : Int) < 2147483563; decide), ?_⟩⟩
      · show -(2 ^ 64) < (4987 : Int) * ((n + 1 : Nat) : Int)
        omega
      · show (4987 : Int) * ((n + 1 : Nat) : Int) < 2 ^ 64
        omega
      · show (x3 % 2147483549 + 4987 * ((n + 1 : Nat) : Int) * ((n + 1 : Nat) : Int) + 71).natAbs < 2 ^ 64
        have c1 : (0 : Int) ≤ 4987 * ((n + 1 : Nat) : Int) * ((n + 1 : Nat) : Int) := Int.mul_nonneg (by omega) (by omega)
        have c2 : 4987 * ((n + 1 : Nat) : Int) * ((n + 1 : Nat) : Int) ≤ 4987 * 101 * 101 := Int.mul_le_mul (by omega) (by omega) (by omega) (by omega)
        omega
      refine ⟨_, rfl, _, _, rfl, rfl, ⟨by decide, by decide⟩, .inl ⟨_, rfl, _, rfl, _, _, rfl, rfl, pos, ?_⟩⟩
      exact fin _ H3 ⟨ne, hq3, i + 1, n + 1, c, hp3, hc, by omega, by omega⟩ k3
  · have hne : ¬ ns.map V.int = [] := fun z => hn0 (List.map_eq_nil_iff.mp z)
    refine Eq.mpr (if_pos (by rw [decide_eq_false hne]; rfl)) ?_
    have hl : 0 < ns.length := List.length_pos_iff.mpr hn0
    have hk : i % ns.length < ns.length := Nat.mod_lt _ hl
    obtain ⟨cell, hcell⟩ : ∃ x, ns[i % ns.length]? = some x := ⟨_, List.getElem?_eq_getElem hk⟩
    have hk2 : (ns.map V.int)[i % ns.length]? = some (.int cell) := by rw [List.getElem?_map, hcell]; rfl
    refine ⟨_, rfl, p, _, _, _, rfl, rfl, SqL.of hp3, atI_nat (j := 0) rfl, _, rfl, .inl ⟨_, rfl, _, rfl, p, _, _, _, rfl, rfl, SqL.of hp3, atI_nat (j := 0) rfl, q, _, rfl, .inl (SqL.of hq3), i, ns.length, rfl, by rw [List.length_map], hl, ?_⟩⟩
    refine ⟨q, _, _, _, rfl, rfl, SqL.of hq3, atI_nat (j := i % ns.length) hk2, ?_⟩
    -- if cell >= 10 ** 18 and spot < len(src[0])
    refine ⟨_, rfl, 10, 18, rfl, rfl, ⟨by decide, by decide, by decide⟩, _, _, rfl, rfl, _, rfl, ite2 (fun d1 => ?_) (fun d1 => ?_)⟩
    · have d1' : (10 : Int) ^ (18 : Int).toNat ≤ cell := of_decide_eq_true d1
      have d0 : (0 : Int) ≤ (10 : Int) ^ (18 : Int).toNat := by decide
      refine ⟨_, rfl, _, rfl, p, _, _, _, rfl, rfl, SqL.of hp3, atI_nat (j := 0) rfl, q, _, rfl, .inl (SqL.of hq3), _, _, rfl, rfl, _, rfl, ite2 (fun d2 => ?_) (fun d2 => ?_)⟩
      · refine ⟨_, rfl, _, rfl, _, _, rfl, rfl, ⟨pos, sm⟩, _, rfl, p, _, _, 2, rfl, rfl, hp3, rfl, ?_⟩
        refine ⟨_, rfl, .inl ⟨_, rfl, _, rfl, _, _, rfl, rfl, pos, ?_⟩⟩
        exact fin cell _ ⟨ne, by rw [upd_ne ne.symm]; exact hq3, i + 1, n + 1, cell / size, upd_same, Int.ediv_nonneg (by omega) (by omega), by omega, by omega⟩ fun b o e hb => by rw [upd_ne hb]; exact k3 b o e hb
      · refine ⟨_, rfl, .inl ⟨cell, rfl, _, _, rfl, rfl, (by show (0 : Int) < 1999999973; decide), _, rfl, p, _, _, _, rfl, rfl, SqL.of hp3, atI_nat (j := 3) rfl, _, _, rfl, rfl, .inl ⟨by decide, by decide⟩, _, _, rfl, rfl, _, _, rfl, rfl,
          _, _, rfl, rfl, ⟨by decide, by decide, ?_⟩, .inl ⟨_, rfl, _, _, rfl, rfl, (by show (0 : Int) < 2147483549; decide), ?_⟩⟩⟩
        · show (cell % 1999999973 + 60103 * ((n + 1 : Nat) : Int) + 307).natAbs < 2 ^ 64
          omega
        generalize (cell % 1999999973 + 60103 * ((n + 1 : Nat) : Int) + 307) ^ (3 : Int).toNat = x3
        have b3 := Int.emod_nonneg x3 (b := 2147483549) (by decide)
        have b4 := Int.emod_lt_of_pos x3 (b := 2147483549) (by decide)
        refine ⟨_, rfl, _, rfl, p, _, _, _, rfl, rfl, SqL.of hp3, atI_nat (j := 3) rfl, _, _, rfl, rfl, .inl ⟨by decide, by decide⟩, _, rfl, p, _, _, _, rfl, rfl, SqL.of hp3, atI_nat (j := 3) rfl, _, _, rfl, rfl, .inl ⟨?_, ?_⟩, _, _, rfl, rfl, _, _, rfl, rfl,
          _, _, rfl, rfl, ⟨by decide, by decide, ?_⟩, .inl ⟨_, rfl, _, _, rfl, rfl, (by show (0 : Int) < 2147483563; decide), ?_⟩⟩
        · show -(2 ^ 64) < (4987 : Int) * ((n + 1 : Nat) : Int)
          omega
        · show (4987 : Int) * ((n + 1 : Nat) : Int) < 2 ^ 64
          omega
        · show (x3 % 2147483549 + 4987 * ((n + 1 : Nat) : Int) * ((n + 1 : Nat) : Int) + 71).natAbs < 2 ^ 64
          have c1 : (0 : Int) ≤ 4987 * ((n + 1 : Nat) : Int) * ((n + 1 : Nat) : Int) := Int.mul_nonneg (by omega) (by omega)
          have c2 : 4987 * ((n + 1 : Nat) : Int) * ((n + 1 : Nat) : Int) ≤ 4987 * 101 * 101 := Int.mul_le_mul (by omega) (by omega) (by omega) (by omega)
          omega
        refine ⟨_, rfl, _, _, rfl, rfl, ⟨by decide, by decide⟩, .inl ⟨_, rfl, _, rfl, _, _, rfl, rfl, pos, ?_⟩⟩
        exact fin _ H3 ⟨ne, hq3, i + 1, n + 1, c, hp3, hc, by omega, by omega⟩ k3
    · refine iteF ?_
      refine ⟨_, rfl, .inl ⟨cell, rfl, _, _, rfl, rfl, (by show (0 : Int) < 1999999973; decide), _, rfl, p, _, _, _, rfl, rfl, SqL.of hp3, atI_nat (j := 3) rfl, _, _, rfl, rfl, .inl ⟨by decide, by decide⟩, _, _, rfl, rfl, _, _, rfl, rfl,
        _, _, rfl, rfl, ⟨by decide, by decide, ?_⟩, .inl ⟨_, rfl, _, _, rfl, rfl, (by show (0 : Int) < 2147483549; decide), ?_⟩⟩⟩
      · show (cell % 1999999973 + 60103 * ((n + 1 : Nat) : Int) + 307).natAbs < 2 ^ 64
        omega
      generalize (cell % 1999999973 + 60103 * ((n + 1 : Nat) : Int) + 307) ^ (3 : Int).toNat = x3
      have b3 := Int.emod_nonneg x3 (b := 2147483549) (by decide)
      have b4 := Int.emod_lt_of_pos x3 (b := 2147483549) (by decide)
      refine ⟨_, rfl, _, rfl, p, _, _, _, rfl, rfl, SqL.of hp3, atI_nat (j := 3) rfl, _, _, rfl, rfl, .inl ⟨by decide, by decide⟩, _, rfl, p, _, _, _, rfl, rfl, SqL.of hp3, atI_nat (j := 3) rfl, _, _, rfl, rfl, .inl ⟨?_, ?_⟩, _, _, rfl, rfl, _, _, rfl, rfl,
        _, _, rfl, rfl, ⟨by decide, by decide, ?_⟩, .inl ⟨_, rfl, _, _, rfl, rfl, (by show (0 : Int) < 2147483563; decide), ?_⟩⟩
      · show -(2 ^ 64) < (4987 : Int) * ((n + 1 : Nat) : Int)
        omega
      · show (4987 : Int) * ((n + 1 : Nat) : Int) < 2 ^ 64
        omega
      · show (x3 % 2147483549 + 4987 * ((n + 1 : Nat) : Int) * ((n + 1 : Nat) : Int) + 71).natAbs < 2 ^ 64
        have c1 : (0 : Int) ≤ 4987 * ((n + 1 : Nat) : Int) * ((n + 1 : Nat) : Int) := Int.mul_nonneg (by omega) (by omega)
        have c2 : 4987 * ((n + 1 : Nat) : Int) * ((n + 1 : Nat) : Int) ≤ 4987 * 101 * 101 := Int.mul_le_mul (by omega) (by omega) (by omega) (by omega)
        omega
      refine ⟨_, rfl, _, _, rfl, rfl, ⟨by decide, by decide⟩, .inl ⟨_, rfl, _, rfl, _, _, rfl, rfl, pos, ?_⟩⟩
      exact fin _ H3 ⟨ne, hq3, i + 1, n + 1, c, hp3, hc, by omega, by omega⟩ k3
end
end Bz
end PartD8
section PartD9
set_option maxRecDepth 100000
set_option maxHeartbeats 4000000
namespace Bz
open PySem PySem.Spec PyProof.Rows L2

theorem ones : ∀ d : Nat, ((List.range d).map fun _ => 1).sum = d
  | 0 => rfl
  | d + 1 => by rw [List.range_succ, List.map_append, List.sum_append, ones d]; rfl
/-- the sign at a place -/
def sgn (d n k : Nat) : Nat := 48 + n / 2 ^ (d - 1 - k) % 2
theorem bs_map (d n : Nat) : Bp.bs d n = (List.range d).map (sgn d n) := by
  refine List.ext_getElem? fun i => ?_
  by_cases h : i < d
  · rw [bs_get d n i h, List.getElem?_map, List.getElem?_range h]
    rfl
  · rw [List.getElem?_eq_none (by rw [Bp.bs_len]; omega), List.getElem?_eq_none (by simp; omega)]
theorem joinL_one : ∀ cs : List Nat, TL.joinL [] (cs.map fun c => [c]) = cs
  | [] => rfl
  | [c] => rfl
  | c :: e :: r => by
    have ih := joinL_one (e :: r)
    show [c] ++ ([] ++ TL.joinL [] ((e :: r).map fun c => [c])) = _
    rw [ih]
    rfl
theorem join_bits (d n : Nat) : Txt.join (Str.ofString "") ((List.range d).map fun k => (⟨#[sgn d n k]⟩ : Str)) = tx (Bp.bs d n) := by
  have h := SX.join_S [] ((Bp.bs d n).map fun c => [c])
  rw [joinL_one, bs_map, List.map_map, List.map_map] at h
  rw [bs_map]
  exact h
theorem sgn_str {d n k : Nat} : (V.str ⟨#[sgn d n k]⟩ : V) = if decide (n / 2 ^ (d - 1 - k) % 2 ≠ 0) = true then V.str (Str.ofString "1") else V.str (Str.ofString "0") := by
  unfold sgn
  rcases Nat.mod_two_eq_zero_or_one (n / 2 ^ (d - 1 - k)) with h | h <;> rw [h] <;> rfl
/-- a number as a test -/
def tNz (ta : TE) : TT := fun σ H Q => ta σ H fun x H' => ∃ n : Nat, x = N n ∧ Q (decide (n ≠ 0)) H'
theorem pt_nz {X : Cx} {a : Expr} {ta : TE} (ha : PE X a ta) (he : ∀ whole, isTrue a X.env whole = (do let v ← whole; standAt a.pos; holding [v] (truthy v))) : PT X a (tNz ta) := by
  refine ⟨fun pins s σ H Q I h => isTrue_plain (thn (ha.run pins s σ H _ I h) fun v s1 ⟨x, H1, I1, r1, n, hx, q⟩ => ?_) (he _)⟩
  subst hx
  refine tru_ok pins s1 σ H1 _ v Q I1 r1 ⟨decide (n ≠ 0), ?_, q⟩
  show decide (n ≠ 0) = ((n : Int) != 0)
  by_cases h0 : n = 0
  · subst h0; rfl
  · rw [decide_eq_true h0]
    exact (bne_iff_ne.mpr (by omega)).symm
def spLB : Sp := fun vs H Q _ => ∃ n d : Nat, vs = [N n, N d] ∧ d ≤ 6 ∧ ∀ H', Same H H' → Q (B d n) H'
def spRows : Sp := fun vs H Q _ => ∃ (t : Addr) (l w d deep : Nat), vs = [.ref t, N deep] ∧ H t = some (.tup [N l, N w, N d]) ∧ d ≤ deep ∧ deep ≤ 6 ∧ l + w ≤ 2 ^ d ∧
  ∀ H' p, Same H H' → H p = none → H' p = some (.lst ((List.range' (l * 2 ^ (deep - d)) (w * 2 ^ (deep - d))).map N)) → Q (.ref p) H'
def spWords : Sp := fun vs H Q _ => ∃ L : Nat, vs = [N L] ∧ L ≤ 6 ∧ ∀ H' p, Same H H' → H p = none → H' p = some (.lst ((List.range (2 ^ L)).map fun k => B L k)) → Q (.ref p) H'
section
variable {P : Program} {w : World} {K : PySem.W.Frag} {mg : Str → Option Value} {base : Heap} {f : Addr} {fd : FuncData}
theorem scLB : FnScope ["_law_number", "_law_depth", "_law_k"] ["_law_number", "_law_depth"] (defScope sLBits) := ⟨rfl, rfl, rfl, by decide +kernel, rfl, by decide +kernel, by decide +kernel⟩
theorem ok_lb (F : Fun K "_law_bits" "_law_bits" sLBits f fd) (T : Tx mg) : FnOk P w K mg base CX0 1 f fd ["_law_number", "_law_depth"] spLB := by
  refine F.ok scLB (fun vs H Q E h => ?_) (fun cdv A outer s H vs Q E hr h => ?_)
  · obtain ⟨n, d, rfl, _⟩ := h
    rfl
  obtain ⟨n, d, rfl, h1, q⟩ := h
  refine ⟨_, pss_one (ps_ret (pe_join pe_str (pe_lc (own := [("_law_k", 2)]) (g := gName 2) (tt := tYes) rfl scLB.nd (pi_range1 rfl T.range (pa_cons (pv 1) pa_nil))
    (blkOk_by (N := ["_law_number", "_law_depth", "_law_k"]) (sc := defScope sLBits) (by decide +kernel)) (fun _ _ _ _ _ => pg_name (i := 2) scLB.nd rfl (Or.inl rfl)) (fun _ _ _ _ _ => pts_nil)
    (fun _ _ _ _ _ => pe_ifExp (pt_nz (pe_op op_odd (pe_op op_shrNN (pv 0) (pe_op op_subN (pe_op op_subN (pv 1) pe_int) (pv 2))) pe_int) (fun _ => rfl)) pe_str pe_str)))), ?_⟩
  refine ⟨⟨_, rfl⟩, _, rfl, d, rfl, by omega, by omega, fun D hD => ?_⟩
  refine lc_range (lo := 0) (n := d) (Acc D H fun i => (List.range i).map fun k => V.str ⟨#[sgn d n k]⟩) (.start hD rfl) ?_ ?_
  · rintro i H2 hi p
    refine ⟨rfl, ?_⟩
    refine ⟨_, rfl, _, rfl, d, 1, rfl, rfl, by omega, _, rfl, d - 1, i, rfl, by rw [Int.zero_add], by omega, n, d - 1 - i, rfl, rfl, _, rfl, rfl, _, rfl, ?_⟩
    have e := sgn_str (d := d) (n := n) (k := i)
    refine ite2 (fun c => ?_) (fun c => ?_)
    · rw [if_pos c] at e
      exact p.push hD (Same.refl _) (by simp; omega) (by rw [List.range_succ, List.map_append, ← e]; rfl)
    · rw [if_neg c] at e
      exact p.push hD (Same.refl _) (by simp; omega) (by rw [List.range_succ, List.map_append, ← e]; rfl)
  · rintro H2 p
    refine ⟨_, D, (List.range d).map fun k => (⟨#[sgn d n k]⟩ : Str), rfl, rfl, .inl (SqL.of (by rw [List.map_map]; exact p.at_)), ?_, ?_⟩
    · have hs : (((List.range d).map fun k => (⟨#[sgn d n k]⟩ : Str)).map (·.length)).sum = d := by
        rw [List.map_map]
        exact ones d
      rw [hs]
      show d + _ * 0 ≤ _
      omega
    · rw [join_bits]
      exact q H2 p.same
theorem scRows : FnScope ["_law_span", "_law_depth", "_law_more", "_law_k"] ["_law_span", "_law_depth"] (defScope sRows) := ⟨rfl, rfl, rfl, by decide +kernel, rfl, by decide +kernel, by decide +kernel⟩
theorem ok_rows (F : Fun K "_law_rows" "_law_rows" sRows f fd) (T : Tx mg) : FnOk P w K mg base CX0 1 f fd ["_law_span", "_law_depth"] spRows := by
  refine F.ok scRows (fun vs H Q E h => ?_) (fun cdv A outer s H vs Q E hr h => ?_)
  · obtain ⟨t, l, wd, d, deep, rfl, _⟩ := h
    rfl
  obtain ⟨t, l, wd, d, deep, rfl, ht, h1, h2, h3, q⟩ := h
  refine ⟨_, pss_cons (ps_set (i := 2) scRows.nd rfl (.inl rfl) (pe_op op_subN (pv 1) (pe_ix ix_tup (pv 0) pe_int (fun _ _ => rfl))))
    (pss_one (ps_ret (pe_lc (own := [("_law_k", 3)]) (g := gName 3) (tt := tYes) rfl scRows.nd (pi_range2 rfl T.range (pa_cons (pe_op op_shlNN (pe_ix ix_tup (pv 0) pe_int (fun _ _ => rfl)) (pv 2))
      (pa_cons (pe_op op_shlNN (pe_op op_addN (pe_ix ix_tup (pv 0) pe_int (fun _ _ => rfl)) (pe_ix ix_tup (pv 0) pe_int (fun _ _ => rfl))) (pv 2)) pa_nil)))
    (blkOk_by (N := ["_law_span", "_law_depth", "_law_more", "_law_k"]) (sc := defScope sRows) (by decide +kernel)) (fun _ _ _ _ _ => pg_name (i := 3) scRows.nd rfl (Or.inl rfl)) (fun _ _ _ _ _ => pts_nil)
    (fun _ _ _ _ _ => pv 3)))), ?_⟩
  have i0 : atI [N l, N wd, N d] (0 : Int) = some (N l) := atI_nat (j := 0) rfl
  have i1 : atI [N l, N wd, N d] (1 : Int) = some (N wd) := atI_nat (j := 1) rfl
  have i2 : atI [N l, N wd, N d] (2 : Int) = some (N d) := atI_nat (j := 2) rfl
  have b64 : 2 ^ d * 2 ^ (deep - d) ≤ 64 := by rw [← Nat.pow_add, Nat.add_sub_cancel' h1]; exact Nat.pow_le_pow_right (n := 2) (by decide) h2
  have bl : l * 2 ^ (deep - d) + wd * 2 ^ (deep - d) ≤ 64 := by rw [← Nat.add_mul]; exact Nat.le_trans (Nat.mul_le_mul_right _ h3) b64
  have bd : 2 ^ d ≤ 64 := Nat.pow_le_pow_right (n := 2) (by decide) (show d ≤ 6 by omega)
  refine ⟨_, rfl, _, rfl, t, _, _, _, rfl, rfl, SqT.of ht, i2, deep, d, rfl, rfl, h1, ?_⟩
  refine ⟨_, rfl, t, _, _, _, rfl, rfl, SqT.of ht, i0, _, rfl, l, deep - d, rfl, rfl, ⟨by omega, by omega⟩, ?_⟩
  refine ⟨_, rfl, t, _, _, _, rfl, rfl, SqT.of ht, i0, _, rfl, t, _, _, _, rfl, rfl, SqT.of ht, i1, l, wd, rfl, rfl, _, rfl, l + wd, deep - d, rfl, rfl, ⟨by omega, by omega⟩, ?_⟩
  rw [Nat.add_mul]
  generalize l * 2 ^ (deep - d) = lo at q bl ⊢
  generalize wd * 2 ^ (deep - d) = n at q bl ⊢
  refine ⟨lo, (lo + n : Nat), rfl, ⟨by omega, by omega, by omega, by omega⟩, fun D hD => ?_⟩
  rw [show (((lo + n : Nat) : Int) - (lo : Int)).toNat = n by omega]
  refine lc_range (lo := (lo : Int)) (n := n) (Acc D H fun i => (List.range' lo i).map N) (.start hD rfl) ?_ ?_
  · rintro i H2 hi p
    refine ⟨rfl, ?_⟩
    refine ⟨_, rfl, p.push hD (Same.refl _) (by simp; omega) ?_⟩
    rw [List.range'_concat, List.map_append, Nat.one_mul]
    rfl
  · rintro H2 p
    exact q H2 D p.same hD p.at_
theorem scWords : FnScope ["_law_length", "_law_k"] ["_law_length"] (defScope sWords) := ⟨rfl, rfl, rfl, by decide +kernel, rfl, by decide +kernel, by decide +kernel⟩
theorem ok_words (F : Fun K "_law_words" "_law_words" sWords f fd) (T : Tx mg) (c1 : Cl P w K mg base 1 "_law_bits" ["_law_number", "_law_depth"] spLB) : FnOk P w K mg base CX0 2 f fd ["_law_length"] spWords := by
  refine F.ok scWords (fun vs H Q E h => ?_) (fun cdv A outer s H vs Q E hr h => ?_)
  · obtain ⟨L, rfl, _⟩ := h
    rfl
  obtain ⟨L, rfl, h1, q⟩ := h
  refine ⟨_, pss_one (ps_ret (pe_lc (own := [("_law_k", 1)]) (g := gName 1) (tt := tYes) rfl scWords.nd (pi_range1 rfl T.range (pa_cons (pe_op op_shlNN pe_int (pv 0)) pa_nil))
    (blkOk_by (N := ["_law_length", "_law_k"]) (sc := defScope sWords) (by decide +kernel)) (fun _ _ _ _ _ => pg_name (i := 1) scWords.nd rfl (Or.inl rfl)) (fun _ _ _ _ _ => pts_nil)
    (fun _ _ _ _ _ => pe_cl c1 hr (by rfl) (pa_cons (pv 1) (pa_cons (pv 0) pa_nil))))), ?_⟩
  have b64 : 2 ^ L ≤ 64 := Nat.pow_le_pow_right (n := 2) (by decide) h1
  refine ⟨_, rfl, 1, L, rfl, rfl, ⟨by decide, by omega⟩, ?_⟩
  rw [Nat.one_mul]
  generalize 2 ^ L = n at q b64 ⊢
  refine ⟨n, rfl, by omega, by omega, fun D hD => ?_⟩
  refine lc_range (lo := 0) (n := n) (Acc D H fun i => (List.range i).map fun k => B L k) (.start hD rfl) ?_ ?_
  · rintro i H2 hi p
    refine ⟨rfl, ?_⟩
    refine ⟨_, rfl, _, rfl, i, L, by rw [Int.zero_add]; rfl, h1, fun H3 s3 => ?_⟩
    exact p.push hD s3 (by simp; omega) (by rw [List.range_succ, List.map_append]; rfl)
  · rintro H2 p
    exact q H2 D p.same hD p.at_
end
end Bz
end PartD9
section PartD10
set_option maxRecDepth 100000
set_option maxHeartbeats 4000000
namespace Bz
open PySem PySem.Spec PyProof.Rows L2

theorem few_leaf {d : Nat} {ks : List Nat} (h : ks.length = 2 ^ d ∨ ks = []) : Bp.fewest d ks = if ks = [] then 0 else 1 := by
  cases d with
  | zero => rfl
  | succ n => rw [Bp.fewest, if_pos h]
theorem few_node {n : Nat} {ks : List Nat} (h : ¬ (ks.length = 2 ^ (n + 1) ∨ ks = [])) :
    Bp.fewest (n + 1) ks = Bp.fewest n (ks.filter fun k => decide (k < 2 ^ n)) + Bp.fewest n ((ks.filter fun k => decide (2 ^ n ≤ k)).map fun k => k - 2 ^ n) := by
  rw [Bp.fewest, if_neg h]
theorem few_zero {ks : List Nat} (h : ∀ k ∈ ks, k < 2 ^ 0) (nd : ks.Nodup) : ks.length = 2 ^ 0 ∨ ks = [] := by
  cases ks with
  | nil => exact .inr rfl
  | cons a r =>
    cases r with
    | nil => exact .inl rfl
    | cons b t =>
      have h1 := h a (by simp)
      have h2 := h b (by simp)
      have h3 := (List.nodup_cons.mp nd).1
      exact absurd (show a ∈ b :: t by rw [show a = b by omega]; simp) h3
theorem take_filter {α : Type} {p : α → Bool} {ks : List α} {i : Nat} {k : α} (h : ks[i]? = some k) : (ks.take (i + 1)).filter p = (ks.take i).filter p ++ (if p k = true then [k] else []) := by
  rw [List.take_add_one, h, List.filter_append]
  congr 1
  by_cases e : p k = true
  · rw [if_pos e]; simp [e]
  · rw [if_neg e]; simp [e]
theorem nat_at {ks : List Nat} {i : Nat} {x : V} (h : (ks.map N)[i]? = some x) : ∃ k, ks[i]? = some k ∧ x = N k := by
  rw [List.getElem?_map] at h
  cases e : ks[i]? with
  | none => rw [e] at h; cases h
  | some k => rw [e] at h; exact ⟨k, rfl, (Option.some.inj h).symm⟩
def spFew (m : Nat) : Sp := fun vs H Q _ => ∃ (a : Addr) (ks : List Nat) (d : Nat), vs = [.ref a, N d] ∧ H a = some (.lst (ks.map N)) ∧ d ≤ m ∧ m ≤ 6 ∧ (∀ k ∈ ks, k < 2 ^ d) ∧ ks.Nodup ∧ ks.length ≤ 64 ∧ ∀ H', Same H H' → Q (N (Bp.fewest d ks)) H'
section
variable {P : Program} {w : World} {K : PySem.W.Frag} {mg : Str → Option Value} {base : Heap} {f : Addr} {fd : FuncData}
theorem scFew : FnScope ["_law_known", "_law_depth", "_law_half", "_law_low", "_law_high", "_law_k"] ["_law_known", "_law_depth"] (defScope sFew) := ⟨rfl, rfl, rfl, by decide +kernel, rfl, by decide +kernel, by decide +kernel⟩
theorem ok_few0 (F : Fun K "_law_fewest" "_law_fewest" sFew f fd) (T : Tx mg) : FnOk P w K mg base CX0 1 f fd ["_law_known", "_law_depth"] (spFew 0) := by
  refine F.ok scFew (fun vs H Q E h => ?_) (fun cdv A outer s H vs Q E hr h => ?_)
  · obtain ⟨a, ks, d, rfl, _⟩ := h
    rfl
  obtain ⟨a, ks, d, rfl, ha, hd, hm, hk, nd, h64, q⟩ := h
  refine ⟨_, pss_cons (ps_if (PW.pt (pw_or (pt_cmpR op_eqN (pe_callB call_len_seq (by rfl) T.len PySem.boot_len (pa_cons (pv 0) pa_nil)) (pe_op op_shlNN pe_int (pv 1)) (nomark _)) (pw_or1 (pt_cmpR (op_eqF hr.units) (pv 0) (pe_lst pa_nil) (nomark _)))))
      (pss_one (ps_ret (pe_ifExp (pt_cmpR (op_neF hr.units) (pv 0) (pe_lst pa_nil) (nomark _)) pe_int pe_int))) pss_nil)
    pss_never, ?_⟩
  have b64 : 2 ^ d ≤ 64 := Nat.pow_le_pow_right (n := 2) (by decide) (show d ≤ 6 by omega)
  -- the value at a leaf, behind a list that was made
  have leaf : (ks.length = 2 ^ d ∨ ks = []) → ∀ H1, Same H H1 → ∀ H2 (v : V), Same H1 H2 → v = N (if ks = [] then 0 else 1) → Q v H2 := fun hl H1 s1 H2 v s2 ev => by
    rw [ev, ← few_leaf (d := d) hl]
    exact q H2 (s1.trans s2)
  refine ⟨_, rfl, a, _, rfl, .inl (SqL.of ha), _, rfl, 1, d, rfl, rfl, ⟨by decide, by omega⟩, _, _, rfl, rfl, _, rfl, ?_⟩
  rw [List.length_map, Nat.one_mul]
  refine ite2 (fun c => ?_) (fun c => ?_)
  · have c' : ks.length = 2 ^ d := of_decide_eq_true c
    refine iteT ⟨_, rfl, Nat.zero_le _, fun z nz => ?_⟩
    have sz := same_new nz (.lst [])
    refine ⟨a, z, _, [], rfl, rfl, ⟨.inl ⟨SqL.of (sz _ _ ha), SqL.of upd_same⟩, fl_nats ks, rfl⟩, _, rfl, ?_⟩
    by_cases e0 : ks = []
    · refine Eq.mpr (if_neg (by rw [e0]; decide)) ?_
      exact leaf (.inl c') _ sz _ _ (Same.refl _) (by rw [if_pos e0]; rfl)
    · have e1 : ¬ ks.map N = [] := fun y => e0 (List.map_eq_nil_iff.mp y)
      refine Eq.mpr (if_pos (by rw [decide_eq_false e1]; rfl)) ?_
      exact leaf (.inl c') _ sz _ _ (Same.refl _) (by rw [if_neg e0]; rfl)
  have c1 : ¬ ks.length = 2 ^ d := of_decide_eq_false (Bool.eq_false_iff.mpr c)
  refine ⟨_, rfl, Nat.zero_le _, fun z nz => ?_⟩
  have sz := same_new nz (.lst [])
  refine ⟨a, z, _, [], rfl, rfl, ⟨.inl ⟨SqL.of (sz _ _ ha), SqL.of upd_same⟩, fl_nats ks, rfl⟩, _, rfl, ite2 (fun c2 => ?_) (fun c2 => ?_)⟩
  · have e0 : ks = [] := List.map_eq_nil_iff.mp (of_decide_eq_true c2)
    refine ⟨_, rfl, Nat.zero_le _, fun y ny => ?_⟩
    have sy := same_new ny (.lst [])
    refine ⟨a, y, _, [], rfl, rfl, ⟨.inl ⟨SqL.of (sy _ _ (sz _ _ ha)), SqL.of upd_same⟩, fl_nats ks, rfl⟩, _, rfl, ?_⟩
    refine Eq.mpr (if_neg (by rw [e0]; decide)) ?_
    exact leaf (.inr e0) _ sz _ _ sy (by rw [if_pos e0]; rfl)
  have c2' : ¬ ks = [] := fun e0 => c2 (by rw [e0]; rfl)
  obtain rfl : d = 0 := by omega
  rcases few_zero hk nd with y | y
  · exact absurd y c1
  · exact absurd y c2'
theorem ok_fewS {m : Nat} (F : Fun K "_law_fewest" "_law_fewest" sFew f fd) (T : Tx mg) (C : Cl P w K mg base (m + 1) "_law_fewest" ["_law_known", "_law_depth"] (spFew m)) : FnOk P w K mg base CX0 (m + 2) f fd ["_law_known", "_law_depth"] (spFew (m + 1)) := by
  refine F.ok scFew (fun vs H Q E h => ?_) (fun cdv A outer s H vs Q E hr h => ?_)
  · obtain ⟨a, ks, d, rfl, _⟩ := h
    rfl
  obtain ⟨a, ks, d, rfl, ha, hd, hm, hk, nd, h64, q⟩ := h
  refine ⟨_, pss_cons (ps_if (PW.pt (pw_or (pt_cmpR op_eqN (pe_callB call_len_seq (by rfl) T.len PySem.boot_len (pa_cons (pv 0) pa_nil)) (pe_op op_shlNN pe_int (pv 1)) (nomark _)) (pw_or1 (pt_cmpR (op_eqF hr.units) (pv 0) (pe_lst pa_nil) (nomark _)))))
      (pss_one (ps_ret (pe_ifExp (pt_cmpR (op_neF hr.units) (pv 0) (pe_lst pa_nil) (nomark _)) pe_int pe_int))) pss_nil)
    (pss_cons (ps_set (i := 2) scFew.nd rfl (.inr rfl) (pe_op op_shlNN pe_int (pe_op op_subN (pv 1) pe_int)))
    (pss_cons (ps_par (i := 3) (j := 4) (by rfl) scFew.nd rfl rfl (by decide) rfl rfl (pa_cons
        (pe_lc (own := [("_law_k", 5)]) (g := gName 5) rfl scFew.nd (pi_list (pv 0)) (blkOk_by (N := ["_law_known", "_law_depth", "_law_half", "_law_low", "_law_high", "_law_k"]) (sc := defScope sFew) (by decide +kernel)) (fun _ _ _ _ _ => pg_name (i := 5) scFew.nd rfl (Or.inl rfl))
          (fun _ _ _ _ _ => pts_one (pt_cmpR op_ltN (pv 5) (pv 2) (nomark _))) (fun _ _ _ _ _ => pv 5)) (pa_cons
        (pe_lc (own := [("_law_k", 5)]) (g := gName 5) rfl scFew.nd (pi_list (pv 0)) (blkOk_by (N := ["_law_known", "_law_depth", "_law_half", "_law_low", "_law_high", "_law_k"]) (sc := defScope sFew) (by decide +kernel)) (fun _ _ _ _ _ => pg_name (i := 5) scFew.nd rfl (Or.inl rfl))
          (fun _ _ _ _ _ => pts_one (pt_cmpR op_geN (pv 5) (pv 2) (nomark _))) (fun _ _ _ _ _ => pe_op op_subN (pv 5) (pv 2))) pa_nil)) (by rfl))
    (pss_one (ps_ret (pe_op op_addN (pe_cl C hr (by rfl) (pa_cons (pv 3) (pa_cons (pe_op op_subN (pv 1) pe_int) pa_nil))) (pe_cl C hr (by rfl) (pa_cons (pv 4) (pa_cons (pe_op op_subN (pv 1) pe_int) pa_nil)))))))), ?_⟩
  have b64 : 2 ^ d ≤ 64 := Nat.pow_le_pow_right (n := 2) (by decide) (show d ≤ 6 by omega)
  -- the value at a leaf, behind a list that was made
  have leaf : (ks.length = 2 ^ d ∨ ks = []) → ∀ H1, Same H H1 → ∀ H2 (v : V), Same H1 H2 → v = N (if ks = [] then 0 else 1) → Q v H2 := fun hl H1 s1 H2 v s2 ev => by
    rw [ev, ← few_leaf (d := d) hl]
    exact q H2 (s1.trans s2)
  refine ⟨_, rfl, a, _, rfl, .inl (SqL.of ha), _, rfl, 1, d, rfl, rfl, ⟨by decide, by omega⟩, _, _, rfl, rfl, _, rfl, ?_⟩
  rw [List.length_map, Nat.one_mul]
  refine ite2 (fun c => ?_) (fun c => ?_)
  · have c' : ks.length = 2 ^ d := of_decide_eq_true c
    refine iteT ⟨_, rfl, Nat.zero_le _, fun z nz => ?_⟩
    have sz := same_new nz (.lst [])
    refine ⟨a, z, _, [], rfl, rfl, ⟨.inl ⟨SqL.of (sz _ _ ha), SqL.of upd_same⟩, fl_nats ks, rfl⟩, _, rfl, ?_⟩
    by_cases e0 : ks = []
    · refine Eq.mpr (if_neg (by rw [e0]; decide)) ?_
      exact leaf (.inl c') _ sz _ _ (Same.refl _) (by rw [if_pos e0]; rfl)
    · have e1 : ¬ ks.map N = [] := fun y => e0 (List.map_eq_nil_iff.mp y)
      refine Eq.mpr (if_pos (by rw [decide_eq_false e1]; rfl)) ?_
      exact leaf (.inl c') _ sz _ _ (Same.refl _) (by rw [if_neg e0]; rfl)
  have c1 : ¬ ks.length = 2 ^ d := of_decide_eq_false (Bool.eq_false_iff.mpr c)
  refine ⟨_, rfl, Nat.zero_le _, fun z nz => ?_⟩
  have sz := same_new nz (.lst [])
  refine ⟨a, z, _, [], rfl, rfl, ⟨.inl ⟨SqL.of (sz _ _ ha), SqL.of upd_same⟩, fl_nats ks, rfl⟩, _, rfl, ite2 (fun c2 => ?_) (fun c2 => ?_)⟩
  · have e0 : ks = [] := List.map_eq_nil_iff.mp (of_decide_eq_true c2)
    refine ⟨_, rfl, Nat.zero_le _, fun y ny => ?_⟩
    have sy := same_new ny (.lst [])
    refine ⟨a, y, _, [], rfl, rfl, ⟨.inl ⟨SqL.of (sy _ _ (sz _ _ ha)), SqL.of upd_same⟩, fl_nats ks, rfl⟩, _, rfl, ?_⟩
    refine Eq.mpr (if_neg (by rw [e0]; decide)) ?_
    exact leaf (.inr e0) _ sz _ _ sy (by rw [if_pos e0]; rfl)
  have c2' : ¬ ks = [] := fun e0 => c2 (by rw [e0]; rfl)
  have d0 : d ≠ 0 := fun e0 => by
    subst e0
    rcases few_zero hk nd with y | y
    · exact c1 y
    · exact c2' y
  obtain ⟨n, rfl⟩ : ∃ n, d = n + 1 := ⟨d - 1, by omega⟩
  have a1 : (upd H z (.lst [])) a = some (.lst (ks.map N)) := sz _ _ ha
  generalize upd H z (.lst []) = H1 at sz a1
  -- half = 1 << depth - 1
  refine ⟨_, rfl, n + 1, 1, rfl, rfl, by omega, 1, n + 1 - 1, rfl, rfl, ⟨by decide, by omega⟩, ?_⟩
  rw [Nat.one_mul, Nat.add_sub_cancel]
  -- low
  refine ⟨_, rfl, a, rfl, ⟨_, SqL.of a1⟩, fun D hD => ?_⟩
  refine lc_list (K := K) (a := a) (xs := ks.map N) (Acc D H1 fun i => ((ks.take i).filter fun k => decide (k < 2 ^ n)).map N) (.start hD rfl) (fun i H2 _ p => SqL.of (p.same _ _ a1)) ?_ ?_
  · rintro i x H2 hi p
    obtain ⟨k, hk2, rfl⟩ := nat_at hi
    have e := take_filter (p := fun k => decide (k < 2 ^ n)) hk2
    have hlen : (((ks.take i).filter fun k => decide (k < 2 ^ n)).map N).length ≤ 100 := by
      rw [List.length_map]
      have z1 := List.length_filter_le (fun k => decide (k < 2 ^ n)) (ks.take i)
      have z2 := List.length_take_le i ks
      have z3 := List.length_take_le' i ks
      omega
    refine ⟨rfl, _, rfl, _, rfl, k, 2 ^ n, rfl, rfl, _, rfl, ite2 (fun c3 => ?_) (fun c3 => ?_)⟩
    · rw [if_pos c3] at e
      exact ⟨_, rfl, p.push hD (Same.refl _) hlen (by rw [e, List.map_append]; rfl)⟩
    · rw [if_neg c3, List.append_nil] at e
      exact p.skip (Same.refl _) (by rw [e])
  rintro H2 p2
  have s2 := p2.same
  have l2 := p2.at_
  rw [List.length_map, List.take_length] at l2
  -- high
  refine ⟨_, rfl, a, rfl, ⟨_, SqL.of (s2 _ _ a1)⟩, fun D2 hD2 => ?_⟩
  refine lc_list (K := K) (a := a) (xs := ks.map N) (Acc D2 H2 fun i => (((ks.take i).filter fun k => decide (2 ^ n ≤ k)).map fun k => k - 2 ^ n).map N) (.start hD2 rfl) (fun i H3 _ p => SqL.of (p.same _ _ (s2 _ _ a1))) ?_ ?_
  · rintro i x H3 hi p
    obtain ⟨k, hk2, rfl⟩ := nat_at hi
    have e := take_filter (p := fun k => decide (2 ^ n ≤ k)) hk2
    have hlen : ((((ks.take i).filter fun k => decide (2 ^ n ≤ k)).map fun k => k - 2 ^ n).map N).length ≤ 100 := by
      rw [List.length_map, List.length_map]
      have z1 := List.length_filter_le (fun k => decide (2 ^ n ≤ k)) (ks.take i)
      have z3 := List.length_take_le' i ks
      omega
    refine ⟨rfl, _, rfl, _, rfl, k, 2 ^ n, rfl, rfl, _, rfl, ite2 (fun c3 => ?_) (fun c3 => ?_)⟩
    · have c3' : 2 ^ n ≤ k := of_decide_eq_true c3
      rw [if_pos c3] at e
      exact ⟨_, rfl, _, rfl, k, 2 ^ n, rfl, rfl, c3', p.push hD2 (Same.refl _) hlen (by rw [e, List.map_append, List.map_append]; rfl)⟩
    · rw [if_neg c3, List.append_nil] at e
      exact p.skip (Same.refl _) (by rw [e])
  rintro H3 p3
  have s3 := p3.same
  have l3 := p3.at_
  rw [List.length_map, List.take_length] at l3
  refine ⟨_, _, rfl, ?_⟩
  -- the two parts
  refine ⟨_, rfl, _, rfl, n + 1, 1, rfl, rfl, by omega, D, _, n, rfl, s3 _ _ l2, by omega, by omega, fun k hk2 => ?_, nd.filter _, ?_, fun H4 s4 => ?_⟩
  · exact of_decide_eq_true (List.mem_filter.mp hk2).2
  · exact Nat.le_trans (List.length_filter_le _ _) h64
  refine ⟨_, rfl, _, rfl, n + 1, 1, rfl, rfl, by omega, D2, _, n, rfl, s4 _ _ l3, by omega, by omega, fun k hk2 => ?_, ?_, ?_, fun H5 s5 => ?_⟩
  · obtain ⟨k', hk', rfl⟩ := List.mem_map.mp hk2
    obtain ⟨m1, m2⟩ := List.mem_filter.mp hk'
    have := hk k' m1
    rw [Nat.pow_succ] at this
    have m3 : 2 ^ n ≤ k' := of_decide_eq_true m2
    omega
  · refine List.pairwise_map.mpr (List.Pairwise.imp_of_mem (fun {x y} hx hy hne e => ?_) (nd.filter fun k => decide (2 ^ n ≤ k)))
    have x1 : 2 ^ n ≤ x := of_decide_eq_true (List.mem_filter.mp hx).2
    have y1 : 2 ^ n ≤ y := of_decide_eq_true (List.mem_filter.mp hy).2
    exact hne (by omega)
  · rw [List.length_map]
    exact Nat.le_trans (List.length_filter_le _ _) h64
  refine ⟨_, _, rfl, rfl, ?_⟩
  rw [← few_node (fun y => y.elim c1 c2')]
  exact q H5 (sz.trans (s2.trans (s3.trans (s4.trans s5))))
theorem ok_few (F : Fun K "_law_fewest" "_law_fewest" sFew f fd) (T : Tx mg) (hm : mg "_law_fewest" = some (.ref f)) (hb : Binds K fd ["_law_known", "_law_depth"] []) : ∀ m, FnOk P w K mg base CX0 (m + 1) f fd ["_law_known", "_law_depth"] (spFew m)
  | 0 => ok_few0 F T
  | m + 1 => ok_fewS F T ⟨f, fd, ok_few F T hm hb m, hm, F.kp, hb⟩
end
end Bz
end PartD10
section PartMath2
/-! Bitspans k09: the plain law: what the law compares is equal, for every span of a depth up to five. -/
namespace Bp
theorem made_ok {l w d : Nat} (hd : d ≤ 5) (hw : 1 ≤ w) (hl : l + w ≤ 2 ^ d) : madeN l w d = known l w := eq_of_beq (of_allDom made_chk hd hw hl)
theorem few_ok {l w d : Nat} (hd : d ≤ 5) (hw : 1 ≤ w) (hl : l + w ≤ 2 ^ d) : fewest (d + 1) (known l w) = (blks l w d).length := eq_of_beq (of_allDom few_chk hd hw hl)
/-- numbers in order, bits in order -/
theorem lex_chk : (allLt 7 fun D => allLt (2 ^ D) fun b => allLt (b + 1) fun a => decide (bs D a ≤ bs D b)) = true := by decide +kernel
theorem lex_ok {D a b : Nat} (hD : D ≤ 6) (hb : b < 2 ^ D) (h : a ≤ b) : bs D a ≤ bs D b :=
  of_decide_eq_true (of_allLt (of_allLt (of_allLt lex_chk (k := D) (by omega)) hb) (k := a) (by omega))
/-- the blocks come ascending; each is a word of its length -/
theorem asc_chk : (allDom 5 fun d l w => decide (((blks l w d).map fun b => bs b.1 b.2).Pairwise fun a b => a ≤ b)) = true := by decide +kernel
theorem asc_ok {l w d : Nat} (hd : d ≤ 5) (hw : 1 ≤ w) (hl : l + w ≤ 2 ^ d) : ((blks l w d).map fun b => bs b.1 b.2).Pairwise fun a b => a ≤ b := of_decide_eq_true (of_allDom asc_chk hd hw hl)
theorem word_chk : (allDom 5 fun d l w => (blks l w d).all fun b => decide (b.1 ≤ d) && decide (b.2 < 2 ^ b.1)) = true := by decide +kernel
theorem word_ok {l w d : Nat} (hd : d ≤ 5) (hw : 1 ≤ w) (hl : l + w ≤ 2 ^ d) {b : Nat × Nat} (hb : b ∈ blks l w d) : b.1 ≤ d ∧ b.2 < 2 ^ b.1 := by
  have h := List.all_eq_true.mp (of_allDom word_chk hd hw hl) b hb
  rw [Bool.and_eq_true] at h
  exact ⟨of_decide_eq_true h.1, of_decide_eq_true h.2⟩
theorem known_mem {l w k : Nat} : k ∈ known l w ↔ 2 * l ≤ k ∧ k < 2 * l + 2 * w := by
  unfold known
  rw [List.mem_range'_1]
theorem known_lt {l w d k : Nat} (hl : l + w ≤ 2 ^ d) (h : k ∈ known l w) : k < 2 ^ (d + 1) := by
  have := known_mem.mp h
  rw [Nat.pow_succ]
  omega
/-- a word is in the span just if all its continuations are -/
theorem due_ok {l w d L j : Nat} (hw : 1 ≤ w) (hl : l + w ≤ 2 ^ d) (hL : L ≤ d + 1) (hj : j < 2 ^ L) :
    decide (((List.range (2 ^ (d + 1))).filter fun k => k / 2 ^ (d + 1 - L) == j && !decide (k ∈ known l w)) = []) = hasM l w d L j := by
  have key : (((List.range (2 ^ (d + 1))).filter fun k => k / 2 ^ (d + 1 - L) == j && !decide (k ∈ known l w)) = []) ↔ (2 * l ≤ j * 2 ^ (d + 1 - L) ∧ (j + 1) * 2 ^ (d + 1 - L) ≤ 2 * l + 2 * w) := by
    have p0 : 0 < 2 ^ (d + 1 - L) := Nat.two_pow_pos _
    have e1 : 2 ^ (d + 1) = 2 ^ L * 2 ^ (d + 1 - L) := by rw [← Nat.pow_add, Nat.add_sub_cancel' hL]
    have e2 : (j + 1) * 2 ^ (d + 1 - L) ≤ 2 ^ (d + 1) := by rw [e1]; exact Nat.mul_le_mul_right _ hj
    rw [List.filter_eq_nil_iff]
    generalize 2 ^ (d + 1 - L) = m at p0 e2
    constructor
    · intro h
      have all : ∀ k, j * m ≤ k → k < (j + 1) * m → k ∈ known l w := fun k h1 h2 => by
        have q := h k (List.mem_range.mpr (by omega))
        have ek : k / m = j := by rw [Nat.div_eq_iff p0]; rw [Nat.add_mul] at h2; omega
        simpa [ek] using q
      have a1 := known_mem.mp (all (j * m) (Nat.le_refl _) (by rw [Nat.add_mul]; omega))
      have a2 := known_mem.mp (all ((j + 1) * m - 1) (by rw [Nat.add_mul]; omega) (by rw [Nat.add_mul]; omega))
      omega
    · rintro ⟨h1, h2⟩ k _ h3
      rw [Bool.and_eq_true] at h3
      obtain ⟨h4, h5⟩ := h3
      have h6 : k / m = j := eq_of_beq h4
      rw [Nat.div_eq_iff p0] at h6
      rw [Nat.add_mul] at h2
      have h7 : k ∈ known l w := known_mem.mpr ⟨by omega, by omega⟩
      simp [h7] at h5
  rw [Bool.eq_iff_iff, decide_eq_true_eq, key]
  unfold hasM
  by_cases c : d ≤ L
  · rw [if_pos c, Bool.and_eq_true, decide_eq_true_eq, decide_eq_true_eq]
    rcases Nat.lt_or_ge d L with g | g
    · obtain rfl : L = d + 1 := by omega
      rw [Nat.sub_self, Nat.pow_zero, Nat.mul_one, Nat.mul_one, Nat.add_sub_cancel_left, Nat.pow_one]
      omega
    · obtain rfl : L = d := by omega
      rw [Nat.sub_self, Nat.pow_zero, Nat.div_one, Nat.add_sub_cancel_left, Nat.pow_one]
      omega
  · rw [if_neg c, Bool.and_eq_true, decide_eq_true_eq, decide_eq_true_eq, show d + 1 - L = (d - L) + 1 by omega, Nat.pow_succ]
    generalize 2 ^ (d - L) = m
    rw [← Nat.mul_assoc, ← Nat.mul_assoc, Nat.add_mul]
    omega
/-- how far all rows agree -/
theorem com_chk : (allDom 5 fun d l w => allLt d fun c => ((known l w).all fun k => k / 2 ^ (d - c) == 2 * l / 2 ^ (d - c)) == decide (c < d - opn l w)) = true := by decide +kernel
theorem com_ok {l w d c : Nat} (hd : d ≤ 5) (hw : 1 ≤ w) (hl : l + w ≤ 2 ^ d) (hc : c < d) : ((known l w).all fun k => k / 2 ^ (d - c) == 2 * l / 2 ^ (d - c)) = decide (c < d - opn l w) :=
  eq_of_beq (of_allLt (of_allDom com_chk hd hw hl) hc)
/-- the halves -/
theorem half_chk : (allDom 5 fun d l w => allLt 2 fun a => ((known l w).filter fun k => k / 2 ^ opn l w % 2 == a) ==
    List.range' ((half l w d a).1 * 2 ^ (d + 1 - (half l w d a).2.2)) ((half l w d a).2.1 * 2 ^ (d + 1 - (half l w d a).2.2))) = true := by decide +kernel
theorem half_eq {l w d a : Nat} (hd : d ≤ 5) (hw : 1 ≤ w) (hl : l + w ≤ 2 ^ d) (ha : a < 2) : ((known l w).filter fun k => k / 2 ^ opn l w % 2 == a) =
    List.range' ((half l w d a).1 * 2 ^ (d + 1 - (half l w d a).2.2)) ((half l w d a).2.1 * 2 ^ (d + 1 - (half l w d a).2.2)) := eq_of_beq (of_allLt (of_allDom half_chk hd hw hl) ha)
theorem half_dep {l w d a : Nat} : (half l w d a).2.2 ≤ d + 1 := by
  unfold half side wide
  by_cases h1 : a = 0 <;> by_cases h2 : w = 1 <;> simp [h1, h2]
/-- the share -/
theorem share_chk : (allDom 5 fun d _ w => w / Nat.gcd w (2 ^ d) * 2 ^ (d + 1) == 2 * w * (2 ^ d / Nat.gcd w (2 ^ d))) = true := by decide +kernel
theorem share_ok {l w d : Nat} (hd : d ≤ 5) (hw : 1 ≤ w) (hl : l + w ≤ 2 ^ d) : w / Nat.gcd w (2 ^ d) * 2 ^ (d + 1) = 2 * w * (2 ^ d / Nat.gcd w (2 ^ d)) := eq_of_beq (of_allDom share_chk hd hw hl)
theorem least_dbl (l w d : Nat) : least (2 * l) (2 * w) (d + 1) = least l w d := by
  rw [least, if_pos ⟨by omega, by omega⟩, Nat.mul_div_cancel_left l (by decide), Nat.mul_div_cancel_left w (by decide)]
end Bp
end PartMath2
section PartL0
set_option maxRecDepth 100000
set_option maxHeartbeats 4000000
namespace Bz
open PySem PySem.Spec PyProof.Rows L2

/-! ### methods and properties of a Span -/
structure Mt (P : Program) (w : World) (K : PySem.W.Frag) (mg : Str → Option Value) (base : Heap) (S : Addr) (k : Nat) (m : Str) (ps : List Str) (sp : Sp) : Prop where
  ex : ∃ (f : Addr) (fd : FuncData), FnOk P w K mg base CX0 k f fd ps sp ∧ Binds K fd ps [] ∧ PySem.W.findIn K (.ref S) m = some (some (.ref f)) ∧ PySem.W.isFn K (.ref f) = true ∧ PySem.W.keepIn K (.ref f) = true ∧ PySem.W.fnIn K f = true
structure Pt (P : Program) (w : World) (K : PySem.W.Frag) (mg : Str → Option Value) (base : Heap) (S : Addr) (k : Nat) (m : Str) (sp : Sp) : Prop where
  ex : ∃ (p f : Addr) (fd : FuncData), PropOf K S m p f ∧ FnOk P w K mg base CX0 k f fd ["self"] sp ∧ Binds K fd ["self"] []
section
variable {X : Cx} {S : Addr} {k : Nat} {m : Str} {ps : List Str} {sp : Sp} {o e : Expr} {ta : TE} {apos pos : Pos}
theorem pe_mt0 {pl : Sem Bool} (M : Mt X.prog X.w X.K X.mg X.base S k m ps sp) (T : Sx X.K X.mg S) (hr : Room k X.A) (he : PE X o ta)
    (ht : eval (.Call (.Attribute o m apos) [] [] pos) X.env = (do
      let ov ← eval o X.env
      standAt apos.atName
      let (f, first) ← holding [ov] (getMethod ov m pl)
      callWith pos f first (backTo pos (starEach [] X.env)) (backToKw pos (keywordEach [] X.env))) := by rfl) :
    PE X (.Call (.Attribute o m apos) [] [] pos) (tMeth S m sp [] E0 ta tNil) := by
  obtain ⟨f, fd, F, hb, h1, h2, h3, _⟩ := M.ex
  exact pe_meth0 he T.cl ⟨h1, h2, h3⟩ F hr hb .nil pass0 ht
theorem pe_pt (M : Pt X.prog X.w X.K X.mg X.base S k m sp) (T : Sx X.K X.mg S) (hr : Room (k + 1) X.A) (he : PE X e ta) (hab : attributeBase e m X.env (eval e X.env) = eval e X.env := by rfl) : PE X (.Attribute e m pos) (tProp S sp [] E0 ta) := by
  obtain ⟨p, f, fd, hp, F, hb⟩ := M.ex
  exact pe_prop he T.cl hp F hr hb .nil pass0 hab
theorem op_mtIn (M : Mt X.prog X.w X.K X.mg X.base S k "__contains__" ps sp) (hr : Room k X.A) : OpR X (compareOp .In) (rOwnIn S sp E0) := by
  obtain ⟨f, fd, F, hb, h1, h2, h3, _⟩ := M.ex
  exact op_ownIn F hr h1 h2 hb pass0
theorem pe_mtIx {a b : Expr} {tb : TE} (M : Mt X.prog X.w X.K X.mg X.base S k "__getitem__" ps sp) (hr : Room (k + 1) X.A) (ha : PE X a ta) (hb' : PE X b tb) (hsl : ∀ o i, subscripted b true o i = runValue (.builtin "lifetime.subscript" ⟨[o, i], []⟩)) :
    PE X (.Subscript a b pos) (tOp (rOwnIx S sp E0) ta tb) := by
  obtain ⟨f, fd, F, hb, h1, h2, h3, h4⟩ := M.ex
  exact pe_ownIx F hr h1 h2 h4 hb pass0 ha hb' hsl
theorem call_mtBool (M : Mt X.prog X.w X.K X.mg X.base S k "__bool__" ps sp) (hr : Room (k + 2) X.A) :
    CallR X (.type "bool") (fun xs H Q => ∃ a dx fs, xs = [.ref a] ∧ H a = some (.ins S dx fs) ∧ sp [.ref a] H (fun v H' => ∃ b, v = .bl b ∧ Q (.bl b) H') E0) := by
  obtain ⟨f, fd, F, hb, h1, h2, h3, _⟩ := M.ex
  exact call_ownBool F hr h1 h2 hb pass0
theorem op_mtEq {R : Addr → Addr → Hp → Prop} (M : Mt X.prog X.w X.K X.mg X.base S k "__eq__" ps (spEq R)) (hr : Room k X.A) : OpR X (compareOp .Eq) (rEqG (DIns S R)) := by
  obtain ⟨f, fd, F, hb, h1, h2, h3, _⟩ := M.ex
  exact op_eqG (rcG_ins (E := E0) F h1 h2 hb pass0) hr
theorem op_notInK {K : PySem.W.Frag} (h : X.K = K) : OpR X (compareOp .NotIn) (rIn K true) := by
  subst h
  exact op_notIn_seq
end
end Bz
end PartL0
section PartL2
set_option maxRecDepth 100000
set_option maxHeartbeats 4000000
namespace Bz
open PySem PySem.Spec PyProof.Rows L2
/-! ### texts of bits, told by their numbers -/
theorem dec_tx {a b : List Nat} : decide (V.str (tx a) = V.str (tx b)) = decide (a = b) := decide_eq_decide.mpr ⟨fun h => tx_inj.mp (V.str.inj h), fun h => by rw [h]⟩
theorem pre_test {D L k j : Nat} (hL : L ≤ D) (hk : k < 2 ^ D) (hj : j < 2 ^ L) : decide (V.str (cutS (tx (Bp.bs D k)) none (some (L : Int))) = B L j) = (k / 2 ^ (D - L) == j) := by
  rw [cut_pre hL, dec_tx, Bool.eq_iff_iff, decide_eq_true_eq, beq_iff_eq]
  exact Bp.bs_eq (Bp.div_lt (by rw [Nat.add_sub_cancel' hL]; exact hk)) hj
theorem pre_test' {D k : Nat} {b : Nat × Nat} (hL : b.1 ≤ D) (hk : k < 2 ^ D) (hj : b.2 < 2 ^ b.1) : decide (V.str (cutS (tx (Bp.bs D k)) none (some (((tx (Bp.bs b.1 b.2)).length : Nat) : Int))) = Bt b) = (k / 2 ^ (D - b.1) == b.2) := by
  rw [B_len]
  exact pre_test hL hk hj
theorem flat_B (D : Nat) (ks : List Nat) : (ks.map fun k => B D k).all flatV = true := by simp [flatV]
theorem in_B {D : Nat} {ks : List Nat} {k : Nat} (hk : k < 2 ^ D) (h : ∀ x ∈ ks, x < 2 ^ D) : inV (B D k) (ks.map fun k => B D k) = decide (k ∈ ks) := by
  unfold inV
  rw [Bool.eq_iff_iff, List.any_eq_true, decide_eq_true_eq]
  constructor
  · rintro ⟨v, hv, e⟩
    obtain ⟨x, hx, rfl⟩ := List.mem_map.mp hv
    have e1 : tx (Bp.bs D x) = tx (Bp.bs D k) := by simpa [eqV] using e
    rw [← (Bp.bs_eq (h x hx) hk).mp (tx_inj.mp e1)]
    exact hx
  · intro hk2
    exact ⟨B D k, List.mem_map.mpr ⟨k, hk2, rfl⟩, by simp [eqV]⟩
theorem fl_B {d n : Nat} : fl (B d n) = true := by
  show PyData.strOk (tx (Bp.bs d n)) = true
  unfold PyData.strOk
  rw [← Array.all_toList]
  refine List.all_eq_true.mpr fun c hc => ?_
  have := bs_sign (show c ∈ Bp.bs d n from hc)
  exact decide_eq_true (by omega)
theorem fl_Bs (D : Nat) (ks : List Nat) : (ks.map fun k => B D k).all fl = true := List.all_eq_true.mpr fun v hv => by
  obtain ⟨k, _, rfl⟩ := List.mem_map.mp hv
  exact fl_B
theorem fl_Bts (bs : List (Nat × Nat)) : (bs.map Bt).all fl = true := List.all_eq_true.mpr fun v hv => by
  obtain ⟨k, _, rfl⟩ := List.mem_map.mp hv
  exact fl_B
/-- the words of some numbers, as texts -/
theorem strs_B (D : Nat) (ks : List Nat) : (ks.map fun k => B D k) = (ks.map fun k => tx (Bp.bs D k)).map V.str := by rw [List.map_map]; rfl
theorem strs_Bt (bs : List (Nat × Nat)) : bs.map Bt = (bs.map fun b => tx (Bp.bs b.1 b.2)).map V.str := by rw [List.map_map]; rfl
theorem known_pw {l w d : Nat} (hd : d ≤ 5) (hl : l + w ≤ 2 ^ d) : ((Bp.known l w).map fun k => tx (Bp.bs (d + 1) k)).Pairwise fun a b => a.cps.toList ≤ b.cps.toList := by
  refine List.pairwise_map.mpr ?_
  unfold Bp.known
  refine List.Pairwise.imp_of_mem (fun {a b} ha hb h => ?_) (List.pairwise_le_range' (s := 2 * l) (n := 2 * w) (step := 1))
  exact Bp.lex_ok (by omega) (Bp.known_lt hl hb) h
theorem blks_pw {l w d : Nat} (hd : d ≤ 5) (hw : 1 ≤ w) (hl : l + w ≤ 2 ^ d) : ((Bp.blks l w d).map fun b => tx (Bp.bs b.1 b.2)).Pairwise fun a b => a.cps.toList ≤ b.cps.toList := by
  have h := List.pairwise_map.mp (Bp.asc_ok hd hw hl)
  exact List.pairwise_map.mpr h
/-- how many different ones: one just if all are as the first -/
theorem met_ge : ∀ (r σ : List Str), σ.length ≤ (met σ r).length
  | [], σ => Nat.le_refl _
  | x :: r, σ => by
    show _ ≤ (met (if σ.contains x then σ else σ ++ [x]) r).length
    have := met_ge r (if σ.contains x then σ else σ ++ [x])
    split at this <;> rename_i h
    · rw [if_pos h]; exact this
    · rw [if_neg h]; rw [List.length_append] at this; omega
theorem met_one (x : Str) : ∀ r : List Str, (met [x] r).length = 1 ↔ ∀ y ∈ r, y = x
  | [] => by simp [met]
  | y :: r => by
    show (met (if [x].contains y then [x] else [x] ++ [y]) r).length = 1 ↔ _
    by_cases h : y = x
    · subst h
      rw [if_pos (by simp), met_one y r]
      simp
    · rw [if_neg (by simpa using fun z => h z)]
      constructor
      · intro e
        have := met_ge r ([x] ++ [y])
        rw [e] at this
        simp at this
      · intro e
        exact absurd (e y (by simp)) h
theorem set_one {x : Str} {r : List Str} : (metS (x :: r) (x :: r).length).length = 1 ↔ ∀ y ∈ x :: r, y = x := by
  unfold metS
  rw [List.take_length]
  show (met (if ([] : List Str).contains x then [] else [] ++ [x]) r).length = 1 ↔ _
  rw [if_neg (by simp)]
  show (met [x] r).length = 1 ↔ _
  rw [met_one]
  simp
theorem known_cons {l w : Nat} (hw : 1 ≤ w) : ∃ r, Bp.known l w = 2 * l :: r := by
  unfold Bp.known
  obtain ⟨n, hn⟩ : ∃ n, 2 * w = n + 1 := ⟨2 * w - 1, by omega⟩
  rw [hn, List.range'_succ]
  exact ⟨_, rfl⟩
/-- the prefixes one longer than c agree -/
theorem com_test {l w d c : Nat} (hd : d ≤ 5) (hw : 1 ≤ w) (hl : l + w ≤ 2 ^ d) (hc : c < d) (xs : List Str) (hx : xs = (Bp.known l w).map fun k => cutS (tx (Bp.bs (d + 1) k)) none (some ((c + 1 : Nat) : Int))) :
    decide ((metS xs xs.length).length = 1) = decide (c < d - Bp.opn l w) := by
  rw [← Bp.com_ok hd hw hl hc, Bool.eq_iff_iff, decide_eq_true_eq, List.all_eq_true]
  obtain ⟨r, hr⟩ := known_cons (l := l) hw
  have e : xs = cutS (tx (Bp.bs (d + 1) (2 * l))) none (some ((c + 1 : Nat) : Int)) :: r.map fun k => cutS (tx (Bp.bs (d + 1) k)) none (some ((c + 1 : Nat) : Int)) := by rw [hx, hr]; rfl
  have fit : ∀ k ∈ Bp.known l w, k / 2 ^ (d - c) < 2 ^ (c + 1) := fun k hk => Bp.div_lt (by rw [show c + 1 + (d - c) = d + 1 by omega]; exact Bp.known_lt hl hk)
  have same : ∀ k ∈ Bp.known l w, (cutS (tx (Bp.bs (d + 1) k)) none (some ((c + 1 : Nat) : Int)) = cutS (tx (Bp.bs (d + 1) (2 * l))) none (some ((c + 1 : Nat) : Int)) ↔ k / 2 ^ (d - c) = 2 * l / 2 ^ (d - c)) := fun k hk => by
    rw [cut_pre (by omega), cut_pre (by omega), tx_inj, show d + 1 - (c + 1) = d - c by omega]
    exact Bp.bs_eq (fit k hk) (fit (2 * l) (by rw [hr]; simp))
  rw [e, set_one, ← e, hx]
  constructor
  · intro h k hk
    exact beq_iff_eq.mpr ((same k hk).mp (h _ (List.mem_map.mpr ⟨k, hk, rfl⟩)))
  · rintro h y hy
    obtain ⟨k, hk, rfl⟩ := List.mem_map.mp hy
    exact (same k hk).mpr (beq_iff_eq.mp (h k hk))
/-- one sign -/
theorem cut_one {D k c : Nat} (h : c < D) : cutS (tx (Bp.bs D k)) (some (c : Int)) (some ((c + 1 : Nat) : Int)) = tx [sgn D k c] := by
  unfold cutS
  rw [HT.sIx_nat, HT.sIx_nat, B_len, Nat.min_eq_left (Nat.le_of_lt h), Nat.min_eq_left h, show c.succ - c = 1 by omega, tx_list]
  show tx _ = _
  congr 1
  rw [List.drop_eq_getElem_cons (by rw [Bp.bs_len]; exact h), List.take_succ_cons, List.take_zero]
  have g := bs_get D k c h
  rw [List.getElem?_eq_getElem (by rw [Bp.bs_len]; exact h)] at g
  rw [Option.some.inj g]
  rfl
theorem str_at {a : Nat} (h : a < 2) : (V.str (toString (a : Int)) : V) = V.str (tx [48 + a]) := by
  rcases (show a = 0 ∨ a = 1 by omega) with rfl | rfl <;> decide +kernel
theorem at_test {d k c a : Nat} (hc : c ≤ d) (ha : a < 2) : decide (V.str (cutS (tx (Bp.bs (d + 1) k)) (some (c : Int)) (some ((c + 1 : Nat) : Int))) = V.str (toString (a : Int))) = (k / 2 ^ (d - c) % 2 == a) := by
  rw [cut_one (by omega), str_at ha, dec_tx, Bool.eq_iff_iff, decide_eq_true_eq, beq_iff_eq]
  unfold sgn
  rw [show d + 1 - 1 - c = d - c by omega]
  constructor
  · intro h
    have := (List.cons.inj h).1
    omega
  · intro h
    rw [h]
/-! ### what stands through the law's loops -/
def rowsN (d : Nat) (b : Nat × Nat) : List Nat := (List.range (2 ^ (d + 1))).filter fun k => k / 2 ^ (d + 1 - b.1) == b.2
structure Fx (S kp D bp x : Addr) (l w d : Nat) (H : Hp) : Prop where
  sp : SpanAt S H x l w d
  hk : H kp = some (.lst ((Bp.known l w).map N))
  hw : H D = some (.lst ((Bp.known l w).map fun k => B (d + 1) k))
  hb : H bp = some (.tup ((Bp.blks l w d).map Bt))
theorem Fx.same {S kp D bp x : Addr} {l w d : Nat} {H H' : Hp} (f : Fx S kp D bp x l w d H) (s : Same H H') : Fx S kp D bp x l w d H' := ⟨f.sp.same s, s _ _ f.hk, s _ _ f.hw, s _ _ f.hb⟩
abbrev sg (a p t x kp D bp : Addr) (wd d : Nat) (r : List (Option V)) : L2.St := some (.ref a) :: some (.ref p) :: some (N d) :: some (N wd) :: some (.ref t) :: some (.ref x) :: some (N (d + 1)) :: some (.ref kp) :: some (.ref D) :: some (.ref bp) :: r
theorem map_at {α : Type} {f : α → V} {ks : List α} {i : Nat} {x : V} (h : (ks.map f)[i]? = some x) : ∃ k, ks[i]? = some k ∧ x = f k := by
  rw [List.getElem?_map] at h
  cases e : ks[i]? with
  | none => rw [e] at h; cases h
  | some k => rw [e] at h; exact ⟨k, rfl, (Option.some.inj h).symm⟩
/-- a part of the words of a length is short -/
theorem lenw {d : Nat} (h : d ≤ 5) (i : Nat) (p : Nat → Bool) {f : Nat → V} : ((((List.range (2 ^ (d + 1))).take i).filter p).map f).length ≤ 100 := by
  rw [List.length_map]
  have z1 := List.length_filter_le p ((List.range (2 ^ (d + 1))).take i)
  have z2 := List.length_take_le' i (List.range (2 ^ (d + 1)))
  have z3 : 2 ^ (d + 1) ≤ 64 := Nat.pow_le_pow_right (n := 2) (by decide) (show d + 1 ≤ 6 by omega)
  rw [List.length_range] at z2
  omega
theorem while_fin {c : TT} {tb : TS} {D : Ends} {σ : L2.St} {H : Hp} (Fin : L2.St → Hp → Prop) (hd : ∀ σ H, Fin σ H → D.nx σ H) (h : ∀ D' : Ends, (∀ σ H, Fin σ H → D'.nx σ H) → tWhile c tb D' σ H) : tWhile c tb D σ H := h D hd
end Bz
end PartL2
section PartL3
set_option maxRecDepth 100000
set_option maxHeartbeats 8000000
namespace Bz
open PySem PySem.Spec PyProof.Rows L2
abbrev lawN : List Str := ["_law_script", "_law_source_here", "_law_depth", "_law_width", "_law_span", "_law_held", "_law_deep", "_law_known", "_law_words_here", "_law_blocks", "_law_made", "_law_word", "_law_length", "_law_due", "_law_common", "_law_at", "_law_half", "_law_share", "_law_twice", "_law_k", "_law_one"]
def spLaw (K : PySem.W.Frag) : Sp := fun vs H Q _ => ∃ (a : Addr) (ns : List Int), vs = [.ref a] ∧ SqL K H a (ns.map V.int) ∧ ns.length ≤ 63 ∧ ∀ H', Q (.bl true) H'
section
variable {P : Program} {w : World} {K : PySem.W.Frag} {mg : Str → Option Value} {base : Heap} {f S : Addr} {fd : FuncData}
theorem scLaw : FnScope lawN ["_law_script"] (defScope sLaw) := ⟨rfl, rfl, rfl, by decide +kernel, rfl, by decide +kernel, by decide +kernel⟩
theorem ok_law (F : Fun K "law" "law" sLaw f fd) (T : Tx mg) (X : Sx K mg S) (M : Ms P w K mg base S)
    (cSrc : Cl P w K mg base 1 "_law_source" ["_law_script"] (spSrc K)) (cDraw : Cl P w K mg base 1 "_law_draw" ["_law_source_here", "_law_size"] spDraw) (cRows : Cl P w K mg base 1 "_law_rows" ["_law_span", "_law_depth"] spRows)
    (cBits : Cl P w K mg base 1 "_law_bits" ["_law_number", "_law_depth"] spLB) (cWords : Cl P w K mg base 2 "_law_words" ["_law_length"] spWords) (cFew : Cl P w K mg base 7 "_law_fewest" ["_law_known", "_law_depth"] (spFew 6))
    (mBlocks : Mt P w K mg base S 1 "blocks" ["self"] (spBlocks S)) (mHas : Mt P w K mg base S 3 "__contains__" ["self", "thing"] (spIn S)) (mGet : Mt P w K mg base S 7 "__getitem__" ["self", "at"] (spGet S))
    (mBool : Mt P w K mg base S 2 "__bool__" ["self"] (spBool S)) (mEq : Mt P w K mg base S 1 "__eq__" ["self", "other"] (spEq (EqR S))) (mDbl : Mt P w K mg base S 7 "doubled" ["self"] (spDbl S))
    (mLow : Pt P w K mg base S 1 "low" (spPos S fun l _ _ => l)) (mWidth : Pt P w K mg base S 1 "width" (spPos S fun _ w _ => w)) (mDepth : Pt P w K mg base S 1 "depth" (spPos S fun _ _ d => d))
    (mSure : Pt P w K mg base S 3 "sure" (spSureP S)) (mShare : Pt P w K mg base S 2 "share" (spShare S)) : FnOk P w K mg base CX0 9 f fd ["_law_script"] (spLaw K) := by
  have nd := scLaw.nd
  refine F.ok scLaw (fun vs H Q E h => ?_) (fun cdv A outer s H vs Q E hr h => ?_)
  · obtain ⟨a, ns, rfl, _⟩ := h
    rfl
  obtain ⟨a, ns, rfl, hs, hn, q⟩ := h
  refine ⟨_, pss_cons (ps_set (i := 1) nd rfl (.inl rfl) (pe_cl cSrc (hr.mono (by decide)) (by rfl) (pa_cons (pv 0) pa_nil)))
    (pss_cons (ps_set (i := 2) nd rfl (.inl rfl) (pe_cl cDraw (hr.mono (by decide)) (by rfl) (pa_cons (pv 1) (pa_cons pe_int pa_nil))))
    (pss_cons (ps_set (i := 3) nd rfl (.inl rfl) (pe_op op_addN pe_int (pe_cl cDraw (hr.mono (by decide)) (by rfl) (pa_cons (pv 1) (pa_cons (pe_op op_shlNN pe_int (pv 2)) pa_nil)))))
    (pss_cons (ps_set (i := 4) nd rfl (.inl rfl) (pe_tup (pa_cons (pe_cl cDraw (hr.mono (by decide)) (by rfl) (pa_cons (pv 1) (pa_cons (pe_op op_addN (pe_op op_subN (pe_op op_shlNN pe_int (pv 2)) (pv 3)) pe_int) pa_nil))) (pa_cons (pv 3) (pa_cons (pv 2) pa_nil)))))
    (pss_cons (ps_asg (pe_tup (pa_cons (pe_mk M X (hr.mono (by decide)) (by rfl) (pa_cons (pe_ix ix_tup (pv 4) pe_int (fun _ _ => rfl)) (pa_cons (pe_ix ix_tup (pv 4) pe_int (fun _ _ => rfl)) (pa_cons (pe_ix ix_tup (pv 4) pe_int (fun _ _ => rfl)) pa_nil)))) (pa_cons (pe_op op_addN (pv 2) pe_int) pa_nil))) (pg_tup rfl (pgs_cons (pg_name (i := 5) nd rfl (.inl rfl)) (pgs_cons (pg_name (i := 6) nd rfl (.inr rfl)) pgs_nil))))
    (pss_cons (ps_set (i := 7) nd rfl (.inl rfl) (pe_cl cRows (hr.mono (by decide)) (by rfl) (pa_cons (pv 4) (pa_cons (pv 6) pa_nil))))
    (pss_cons (ps_asg (pe_tup (pa_cons (pe_lc (own := [("_law_k", 19)]) (g := gName 19) rfl nd (pi_list (pv 7)) (blkOk_by (N := lawN) (sc := defScope sLaw) (by decide +kernel)) (fun _ _ _ _ _ => pg_name (i := 19) nd rfl (Or.inl rfl)) (fun _ _ _ _ _ => pts_nil) (fun _ _ _ _ _ => (pe_cl cBits (hr.mono (by decide)) (by rfl) (pa_cons (pv 19) (pa_cons (pv 6) pa_nil))))) (pa_cons (pe_mt0 mBlocks X (hr.mono (by decide)) (pv 5)) pa_nil))) (pg_tup rfl (pgs_cons (pg_name (i := 8) nd rfl (.inr rfl)) (pgs_cons (pg_name (i := 9) nd rfl (.inl rfl)) pgs_nil))))
    (pss_cons (ps_set (i := 10) nd rfl (.inl rfl) (pe_lst pa_nil))
    (pss_cons (ps_for PassesOwn.never rfl (pi_tup (pv 9)) (pg_name (i := 11) nd rfl (.inr rfl)) (pss_one (ps_set (i := 10) nd rfl (.inl rfl) (pe_op op_cat (pv 10) (pe_lc (own := [("_law_one", 20)]) (g := gName 20) rfl nd (pi_list (pe_cl cWords (hr.mono (by decide)) (by rfl) (pa_cons (pv 6) pa_nil))) (blkOk_by (N := lawN) (sc := defScope sLaw) (by decide +kernel)) (fun _ _ _ _ _ => pg_name (i := 20) nd rfl (Or.inl rfl)) (fun _ _ _ _ _ => pts_one (pt_cmpR op_eq (pe_slice sl_str (pv 20) po_none (po_some (pe_callB call_len_str (by rfl) T.len (by decide +kernel) (pa_cons (pv 11) pa_nil)))) (pv 11) (nomark _))) (fun _ _ _ _ _ => (pv 20)))))))
    (pss_cons (ps_if (PW.pt (pw_or (pt_cmpR (op_neF hr.units) (pe_callB cr_sortTx (by rfl) T.sorted (by decide +kernel) (pa_cons (pv 10) pa_nil)) (pv 8) (nomark _)) (pw_or (pt_cmpR op_neN (pe_callB call_len_seq (by rfl) T.len (by decide +kernel) (pa_cons (pv 9) pa_nil)) (pe_cl cFew (hr.mono (by decide)) (by rfl) (pa_cons (pv 7) (pa_cons (pv 6) pa_nil))) (nomark _)) (pw_or1 (pt_cmpR (op_neF hr.units) (pe_callTy call_list_of (by rfl) T.list (by decide +kernel) (pa_cons (pv 9) pa_nil)) (pe_callB cr_sortTx (by rfl) T.sorted (by decide +kernel) (pa_cons (pv 9) pa_nil)) (nomark _)))))) (pss_one (ps_ret pe_bl)) pss_nil)
    (pss_cons (ps_for PassesOwn.never rfl (pi_range1 rfl T.range (pa_cons (pe_op op_addN (pe_callB (call_min2 rfl) (by rfl) T.min (by decide +kernel) (pa_cons (pv 6) (pa_cons pe_int pa_nil))) pe_int) pa_nil)) (pg_name (i := 12) nd rfl (.inr rfl)) (pss_one (ps_for PassesOwn.never rfl (pi_list (pe_cl cWords (hr.mono (by decide)) (by rfl) (pa_cons (pv 12) pa_nil))) (pg_name (i := 11) nd rfl (.inr rfl)) (pss_cons (ps_set (i := 13) nd rfl (.inl rfl) (pe_cmpR (op_eqF hr.units) (pe_lc (own := [("_law_one", 20)]) (g := gName 20) rfl nd (pi_list (pe_cl cWords (hr.mono (by decide)) (by rfl) (pa_cons (pv 6) pa_nil))) (blkOk_by (N := lawN) (sc := defScope sLaw) (by decide +kernel)) (fun _ _ _ _ _ => pg_name (i := 20) nd rfl (Or.inl rfl)) (fun _ _ _ _ _ => pts_one (PW.pt (pw_and (pt_cmpR op_eq (pe_slice sl_str (pv 20) po_none (po_some (pv 12))) (pv 11) (nomark _)) (pw_and1 (pt_cmpR (op_notInK (K := K) rfl) (pv 20) (pv 8) rfl))))) (fun _ _ _ _ _ => (pv 20))) (pe_lst pa_nil) (nomark _)))
    (pss_one (ps_if (pt_cmpR op_ne (pe_callB call_repr_bl (by rfl) T.repr (by decide +kernel) (pa_cons (pe_cmpR (op_mtIn mHas (hr.mono (by decide))) (pv 11) (pv 5) rfl) pa_nil)) (pe_callB call_repr_bl (by rfl) T.repr (by decide +kernel) (pa_cons (pv 13) pa_nil)) (nomark _)) (pss_one (ps_ret pe_bl)) pss_nil))))))
    (pss_cons (ps_set (i := 14) nd rfl (.inr rfl) pe_int)
    (pss_cons (ps_while PassesOwn.never (PW.pt (pw_and (pt_cmpR op_ltN (pv 14) (pv 2) (nomark _)) (pw_and1 (pt_cmpR op_eqN (pe_setLen rfl (by rfl) T.len (by rfl) T.set (pe_lc (own := [("_law_word", 11)]) (g := gName 11) rfl nd (pi_list (pv 8)) (blkOk_by (N := lawN) (sc := defScope sLaw) (by decide +kernel)) (fun _ _ _ _ _ => pg_name (i := 11) nd rfl (Or.inl rfl)) (fun _ _ _ _ _ => pts_nil) (fun _ _ _ _ _ => (pe_slice sl_str (pv 11) po_none (po_some (pe_op op_addN (pv 14) pe_int)))))) pe_int (nomark _))))) (pss_one (ps_set (i := 14) nd rfl (.inr rfl) (pe_op op_addN (pv 14) pe_int))))
    (pss_cons (ps_if (PW.pt (pw_or (pt_cmpR op_ne (pe_pt mSure X (hr.mono (by decide)) (pv 5)) (pe_slice sl_str (pe_ix ix_list (pv 8) pe_int (fun _ _ => rfl)) po_none (po_some (pv 14))) (nomark _)) (pw_or1 (pt_cmpR op_ne (pe_callB call_repr_bl (by rfl) T.repr (by decide +kernel) (pa_cons (pe_callTy (call_mtBool mBool (hr.mono (by decide))) (by rfl) T.bool (by decide +kernel) (pa_cons (pv 5) pa_nil)) pa_nil)) (pe_callB call_repr_bl (by rfl) T.repr (by decide +kernel) (pa_cons (pe_cmpR op_gtN (pv 14) pe_int (nomark _)) pa_nil)) (nomark _))))) (pss_one (ps_ret pe_bl)) pss_nil)
    (pss_cons (ps_for PassesOwn.never rfl (pi_tup (pe_tup (pa_cons pe_int (pa_cons pe_int pa_nil)))) (pg_name (i := 15) nd rfl (.inr rfl)) (pss_cons (ps_set (i := 16) nd rfl (.inl rfl) (pe_mtIx mGet (hr.mono (by decide)) (pv 5) (pv 15) (fun _ _ => rfl)))
    (pss_cons (ps_setLc (i := 13) (own := [("_law_word", 11)]) (g := gName 11) rfl nd rfl rfl (sw_true rfl rfl rfl (by decide +kernel)) (pi_list (pv 8)) (blkOk_by (N := lawN) (sc := defScope sLaw) (by decide +kernel)) (fun _ _ _ _ _ => pg_name (i := 11) nd rfl (Or.inl rfl)) (fun _ _ _ _ _ => pts_one (pt_cmpR op_eq (pe_slice sl_str (pv 11) (po_some (pv 14)) (po_some (pe_op op_addN (pv 14) pe_int))) (pe_callTy call_str_int (by rfl) T.str (by decide +kernel) (pa_cons (pv 15) pa_nil)) (nomark _))) (fun _ _ _ _ _ => (pv 11)))
    (pss_one (ps_if (pt_cmpR (op_neF hr.units) (pe_lc (own := [("_law_k", 19)]) (g := gName 19) rfl nd (pi_list (pe_cl cRows (hr.mono (by decide)) (by rfl) (pa_cons (pe_tup (pa_cons (pe_pt mLow X (hr.mono (by decide)) (pv 16)) (pa_cons (pe_pt mWidth X (hr.mono (by decide)) (pv 16)) (pa_cons (pe_pt mDepth X (hr.mono (by decide)) (pv 16)) pa_nil)))) (pa_cons (pv 6) pa_nil)))) (blkOk_by (N := lawN) (sc := defScope sLaw) (by decide +kernel)) (fun _ _ _ _ _ => pg_name (i := 19) nd rfl (Or.inl rfl)) (fun _ _ _ _ _ => pts_nil) (fun _ _ _ _ _ => (pe_cl cBits (hr.mono (by decide)) (by rfl) (pa_cons (pv 19) (pa_cons (pv 6) pa_nil))))) (pv 13) (nomark _)) (pss_one (ps_ret pe_bl)) pss_nil)))))
    (pss_cons (ps_par (i := 17) (j := 18) (by rfl) nd rfl rfl (by decide) rfl rfl (pa_cons (pe_pt mShare X (hr.mono (by decide)) (pv 5)) (pa_cons (pe_mt0 mDbl X (hr.mono (by decide)) (pv 5)) pa_nil)) (by rfl))
    (pss_cons (ps_if (PW.pt (pw_or (pt_cmpR op_neN (pe_op op_mulN (pe_ix ix_tup (pv 17) pe_int (fun _ _ => rfl)) (pe_op op_shlNN pe_int (pv 6))) (pe_op op_mulN (pe_callB call_len_seq (by rfl) T.len (by decide +kernel) (pa_cons (pv 7) pa_nil)) (pe_ix ix_tup (pv 17) pe_int (fun _ _ => rfl))) (nomark _)) (pw_or1 (pt_cmpR op_neN (pe_pt mDepth X (hr.mono (by decide)) (pv 18)) (pe_op op_addN (pv 2) pe_int) (nomark _))))) (pss_one (ps_ret pe_bl)) pss_nil)
    (pss_one (ps_ret (pe_and (pe_cmpR (op_eqF hr.units) (pe_cl cRows (hr.mono (by decide)) (by rfl) (pa_cons (pe_tup (pa_cons (pe_pt mLow X (hr.mono (by decide)) (pv 18)) (pa_cons (pe_pt mWidth X (hr.mono (by decide)) (pv 18)) (pa_cons (pe_pt mDepth X (hr.mono (by decide)) (pv 18)) pa_nil)))) (pa_cons (pv 6) pa_nil))) (pv 7) (nomark _)) (pe_one (pe_cmpR op_eq (pe_callB call_repr_bl (by rfl) T.repr (by decide +kernel) (pa_cons (pe_cmpR (op_mtEq mEq (hr.mono (by decide))) (pv 18) (pv 5) (nomark _)) pa_nil)) pe_str (nomark _)))))))))))))))))))))), ?_⟩
  -- the source and its draws
  refine ⟨_, rfl, a, ns, rfl, hs, hn, fun H1 p qd s1 np npq hp hq => ?_⟩
  have src0 : SrcAt H1 p qd ns 0 := ⟨npq, hq, 0, 0, 0, hp, by decide, by decide, by decide⟩
  refine ⟨_, rfl, p, qd, ns, 0, 6, rfl, by decide, by decide, src0, by decide, fun d H2 hd src1 _ => ?_⟩
  have hd5 : d ≤ 5 := by omega
  have b32 : 2 ^ d ≤ 32 := Nat.pow_le_pow_right (n := 2) (by decide) hd5
  have p0 : 0 < 2 ^ d := Nat.two_pow_pos d
  have e1 : 1 * 2 ^ d = 2 ^ d := Nat.one_mul _
  refine ⟨_, rfl, _, rfl, 1, d, rfl, rfl, ⟨by decide, by omega⟩, p, qd, ns, 1, 2 ^ d, by rw [e1]; rfl, by omega, by omega, src1, by decide, fun w0 H3 hw0 src2 _ => ⟨1, w0, rfl, rfl, ?_⟩⟩
  obtain ⟨wd, hwd⟩ : ∃ wd, wd = 1 + w0 := ⟨_, rfl⟩
  rw [← hwd]
  have hw1 : 1 ≤ wd := by omega
  have hw2 : wd ≤ 2 ^ d := by omega
  refine ⟨_, rfl, _, rfl, 1, d, rfl, rfl, ⟨by decide, by omega⟩, _, rfl, 2 ^ d, wd, by rw [e1], rfl, hw2, 2 ^ d - wd, 1, rfl, rfl, p, qd, ns, 2, 2 ^ d - wd + 1, rfl, by omega, by omega, src2, by decide, fun l H4 hl _ _ => ?_⟩
  have hlw : l + wd ≤ 2 ^ d := by omega
  have ok : Sok l wd d := ⟨hw1, hlw, by omega⟩
  refine ⟨_, rfl, _, rfl, by show 3 ≤ sizeLine; decide, fun t nt => ?_⟩
  have ht : (upd H4 t (.tup [N l, N wd, N d])) t = some (.tup [N l, N wd, N d]) := upd_same
  generalize upd H4 t (.tup [N l, N wd, N d]) = H5 at ht
  -- the Span
  refine ⟨_, rfl, t, _, _, _, rfl, rfl, SqT.of ht, atI_nat (j := 0) rfl, _, rfl, t, _, _, _, rfl, rfl, SqT.of ht, atI_nat (j := 1) rfl, _, rfl, t, _, _, _, rfl, rfl, SqT.of ht, atI_nat (j := 2) rfl, fun x dx nx ndx _ => ⟨x, dx, l, wd, d, rfl, upd_same, ok, fun H6 sp6 k6 => ⟨rfl, ?_⟩⟩⟩
  have s6 := Same.made nx ndx k6
  refine ⟨_, rfl, d, 1, rfl, rfl, by show 2 ≤ sizeLine; decide, fun t2 nt2 => ⟨t2, _, rfl, SqT.of upd_same, rfl, _, _, rfl, _, _, rfl, rfl, ?_⟩⟩
  have sp7 := sp6.same (same_new nt2 (.tup [.ref x, N (d + 1)]))
  have ht7 := same_new nt2 (.tup [.ref x, N (d + 1)]) _ _ (s6 _ _ ht)
  generalize upd H6 t2 (.tup [.ref x, N (d + 1)]) = H7 at sp7 ht7
  -- known
  refine ⟨_, rfl, _, rfl, t, l, wd, d, d + 1, rfl, ht7, by omega, by omega, hlw, fun H8 kp s8 nkp hkp => ?_⟩
  have ek : List.range' (l * 2 ^ (d + 1 - d)) (wd * 2 ^ (d + 1 - d)) = Bp.known l wd := by
    rw [Nat.add_sub_cancel_left, Nat.pow_one, Nat.mul_comm l, Nat.mul_comm wd]
    rfl
  rw [ek] at hkp
  have sp8 := sp7.same s8
  -- the rows as words, and the blocks
  have klen : (Bp.known l wd).length ≤ 64 := by unfold Bp.known; rw [List.length_range']; omega
  refine ⟨_, rfl, kp, rfl, ⟨_, SqL.of hkp⟩, fun D hD => ?_⟩
  refine lc_list (K := K) (a := kp) (xs := (Bp.known l wd).map N) (Acc D H8 fun i => ((Bp.known l wd).take i).map fun k => B (d + 1) k) (.start hD rfl) (fun i H9 _ p => SqL.of (p.same _ _ hkp)) ?_ ?_
  · rintro i y H9 hi pa
    obtain ⟨k, hk, rfl⟩ := nat_at hi
    refine ⟨rfl, ?_⟩
    refine ⟨_, rfl, _, rfl, k, d + 1, rfl, by omega, fun H10 s10 => ?_⟩
    refine pa.push hD s10 ?_ ?_
    · rw [List.length_map]
      have z := List.length_take_le' i (Bp.known l wd)
      omega
    · rw [List.take_add_one, hk, List.map_append]
      rfl
  rintro H9 pa9
  have hwp := pa9.at_
  rw [List.length_map, List.take_length] at hwp
  have sp9 := sp8.same pa9.same
  have hkp9 := pa9.same _ _ hkp
  obtain ⟨⟨dx9, c1, c2, c3, hx9, -, -, -⟩, -⟩ := id sp9
  refine ⟨_, rfl, x, dx9, _, rfl, hx9, fs_no _ _ _ (by decide +kernel) (by decide +kernel) (by decide +kernel), x, l, wd, d, rfl, sp9, fun bp hbp => ?_⟩
  refine ⟨by show 2 ≤ sizeLine; decide, fun t3 nt3 => ⟨t3, _, rfl, SqT.of upd_same, rfl, _, _, rfl, _, _, rfl, rfl, ?_⟩⟩
  have s10 := same_new nt3 (.tup [.ref D, .ref bp])
  have sp10 := sp9.same s10
  have hkp10 := s10 _ _ hkp9
  have hwp10 := s10 _ _ hwp
  have hbp10 := s10 _ _ hbp
  generalize upd H9 t3 (.tup [.ref D, .ref bp]) = H10 at sp10 hkp10 hwp10 hbp10
  -- made = []
  refine ⟨Nat.zero_le _, fun m0 nm0 => ?_⟩
  have s11 := same_new nm0 (.lst [])
  have sp11 := sp10.same s11
  have hkp11 := s11 _ _ hkp10
  have hwp11 := s11 _ _ hwp10
  have hbp11 := s11 _ _ hbp10
  have hm11 : (upd H10 m0 (.lst [])) m0 = some (.lst []) := upd_same
  generalize upd H10 m0 (.lst []) = H11 at sp11 hkp11 hwp11 hbp11 hm11
  have fx11 : Fx S kp D bp x l wd d H11 := ⟨sp11, hkp11, hwp11, hbp11⟩
  clear sp11 hkp11 hwp11 hbp11 sp10 hkp10 hwp10 hbp10 sp9 hkp9 hbp hwp sp8 hkp sp7 ht7
  -- the rows that the blocks make
  refine ⟨_, rfl, bp, rfl, ⟨_, SqT.of fx11.hb⟩, ?_⟩
  refine for_tup (K := K) (a := bp) (xs := (Bp.blks l wd d).map Bt) (fun i σ H' => ∃ mp v11, σ = sg a p t x kp D bp wd d [some (.ref mp), v11, none, none, none, none, none, none, none, none, none] ∧ Fx S kp D bp x l wd d H' ∧
    H' mp = some (.lst ((((Bp.blks l wd d).take i).flatMap (rowsN d)).map fun k => B (d + 1) k))) ⟨m0, none, rfl, fx11, hm11⟩ (fun i σ H' _ ⟨_, _, _, fx, _⟩ => SqT.of fx.hb) ?_ ?_
  · rintro i y σ H12 hi ⟨mp, v11, rfl, fx12, hm12⟩
    obtain ⟨b, hb, rfl⟩ := map_at hi
    obtain ⟨bL, bj⟩ := b
    have hbm : (bL, bj) ∈ Bp.blks l wd d := List.mem_of_getElem? hb
    obtain ⟨w1, w2⟩ := Bp.word_ok hd5 hw1 hlw hbm
    refine ⟨_, rfl, _, rfl, d + 1, rfl, by omega, fun H13 wp s13 nwp hwp => ?_⟩
    have fx13 := fx12.same s13
    have hm13 := s13 _ _ hm12
    refine ⟨wp, rfl, ⟨_, SqL.of hwp⟩, fun D2 hD2 => ?_⟩
    refine lc_list (K := K) (a := wp) (xs := (List.range (2 ^ (d + 1))).map fun k => B (d + 1) k) (Acc D2 H13 fun i => (((List.range (2 ^ (d + 1))).take i).filter fun k => k / 2 ^ (d + 1 - bL) == bj).map fun k => B (d + 1) k) (.start hD2 rfl) (fun i H14 _ p => SqL.of (p.same _ _ hwp)) ?_ ?_
    · rintro j y H14 hj pa
      obtain ⟨k, hk, rfl⟩ := map_at hj
      have hk2 : k < 2 ^ (d + 1) := List.mem_range.mp (List.mem_of_getElem? hk)
      have e := take_filter (p := fun k => k / 2 ^ (d + 1 - bL) == bj) hk
      refine ⟨rfl, _, rfl, _, rfl, _, rfl, by rw [B_len]; exact Nat.le_of_lt (line100 (by omega)), _, rfl, _, rfl, by rw [B_len]; exact Nat.le_of_lt (line100 (by omega)), _, rfl, rfl, _, rfl, ?_⟩
      rw [pre_test' (b := (bL, bj)) (by omega) hk2 w2]
      refine ite2 (fun c => ?_) (fun c => ?_)
      · rw [if_pos c] at e
        exact ⟨_, rfl, pa.push hD2 (Same.refl _) (lenw hd5 _ _) (by rw [e, List.map_append]; rfl)⟩
      · rw [if_neg c, List.append_nil] at e
        exact pa.skip (Same.refl _) (by rw [e])
    rintro H14 pa
    have h2 := pa.at_
    rw [List.length_map, List.take_length] at h2
    have fx14 := fx13.same pa.same
    have hm14 := pa.same _ _ hm13
    have hstep : ((Bp.blks l wd d).take (i + 1)).flatMap (rowsN d) = ((Bp.blks l wd d).take i).flatMap (rowsN d) ++ rowsN d (bL, bj) := by rw [List.take_add_one, hb, List.flatMap_append]; simp
    have hbound : (((Bp.blks l wd d).take (i + 1)).flatMap (rowsN d)).length ≤ 64 := by
      have e2 : (Bp.blks l wd d).flatMap (rowsN d) = Bp.known l wd := Bp.made_ok hd5 hw1 hlw
      rw [← List.take_append_drop (i + 1) (Bp.blks l wd d), List.flatMap_append] at e2
      have e3 := congrArg List.length e2
      rw [List.length_append] at e3
      omega
    refine ⟨mp, D2, _, _, rfl, rfl, hm14, h2, ?_, fun m1 nm1 => ⟨m1, _, rfl, fx14.same (same_new nm1 _), ?_⟩⟩
    · rw [List.length_map, List.length_map]
      rw [hstep, List.length_append] at hbound
      exact Nat.le_of_lt (line100 (Nat.le_trans hbound (by decide)))
    · rw [upd_same, hstep, List.map_append]
      rfl
  rintro σ H12 ⟨mp, v11, rfl, fx12, hm12⟩
  rw [List.length_map, List.take_length, show (Bp.blks l wd d).flatMap (rowsN d) = Bp.known l wd from Bp.made_ok hd5 hw1 hlw] at hm12
  -- three tests
  have kt : ∀ k ∈ Bp.known l wd, k < 2 ^ (d + 1) := fun k hk => Bp.known_lt hlw hk
  refine ⟨_, rfl, mp, (Bp.known l wd).map fun k => tx (Bp.bs (d + 1) k), rfl, .inl (SqL.of (by rw [← strs_B]; exact hm12)), fun ys q1 perm hsrt nq1 => ?_⟩
  obtain rfl := sorted_same (known_pw hd5 hlw) perm hsrt
  rw [← strs_B]
  have fx13 := fx12.same (same_new nq1 (.lst ((Bp.known l wd).map fun k => B (d + 1) k)))
  refine ⟨_, rfl, q1, D, _, _, rfl, rfl, ⟨.inl ⟨SqL.of upd_same, SqL.of fx13.hw⟩, fl_Bs _ _, fl_Bs _ _⟩, _, rfl, iteNS rfl ?_⟩
  generalize upd H12 q1 (.lst ((Bp.known l wd).map fun k => B (d + 1) k)) = H13 at fx13
  refine ⟨_, rfl, bp, _, rfl, .inr (SqT.of fx13.hb), _, rfl, _, rfl, kp, Bp.known l wd, d + 1, rfl, fx13.hk, by omega, by decide, kt, List.nodup_range' (s := 2 * l) (n := 2 * wd), klen, fun H14 s14 => ?_⟩
  refine ⟨_, _, rfl, rfl, _, rfl, iteNS (by rw [List.length_map, Bp.few_ok hd5 hw1 hlw]) ?_⟩
  have fx14 := fx13.same s14
  refine ⟨_, rfl, bp, _, rfl, .inr (SqT.of fx14.hb), fun q2 nq2 => ?_⟩
  have fx15 := fx14.same (same_new nq2 (.lst ((Bp.blks l wd d).map Bt)))
  have hq2 : (upd H14 q2 (.lst ((Bp.blks l wd d).map Bt))) q2 = some (.lst ((Bp.blks l wd d).map Bt)) := upd_same
  generalize upd H14 q2 (.lst ((Bp.blks l wd d).map Bt)) = H15 at fx15 hq2
  refine ⟨_, rfl, bp, (Bp.blks l wd d).map fun b => tx (Bp.bs b.1 b.2), rfl, .inr (SqT.of (by rw [← strs_Bt]; exact fx15.hb)), fun ys q3 perm hsrt nq3 => ?_⟩
  obtain rfl := sorted_same (blks_pw hd5 hw1 hlw) perm hsrt
  rw [← strs_Bt]
  have s16 := same_new nq3 (.lst ((Bp.blks l wd d).map Bt))
  have fx16 := fx15.same s16
  refine ⟨q2, q3, _, _, rfl, rfl, ⟨.inl ⟨SqL.of (s16 _ _ hq2), SqL.of upd_same⟩, fl_Bts _, fl_Bts _⟩, _, rfl, iteNS rfl ?_⟩
  clear s16
  generalize upd H15 q3 (.lst ((Bp.blks l wd d).map Bt)) = H16 at fx16
  -- which words are in the span
  have emin : (if (5 : Int) < ((d + 1 : Nat) : Int) then (5 : Int) else ((d + 1 : Nat) : Int)) = ((min (d + 1) 5 : Nat) : Int) := by split <;> omega
  refine ⟨_, rfl, _, _, rfl, min (d + 1) 5, 1, by rw [emin], rfl, _, rfl, by omega, by omega, ?_⟩
  refine for_range (lo := 0) (n := min (d + 1) 5 + 1) (fun _ σ H' => ∃ v11 v12 v13, σ = sg a p t x kp D bp wd d [some (.ref mp), v11, v12, v13, none, none, none, none, none, none, none] ∧ Fx S kp D bp x l wd d H') ⟨_, _, _, rfl, fx16⟩ ?_ ?_
  · rintro L σ H17 hL ⟨v11, v12, v13, rfl, fx17⟩
    rw [Int.zero_add (L : Int)]
    have hL2 : L ≤ d + 1 := by omega
    refine ⟨_, rfl, L, rfl, by omega, fun H18 wp s18 nwp hwp => ⟨wp, rfl, ⟨_, SqL.of hwp⟩, ?_⟩⟩
    refine for_list (K := K) (a := wp) (xs := (List.range (2 ^ L)).map fun k => B L k) (fun _ σ H' => ∃ v11 v13, σ = sg a p t x kp D bp wd d [some (.ref mp), v11, some (N L), v13, none, none, none, none, none, none, none] ∧ Fx S kp D bp x l wd d H' ∧
      H' wp = some (.lst ((List.range (2 ^ L)).map fun k => B L k))) ⟨_, _, rfl, fx17.same s18, hwp⟩ (fun i σ H' _ ⟨_, _, _, _, h⟩ => SqL.of h) ?_ ?_
    · rintro i y σ H19 hi ⟨v11, v13, rfl, fx19, hw19⟩
      obtain ⟨j, hj, rfl⟩ := map_at hi
      have hj2 : j < 2 ^ L := List.mem_range.mp (List.mem_of_getElem? hj)
      refine ⟨_, rfl, d + 1, rfl, by omega, fun H20 wq s20 nwq hwq => ?_⟩
      have fx20 := fx19.same s20
      have hw20 := s20 _ _ hw19
      refine ⟨wq, rfl, ⟨_, SqL.of hwq⟩, fun D2 hD2 => ?_⟩
      refine lc_list (K := K) (a := wq) (xs := (List.range (2 ^ (d + 1))).map fun k => B (d + 1) k) (Acc D2 H20 fun i => (((List.range (2 ^ (d + 1))).take i).filter fun k => k / 2 ^ (d + 1 - L) == j && !decide (k ∈ Bp.known l wd)).map fun k => B (d + 1) k) (.start hD2 rfl) (fun i H14 _ p => SqL.of (p.same _ _ hwq)) ?_ ?_
      · rintro i y H21 hi pa
        obtain ⟨k, hk, rfl⟩ := map_at hi
        have hk2 : k < 2 ^ (d + 1) := List.mem_range.mp (List.mem_of_getElem? hk)
        have e := take_filter (p := fun k => k / 2 ^ (d + 1 - L) == j && !decide (k ∈ Bp.known l wd)) hk
        have fx21 := fx20.same pa.same
        refine ⟨rfl, _, rfl, _, rfl, _, rfl, _, rfl, by rw [B_len]; exact Nat.le_of_lt (line100 (by omega)), _, rfl, rfl, _, rfl, ?_⟩
        rw [pre_test hL2 hk2 hj2]
        refine ite2 (fun c => ?_) (fun c => ?_)
        · refine ⟨_, rfl, _, rfl, D, _, rfl, .inl (SqL.of fx21.hw), rfl, flat_B _ _, _, rfl, ?_⟩
          rw [c, Bool.true_and] at e
          rw [in_B hk2 kt, if_pos (rfl : true = true)]
          refine ite2 (fun c2 => ?_) (fun c2 => ?_)
          · rw [if_pos c2] at e
            exact ⟨_, rfl, pa.push hD2 (Same.refl _) (lenw hd5 _ _) (by rw [e, List.map_append]; rfl)⟩
          · rw [if_neg c2, List.append_nil] at e
            exact pa.skip (Same.refl _) (by rw [e])
        · rw [Bool.eq_false_iff.mpr c, Bool.false_and, if_neg (by decide), List.append_nil] at e
          exact pa.skip (Same.refl _) (by rw [e])
      rintro H21 pa
      have h2 := pa.at_
      rw [List.length_map, List.take_length] at h2
      have fx21 := fx20.same pa.same
      have hw21 := pa.same _ _ hw20
      refine ⟨Nat.zero_le _, fun z nz => ?_⟩
      have sz := same_new nz (.lst [])
      have fx22 := fx21.same sz
      have hw22 := sz _ _ hw21
      refine ⟨D2, z, _, [], rfl, rfl, ⟨.inl ⟨SqL.of (sz _ _ h2), SqL.of upd_same⟩, fl_Bs _ _, rfl⟩, ?_⟩
      clear sz
      generalize upd H21 z (.lst []) = H22 at fx22 hw22
      obtain ⟨⟨dx, c1, c2, c3, hx, -, -, -⟩, -⟩ := id fx22.sp
      refine ⟨_, rfl, _, rfl, x, dx, _, rfl, hx, x, l, wd, d, L, j, rfl, hj2, by omega, fx22.sp, fun H23 s23 => ⟨_, rfl, _, rfl, _, rfl, _, rfl, rfl, _, rfl, iteNS ?_ ?_⟩⟩
      · rw [← Bp.due_ok hw1 hlw hL2 hj2]
        congr 1
        simp only [List.map_eq_nil_iff]
      · exact ⟨_, _, rfl, fx22.same s23, s23 _ _ hw22⟩
    · rintro σ H19 ⟨v11, v13, rfl, fx19, _⟩
      exact ⟨_, _, _, rfl, fx19⟩
  rintro σ H17 ⟨v11, v12, v13, rfl, fx17⟩
  -- how far all rows agree
  obtain ⟨o1, o2, _⟩ := Bp.opn_ok (show d ≤ 6 by omega) hw1 hlw
  refine while_fin (fun σ H' => ∃ v11 v12 v13, σ = sg a p t x kp D bp wd d [some (.ref mp), v11, v12, v13, some (N (d - Bp.opn l wd)), none, none, none, none, none, none] ∧ Fx S kp D bp x l wd d H') ?_ ?_
  rotate_left
  · intro Dn hDn
    refine ⟨fun m σ H' => ∃ c v11 v12 v13, m = d - c ∧ c ≤ d - Bp.opn l wd ∧ σ = sg a p t x kp D bp wd d [some (.ref mp), v11, v12, v13, some (N c), none, none, none, none, none, none] ∧ Fx S kp D bp x l wd d H', ⟨_, 0, _, _, _, rfl, by omega, rfl, fx17⟩, ?_⟩
    rintro _ σ H18 ⟨c, v11, v12, v13, rfl, hc, rfl, fx18⟩
    refine ⟨_, rfl, _, rfl, c, d, rfl, rfl, _, rfl, ite2 (fun c1 => ?_) (fun c1 => ?_)⟩
    · have c1' : c < d := of_decide_eq_true c1
      refine ⟨_, rfl, D, rfl, ⟨_, SqL.of fx18.hw⟩, fun D2 hD2 => ?_⟩
      refine lc_list (K := K) (a := D) (xs := (Bp.known l wd).map fun k => B (d + 1) k) (Acc D2 H18 fun i => ((Bp.known l wd).take i).map fun k => V.str (cutS (tx (Bp.bs (d + 1) k)) none (some ((c + 1 : Nat) : Int)))) (.start hD2 rfl) (fun i H14 _ p => SqL.of (p.same _ _ fx18.hw)) ?_ ?_
      · rintro i y H19 hi pa
        obtain ⟨k, hk, rfl⟩ := map_at hi
        refine ⟨rfl, ?_⟩
        refine ⟨_, rfl, _, rfl, c, 1, rfl, rfl, _, rfl, _, rfl, by rw [B_len]; exact Nat.le_of_lt (line100 (by omega)), ?_⟩
        refine pa.push hD2 (Same.refl _) ?_ ?_
        · rw [List.length_map]
          have z := List.length_take_le' i (Bp.known l wd)
          omega
        · rw [List.take_add_one, hk, List.map_append]
          rfl
      rintro H19 pa
      have h2 := pa.at_
      rw [List.length_map, List.take_length] at h2
      refine ⟨D2, (Bp.known l wd).map fun k => cutS (tx (Bp.bs (d + 1) k)) none (some ((c + 1 : Nat) : Int)), rfl, SqL.of (by rw [List.map_map]; exact h2), by rw [List.length_map]; omega, _, 1, rfl, rfl, _, rfl, ?_⟩
      rw [com_test hd5 hw1 hlw c1' _ rfl]
      refine ite2 (fun c2 => ?_) (fun c2 => ?_)
      · have c2' : c < d - Bp.opn l wd := of_decide_eq_true c2
        refine ⟨fun σ' H' => ∃ v11 v12 v13, σ' = sg a p t x kp D bp wd d [some (.ref mp), v11, v12, v13, some (N (c + 1)), none, none, none, none, none, none] ∧ Fx S kp D bp x l wd d H', ?_, ?_⟩
        · rintro σ' H' ⟨v11, v12, v13, rfl, fx⟩
          exact ⟨d - (c + 1), by omega, c + 1, _, _, _, rfl, by omega, rfl, fx⟩
        · exact ⟨_, rfl, c, 1, rfl, rfl, _, _, _, rfl, fx18.same pa.same⟩
      · have c2' : ¬ c < d - Bp.opn l wd := of_decide_eq_false (Bool.eq_false_iff.mpr c2)
        obtain rfl : c = d - Bp.opn l wd := by omega
        exact hDn _ _ ⟨_, _, _, rfl, fx18.same pa.same⟩
    · have c1' : ¬ c < d := of_decide_eq_false (Bool.eq_false_iff.mpr c1)
      obtain rfl : c = d - Bp.opn l wd := by omega
      exact hDn _ _ ⟨_, _, _, rfl, fx18⟩
  clear v11 v12 v13 fx17 H17
  rintro σ H17 ⟨v11, v12, v13, rfl, fx17⟩
  obtain ⟨c, hc⟩ : ∃ c, c = d - Bp.opn l wd := ⟨_, rfl⟩
  rw [← hc]
  -- sure and bool
  obtain ⟨⟨dx17, c1, c2, c3, hx17, -, -, -⟩, -⟩ := id fx17.sp
  obtain ⟨kr, hkr⟩ := known_cons (l := l) hw1
  have h0 : ((Bp.known l wd).map fun k => B (d + 1) k)[0]? = some (B (d + 1) (2 * l)) := by rw [hkr]; rfl
  refine ⟨_, rfl, x, dx17, _, rfl, hx17, x, l, wd, d, rfl, fx17.sp, ?_⟩
  refine ⟨_, rfl, D, _, _, _, rfl, rfl, SqL.of fx17.hw, atI_nat (j := 0) h0, _, rfl, c, rfl, _, rfl, by rw [B_len]; exact Nat.le_of_lt (line100 (by omega)), rfl, _, rfl, iteNS ?_ ?_⟩
  · rw [cut_pre (by omega), hc]
    show V.str _ = V.str _
    congr 3
    unfold Bp.sureN
    rw [show d + 1 - (d - Bp.opn l wd) = Bp.opn l wd + 1 by omega, Nat.pow_succ, Nat.mul_comm (2 ^ Bp.opn l wd), ← Nat.div_div_eq_div_mul, Nat.mul_div_cancel_left l (by decide)]
  refine ⟨_, rfl, x, dx17, _, rfl, hx17, x, l, wd, d, rfl, fx17.sp, ⟨_, rfl, _, rfl, _, rfl, c, 0, rfl, rfl, _, rfl, rfl, _, rfl, iteNS ?_ ?_⟩⟩
  · have eb : decide (Bp.opn l wd < d) = decide (0 < c) := decide_eq_decide.mpr (by omega)
    rw [eb]
  -- the halves
  refine ⟨by show 2 ≤ sizeLine; decide, fun tp ntp => ?_⟩
  have s18 := same_new ntp (.tup [N 0, N 1])
  have fx18 := fx17.same s18
  have htp : (upd H17 tp (.tup [N 0, N 1])) tp = some (.tup [N 0, N 1]) := upd_same
  refine ⟨tp, rfl, ⟨_, SqT.of htp⟩, ?_⟩
  clear s18
  generalize upd H17 tp (.tup [N 0, N 1]) = H18 at fx18 htp
  refine for_tup (K := K) (a := tp) (xs := [N 0, N 1]) (fun _ σ H' => ∃ v11 v12 v13 v15 v16, σ = sg a p t x kp D bp wd d [some (.ref mp), v11, v12, v13, some (N c), v15, v16, none, none, none, none] ∧ Fx S kp D bp x l wd d H' ∧ H' tp = some (.tup [N 0, N 1]))
    ⟨_, _, _, _, _, rfl, fx18, htp⟩ (fun i σ H' _ ⟨_, _, _, _, _, _, _, h⟩ => SqT.of h) ?_ ?_
  · rintro i y σ H19 hi ⟨v11, v12, v13, v15, v16, rfl, fx19, htp19⟩
    obtain ⟨b, hb2, rfl⟩ : ∃ b : Nat, b < 2 ∧ y = N b := by
      rcases i with _ | _ | i
      · exact ⟨0, by decide, (Option.some.inj hi).symm⟩
      · exact ⟨1, by decide, (Option.some.inj hi).symm⟩
      · cases hi
    obtain ⟨⟨dx19, c1, c2, c3, hx19, -, -, -⟩, -⟩ := id fx19.sp
    refine ⟨_, rfl, _, rfl, x, dx19, _, rfl, hx19, x, b, l, wd, d, rfl, by omega, fx19.sp, hd5, fun H20 h s20 sph => ?_⟩
    have fx20 := fx19.same s20
    have htp20 := s20 _ _ htp19
    refine ⟨_, rfl, D, rfl, ⟨_, SqL.of fx20.hw⟩, fun D2 hD2 => ?_⟩
    refine lc_list (K := K) (a := D) (xs := (Bp.known l wd).map fun k => B (d + 1) k) (Acc D2 H20 fun i => (((Bp.known l wd).take i).filter fun k => k / 2 ^ Bp.opn l wd % 2 == b).map fun k => B (d + 1) k) (.start hD2 rfl) (fun i H14 _ p => SqL.of (p.same _ _ fx20.hw)) ?_ ?_
    · rintro i y H21 hi pa
      obtain ⟨k, hk, rfl⟩ := map_at hi
      have e := take_filter (p := fun k => k / 2 ^ Bp.opn l wd % 2 == b) hk
      have hlen : ((((Bp.known l wd).take i).filter fun k => k / 2 ^ Bp.opn l wd % 2 == b).map fun k => B (d + 1) k).length ≤ 100 := by
        rw [List.length_map]
        have z1 := List.length_filter_le (fun k => k / 2 ^ Bp.opn l wd % 2 == b) ((Bp.known l wd).take i)
        have z3 := List.length_take_le' i (Bp.known l wd)
        omega
      refine ⟨rfl, _, rfl, _, rfl, c, rfl, _, rfl, c, 1, rfl, rfl, _, rfl, _, rfl, by rw [B_len]; exact Nat.le_of_lt (line100 (by omega)), _, rfl, b, rfl, ?_, rfl, _, rfl, ?_⟩
      · rcases (show b = 0 ∨ b = 1 by omega) with rfl | rfl <;> decide
      rw [at_test (by omega) hb2, show d - c = Bp.opn l wd by omega]
      refine ite2 (fun c => ?_) (fun c => ?_)
      · rw [if_pos c] at e
        exact ⟨_, rfl, pa.push hD2 (Same.refl _) hlen (by rw [e, List.map_append]; rfl)⟩
      · rw [if_neg c, List.append_nil] at e
        exact pa.skip (Same.refl _) (by rw [e])
    rintro H21 pa
    have h2 := pa.at_
    rw [List.length_map, List.take_length, Bp.half_eq hd5 hw1 hlw hb2] at h2
    have fx21 := fx20.same pa.same
    have htp21 := pa.same _ _ htp20
    have sph21 := sph.same pa.same
    have hdep : (Bp.half l wd d b).2.2 ≤ d + 1 := Bp.half_dep
    generalize (Bp.half l wd d b).1 = l2 at h2 sph21
    generalize (Bp.half l wd d b).2.1 = w2 at h2 sph21
    generalize (Bp.half l wd d b).2.2 = d2 at h2 sph21 hdep
    have ok2 := sph21.ok
    obtain ⟨⟨dx21, c1, c2, c3, hx21, -, -, -⟩, -⟩ := id sph21
    refine ⟨_, rfl, h, dx21, _, rfl, hx21, h, l2, w2, d2, rfl, sph21, _, rfl, h, dx21, _, rfl, hx21, h, l2, w2, d2, rfl, sph21, _, rfl, h, dx21, _, rfl, hx21, h, l2, w2, d2, rfl, sph21, by show 3 ≤ sizeLine; decide, fun t4 nt4 => ?_⟩
    have s22 := same_new nt4 (.tup [N l2, N w2, N d2])
    have fx22 := fx21.same s22
    have htp22 := s22 _ _ htp21
    have h22 := s22 _ _ h2
    have ht4 : (upd H21 t4 (.tup [N l2, N w2, N d2])) t4 = some (.tup [N l2, N w2, N d2]) := upd_same
    clear s22
    generalize upd H21 t4 (.tup [N l2, N w2, N d2]) = H22 at fx22 htp22 h22 ht4
    refine ⟨_, rfl, t4, l2, w2, d2, d + 1, rfl, ht4, hdep, by omega, ok2.fits, fun H23 rp s23 nrp hrp => ?_⟩
    have fx23 := fx22.same s23
    have htp23 := s23 _ _ htp22
    have h23 := s23 _ _ h22
    have b64 : w2 * 2 ^ (d + 1 - d2) ≤ 64 := by
      have z1 : w2 ≤ 2 ^ d2 := by have := ok2.fits; omega
      have z2 := Nat.mul_le_mul_right (2 ^ (d + 1 - d2)) z1
      rw [← Nat.pow_add, Nat.add_sub_cancel' hdep] at z2
      exact Nat.le_trans z2 (Nat.pow_le_pow_right (n := 2) (by decide) (show d + 1 ≤ 6 by omega))
    refine ⟨rp, rfl, ⟨_, SqL.of hrp⟩, fun D3 hD3 => ?_⟩
    have rl : (List.range' (l2 * 2 ^ (d + 1 - d2)) (w2 * 2 ^ (d + 1 - d2))).length ≤ 64 := by rw [List.length_range']; exact b64
    generalize List.range' (l2 * 2 ^ (d + 1 - d2)) (w2 * 2 ^ (d + 1 - d2)) = rs at h23 hrp rl
    refine lc_list (K := K) (a := rp) (xs := rs.map N) (Acc D3 H23 fun i => (rs.take i).map fun k => B (d + 1) k) (.start hD3 rfl) (fun i H9 _ p => SqL.of (p.same _ _ hrp)) ?_ ?_
    · rintro i y H24 hi pa
      obtain ⟨k, hk, rfl⟩ := nat_at hi
      refine ⟨rfl, ?_⟩
      refine ⟨_, rfl, _, rfl, k, d + 1, rfl, by omega, fun H25 s25 => ?_⟩
      refine pa.push hD3 s25 ?_ ?_
      · rw [List.length_map]
        have z := List.length_take_le' i rs
        omega
      · rw [List.take_add_one, hk, List.map_append]
        rfl
    rintro H24 pa
    have h3 := pa.at_
    rw [List.length_map, List.take_length] at h3
    refine ⟨_, rfl, D3, D2, _, _, rfl, rfl, ⟨.inl ⟨SqL.of h3, SqL.of (pa.same _ _ h23)⟩, fl_Bs _ _, fl_Bs _ _⟩, _, rfl, iteNS rfl ?_⟩
    exact ⟨_, _, _, _, _, rfl, fx23.same pa.same, pa.same _ _ htp23⟩
  clear fx18 htp fx17 hx17
  rintro σ H18 ⟨v11, v12, v13, v15, v16, rfl, fx18, _⟩
  -- the share, and one deeper
  obtain ⟨⟨dx18, c4, c5, c6, hx18, -, -, -⟩, -⟩ := id fx18.sp
  refine ⟨_, rfl, x, dx18, _, rfl, hx18, x, l, wd, d, rfl, fx18.sp, fun qs nqs => ?_⟩
  have s19 := same_new nqs (.tup [N (wd / Nat.gcd wd (2 ^ d)), N (2 ^ d / Nat.gcd wd (2 ^ d))])
  have fx19 := fx18.same s19
  have hx19 := s19 _ _ hx18
  have hqs : (upd H18 qs (.tup [N (wd / Nat.gcd wd (2 ^ d)), N (2 ^ d / Nat.gcd wd (2 ^ d))])) qs = some (.tup [N (wd / Nat.gcd wd (2 ^ d)), N (2 ^ d / Nat.gcd wd (2 ^ d))]) := upd_same
  clear s19
  generalize upd H18 qs (.tup [N (wd / Nat.gcd wd (2 ^ d)), N (2 ^ d / Nat.gcd wd (2 ^ d))]) = H19 at fx19 hx19 hqs
  refine ⟨_, rfl, x, dx18, _, rfl, hx19, fs_no _ _ _ (by decide +kernel) (by decide +kernel) (by decide +kernel), x, l, wd, d, rfl, fx19.sp, hd5, fun H20 y s20 spy => ⟨_, _, rfl, ?_⟩⟩
  have fx20 := fx19.same s20
  have hqs20 := s20 _ _ hqs
  have g1 : 2 ^ (d + 1) ≤ 64 := Nat.pow_le_pow_right (n := 2) (by decide) (show d + 1 ≤ 6 by omega)
  have g2 : wd / Nat.gcd wd (2 ^ d) ≤ 64 := Nat.le_trans (Nat.div_le_self _ _) (by omega)
  have g3 : 2 ^ d / Nat.gcd wd (2 ^ d) ≤ 64 := Nat.le_trans (Nat.div_le_self _ _) (by omega)
  have sh := Bp.share_ok hd5 hw1 hlw
  generalize wd / Nat.gcd wd (2 ^ d) = sm at hqs20 g2 sh
  generalize 2 ^ d / Nat.gcd wd (2 ^ d) = sn at hqs20 g3 sh
  have kl2 : (Bp.known l wd).length = 2 * wd := by unfold Bp.known; rw [List.length_range']
  refine ⟨_, rfl, qs, _, _, _, rfl, rfl, SqT.of hqs20, atI_nat (j := 0) rfl, _, rfl, 1, d + 1, rfl, rfl, ⟨by decide, by omega⟩, sm, 1 * 2 ^ (d + 1), rfl, rfl, by omega, ?_⟩
  refine ⟨_, rfl, kp, _, rfl, .inl (SqL.of fx20.hk), _, rfl, qs, _, _, _, rfl, rfl, SqT.of hqs20, atI_nat (j := 1) rfl, 2 * wd, sn, by rw [List.length_map, kl2], rfl, by omega, ?_⟩
  refine ⟨_, _, rfl, rfl, _, rfl, iteNS (by rw [Nat.one_mul, sh]) ?_⟩
  have ok2 := spy.ok
  obtain ⟨⟨dxy, c7, c8, c9, hy, -, -, -⟩, -⟩ := id spy
  refine ⟨_, rfl, y, dxy, _, rfl, hy, y, 2 * l, 2 * wd, d + 1, rfl, spy, _, rfl, d, 1, rfl, rfl, _, _, rfl, rfl, _, rfl, iteNS rfl ?_⟩
  -- the same rows, and equal
  refine ⟨_, rfl, y, dxy, _, rfl, hy, y, 2 * l, 2 * wd, d + 1, rfl, spy, _, rfl, y, dxy, _, rfl, hy, y, 2 * l, 2 * wd, d + 1, rfl, spy, _, rfl, y, dxy, _, rfl, hy, y, 2 * l, 2 * wd, d + 1, rfl, spy, by show 3 ≤ sizeLine; decide, fun t5 nt5 => ?_⟩
  have s21 := same_new nt5 (.tup [N (2 * l), N (2 * wd), N (d + 1)])
  have fx21 := fx20.same s21
  have spy21 := spy.same s21
  have ht5 : (upd H20 t5 (.tup [N (2 * l), N (2 * wd), N (d + 1)])) t5 = some (.tup [N (2 * l), N (2 * wd), N (d + 1)]) := upd_same
  clear s21
  generalize upd H20 t5 (.tup [N (2 * l), N (2 * wd), N (d + 1)]) = H21 at fx21 spy21 ht5
  refine ⟨_, rfl, t5, 2 * l, 2 * wd, d + 1, d + 1, rfl, ht5, Nat.le_refl _, by omega, ok2.fits, fun H22 r2 s22 nr2 hr2 => ?_⟩
  have fx22 := fx21.same s22
  have spy22 := spy21.same s22
  have er : List.range' (2 * l * 2 ^ (d + 1 - (d + 1))) (2 * wd * 2 ^ (d + 1 - (d + 1))) = Bp.known l wd := by
    rw [Nat.sub_self, Nat.pow_zero, Nat.mul_one, Nat.mul_one]
    rfl
  rw [er] at hr2
  refine ⟨_, rfl, r2, kp, _, _, rfl, rfl, ⟨.inl ⟨SqL.of hr2, SqL.of fx22.hk⟩, fl_nats _, fl_nats _⟩, _, rfl, ?_⟩
  rw [decide_eq_true rfl]
  refine iteT ?_
  obtain ⟨⟨dxz, e7, e8, e9, hy22, -, -, -⟩, -⟩ := id spy22
  obtain ⟨⟨dxw, f7, f8, f9, hx22, -, -, -⟩, -⟩ := id fx22.sp
  refine ⟨_, rfl, _, rfl, ⟨y, x, dxz, dxw, _, _, rfl, rfl, hy22, hx22, 2 * l, 2 * wd, d + 1, l, wd, d, spy22, fx22.sp, Bp.least_dbl l wd d⟩, fun H23 _ => ⟨true, rfl, rfl, ?_⟩⟩
  have fin : ∀ z : Bool, z = true → Q (.bl z) H23 := fun z hz => by rw [hz]; exact q H23
  exact fin _ (decide_eq_true rfl)
end
end Bz
end PartL3
section PartH
set_option maxRecDepth 100000
set_option maxHeartbeats 4000000
namespace Bz
open PySem PySem.Spec PyProof.Rows L2
theorem all_mk {l : PySem.W.OpenLaw} {w : World} {K : PySem.W.Frag} {h : Heap} {mg : Str → Option Value} {fa S fInt fNum fCnt fDep fTup fBit fSpn fReq fBw fNi fOp fSur fSid fLow fLea fBlk fHas fSrc fDrw fLB fRow fWrd fFew fLaw fmI fmDb fmBl fmG fmH fmE fmBo fpL fpW fpD fpS fpR ppL ppW ppD ppS ppR : Addr} {tk : Tok} (X : K.In h) (G : h.Ns mainGlobals mg) (hfa : mg "law" = some (.ref fa))
    {odInt anInt odNum anNum odCnt anCnt odDep anDep odTup anTup odBit anBit odSpn anSpn odReq anReq odBw anBw odNi anNi odOp anOp odSur anSur odSid anSid odLow anLow odLea anLea odBlk anBlk odHas anHas odSrc anSrc odDrw anDrw odLB anLB odRow anRow odWrd anWrd odFew anFew odLaw anLaw odmI anmI odmDb anmDb odmBl anmBl odmG anmG odmH anmH odmE anmE odmBo anmBo odpL anpL odpW anpW odpD anpD odpS anpS odpR anpR : Option Addr} {slInt slNum slCnt slDep slTup slBit slSpn slReq slBw slNi slOp slSur slSid slLow slLea slBlk slHas slSrc slDrw slLB slRow slWrd slFew slLaw slmI slmDb slmBl slmG slmH slmE slmBo slpL slpW slpD slpS slpR : Array (Option Value)} {ocInt kVInt dcInt pmInt cdInt ctInt ocNum kVNum dcNum pmNum cdNum ctNum ocCnt kVCnt dcCnt pmCnt cdCnt ctCnt ocDep kVDep dcDep pmDep cdDep ctDep ocTup kVTup dcTup pmTup cdTup ctTup ocBit kVBit dcBit pmBit cdBit ctBit ocSpn kVSpn dcSpn pmSpn cdSpn ctSpn ocReq kVReq dcReq pmReq cdReq ctReq ocBw kVBw dcBw pmBw cdBw ctBw ocNi kVNi dcNi pmNi cdNi ctNi ocOp kVOp dcOp pmOp cdOp ctOp ocSur kVSur dcSur pmSur cdSur ctSur ocSid kVSid dcSid pmSid cdSid ctSid ocLow kVLow dcLow pmLow cdLow ctLow ocLea kVLea dcLea pmLea cdLea ctLea ocBlk kVBlk dcBlk pmBlk cdBlk ctBlk ocHas kVHas dcHas pmHas cdHas ctHas ocSrc kVSrc dcSrc pmSrc cdSrc ctSrc ocDrw kVDrw dcDrw pmDrw cdDrw ctDrw ocLB kVLB dcLB pmLB cdLB ctLB ocRow kVRow dcRow pmRow cdRow ctRow ocWrd kVWrd dcWrd pmWrd cdWrd ctWrd ocFew kVFew dcFew pmFew cdFew ctFew ocLaw kVLaw dcLaw pmLaw cdLaw ctLaw ocmI kVmI dcmI pmmI cdmI ctmI ocmDb kVmDb dcmDb pmmDb cdmDb ctmDb ocmBl kVmBl dcmBl pmmBl cdmBl ctmBl ocmG kVmG dcmG pmmG cdmG ctmG ocmH kVmH dcmH pmmH cdmH ctmH ocmE kVmE dcmE pmmE cdmE ctmE ocmBo kVmBo dcmBo pmmBo cdmBo ctmBo ocpL kVpL dcpL pmpL cdpL ctpL ocpW kVpW dcpW pmpW cdpW ctpW ocpD kVpD dcpD pmpD cdpD ctpD ocpS kVpS dcpS pmpS cdpS ctpS ocpR kVpR dcpR pmpR cdpR ctpR : Value} {repL repW repD repS repR : List Value}
    (aS : PySem.W.nsIn K mainGlobals "Span" = some (some (.ref S)))
    (aInt : PySem.W.nsIn K mainGlobals "is_integer" = some (some (.ref fInt)))
    (lInt : K.lookup fInt = some ⟨ocInt, odInt, .func (PySem.W.fnOf "is_integer" "is_integer" (defArgs sInt) (defBody sInt) (defScope sInt) .none kVInt dcInt pmInt anInt cdInt ctInt), slInt⟩)
    (qInt : PySem.W.codeIn K cdInt "is_integer" = true)
    (kInt : PySem.W.keepIn K (.ref fInt) = true)
    (aNum : PySem.W.nsIn K mainGlobals "is_number" = some (some (.ref fNum)))
    (lNum : K.lookup fNum = some ⟨ocNum, odNum, .func (PySem.W.fnOf "is_number" "is_number" (defArgs sNum) (defBody sNum) (defScope sNum) .none kVNum dcNum pmNum anNum cdNum ctNum), slNum⟩)
    (qNum : PySem.W.codeIn K cdNum "is_number" = true)
    (kNum : PySem.W.keepIn K (.ref fNum) = true)
    (aCnt : PySem.W.nsIn K mainGlobals "is_count" = some (some (.ref fCnt)))
    (lCnt : K.lookup fCnt = some ⟨ocCnt, odCnt, .func (PySem.W.fnOf "is_count" "is_count" (defArgs sCnt) (defBody sCnt) (defScope sCnt) .none kVCnt dcCnt pmCnt anCnt cdCnt ctCnt), slCnt⟩)
    (qCnt : PySem.W.codeIn K cdCnt "is_count" = true)
    (kCnt : PySem.W.keepIn K (.ref fCnt) = true)
    (aDep : PySem.W.nsIn K mainGlobals "is_depth" = some (some (.ref fDep)))
    (lDep : K.lookup fDep = some ⟨ocDep, odDep, .func (PySem.W.fnOf "is_depth" "is_depth" (defArgs sDep) (defBody sDep) (defScope sDep) .none kVDep dcDep pmDep anDep cdDep ctDep), slDep⟩)
    (qDep : PySem.W.codeIn K cdDep "is_depth" = true)
    (kDep : PySem.W.keepIn K (.ref fDep) = true)
    (aTup : PySem.W.nsIn K mainGlobals "is_tuple_of" = some (some (.ref fTup)))
    (lTup : K.lookup fTup = some ⟨ocTup, odTup, .func (PySem.W.fnOf "is_tuple_of" "is_tuple_of" (defArgs sTup) (defBody sTup) (defScope sTup) .none kVTup dcTup pmTup anTup cdTup ctTup), slTup⟩)
    (qTup : PySem.W.codeIn K cdTup "is_tuple_of" = true)
    (kTup : PySem.W.keepIn K (.ref fTup) = true)
    (aBit : PySem.W.nsIn K mainGlobals "is_bits" = some (some (.ref fBit)))
    (lBit : K.lookup fBit = some ⟨ocBit, odBit, .func (PySem.W.fnOf "is_bits" "is_bits" (defArgs sBits) (defBody sBits) (defScope sBits) .none kVBit dcBit pmBit anBit cdBit ctBit), slBit⟩)
    (qBit : PySem.W.codeIn K cdBit "is_bits" = true)
    (kBit : PySem.W.keepIn K (.ref fBit) = true)
    (aSpn : PySem.W.nsIn K mainGlobals "is_span" = some (some (.ref fSpn)))
    (lSpn : K.lookup fSpn = some ⟨ocSpn, odSpn, .func (PySem.W.fnOf "is_span" "is_span" (defArgs sSpan) (defBody sSpan) (defScope sSpan) .none kVSpn dcSpn pmSpn anSpn cdSpn ctSpn), slSpn⟩)
    (qSpn : PySem.W.codeIn K cdSpn "is_span" = true)
    (kSpn : PySem.W.keepIn K (.ref fSpn) = true)
    (aReq : PySem.W.nsIn K mainGlobals "require_usable" = some (some (.ref fReq)))
    (lReq : K.lookup fReq = some ⟨ocReq, odReq, .func (PySem.W.fnOf "require_usable" "require_usable" (defArgs sReq) (defBody sReq) (defScope sReq) .none kVReq dcReq pmReq anReq cdReq ctReq), slReq⟩)
    (qReq : PySem.W.codeIn K cdReq "require_usable" = true)
    (kReq : PySem.W.keepIn K (.ref fReq) = true)
    (aBw : PySem.W.nsIn K mainGlobals "bits_written" = some (some (.ref fBw)))
    (lBw : K.lookup fBw = some ⟨ocBw, odBw, .func (PySem.W.fnOf "bits_written" "bits_written" (defArgs sBw) (defBody sBw) (defScope sBw) .none kVBw dcBw pmBw anBw cdBw ctBw), slBw⟩)
    (qBw : PySem.W.codeIn K cdBw "bits_written" = true)
    (kBw : PySem.W.keepIn K (.ref fBw) = true)
    (aNi : PySem.W.nsIn K mainGlobals "number_in" = some (some (.ref fNi)))
    (lNi : K.lookup fNi = some ⟨ocNi, odNi, .func (PySem.W.fnOf "number_in" "number_in" (defArgs sNi) (defBody sNi) (defScope sNi) .none kVNi dcNi pmNi anNi cdNi ctNi), slNi⟩)
    (qNi : PySem.W.codeIn K cdNi "number_in" = true)
    (kNi : PySem.W.keepIn K (.ref fNi) = true)
    (aOp : PySem.W.nsIn K mainGlobals "open_places" = some (some (.ref fOp)))
    (lOp : K.lookup fOp = some ⟨ocOp, odOp, .func (PySem.W.fnOf "open_places" "open_places" (defArgs sOp) (defBody sOp) (defScope sOp) .none kVOp dcOp pmOp anOp cdOp ctOp), slOp⟩)
    (qOp : PySem.W.codeIn K cdOp "open_places" = true)
    (kOp : PySem.W.keepIn K (.ref fOp) = true)
    (aSur : PySem.W.nsIn K mainGlobals "sure_bits" = some (some (.ref fSur)))
    (lSur : K.lookup fSur = some ⟨ocSur, odSur, .func (PySem.W.fnOf "sure_bits" "sure_bits" (defArgs sSure) (defBody sSure) (defScope sSure) .none kVSur dcSur pmSur anSur cdSur ctSur), slSur⟩)
    (qSur : PySem.W.codeIn K cdSur "sure_bits" = true)
    (kSur : PySem.W.keepIn K (.ref fSur) = true)
    (aSid : PySem.W.nsIn K mainGlobals "sides_of" = some (some (.ref fSid)))
    (lSid : K.lookup fSid = some ⟨ocSid, odSid, .func (PySem.W.fnOf "sides_of" "sides_of" (defArgs sSides) (defBody sSides) (defScope sSides) .none kVSid dcSid pmSid anSid cdSid ctSid), slSid⟩)
    (qSid : PySem.W.codeIn K cdSid "sides_of" = true)
    (kSid : PySem.W.keepIn K (.ref fSid) = true)
    (aLow : PySem.W.nsIn K mainGlobals "lowest_terms" = some (some (.ref fLow)))
    (lLow : K.lookup fLow = some ⟨ocLow, odLow, .func (PySem.W.fnOf "lowest_terms" "lowest_terms" (defArgs sLow) (defBody sLow) (defScope sLow) .none kVLow dcLow pmLow anLow cdLow ctLow), slLow⟩)
    (qLow : PySem.W.codeIn K cdLow "lowest_terms" = true)
    (kLow : PySem.W.keepIn K (.ref fLow) = true)
    (aLea : PySem.W.nsIn K mainGlobals "least_span" = some (some (.ref fLea)))
    (lLea : K.lookup fLea = some ⟨ocLea, odLea, .func (PySem.W.fnOf "least_span" "least_span" (defArgs sLeast) (defBody sLeast) (defScope sLeast) .none kVLea dcLea pmLea anLea cdLea ctLea), slLea⟩)
    (qLea : PySem.W.codeIn K cdLea "least_span" = true)
    (kLea : PySem.W.keepIn K (.ref fLea) = true)
    (aBlk : PySem.W.nsIn K mainGlobals "blocks_of" = some (some (.ref fBlk)))
    (lBlk : K.lookup fBlk = some ⟨ocBlk, odBlk, .func (PySem.W.fnOf "blocks_of" "blocks_of" (defArgs sBlk) (defBody sBlk) (defScope sBlk) .none kVBlk dcBlk pmBlk anBlk cdBlk ctBlk), slBlk⟩)
    (qBlk : PySem.W.codeIn K cdBlk "blocks_of" = true)
    (kBlk : PySem.W.keepIn K (.ref fBlk) = true)
    (aHas : PySem.W.nsIn K mainGlobals "has_block" = some (some (.ref fHas)))
    (lHas : K.lookup fHas = some ⟨ocHas, odHas, .func (PySem.W.fnOf "has_block" "has_block" (defArgs sHas) (defBody sHas) (defScope sHas) .none kVHas dcHas pmHas anHas cdHas ctHas), slHas⟩)
    (qHas : PySem.W.codeIn K cdHas "has_block" = true)
    (kHas : PySem.W.keepIn K (.ref fHas) = true)
    (aSrc : PySem.W.nsIn K mainGlobals "_law_source" = some (some (.ref fSrc)))
    (lSrc : K.lookup fSrc = some ⟨ocSrc, odSrc, .func (PySem.W.fnOf "_law_source" "_law_source" (defArgs sSrc) (defBody sSrc) (defScope sSrc) .none kVSrc dcSrc pmSrc anSrc cdSrc ctSrc), slSrc⟩)
    (qSrc : PySem.W.codeIn K cdSrc "_law_source" = true)
    (kSrc : PySem.W.keepIn K (.ref fSrc) = true)
    (aDrw : PySem.W.nsIn K mainGlobals "_law_draw" = some (some (.ref fDrw)))
    (lDrw : K.lookup fDrw = some ⟨ocDrw, odDrw, .func (PySem.W.fnOf "_law_draw" "_law_draw" (defArgs sDraw) (defBody sDraw) (defScope sDraw) .none kVDrw dcDrw pmDrw anDrw cdDrw ctDrw), slDrw⟩)
    (qDrw : PySem.W.codeIn K cdDrw "_law_draw" = true)
    (kDrw : PySem.W.keepIn K (.ref fDrw) = true)
    (aLB : PySem.W.nsIn K mainGlobals "_law_bits" = some (some (.ref fLB)))
    (lLB : K.lookup fLB = some ⟨ocLB, odLB, .func (PySem.W.fnOf "_law_bits" "_law_bits" (defArgs sLBits) (defBody sLBits) (defScope sLBits) .none kVLB dcLB pmLB anLB cdLB ctLB), slLB⟩)
    (qLB : PySem.W.codeIn K cdLB "_law_bits" = true)
    (kLB : PySem.W.keepIn K (.ref fLB) = true)
    (aRow : PySem.W.nsIn K mainGlobals "_law_rows" = some (some (.ref fRow)))
    (lRow : K.lookup fRow = some ⟨ocRow, odRow, .func (PySem.W.fnOf "_law_rows" "_law_rows" (defArgs sRows) (defBody sRows) (defScope sRows) .none kVRow dcRow pmRow anRow cdRow ctRow), slRow⟩)
    (qRow : PySem.W.codeIn K cdRow "_law_rows" = true)
    (kRow : PySem.W.keepIn K (.ref fRow) = true)
    (aWrd : PySem.W.nsIn K mainGlobals "_law_words" = some (some (.ref fWrd)))
    (lWrd : K.lookup fWrd = some ⟨ocWrd, odWrd, .func (PySem.W.fnOf "_law_words" "_law_words" (defArgs sWords) (defBody sWords) (defScope sWords) .none kVWrd dcWrd pmWrd anWrd cdWrd ctWrd), slWrd⟩)
    (qWrd : PySem.W.codeIn K cdWrd "_law_words" = true)
    (kWrd : PySem.W.keepIn K (.ref fWrd) = true)
    (aFew : PySem.W.nsIn K mainGlobals "_law_fewest" = some (some (.ref fFew)))
    (lFew : K.lookup fFew = some ⟨ocFew, odFew, .func (PySem.W.fnOf "_law_fewest" "_law_fewest" (defArgs sFew) (defBody sFew) (defScope sFew) .none kVFew dcFew pmFew anFew cdFew ctFew), slFew⟩)
    (qFew : PySem.W.codeIn K cdFew "_law_fewest" = true)
    (kFew : PySem.W.keepIn K (.ref fFew) = true)
    (aLaw : PySem.W.nsIn K mainGlobals "law" = some (some (.ref fLaw)))
    (lLaw : K.lookup fLaw = some ⟨ocLaw, odLaw, .func (PySem.W.fnOf "law" "law" (defArgs sLaw) (defBody sLaw) (defScope sLaw) .none kVLaw dcLaw pmLaw anLaw cdLaw ctLaw), slLaw⟩)
    (qLaw : PySem.W.codeIn K cdLaw "law" = true)
    (kLaw : PySem.W.keepIn K (.ref fLaw) = true)
    (amI : PySem.W.findIn K (.ref S) "__init__" = some (some (.ref fmI)))
    (imI : PySem.W.isFn K (.ref fmI) = true)
    (nmI : PySem.W.fnIn K fmI = true)
    (lmI : K.lookup fmI = some ⟨ocmI, odmI, .func (PySem.W.fnOf "__init__" "Span.__init__" (defArgs cInit) (defBody cInit) (defScope cInit) .none kVmI dcmI pmmI anmI cdmI ctmI), slmI⟩)
    (qmI : PySem.W.codeIn K cdmI "Span.__init__" = true)
    (kmI : PySem.W.keepIn K (.ref fmI) = true)
    (amDb : PySem.W.findIn K (.ref S) "doubled" = some (some (.ref fmDb)))
    (imDb : PySem.W.isFn K (.ref fmDb) = true)
    (nmDb : PySem.W.fnIn K fmDb = true)
    (lmDb : K.lookup fmDb = some ⟨ocmDb, odmDb, .func (PySem.W.fnOf "doubled" "Span.doubled" (defArgs cDoubled) (defBody cDoubled) (defScope cDoubled) .none kVmDb dcmDb pmmDb anmDb cdmDb ctmDb), slmDb⟩)
    (qmDb : PySem.W.codeIn K cdmDb "Span.doubled" = true)
    (kmDb : PySem.W.keepIn K (.ref fmDb) = true)
    (amBl : PySem.W.findIn K (.ref S) "blocks" = some (some (.ref fmBl)))
    (imBl : PySem.W.isFn K (.ref fmBl) = true)
    (nmBl : PySem.W.fnIn K fmBl = true)
    (lmBl : K.lookup fmBl = some ⟨ocmBl, odmBl, .func (PySem.W.fnOf "blocks" "Span.blocks" (defArgs cBlocks) (defBody cBlocks) (defScope cBlocks) .none kVmBl dcmBl pmmBl anmBl cdmBl ctmBl), slmBl⟩)
    (qmBl : PySem.W.codeIn K cdmBl "Span.blocks" = true)
    (kmBl : PySem.W.keepIn K (.ref fmBl) = true)
    (amG : PySem.W.findIn K (.ref S) "__getitem__" = some (some (.ref fmG)))
    (imG : PySem.W.isFn K (.ref fmG) = true)
    (nmG : PySem.W.fnIn K fmG = true)
    (lmG : K.lookup fmG = some ⟨ocmG, odmG, .func (PySem.W.fnOf "__getitem__" "Span.__getitem__" (defArgs cGet) (defBody cGet) (defScope cGet) .none kVmG dcmG pmmG anmG cdmG ctmG), slmG⟩)
    (qmG : PySem.W.codeIn K cdmG "Span.__getitem__" = true)
    (kmG : PySem.W.keepIn K (.ref fmG) = true)
    (amH : PySem.W.findIn K (.ref S) "__contains__" = some (some (.ref fmH)))
    (imH : PySem.W.isFn K (.ref fmH) = true)
    (nmH : PySem.W.fnIn K fmH = true)
    (lmH : K.lookup fmH = some ⟨ocmH, odmH, .func (PySem.W.fnOf "__contains__" "Span.__contains__" (defArgs cHas) (defBody cHas) (defScope cHas) .none kVmH dcmH pmmH anmH cdmH ctmH), slmH⟩)
    (qmH : PySem.W.codeIn K cdmH "Span.__contains__" = true)
    (kmH : PySem.W.keepIn K (.ref fmH) = true)
    (amE : PySem.W.findIn K (.ref S) "__eq__" = some (some (.ref fmE)))
    (imE : PySem.W.isFn K (.ref fmE) = true)
    (nmE : PySem.W.fnIn K fmE = true)
    (lmE : K.lookup fmE = some ⟨ocmE, odmE, .func (PySem.W.fnOf "__eq__" "Span.__eq__" (defArgs cEq) (defBody cEq) (defScope cEq) .none kVmE dcmE pmmE anmE cdmE ctmE), slmE⟩)
    (qmE : PySem.W.codeIn K cdmE "Span.__eq__" = true)
    (kmE : PySem.W.keepIn K (.ref fmE) = true)
    (amBo : PySem.W.findIn K (.ref S) "__bool__" = some (some (.ref fmBo)))
    (imBo : PySem.W.isFn K (.ref fmBo) = true)
    (nmBo : PySem.W.fnIn K fmBo = true)
    (lmBo : K.lookup fmBo = some ⟨ocmBo, odmBo, .func (PySem.W.fnOf "__bool__" "Span.__bool__" (defArgs cBool) (defBody cBool) (defScope cBool) .none kVmBo dcmBo pmmBo anmBo cdmBo ctmBo), slmBo⟩)
    (qmBo : PySem.W.codeIn K cdmBo "Span.__bool__" = true)
    (kmBo : PySem.W.keepIn K (.ref fmBo) = true)
    (apL : PySem.W.findIn K (.ref S) "low" = some (some (.ref ppL)))
    (gpL : PySem.W.specialIn K (.ref ppL) "__get__" = some (some (.builtin "property.__get__")))
    (tpL : PySem.W.takesIn K (.ref ppL) = some true)
    (rpL : PySem.W.recIn K ppL "property" = some (.ref fpL :: repL))
    (lpL : K.lookup fpL = some ⟨ocpL, odpL, .func (PySem.W.fnOf "low" "Span.low" (defArgs cLow) (defBody cLow) (defScope cLow) .none kVpL dcpL pmpL anpL cdpL ctpL), slpL⟩)
    (qpL : PySem.W.codeIn K cdpL "Span.low" = true)
    (kpL : PySem.W.keepIn K (.ref fpL) = true)
    (apW : PySem.W.findIn K (.ref S) "width" = some (some (.ref ppW)))
    (gpW : PySem.W.specialIn K (.ref ppW) "__get__" = some (some (.builtin "property.__get__")))
    (tpW : PySem.W.takesIn K (.ref ppW) = some true)
    (rpW : PySem.W.recIn K ppW "property" = some (.ref fpW :: repW))
    (lpW : K.lookup fpW = some ⟨ocpW, odpW, .func (PySem.W.fnOf "width" "Span.width" (defArgs cWidth) (defBody cWidth) (defScope cWidth) .none kVpW dcpW pmpW anpW cdpW ctpW), slpW⟩)
    (qpW : PySem.W.codeIn K cdpW "Span.width" = true)
    (kpW : PySem.W.keepIn K (.ref fpW) = true)
    (apD : PySem.W.findIn K (.ref S) "depth" = some (some (.ref ppD)))
    (gpD : PySem.W.specialIn K (.ref ppD) "__get__" = some (some (.builtin "property.__get__")))
    (tpD : PySem.W.takesIn K (.ref ppD) = some true)
    (rpD : PySem.W.recIn K ppD "property" = some (.ref fpD :: repD))
    (lpD : K.lookup fpD = some ⟨ocpD, odpD, .func (PySem.W.fnOf "depth" "Span.depth" (defArgs cDepth) (defBody cDepth) (defScope cDepth) .none kVpD dcpD pmpD anpD cdpD ctpD), slpD⟩)
    (qpD : PySem.W.codeIn K cdpD "Span.depth" = true)
    (kpD : PySem.W.keepIn K (.ref fpD) = true)
    (apS : PySem.W.findIn K (.ref S) "sure" = some (some (.ref ppS)))
    (gpS : PySem.W.specialIn K (.ref ppS) "__get__" = some (some (.builtin "property.__get__")))
    (tpS : PySem.W.takesIn K (.ref ppS) = some true)
    (rpS : PySem.W.recIn K ppS "property" = some (.ref fpS :: repS))
    (lpS : K.lookup fpS = some ⟨ocpS, odpS, .func (PySem.W.fnOf "sure" "Span.sure" (defArgs cSure) (defBody cSure) (defScope cSure) .none kVpS dcpS pmpS anpS cdpS ctpS), slpS⟩)
    (qpS : PySem.W.codeIn K cdpS "Span.sure" = true)
    (kpS : PySem.W.keepIn K (.ref fpS) = true)
    (apR : PySem.W.findIn K (.ref S) "share" = some (some (.ref ppR)))
    (gpR : PySem.W.specialIn K (.ref ppR) "__get__" = some (some (.builtin "property.__get__")))
    (tpR : PySem.W.takesIn K (.ref ppR) = some true)
    (rpR : PySem.W.recIn K ppR "property" = some (.ref fpR :: repR))
    (lpR : K.lookup fpR = some ⟨ocpR, odpR, .func (PySem.W.fnOf "share" "Span.share" (defArgs cShare) (defBody cShare) (defScope cShare) .none kVpR dcpR pmpR anpR cdpR ctpR), slpR⟩)
    (qpR : PySem.W.codeIn K cdpR "Span.share" = true)
    (kpR : PySem.W.keepIn K (.ref fpR) = true)
    (pgS : PySem.W.plainGet K S Str.empty = true)
    (hdS : PySem.W.hasDictIn K S = true)
    (poS : PySem.W.plainOver K S = true)
    (saS : PySem.W.findIn K (.ref S) "__setattr__" = some (some (.builtin "object.__setattr__")))
    (mkS : PySem.W.makesIn K S = true)
    (kcS : PySem.W.keepIn K (.ref S) = true)
    (no0 : PySem.W.findIn K (.ref S) "own_span" = some none)
    (no1 : PySem.W.findIn K (.ref S) "own_least" = some none)
    (no2 : PySem.W.findIn K (.ref S) "own_blocks" = some none)
    (ixa : PySem.W.findIn K (.ref S) "__class__" = some (some (.builtin "object.__class__")))
    (ixn : PySem.W.specialIn K (.builtin "object.__class__") "__get__" = some (some (.builtin "getset_descriptor.__get__")))
    (ixt : PySem.W.takesIn K (.builtin "object.__class__") = some true)
    (ixm : PySem.W.mroIn K S (.type "object") = some true)
    (gdS : PySem.W.nsIn K mainGlobals "GREATEST_DEPTH" = some (some (.int 400 tk)))
    (z0 : PySem.W.nsIn K mainGlobals "isinstance" = some none)
    (z1 : PySem.W.nsIn K mainGlobals "int" = some none)
    (z2 : PySem.W.nsIn K mainGlobals "bool" = some none)
    (z3 : PySem.W.nsIn K mainGlobals "tuple" = some none)
    (z4 : PySem.W.nsIn K mainGlobals "len" = some none)
    (z5 : PySem.W.nsIn K mainGlobals "str" = some none)
    (z6 : PySem.W.nsIn K mainGlobals "all" = some none)
    (z7 : PySem.W.nsIn K mainGlobals "range" = some none)
    (z8 : PySem.W.nsIn K mainGlobals "sorted" = some none)
    (z9 : PySem.W.nsIn K mainGlobals "list" = some none)
    (z10 : PySem.W.nsIn K mainGlobals "min" = some none)
    (z11 : PySem.W.nsIn K mainGlobals "repr" = some none)
    (z12 : PySem.W.nsIn K mainGlobals "set" = some none)
    : ∃ fd : FuncData, (∀ (s : Shared) (v : Value), BindsTo s fd ⟨[v], []⟩ [("_law_script", v)]) ∧ ∀ base : Heap, K.In base → base.Ns mainGlobals mg → FnOk l.prog w K mg base CX0 9 fa fd ["_law_script"] (spLaw K) := by
  have e := hfa.symm.trans (PySem.W.mg_of X G aLaw)
  cases e
  have T : Tx mg := ⟨PySem.W.mg_none_of X G z0, PySem.W.mg_none_of X G z1, PySem.W.mg_none_of X G z2, PySem.W.mg_none_of X G z3, PySem.W.mg_none_of X G z4, PySem.W.mg_none_of X G z5, PySem.W.mg_none_of X G z6, PySem.W.mg_none_of X G z7, PySem.W.mg_none_of X G z8, PySem.W.mg_none_of X G z9, PySem.W.mg_none_of X G z10, PySem.W.mg_none_of X G z11, PySem.W.mg_none_of X G z12, ⟨_, PySem.W.mg_of X G gdS⟩⟩
  have X1 : Sx K mg S := ⟨⟨pgS, hdS, poS, saS⟩, no0, no1, no2, PySem.W.mg_of X G aS⟩
  have I : Ix K S := ⟨ixa, ixn, ixt, ixm, if_pos (beq_self_eq_true _)⟩
  have FInt := fun_mk (st := sInt) lInt qInt kInt
  have bInt := FInt.binds (ps := ["thing"]) fun _ _ _ _ _ _ us hl => match us, hl with | [_], _ => rfl
  have FNum := fun_mk (st := sNum) lNum qNum kNum
  have bNum := FNum.binds (ps := ["thing"]) fun _ _ _ _ _ _ us hl => match us, hl with | [_], _ => rfl
  have FCnt := fun_mk (st := sCnt) lCnt qCnt kCnt
  have bCnt := FCnt.binds (ps := ["thing"]) fun _ _ _ _ _ _ us hl => match us, hl with | [_], _ => rfl
  have FDep := fun_mk (st := sDep) lDep qDep kDep
  have bDep := FDep.binds (ps := ["thing"]) fun _ _ _ _ _ _ us hl => match us, hl with | [_], _ => rfl
  have FTup := fun_mk (st := sTup) lTup qTup kTup
  have bTup := FTup.binds (ps := ["thing", "many"]) fun _ _ _ _ _ _ us hl => match us, hl with | [_, _], _ => rfl
  have FBit := fun_mk (st := sBits) lBit qBit kBit
  have bBit := FBit.binds (ps := ["thing"]) fun _ _ _ _ _ _ us hl => match us, hl with | [_], _ => rfl
  have FSpn := fun_mk (st := sSpan) lSpn qSpn kSpn
  have bSpn := FSpn.binds (ps := ["thing"]) fun _ _ _ _ _ _ us hl => match us, hl with | [_], _ => rfl
  have FReq := fun_mk (st := sReq) lReq qReq kReq
  have bReq := FReq.binds (ps := ["is_usable", "word"]) fun _ _ _ _ _ _ us hl => match us, hl with | [_, _], _ => rfl
  have FBw := fun_mk (st := sBw) lBw qBw kBw
  have bBw := FBw.binds (ps := ["number", "depth"]) fun _ _ _ _ _ _ us hl => match us, hl with | [_, _], _ => rfl
  have FNi := fun_mk (st := sNi) lNi qNi kNi
  have bNi := FNi.binds (ps := ["bits"]) fun _ _ _ _ _ _ us hl => match us, hl with | [_], _ => rfl
  have FOp := fun_mk (st := sOp) lOp qOp kOp
  have bOp := FOp.binds (ps := ["low", "width"]) fun _ _ _ _ _ _ us hl => match us, hl with | [_, _], _ => rfl
  have FSur := fun_mk (st := sSure) lSur qSur kSur
  have bSur := FSur.binds (ps := ["low", "width", "depth"]) fun _ _ _ _ _ _ us hl => match us, hl with | [_, _, _], _ => rfl
  have FSid := fun_mk (st := sSides) lSid qSid kSid
  have bSid := FSid.binds (ps := ["low", "width"]) fun _ _ _ _ _ _ us hl => match us, hl with | [_, _], _ => rfl
  have FLow := fun_mk (st := sLow) lLow qLow kLow
  have bLow := FLow.binds (ps := ["m", "n"]) fun _ _ _ _ _ _ us hl => match us, hl with | [_, _], _ => rfl
  have FLea := fun_mk (st := sLeast) lLea qLea kLea
  have bLea := FLea.binds (ps := ["low", "width", "depth"]) fun _ _ _ _ _ _ us hl => match us, hl with | [_, _, _], _ => rfl
  have FBlk := fun_mk (st := sBlk) lBlk qBlk kBlk
  have bBlk := FBlk.binds (ps := ["low", "width", "depth"]) fun _ _ _ _ _ _ us hl => match us, hl with | [_, _, _], _ => rfl
  have FHas := fun_mk (st := sHas) lHas qHas kHas
  have bHas := FHas.binds (ps := ["low", "width", "depth", "bits"]) fun _ _ _ _ _ _ us hl => match us, hl with | [_, _, _, _], _ => rfl
  have FSrc := fun_mk (st := sSrc) lSrc qSrc kSrc
  have bSrc := FSrc.binds (ps := ["_law_script"]) fun _ _ _ _ _ _ us hl => match us, hl with | [_], _ => rfl
  have FDrw := fun_mk (st := sDraw) lDrw qDrw kDrw
  have bDrw := FDrw.binds (ps := ["_law_source_here", "_law_size"]) fun _ _ _ _ _ _ us hl => match us, hl with | [_, _], _ => rfl
  have FLB := fun_mk (st := sLBits) lLB qLB kLB
  have bLB := FLB.binds (ps := ["_law_number", "_law_depth"]) fun _ _ _ _ _ _ us hl => match us, hl with | [_, _], _ => rfl
  have FRow := fun_mk (st := sRows) lRow qRow kRow
  have bRow := FRow.binds (ps := ["_law_span", "_law_depth"]) fun _ _ _ _ _ _ us hl => match us, hl with | [_, _], _ => rfl
  have FWrd := fun_mk (st := sWords) lWrd qWrd kWrd
  have bWrd := FWrd.binds (ps := ["_law_length"]) fun _ _ _ _ _ _ us hl => match us, hl with | [_], _ => rfl
  have FFew := fun_mk (st := sFew) lFew qFew kFew
  have bFew := FFew.binds (ps := ["_law_known", "_law_depth"]) fun _ _ _ _ _ _ us hl => match us, hl with | [_, _], _ => rfl
  have FLaw := fun_mk (st := sLaw) lLaw qLaw kLaw
  have FmI := fun_mk (st := cInit) lmI qmI kmI
  have bmI := FmI.binds (ps := ["self", "low", "width", "depth"]) fun _ _ _ _ _ _ us hl => match us, hl with | [_, _, _, _], _ => rfl
  have FmDb := fun_mk (st := cDoubled) lmDb qmDb kmDb
  have bmDb := FmDb.binds (ps := ["self"]) fun _ _ _ _ _ _ us hl => match us, hl with | [_], _ => rfl
  have FmBl := fun_mk (st := cBlocks) lmBl qmBl kmBl
  have bmBl := FmBl.binds (ps := ["self"]) fun _ _ _ _ _ _ us hl => match us, hl with | [_], _ => rfl
  have FmG := fun_mk (st := cGet) lmG qmG kmG
  have bmG := FmG.binds (ps := ["self", "at"]) fun _ _ _ _ _ _ us hl => match us, hl with | [_, _], _ => rfl
  have FmH := fun_mk (st := cHas) lmH qmH kmH
  have bmH := FmH.binds (ps := ["self", "thing"]) fun _ _ _ _ _ _ us hl => match us, hl with | [_, _], _ => rfl
  have FmE := fun_mk (st := cEq) lmE qmE kmE
  have bmE := FmE.binds (ps := ["self", "other"]) fun _ _ _ _ _ _ us hl => match us, hl with | [_, _], _ => rfl
  have FmBo := fun_mk (st := cBool) lmBo qmBo kmBo
  have bmBo := FmBo.binds (ps := ["self"]) fun _ _ _ _ _ _ us hl => match us, hl with | [_], _ => rfl
  have FpL := fun_mk (st := cLow) lpL qpL kpL
  have bpL := FpL.binds (ps := ["self"]) fun _ _ _ _ _ _ us hl => match us, hl with | [_], _ => rfl
  have FpW := fun_mk (st := cWidth) lpW qpW kpW
  have bpW := FpW.binds (ps := ["self"]) fun _ _ _ _ _ _ us hl => match us, hl with | [_], _ => rfl
  have FpD := fun_mk (st := cDepth) lpD qpD kpD
  have bpD := FpD.binds (ps := ["self"]) fun _ _ _ _ _ _ us hl => match us, hl with | [_], _ => rfl
  have FpS := fun_mk (st := cSure) lpS qpS kpS
  have bpS := FpS.binds (ps := ["self"]) fun _ _ _ _ _ _ us hl => match us, hl with | [_], _ => rfl
  have FpR := fun_mk (st := cShare) lpR qpR kpR
  have bpR := FpR.binds (ps := ["self"]) fun _ _ _ _ _ _ us hl => match us, hl with | [_], _ => rfl
  refine ⟨PySem.W.fnOf "law" "law" (defArgs sLaw) (defBody sLaw) (defScope sLaw) .none kVLaw dcLaw pmLaw anLaw cdLaw ctLaw, fun s v => .of_eq rfl, fun base _ _ => ?_⟩
  have CInt : Cl l.prog w K mg base 1 "is_integer" ["thing"] spInt := ⟨_, _, ok_int FInt T, PySem.W.mg_of X G aInt, kInt, bInt⟩
  have CNum : Cl l.prog w K mg base 2 "is_number" ["thing"] spNum := ⟨_, _, ok_num FNum CInt, PySem.W.mg_of X G aNum, kNum, bNum⟩
  have CCnt : Cl l.prog w K mg base 2 "is_count" ["thing"] spCnt := ⟨_, _, ok_cnt FCnt CInt, PySem.W.mg_of X G aCnt, kCnt, bCnt⟩
  have CDep : Cl l.prog w K mg base 3 "is_depth" ["thing"] spDep := ⟨_, _, ok_dep FDep T CNum, PySem.W.mg_of X G aDep, kDep, bDep⟩
  have CTup : Cl l.prog w K mg base 1 "is_tuple_of" ["thing", "many"] spTup := ⟨_, _, ok_tup FTup T, PySem.W.mg_of X G aTup, kTup, bTup⟩
  have CBit : Cl l.prog w K mg base 1 "is_bits" ["thing"] spBits := ⟨_, _, ok_bits FBit T, PySem.W.mg_of X G aBit, kBit, bBit⟩
  have CSpn : Cl l.prog w K mg base 4 "is_span" ["thing"] spSpan := ⟨_, _, ok_span FSpn CTup CNum CCnt CDep, PySem.W.mg_of X G aSpn, kSpn, bSpn⟩
  have CReq : Cl l.prog w K mg base 1 "require_usable" ["is_usable", "word"] spReq := ⟨_, _, ok_req FReq, PySem.W.mg_of X G aReq, kReq, bReq⟩
  have CBw : Cl l.prog w K mg base 1 "bits_written" ["number", "depth"] spBw := ⟨_, _, ok_bw FBw, PySem.W.mg_of X G aBw, kBw, bBw⟩
  have CNi : Cl l.prog w K mg base 1 "number_in" ["bits"] spNi := ⟨_, _, ok_ni FNi, PySem.W.mg_of X G aNi, kNi, bNi⟩
  have COp : Cl l.prog w K mg base 1 "open_places" ["low", "width"] spOp := ⟨_, _, ok_op FOp, PySem.W.mg_of X G aOp, kOp, bOp⟩
  have CSur : Cl l.prog w K mg base 2 "sure_bits" ["low", "width", "depth"] spSure := ⟨_, _, ok_sure FSur COp CBw, PySem.W.mg_of X G aSur, kSur, bSur⟩
  have CSid : Cl l.prog w K mg base 2 "sides_of" ["low", "width"] spSides := ⟨_, _, ok_sides FSid COp, PySem.W.mg_of X G aSid, kSid, bSid⟩
  have CLow : Cl l.prog w K mg base 1 "lowest_terms" ["m", "n"] spLow := ⟨_, _, ok_low FLow, PySem.W.mg_of X G aLow, kLow, bLow⟩
  have CLea : Cl l.prog w K mg base 1 "least_span" ["low", "width", "depth"] spLeast := ⟨_, _, ok_least FLea, PySem.W.mg_of X G aLea, kLea, bLea⟩
  have CBlk : Cl l.prog w K mg base 2 "blocks_of" ["low", "width", "depth"] spBlk := ⟨_, _, ok_blk FBlk T CBw, PySem.W.mg_of X G aBlk, kBlk, bBlk⟩
  have CHas : Cl l.prog w K mg base 2 "has_block" ["low", "width", "depth", "bits"] spHas := ⟨_, _, ok_has FHas T CNi, PySem.W.mg_of X G aHas, kHas, bHas⟩
  have CSrc : Cl l.prog w K mg base 1 "_law_source" ["_law_script"] (spSrc K) := ⟨_, _, ok_src FSrc, PySem.W.mg_of X G aSrc, kSrc, bSrc⟩
  have CDrw : Cl l.prog w K mg base 1 "_law_draw" ["_law_source_here", "_law_size"] spDraw := ⟨_, _, ok_draw FDrw T, PySem.W.mg_of X G aDrw, kDrw, bDrw⟩
  have CLB : Cl l.prog w K mg base 1 "_law_bits" ["_law_number", "_law_depth"] spLB := ⟨_, _, ok_lb FLB T, PySem.W.mg_of X G aLB, kLB, bLB⟩
  have CRow : Cl l.prog w K mg base 1 "_law_rows" ["_law_span", "_law_depth"] spRows := ⟨_, _, ok_rows FRow T, PySem.W.mg_of X G aRow, kRow, bRow⟩
  have CWrd : Cl l.prog w K mg base 2 "_law_words" ["_law_length"] spWords := ⟨_, _, ok_words FWrd T CLB, PySem.W.mg_of X G aWrd, kWrd, bWrd⟩
  have CFew : Cl l.prog w K mg base 7 "_law_fewest" ["_law_known", "_law_depth"] (spFew 6) := ⟨_, _, ok_few FFew T (PySem.W.mg_of X G aFew) bFew 6, PySem.W.mg_of X G aFew, kFew, bFew⟩
  have Mm : Ms l.prog w K mg base S := ⟨_, _, ⟨mkS, amI, imI, kcS⟩, ok_init FmI X1 CSpn CReq CLea CBlk, bmI⟩
  have MmDb : Mt l.prog w K mg base S 7 "doubled" ["self"] (spDbl S) := ⟨_, _, ok_dbl FmDb X1 T Mm CReq, bmDb, amDb, imDb, kmDb, nmDb⟩
  have MmBl : Mt l.prog w K mg base S 1 "blocks" ["self"] (spBlocks S) := ⟨_, _, ok_blocks FmBl X1, bmBl, amBl, imBl, kmBl, nmBl⟩
  have MmG : Mt l.prog w K mg base S 7 "__getitem__" ["self", "at"] (spGet S) := ⟨_, _, ok_get FmG X1 T Mm CReq CNum CSid, bmG, amG, imG, kmG, nmG⟩
  have MmH : Mt l.prog w K mg base S 3 "__contains__" ["self", "thing"] (spIn S) := ⟨_, _, ok_in FmH X1 CBit CHas, bmH, amH, imH, kmH, nmH⟩
  have MmE : Mt l.prog w K mg base S 1 "__eq__" ["self", "other"] (spEq (EqR S)) := ⟨_, _, ok_eq FmE X1 I T, bmE, amE, imE, kmE, nmE⟩
  have MmBo : Mt l.prog w K mg base S 2 "__bool__" ["self"] (spBool S) := ⟨_, _, ok_bool FmBo X1 T COp, bmBo, amBo, imBo, kmBo, nmBo⟩
  have PpL : Pt l.prog w K mg base S 1 "low" (spPos S fun l _ _ => l) := ⟨_, _, _, ⟨apL, gpL, tpL, _, rpL⟩, ok_lowP FpL X1, bpL⟩
  have PpW : Pt l.prog w K mg base S 1 "width" (spPos S fun _ w _ => w) := ⟨_, _, _, ⟨apW, gpW, tpW, _, rpW⟩, ok_widthP FpW X1, bpW⟩
  have PpD : Pt l.prog w K mg base S 1 "depth" (spPos S fun _ _ d => d) := ⟨_, _, _, ⟨apD, gpD, tpD, _, rpD⟩, ok_depthP FpD X1, bpD⟩
  have PpS : Pt l.prog w K mg base S 3 "sure" (spSureP S) := ⟨_, _, _, ⟨apS, gpS, tpS, _, rpS⟩, ok_sureP FpS X1 CSur, bpS⟩
  have PpR : Pt l.prog w K mg base S 2 "share" (spShare S) := ⟨_, _, _, ⟨apR, gpR, tpR, _, rpR⟩, ok_share FpR X1 CLow, bpR⟩
  exact ok_law FLaw T X1 Mm CSrc CDrw CRow CLB CWrd CFew MmBl MmH MmG MmBo MmE MmDb PpL PpW PpD PpS PpR
end Bz
end PartH
set_option maxRecDepth 100000
open PySem PySem.W PyProof.Rows
set_option maxHeartbeats 0 in
theorem PySem.Challenge.cw_bitspans_k09_whole_spans_are_rows_holds : PySem.Challenge.rw_bitspans_k09_whole_spans_are_rows.Holds := by
  w_on; o_law; k_head; (case hw => w_witness2)
  k_fill
  refine L2.walk_of (l := PySem.Challenge.rw_bitspans_k09_whole_spans_are_rows) (n := 63) (k := 9) (x := "_law_script") (CX := fun _ => L2.CX0) (sp := fun w => Bz.spLaw _) rfl (by decide) rfl ⟨rfl, by decide, by decide⟩ (fun w h Y => PySem.W.kIn_of Y) ?F (fun _ _ a ns hl _ hS => ⟨a, ns, rfl, hS, hl, fun _ => rfl⟩) (fun _ _ _ _ _ h => h)
  case F =>
    intro w mg fa h KX G hmg
    refine' Bz.all_mk KX G hmg ?aS ?aInt ?lInt ?qInt ?kInt ?aNum ?lNum ?qNum ?kNum ?aCnt ?lCnt ?qCnt ?kCnt ?aDep ?lDep ?qDep ?kDep ?aTup ?lTup ?qTup ?kTup ?aBit ?lBit ?qBit ?kBit ?aSpn ?lSpn ?qSpn ?kSpn ?aReq ?lReq ?qReq ?kReq ?aBw ?lBw ?qBw ?kBw ?aNi ?lNi ?qNi ?kNi ?aOp ?lOp ?qOp ?kOp ?aSur ?lSur ?qSur ?kSur ?aSid ?lSid ?qSid ?kSid ?aLow ?lLow ?qLow ?kLow ?aLea ?lLea ?qLea ?kLea ?aBlk ?lBlk ?qBlk ?kBlk ?aHas ?lHas ?qHas ?kHas ?aSrc ?lSrc ?qSrc ?kSrc ?aDrw ?lDrw ?qDrw ?kDrw ?aLB ?lLB ?qLB ?kLB ?aRow ?lRow ?qRow ?kRow ?aWrd ?lWrd ?qWrd ?kWrd ?aFew ?lFew ?qFew ?kFew ?aLaw ?lLaw ?qLaw ?kLaw ?amI ?imI ?nmI ?lmI ?qmI ?kmI ?amDb ?imDb ?nmDb ?lmDb ?qmDb ?kmDb ?amBl ?imBl ?nmBl ?lmBl ?qmBl ?kmBl ?amG ?imG ?nmG ?lmG ?qmG ?kmG ?amH ?imH ?nmH ?lmH ?qmH ?kmH ?amE ?imE ?nmE ?lmE ?qmE ?kmE ?amBo ?imBo ?nmBo ?lmBo ?qmBo ?kmBo ?apL ?gpL ?tpL ?rpL ?lpL ?qpL ?kpL ?apW ?gpW ?tpW ?rpW ?lpW ?qpW ?kpW ?apD ?gpD ?tpD ?rpD ?lpD ?qpD ?kpD ?apS ?gpS ?tpS ?rpS ?lpS ?qpS ?kpS ?apR ?gpR ?tpR ?rpR ?lpR ?qpR ?kpR ?pgS ?hdS ?poS ?saS ?mkS ?kcS ?no0 ?no1 ?no2 ?ixa ?ixn ?ixt ?ixm ?gdS ?z0 ?z1 ?z2 ?z3 ?z4 ?z5 ?z6 ?z7 ?z8 ?z9 ?z10 ?z11 ?z12
    (case aS => k_is)
    (case aInt => k_is)
    (case lInt => k_is)
    (case qInt => k_is)
    (case kInt => k_is)
    (case aNum => k_is)
    (case lNum => k_is)
    (case qNum => k_is)
    (case kNum => k_is)
    (case aCnt => k_is)
    (case lCnt => k_is)
    (case qCnt => k_is)
    (case kCnt => k_is)
    (case aDep => k_is)
    (case lDep => k_is)
    (case qDep => k_is)
    (case kDep => k_is)
    (case aTup => k_is)
    (case lTup => k_is)
    (case qTup => k_is)
    (case kTup => k_is)
    (case aBit => k_is)
    (case lBit => k_is)
    (case qBit => k_is)
    (case kBit => k_is)
    (case aSpn => k_is)
    (case lSpn => k_is)
    (case qSpn => k_is)
    (case kSpn => k_is)
    (case aReq => k_is)
    (case lReq => k_is)
    (case qReq => k_is)
    (case kReq => k_is)
    (case aBw => k_is)
    (case lBw => k_is)
    (case qBw => k_is)
    (case kBw => k_is)
    (case aNi => k_is)
    (case lNi => k_is)
    (case qNi => k_is)
    (case kNi => k_is)
    (case aOp => k_is)
    (case lOp => k_is)
    (case qOp => k_is)
    (case kOp => k_is)
    (case aSur => k_is)
    (case lSur => k_is)
    (case qSur => k_is)
    (case kSur => k_is)
    (case aSid => k_is)
    (case lSid => k_is)
    (case qSid => k_is)
    (case kSid => k_is)
    (case aLow => k_is)
    (case lLow => k_is)
    (case qLow => k_is)
    (case kLow => k_is)
    (case aLea => k_is)
    (case lLea => k_is)
    (case qLea => k_is)
    (case kLea => k_is)
    (case aBlk => k_is)
    (case lBlk => k_is)
    (case qBlk => k_is)
    (case kBlk => k_is)
    (case aHas => k_is)
    (case lHas => k_is)
    (case qHas => k_is)
    (case kHas => k_is)
    (case aSrc => k_is)
    (case lSrc => k_is)
    (case qSrc => k_is)
    (case kSrc => k_is)
    (case aDrw => k_is)
    (case lDrw => k_is)
    (case qDrw => k_is)
    (case kDrw => k_is)
    (case aLB => k_is)
    (case lLB => k_is)
    (case qLB => k_is)
    (case kLB => k_is)
    (case aRow => k_is)
    (case lRow => k_is)
    (case qRow => k_is)
    (case kRow => k_is)
    (case aWrd => k_is)
    (case lWrd => k_is)
    (case qWrd => k_is)
    (case kWrd => k_is)
    (case aFew => k_is)
    (case lFew => k_is)
    (case qFew => k_is)
    (case kFew => k_is)
    (case aLaw => k_is)
    (case lLaw => k_is)
    (case qLaw => k_is)
    (case kLaw => k_is)
    (case amI => k_is)
    (case imI => k_is)
    (case nmI => k_is)
    (case lmI => k_is)
    (case qmI => k_is)
    (case kmI => k_is)
    (case amDb => k_is)
    (case imDb => k_is)
    (case nmDb => k_is)
    (case lmDb => k_is)
    (case qmDb => k_is)
    (case kmDb => k_is)
    (case amBl => k_is)
    (case imBl => k_is)
    (case nmBl => k_is)
    (case lmBl => k_is)
    (case qmBl => k_is)
    (case kmBl => k_is)
    (case amG => k_is)
    (case imG => k_is)
    (case nmG => k_is)
    (case lmG => k_is)
    (case qmG => k_is)
    (case kmG => k_is)
    (case amH => k_is)
    (case imH => k_is)
    (case nmH => k_is)
    (case lmH => k_is)
    (case qmH => k_is)
    (case kmH => k_is)
    (case amE => k_is)
    (case imE => k_is)
    (case nmE => k_is)
    (case lmE => k_is)
    (case qmE => k_is)
    (case kmE => k_is)
    (case amBo => k_is)
    (case imBo => k_is)
    (case nmBo => k_is)
    (case lmBo => k_is)
    (case qmBo => k_is)
    (case kmBo => k_is)
    (case apL => k_is)
    (case gpL => k_is)
    (case tpL => k_is)
    (case rpL => k_is)
    (case lpL => k_is)
    (case qpL => k_is)
    (case kpL => k_is)
    (case apW => k_is)
    (case gpW => k_is)
    (case tpW => k_is)
    (case rpW => k_is)
    (case lpW => k_is)
    (case qpW => k_is)
    (case kpW => k_is)
    (case apD => k_is)
    (case gpD => k_is)
    (case tpD => k_is)
    (case rpD => k_is)
    (case lpD => k_is)
    (case qpD => k_is)
    (case kpD => k_is)
    (case apS => k_is)
    (case gpS => k_is)
    (case tpS => k_is)
    (case rpS => k_is)
    (case lpS => k_is)
    (case qpS => k_is)
    (case kpS => k_is)
    (case apR => k_is)
    (case gpR => k_is)
    (case tpR => k_is)
    (case rpR => k_is)
    (case lpR => k_is)
    (case qpR => k_is)
    (case kpR => k_is)
    (case pgS => k_is)
    (case hdS => k_is)
    (case poS => k_is)
    (case saS => k_is)
    (case mkS => k_is)
    (case kcS => k_is)
    (case no0 => k_is)
    (case no1 => k_is)
    (case no2 => k_is)
    (case ixa => k_is)
    (case ixn => k_is)
    (case ixt => k_is)
    (case ixm => k_is)
    (case gdS => k_is)
    (case z0 => k_is)
    (case z1 => k_is)
    (case z2 => k_is)
    (case z3 => k_is)
    (case z4 => k_is)
    (case z5 => k_is)
    (case z6 => k_is)
    (case z7 => k_is)
    (case z8 => k_is)
    (case z9 => k_is)
    (case z10 => k_is)
    (case z11 => k_is)
    (case z12 => k_is)
