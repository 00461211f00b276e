import PyProof.Rows.All
import Wide.All
import OpenK.AllK
import Wide.FinOn
import HandS.ForMost
import HandS.Wide
import HandS.IsInst
import HandS.Strs
import PySem.Challenge.RW_mustoccur_k51_whole_two_blocks_agree_onc
set_option Elab.async false
set_option maxRecDepth 100000
set_option maxHeartbeats 8000000

/-! The plain law: blocks of letters modulo a prime q. No program in sight. -/
namespace K51
/-- the modulus for 1 ≤ count ≤ 8 -/
def qN (c : Nat) : Nat := if c ≤ 1 then 5 else if c ≤ 2 then 7 else if c ≤ 4 then 11 else if c ≤ 5 then 13 else if c ≤ 7 then 17 else 19
/-- the least six moduli -/
def Six (q : Nat) : Prop := q = 5 ∨ q = 7 ∨ q = 11 ∨ q = 13 ∨ q = 17 ∨ q = 19
theorem six_q (c : Nat) : Six (qN c) := by
  unfold qN Six
  repeat' split
  all_goals decide
theorem Six.pos {q : Nat} (h : Six q) : 5 ≤ q ∧ q ≤ 19 := by
  unfold Six at h
  omega
/-- no divisor from 2 on -/
def primeN (n : Nat) : Bool := (List.range (n - 2)).all fun k => n % (2 + k) != 0
def searchAll : Bool := (List.range 9).all fun c => c == 0 || (Nat.ble (2 * c + 2) (qN c) && (List.range 20).all fun n => !Nat.ble (2 * c + 2) n || !Nat.ble n (qN c) || (primeN n == (n == qN c)))
theorem search_all : searchAll = true := by decide +kernel
theorem search_at {c : Nat} (h1 : 1 ≤ c) (h8 : c ≤ 8) : 2 * c + 2 ≤ qN c ∧ ∀ n, 2 * c + 2 ≤ n → n ≤ qN c → primeN n = (n == qN c) := by
  have h := search_all
  unfold searchAll at h
  have h2 := List.all_eq_true.mp h c (List.mem_range.mpr (by omega))
  have hc : (c == 0) = false := beq_eq_false_iff_ne.mpr (by omega)
  rw [hc, Bool.false_or, Bool.and_eq_true] at h2
  refine ⟨Nat.le_of_ble_eq_true h2.1, fun n ha hb => ?_⟩
  have h3 := List.all_eq_true.mp h2.2 n (List.mem_range.mpr (by
    have := (six_q c).pos
    omega))
  rw [Nat.ble_eq_true_of_le ha, Nat.ble_eq_true_of_le hb] at h3
  simpa using h3
/-- the letter at place k of the block of c -/
def atN (q c k : Nat) : Nat := k * q + (c / q + c % q * k) % q
def blkN (q c : Nat) : List Nat := (List.range q).map (atN q c)
theorem blk_len (q c : Nat) : (blkN q c).length = q := by
  unfold blkN
  rw [List.length_map, List.length_range]
theorem blk_get {q c k : Nat} (h : k < q) : (blkN q c)[k]? = some (atN q c k) := by
  unfold blkN
  rw [List.getElem?_map, List.getElem?_range h]
  rfl
theorem at_div {q c k : Nat} (hq : 0 < q) : atN q c k / q = k := by
  unfold atN
  rw [Nat.mul_comm k q, Nat.mul_add_div hq, Nat.div_eq_of_lt (Nat.mod_lt _ hq), Nat.add_zero]
theorem at_mod {q c k : Nat} : atN q c k % q = (c / q + c % q * k) % q := by
  unfold atN
  rw [Nat.mul_comm k q, Nat.mul_add_mod, Nat.mod_mod]
theorem at_eq {q c d k : Nat} : atN q c k = atN q d k ↔ (c / q + c % q * k) % q = (d / q + d % q * k) % q := by
  unfold atN
  omega
/-- L stands in the block of c if and only if the line of c passes through its point -/
theorem mem_blk {q c L : Nat} (hq : 0 < q) (hL : L < q * q) : L ∈ blkN q c ↔ (c / q + c % q * (L / q)) % q = L % q := by
  unfold blkN
  rw [List.mem_map]
  constructor
  · rintro ⟨k, _, rfl⟩
    rw [at_div hq, at_mod]
  · intro e
    refine ⟨L / q, List.mem_range.mpr (Nat.div_lt_of_lt_mul hL), ?_⟩
    unfold atN
    rw [e, Nat.mul_comm]
    exact Nat.div_add_mod L q
/-- and then at the place L / q alone -/
theorem blk_at {q c L : Nat} (hq : 0 < q) (h : L ∈ blkN q c) : (blkN q c)[L / q]? = some L ∧ ∀ m z, m < L / q → (blkN q c)[m]? = some z → z ≠ L := by
  have h2 := h
  unfold blkN at h2
  rw [List.mem_map] at h2
  obtain ⟨k, hk, rfl⟩ := h2
  rw [at_div hq]
  refine ⟨blk_get (List.mem_range.mp hk), fun m z hm hz e => ?_⟩
  have hk2 := List.mem_range.mp hk
  rw [blk_get (by omega)] at hz
  have e2 : atN q c m = atN q c k := (Option.some.inj hz).trans e
  have e3 := congrArg (· / q) e2
  simp only [at_div hq] at e3
  omega
/-- FINITE: one root of a line that is not level -/
def oneRoot (q : Nat) : Bool := (List.range q).all fun e => (List.range q).all fun f => f == 0 || ((List.range q).filter fun k => (e + f * k) % q == 0).length == 1
theorem one_root {q : Nat} (h : Six q) : oneRoot q = true := by
  unfold Six at h
  rcases h with rfl | rfl | rfl | rfl | rfl | rfl <;> decide +kernel
/-- FINITE: through each point (j, r) of the plane q of the q * q lines -/
def manyLines (q : Nat) : Bool := (List.range q).all fun j => (List.range q).all fun r => ((List.range (q * q)).filter fun c => (c / q + c % q * j) % q == r).length == q
theorem many_lines {q : Nat} (h : Six q) : manyLines q = true := by
  unfold Six at h
  rcases h with rfl | rfl | rfl | rfl | rfl | rfl <;> decide +kernel
theorem root_iff {q a b a' b' : Nat} (hq : 0 < q) (k : Nat) :
    (a + b * k) % q = (a' + b' * k) % q ↔ ((((a : Int) - a') % q).toNat + (((b : Int) - b') % q).toNat * k) % q = 0 := by
  have hqz : (q : Int) ≠ 0 := by omega
  have h1 : 0 ≤ ((a : Int) - a') % q := Int.emod_nonneg _ hqz
  have h2 : 0 ≤ ((b : Int) - b') % q := Int.emod_nonneg _ hqz
  have e1 : ((((a : Int) - a') % q).toNat : Int) = ((a : Int) - a') % q := Int.toNat_of_nonneg h1
  have e2 : ((((b : Int) - b') % q).toNat : Int) = ((b : Int) - b') % q := Int.toNat_of_nonneg h2
  have c1 : ((a + b * k) % q = (a' + b' * k) % q) ↔ (((a : Int) + b * k) % q = ((a' : Int) + b' * k) % q) := by
    rw [← Int.natCast_inj]
    simp only [Int.natCast_emod, Int.natCast_add, Int.natCast_mul]
  have c2 : (((((a : Int) - a') % q).toNat + (((b : Int) - b') % q).toNat * k) % q = 0) ↔ ((((a : Int) - a') % q + ((b : Int) - b') % q * k) % q = 0) := by
    rw [← Int.natCast_inj]
    simp only [Int.natCast_emod, Int.natCast_add, Int.natCast_mul, e1, e2]
    rfl
  rw [c1, c2, Int.emod_eq_emod_iff_emod_sub_eq_zero]
  have e3 : ((a : Int) + b * k) - (a' + b' * k) = (a - a') + (b - b') * k := by
    rw [Int.sub_mul]
    omega
  rw [e3, Int.add_emod, Int.mul_emod]
  conv => rhs; rw [Int.add_emod, Int.emod_emod, Int.mul_emod, Int.emod_emod]
/-- THE LAW OF TWO BLOCKS -/
theorem alike {q c d : Nat} (hs : Six q) (hc : c < q * q) (hd : d < q * q) :
    ((List.range q).filter fun k => decide (atN q c k = atN q d k)).length = if c = d then q else if c % q ≠ d % q then 1 else 0 := by
  have hq : 0 < q := by
    have := hs.pos
    omega
  by_cases hcd : c = d
  · subst hcd
    rw [if_pos rfl, List.filter_eq_self.mpr (fun k _ => decide_eq_true rfl), List.length_range]
  rw [if_neg hcd]
  by_cases hb : c % q = d % q
  · rw [if_neg (by simpa using hb)]
    have hn : ((List.range q).filter fun k => decide (atN q c k = atN q d k)) = [] := by
      rw [List.filter_eq_nil_iff]
      intro k _ h
      have h2 := at_eq.mp (of_decide_eq_true h)
      rw [hb] at h2
      have h3 : (((c / q + d % q * k : Nat) : Int)) % q = ((d / q + d % q * k : Nat) : Int) % q := by
        rw [← Int.natCast_emod, ← Int.natCast_emod, h2]
      rw [Int.natCast_add, Int.natCast_add, Int.emod_add_cancel_right, ← Int.natCast_emod, ← Int.natCast_emod, Int.natCast_inj,
        Nat.mod_eq_of_lt (Nat.div_lt_of_lt_mul hc), Nat.mod_eq_of_lt (Nat.div_lt_of_lt_mul hd)] at h3
      refine hcd ?_
      rw [← Nat.div_add_mod c q, ← Nat.div_add_mod d q, hb, h3]
    rw [hn]
    rfl
  · rw [if_pos hb]
    have h1 := one_root hs
    unfold oneRoot at h1
    have h2 := List.all_eq_true.mp h1 (((((c / q : Nat) : Int)) - (d / q : Nat)) % q).toNat (List.mem_range.mpr (by
      have := Int.emod_lt_of_pos ((((c / q : Nat) : Int)) - (d / q : Nat)) (show (0 : Int) < q by omega)
      omega))
    have h3 := List.all_eq_true.mp h2 (((((c % q : Nat) : Int)) - (d % q : Nat)) % q).toNat (List.mem_range.mpr (by
      have := Int.emod_lt_of_pos ((((c % q : Nat) : Int)) - (d % q : Nat)) (show (0 : Int) < q by omega)
      omega))
    rw [Bool.or_eq_true, beq_iff_eq, beq_iff_eq] at h3
    rcases h3 with h3 | h3
    · exfalso
      have b1 := Nat.mod_lt c hq
      have b2 := Nat.mod_lt d hq
      have z0 := Int.emod_nonneg ((((c % q : Nat) : Int)) - (d % q : Nat)) (show (q : Int) ≠ 0 by omega)
      have z : ((((c % q : Nat) : Int)) - (d % q : Nat)) % q = 0 := by omega
      rw [← Int.emod_eq_emod_iff_emod_sub_eq_zero, ← Int.natCast_emod, ← Int.natCast_emod, Int.natCast_inj, Nat.mod_mod, Nat.mod_mod] at z
      exact hb z
    · rw [← h3]
      refine congrArg List.length (List.filter_congr fun k _ => ?_)
      rw [Bool.eq_iff_iff, decide_eq_true_iff, beq_iff_eq, at_eq]
      exact root_iff hq k
/-- THE LAW OF THE OWNERS -/
theorem owners {q L : Nat} (hs : Six q) (hL : L < q * q) : ((List.range (q * q)).filter fun c => decide (L ∈ blkN q c)).length = q := by
  have hq : 0 < q := by
    have := hs.pos
    omega
  have h1 := many_lines hs
  unfold manyLines at h1
  have h2 := List.all_eq_true.mp h1 (L / q) (List.mem_range.mpr (Nat.div_lt_of_lt_mul hL))
  have h3 := beq_iff_eq.mp (List.all_eq_true.mp h2 (L % q) (List.mem_range.mpr (Nat.mod_lt _ hq)))
  refine Eq.trans (congrArg List.length (List.filter_congr fun c _ => ?_)) h3
  rw [Bool.eq_iff_iff, decide_eq_true_iff, beq_iff_eq]
  exact mem_blk hq hL
end K51

/-! The walk through the program of the law k51, a promise a def. -/
namespace K51
open PySem L2 PyProof.Rows
def top (i : Nat) : Stmt := PySem.Challenge.pw_mustoccur_k51_whole_two_blocks_agree_onc.main.body.getD i (.Pass ⟨0, 0, 0, 0⟩)
abbrev sIsInt : Stmt := top 4
abbrev sBetween : Stmt := top 5
abbrev sNeed : Stmt := top 6
abbrev sPrime : Stmt := top 8
abbrev sModOf : Stmt := top 9
abbrev sMod : Stmt := top 10
abbrev sLetter : Stmt := top 11
abbrev sBlockOf : Stmt := top 12
abbrev sBlock : Stmt := top 13
abbrev sPen : Stmt := top 15
abbrev sDraw : Stmt := top 16
abbrev sLaw : Stmt := top 17
/-- naturals as values -/
def ivs (l : List Nat) : List V := l.map fun (k : Nat) => V.int (k : Int)
theorem same_new {H : Hp} {p : Addr} {o : HO} (h : H p = none) : Same H (upd H p o) := fun b x e => by
  rw [upd_ne (ne_of_none e h)]
  exact e
/-- a tuple of no own dict stands at p, read only -/
def TupAt (H : Hp) (p : Addr) (ys : List V) : Prop := ∃ ob : Obj, H p = some (.frz ob (.tup ys)) ∧ ob.dict = none
theorem TupAt.seq {K : PySem.W.Frag} {H : Hp} {p : Addr} {ys : List V} (h : TupAt H p ys) : SqT K H p ys := by
  obtain ⟨ob, e, _⟩ := h
  exact .inl (.inr ⟨ob, e⟩)
theorem TupAt.same {H H' : Hp} {p : Addr} {ys : List V} (h : TupAt H p ys) (s : Same H H') : TupAt H' p ys := by
  obtain ⟨ob, e, d⟩ := h
  exact ⟨ob, s _ _ e, d⟩
section
variable {X : Cx}
/-- tuple(xs) of a list: the new tuple is told with its object, which bears no dict -/
theorem call_tuple_told : CallR X (.type "tuple") (fun xs H Q => ∃ p ys, xs = [.ref p] ∧ SqL X.K H p ys ∧ ∀ l, H l = none → ∀ ob : Obj, ob.dict = none → Q (.ref l) (upd H l (.frz ob (.tup ys)))) := by
  intro pins s σ H xs us Q I r h
  obtain ⟨p, ys, rfl, hq, q⟩ := h
  obtain ⟨u, rfl, rx⟩ := vals1 r
  cases rx
  obtain ⟨its, rv, pl, hz⟩ := I.list hq
  have ln := rv.length
  refine call_tuple_list pl.isList (fun hh kp => ?_) ?_
  · have J : Inv X pins σ H { s with heap := hh } := I.kept (t' := s.toks) kp
    have J2 : Inv X pins σ (upd H hh.objs.size (.frz { cls := .type "tuple", data := .seq its.toArray } (.tup ys))) { s with heap := hh.push { cls := .type "tuple", data := .seq its.toArray } } :=
      J.laid (t' := s.toks) (fun b o e => Heap.get?_push_of_some _ e) (Nat.le_refl _) ⟨Heap.get?_push_size _ rfl, hz, its, rv, IsTup.new _ _⟩
    exact ⟨.ref hh.objs.size, _, J2, rfl, q _ (J.hok.fresh (Nat.le_refl _)) _ rfl⟩
  · rw [List.size_toArray]
    omega
/-- t.index(y) of such a tuple of flat items: the first place -/
def tTix (to : TE) (ta : TA) : TE := fun σ H Q => to σ H fun x H1 => ∃ (p : Addr) (ob : Obj) (ys : List V), x = .ref p ∧ H1 p = some (.frz ob (.tup ys)) ∧ ob.dict = none ∧
  ta σ H1 fun vs H2 => ∃ (y z : V) (j : Nat), vs = [y] ∧ H2 p = some (.frz ob (.tup ys)) ∧ flatV y = true ∧ ys.all flatV = true ∧ ys[j]? = some z ∧ eqV z y = true ∧ (∀ (m : Nat) (z' : V), m < j → ys[m]? = some z' → eqV z' y = false) ∧ Q (.int (j : Nat)) H2
theorem first_place {pins : List (Addr × Obj)} {σ : L2.St} {H : Hp} {s : Shared} {p : Addr} {ob : Obj} {ys : List V} {y z : V} {uy : Value} {j : Nat} {Q : VK} (I : Inv X pins σ H s) (e : H p = some (.frz ob (.tup ys))) (ry : RelV y uy)
    (fy : flatV y = true) (fys : ys.all flatV = true) (hz : ys[j]? = some z) (hzj : eqV z y = true) (hno : ∀ (m : Nat) (z' : V), m < j → ys[m]? = some z' → eqV z' y = false) (q : Q (.int (j : Nat)) H) :
    wpAny (model X.prog X.w) X.A (call (.builtin "tuple.index") [.ref p, uy]) (EP X pins σ Q) X.xe s := by
  obtain ⟨ho, hl, its, rv, ob', ho', hc, n, hd⟩ := I.hok p _ e
  obtain rfl : ob' = ob := Option.some.inj (ho'.symm.trans ho)
  obtain ⟨cls, dd, data, sl⟩ := ob'
  simp only at hc hd
  subst hc hd
  have lens := rv.length
  have at_ : ∀ (m : Nat) (hm : m < its.toArray.size), ∃ (w : V), ys[m]? = some w ∧ eqU y its.toArray[m] = eqV w y := fun m hm => by
    have hm2 : m < its.length := by simpa using hm
    have hm3 : m < ys.length := by omega
    obtain ⟨u, hu, ru⟩ := rv.get (List.getElem?_eq_getElem hm3)
    refine ⟨ys[m], List.getElem?_eq_getElem hm3, ?_⟩
    have eu : its.toArray[m] = u := by
      have := (List.getElem?_eq_some_iff.mp hu).2
      simpa using this
    rw [eu]
    exact eqU_of ru (List.all_eq_true.mp fys _ (List.getElem_mem hm3))
  have hj : j < its.toArray.size := by
    have := (List.getElem?_eq_some_iff.mp hz).1
    rw [List.size_toArray]
    omega
  refine call_meets F.slot_tuple_index ⟨_, ho, rfl⟩ F.entry_tuple_index (F.args_tuple_index_2 _ _)
    (TI.tuple_indexAt p its.toArray n dd sl uy (eqU y) j hj ?_ ?_) ⟨ho, fun v hv => mem_eqAt ry fy rv fys v (by simpa using hv), .int (j : Nat), H, I.tok _, ⟨_, rfl⟩, q⟩
  · obtain ⟨w, e1, e2⟩ := at_ j hj
    obtain rfl : w = z := Option.some.inj (e1.symm.trans hz)
    rw [e2]
    exact hzj
  · intro m hm hmj
    obtain ⟨w, e1, e2⟩ := at_ m hm
    rw [e2]
    exact hno m w hmj e1
theorem pe_tix {x y : Str} {px py apos cpos : Pos} {to : TE} {ta : TA} (ho : PE X (.Name x px) to) (ha : PA X [.Name y py] ta)
    (hbase : attributeBase (.Name x px) "index" X.env (eval (.Name x px) X.env) = eval (.Name x px) X.env := by rfl) (hline : (apos.endLine == cpos.line) = true := by rfl) :
    PE X (.Call (.Attribute (.Name x px) "index" apos) [.Name y py] [] cpos) (tTix to ta) := by
  refine ⟨fun pins s σ H Q I h => ?_⟩
  refine wpAny_Call_method_late hbase (by rfl) hline rfl (thn (ho.run pins s σ H _ I h) fun v s1 ⟨x1, H1, I1, r1, q1⟩ => ?_)
  obtain ⟨p, ob, ys, rfl, e1, hd, q1⟩ := q1
  cases r1
  obtain ⟨hg, hl, its, rv, ob', ho', hc, n, hdata⟩ := I1.hok p _ e1
  obtain rfl : ob' = ob := Option.some.inj (ho'.symm.trans hg)
  refine ⟨"tuple", "tuple.index", F.plainAttrs_tuple, F.slot_tuple_index, F.type_tuple_index, ⟨ob', hg, hc⟩, fun a ea => ?_, ?_⟩
  · cases ea
    exact ⟨ob', hg, hd⟩
  · refine Calls.callWith_builtin (by rfl) (Calls.evalArgs_plain ?_)
    refine thn (ha.run cpos pins s1 σ H1 _ I1 q1) fun us s2 ⟨vs, H2, I2, r2, q2⟩ => ?_
    obtain ⟨y2, z, j, rfl, e2, fy, fys, hz, hzj, hno, q⟩ := q2
    obtain ⟨uy, rfl, ry⟩ := vals1 r2
    exact first_place I2 e2 ry fy fys hz hzj hno q
end
/-- names of the interpreter's own that the text leaves alone, and the one constant -/
structure Txt (mg : Str → Option Value) : Prop where
  isi : mg "isinstance" = none
  int : mg "int" = none
  bool : mg "bool" = none
  all : mg "all" = none
  range : mg "range" = none
  tuple : mg "tuple" = none
  list : mg "list" = none
  abs : mg "abs" = none
  min : mg "min" = none
  len : mg "len" = none
  mx : ∃ t, mg "MAX_VARIABLES" = some (.int 8 t)
def spIsInt : Sp := fun vs H Q _ => ∃ n : Int, vs = [.int n] ∧ Q (.bl true) H
def spBetween : Sp := fun vs H Q _ => ∃ n a b : Int, vs = [.int n, .int a, .int b] ∧ a ≤ n ∧ n ≤ b ∧ Q (.bl true) H
def spNeed : Sp := fun vs H Q _ => ∃ n a b : Int, vs = [.int n, .int a, .int b] ∧ a ≤ n ∧ n ≤ b ∧ Q .non H
def spPrime : Sp := fun vs H Q _ => ∃ n : Nat, vs = [.int n] ∧ n ≤ 1000 ∧ ∀ H', Same H H' → Q (.bl (primeN n)) H'
def spMod : Sp := fun vs H Q _ => ∃ c : Nat, vs = [.int c] ∧ 1 ≤ c ∧ c ≤ 8 ∧ ∀ H', Same H H' → Q (.int (qN c : Nat)) H'
def spLetter : Sp := fun vs H Q _ => ∃ q c k : Nat, vs = [.int q, .int c, .int k] ∧ 0 < q ∧ q ≤ 1000 ∧ c ≤ 1000000 ∧ k ≤ 1000 ∧ Q (.int (atN q c k : Nat)) H
def spBlockOf : Sp := fun vs H Q _ => ∃ q c : Nat, vs = [.int q, .int c] ∧ 0 < q ∧ q ≤ 1000 ∧ c ≤ 1000000 ∧ ∀ H' p, Same H H' → H p = none → TupAt H' p (ivs (blkN q c)) → Q (.ref p) H'
def spBlock : Sp := fun vs H Q _ => ∃ n c : Nat, vs = [.int n, .int c] ∧ 1 ≤ n ∧ n ≤ 8 ∧ c < qN n * qN n ∧ ∀ H' p, Same H H' → H p = none → TupAt H' p (ivs (blkN (qN n) c)) → Q (.ref p) H'
section
variable {P : Program} {w : World} {K : PySem.W.Frag} {mg : Str → Option Value} {base : Heap}
/-! ### is_integer -/
theorem scII : FnScope ["value"] ["value"] (defScope sIsInt) := ⟨rfl, rfl, rfl, by decide +kernel, rfl, by decide +kernel, by decide +kernel⟩
theorem ok_isint {f : Addr} {fd : FuncData} (F : Fun K "is_integer" "is_integer" sIsInt f fd) (T : Txt mg) : FnOk P w K mg base CX0 1 f fd ["value"] spIsInt := by
  refine F.ok scII (fun vs H Q E h => ?_) (fun cdv A outer s H vs Q E hr h => ?_)
  · obtain ⟨n, rfl, _⟩ := h
    rfl
  · obtain ⟨n, rfl, k⟩ := h
    refine ⟨_, pss_one (ps_ret (pe_and (pe_callB call_isi (by rfl) T.isi boot_isinstance (pa_cons (pv 0) (pa_cons (pe_bltn (v := .ty "int") (by rfl) T.int boot_int rfl) pa_nil)))
      (pe_one (pe_not (pe_callB call_isi (by rfl) T.isi boot_isinstance (pa_cons (pv 0) (pa_cons (pe_bltn (v := .ty "bool") (by rfl) T.bool boot_bool rfl) pa_nil))))))), ?_⟩
    refine ⟨.int n, rfl, .int n, .ty "int", .type "int", .type "int", true, rfl, .ty _, .base (.int n), kit_ty (by decide +kernel), true, rfl, iteT ?_⟩
    refine ⟨.int n, rfl, .int n, .ty "bool", .type "int", .type "bool", false, rfl, .ty _, .base (.int n), kit_ty (by decide +kernel), false, rfl, ?_⟩
    exact k
/-! ### is_between -/
theorem scIB : FnScope ["value", "low", "high"] ["value", "low", "high"] (defScope sBetween) := ⟨rfl, rfl, rfl, by decide +kernel, rfl, by decide +kernel, by decide +kernel⟩
theorem ok_between {f f1 : Addr} {fd fd1 : FuncData} (F : Fun K "is_between" "is_between" sBetween f fd) (F1 : Fun K "is_integer" "is_integer" sIsInt f1 fd1) (b1 : Binds K fd1 ["value"] []) (g1 : mg "is_integer" = some (.ref f1)) (T : Txt mg) :
    FnOk P w K mg base CX0 2 f fd ["value", "low", "high"] spBetween := by
  have G1 : FnOk P w K mg base CX0 1 f1 fd1 ["value"] spIsInt := ok_isint F1 T
  refine F.ok scIB (fun vs H Q E h => ?_) (fun cdv A outer s H vs Q E hr h => ?_)
  · obtain ⟨n, a, b, rfl, _⟩ := h
    rfl
  · obtain ⟨n, a, b, rfl, h1, h2, k⟩ := h
    refine ⟨_, pss_one (ps_ret (pe_and (pe_call G1 hr (by rfl) g1 F1.kp b1 .nil pass0 (pa_cons (pv 0) pa_nil)) (pe_one (pe_chain op_le op_le (pv 1) (pv 0) (pv 2))))), ?_⟩
    refine ⟨.int n, rfl, n, rfl, true, rfl, iteT ?_⟩
    refine ⟨.int a, rfl, .int n, rfl, a, n, rfl, rfl, true, congrArg V.bl (decide_eq_true h1), iteT ?_⟩
    refine ⟨.int b, rfl, n, b, rfl, rfl, ?_⟩
    show Q (V.bl (decide (n ≤ b))) H
    rw [decide_eq_true h2]
    exact k
/-! ### need_count -/
theorem scNC : FnScope ["value", "low", "high"] ["value", "low", "high"] (defScope sNeed) := ⟨rfl, rfl, rfl, by decide +kernel, rfl, by decide +kernel, by decide +kernel⟩
theorem ok_need {f f1 : Addr} {fd fd1 : FuncData} (F : Fun K "need_count" "need_count" sNeed f fd) (F1 : Fun K "is_between" "is_between" sBetween f1 fd1) (b1 : Binds K fd1 ["value", "low", "high"] []) (g1 : mg "is_between" = some (.ref f1))
    (G1 : FnOk P w K mg base CX0 2 f1 fd1 ["value", "low", "high"] spBetween) : FnOk P w K mg base CX0 3 f fd ["value", "low", "high"] spNeed := by
  refine F.ok scNC (fun vs H Q E h => ?_) (fun cdv A outer s H vs Q E hr h => ?_)
  · obtain ⟨n, a, b, rfl, _⟩ := h
    rfl
  · obtain ⟨n, a, b, rfl, h1, h2, k⟩ := h
    refine ⟨_, pss_one (ps_if (pt_not (pt_val (pe_call G1 hr (by rfl) g1 F1.kp b1 .nil pass0 (pa_cons (pv 0) (pa_cons (pv 1) (pa_cons (pv 2) pa_nil)))))) (pss_one ps_never) pss_nil), ?_⟩
    refine ⟨.int n, rfl, .int a, rfl, .int b, rfl, n, a, b, rfl, h1, h2, true, rfl, iteF ?_⟩
    exact k
/-! ### is_prime -/
theorem scIP : FnScope ["number", "divisor"] ["number"] (defScope sPrime) := ⟨rfl, rfl, rfl, by decide +kernel, rfl, by decide +kernel, by decide +kernel⟩
theorem rest_bool (n i : Nat) : (!decide (V.int ((n : Int) % (2 + (i : Int))) = V.int 0)) = (n % (2 + i) != 0) := by
  have e : ((n : Int) % (2 + (i : Int))) = ((n % (2 + i) : Nat) : Int) := by
    rw [Int.natCast_emod, Int.natCast_add]
    rfl
  rw [e, Bool.eq_iff_iff, Bool.not_eq_true', decide_eq_false_iff_not, bne_iff_ne]
  constructor
  · intro h z
    exact h (by rw [z]; rfl)
  · intro h z
    exact h (by have := V.int.inj z; omega)
theorem ok_prime {f : Addr} {fd : FuncData} (F : Fun K "is_prime" "is_prime" sPrime f fd) (T : Txt mg) : FnOk P w K mg base CX0 1 f fd ["number"] spPrime := by
  refine F.ok scIP (fun vs H Q E h => ?_) (fun cdv A outer s H vs Q E hr h => ?_)
  · obtain ⟨n, rfl, _⟩ := h
    rfl
  · obtain ⟨n, rfl, hn, k⟩ := h
    refine ⟨_, pss_one (ps_ret (pe_callB (cr_all rfl) (by rfl) T.all boot_all (pa_cons (pe_lc (own := [("divisor", 1)]) (g := gName 1) (tt := tYes) rfl scIP.nd (pi_range2 (by rfl) T.range (pa_cons pe_int (pa_cons (pv 0) pa_nil)))
      (blkOk_by (own := [("divisor", 1)]) (N := ["number", "divisor"]) (sc := defScope sPrime) (by decide +kernel)) (fun _ _ _ _ _ => pg_name (i := 1) scIP.nd rfl (Or.inl rfl)) (fun _ _ _ _ _ => pts_nil)
      (fun _ _ _ _ _ => pe_cmpR op_ne (pe_op op_mod (pv 0) (pv 1)) pe_int (nomark _))) pa_nil))), ?_⟩
    refine ⟨.int n, rfl, 2, n, rfl, by omega, fun D hD => ?_⟩
    have es : (((n : Int) - 2)).toNat = n - 2 := by omega
    rw [es]
    refine lc_range (lo := 2) (n := n - 2) (fun i H' => Same H H' ∧ H' D = some (.lst ((List.range i).map fun k => V.bl (n % (2 + k) != 0)))) ⟨same_new hD, upd_same⟩ ?_ ?_
    · rintro i H1 hi ⟨sm, eD⟩
      refine ⟨rfl, ?_⟩
      refine ⟨_, rfl, _, rfl, n, 2 + (i : Int), rfl, rfl, by omega, rfl, _, eD, ?_, ?_, ?_⟩
      · rw [List.length_map, List.length_range]
        exact small1000 (by omega)
      · intro b o e
        rw [upd_ne (ne_of_none e hD)]
        exact sm b o e
      · rw [upd_same, rest_bool, List.range_succ, List.map_append]
        rfl
    · rintro H1 ⟨sm, eD⟩
      refine ⟨D, (List.range (n - 2)).map fun k => n % (2 + k) != 0, rfl, ?_, ?_⟩
      · rw [List.map_map]
        exact SqL.of eD
      · have e : ((List.range (n - 2)).map fun k => n % (2 + k) != 0).all id = primeN n := by
          unfold primeN
          rw [List.all_map]
          rfl
        rw [e]
        exact k H1 sm
/-! ### modulus_of -/
theorem scMO : FnScope ["count", "number"] ["count"] (defScope sModOf) := ⟨rfl, rfl, rfl, by decide +kernel, rfl, by decide +kernel, by decide +kernel⟩
theorem ok_modof {f f1 : Addr} {fd fd1 : FuncData} (F : Fun K "modulus_of" "modulus_of" sModOf f fd) (F1 : Fun K "is_prime" "is_prime" sPrime f1 fd1) (b1 : Binds K fd1 ["number"] []) (g1 : mg "is_prime" = some (.ref f1)) (T : Txt mg) :
    FnOk P w K mg base CX0 2 f fd ["count"] spMod := by
  have G1 : FnOk P w K mg base CX0 1 f1 fd1 ["number"] spPrime := ok_prime F1 T
  refine F.ok scMO (fun vs H Q E h => ?_) (fun cdv A outer s H vs Q E hr h => ?_)
  · obtain ⟨n, rfl, _⟩ := h
    rfl
  · obtain ⟨c, rfl, h1, h8, k⟩ := h
    obtain ⟨hlow, hfind⟩ := search_at h1 h8
    have hq19 := (six_q c).pos
    refine ⟨_, pss_cons (ps_set (i := 1) scMO.nd rfl (Or.inl rfl) (pe_op op_add (pe_op op_mul pe_int (pv 0)) pe_int))
      (pss_cons (ps_while PassesOwn.never (pt_not (pt_val (pe_call G1 hr (by rfl) g1 F1.kp b1 .nil pass0 (pa_cons (pv 1) pa_nil)))) (pss_one (ps_aug (i := 1) scMO.nd rfl (Or.inl rfl) pe_int ip_add)))
      (pss_one (ps_ret (pv 1)))), ?_⟩
    refine ⟨_, rfl, 2, c, rfl, rfl, .inl (by decide), 2 * (c : Int), 2, rfl, rfl, ?_⟩
    refine ⟨fun m σ H' => ∃ n : Nat, m = qN c - n ∧ 2 * c + 2 ≤ n ∧ n ≤ qN c ∧ σ = [some (.int c), some (.int n)] ∧ Same H H', ⟨_, 2 * c + 2, rfl, Nat.le_refl _, hlow, ?_, Same.refl H⟩, ?_⟩
    · have e : ((2 * c + 2 : Nat) : Int) = 2 * (c : Int) + 2 := by omega
      rw [e]
      rfl
    · rintro m σ H1 ⟨n, rfl, ha, hb, rfl, sm⟩
      refine ⟨.int n, rfl, n, rfl, by omega, fun H2 s2 => ⟨primeN n, rfl, ?_⟩⟩
      rw [hfind n ha hb]
      by_cases hn : n = qN c
      · rw [beq_iff_eq.mpr hn]
        refine iteF ?_
        refine ⟨_, rfl, ?_⟩
        rw [hn]
        exact k H2 (sm.trans s2)
      · rw [beq_eq_false_iff_ne.mpr hn]
        refine iteT ?_
        refine ⟨fun σ' H' => σ' = [some (.int c), some (.int (n + 1 : Nat))] ∧ Same H H', fun σ' H' hN => ⟨qN c - (n + 1), by omega, n + 1, rfl, by omega, by omega, hN.1, hN.2⟩, ?_⟩
        refine ⟨.int n, rfl, n, 1, rfl, rfl, ?_, sm.trans s2⟩
        rfl
/-! ### modulus -/
theorem scMD : FnScope ["count"] ["count"] (defScope sMod) := ⟨rfl, rfl, rfl, by decide +kernel, rfl, by decide +kernel, by decide +kernel⟩
theorem ok_mod {f f1 f2 : Addr} {fd fd1 fd2 : FuncData} (F : Fun K "modulus" "modulus" sMod f fd) (F1 : Fun K "need_count" "need_count" sNeed f1 fd1) (b1 : Binds K fd1 ["value", "low", "high"] []) (g1 : mg "need_count" = some (.ref f1))
    (G1 : FnOk P w K mg base CX0 3 f1 fd1 ["value", "low", "high"] spNeed) (F2 : Fun K "modulus_of" "modulus_of" sModOf f2 fd2) (b2 : Binds K fd2 ["count"] []) (g2 : mg "modulus_of" = some (.ref f2))
    (G2 : FnOk P w K mg base CX0 2 f2 fd2 ["count"] spMod) (T : Txt mg) : FnOk P w K mg base CX0 4 f fd ["count"] spMod := by
  obtain ⟨tk, hmx⟩ := T.mx
  refine F.ok scMD (fun vs H Q E h => ?_) (fun cdv A outer s H vs Q E hr h => ?_)
  · obtain ⟨n, rfl, _⟩ := h
    rfl
  · obtain ⟨c, rfl, h1, h8, k⟩ := h
    refine ⟨_, pss_cons (ps_expr (pe_call G1 hr (by rfl) g1 F1.kp b1 .nil pass0 (pa_cons (pv 0) (pa_cons pe_int (pa_cons (pe_glob (v := .int 8) (by rfl) hmx ⟨_, rfl⟩) pa_nil)))))
      (pss_one (ps_ret (pe_call G2 (hr.mono (by decide)) (by rfl) g2 F2.kp b2 .nil pass0 (pa_cons (pv 0) pa_nil)))), ?_⟩
    refine ⟨.int c, rfl, c, 1, 8, rfl, by omega, by omega, ?_⟩
    refine ⟨.int c, rfl, c, rfl, h1, h8, ?_⟩
    exact k
/-! ### block_letter -/
theorem scBL : FnScope ["q", "letter", "at"] ["q", "letter", "at"] (defScope sLetter) := ⟨rfl, rfl, rfl, by decide +kernel, rfl, by decide +kernel, by decide +kernel⟩
theorem atN_int (q c k : Nat) : ((atN q c k : Nat) : Int) = (k : Int) * (q : Int) + ((c : Int) / (q : Int) + (c : Int) % (q : Int) * (k : Int)) % (q : Int) := by
  unfold atN
  simp only [Int.natCast_add, Int.natCast_mul, Int.natCast_emod, Int.natCast_ediv]
theorem ok_letter {f : Addr} {fd : FuncData} (F : Fun K "block_letter" "block_letter" sLetter f fd) : FnOk P w K mg base CX0 1 f fd ["q", "letter", "at"] spLetter := by
  refine F.ok scBL (fun vs H Q E h => ?_) (fun cdv A outer s H vs Q E hr h => ?_)
  · obtain ⟨q, c, k, rfl, _⟩ := h
    rfl
  · obtain ⟨q, c, k, rfl, h1, h2, h3, h4, z⟩ := h
    refine ⟨_, pss_one (ps_ret (pe_op op_add (pe_op op_mul (pv 2) (pv 0)) (pe_op op_mod (pe_op op_add (pe_op op_fdiv (pv 1) (pv 0)) (pe_op op_mul (pe_op op_mod (pv 1) (pv 0)) (pv 2))) (pv 0)))), ?_⟩
    refine ⟨_, rfl, _, rfl, k, q, rfl, rfl, .inl (by omega), _, rfl, _, rfl, c, q, rfl, rfl, ⟨by omega, by omega⟩, _, rfl, _, rfl, c, q, rfl, rfl, (by show (0 : Int) < q; omega), _, rfl, (c : Int) % q, k, rfl, rfl, .inr (by omega), _, _, rfl, rfl, _, rfl, _, q, rfl, rfl, (by show (0 : Int) < q; omega), _, _, rfl, rfl, ?_⟩
    rw [atN_int] at z
    exact z
/-! ### block_of -/
theorem scBO : FnScope ["q", "letter", "at"] ["q", "letter"] (defScope sBlockOf) := ⟨rfl, rfl, rfl, by decide +kernel, rfl, by decide +kernel, by decide +kernel⟩
theorem ok_blockof {f f1 : Addr} {fd fd1 : FuncData} (F : Fun K "block_of" "block_of" sBlockOf f fd) (F1 : Fun K "block_letter" "block_letter" sLetter f1 fd1) (b1 : Binds K fd1 ["q", "letter", "at"] []) (g1 : mg "block_letter" = some (.ref f1)) (T : Txt mg) :
    FnOk P w K mg base CX0 2 f fd ["q", "letter"] spBlockOf := by
  have G1 : FnOk P w K mg base CX0 1 f1 fd1 ["q", "letter", "at"] spLetter := ok_letter F1
  refine F.ok scBO (fun vs H Q E h => ?_) (fun cdv A outer s H vs Q E hr h => ?_)
  · obtain ⟨q, c, rfl, _⟩ := h
    rfl
  · obtain ⟨q, c, rfl, h1, h2, h3, k⟩ := h
    refine ⟨_, pss_one (ps_ret (pe_callTy call_tuple_told (by rfl) T.tuple boot_tuple (pa_cons (pe_lc (own := [("at", 2)]) (g := gName 2) (tt := tYes) rfl scBO.nd (pi_range1 (by rfl) T.range (pa_cons (pv 0) pa_nil))
      (blkOk_by (own := [("at", 2)]) (N := ["q", "letter", "at"]) (sc := defScope sBlockOf) (by decide +kernel)) (fun _ _ _ _ _ => pg_name (i := 2) scBO.nd rfl (Or.inl rfl)) (fun _ _ _ _ _ => pts_nil)
      (fun _ _ _ _ _ => pe_call G1 hr (by rfl) g1 F1.kp b1 .nil pass0 (pa_cons (pv 0) (pa_cons (pv 1) (pa_cons (pv 2) pa_nil))))) pa_nil))), ?_⟩
    refine ⟨.int q, rfl, q, rfl, by omega, by omega, fun D hD => ?_⟩
    have es : ((q : Int)).toNat = q := by omega
    rw [es]
    refine lc_range (lo := 0) (n := q) (fun i H' => Same H H' ∧ H' D = some (.lst (ivs ((List.range i).map (atN q c))))) ⟨same_new hD, upd_same⟩ ?_ ?_
    · rintro i H1 hi ⟨sm, eD⟩
      refine ⟨rfl, ?_⟩
      refine ⟨_, rfl, _, rfl, _, rfl, q, c, i, ?_, h1, h2, h3, by omega, _, eD, ?_, ?_, ?_⟩
      · rw [Int.zero_add]
        rfl
      · unfold ivs
        rw [List.length_map, List.length_map, List.length_range]
        exact small1000 (by omega)
      · intro b o e
        rw [upd_ne (ne_of_none e hD)]
        exact sm b o e
      · rw [upd_same, List.range_succ]
        unfold ivs
        rw [List.map_append, List.map_append]
        rfl
    · rintro H1 ⟨sm, eD⟩
      refine ⟨D, _, rfl, SqL.of eD, fun l hl ob hob => ?_⟩
      exact k _ l (sm.trans (same_new hl)) (sm.free hl) ⟨ob, upd_same, hob⟩
/-! ### letter_block -/
theorem scLB : FnScope ["count", "letter", "q"] ["count", "letter"] (defScope sBlock) := ⟨rfl, rfl, rfl, by decide +kernel, rfl, by decide +kernel, by decide +kernel⟩
theorem ok_block {f f1 f2 f3 : Addr} {fd fd1 fd2 fd3 : FuncData} (F : Fun K "letter_block" "letter_block" sBlock f fd) (F1 : Fun K "modulus" "modulus" sMod f1 fd1) (b1 : Binds K fd1 ["count"] []) (g1 : mg "modulus" = some (.ref f1))
    (G1 : FnOk P w K mg base CX0 4 f1 fd1 ["count"] spMod) (F2 : Fun K "need_count" "need_count" sNeed f2 fd2) (b2 : Binds K fd2 ["value", "low", "high"] []) (g2 : mg "need_count" = some (.ref f2))
    (G2 : FnOk P w K mg base CX0 3 f2 fd2 ["value", "low", "high"] spNeed) (F3 : Fun K "block_of" "block_of" sBlockOf f3 fd3) (b3 : Binds K fd3 ["q", "letter"] []) (g3 : mg "block_of" = some (.ref f3))
    (G3 : FnOk P w K mg base CX0 2 f3 fd3 ["q", "letter"] spBlockOf) : FnOk P w K mg base CX0 5 f fd ["count", "letter"] spBlock := by
  refine F.ok scLB (fun vs H Q E h => ?_) (fun cdv A outer s H vs Q E hr h => ?_)
  · obtain ⟨q, c, rfl, _⟩ := h
    rfl
  · obtain ⟨n, c, rfl, h1, h8, hc, k⟩ := h
    have hq := (six_q n).pos
    have hqq : qN n * qN n ≤ 19 * 19 := Nat.mul_le_mul hq.2 hq.2
    refine ⟨_, pss_cons (ps_set (i := 2) scLB.nd rfl (Or.inl rfl) (pe_call G1 hr (by rfl) g1 F1.kp b1 .nil pass0 (pa_cons (pv 0) pa_nil)))
      (pss_cons (ps_expr (pe_call G2 (hr.mono (by decide)) (by rfl) g2 F2.kp b2 .nil pass0 (pa_cons (pv 1) (pa_cons pe_int (pa_cons (pe_op op_sub (pe_op op_mul (pv 2) (pv 2)) pe_int) pa_nil)))))
      (pss_one (ps_ret (pe_call G3 (hr.mono (by decide)) (by rfl) g3 F3.kp b3 .nil pass0 (pa_cons (pv 2) (pa_cons (pv 1) pa_nil)))))), ?_⟩
    refine ⟨_, rfl, n, rfl, h1, h8, fun H1 s1 => ?_⟩
    have em : ((qN n : Nat) : Int) * (qN n : Nat) = ((qN n * qN n : Nat) : Int) := (Int.natCast_mul _ _).symm
    refine ⟨_, rfl, _, rfl, _, rfl, _, _, rfl, rfl, .inl (by omega), _, _, rfl, rfl, c, 0, _, rfl, by omega, ?_, ?_⟩
    · rw [em]
      omega
    · refine ⟨_, rfl, _, rfl, qN n, c, rfl, by omega, by omega, by omega, fun H2 p s2 hp e2 => ?_⟩
      exact k H2 p (s1.trans s2) (s1.free hp) e2
end
end K51

/-! The walk through _law_pen and _law_draw. -/
namespace K51
open PySem L2 PyProof.Rows
/-! ### the pen -/
def kC : Key := Sum.inr ("cells" : Str)
def kN : Key := Sum.inr ("next" : Str)
def kR : Key := Sum.inr ("rest" : Str)
theorem kCN : ¬ kC = kN := by decide +kernel
theorem kCR : ¬ kC = kR := by decide +kernel
theorem kNR : ¬ kN = kR := by decide +kernel
theorem kRN : ¬ kR = kN := by decide +kernel
def penKv (l : Addr) (nx rs : Int) : List (Key × V) := [(kC, .ref l), (kN, .int nx), (kR, .int rs)]
theorem pen_cells (l : Addr) (nx rs : Int) : valV (penKv l nx rs) kC = some (.ref l) := valV_pos rfl
theorem pen_next (l : Addr) (nx rs : Int) : valV (penKv l nx rs) kN = some (.int nx) := (valV_neg kCN).trans (valV_pos rfl)
theorem pen_rest (l : Addr) (nx rs : Int) : valV (penKv l nx rs) kR = some (.int rs) := (valV_neg kCR).trans ((valV_neg kNR).trans (valV_pos rfl))
theorem put_next (l : Addr) (nx rs z : Int) : putK (penKv l nx rs) kN (.int z) = penKv l z rs := by
  unfold putK
  rw [valV_any, pen_next]
  unfold penKv
  simp [kCN, kRN]
theorem put_rest (l : Addr) (nx rs z : Int) : putK (penKv l nx rs) kR (.int z) = penKv l nx z := by
  unfold putK
  rw [valV_any, pen_rest]
  unfold penKv
  simp [kCR, kNR]
theorem merge_pen (l : Addr) (nx rs : Int) : mergeK [] (penKv l nx rs) = penKv l nx rs := by
  have e1 : putK ([] : List (Key × V)) kC (V.ref l) = [(kC, V.ref l)] := putK_new _ rfl
  have e2 : putK ([(kC, V.ref l)] : List (Key × V)) kN (V.int nx) = [(kC, V.ref l), (kN, V.int nx)] := putK_new _ ((valV_neg kCN).trans rfl)
  have e3 : putK ([(kC, V.ref l), (kN, V.int nx)] : List (Key × V)) kR (V.int rs) = penKv l nx rs := putK_new _ ((valV_neg kCR).trans ((valV_neg kNR).trans rfl))
  show putK (putK (putK [] kC (V.ref l)) kN (V.int nx)) kR (V.int rs) = _
  rw [e1, e2, e3]
/-- the pen stands at d: its cells at l -/
structure PenAt (H : Hp) (d l : Addr) (cs : List Int) (nx rs : Int) : Prop where
  di : H d = some (.dK (penKv l nx rs))
  li : H l = some (.lst (cs.map V.int))
section
variable {H : Hp} {d l : Addr} {cs : List Int} {nx rs : Int}
theorem PenAt.cells (p : PenAt H d l cs nx rs) : DGet H d (.str "cells") (some (.ref l)) := by
  have h := DGet.k (k := kC) p.di
  rw [pen_cells] at h
  exact h
theorem PenAt.next (p : PenAt H d l cs nx rs) : DGet H d (.str "next") (some (.int nx)) := by
  have h := DGet.k (k := kN) p.di
  rw [pen_next] at h
  exact h
theorem PenAt.rest (p : PenAt H d l cs nx rs) : DGet H d (.str "rest") (some (.int rs)) := by
  have h := DGet.k (k := kR) p.di
  rw [pen_rest] at h
  exact h
theorem PenAt.setNext (p : PenAt H d l cs nx rs) (z : Int) : DPut H d (.str "next") (.int z) (upd H d (.dK (penKv l z rs))) := by
  have h := DPut.k (k := kN) (v := .int z) p.di (small1000 (show 3 ≤ 1000 by decide))
  rw [put_next] at h
  exact h
theorem PenAt.setRest (p : PenAt H d l cs nx rs) (z : Int) : DPut H d (.str "rest") (.int z) (upd H d (.dK (penKv l nx z))) := by
  have h := DPut.k (k := kR) (v := .int z) p.di (small1000 (show 3 ≤ 1000 by decide))
  rw [put_rest] at h
  exact h
theorem PenAt.ne (p : PenAt H d l cs nx rs) : l ≠ d := ne_of p.li p.di (by intro z; cases z)
theorem PenAt.upd (p : PenAt H d l cs nx rs) (nx' rs' : Int) : PenAt (upd H d (.dK (penKv l nx' rs'))) d l cs nx' rs' := ⟨upd_same, by rw [upd_ne p.ne]; exact p.li⟩
theorem PenAt.new (p : PenAt H d l cs nx rs) {a : Addr} {o : HO} (h : H a = none) : PenAt (L2.upd H a o) d l cs nx rs := ⟨same_new h _ _ p.di, same_new h _ _ p.li⟩
end
/-- all but d stands -/
def But (d : Addr) (H H' : Hp) : Prop := ∀ b o, H b = some o → b ≠ d → H' b = some o
theorem But.put {d : Addr} {H H' : Hp} (h : But d H H') (o : HO) : But d H (upd H' d o) := fun b x e hb => by
  rw [upd_ne hb]
  exact h b x e hb
theorem But.new {d a : Addr} {H H' : Hp} (h : But d H H') {o : HO} (ha : H' a = none) : But d H (upd H' a o) := fun b x e hb => same_new ha _ _ (h b x e hb)
theorem But.refl (d : Addr) (H : Hp) : But d H H := fun _ _ e _ => e
def spPen (K : PySem.W.Frag) : Sp := fun vs H Q _ => ∃ (a : Addr) (ns : List Int), vs = [.ref a] ∧ SqL K H a (ns.map V.int) ∧ ∀ H' d l cs, Same H H' → H d = none → PenAt H' d l cs 0 0 → Q (.ref d) H'
def spDraw : Sp := fun vs H Q _ => ∃ (d l : Addr) (cs : List Int) (nx rs : Int) (m : Nat), vs = [.ref d, .int m] ∧ PenAt H d l cs nx rs ∧ 0 ≤ nx ∧ nx ≤ 1000 ∧ 0 < m ∧ m ≤ 1000 ∧
  ∀ H' nx' rs' (v : Nat), PenAt H' d l cs nx' rs' → 0 ≤ nx' → nx' ≤ nx + 1 → But d H H' → v < m → Q (.int v) H'
theorem cut_ints (ns : List Int) (lo hi : Option Int) : ∃ cs : List Int, cutV (ns.map V.int) lo hi = cs.map V.int := by
  unfold cutV
  rw [← List.map_drop, ← List.map_take]
  exact ⟨_, rfl⟩
section
variable {P : Program} {w : World} {K : PySem.W.Frag} {mg : Str → Option Value} {base : Heap}
theorem scPn : FnScope ["_law_script"] ["_law_script"] (defScope sPen) := ⟨rfl, rfl, rfl, by decide +kernel, rfl, by decide +kernel, by decide +kernel⟩
theorem ok_pen {f : Addr} {fd : FuncData} (F : Fun K "_law_pen" "_law_pen" sPen f fd) (T : Txt mg) : FnOk P w K mg base CX0 1 f fd ["_law_script"] (spPen K) := by
  refine F.ok scPn (fun vs H Q E h => ?_) (fun cdv A outer s H vs Q E hr h => ?_)
  · obtain ⟨a, ns, rfl, _⟩ := h
    rfl
  · obtain ⟨a, ns, rfl, hS, k⟩ := h
    refine ⟨_, pss_one (ps_ret (pe_disp (pps_cons pe_str (pe_callTy call_list_of (by rfl) T.list boot_list (pa_cons (pe_slice sl_list (pv 0) po_none (po_some pe_int)) pa_nil))
      (pps_cons pe_str pe_int (pps_cons pe_str pe_int pps_nil))) (by rfl) (by rfl) (fun z => by cases z) (by decide))), ?_⟩
    intro d hd
    have s1 : Same H (upd H d (.dK [])) := same_new hd
    obtain ⟨cs, ec⟩ := cut_ints ns none (some 63)
    refine ⟨.ref a, rfl, 63, rfl, a, ns.map V.int, rfl, s1.seq hS, fun p hp => ⟨p, _, rfl, .inl (SqL.of upd_same), fun l hl => ?_⟩⟩
    have s2 := s1.trans (same_new hp (o := .lst (cutV (ns.map V.int) none (some 63))))
    have ndp : d ≠ p := ne_of_none upd_same hp
    have ndl : d ≠ l := ne_of_none ((upd_ne ndp).trans upd_same) hl
    refine ⟨by rw [upd_ne ndl, upd_ne ndp]; exact upd_same, penKv l 0 0, rfl, by show 3 ≤ 15; decide, ?_⟩
    rw [merge_pen]
    refine k _ d l cs (fun b o e => ?_) hd ⟨upd_same, ?_⟩
    · rw [upd_ne (ne_of_none e hd)]
      exact same_new hl _ _ (s2 _ _ e)
    · rw [upd_ne ndl.symm, upd_same, ec]
/-! ### a draw -/
theorem scDr : FnScope ["_law_pen_here", "_law_many", "_law_digit", "_law_index", "_law_cell", "_law_mix"] ["_law_pen_here", "_law_many"] (defScope sDraw) := ⟨rfl, rfl, rfl, by decide +kernel, rfl, by decide +kernel, by decide +kernel⟩
theorem mod_nat {x : Int} {m : Nat} (h : 0 < m) : ∃ v : Nat, x % (m : Int) = v ∧ v < m := by
  have h1 := Int.emod_nonneg x (show (m : Int) ≠ 0 by omega)
  have h2 := Int.emod_lt_of_pos x (show (0 : Int) < m by omega)
  exact ⟨(x % (m : Int)).toNat, by omega, by omega⟩
theorem div_small {m : Nat} (h : 0 < m) (h2 : m ≤ 1000) (x : Int) : CDivW x (m : Int) := wide_div (b := 10) (by omega) (by show ((m : Int)).natAbs < 1024; omega) (by decide) (by decide)
theorem dp_ints {K : PySem.W.Frag} {H : Hp} : ∀ cs : List Int, DpAll K H (cs.map V.int) (cs.map PyData.int)
  | [] => .nil
  | c :: r => .cons (.int c) (dp_ints r)
theorem shaped_ints (cs : List Int) : SeqAt.shaped (.list (cs.map PyData.int)) = true := by
  exact PySem.W.ke_shaped_ints cs
theorem mul_ok (x y : Int) {M : Int} (h0 : 0 < M) (h : M < 2 ^ 62) : CMul (x % M) y := by
  have h1 := Int.emod_nonneg x (show M ≠ 0 by omega)
  have h2 := Int.emod_lt_of_pos x h0
  exact .inl ⟨by omega, by omega⟩
theorem ok_draw {f : Addr} {fd : FuncData} (F : Fun K "_law_draw" "_law_draw" sDraw f fd) (T : Txt mg) : FnOk P w K mg base CX0 1 f fd ["_law_pen_here", "_law_many"] spDraw := by
  refine F.ok scDr (fun vs H Q E h => ?_) (fun cdv A outer s H vs Q E hr h => ?_)
  · obtain ⟨d, l, cs, nx, rs, m, rfl, _⟩ := h
    rfl
  · obtain ⟨d, l, cs, nx, rs, m, rfl, p, n0, n1, m0, m1, k⟩ := h
    have hu := hu_of hr
    refine ⟨_, pss_cons (ps_if (pt_cmpR op_gt (pe_dget hu (pv 0) pe_str (fun _ _ => rfl)) pe_int (nomark _))
        (pss_cons (ps_set (i := 2) scDr.nd rfl (Or.inl rfl) (pe_op op_mod (pe_dget hu (pv 0) pe_str (fun _ _ => rfl)) (pv 1)))
        (pss_cons (ps_dput hu (pv 0) pe_str (pe_op op_fdivW (pe_dget hu (pv 0) pe_str (fun _ _ => rfl)) (pv 1)) rfl)
        (pss_one (ps_ret (pv 2))))) pss_nil)
      (pss_cons (ps_set (i := 3) scDr.nd rfl (Or.inl rfl) (pe_dget hu (pv 0) pe_str (fun _ _ => rfl)))
      (pss_cons (ps_dput hu (pv 0) pe_str (pe_op op_add (pv 3) pe_int) rfl)
      (pss_cons (ps_set (i := 4) scDr.nd rfl (Or.inl rfl) (pe_op op_add (pe_op op_mul pe_int (pv 3)) pe_int))
      (pss_cons (ps_if (pt_cmpR (op_neD hr.units) (pe_dget hu (pv 0) pe_str (fun _ _ => rfl)) (pe_lst pa_nil) (nomark _))
        (pss_one (ps_set (i := 4) scDr.nd rfl (Or.inl rfl) (pe_ix ix_list (pe_dget hu (pv 0) pe_str (fun _ _ => rfl)) (pe_op op_mod (pv 3) (pe_callB call_len_seq (by rfl) T.len PySem.boot_len (pa_cons (pe_dget hu (pv 0) pe_str (fun _ _ => rfl)) pa_nil))) (fun _ _ => rfl)))) pss_nil)
      (pss_cons (ps_if (PW.pt (pw_and (pt_cmpR op_lt (pv 3) (pe_callB call_len_seq (by rfl) T.len PySem.boot_len (pa_cons (pe_dget hu (pv 0) pe_str (fun _ _ => rfl)) pa_nil)) (nomark _))
          (pw_and1 (pt_cmpR op_ge (pe_callB call_abs (by rfl) T.abs boot_abs (pa_cons (pv 4) pa_nil)) (pe_op op_pow pe_int pe_int) (nomark _)))))
        (pss_cons (ps_dput hu (pv 0) pe_str (pe_op op_fdivW (pe_op op_sub (pe_callB call_abs (by rfl) T.abs boot_abs (pa_cons (pv 4) pa_nil)) (pe_op op_pow pe_int pe_int)) (pv 1)) rfl)
        (pss_one (ps_ret (pe_op op_mod (pe_op op_sub (pe_callB call_abs (by rfl) T.abs boot_abs (pa_cons (pv 4) pa_nil)) (pe_op op_pow pe_int pe_int)) (pv 1))))) pss_nil)
      (pss_cons (ps_set (i := 5) scDr.nd rfl (Or.inl rfl) (pe_op op_mod (pe_op op_add (pe_op op_add (pe_op op_add (pe_op op_mul (pe_op op_mod (pv 4) pe_int) pe_int) (pe_op op_mul (pe_op op_mul pe_int (pv 3)) (pv 3))) (pe_op op_mul pe_int (pv 3))) pe_int) pe_int))
      (pss_cons (ps_set (i := 5) scDr.nd rfl (Or.inl rfl) (pe_op op_mod (pe_op op_add (pe_op op_add (pe_op op_add (pe_op op_mul (pv 5) (pv 5)) (pe_op op_mul pe_int (pv 5))) (pe_op op_mul pe_int (pv 3))) pe_int) pe_int))
      (pss_one (ps_ret (pe_op op_mod (pe_op op_fdiv (pe_op op_mod (pe_op op_mul (pv 5) (pe_op op_add (pv 5) pe_int)) pe_int) pe_int) (pv 1))))))))))), ?_⟩
    have m0' : (0 : Int) < (m : Int) := by omega
    -- the test of the digits that are left
    refine ⟨.ref d, rfl, d, .int rs, rfl, p.rest, rs, 0, rfl, rfl, _, rfl, ite2 (fun h0 => ?_) (fun h0 => ?_)⟩
    · refine ⟨.ref d, rfl, d, .int rs, rfl, p.rest, .int m, rfl, rs, m, rfl, rfl, m0', ?_⟩
      refine ⟨.ref d, rfl, d, .int rs, rfl, p.rest, .int m, rfl, rs, m, rfl, rfl, div_small m0 m1 rs, .ref d, rfl, d, _, rfl, p.setRest _, _, rfl, ?_⟩
      obtain ⟨v, ev, hv⟩ := mod_nat (x := rs) m0
      show Q (V.int (rs % (m : Int))) _
      rw [ev]
      exact k _ nx _ v (p.upd nx _) n0 (by omega) ((But.refl d H).put _) hv
    · -- the next index, the cell of before
      refine ⟨.ref d, rfl, d, .int nx, rfl, p.next, .int nx, rfl, nx, 1, rfl, rfl, .ref d, rfl, d, _, rfl, p.setNext _, ?_⟩
      have p1 := p.upd (nx + 1) rs
      have B1 := (But.refl d H).put (.dK (penKv l (nx + 1) rs))
      refine ⟨.int nx, rfl, 29, nx, rfl, rfl, .inl (by decide), _, 7, rfl, rfl, ?_⟩
      -- are there cells
      refine ⟨.ref d, rfl, d, .ref l, rfl, p1.cells, Nat.zero_le _, fun e he => ?_⟩
      have p2 := p1.new he (o := .lst [])
      have B2 := B1.new he (o := .lst [])
      refine ⟨.list (cs.map PyData.int), .list [], .lst (SqL.of p2.li) (dp_ints cs), .lst (SqL.of upd_same) .nil, shaped_ints cs, shaped_ints [], _, rfl, ?_⟩
      cases cs with
      | nil =>
        refine iteF ?_
        refine ⟨.int nx, rfl, .ref d, rfl, d, .ref l, rfl, p2.cells, l, _, rfl, .inl (SqL.of p2.li), nx, _, rfl, rfl, _, rfl,
          ite2 (fun hA => ⟨.int (29 * nx + 7), rfl, (29 * nx + 7), rfl, 10, 18, rfl, rfl, ⟨by decide, by decide, by decide⟩, _, _, rfl, rfl, _, rfl, ite2 (fun hB => ?big) (fun hB => ?t1)⟩) (fun hA => ?t2)⟩
        case big =>
          refine ⟨.int (29 * nx + 7), rfl, (29 * nx + 7), rfl, 10, 18, rfl, rfl, ⟨by decide, by decide, by decide⟩, _, _, rfl, rfl, .int m, rfl, _, m, rfl, rfl, div_small m0 m1 _, .ref d, rfl, d, _, rfl, p2.setRest _, ?_⟩
          refine ⟨.int (29 * nx + 7), rfl, (29 * nx + 7), rfl, 10, 18, rfl, rfl, ⟨by decide, by decide, by decide⟩, _, _, rfl, rfl, .int m, rfl, _, m, rfl, rfl, m0', ?_⟩
          generalize (if (29 * nx + 7) < 0 then -(29 * nx + 7) else (29 * nx + 7)) - 10 ^ (18 : Int).toNat = big
          obtain ⟨v, ev, hv⟩ := mod_nat (x := big) m0
          show Q (V.int (big % (m : Int))) _
          rw [ev]
          exact k _ (nx + 1) _ v (p2.upd _ _) (by omega) (by omega) (B2.put _) hv
        all_goals
          refine ⟨.int (29 * nx + 7), rfl, (29 * nx + 7), 2147483647, rfl, rfl, (by show (0 : Int) < 2147483647; decide), _, 48271, rfl, rfl, .inr (by decide), .int nx, rfl, 69621, nx, rfl, rfl, .inl (by decide), .int nx, rfl, _, nx, rfl, rfl, .inr (by omega),
            _, _, rfl, rfl, .int nx, rfl, 30011, nx, rfl, rfl, .inl (by decide), _, _, rfl, rfl, _, 17, rfl, rfl, _, 2147483629, rfl, rfl, (by show (0 : Int) < 2147483629; decide), ?_⟩
          generalize (29 * nx + 7) % 2147483647 * 48271 + 69621 * nx * nx + 30011 * nx + 17 = m1'
          refine ⟨_, rfl, _, rfl, m1' % 2147483629, m1' % 2147483629, rfl, rfl, mul_ok _ _ (by decide) (by decide), _, rfl, 40692, m1' % 2147483629, rfl, rfl, .inl (by decide), _, _, rfl, rfl, .int nx, rfl, 5, nx, rfl, rfl, .inl (by decide),
            _, _, rfl, rfl, _, 11, rfl, rfl, _, 2147483587, rfl, rfl, (by show (0 : Int) < 2147483587; decide), ?_⟩
          generalize m1' % 2147483629 * (m1' % 2147483629) + 40692 * (m1' % 2147483629) + 5 * nx + 11 = m2'
          refine ⟨_, rfl, _, rfl, m2' % 2147483587, 16807, rfl, rfl, m2' % 2147483587, _, rfl, rfl, mul_ok _ _ (by decide) (by decide), _, 2147483579, rfl, rfl, (by show (0 : Int) < 2147483579; decide), _, 32, rfl, rfl, ⟨by decide, by decide⟩, .int m, rfl, _, m, rfl, rfl, m0', ?_⟩
          generalize m2' % 2147483587 * (m2' % 2147483587 + 16807) % 2147483579 / 32 = m3'
          obtain ⟨v, ev, hv⟩ := mod_nat (x := m3') m0
          show Q (V.int (m3' % (m : Int))) _
          rw [ev]
          exact k _ (nx + 1) _ v p2 (by omega) (by omega) B2 hv
      | cons c0 r =>
        refine iteT ?_
        obtain ⟨j, ej, hj⟩ := mod_nat (x := nx) (m := (c0 :: r).length) (Nat.succ_pos _)
        have ha : ((c0 :: r).map V.int)[j]? = some (V.int (c0 :: r)[j]) := by
          rw [List.getElem?_map, List.getElem?_eq_getElem hj]
          rfl
        refine ⟨.ref d, rfl, d, .ref l, rfl, p2.cells, .int nx, rfl, .ref d, rfl, d, .ref l, rfl, p2.cells, l, _, rfl, .inl (SqL.of p2.li), nx, _, rfl, rfl, ?_, l, _, _, V.int (c0 :: r)[j], rfl, rfl, SqL.of p2.li, at_of (j := j) ?_ ha, ?_⟩
        · show (0 : Int) < (((c0 :: r).map V.int).length : Nat)
          rw [List.length_map, List.length_cons]
          omega
        · rw [← ej, List.length_map]
        generalize (c0 :: r)[j] = cv
        refine ⟨.int nx, rfl, .ref d, rfl, d, .ref l, rfl, p2.cells, l, _, rfl, .inl (SqL.of p2.li), nx, _, rfl, rfl, _, rfl,
          ite2 (fun hA => ⟨.int cv, rfl, cv, rfl, 10, 18, rfl, rfl, ⟨by decide, by decide, by decide⟩, _, _, rfl, rfl, _, rfl, ite2 (fun hB => ?big2) (fun hB => ?t3)⟩) (fun hA => ?t4)⟩
        case big2 =>
          refine ⟨.int cv, rfl, cv, rfl, 10, 18, rfl, rfl, ⟨by decide, by decide, by decide⟩, _, _, rfl, rfl, .int m, rfl, _, m, rfl, rfl, div_small m0 m1 _, .ref d, rfl, d, _, rfl, p2.setRest _, ?_⟩
          refine ⟨.int cv, rfl, cv, rfl, 10, 18, rfl, rfl, ⟨by decide, by decide, by decide⟩, _, _, rfl, rfl, .int m, rfl, _, m, rfl, rfl, m0', ?_⟩
          generalize (if cv < 0 then -cv else cv) - 10 ^ (18 : Int).toNat = big
          obtain ⟨v, ev, hv⟩ := mod_nat (x := big) m0
          show Q (V.int (big % (m : Int))) _
          rw [ev]
          exact k _ (nx + 1) _ v (p2.upd _ _) (by omega) (by omega) (B2.put _) hv
        all_goals
          refine ⟨.int cv, rfl, cv, 2147483647, rfl, rfl, (by show (0 : Int) < 2147483647; decide), _, 48271, rfl, rfl, .inr (by decide), .int nx, rfl, 69621, nx, rfl, rfl, .inl (by decide), .int nx, rfl, _, nx, rfl, rfl, .inr (by omega),
            _, _, rfl, rfl, .int nx, rfl, 30011, nx, rfl, rfl, .inl (by decide), _, _, rfl, rfl, _, 17, rfl, rfl, _, 2147483629, rfl, rfl, (by show (0 : Int) < 2147483629; decide), ?_⟩
          generalize cv % 2147483647 * 48271 + 69621 * nx * nx + 30011 * nx + 17 = m1'
          refine ⟨_, rfl, _, rfl, m1' % 2147483629, m1' % 2147483629, rfl, rfl, mul_ok _ _ (by decide) (by decide), _, rfl, 40692, m1' % 2147483629, rfl, rfl, .inl (by decide), _, _, rfl, rfl, .int nx, rfl, 5, nx, rfl, rfl, .inl (by decide),
            _, _, rfl, rfl, _, 11, rfl, rfl, _, 2147483587, rfl, rfl, (by show (0 : Int) < 2147483587; decide), ?_⟩
          generalize m1' % 2147483629 * (m1' % 2147483629) + 40692 * (m1' % 2147483629) + 5 * nx + 11 = m2'
          refine ⟨_, rfl, _, rfl, m2' % 2147483587, 16807, rfl, rfl, m2' % 2147483587, _, rfl, rfl, mul_ok _ _ (by decide) (by decide), _, 2147483579, rfl, rfl, (by show (0 : Int) < 2147483579; decide), _, 32, rfl, rfl, ⟨by decide, by decide⟩, .int m, rfl, _, m, rfl, rfl, m0', ?_⟩
          generalize m2' % 2147483587 * (m2' % 2147483587 + 16807) % 2147483579 / 32 = m3'
          obtain ⟨v, ev, hv⟩ := mod_nat (x := m3') m0
          show Q (V.int (m3' % (m : Int))) _
          rw [ev]
          exact k _ (nx + 1) _ v p2 (by omega) (by omega) B2 hv
end
end K51

/-! The law's own body. -/
namespace K51
open PySem L2 PyProof.Rows
theorem PenAt.same {H H' : Hp} {d l : Addr} {cs : List Int} {nx rs : Int} (p : PenAt H d l cs nx rs) (s : Same H H') : PenAt H' d l cs nx rs := ⟨s _ _ p.di, s _ _ p.li⟩
theorem But.same {d : Addr} {H H1 H2 : Hp} (h : But d H H1) (s : Same H1 H2) : But d H H2 := fun b o e hb => s _ _ (h b o e hb)
theorem But.trans {d : Addr} {H H1 H2 : Hp} (h : But d H H1) (g : But d H1 H2) : But d H H2 := fun b o e hb => g _ _ (h b o e hb) hb
theorem same_but {d : Addr} {H H1 H2 : Hp} (s : Same H H1) (hd : H d = none) (h : But d H1 H2) : Same H H2 := fun b o e => h b o (s _ _ e) (ne_of_none e hd)
theorem flat_ivs (l : List Nat) : (ivs l).all flatV = true := by
  unfold ivs
  rw [List.all_map]
  exact List.all_eq_true.mpr fun _ _ => rfl
theorem ivs_get {l : List Nat} {i k : Nat} (h : l[i]? = some k) : (ivs l)[i]? = some (V.int (k : Int)) := by
  unfold ivs
  rw [List.getElem?_map, h]
  rfl
theorem ivs_get_inv {l : List Nat} {i : Nat} {v : V} (h : (ivs l)[i]? = some v) : ∃ k, l[i]? = some k ∧ v = V.int (k : Int) := by
  unfold ivs at h
  rw [List.getElem?_map] at h
  cases e : l[i]? with
  | none =>
    rw [e] at h
    cases h
  | some k =>
    rw [e] at h
    exact ⟨k, rfl, (Option.some.inj h).symm⟩
theorem eq_int (a b : Nat) : eqV (V.int (a : Int)) (V.int (b : Int)) = decide (a = b) := by
  show ((a : Int) == (b : Int)) = decide (a = b)
  rw [Bool.eq_iff_iff, beq_iff_eq, decide_eq_true_iff, Int.natCast_inj]
theorem in_ivs (L : Nat) (l : List Nat) : inV (V.int (L : Int)) (ivs l) = decide (L ∈ l) := by
  unfold inV ivs
  rw [List.any_map, Bool.eq_iff_iff, decide_eq_true_iff, List.any_eq_true]
  constructor
  · rintro ⟨k, hk, e⟩
    have e2 := (eq_int k L).symm.trans e
    rw [← of_decide_eq_true e2]
    exact hk
  · intro h
    exact ⟨L, h, (eq_int L L).trans (decide_eq_true rfl)⟩
theorem ivs_len (l : List Nat) : (ivs l).length = l.length := by
  unfold ivs
  rw [List.length_map]
theorem ref_at {as : List Addr} {m : Nat} {x : V} (h : (as.map V.ref)[m]? = some x) : ∃ b, as[m]? = some b ∧ x = V.ref b := by
  rw [List.getElem?_map] at h
  cases e : as[m]? with
  | none =>
    rw [e] at h
    cases h
  | some b =>
    rw [e] at h
    exact ⟨b, rfl, (Option.some.inj h).symm⟩
theorem TupAt.put {H : Hp} {p D : Addr} {ys xs : List V} {o : HO} (h : TupAt H p ys) (e : H D = some (.lst xs)) : TupAt (upd H D o) p ys := by
  obtain ⟨ob, e1, d⟩ := h
  refine ⟨ob, ?_, d⟩
  rw [upd_ne (ne_of e1 e (by intro z; cases z))]
  exact e1
/-- what the law picks from the three -/
theorem pick3 {q o t u : Nat} (hq : 0 < q) (ho : o < q * q) (ht : t < q * q) (hu : u < 3) :
    ∃ w : Nat, w < q * q ∧ [V.int (t : Int), V.int ((t : Int) / (q : Int) * (q : Int) + (o : Int) % (q : Int)), V.int ((o : Int) / (q : Int) * (q : Int) + (t : Int) % (q : Int))][u]? = some (V.int (w : Int)) := by
  have low : ∀ a b : Nat, a < q * q → a / q * q + b % q < q * q := fun a b ha => by
    have h1 : a / q < q := Nat.div_lt_of_lt_mul ha
    have h2 := Nat.mod_lt b hq
    have h3 : (a / q + 1) * q ≤ q * q := Nat.mul_le_mul_right q h1
    rw [Nat.add_mul] at h3
    omega
  have cast : ∀ a b : Nat, ((a / q * q + b % q : Nat) : Int) = (a : Int) / (q : Int) * (q : Int) + (b : Int) % (q : Int) := fun a b => by
    rw [Int.natCast_add, Int.natCast_mul, Int.natCast_ediv, Int.natCast_emod]
  match u, hu with
  | 0, _ => exact ⟨t, ht, rfl⟩
  | 1, _ => exact ⟨_, low t o ht, by rw [cast]; rfl⟩
  | 2, _ => exact ⟨_, low o t ho, by rw [cast]; rfl⟩
/-- what the law expects -/
theorem due_if {q o w : Nat} (ho : o ≠ w) : (if (!decide (V.int ((o : Int) % (q : Int)) = V.int ((w : Int) % (q : Int)))) = true then (1 : Int) else 0) = ((if o = w then q else if o % q ≠ w % q then 1 else 0 : Nat) : Int) := by
  rw [if_neg ho]
  by_cases h : o % q = w % q
  · have e : V.int ((o : Int) % (q : Int)) = V.int ((w : Int) % (q : Int)) := by rw [← Int.natCast_emod, ← Int.natCast_emod, h]
    rw [decide_eq_true e, if_neg (show ¬ o % q ≠ w % q from fun z => z h)]
    rfl
  · have e : ¬ V.int ((o : Int) % (q : Int)) = V.int ((w : Int) % (q : Int)) := fun z => by
      have z2 := V.int.inj z
      rw [← Int.natCast_emod, ← Int.natCast_emod, Int.natCast_inj] at z2
      exact h z2
    rw [decide_eq_false e, if_pos h]
    rfl
def spLaw (K : PySem.W.Frag) : Sp := fun vs H Q _ => ∃ (a : Addr) (ns : List Int), vs = [.ref a] ∧ SqL K H a (ns.map V.int) ∧ ns.length ≤ 63 ∧ ∀ H', Q (.bl true) H'
abbrev NL : List Str := ["_law_script", "_law_pen_here", "_law_turn", "_law_count", "_law_q", "_law_again", "_law_one", "_law_other", "_law_first", "_law_second", "_law_alike", "_law_due", "_law_letter", "_law_owners", "_law_strange", "_law_k", "_law_block"]
theorem scLw : FnScope NL ["_law_script"] (defScope sLaw) := ⟨rfl, rfl, rfl, by decide +kernel, rfl, by decide +kernel, by decide +kernel⟩
section
variable {P : Program} {w : World} {K : PySem.W.Frag} {mg : Str → Option Value} {base : Heap}
theorem ok_law {f f1 f2 f3 f4 : Addr} {fd fd1 fd2 fd3 fd4 : FuncData} (F : Fun K "law" "law" sLaw f fd) (T : Txt mg)
    (F1 : Fun K "_law_pen" "_law_pen" sPen f1 fd1) (b1 : Binds K fd1 ["_law_script"] []) (g1 : mg "_law_pen" = some (.ref f1)) (G1 : FnOk P w K mg base CX0 1 f1 fd1 ["_law_script"] (spPen K))
    (F2 : Fun K "_law_draw" "_law_draw" sDraw f2 fd2) (b2 : Binds K fd2 ["_law_pen_here", "_law_many"] []) (g2 : mg "_law_draw" = some (.ref f2)) (G2 : FnOk P w K mg base CX0 1 f2 fd2 ["_law_pen_here", "_law_many"] spDraw)
    (F3 : Fun K "modulus" "modulus" sMod f3 fd3) (b3 : Binds K fd3 ["count"] []) (g3 : mg "modulus" = some (.ref f3)) (G3 : FnOk P w K mg base CX0 4 f3 fd3 ["count"] spMod)
    (F4 : Fun K "letter_block" "letter_block" sBlock f4 fd4) (b4 : Binds K fd4 ["count", "letter"] []) (g4 : mg "letter_block" = some (.ref f4)) (G4 : FnOk P w K mg base CX0 5 f4 fd4 ["count", "letter"] spBlock) :
    FnOk P w K mg base CX0 6 f fd ["_law_script"] (spLaw K) := by
  refine F.ok scLw (fun vs H Q E h => ?_) (fun cdv A outer s H vs Q E hr h => ?_)
  · obtain ⟨a, ns, rfl, _⟩ := h
    rfl
  · obtain ⟨a, ns, rfl, hS, hlen, k⟩ := h
    have hr1 : Room 1 _ := hr.mono (by decide)
    have hr4 : Room 4 _ := hr.mono (by decide)
    refine ⟨_, (pss_cons (ps_set (i := 1) scLw.nd rfl (Or.inl rfl) (pe_call G1 hr1 (by rfl) g1 F1.kp b1 .nil pass0 (pa_cons (pv 0) pa_nil)))
      (pss_cons (ps_for PassesOwn.never rfl (pi_range1 (by rfl) T.range (pa_cons (pe_op op_add pe_int (pe_callB (call_min2 rfl) (by rfl) T.min boot_min (pa_cons pe_int (pa_cons (pe_callB call_len_seq (by rfl) T.len PySem.boot_len (pa_cons (pv 0) pa_nil)) pa_nil)))) pa_nil)) (pg_name (i := 2) scLw.nd rfl (Or.inl rfl)) (pss_cons (ps_set (i := 3) scLw.nd rfl (Or.inr rfl) (pe_op op_add pe_int (pe_call G2 hr1 (by rfl) g2 F2.kp b2 .nil pass0 (pa_cons (pv 1) (pa_cons pe_int pa_nil)))))
      (pss_cons (ps_set (i := 4) scLw.nd rfl (Or.inr rfl) (pe_call G3 hr4 (by rfl) g3 F3.kp b3 .nil pass0 (pa_cons (pv 3) pa_nil)))
      (pss_cons (ps_for PassesOwn.never rfl (pi_range1 (by rfl) T.range (pa_cons pe_int pa_nil)) (pg_name (i := 5) scLw.nd rfl (Or.inl rfl)) (pss_cons (ps_par (i := 6) (j := 7) rfl scLw.nd rfl rfl (by decide) rfl rfl (pa_cons (pe_call G2 hr1 (by rfl) g2 F2.kp b2 .nil pass0 (pa_cons (pv 1) (pa_cons (pe_op op_mul (pv 4) (pv 4)) pa_nil))) (pa_cons (pe_call G2 hr1 (by rfl) g2 F2.kp b2 .nil pass0 (pa_cons (pv 1) (pa_cons (pe_op op_mul (pv 4) (pv 4)) pa_nil))) pa_nil)) (by rfl))
      (pss_cons (ps_set (i := 7) scLw.nd rfl (Or.inl rfl) (pe_ix ix_list (pe_lst (pa_cons (pv 7) (pa_cons (pe_op op_add (pe_op op_mul (pe_op op_fdiv (pv 7) (pv 4)) (pv 4)) (pe_op op_mod (pv 6) (pv 4))) (pa_cons (pe_op op_add (pe_op op_mul (pe_op op_fdiv (pv 6) (pv 4)) (pv 4)) (pe_op op_mod (pv 7) (pv 4))) pa_nil)))) (pe_call G2 hr1 (by rfl) g2 F2.kp b2 .nil pass0 (pa_cons (pv 1) (pa_cons pe_int pa_nil))) (fun _ _ => rfl)))
      (pss_cons (ps_asg (pe_tup (pa_cons (pe_call G4 hr (by rfl) g4 F4.kp b4 .nil pass0 (pa_cons (pv 3) (pa_cons (pv 6) pa_nil))) (pa_cons (pe_call G4 hr (by rfl) g4 F4.kp b4 .nil pass0 (pa_cons (pv 3) (pa_cons (pv 7) pa_nil))) pa_nil))) (pg_tup rfl (pgs_cons (pg_name (i := 8) scLw.nd rfl (Or.inr rfl)) (pgs_cons (pg_name (i := 9) scLw.nd rfl (Or.inr rfl)) pgs_nil))))
      (pss_cons (ps_set (i := 10) scLw.nd rfl (Or.inl rfl) (pe_callB call_len_seq (by rfl) T.len PySem.boot_len (pa_cons (pe_lc (own := [("_law_k", 15)]) (g := gName 15) rfl scLw.nd (pi_range1 (by rfl) T.range (pa_cons (pv 4) pa_nil)) (blkOk_by (own := [("_law_k", 15)]) (N := NL) (sc := defScope sLaw) (by decide +kernel)) (fun _ _ _ _ _ => (pg_name (i := 15) scLw.nd rfl (Or.inl rfl))) (fun _ _ _ _ _ => pts_one (pt_cmpR op_eq (pe_ix (r := rIxT K) ix_tup (pv 8) (pv 15) (fun _ _ => rfl)) (pe_ix (r := rIxT K) ix_tup (pv 9) (pv 15) (fun _ _ => rfl)) (nomark _))) (fun _ _ _ _ _ => pv 15)) pa_nil)))
      (pss_cons (ps_set (i := 11) scLw.nd rfl (Or.inl rfl) (pe_ifExp (pt_cmpR op_eq (pv 6) (pv 7) (nomark _)) (pv 4) (pe_callTy call_int1 (by rfl) T.int boot_int (pa_cons (pe_cmpR op_ne (pe_op op_mod (pv 6) (pv 4)) (pe_op op_mod (pv 7) (pv 4)) (nomark _)) pa_nil))))
      (pss_one (ps_if (pt_cmpR op_ne (pv 10) (pv 11) (nomark _)) (pss_one (ps_ret pe_bl)) pss_nil))))))))
      (pss_cons (ps_set (i := 12) scLw.nd rfl (Or.inr rfl) (pe_call G2 hr1 (by rfl) g2 F2.kp b2 .nil pass0 (pa_cons (pv 1) (pa_cons (pe_op op_mul (pv 4) (pv 4)) pa_nil))))
      (pss_cons (ps_setLc (i := 13) (own := [("_law_block", 16)]) (g := gName 16) rfl scLw.nd rfl rfl (sw_true rfl rfl rfl (by decide +kernel)) (pi_list (pe_lc (own := [("_law_k", 15)]) (g := gName 15) (tt := tYes) rfl scLw.nd (pi_range1 (by rfl) T.range (pa_cons (pe_op op_mul (pv 4) (pv 4)) pa_nil)) (blkOk_by (own := [("_law_k", 15)]) (N := NL) (sc := defScope sLaw) (by decide +kernel)) (fun _ _ _ _ _ => (pg_name (i := 15) scLw.nd rfl (Or.inl rfl))) (fun _ _ _ _ _ => pts_nil) (fun _ _ _ _ _ => (pe_call G4 hr (by rfl) g4 F4.kp b4 .nil pass0 (pa_cons (pv 3) (pa_cons (pv 15) pa_nil)))))) (blkOk_by (own := [("_law_block", 16)]) (N := NL) (sc := defScope sLaw) (by decide +kernel)) (fun _ _ _ _ _ => (pg_name (i := 16) scLw.nd rfl (Or.inl rfl))) (fun _ _ _ _ _ => pts_one (pt_cmpR (r := rIn K false) op_in_seq (pv 12) (pv 16) (by rfl))) (fun _ _ _ _ _ => pv 16))
      (pss_cons (ps_setLc (i := 14) (own := [("_law_block", 16)]) (g := gName 16) rfl scLw.nd rfl rfl (sw_true rfl rfl rfl (by decide +kernel)) (pi_list (pv 13)) (blkOk_by (own := [("_law_block", 16)]) (N := NL) (sc := defScope sLaw) (by decide +kernel)) (fun _ _ _ _ _ => (pg_name (i := 16) scLw.nd rfl (Or.inl rfl))) (fun _ _ _ _ _ => pts_one (pt_cmpR op_ne (pe_tix (pv 16) (pa_cons (pv 12) pa_nil)) (pe_op op_fdiv (pv 12) (pv 4)) (nomark _))) (fun _ _ _ _ _ => pv 16))
      (pss_one (ps_if (PW.pt (pw_or (pt_cmpR op_ne (pe_callB call_len_seq (by rfl) T.len PySem.boot_len (pa_cons (pv 13) pa_nil)) (pv 4) (nomark _)) (pw_or1 (pt_cmpR (op_neD hr.units) (pv 14) (pe_lst pa_nil) (nomark _))))) (pss_one (ps_ret pe_bl)) pss_nil)))))))))
      (pss_one (ps_ret pe_bl)))), ?_⟩
    have hn7 : ∀ z : Int, (3 + (if z < 4 then z else 4)).toNat ≤ 7 := fun z => by
      split <;> omega
    have hlo : ∀ z : Int, 0 ≤ z → -(2 ^ 62) ≤ 3 + (if z < 4 then z else 4) ∧ 3 + (if z < 4 then z else 4) < 2 ^ 62 := fun z hz => by
      split <;> omega
    -- the pen
    refine ⟨.ref a, rfl, a, ns, rfl, hS, fun H1 d l cs s1 nd p1 => ?_⟩
    -- for turn in range(3 + min(4, len(script)))
    refine ⟨.ref a, rfl, a, ns.map V.int, rfl, .inl (s1.seq hS), 4, _, rfl, 3, _, rfl, rfl, _, rfl, (hlo _ (by omega)).1, (hlo _ (by omega)).2,
      for_range (lo := 0) (fun i σ Hc => ∃ (v2 v3 v4 v5 v6 v7 v8 v9 v10 v11 v12 v13 v14 v15 v16 : Option V) (nx rs : Int), σ = [some (.ref a), some (.ref d), v2, v3, v4, v5, v6, v7, v8, v9, v10, v11, v12, v13, v14, v15, v16] ∧ Same H Hc ∧ PenAt Hc d l cs nx rs ∧ 0 ≤ nx ∧ nx ≤ 17 * i)
        ⟨none, none, none, none, none, none, none, none, none, none, none, none, none, none, none, 0, 0, rfl, s1, p1, Int.le_refl _, by omega⟩ ?_ ?_⟩
    · rintro i σ Hc hi ⟨v2, v3, v4, v5, v6, v7, v8, v9, v10, v11, v12, v13, v14, v15, v16, nx, rs, rfl, sc, pc, n0, n1⟩
      have hi7 : i < 7 := Nat.lt_of_lt_of_le hi (hn7 _)
      -- count = 1 + draw(pen, 8)
      refine ⟨.ref d, rfl, d, l, cs, nx, rs, 8, rfl, pc, n0, by omega, by decide, by decide, fun H2 nx2 rs2 v p2 m0 m1 B2 hv => ⟨1, v, rfl, rfl, ?_⟩⟩
      have ec : V.int (1 + (v : Int)) = V.int ((1 + v : Nat) : Int) := by
        rw [Int.natCast_add]
        rfl
      -- q = modulus(count)
      refine ⟨.int (1 + (v : Int)), rfl, 1 + v, congrArg (fun z => [z]) ec, by omega, by omega, fun H3 s3 => ?_⟩
      have h6 := six_q (1 + v)
      generalize hqd : qN (1 + v) = q at h6 ⊢
      have hq5 := h6.pos
      have hqq : q * q ≤ 19 * 19 := Nat.mul_le_mul hq5.2 hq5.2
      have hqp : 0 < q * q := Nat.mul_pos (by omega) (by omega)
      have eqq : V.int ((q : Int) * (q : Int)) = V.int ((q * q : Nat) : Int) := by rw [Int.natCast_mul]
      have eqa : [V.ref d, V.int ((q : Int) * (q : Int))] = [V.ref d, V.int ((q * q : Nat) : Int)] := by rw [eqq]
      have q0 : (0 : Int) < (q : Int) := by omega
      have qm : CMul (q : Int) (q : Int) := .inl ⟨by omega, by omega⟩
      have qr : ∀ z : Int, CMul z (q : Int) := fun z => .inr ⟨by omega, by omega⟩
      have qd : ∀ z : Int, CDiv z (q : Int) := fun z => ⟨by omega, by omega⟩
      have ec2 : ∀ o : Nat, [V.int (1 + (v : Int)), V.int (o : Int)] = [V.int ((1 + v : Nat) : Int), V.int (o : Int)] := fun o => by rw [ec]
      -- for again in range(5)
      refine ⟨5, rfl, by decide, by decide, for_range (lo := 0) (n := 5) (fun j σ Hj => ∃ (u5 u6 u7 u8 u9 u10 u11 : Option V) (nx' rs' : Int), σ = [some (.ref a), some (.ref d), some (.int (0 + (i : Int))), some (.int (1 + (v : Int))), some (.int (q : Int)), u5, u6, u7, u8, u9, u10, u11, v12, v13, v14, v15, v16] ∧
          Same H Hj ∧ PenAt Hj d l cs nx' rs' ∧ 0 ≤ nx' ∧ nx' ≤ 17 * i + 1 + 3 * j)
        ⟨v5, v6, v7, v8, v9, v10, v11, nx2, rs2, rfl, (same_but sc nd B2).trans s3, p2.same s3, m0, by omega⟩ ?_ ?_⟩
      · rintro j σ Hj hj ⟨u5, u6, u7, u8, u9, u10, u11, nx3, rs3, rfl, sj, pj, k0, k1⟩
        -- one, other = two draws
        refine ⟨.ref d, rfl, .int q, rfl, .int q, rfl, q, q, rfl, rfl, qm, d, l, cs, nx3, rs3, q * q, eqa, pj, k0, by omega, hqp, by omega, fun Ha nxa rsa o pa a0 a1 Ba ho => ?_⟩
        refine ⟨.ref d, rfl, .int q, rfl, .int q, rfl, q, q, rfl, rfl, qm, d, l, cs, nxa, rsa, q * q, eqa, pa, a0, by omega, hqp, by omega, fun Hb nxb rsb t pb b0 b1 Bb ht => ⟨_, _, rfl, ?_⟩⟩
        -- other = one of three
        refine ⟨.int t, rfl, .int t, rfl, .int q, rfl, t, q, rfl, rfl, qd _, .int q, rfl, _, q, rfl, rfl, qr _, .int o, rfl, .int q, rfl, o, q, rfl, rfl, q0, _, _, rfl, rfl,
          .int o, rfl, .int q, rfl, o, q, rfl, rfl, qd _, .int q, rfl, _, q, rfl, rfl, qr _, .int t, rfl, .int q, rfl, t, q, rfl, rfl, q0, _, _, rfl, rfl, (by show 3 ≤ sizeLine; decide), fun e he => ?_⟩
        refine ⟨.ref d, rfl, d, l, cs, nxb, rsb, 3, rfl, pb.new he, b0, by omega, by decide, by decide, fun Hd nxd rsd u pd d0 d1 Bd hu => ?_⟩
        obtain ⟨o2, ho2, eo2⟩ := pick3 (q := q) (by omega) ho ht hu
        have el := Bd e _ upd_same (ne_of_none pb.di he).symm
        refine ⟨e, _, u, V.int o2, rfl, rfl, SqL.of el, at_of (j := u) rfl eo2, ?_⟩
        -- first, second = their blocks
        refine ⟨.int (1 + (v : Int)), rfl, .int o, rfl, 1 + v, o, ec2 o, by omega, by omega, by rw [hqd]; exact ho, fun Hf t1 sf nf ef => ?_⟩
        refine ⟨.int (1 + (v : Int)), rfl, .int o2, rfl, 1 + v, o2, ec2 o2, by omega, by omega, by rw [hqd]; exact ho2, fun Hg t2 sg ng eg => ⟨(by show 2 ≤ sizeLine; decide), fun e2 he2 => ?_⟩⟩
        rw [hqd] at ef eg
        refine ⟨e2, _, rfl, SqT.of upd_same, rfl, .ref t1, [.ref t2], rfl, .ref t2, [], rfl, rfl, ?_⟩
        have sH := (sf.trans sg).trans (same_new he2 (o := .tup [V.ref t1, V.ref t2]))
        have ef2 := (ef.same sg).same (same_new he2 (o := .tup [V.ref t1, V.ref t2]))
        have eg2 := eg.same (same_new he2 (o := .tup [V.ref t1, V.ref t2]))
        -- alike
        refine ⟨.int q, rfl, q, rfl, by omega, by omega, fun D hD => ?_⟩
        have es : ((q : Int)).toNat = q := by omega
        rw [es]
        refine lc_range (lo := 0) (n := q) (fun m H' => Same (upd Hg e2 (.tup [V.ref t1, V.ref t2])) H' ∧ H' D = some (.lst (ivs ((List.range m).filter fun k => decide (atN q o k = atN q o2 k))))) ⟨same_new hD, upd_same⟩ ?_ ?_
        · rintro m Hm hm ⟨sm, eD⟩
          refine ⟨rfl, .ref t1, rfl, .int (0 + (m : Int)), rfl, t1, _, 0 + (m : Int), V.int (atN q o m : Nat), rfl, rfl, (ef2.same sm).seq, at_of (j := m) (Int.zero_add _) (ivs_get (blk_get hm)),
            .ref t2, rfl, .int (0 + (m : Int)), rfl, t2, _, 0 + (m : Int), V.int (atN q o2 m : Nat), rfl, rfl, (eg2.same sm).seq, at_of (j := m) (Int.zero_add _) (ivs_get (blk_get hm)), rfl, _, rfl, ite2 (fun h => ?_) (fun h => ?_)⟩
          · have hk : atN q o m = atN q o2 m := by
              have := V.int.inj (of_decide_eq_true h)
              omega
            refine ⟨.int (0 + (m : Int)), rfl, _, eD, ?_, ?_, ?_⟩
            · rw [ivs_len]
              have := List.length_filter_le (fun k => decide (atN q o k = atN q o2 k)) (List.range m)
              rw [List.length_range] at this
              exact small1000 (by omega)
            · intro b x ex
              rw [upd_ne (ne_of_none ex hD)]
              exact sm b x ex
            · rw [upd_same, List.range_succ, List.filter_append, Int.zero_add]
              have e1 : ([m].filter fun k => decide (atN q o k = atN q o2 k)) = [m] := by
                rw [List.filter_cons, if_pos (decide_eq_true hk)]
                rfl
              rw [e1]
              unfold ivs
              rw [List.map_append]
              rfl
          · have hk : ¬ atN q o m = atN q o2 m := fun z => h (decide_eq_true (by rw [z]))
            refine ⟨sm, ?_⟩
            rw [List.range_succ, List.filter_append]
            have e1 : ([m].filter fun k => decide (atN q o k = atN q o2 k)) = [] := by
              rw [List.filter_cons, if_neg (fun z => hk (of_decide_eq_true z))]
              rfl
            rw [e1, List.append_nil]
            exact eD
        · rintro Hm ⟨sm, eD⟩
          refine ⟨D, _, rfl, .inl (SqL.of eD), ?_⟩
          have ea := alike h6 ho ho2
          rw [← ivs_len] at ea
          have sA : Same H Hm := ((same_but ((same_but (same_but sj nd Ba) nd Bb).trans (same_new he)) nd Bd).trans sH).trans sm
          have pA : PenAt Hm d l cs nxd rsd := pd.same (sH.trans sm)
          -- due, and the two are one
          refine ⟨.int o, rfl, .int o2, rfl, rfl, _, rfl, ite2 (fun h => ⟨.int q, rfl, ?_⟩) (fun h => ⟨.int o, rfl, .int q, rfl, o, q, rfl, rfl, q0, .int o2, rfl, .int q, rfl, o2, q, rfl, rfl, q0, rfl, .inr ⟨_, rfl, ?_⟩⟩)⟩
          · have hoo : o = o2 := by
              have := V.int.inj (of_decide_eq_true h)
              omega
            rw [if_pos hoo] at ea
            refine ⟨_, rfl, _, rfl, rfl, _, rfl, iteNS (by rw [ea]) ?_⟩
            exact ⟨_, _, _, _, _, _, _, nxd, rsd, rfl, sA, pA, d0, by omega⟩
          · have hoo : ¬ o = o2 := fun z => h (decide_eq_true (by rw [z]))
            have ed := due_if (q := q) hoo
            rw [← ea] at ed
            refine ⟨_, rfl, _, rfl, rfl, _, rfl, iteNS (by rw [ed]) ?_⟩
            exact ⟨_, _, _, _, _, _, _, nxd, rsd, rfl, sA, pA, d0, by omega⟩
      · rintro σ Hj ⟨u5, u6, u7, u8, u9, u10, u11, nx3, rs3, rfl, sj, pj, k0, k1⟩
        -- letter
        refine ⟨.ref d, rfl, .int q, rfl, .int q, rfl, q, q, rfl, rfl, qm, d, l, cs, nx3, rs3, q * q, eqa, pj, k0, by omega, hqp, by omega, fun Hl nxl rsl L pl l0 l1 Bl hL => ?_⟩
        -- the blocks of all letters
        have esq : ((q : Int) * (q : Int)).toNat = q * q := by rw [← Int.natCast_mul]; exact Int.toNat_natCast _
        refine ⟨.int q, rfl, .int q, rfl, q, q, rfl, rfl, qm, _, rfl, by rw [← Int.natCast_mul]; omega, by rw [← Int.natCast_mul]; omega, fun D1 hD1 => ?_⟩
        rw [esq]
        refine lc_range (lo := 0) (n := q * q) (fun m H' => Same Hl H' ∧ ∃ as : List Addr, as.length = m ∧ H' D1 = some (.lst (as.map V.ref)) ∧ ∀ (c : Nat) (b : Addr), as[c]? = some b → TupAt H' b (ivs (blkN q c)))
          ⟨same_new hD1, [], rfl, upd_same, fun c b e => by simp at e⟩ ?_ ?_
        · rintro m Hm hm ⟨sm, as, la, eD, hall⟩
          refine ⟨rfl, .int (1 + (v : Int)), rfl, .int (0 + (m : Int)), rfl, 1 + v, m, by rw [Int.zero_add]; exact ec2 m, by omega, by omega, by rw [hqd]; exact hm, fun Hn t sn nt et => ⟨_, sn _ _ eD, ?_, ?_, as ++ [t], ?_, ?_, ?_⟩⟩
          · rw [List.length_map, la]
            exact small1000 (by omega)
          · intro b x ex
            rw [upd_ne (ne_of_none ex hD1)]
            exact sn _ _ (sm _ _ ex)
          · rw [List.length_append, la]
            rfl
          · rw [upd_same, List.map_append]
            rfl
          · intro c b hb
            by_cases hc : c < as.length
            · rw [List.getElem?_append_left hc] at hb
              exact ((hall c b hb).same sn).put (sn _ _ eD)
            · have hc2 : c = as.length := by
                have := (List.getElem?_eq_some_iff.mp hb).1
                rw [List.length_append, List.length_singleton] at this
                omega
              rw [hc2, List.getElem?_append_right (Nat.le_refl _), Nat.sub_self] at hb
              have hb2 : t = b := Option.some.inj hb
              rw [← hb2, hc2, la]
              rw [hqd] at et
              exact et.put (sn _ _ eD)
        · rintro Hm ⟨sm, as, la, eD, hall⟩
          -- the owners
          refine ⟨D1, rfl, ⟨_, SqL.of eD⟩, fun D2 hD2 => lc_list (K := K) (a := D1) (xs := as.map V.ref) (fun m H' => Same Hm H' ∧ ∃ os : List Addr, os.length = ((List.range m).filter fun c => decide (L ∈ blkN q c)).length ∧
              H' D2 = some (.lst (os.map V.ref)) ∧ ∀ b ∈ os, ∃ c, L ∈ blkN q c ∧ TupAt Hm b (ivs (blkN q c)))
            ⟨same_new hD2, [], rfl, upd_same, fun b hb => by cases hb⟩ (fun m H' _ z => z.1.seq (SqL.of eD)) ?_ ?_⟩
          · rintro m x Hn hx ⟨sn, os, lo, eO, hos⟩
            obtain ⟨b, hb, rfl⟩ := ref_at hx
            have tb := hall m b hb
            have hml : m < q * q := by
              have := (List.getElem?_eq_some_iff.mp hb).1
              omega
            refine ⟨rfl, .int L, rfl, .ref b, rfl, b, _, rfl, .inr (tb.same sn).seq, rfl, flat_ivs _, _, rfl, ite2 (fun h => ?_) (fun h => ?_)⟩
            · have h2 : inV (V.int (L : Int)) (ivs (blkN q m)) = true := h
              rw [in_ivs] at h2
              have h3 := of_decide_eq_true h2
              refine ⟨.ref b, rfl, _, eO, ?_, ?_, os ++ [b], ?_, ?_, ?_⟩
              · rw [List.length_map, lo]
                have := List.length_filter_le (fun c => decide (L ∈ blkN q c)) (List.range m)
                rw [List.length_range] at this
                exact small1000 (by omega)
              · intro y x ex
                rw [upd_ne (ne_of_none ex hD2)]
                exact sn _ _ ex
              · rw [List.length_append, lo, List.range_succ, List.filter_append, List.length_append, List.filter_cons, if_pos h2]
                rfl
              · rw [upd_same, List.map_append]
                rfl
              · intro y hy
                rcases List.mem_append.mp hy with hy | hy
                · exact hos y hy
                · rw [List.mem_singleton.mp hy]
                  exact ⟨m, h3, tb⟩
            · have h2 : ¬ inV (V.int (L : Int)) (ivs (blkN q m)) = true := h
              rw [in_ivs] at h2
              refine ⟨sn, os, ?_, eO, hos⟩
              rw [lo, List.range_succ, List.filter_append, List.length_append, List.filter_cons, if_neg h2]
              rfl
          · rintro Hn ⟨sn, os, lo, eO, hos⟩
            have lq : os.length = q := by
              rw [lo, List.length_map, la]
              exact owners h6 hL
            -- the strange ones
            refine ⟨.ref D2, rfl, D2, rfl, ⟨_, SqL.of eO⟩, fun D3 hD3 => lc_list (K := K) (a := D2) (xs := os.map V.ref) (fun m H' => Same Hn H' ∧ H' D3 = some (.lst []))
              ⟨same_new hD3, upd_same⟩ (fun m H' _ z => z.1.seq (SqL.of eO)) ?_ ?_⟩
            · rintro m x Ho hx ⟨so, e3⟩
              obtain ⟨b, hb, rfl⟩ := ref_at hx
              obtain ⟨c, hc, tb⟩ := hos b (List.mem_of_getElem? hb)
              obtain ⟨ob, eb, db⟩ := (tb.same sn).same so
              obtain ⟨hat, hno⟩ := blk_at (by omega) hc
              refine ⟨rfl, .ref b, rfl, b, ob, _, rfl, eb, db, .int L, rfl, .int L, .int L, L / q, rfl, eb, rfl, flat_ivs _, ivs_get hat, (eq_int L L).trans (decide_eq_true rfl), fun m' z' hm' hz' => ?_,
                .int L, rfl, .int q, rfl, L, q, rfl, rfl, qd _, rfl, _, rfl, iteNS (congrArg V.int (Int.natCast_ediv L q)) ⟨so, e3⟩⟩
              obtain ⟨k', hk', rfl⟩ := ivs_get_inv hz'
              rw [eq_int]
              exact decide_eq_false (hno _ _ hm' hk')
            · rintro Ho ⟨so, e3⟩
              refine ⟨.ref D2, rfl, D2, _, rfl, .inl (SqL.of (so _ _ eO)), .int q, rfl, rfl, _, rfl, iteNS (by rw [List.length_map, lq])
                ⟨.ref D3, rfl, Nat.zero_le _, fun e he => ⟨.list [], .list [], .lst (SqL.of (same_new he _ _ e3)) .nil, .lst (SqL.of upd_same) .nil, shaped_ints [], shaped_ints [], _, rfl, iteF ?_⟩⟩⟩
              have sE := ((((same_but sj nd Bl).trans sm).trans sn).trans so).trans (same_new he (o := .lst []))
              exact ⟨_, _, _, _, _, _, _, _, _, _, _, _, _, _, _, nxl, rsl, rfl, sE, pl.same (((sm.trans sn).trans so).trans (same_new he)), l0, by omega⟩
    · rintro σ Hc ⟨v2, v3, v4, v5, v6, v7, v8, v9, v10, v11, v12, v13, v14, v15, v16, nx, rs, rfl, _⟩
      exact k _
end
end K51

namespace K51
open PySem L2 PyProof.Rows
/-- what the top leaves, read off its facts -/
theorem all_facts {l : PySem.W.OpenLaw} {w : World} {K : PySem.W.Frag} {h : Heap} {mg : Str → Option Value} {fa f1 f2 f3 f4 f5 f6 f7 f8 f9 f10 f11 f12 : Addr} (X : K.In h) (G : h.Ns mainGlobals mg) (hfa : mg "law" = some (.ref fa))
    {od1 an1 od2 an2 od3 an3 od4 an4 od5 an5 od6 an6 od7 an7 od8 an8 od9 an9 od10 an10 od11 an11 od12 an12 : Option Addr} {sl1 sl2 sl3 sl4 sl5 sl6 sl7 sl8 sl9 sl10 sl11 sl12 : Array (Option Value)} {oc1 kV1 dc1 pm1 cd1 ct1 oc2 kV2 dc2 pm2 cd2 ct2 oc3 kV3 dc3 pm3 cd3 ct3 oc4 kV4 dc4 pm4 cd4 ct4 oc5 kV5 dc5 pm5 cd5 ct5 oc6 kV6 dc6 pm6 cd6 ct6 oc7 kV7 dc7 pm7 cd7 ct7 oc8 kV8 dc8 pm8 cd8 ct8 oc9 kV9 dc9 pm9 cd9 ct9 oc10 kV10 dc10 pm10 cd10 ct10 oc11 kV11 dc11 pm11 cd11 ct11 oc12 kV12 dc12 pm12 cd12 ct12 : Value} {tk : Tok}
    (a1 : PySem.W.nsIn K mainGlobals "is_integer" = some (some (.ref f1))) (l1 : K.lookup f1 = some ⟨oc1, od1, .func (PySem.W.fnOf "is_integer" "is_integer" (defArgs sIsInt) (defBody sIsInt) (defScope sIsInt) .none kV1 dc1 pm1 an1 cd1 ct1), sl1⟩)
    (c1 : PySem.W.codeIn K cd1 "is_integer" = true) (k1 : PySem.W.keepIn K (.ref f1) = true)
    (a2 : PySem.W.nsIn K mainGlobals "is_between" = some (some (.ref f2))) (l2 : K.lookup f2 = some ⟨oc2, od2, .func (PySem.W.fnOf "is_between" "is_between" (defArgs sBetween) (defBody sBetween) (defScope sBetween) .none kV2 dc2 pm2 an2 cd2 ct2), sl2⟩)
    (c2 : PySem.W.codeIn K cd2 "is_between" = true) (k2 : PySem.W.keepIn K (.ref f2) = true)
    (a3 : PySem.W.nsIn K mainGlobals "need_count" = some (some (.ref f3))) (l3 : K.lookup f3 = some ⟨oc3, od3, .func (PySem.W.fnOf "need_count" "need_count" (defArgs sNeed) (defBody sNeed) (defScope sNeed) .none kV3 dc3 pm3 an3 cd3 ct3), sl3⟩)
    (c3 : PySem.W.codeIn K cd3 "need_count" = true) (k3 : PySem.W.keepIn K (.ref f3) = true)
    (a4 : PySem.W.nsIn K mainGlobals "is_prime" = some (some (.ref f4))) (l4 : K.lookup f4 = some ⟨oc4, od4, .func (PySem.W.fnOf "is_prime" "is_prime" (defArgs sPrime) (defBody sPrime) (defScope sPrime) .none kV4 dc4 pm4 an4 cd4 ct4), sl4⟩)
    (c4 : PySem.W.codeIn K cd4 "is_prime" = true) (k4 : PySem.W.keepIn K (.ref f4) = true)
    (a5 : PySem.W.nsIn K mainGlobals "modulus_of" = some (some (.ref f5))) (l5 : K.lookup f5 = some ⟨oc5, od5, .func (PySem.W.fnOf "modulus_of" "modulus_of" (defArgs sModOf) (defBody sModOf) (defScope sModOf) .none kV5 dc5 pm5 an5 cd5 ct5), sl5⟩)
    (c5 : PySem.W.codeIn K cd5 "modulus_of" = true) (k5 : PySem.W.keepIn K (.ref f5) = true)
    (a6 : PySem.W.nsIn K mainGlobals "modulus" = some (some (.ref f6))) (l6 : K.lookup f6 = some ⟨oc6, od6, .func (PySem.W.fnOf "modulus" "modulus" (defArgs sMod) (defBody sMod) (defScope sMod) .none kV6 dc6 pm6 an6 cd6 ct6), sl6⟩)
    (c6 : PySem.W.codeIn K cd6 "modulus" = true) (k6 : PySem.W.keepIn K (.ref f6) = true)
    (a7 : PySem.W.nsIn K mainGlobals "block_letter" = some (some (.ref f7))) (l7 : K.lookup f7 = some ⟨oc7, od7, .func (PySem.W.fnOf "block_letter" "block_letter" (defArgs sLetter) (defBody sLetter) (defScope sLetter) .none kV7 dc7 pm7 an7 cd7 ct7), sl7⟩)
    (c7 : PySem.W.codeIn K cd7 "block_letter" = true) (k7 : PySem.W.keepIn K (.ref f7) = true)
    (a8 : PySem.W.nsIn K mainGlobals "block_of" = some (some (.ref f8))) (l8 : K.lookup f8 = some ⟨oc8, od8, .func (PySem.W.fnOf "block_of" "block_of" (defArgs sBlockOf) (defBody sBlockOf) (defScope sBlockOf) .none kV8 dc8 pm8 an8 cd8 ct8), sl8⟩)
    (c8 : PySem.W.codeIn K cd8 "block_of" = true) (k8 : PySem.W.keepIn K (.ref f8) = true)
    (a9 : PySem.W.nsIn K mainGlobals "letter_block" = some (some (.ref f9))) (l9 : K.lookup f9 = some ⟨oc9, od9, .func (PySem.W.fnOf "letter_block" "letter_block" (defArgs sBlock) (defBody sBlock) (defScope sBlock) .none kV9 dc9 pm9 an9 cd9 ct9), sl9⟩)
    (c9 : PySem.W.codeIn K cd9 "letter_block" = true) (k9 : PySem.W.keepIn K (.ref f9) = true)
    (a10 : PySem.W.nsIn K mainGlobals "_law_pen" = some (some (.ref f10))) (l10 : K.lookup f10 = some ⟨oc10, od10, .func (PySem.W.fnOf "_law_pen" "_law_pen" (defArgs sPen) (defBody sPen) (defScope sPen) .none kV10 dc10 pm10 an10 cd10 ct10), sl10⟩)
    (c10 : PySem.W.codeIn K cd10 "_law_pen" = true) (k10 : PySem.W.keepIn K (.ref f10) = true)
    (a11 : PySem.W.nsIn K mainGlobals "_law_draw" = some (some (.ref f11))) (l11 : K.lookup f11 = some ⟨oc11, od11, .func (PySem.W.fnOf "_law_draw" "_law_draw" (defArgs sDraw) (defBody sDraw) (defScope sDraw) .none kV11 dc11 pm11 an11 cd11 ct11), sl11⟩)
    (c11 : PySem.W.codeIn K cd11 "_law_draw" = true) (k11 : PySem.W.keepIn K (.ref f11) = true)
    (a12 : PySem.W.nsIn K mainGlobals "law" = some (some (.ref f12))) (l12 : K.lookup f12 = some ⟨oc12, od12, .func (PySem.W.fnOf "law" "law" (defArgs sLaw) (defBody sLaw) (defScope sLaw) .none kV12 dc12 pm12 an12 cd12 ct12), sl12⟩)
    (c12 : PySem.W.codeIn K cd12 "law" = true) (k12 : PySem.W.keepIn K (.ref f12) = true)
    (z1 : PySem.W.nsIn K mainGlobals "isinstance" = some none)
    (z2 : PySem.W.nsIn K mainGlobals "int" = some none)
    (z3 : PySem.W.nsIn K mainGlobals "bool" = some none)
    (z4 : PySem.W.nsIn K mainGlobals "all" = some none)
    (z5 : PySem.W.nsIn K mainGlobals "range" = some none)
    (z6 : PySem.W.nsIn K mainGlobals "tuple" = some none)
    (z7 : PySem.W.nsIn K mainGlobals "list" = some none)
    (z8 : PySem.W.nsIn K mainGlobals "abs" = some none)
    (z9 : PySem.W.nsIn K mainGlobals "min" = some none)
    (z10 : PySem.W.nsIn K mainGlobals "len" = some none)
    (zm : PySem.W.nsIn K mainGlobals "MAX_VARIABLES" = some (some (.int 8 tk))) :
    ∃ fd : FuncData, (∀ (s : Shared) (v : Value), BindsTo s fd ⟨[v], []⟩ [("_law_script", v)]) ∧ ∀ base : Heap, K.In base → base.Ns mainGlobals mg → FnOk l.prog w K mg base CX0 6 fa fd ["_law_script"] (spLaw K) := by
  have e := hfa.symm.trans (PySem.W.mg_of X G a12)
  cases e
  have T : Txt mg := ⟨PySem.W.mg_none_of X G z1, PySem.W.mg_none_of X G z2, PySem.W.mg_none_of X G z3, PySem.W.mg_none_of X G z4, PySem.W.mg_none_of X G z5, PySem.W.mg_none_of X G z6, PySem.W.mg_none_of X G z7, PySem.W.mg_none_of X G z8, PySem.W.mg_none_of X G z9, PySem.W.mg_none_of X G z10, _, PySem.W.mg_of X G zm⟩
  have F1 := fun_mk (st := sIsInt) l1 c1 k1
  have F2 := fun_mk (st := sBetween) l2 c2 k2
  have F3 := fun_mk (st := sNeed) l3 c3 k3
  have F4 := fun_mk (st := sPrime) l4 c4 k4
  have F5 := fun_mk (st := sModOf) l5 c5 k5
  have F6 := fun_mk (st := sMod) l6 c6 k6
  have F7 := fun_mk (st := sLetter) l7 c7 k7
  have F8 := fun_mk (st := sBlockOf) l8 c8 k8
  have F9 := fun_mk (st := sBlock) l9 c9 k9
  have F10 := fun_mk (st := sPen) l10 c10 k10
  have F11 := fun_mk (st := sDraw) l11 c11 k11
  have F12 := fun_mk (st := sLaw) l12 c12 k12
  have b1 := F1.binds (ps := ["value"]) fun _ _ _ _ _ _ us hl => match us, hl with | [_], _ => rfl
  have b2 := F2.binds (ps := ["value", "low", "high"]) fun _ _ _ _ _ _ us hl => match us, hl with | [_, _, _], _ => rfl
  have b3 := F3.binds (ps := ["value", "low", "high"]) fun _ _ _ _ _ _ us hl => match us, hl with | [_, _, _], _ => rfl
  have b4 := F4.binds (ps := ["number"]) fun _ _ _ _ _ _ us hl => match us, hl with | [_], _ => rfl
  have b5 := F5.binds (ps := ["count"]) fun _ _ _ _ _ _ us hl => match us, hl with | [_], _ => rfl
  have b6 := F6.binds (ps := ["count"]) fun _ _ _ _ _ _ us hl => match us, hl with | [_], _ => rfl
  have b7 := F7.binds (ps := ["q", "letter", "at"]) fun _ _ _ _ _ _ us hl => match us, hl with | [_, _, _], _ => rfl
  have b8 := F8.binds (ps := ["q", "letter"]) fun _ _ _ _ _ _ us hl => match us, hl with | [_, _], _ => rfl
  have b9 := F9.binds (ps := ["count", "letter"]) fun _ _ _ _ _ _ us hl => match us, hl with | [_, _], _ => rfl
  have b10 := F10.binds (ps := ["_law_script"]) fun _ _ _ _ _ _ us hl => match us, hl with | [_], _ => rfl
  have b11 := F11.binds (ps := ["_law_pen_here", "_law_many"]) fun _ _ _ _ _ _ us hl => match us, hl with | [_, _], _ => rfl
  have g1 := PySem.W.mg_of X G a1
  have g2 := PySem.W.mg_of X G a2
  have g3 := PySem.W.mg_of X G a3
  have g4 := PySem.W.mg_of X G a4
  have g5 := PySem.W.mg_of X G a5
  have g6 := PySem.W.mg_of X G a6
  have g7 := PySem.W.mg_of X G a7
  have g8 := PySem.W.mg_of X G a8
  have g9 := PySem.W.mg_of X G a9
  have g10 := PySem.W.mg_of X G a10
  have g11 := PySem.W.mg_of X G a11
  refine ⟨PySem.W.fnOf "law" "law" (defArgs sLaw) (defBody sLaw) (defScope sLaw) .none kV12 dc12 pm12 an12 cd12 ct12, fun s v => .of_eq rfl, fun base _ _ => ?_⟩
  have Ok2 := ok_between (P := l.prog) (w := w) (base := base) F2 F1 b1 g1 T
  have Ok3 := ok_need F3 F2 b2 g2 Ok2
  have Ok5 := ok_modof (P := l.prog) (w := w) (base := base) F5 F4 b4 g4 T
  have Ok6 := ok_mod F6 F3 b3 g3 Ok3 F5 b5 g5 Ok5 T
  have Ok8 := ok_blockof (P := l.prog) (w := w) (base := base) F8 F7 b7 g7 T
  have Ok9 := ok_block F9 F6 b6 g6 Ok6 F3 b3 g3 Ok3 F8 b8 g8 Ok8
  exact ok_law F12 T F10 b10 g10 (ok_pen F10 T) F11 b11 g11 (ok_draw F11 T) F6 b6 g6 Ok6 F9 b9 g9 Ok9
end K51
open PySem PySem.W PyProof.Rows
set_option maxRecDepth 100000 in
set_option maxHeartbeats 0 in
theorem PySem.Challenge.cw_mustoccur_k51_whole_two_blocks_agree_onc_holds : PySem.Challenge.rw_mustoccur_k51_whole_two_blocks_agree_onc.Holds := by
  w_on; o_law; k_head; (case hw => w_witness2)
  k_fill
  refine L2.walk_of (l := PySem.Challenge.rw_mustoccur_k51_whole_two_blocks_agree_onc) (n := 63) (k := 6) (x := "_law_script") (CX := fun _ => L2.CX0) (sp := fun w => K51.spLaw _) rfl (by decide) rfl ⟨rfl, by decide, by decide⟩ (fun w h Y => PySem.W.kIn_of Y) ?F
    (fun _ _ a ns hl _ hS => ⟨a, ns, rfl, hS, hl, fun _ => rfl⟩) (fun _ _ _ _ _ z => z)
  case F =>
    intro w mg fa h KX G hmg
    refine' K51.all_facts KX G hmg ?a1 ?l1 ?c1 ?k1 ?a2 ?l2 ?c2 ?k2 ?a3 ?l3 ?c3 ?k3 ?a4 ?l4 ?c4 ?k4 ?a5 ?l5 ?c5 ?k5 ?a6 ?l6 ?c6 ?k6 ?a7 ?l7 ?c7 ?k7 ?a8 ?l8 ?c8 ?k8 ?a9 ?l9 ?c9 ?k9 ?a10 ?l10 ?c10 ?k10 ?a11 ?l11 ?c11 ?k11 ?a12 ?l12 ?c12 ?k12 ?z1 ?z2 ?z3 ?z4 ?z5 ?z6 ?z7 ?z8 ?z9 ?z10 ?zm
    (case a1 => k_is)
    (case l1 => k_is)
    (case c1 => k_is)
    (case k1 => k_is)
    (case a2 => k_is)
    (case l2 => k_is)
    (case c2 => k_is)
    (case k2 => k_is)
    (case a3 => k_is)
    (case l3 => k_is)
    (case c3 => k_is)
    (case k3 => k_is)
    (case a4 => k_is)
    (case l4 => k_is)
    (case c4 => k_is)
    (case k4 => k_is)
    (case a5 => k_is)
    (case l5 => k_is)
    (case c5 => k_is)
    (case k5 => k_is)
    (case a6 => k_is)
    (case l6 => k_is)
    (case c6 => k_is)
    (case k6 => k_is)
    (case a7 => k_is)
    (case l7 => k_is)
    (case c7 => k_is)
    (case k7 => k_is)
    (case a8 => k_is)
    (case l8 => k_is)
    (case c8 => k_is)
    (case k8 => k_is)
    (case a9 => k_is)
    (case l9 => k_is)
    (case c9 => k_is)
    (case k9 => k_is)
    (case a10 => k_is)
    (case l10 => k_is)
    (case c10 => k_is)
    (case k10 => k_is)
    (case a11 => k_is)
    (case l11 => k_is)
    (case c11 => k_is)
    (case k11 => k_is)
    (case a12 => k_is)
    (case l12 => k_is)
    (case c12 => k_is)
    (case k12 => k_is)
    (case z1 => k_is)
    (case z2 => k_is)
    (case z3 => k_is)
    (case z4 => k_is)
    (case z5 => k_is)
    (case z6 => k_is)
    (case z7 => k_is)
    (case z8 => k_is)
    (case z9 => k_is)
    (case z10 => k_is)
    (case zm => k_is)
