import PyProof.Rows.All
import Wide.All
import OpenK.AllK
import Wide.FinOn
import HandS.ForMost
import HandS.IsInst
import HandS.Conv
import HandS.Style
import HandS.Wide
import HandS.Walk
import HandS.Zip
import HandS.Deep
import HandS.TupAny
import HandS.ExcInit
import HandS.Codes
import PySem.Challenge.RW_leapwork_k48_writings_read
set_option Elab.async false
set_option linter.all false
set_option maxRecDepth 100000
set_option maxHeartbeats 4000000
namespace LW
open PySem PySem.Spec PyProof.Rows L2 RZ
/-! ### shared words: a def of the text, its promise, calls -/
/-- a def of the text as it stands behind the top -/
def Df (K : PySem.W.Frag) (mg : Str → Option Value) (x : Str) (st : Stmt) (ps : List Str) : Prop :=
  ∃ (f : Addr) (fd : FuncData), Fun K x x st f fd ∧ Binds K fd ps [] ∧ mg x = some (.ref f)
/-- a def that keeps a promise -/
def Ok (P : Program) (w : World) (K : PySem.W.Frag) (mg : Str → Option Value) (base : Heap) (k : Nat) (x : Str) (ps : List Str) (sp : Sp) : Prop :=
  ∃ (f : Addr) (fd : FuncData), mg x = some (.ref f) ∧ PySem.W.keepIn K (.ref f) = true ∧ Binds K fd ps [] ∧ FnOk P w K mg base CX0 k f fd ps sp
section
variable {P : Program} {w : World} {K : PySem.W.Frag} {mg : Str → Option Value} {base : Heap}
theorem Ok.mk {x : Str} {st : Stmt} {N ps : List Str} {k : Nat} {sp : Sp} (D : Df K mg x st ps) (S : FnScope N ps (defScope st)) (len : ∀ vs H Q E, sp vs H Q E → vs.length = ps.length)
    (hbody : ∀ (f : Addr) (cdv : Value) (A : Around) (outer : List Env) (s : Shared) (H : Hp) (vs : List V) (Q : VK) (E : XK), Room k (A.deeper (envOfC x (defScope st) s.heap.objs.size f cdv)) → sp vs H Q E →
      ∃ t, PSs (cxOf CX0 P w K mg base N x (defScope st) f cdv A outer s H E).nox (defBody st) t ∧ t { nx := fun _ H' => Q .non H', rt := Q } (start N vs) H) : Ok P w K mg base (k + 1) x ps sp := by
  obtain ⟨f, fd, F, b, g⟩ := D
  exact ⟨f, fd, g, F.kp, b, F.ok S len fun cdv A outer s H vs Q E hr h => hbody f cdv A outer s H vs Q E hr h⟩
theorem Ok.mono {x : Str} {ps : List Str} {j k : Nat} {sp : Sp} (h : Ok P w K mg base j x ps sp) (l : j ≤ k) : Ok P w K mg base k x ps sp := by
  obtain ⟨f, fd, hm, hk, hb, F⟩ := h
  exact ⟨f, fd, hm, hk, hb, F.mono l⟩
theorem Ok.imp {x : Str} {ps : List Str} {k : Nat} {sp sp' : Sp} (h : Ok P w K mg base k x ps sp) (q : ∀ vs H Q E, sp' vs H Q E → sp vs H Q E) : Ok P w K mg base k x ps sp' := by
  obtain ⟨f, fd, hm, hk, hb, F⟩ := h
  exact ⟨f, fd, hm, hk, hb, F.imp q⟩
end
section
variable {X : Cx}
theorem pe_fn {k : Nat} {x : Str} {ps : List Str} {sp : Sp} {e : Expr} {es : List Expr} {t : TA} {p pos : Pos} (O : Ok X.prog X.w X.K X.mg X.base k x ps sp) (hr : Room k X.A) (hg : Gl X x) (ha : PA X (e :: es) t)
    (hdb : (x == ("__debug__" : Str)) = false := by decide) (he : starEach (e :: es) X.env = (false, eval e X.env) :: starEach es X.env := by rfl) (hpl : (backTo pos (starEach es X.env)).any (·.1) = false := by rfl) :
    PE X (.Call (.Name x p) (e :: es) [] pos) (tCall sp [] E0 t) := by
  obtain ⟨f, fd, hm, hk, hb, F⟩ := O
  exact pe_call F hr hg hm hk hb .nil pass0 ha hdb he hpl
theorem pe_fn0 {k : Nat} {x : Str} {ps : List Str} {sp : Sp} {p pos : Pos} (O : Ok X.prog X.w X.K X.mg X.base k x ps sp) (hr : Room k X.A) (hg : Gl X x) (hdb : (x == ("__debug__" : Str)) = false := by decide) :
    PE X (.Call (.Name x p) [] [] pos) (tCall sp [] E0 tNil) := by
  obtain ⟨f, fd, hm, hk, hb, F⟩ := O
  exact pe_call0 F hr hg hm hk hb .nil pass0 hdb
/-- a name that is a local -/
theorem pg_nameL {i : Nat} {x : Str} {pos : Pos} (hN : X.N.Nodup) (hi : X.N[i]? = some x) (hx : X.env.scope.names.lookup x = some .local) : PG X (.Name x pos) (gName i) := pg_name hN hi (.inl hx) (.inr hx)
/-- xs[i], for xs[i] op= e -/
theorem get_list : PGet X (rIxL X.K) := by
  intro pins s σ H x y v u Q I rx ry h
  obtain ⟨p, xs, i, z, rfl, rfl, hq, he, q⟩ := h
  cases rx
  obtain ⟨t, rfl⟩ := ry
  obtain ⟨its, r, pl, hz⟩ := I.list hq
  obtain ⟨j, h1, h2, h3, h4, h5⟩ := atI_get he
  obtain ⟨w, ew, rw'⟩ := r.get h2
  have hl := r.length
  have hn := line63
  have fin : EP X pins σ Q w s := ⟨z, H, I, rw', q⟩
  by_cases h0 : 0 ≤ i
  · have hj : i.toNat = j := by
      rw [seqIndex_of h0 h5] at h1
      exact Option.some.inj h1
    exact wpAny_getItem_list pl.isList h0 (by omega) (by rw [hj]; simpa using ew) fin
  · have hj : (i + (its.toArray.size : Int)).toNat = j := by
      rw [seqIndex_neg (by omega) h4] at h1
      rw [List.size_toArray, ← hl]
      exact Option.some.inj h1
    exact wpAny_getItem_list_neg pl.isList (by omega) (by rw [List.size_toArray] <;> omega) (by omega) (by rw [hj]; simpa using ew) fin
end
/-! ### heaps -/
theorem same_upd {H : Hp} {p : Addr} {o : HO} (h : H p = none) : Same H (upd H p o) := fun b x e => by
  rw [upd_ne (ne_of_none e h)]
  exact e
/-- all but p is as it was -/
def But (p : Addr) (H H' : Hp) : Prop := ∀ b o, b ≠ p → H b = some o → H' b = some o
theorem But.refl (p : Addr) (H : Hp) : But p H H := fun _ _ _ h => h
theorem But.of {p : Addr} {H H' : Hp} (h : Same H H') : But p H H' := fun b o _ e => h b o e
theorem But.trans {p : Addr} {H H1 H2 : Hp} (a : But p H H1) (b : But p H1 H2) : But p H H2 := fun c o n h => b c o n (a c o n h)
theorem But.upd {p : Addr} {H : Hp} {o : HO} : But p H (upd H p o) := fun b x n e => by rw [upd_ne n]; exact e
theorem But.new {p q : Addr} {H : Hp} {o : HO} (h : H q = none) : But p H (L2.upd H q o) := But.of (same_upd h)
theorem But.free {p : Addr} {H H' : Hp} (e : But p H H') {l : Addr} (n : l ≠ p) (h : H' l = none) : H l = none := by
  cases q : H l with
  | none => rfl
  | some o => rw [e l o n q] at h; cases h
/-! ### the pen: [cells, at, rest] -/
/-- a pen at p, its cells at c, of which at most n were taken -/
structure Pen (H : Hp) (p c : Addr) (n : Nat) : Prop where
  pen : ∃ (at_ rest : Int), H p = some (.lst [.ref c, .int at_, .int rest]) ∧ 0 ≤ at_ ∧ at_ ≤ (n : Int) ∧ 0 ≤ rest
  cells : ∃ ns : List Int, H c = some (.lst (ns.map V.int))
  ne : c ≠ p
theorem Pen.but {H H' : Hp} {p c q : Addr} {n : Nat} (h : Pen H p c n) (b : But q H H') (n1 : p ≠ q) (n2 : c ≠ q) : Pen H' p c n := by
  obtain ⟨⟨a, r, e, z⟩, ⟨ns, e2⟩, ne⟩ := h
  exact ⟨⟨a, r, b _ _ n1 e, z⟩, ⟨ns, b _ _ n2 e2⟩, ne⟩
theorem Pen.same {H H' : Hp} {p c : Addr} {n : Nat} (h : Pen H p c n) (b : Same H H') : Pen H' p c n := by
  obtain ⟨⟨a, r, e, z⟩, ⟨ns, e2⟩, ne⟩ := h
  exact ⟨⟨a, r, b _ _ e, z⟩, ⟨ns, b _ _ e2⟩, ne⟩
theorem Pen.mono {H : Hp} {p c : Addr} {n m : Nat} (h : Pen H p c n) (l : n ≤ m) : Pen H p c m := by
  obtain ⟨⟨a, r, e, z1, z2, z3⟩, ns, ne⟩ := h
  exact ⟨⟨a, r, e, z1, by omega, z3⟩, ns, ne⟩
theorem Pen.new {H : Hp} {p c q : Addr} {n : Nat} (h : Pen H p c n) (e : H q = none) : p ≠ q ∧ c ≠ q := by
  obtain ⟨⟨a, r, e1, _⟩, ⟨ns, e2⟩, ne⟩ := h
  exact ⟨ne_of_none e1 e, ne_of_none e2 e⟩
theorem Pen.free {H : Hp} {p c q : Addr} {n : Nat} (h : Pen H p c n) (e : H q = none) : q ≠ p ∧ q ≠ c := ⟨(h.new e).1.symm, (h.new e).2.symm⟩
/-- the law's script -/
def spLaw (K : PySem.W.Frag) : Sp := fun vs H Q _ => ∃ (a : Addr) (ns : List Int), vs = [.ref a] ∧ SqL K H a (ns.map V.int) ∧ ns.length ≤ 63 ∧ ∀ H', Q (.bl true) H'
def spSpread : Sp := fun vs H Q _ => ∃ c a : Int, vs = [.int c, .int a] ∧ 0 ≤ a ∧ a ≤ 1000000000 ∧ ∀ (r : Int) (H' : Hp), 0 ≤ r → Same H H' → Q (.int r) H'
def spOpen (K : PySem.W.Frag) : Sp := fun vs H Q _ => ∃ (a : Addr) (ns : List Int), vs = [.ref a] ∧ SqL K H a (ns.map V.int) ∧ ns.length ≤ 63 ∧ ∀ p c H', Same H H' → H p = none → H c = none → Pen H' p c 0 → Q (.ref p) H'
def spTake : Sp := fun vs H Q _ => ∃ (p c : Addr) (n : Nat) (m : Int), vs = [.ref p, .int m] ∧ Pen H p c n ∧ n ≤ 1000000000 ∧ 0 < m ∧ m.natAbs < 2 ^ 9000 ∧
  ∀ (r : Int) (H' : Hp), 0 ≤ r → r < m → But p H H' → Pen H' p c (n + 1) → Q (.int r) H'
theorem cut_take (xs : List V) (b : Nat) : cutV xs none (some (b : Int)) = xs.take b := by
  unfold cutV
  rw [HT.sIx_none, HT.sIx_nat, List.drop_zero, Nat.sub_zero]
  rcases Nat.le_total b xs.length with h | h
  · rw [Nat.min_eq_left h]
  · rw [Nat.min_eq_right h, List.take_of_length_le (Nat.le_refl _), List.take_of_length_le h]
theorem cut_drop (xs : List V) (a b : Nat) (h : a ≤ b) : cutV xs (some (a : Int)) (some (b : Int)) = (xs.take b).drop a := by
  unfold cutV
  rw [HT.sIx_nat, HT.sIx_nat]
  apply List.ext_getElem?
  intro i
  rw [List.getElem?_take, List.getElem?_drop, List.getElem?_drop, List.getElem?_take]
  by_cases h1 : a ≤ xs.length
  · rw [Nat.min_eq_left h1]
    by_cases h2 : b ≤ xs.length
    · rw [Nat.min_eq_left h2]
      by_cases h3 : i < b - a
      · rw [if_pos h3, if_pos (by omega)]
      · rw [if_neg h3, if_neg (by omega)]
    · rw [Nat.min_eq_right (by omega)]
      by_cases h3 : a + i < xs.length
      · rw [if_pos (by omega), if_pos (by omega)]
      · rw [List.getElem?_eq_none (by omega)]
        simp
  · rw [Nat.min_eq_right (by omega), List.getElem?_eq_none (by omega), List.getElem?_eq_none (show xs.length ≤ a + i by omega)]
    simp
theorem atI_of {α : Type} {xs : List α} {i : Int} {v : α} (j : Nat) (e : i = (j : Int)) (h : xs[j]? = some v) : atI xs i = some v := by subst e; exact atI_nat h
theorem ixN_of {n : Nat} {i : Int} (j : Nat) (e : i = (j : Int)) (h : j < n) : ixN n i = some j := by
  subst e
  unfold ixN
  rw [if_pos (by omega), if_pos (by omega)]
  simp

/-! ### data: values as trees -/
/-- less than n deep, no list too long -/
def fit : Nat → PyData → Prop
  | 0, _ => False
  | n + 1, .list xs => xs.length < sizeLine ∧ ∀ x ∈ xs, fit n x
  | n + 1, .tuple xs => xs.length < sizeLine ∧ ∀ x ∈ xs, fit n x
  | _ + 1, _ => True
theorem fit_mono : ∀ {n m : Nat} {d : PyData}, fit n d → n ≤ m → fit m d
  | 0, _, _, h, _ => False.elim h
  | n + 1, 0, _, _, l => absurd l (by omega)
  | n + 1, m + 1, .list xs, h, l => ⟨h.1, fun x hx => fit_mono (h.2 x hx) (by omega)⟩
  | n + 1, m + 1, .tuple xs, h, l => ⟨h.1, fun x hx => fit_mono (h.2 x hx) (by omega)⟩
  | n + 1, m + 1, .none, _, _ => True.intro
  | n + 1, m + 1, .bool _, _, _ => True.intro
  | n + 1, m + 1, .int _, _, _ => True.intro
  | n + 1, m + 1, .str _, _, _ => True.intro
  | n + 1, m + 1, .dict _, _, _ => True.intro
theorem ifn {c A B : Prop} [Decidable c] (h : ¬ c) (b : B) : if c then A else B := by rw [if_neg h]; exact b
theorem ifp {c A B : Prop} [Decidable c] (h : c) (a : A) : if c then A else B := by rw [if_pos h]; exact a
theorem yes {σ : L2.St} {H : Hp} {Q : Bool → Hp → Prop} (h : Q true H) : tYes σ H Q := h
inductive Cl where | bool | int | str | tuple | list | dict
def Cl.name : Cl → String
  | .bool => "bool" | .int => "int" | .str => "str" | .tuple => "tuple" | .list => "list" | .dict => "dict"
/-- isinstance of data -/
def isB : Cl → PyData → Bool
  | .bool, .bool _ => true
  | .int, .bool _ => true
  | .int, .int _ => true
  | .str, .str _ => true
  | .tuple, .tuple _ => true
  | .list, .list _ => true
  | .dict, .dict _ => true
  | _, _ => false
def tyD : PyData → String
  | .none => "NoneType" | .bool _ => "bool" | .int _ => "int" | .str _ => "str" | .list _ => "list" | .tuple _ => "tuple" | .dict _ => "dict"
theorem kitB_nn (c : Cl) (d : PyData) : kitB (tyD d) c.name = some (isB c d) := by
  cases c <;> cases d <;> (simp only [tyD, Cl.name, isB]; decide +kernel)
section
variable {K : PySem.W.Frag} {H H' : Hp}
theorem tyX_list {a : Addr} {xs : List V} (h : SqL K H a xs) : TyX K H (.ref a) (.type "list") := by
  rcases h with (h | ⟨o, h⟩) | ⟨o, its, n, h, c, _⟩
  · exact .base (.lst h)
  · exact .base (.frz h)
  · exact .kList h c
theorem tyX_tup {a : Addr} {xs : List V} (h : SqT K H a xs) : TyX K H (.ref a) (.type "tuple") := by
  rcases h with (h | ⟨o, h⟩) | ⟨o, its, n, h, c, _⟩
  · exact .base (.tup h)
  · exact .fTuple h
  · exact .kTuple h c
theorem tyX_of {x : V} {d : PyData} (h : Dp K H x d) : TyX K H x (.type (tyD d)) := by
  cases h with
  | non => exact .base .non
  | bl b => exact .base (.bl b)
  | int i => exact .base (.int i)
  | str z => exact .base (.str z)
  | lst q _ => exact tyX_list q
  | tup q _ => exact tyX_tup q
/-- isinstance(x, T) of data -/
def rIsiD (K : PySem.W.Frag) : List V → Hp → VK → Prop := fun xs H Q => ∃ (c : Cl) (x : V) (d : PyData), xs = [x, .ty c.name] ∧ Dp K H x d ∧ Q (.bl (isB c d)) H
theorem call_isiD {X : Cx} : CallR X (.builtin "isinstance") (rIsiD X.K) := by
  intro pins s σ H xs us Q I r h
  obtain ⟨c, x, d, rfl, hd, q⟩ := h
  exact call_isi pins s σ H _ us Q I r ⟨x, _, _, _, _, rfl, .ty _, tyX_of hd, kit_ty (kitB_nn c d), q⟩
theorem Same.sqT {a : Addr} {xs : List V} (e : Same H H') (h : SqT K H a xs) : SqT K H' a xs := by
  rcases h with (h | ⟨o, h⟩) | h
  · exact .inl (.inl (e _ _ h))
  · exact .inl (.inr ⟨o, e _ _ h⟩)
  · exact .inr h
mutual
theorem Dp_same (e : Same H H') : ∀ {x : V} {d : PyData}, Dp K H x d → Dp K H' x d
  | _, _, .non => .non
  | _, _, .bl b => .bl b
  | _, _, .int i => .int i
  | _, _, .str z => .str z
  | _, _, .lst q a => .lst (e.seq q) (DpAll_same e a)
  | _, _, .tup q a => .tup (Same.sqT e q) (DpAll_same e a)
theorem DpAll_same (e : Same H H') : ∀ {xs : List V} {ds : List PyData}, DpAll K H xs ds → DpAll K H' xs ds
  | _, _, .nil => .nil
  | _, _, .cons a b => .cons (Dp_same e a) (DpAll_same e b)
end
theorem DpAll_len : ∀ {xs : List V} {ds : List PyData}, DpAll K H xs ds → xs.length = ds.length
  | _, _, .nil => rfl
  | _, _, .cons _ b => by rw [List.length_cons, List.length_cons, DpAll_len b]
theorem DpAll_get : ∀ {xs : List V} {ds : List PyData} {i : Nat} {x : V}, DpAll K H xs ds → xs[i]? = some x → ∃ d, ds[i]? = some d ∧ Dp K H x d
  | _, _, 0, _, .cons a _, e => by
    cases e
    exact ⟨_, rfl, a⟩
  | _, _, i + 1, x, .cons _ b, e => DpAll_get (i := i) b e
theorem DpAll_ints : ∀ ns : List Int, DpAll K H (ns.map V.int) (ns.map PyData.int)
  | [] => .nil
  | n :: ns => .cons (.int n) (DpAll_ints ns)
theorem walk_zipT {a b : Addr} {xs ys : List V} {n : Nat} (hn : n = min xs.length ys.length) : Walk (ItzT K a b) n (fun H => SqT K H a xs ∧ SqT K H b ys) (YPair (fun i => xs[i]?) (fun i => ys[i]?)) := by
  subst hn
  refine ⟨fun i _ hi q => ?_, fun _ q => ⟨xs, ys, q.1, q.2, by omega⟩, fun i H v H' _ q y => ?_⟩
  · have h1 : i < xs.length := by omega
    have h2 : i < ys.length := by omega
    exact ⟨xs, ys, xs[i], ys[i], q.1, q.2, by simp [h1], by simp [h2]⟩
  · obtain ⟨T, x, z, h1, h2, h3, h4, h5⟩ := y
    exact ⟨T, x, z, h1, h2, h3, h4 xs q.1, h5 ys q.2⟩
theorem inV_trues (n : Nat) : inV (.bl false) (List.replicate n (V.bl true)) = false := by
  unfold inV
  rw [List.any_eq_false]
  intro x hx
  rw [List.eq_of_mem_replicate hx]
  decide
theorem flat_trues (n : Nat) : (List.replicate n (V.bl true)).all flatV = true := by
  rw [List.all_eq_true]
  intro x hx
  rw [List.eq_of_mem_replicate hx]
  rfl
end
/-- _law_same: equal data are alike -/
def spSame (K : PySem.W.Frag) (n : Nat) : Sp := fun vs H Q _ => ∃ (x y : V) (d : PyData), vs = [x, y] ∧ Dp K H x d ∧ Dp K H y d ∧ fit n d ∧ ∀ H', Same H H' → Q (.bl true) H'

/-! ### rules with the written part told (for comprehensions' blocks) -/
section
variable {X : Cx} (K : PySem.W.Frag) (eK : X.K = K)
include eK
theorem ixL : IxR X (rIxL K) := eK ▸ ix_list
theorem ixT : IxR X (rIxT K) := eK ▸ ix_tup
theorem inQ : OpR X (compareOp .In) (rIn K false) := eK ▸ op_in_seq
theorem ninQ : OpR X (compareOp .NotIn) (rIn K true) := eK ▸ op_notIn_seq
def rLenQ (K : PySem.W.Frag) : List V → Hp → VK → Prop := fun xs H Q => ∃ p ys, xs = [.ref p] ∧ (SqL K H p ys ∨ SqT K H p ys) ∧ Q (.int ys.length) H
theorem lenQ : CallR X (.builtin "len") (rLenQ K) := by subst eK; exact call_len_seq
def rListQ (K : PySem.W.Frag) : List V → Hp → VK → Prop := fun xs H Q => ∃ p ys, xs = [.ref p] ∧ (SqL K H p ys ∨ SqT K H p ys) ∧ ∀ l, H l = none → Q (.ref l) (upd H l (.lst ys))
theorem listQ : CallR X (.type "list") (rListQ K) := by subst eK; exact call_list_of
def rTupQ (K : PySem.W.Frag) : List V → Hp → VK → Prop := fun xs H Q => ∃ p ys, xs = [.ref p] ∧ ((SqL K H p ys ∧ ∀ l, H l = none → Q (.ref l) (upd H l (.tup ys))) ∨ (SqT K H p ys ∧ Q (.ref p) H))
theorem tupQ : CallR X (.type "tuple") (rTupQ K) := by subst eK; exact call_tuple_of
theorem slL : SlR X (rSlL K) := by subst eK; exact sl_list
theorem isiQ : CallR X (.builtin "isinstance") (rIsiD K) := by subst eK; exact call_isiD
theorem getL : PGet X (rIxL K) := eK ▸ get_list
theorem pgT {es : List Expr} {k : Nat} {t : TGs} (n : Nat) {pos : Pos} (hc : X.calm = true) (h : PGs X es t) (hn : (assignEach es X.env).length = n := by rfl) (hst : (assignEach es X.env).findIdx? (·.1) = none := by rfl) : PG X (.Tuple es k pos) (gTup K n t) := by
  subst eK
  exact pg_tup hc h hn hst
theorem piL {tg l : Expr} {tl : TE} (hl : PE X l tl) : PI X tg l (iList K tl) := eK ▸ pi_list hl
theorem piT {tg l : Expr} {tl : TE} (hl : PE X l tl) : PI X tg l (iTup K tl) := eK ▸ pi_tup hl
theorem piZ {e e2 : Expr} {ta : TA} {p pos tpos : Pos} {elts : List Expr} {kk : Nat} (hg : Gl X "zip") (hm : X.mg "zip" = none) (ha : PA X [e, e2] ta)
    (hs : starEach [e, e2] X.env = (false, eval e X.env) :: starEach [e2] X.env := by rfl) (hpl : (backTo pos (starEach [e2] X.env)).any (·.1) = false := by rfl) :
    PI X (.Tuple elts kk tpos) (.Call (.Name "zip" p) [e, e2] [] pos) (iZipA K ta) := by
  subst eK
  exact pi_zipA hg hm ha hs hpl
theorem piE {e : Expr} {ta : TA} {p pos tpos : Pos} {elts : List Expr} {kk : Nat} (hg : Gl X "enumerate") (hm : X.mg "enumerate" = none) (ha : PA X [e] ta) (hs : starEach [e] X.env = [(false, eval e X.env)] := by rfl) :
    PI X (.Tuple elts kk tpos) (.Call (.Name "enumerate" p) [e] [] pos) (iEnum K ta) := by
  subst eK
  exact pi_enum hg hm ha hs
theorem revL {e : Expr} {te : TE} {k : Nat} {p1 p2 p3 pos : Pos} (he : PE X e te) : PE X (.Subscript e (.Slice none none (some (.UnaryOp .USub (.Constant (.int 1) k p1) p2)) p3) pos) (tRevL K te) := by
  subst eK
  exact pe_revL he
theorem appK {o e : Expr} {to te : TE} {apos cpos : Pos} (ho : PE X o to) (he : PE X e te) (hbase : attributeBase o "append" X.env (eval o X.env) = eval o X.env := by rfl)
    (hfew : ((backTo cpos (starEach [e] X.env)).all (fun x => !x.1) && (backToKw cpos (keywordEach [] X.env)).all (fun x => x.1.isSome)
      && decide ([e].length + ([] : List Keyword).length + (if ([] : List Keyword).isEmpty then 0 else 1) < 30)) = true := by rfl)
    (hline : (apos.endLine == cpos.line) = true := by rfl) (hs : starEach [e] X.env = (false, eval e X.env) :: starEach [] X.env := by rfl) :
    PE X (.Call (.Attribute o "append" apos) [e] [] cpos) (tBM K "list" rAppend to (tCons te tNil)) := by
  subst eK
  exact pe_bm PySem.F.plainAttrs_list PySem.F.slot_list_append PySem.F.type_list_append mt_append ho (pa_cons he pa_nil hs) hbase hfew hline hs rfl
end

/-! ### the plain layer: values as trees, no heap in sight -/
abbrev D := PyData
def keyD : Key → D
  | .inl i => .int i
  | .inr x => .str x
mutual
inductive Rp (K : PySem.W.Frag) (H : Hp) : V → D → Prop
  | non : Rp K H .non .none
  | bl (b : Bool) : Rp K H (.bl b) (.bool b)
  | int (i : Int) : Rp K H (.int i) (.int i)
  | str (x : Str) : Rp K H (.str x) (.str x)
  | lst {a : Addr} {xs : List V} {ds : List D} : H a = some (.lst xs) → RpAll K H xs ds → Rp K H (.ref a) (.list ds)
  | tup {a : Addr} {xs : List V} {ds : List D} : SqT K H a xs → RpAll K H xs ds → Rp K H (.ref a) (.tuple ds)
  | dic {a : Addr} {kvs : List (Key × V)} {ds : List (D × D)} : H a = some (.dK kvs) → RpKV K H kvs ds → Rp K H (.ref a) (.dict ds)
inductive RpAll (K : PySem.W.Frag) (H : Hp) : List V → List D → Prop
  | nil : RpAll K H [] []
  | cons {v : V} {vs : List V} {d : D} {ds : List D} : Rp K H v d → RpAll K H vs ds → RpAll K H (v :: vs) (d :: ds)
inductive RpKV (K : PySem.W.Frag) (H : Hp) : List (Key × V) → List (D × D) → Prop
  | nil : RpKV K H [] []
  | cons {k : Key} {v : V} {vs : List (Key × V)} {d : D} {ds : List (D × D)} : Rp K H v d → RpKV K H vs ds → RpKV K H ((k, v) :: vs) ((keyD k, d) :: ds)
end
section
variable {K : PySem.W.Frag} {H H' : Hp}
mutual
theorem Rp.mono (e : Same H H') : ∀ {x : V} {d : D}, Rp K H x d → Rp K H' x d
  | _, _, .non => .non
  | _, _, .bl b => .bl b
  | _, _, .int i => .int i
  | _, _, .str z => .str z
  | _, _, .lst q a => .lst (e _ _ q) (RpAll.mono e a)
  | _, _, .tup q a => .tup (Same.sqT e q) (RpAll.mono e a)
  | _, _, .dic q a => .dic (e _ _ q) (RpKV.mono e a)
theorem RpAll.mono (e : Same H H') : ∀ {xs : List V} {ds : List D}, RpAll K H xs ds → RpAll K H' xs ds
  | _, _, .nil => .nil
  | _, _, .cons a b => .cons (Rp.mono e a) (RpAll.mono e b)
theorem RpKV.mono (e : Same H H') : ∀ {xs : List (Key × V)} {ds : List (D × D)}, RpKV K H xs ds → RpKV K H' xs ds
  | _, _, .nil => .nil
  | _, _, .cons a b => .cons (Rp.mono e a) (RpKV.mono e b)
end
theorem RpAll.len : ∀ {xs : List V} {ds : List D}, RpAll K H xs ds → xs.length = ds.length
  | _, _, .nil => rfl
  | _, _, .cons _ b => by rw [List.length_cons, List.length_cons, RpAll.len b]
theorem RpAll.get : ∀ {xs : List V} {ds : List D} {i : Nat} {d : D}, RpAll K H xs ds → ds[i]? = some d → ∃ x, xs[i]? = some x ∧ Rp K H x d
  | _, _, 0, _, .cons a _, e => by
    cases e
    exact ⟨_, rfl, a⟩
  | _, _, i + 1, d, .cons _ b, e => RpAll.get (i := i) b e
theorem RpAll.getV : ∀ {xs : List V} {ds : List D} {i : Nat} {x : V}, RpAll K H xs ds → xs[i]? = some x → ∃ d, ds[i]? = some d ∧ Rp K H x d
  | _, _, 0, _, .cons a _, e => by
    cases e
    exact ⟨_, rfl, a⟩
  | _, _, i + 1, d, .cons _ b, e => RpAll.getV (i := i) b e
theorem RpAll.app : ∀ {xs : List V} {ds : List D} {ys : List V} {es : List D}, RpAll K H xs ds → RpAll K H ys es → RpAll K H (xs ++ ys) (ds ++ es)
  | _, _, _, _, .nil, h => h
  | _, _, _, _, .cons a b, h => .cons a (RpAll.app b h)
theorem RpAll.take : ∀ {xs : List V} {ds : List D} (n : Nat), RpAll K H xs ds → RpAll K H (xs.take n) (ds.take n)
  | _, _, 0, _ => by simp only [List.take_zero]; exact .nil
  | _, _, n + 1, .nil => .nil
  | _, _, n + 1, .cons a b => .cons a (RpAll.take n b)
theorem RpAll.drop : ∀ {xs : List V} {ds : List D} (n : Nat), RpAll K H xs ds → RpAll K H (xs.drop n) (ds.drop n)
  | _, _, 0, h => h
  | _, _, n + 1, .nil => .nil
  | _, _, n + 1, .cons a b => RpAll.drop n b
theorem RpAll.set : ∀ {xs : List V} {ds : List D} {v : V} {d : D} (n : Nat), RpAll K H xs ds → Rp K H v d → RpAll K H (xs.set n v) (ds.set n d)
  | _, _, _, _, _, .nil, _ => .nil
  | _, _, _, _, 0, .cons a b, h => .cons h b
  | _, _, _, _, n + 1, .cons a b, h => .cons a (RpAll.set n b h)
theorem RpAll.rev : ∀ {xs : List V} {ds : List D}, RpAll K H xs ds → RpAll K H xs.reverse ds.reverse
  | _, _, .nil => .nil
  | _, _, .cons a b => by rw [List.reverse_cons, List.reverse_cons]; exact (RpAll.rev b).app (.cons a .nil)
end
/-- the state: each slot's tree, and how many draws at most were taken -/
structure S where
  δ : List (Option D)
  n : Nat
/-- what stays the same through a def's body: M, the slots of its own lists and dicts (changed in place); the pen and its slot; bor, bs: lists and dicts that were handed in to be changed, and their slots -/
structure Cf where
  K : PySem.W.Frag
  pen : Option (Addr × Addr)
  ps : Nat
  M : List Nat
  bor : List Addr := []
  bs : List Nat := []
def IsPen (C : Cf) (b : Addr) : Prop := (∃ c, C.pen = some (b, c)) ∨ b ∈ C.bor
def Own (C : Cf) (σ : L2.St) (b : Addr) : Prop := ∃ i, i ∈ C.M ∧ σ[i]? = some (some (.ref b))
/-- a list's or a dict's object, and its tree -/
inductive Cn (K : PySem.W.Frag) (Hs : Hp) : HO → D → Prop
  | lst {xs : List V} {ds : List D} : RpAll K Hs xs ds → Cn K Hs (.lst xs) (.list ds)
  | dic {kvs : List (Key × V)} {ds : List (D × D)} : RpKV K Hs kvs ds → Cn K Hs (.dK kvs) (.dict ds)
def isC : D → Bool
  | .list _ => true
  | .dict _ => true
  | _ => false
theorem Cn.mono {K : PySem.W.Frag} {Hs Hs' : Hp} (e : Same Hs Hs') {o : HO} {d : D} (h : Cn K Hs o d) : Cn K Hs' o d := by
  cases h with
  | lst a => exact .lst (RpAll.mono e a)
  | dic a => exact .dic (RpKV.mono e a)
theorem Cn.is {K : PySem.W.Frag} {Hs : Hp} {o : HO} {d : D} (h : Cn K Hs o d) : isC d = true := by cases h <;> rfl
theorem Cn.rp {K : PySem.W.Frag} {Hs : Hp} {o : HO} {d : D} {a : Addr} (h : Cn K Hs o d) (e : Hs a = some o) : Rp K Hs (.ref a) d := by
  cases h with
  | lst q => exact .lst e q
  | dic q => exact .dic e q
theorem Rp.cn {K : PySem.W.Frag} {Hs : Hp} {v : V} {d : D} (h : Rp K Hs v d) (c : isC d = true) : ∃ a o, v = .ref a ∧ Hs a = some o ∧ Cn K Hs o d := by
  cases h with
  | lst q a => exact ⟨_, _, rfl, q, .lst a⟩
  | dic q a => exact ⟨_, _, rfl, q, .dic a⟩
  | non => cases c
  | bl _ => cases c
  | int _ => cases c
  | str _ => cases c
  | tup _ _ => cases c
/-- the slots and the heap bear the state; Hs: the part of the heap that stays -/
structure R (C : Cf) (H0 S0 Hs : Hp) (σ : L2.St) (H : Hp) (s : S) : Prop where
  len : σ.length = s.δ.length
  sub : Same Hs H
  slot : ∀ i d, s.δ[i]? = some (some d) → i ∉ C.M → ∃ v, σ[i]? = some (some v) ∧ Rp C.K Hs v d
  mt : ∀ i d, s.δ[i]? = some (some d) → i ∈ C.M → ∃ a o, σ[i]? = some (some (.ref a)) ∧ H a = some o ∧ Hs a = none ∧ Cn C.K Hs o d ∧ (H0 a = none ∨ a ∈ C.bor)
  dead : ∀ i, i ∈ C.M → s.δ[i]? = some none → σ[i]? = some none
  sep : ∀ i j a, i ∈ C.M → j ∈ C.M → σ[i]? = some (some (.ref a)) → σ[j]? = some (some (.ref a)) → i = j
  pn : ∀ p c, C.pen = some (p, c) → σ[C.ps]? = some (some (.ref p)) ∧ Pen H p c s.n ∧ Hs p = none ∧ H0 p ≠ none ∧ H0 c ≠ none ∧ s.δ[C.ps]? = some none ∧ C.ps ∉ C.M ∧ p ∉ C.bor ∧ c ∉ C.bor
  br : ∀ b, b ∈ C.bor → (∃ i, i ∈ C.bs ∧ i ∈ C.M ∧ σ[i]? = some (some (.ref b))) ∧ H0 b ≠ none
  s0 : Same S0 Hs
  h0 : ∀ b o, ¬ IsPen C b → H0 b = some o → H b = some o
  new : ∀ b, S0 b = none → Hs b ≠ none → H0 b = none
/-- from one heap to a later one -/
structure Go (C : Cf) (σ : L2.St) (Hs H Hs' H' : Hp) : Prop where
  st : Same Hs Hs'
  kp : ∀ b o, H b = some o → ¬ Own C σ b → ¬ IsPen C b → H' b = some o
  th : ∀ b o, H b = some o → ∃ o', H' b = some o'
  nw : ∀ b, Hs b = none → Hs' b ≠ none → H b = none
section
variable {C : Cf} {σ : L2.St} {H0 S0 Hs H Hs' H' Hs'' H'' : Hp} {s s' : S}
theorem Go.refl : Go C σ Hs H Hs H := ⟨Same.refl _, fun _ _ h _ _ => h, fun _ o h => ⟨o, h⟩, fun _ h h' => absurd h h'⟩
theorem Go.trans (a : Go C σ Hs H Hs' H') (b : Go C σ Hs' H' Hs'' H'') : Go C σ Hs H Hs'' H'' := by
  refine ⟨a.st.trans b.st, fun c o h n1 n2 => b.kp c o (a.kp c o h n1 n2) n1 n2, fun c o h => ?_, fun c h h' => ?_⟩
  · obtain ⟨o', h'⟩ := a.th c o h
    exact b.th c o' h'
  · cases q : Hs' c with
    | some o => exact a.nw c h (by rw [q]; exact fun z => nomatch z)
    | none =>
      have h1 := b.nw c q h'
      cases q2 : H c with
      | none => rfl
      | some o =>
        obtain ⟨o', h2⟩ := a.th c o q2
        rw [h1] at h2
        cases h2
/-- a value's kinds: E: it lies in the still part; F: a list or dict is new and nobody else's -/
inductive Cat where | E | F
def Fresh (C : Cf) (H0 Hst Hs : Hp) (σ : L2.St) (H : Hp) (a : Addr) (d : D) : Prop :=
  ∃ o, H a = some o ∧ Hs a = none ∧ H0 a = none ∧ Hst a = none ∧ Cn C.K Hs o d ∧ ¬ Own C σ a
def Val (C : Cf) (H0 Hst Hs : Hp) (σ : L2.St) (H : Hp) : Cat → V → D → Prop
  | .E, v, d => Rp C.K Hs v d
  | .F, v, d => if isC d = true then ∃ a, v = .ref a ∧ Fresh C H0 Hst Hs σ H a d else Rp C.K Hs v d
theorem Val.c {Hst : Hp} {v : V} {d : D} (h : Val C H0 Hst Hs σ H .F v d) (e : isC d = true) : ∃ a, v = .ref a ∧ Fresh C H0 Hst Hs σ H a d := by
  have h : (if isC d = true then ∃ a, v = .ref a ∧ Fresh C H0 Hst Hs σ H a d else Rp C.K Hs v d) := h
  rw [if_pos e] at h
  exact h
theorem Val.p {Hst : Hp} {v : V} {d : D} (h : Val C H0 Hst Hs σ H .F v d) (e : isC d = false) : Rp C.K Hs v d := by
  have h : (if isC d = true then ∃ a, v = .ref a ∧ Fresh C H0 Hst Hs σ H a d else Rp C.K Hs v d) := h
  rw [if_neg (by rw [e]; exact Bool.false_ne_true)] at h
  exact h
theorem Val.mkC {Hst : Hp} {a : Addr} {d : D} (f : Fresh C H0 Hst Hs σ H a d) : Val C H0 Hst Hs σ H .F (.ref a) d := by
  obtain ⟨o, _, _, _, _, c, _⟩ := id f
  exact ifp c.is ⟨a, rfl, f⟩
theorem Val.mkP {Hst : Hp} {v : V} {d : D} (h : Rp C.K Hs v d) (e : isC d = false) : Val C H0 Hst Hs σ H .F v d := ifn (by rw [e]; exact Bool.false_ne_true) h
/-- what may be read -/
def Rd' (K : PySem.W.Frag) (Hs H : Hp) (v : V) (d : D) : Prop := if isC d = true then ∃ a o, v = .ref a ∧ H a = some o ∧ Cn K Hs o d else Rp K Hs v d
theorem Rd'.list {K : PySem.W.Frag} {v : V} {ds : List D} (h : Rd' K Hs H v (.list ds)) : ∃ a xs, v = .ref a ∧ H a = some (.lst xs) ∧ RpAll K Hs xs ds := by
  obtain ⟨a, o, rfl, e, c⟩ := (show ∃ a o, v = .ref a ∧ H a = some o ∧ Cn K Hs o (.list ds) from h)
  cases c with
  | lst q => exact ⟨a, _, rfl, e, q⟩
theorem Rd'.dict {K : PySem.W.Frag} {v : V} {ds : List (D × D)} (h : Rd' K Hs H v (.dict ds)) : ∃ a xs, v = .ref a ∧ H a = some (.dK xs) ∧ RpKV K Hs xs ds := by
  obtain ⟨a, o, rfl, e, c⟩ := (show ∃ a o, v = .ref a ∧ H a = some o ∧ Cn K Hs o (.dict ds) from h)
  cases c with
  | dic q => exact ⟨a, _, rfl, e, q⟩
theorem Rd'.mkC {K : PySem.W.Frag} {a : Addr} {o : HO} {d : D} (h : H a = some o) (c : Cn K Hs o d) : Rd' K Hs H (.ref a) d := ifp c.is ⟨a, o, rfl, h, c⟩
theorem Rp.rd {K : PySem.W.Frag} {v : V} {d : D} (h : Rp K Hs v d) (sub : Same Hs H) : Rd' K Hs H v d := by
  cases e : isC d with
  | true =>
    obtain ⟨a, o, rfl, q, c⟩ := h.cn e
    exact Rd'.mkC (sub _ _ q) c
  | false => exact ifn (by rw [e]; exact Bool.false_ne_true) h
theorem Val.rd {Hst : Hp} {cat : Cat} {v : V} {d : D} (h : Val C H0 Hst Hs σ H cat v d) (sub : Same Hs H) : Rd' C.K Hs H v d := by
  cases cat with
  | E => exact Rp.rd h sub
  | F =>
    cases e : isC d with
    | true =>
      obtain ⟨a, rfl, o, h1, _, _, _, c, _⟩ := h.c e
      exact Rd'.mkC h1 c
    | false => exact Rp.rd (h.p e) sub
theorem R.notPen (r : R C H0 S0 Hs σ H s) {a : Addr} (h : H0 a = none) : ¬ IsPen C a := fun z => by
  rcases z with ⟨c, e⟩ | e
  · exact (r.pn a c e).2.2.2.1 h
  · exact (r.br a e).2 h
theorem Val.go {Hst : Hp} {cat : Cat} {v : V} {d : D} (h : Val C H0 Hst Hs σ H cat v d) (r : R C H0 S0 Hs σ H s) (g : Go C σ Hs H Hs' H') : Val C H0 Hst Hs' σ H' cat v d := by
  cases cat with
  | E => exact Rp.mono g.st h
  | F =>
    cases e : isC d with
    | true =>
      obtain ⟨a, rfl, o, h1, h2, h3, h4, h5, h6⟩ := h.c e
      refine Val.mkC ⟨o, g.kp a _ h1 h6 (r.notPen h3), ?_, h3, h4, h5.mono g.st, h6⟩
      cases q : Hs' a with
      | none => rfl
      | some o =>
        have := g.nw a h2 (by rw [q]; exact fun z => nomatch z)
        rw [h1] at this
        cases this
    | false => exact Val.mkP (Rp.mono g.st (h.p e)) e
theorem Val.anew {Hst Hst' : Hp} {cat : Cat} {v : V} {d : D} (h : Val C H0 Hst' Hs σ H cat v d) (e : ∀ a, Hst' a = none → Hst a = none) : Val C H0 Hst Hs σ H cat v d := by
  cases cat with
  | E => exact h
  | F =>
    cases q : isC d with
    | true =>
      obtain ⟨a, rfl, o, h1, h2, h3, h4, h5, h6⟩ := h.c q
      exact Val.mkC ⟨o, h1, h2, h3, e a h4, h5, h6⟩
    | false => exact Val.mkP (h.p q) q
theorem Go.back (g : Go C σ Hs H Hs' H') : ∀ a, H' a = none → H a = none := fun a h => by
  cases q : H a with
  | none => rfl
  | some o => obtain ⟨o', h'⟩ := g.th a o q; rw [h] at h'; cases h'
/-- a new list or dict goes into the still part -/
theorem R.freeze (r : R C H0 S0 Hs σ H s) {a : Addr} {d : D} {Hst : Hp} (f : Fresh C H0 Hst Hs σ H a d) : ∃ Hs', Same Hs Hs' ∧ R C H0 S0 Hs' σ H s ∧ Rp C.K Hs' (.ref a) d ∧ ∀ b, Hs b = none → Hs' b ≠ none → b = a := by
  obtain ⟨o, h1, h2, h3, h4, h5, h6⟩ := f
  have sm : Same Hs (upd Hs a o) := same_upd h2
  refine ⟨upd Hs a o, sm, ⟨r.len, fun b u e => ?_, fun i d e m => ?_, fun i d e m => ?_, r.dead, r.sep, fun p c e => ?_, r.br, r.s0.trans sm, r.h0, fun b e1 e2 => ?_⟩, (h5.mono sm).rp upd_same, fun b e1 e2 => ?_⟩
  · by_cases z : b = a
    · subst z; rw [upd_same] at e; cases e; exact h1
    · rw [upd_ne z] at e; exact r.sub _ _ e
  · obtain ⟨v, e1, e2⟩ := r.slot i d e m
    exact ⟨v, e1, Rp.mono sm e2⟩
  · obtain ⟨b, u, e2, e3, e4, e5, e6⟩ := r.mt i d e m
    refine ⟨b, u, e2, e3, ?_, e5.mono sm, e6⟩
    rw [upd_ne (fun z => h6 ⟨i, m, by rw [← z]; exact e2⟩)]
    exact e4
  · obtain ⟨e1, e2, e3, e4, e5⟩ := r.pn p c e
    refine ⟨e1, e2, ?_, e4, e5⟩
    rw [upd_ne (fun z => e4 (by rw [z]; exact h3))]
    exact e3
  · by_cases z : b = a
    · subst z; exact h3
    · rw [upd_ne z] at e2; exact r.new b e1 e2
  · by_cases z : b = a
    · exact z
    · rw [upd_ne z] at e2; exact absurd e1 e2
end
/-- an expression in the plain layer: from a state to a tree and a state -/
abbrev DT := S → (D → S → Prop) → Prop
/-- te's reading follows from t -/
structure Sim (C : Cf) (cat : Cat) (te : TE) (t : DT) : Prop where
  run : ∀ (H0 S0 Hs : Hp) (σ : L2.St) (H : Hp) (s : S) (Q : D → S → Prop) (Q' : VK), R C H0 S0 Hs σ H s → t s Q →
    (∀ Hs' H' v d s', Go C σ Hs H Hs' H' → R C H0 S0 Hs' σ H' s' → Val C H0 H Hs' σ H' cat v d → Q d s' → Q' v H') → te σ H Q'
section
variable {C : Cf} {te ta tb : TE} {t da db : DT}
/-- a new list laid down -/
theorem Sim.e (h : Sim C .F te t) : Sim C .E te t := by
  refine ⟨fun H0 S0 Hs σ H s Q Q' r q k => h.run H0 S0 Hs σ H s Q Q' r q fun Hs' H' v d s' g r' vl qq => ?_⟩
  cases e : isC d with
  | true =>
    obtain ⟨a, rfl, f⟩ := vl.c e
    obtain ⟨Hs2, s1, r2, rp, nw⟩ := r'.freeze f
    refine k Hs2 H' _ _ s' ⟨g.st.trans s1, g.kp, g.th, fun b e1 e2 => ?_⟩ r2 rp qq
    cases q3 : Hs' b with
    | some o => exact g.nw b e1 (by rw [q3]; exact fun z => nomatch z)
    | none =>
      have := nw b q3 e2
      subst this
      obtain ⟨_, _, _, _, h4, _⟩ := f
      exact h4
  | false => exact k Hs' H' _ _ s' g r' (vl.p e) qq
theorem Sim.toE {cat : Cat} (h : Sim C cat te t) : Sim C .E te t := by
  cases cat with
  | E => exact h
  | F => exact h.e
/-! names and constants -/
def dV (i : Nat) : DT := fun s Q => match s.δ[i]? with
  | some (some d) => Q d s
  | _ => False
theorem sim_var (i : Nat) (hi : i ∉ C.M) : Sim C .E (tVar i) (dV i) := by
  refine ⟨fun H0 S0 Hs σ H s Q Q' r q k => ?_⟩
  unfold dV at q
  split at q
  · rename_i d e
    obtain ⟨v, e1, e2⟩ := r.slot i d e hi
    exact ⟨v, e1, k Hs H v d s Go.refl r e2 q⟩
  · exact q.elim
def dC (d : D) : DT := fun s Q => Q d s
theorem sim_int (i : Int) : Sim C .F (tC (.int i)) (dC (.int i)) := ⟨fun H0 S0 Hs σ H s Q Q' r q k => k Hs H _ (.int i) s Go.refl r (Val.mkP (Rp.int i) rfl) q⟩
theorem sim_bl (b : Bool) : Sim C .F (tC (.bl b)) (dC (.bool b)) := ⟨fun H0 S0 Hs σ H s Q Q' r q k => k Hs H _ (.bool b) s Go.refl r (Val.mkP (Rp.bl b) rfl) q⟩
theorem sim_non : Sim C .F (tC .non) (dC .none) := ⟨fun H0 S0 Hs σ H s Q Q' r q k => k Hs H _ .none s Go.refl r (Val.mkP Rp.non rfl) q⟩
theorem sim_str (x : Str) : Sim C .F (tC (.str x)) (dC (.str x)) := ⟨fun H0 S0 Hs σ H s Q Q' r q k => k Hs H _ (.str x) s Go.refl r (Val.mkP (Rp.str x) rfl) q⟩
/-! operations by values -/
abbrev DO := D → D → (D → Prop) → Prop
/-- r's reading follows from f -/
def OpA (C : Cf) (r : R2) (f : DO) : Prop := ∀ (H0 S0 Hs : Hp) (σ : L2.St) (H : Hp) (s : S) (x y : V) (dx dy : D) (Q : D → Prop) (Q' : VK), R C H0 S0 Hs σ H s → Rd' C.K Hs H x dx → Rd' C.K Hs H y dy → f dx dy Q →
  (∀ Hs' H' v d, Go C σ Hs H Hs' H' → R C H0 S0 Hs' σ H' s → Val C H0 H Hs' σ H' .F v d → Q d → Q' v H') → r x y H Q'
def dOp (f : DO) (da db : DT) : DT := fun s Q => da s fun x s1 => db s1 fun y s2 => f x y fun z => Q z s2
theorem sim_op {r : R2} {f : DO} {ca cb : Cat} (ho : OpA C r f) (ha : Sim C ca ta da) (hb : Sim C cb tb db) : Sim C .F (tOp r ta tb) (dOp f da db) := by
  refine ⟨fun H0 S0 Hs σ H s Q Q' r0 q k => ha.run H0 S0 Hs σ H s _ _ r0 q fun Hs1 H1 x dx s1 g1 r1 v1 q1 => hb.run H0 S0 Hs1 σ H1 s1 _ _ r1 q1 fun Hs2 H2 y dy s2 g2 r2 v2 q2 => ?_⟩
  refine ho H0 S0 Hs2 σ H2 s2 x y dx dy _ _ r2 ((v1.go r1 g2).rd r2.sub) (v2.rd r2.sub) q2 fun Hs3 H3 v d g3 r3 v3 q3 => ?_
  exact k Hs3 H3 v d s2 (g1.trans (g2.trans g3)) r3 (v3.anew (fun a e => (g1.trans g2).back a e)) q3
/-- the left one a list of the def's own: read when the other one is there -/
def dOpM (f : DO) (i : Nat) (db : DT) : DT := fun s Q => (∃ d, s.δ[i]? = some (some d)) ∧ db s fun y s2 => match s2.δ[i]? with
  | some (some x) => f x y fun z => Q z s2
  | _ => False
theorem R.rdM (r : R C H0 S0 Hs σ H s) {i : Nat} {d : D} (hi : i ∈ C.M) (e : s.δ[i]? = some (some d)) : ∃ v, σ[i]? = some (some v) ∧ Rd' C.K Hs H v d := by
  obtain ⟨a, o, e1, e2, _, e3, _⟩ := r.mt i d e hi
  exact ⟨_, e1, Rd'.mkC e2 e3⟩
theorem sim_opM {r : R2} {f : DO} {cb : Cat} (i : Nat) (hi : i ∈ C.M) (ho : OpA C r f) (hb : Sim C cb tb db) : Sim C .F (tOp r (tVar i) tb) (dOpM f i db) := by
  refine ⟨fun H0 S0 Hs σ H s Q Q' r0 q k => ?_⟩
  obtain ⟨⟨d, e⟩, q⟩ := q
  obtain ⟨v, e1, _⟩ := r0.rdM hi e
  refine ⟨v, e1, hb.run H0 S0 Hs σ H s _ _ r0 q fun Hs2 H2 y dy s2 g2 r2 v2 q2 => ?_⟩
  split at q2
  · rename_i x ex
    obtain ⟨v', e2, rd⟩ := r2.rdM hi ex
    rw [e1] at e2
    cases e2
    refine ho H0 S0 Hs2 σ H2 s2 v y x dy _ _ r2 rd (v2.rd r2.sub) q2 fun Hs3 H3 v d g3 r3 v3 q3 => ?_
    exact k Hs3 H3 v d s2 (g2.trans g3) r3 (v3.anew (fun a e => g2.back a e)) q3
  · exact q2.elim
/-- the right one a list of the def's own -/
def dOpR (f : DO) (da : DT) (i : Nat) : DT := fun s Q => da s fun x s2 => match s2.δ[i]? with
  | some (some y) => f x y fun z => Q z s2
  | _ => False
theorem sim_opR {r : R2} {f : DO} {ca : Cat} (i : Nat) (hi : i ∈ C.M) (ho : OpA C r f) (ha : Sim C ca ta da) : Sim C .F (tOp r ta (tVar i)) (dOpR f da i) := by
  refine ⟨fun H0 S0 Hs σ H s Q Q' r0 q k => ha.run H0 S0 Hs σ H s _ _ r0 q fun Hs2 H2 x dx s2 g2 r2 v2 q2 => ?_⟩
  split at q2
  · rename_i y ey
    obtain ⟨v', e2, rd⟩ := r2.rdM hi ey
    refine ⟨v', e2, ho H0 S0 Hs2 σ H2 s2 x v' dx y _ _ r2 (v2.rd r2.sub) rd q2 fun Hs3 H3 v d g3 r3 v3 q3 => ?_⟩
    exact k Hs3 H3 v d s2 (g2.trans g3) r3 (v3.anew (fun a e => g2.back a e)) q3
  · exact q2.elim
def dOpMM (f : DO) (i j : Nat) : DT := fun s Q => match s.δ[i]?, s.δ[j]? with
  | some (some x), some (some y) => f x y fun z => Q z s
  | _, _ => False
theorem sim_opMM {r : R2} {f : DO} (i j : Nat) (hi : i ∈ C.M) (hj : j ∈ C.M) (ho : OpA C r f) : Sim C .F (tOp r (tVar i) (tVar j)) (dOpMM f i j) := by
  refine ⟨fun H0 S0 Hs σ H s Q Q' r0 q k => ?_⟩
  unfold dOpMM at q
  split at q
  · rename_i x y ex ey
    obtain ⟨v, e1, rd1⟩ := r0.rdM hi ex
    obtain ⟨v', e2, rd2⟩ := r0.rdM hj ey
    exact ⟨v, e1, v', e2, ho H0 S0 Hs σ H s v v' x y _ _ r0 rd1 rd2 q fun Hs3 H3 v d g3 r3 v3 q3 => k Hs3 H3 v d s g3 r3 v3 q3⟩
  · exact q.elim
end

/-! ### operations of the plain layer -/
section
variable {K : PySem.W.Frag} {H : Hp}
mutual
theorem Rp.dp : ∀ (d : D) {v : V}, Rp K H v d → d.canLay0 = true → Dp K H v d
  | .none, _, h, _ => by cases h; exact .non
  | .bool b, _, h, _ => by cases h; exact .bl b
  | .int b, _, h, _ => by cases h; exact .int b
  | .str b, _, h, _ => by cases h; exact .str b
  | .list ds, _, h, c => by
    cases h with
    | lst q a => exact .lst (SqL.of q) (RpAll.dp ds a (by simpa [PyData.canLay0] using c))
  | .tuple ds, _, h, c => by
    cases h with
    | tup q a => exact .tup q (RpAll.dp ds a (by simpa [PyData.canLay0] using c))
  | .dict ds, _, _, c => by simp [PyData.canLay0] at c
theorem RpAll.dp : ∀ (ds : List D) {vs : List V}, RpAll K H vs ds → PyData.canLayAll0 ds = true → DpAll K H vs ds
  | [], _, h, _ => by cases h; exact .nil
  | d :: ds, _, h, c => by
    cases h with
    | cons a b =>
      simp only [PyData.canLayAll0, Bool.and_eq_true] at c
      exact .cons (Rp.dp d a c.1) (RpAll.dp ds b c.2)
end
end
/-- data that == may compare -/
def Sh (d : D) : Prop := SeqAt.shaped d = true
theorem Rd'.dp {K : PySem.W.Frag} {Hs H : Hp} {v : V} {d : D} (h : Rd' K Hs H v d) (sub : Same Hs H) (c : Sh d) : Dp K H v d := by
  have c' := SeqAt.canLay_of_shaped c
  cases e : isC d with
  | true =>
    cases d <;> first | (exfalso; have e' : false = true := e; cases e'; done) | skip
    case list ds =>
      obtain ⟨a, xs, rfl, h1, h2⟩ := Rd'.list h
      exact .lst (SqL.of h1) (DpAll_same sub (RpAll.dp ds h2 (by simpa [PyData.canLay0] using c')))
    case dict ds => simp [PyData.canLay0] at c'
  | false =>
    have h : (if isC d = true then _ else Rp K Hs v d) := h
    rw [if_neg (by rw [e]; exact Bool.false_ne_true)] at h
    exact Dp_same sub (Rp.dp _ h c')
section
variable {C : Cf} {σ : L2.St} {H0 S0 Hs H : Hp} {s : S}
/-- a new object in the heap, not of the still part -/
theorem Go.laid {a : Addr} {o : HO} (h : H a = none) : Go C σ Hs H Hs (upd H a o) :=
  ⟨Same.refl _, fun b x e _ _ => by rw [upd_ne (ne_of_none e h)]; exact e, fun b x e => ⟨x, by rw [upd_ne (ne_of_none e h)]; exact e⟩, fun _ h1 h2 => absurd h1 h2⟩
theorem R.laid (r : R C H0 S0 Hs σ H s) {a : Addr} {o : HO} (h : H a = none) : R C H0 S0 Hs σ (upd H a o) s := by
  have sm : Same H (upd H a o) := same_upd h
  refine ⟨r.len, r.sub.trans sm, r.slot, fun i d e m => ?_, r.dead, r.sep, fun p c e => ?_, r.br, r.s0, fun b x n e => sm _ _ (r.h0 b x n e), r.new⟩
  · obtain ⟨b, u, e2, e3, e4⟩ := r.mt i d e m
    exact ⟨b, u, e2, sm _ _ e3, e4⟩
  · obtain ⟨e1, e2, e3⟩ := r.pn p c e
    exact ⟨e1, e2.same sm, e3⟩
theorem R.free0 (r : R C H0 S0 Hs σ H s) {a : Addr} (h : H a = none) : H0 a = none ∧ Hs a = none ∧ ¬ Own C σ a ∧ ¬ IsPen C a := by
  have no : ¬ Own C σ a := fun ⟨i, m, e⟩ => by
    have hi : i < s.δ.length := by rw [← r.len]; exact (List.getElem?_eq_some_iff.mp e).1
    cases q : s.δ[i]'hi with
    | none =>
      have := r.dead i m (by rw [List.getElem?_eq_getElem hi, q])
      rw [e] at this; cases this
    | some d =>
      obtain ⟨b, u, e2, e3, _⟩ := r.mt i d (by rw [List.getElem?_eq_getElem hi, q]) m
      rw [e] at e2; cases e2
      rw [h] at e3; cases e3
  have np : ¬ IsPen C a := fun z => by
    rcases z with ⟨c, e⟩ | e
    · obtain ⟨_, ⟨⟨_, _, e2, _⟩, _, _⟩, _⟩ := r.pn a c e
      rw [h] at e2; cases e2
    · obtain ⟨i, _, m, z⟩ := (r.br a e).1
      exact no ⟨i, m, z⟩
  refine ⟨?_, ?_, no, np⟩
  · cases q : H0 a with
    | none => rfl
    | some o => rw [r.h0 a o np q] at h; cases h
  · cases q : Hs a with
    | none => rfl
    | some o => rw [r.sub a o q] at h; cases h
/-- a new list or dict, nobody else's -/
theorem R.newC (r : R C H0 S0 Hs σ H s) {a : Addr} {o : HO} {d : D} (h : H a = none) (hx : Cn C.K Hs o d) : Val C H0 H Hs σ (upd H a o) .F (.ref a) d := by
  obtain ⟨h0, h1, h2, _⟩ := r.free0 h
  exact Val.mkC ⟨o, upd_same, h1, h0, h, hx, h2⟩
theorem R.newList (r : R C H0 S0 Hs σ H s) {a : Addr} {xs : List V} {ds : List D} (h : H a = none) (hx : RpAll C.K Hs xs ds) : Val C H0 H Hs σ (upd H a (.lst xs)) .F (.ref a) (.list ds) := r.newC h (.lst hx)
/-- a new tuple lies in the still part at once -/
theorem R.newTup (r : R C H0 S0 Hs σ H s) {a : Addr} {o : HO} (h : H a = none) : R C H0 S0 (upd Hs a o) σ (upd H a o) s ∧ Go C σ Hs H (upd Hs a o) (upd H a o) := by
  obtain ⟨h0, h1, h2, h3⟩ := r.free0 h
  have sm : Same H (upd H a o) := same_upd h
  have sm' : Same Hs (upd Hs a o) := same_upd h1
  have r' := r.laid (o := o) h
  refine ⟨⟨r.len, fun b x e => ?_, fun i d e m => ?_, fun i d e m => ?_, r.dead, r.sep, fun p c e => ?_, r.br, r.s0.trans sm', r'.h0, fun b e1 e2 => ?_⟩, sm', fun b x e _ _ => sm _ _ e, fun b x e => ⟨x, sm _ _ e⟩, fun b e1 e2 => ?_⟩
  · by_cases z : b = a
    · subst z; rw [upd_same] at e; rw [upd_same]; exact e
    · rw [upd_ne z] at e; exact r'.sub _ _ e
  · obtain ⟨v, e1, e2⟩ := r.slot i d e m
    exact ⟨v, e1, Rp.mono sm' e2⟩
  · obtain ⟨b, u, e2, e3, e4, e5, e6⟩ := r'.mt i d e m
    refine ⟨b, u, e2, e3, ?_, e5.mono sm', e6⟩
    rw [upd_ne (fun z => h2 ⟨i, m, by rw [← z]; exact e2⟩)]
    exact e4
  · obtain ⟨e1, e2, e3, e4⟩ := r'.pn p c e
    refine ⟨e1, e2, ?_, e4⟩
    rw [upd_ne (fun z => h3 (.inl ⟨c, by rw [← z]; exact e⟩))]
    exact e3
  · by_cases z : b = a
    · subst z; exact h0
    · rw [upd_ne z] at e2; exact r.new b e1 e2
  · by_cases z : b = a
    · subst z; exact h
    · rw [upd_ne z] at e2; exact absurd e1 e2
end
theorem Val.bl {C : Cf} {H0 Hst Hs : Hp} {σ : L2.St} {H : Hp} (b : Bool) : Val C H0 Hst Hs σ H .F (.bl b) (.bool b) := Val.mkP (Rp.bl b) rfl
/-! the operators -/
section
variable {X : Cx} (K : PySem.W.Frag) (eK : X.K = K)
def rAddS : R2 := fun x y H Q => ∃ i j, x = .str i ∧ y = .str j ∧ i.length + j.length ≤ sizeLine ∧ Q (.str (i ++ j)) H
def rAddG (K : PySem.W.Frag) : R2 := fun x y H Q => rI0 (fun i j => .int (i + j)) x y H Q ∨ rAddS x y H Q ∨ rCat x y H Q ∨ rCatA K x y H Q
include eK in
theorem addG : OpR X (binaryOp .Add) (rAddG K) := by
  subst eK
  exact OpR.or op_add (OpR.or op_add_str (OpR.or op_cat op_catA))
def rMulG : R2 := fun x y H Q => rI CMulW (fun i j => .int (i * j)) x y H Q ∨ rRep x y H Q
theorem mulG : OpR X (binaryOp .Mult) rMulG := OpR.or op_mulW op_rep
def rEqG (K : PySem.W.Frag) : R2 := fun x y H Q => rEq x y H Q ∨ rEqD K x y H Q
def rNeG (K : PySem.W.Frag) : R2 := fun x y H Q => rNe x y H Q ∨ rNeD K x y H Q
include eK in
theorem eqG (hu : X.A.units + 64 < cLine) : OpR X (compareOp .Eq) (rEqG K) := by subst eK; exact OpR.or op_eq (op_eqD hu)
include eK in
theorem neG (hu : X.A.units + 64 < cLine) : OpR X (compareOp .NotEq) (rNeG K) := by subst eK; exact OpR.or op_ne (op_neD hu)
def rInS (neg : Bool) : R2 := fun x y H Q => ∃ i j, x = .str i ∧ y = .str j ∧ Q (.bl (xor neg (!(Builtin.Str.occurrences j i 0 j.length 1).isEmpty))) H
def rInG (K : PySem.W.Frag) : R2 := fun x y H Q => rIn K false x y H Q ∨ rInD K x y H Q ∨ rInS false x y H Q
def rNinG (K : PySem.W.Frag) : R2 := fun x y H Q => rIn K true x y H Q ∨ rNotInD K x y H Q ∨ rInS true x y H Q
include eK in
theorem inG (hu : X.A.units + 65 < cLine) : OpR X (compareOp .In) (rInG K) := by
  subst eK
  refine OpR.or op_in_seq (OpR.or (op_inD hu) fun pins s σ H x y v u Q I rx ry h => op_in_str pins s σ H x y v u Q I rx ry ?_)
  obtain ⟨i, j, rfl, rfl, q⟩ := h
  exact ⟨i, j, rfl, rfl, by simpa using q⟩
include eK in
theorem ninG (hu : X.A.units + 65 < cLine) : OpR X (compareOp .NotIn) (rNinG K) := by
  subst eK
  refine OpR.or op_notIn_seq (OpR.or (op_notInD hu) fun pins s σ H x y v u Q I rx ry h => op_notin_str pins s σ H x y v u Q I rx ry ?_)
  obtain ⟨i, j, rfl, rfl, q⟩ := h
  exact ⟨i, j, rfl, rfl, by simpa using q⟩
def rIxG (K : PySem.W.Frag) : R2 := fun x y H Q => rIxL K x y H Q ∨ rIxT K x y H Q ∨ rIxS x y H Q
include eK in
theorem ixG : IxR X (rIxG K) := by subst eK; exact IxR.or ix_list (IxR.or ix_tup ix_str)
end
def addD : DO := fun x y Q => match x, y with
  | .int i, .int j => Q (.int (i + j))
  | .str a, .str b => a.length + b.length ≤ sizeLine ∧ Q (.str (a ++ b))
  | .list a, .list b => a.length + b.length ≤ sizeLine ∧ Q (.list (a ++ b))
  | .tuple a, .tuple b => a.length + b.length ≤ sizeLine ∧ Q (.tuple (a ++ b))
  | _, _ => False
def subD : DO := fun x y Q => match x, y with
  | .int i, .int j => Q (.int (i - j))
  | _, _ => False
def mulD : DO := fun x y Q => match x, y with
  | .int i, .int j => CMulW i j ∧ Q (.int (i * j))
  | .list a, .int k => k < 2 ^ 62 ∧ -(2 ^ 62) < k ∧ a.length * k.toNat ≤ sizeLine ∧ Q (.list (List.replicate k.toNat a).flatten)
  | _, _ => False
def fdivD : DO := fun x y Q => match x, y with
  | .int i, .int j => CDivW i j ∧ Q (.int (i / j))
  | _, _ => False
def modD : DO := fun x y Q => match x, y with
  | .int i, .int j => 0 < j ∧ Q (.int (i % j))
  | _, _ => False
def powD : DO := fun x y Q => match x, y with
  | .int i, .int j => CPow i j ∧ Q (.int (i ^ j.toNat))
  | _, _ => False
def cmpD (p : Int → Int → Bool) : DO := fun x y Q => match x, y with
  | .int i, .int j => Q (.bool (p i j))
  | _, _ => False
/-- == -/
def eqB : D → D → Option Bool
  | .str a, .str b => some (decide (a = b))
  | .int a, .int b => some (decide (a = b))
  | .bool a, .bool b => some (decide (a = b))
  | .none, .none => some true
  | .none, .str _ => some false
  | .str _, .none => some false
  | .none, .int _ => some false
  | .int _, .none => some false
  | .int _, .str _ => some false
  | .str _, .int _ => some false
  | _, _ => none
def eqD : DO := fun x y Q => match eqB x y with
  | some b => Q (.bool b)
  | none => Sh x ∧ Sh y ∧ Q (.bool (PyData.eqv x y))
def neD : DO := fun x y Q => match eqB x y with
  | some b => Q (.bool (!b))
  | none => Sh x ∧ Sh y ∧ Q (.bool (!PyData.eqv x y))
def isND : DO := fun x y Q => match y with
  | .none => Q (.bool (match x with | .none => true | _ => false))
  | _ => False
def notND : DO := fun x y Q => match y with
  | .none => Q (.bool (match x with | .none => false | _ => true))
  | _ => False
/-- a flat tree's == -/
def flatD : D → Bool
  | .none => true
  | .bool _ => true
  | .int _ => true
  | .str _ => true
  | _ => false
def eqF : D → D → Bool
  | .none, .none => true
  | .bool a, .bool b => a == b
  | .bool a, .int b => (if a then 1 else 0) == b
  | .int a, .bool b => a == (if b then 1 else 0)
  | .int a, .int b => a == b
  | .str a, .str b => a == b
  | _, _ => false
def inD (neg : Bool) : DO := fun x y Q => match y with
  | .str b => (match x with
    | .str a => Q (.bool (xor neg (!(Builtin.Str.occurrences b a 0 b.length 1).isEmpty)))
    | _ => False)
  | .tuple ys => flatD x = true ∧ ys.all flatD = true ∧ Q (.bool (xor neg (ys.any fun z => eqF z x)))
  | .list ys => (flatD x = true ∧ ys.all flatD = true ∧ Q (.bool (xor neg (ys.any fun z => eqF z x)))) ∨ (Sh x ∧ Sh (.list ys) ∧ Q (.bool (xor neg (ys.any fun z => PyData.eqv z x))))
  | _ => False
structure IxP (o : Option D) (Q : D → Prop) : Prop where
  ex : ∃ d, o = some d ∧ Q d
structure IxS (z : Str) (i : Int) (Q : D → Prop) : Prop where
  ln : z.length ≤ sizeLine
  ex : ∃ c, atI z.cps.toList i = some c ∧ Q (.str ⟨#[c]⟩)
def ixD : DO := fun x y Q => match y with
  | .int i => (match x with
    | .list ds => IxP (atI ds i) Q
    | .tuple ds => IxP (atI ds i) Q
    | .str z => IxS z i Q
    | _ => False)
  | _ => False
section
variable {C : Cf}
theorem opA_add : OpA C (rAddG C.K) addD := by
  intro H0 S0 Hs σ H s x y dx dy Q Q' r hx hy q k
  cases dx <;> cases dy <;> first | exact q.elim | skip
  case int.int i j => cases hx; cases hy; exact .inl ⟨i, j, rfl, rfl, k Hs H _ (.int (i + j)) Go.refl r (Val.mkP (Rp.int _) rfl) q⟩
  case str.str a b => cases hx; cases hy; exact .inr (.inl ⟨a, b, rfl, rfl, q.1, k Hs H _ (.str (a ++ b)) Go.refl r (Val.mkP (Rp.str _) rfl) q.2⟩)
  case list.list ds es =>
    obtain ⟨a, xs, rfl, h1, h2⟩ := Rd'.list hx
    obtain ⟨b, ys, rfl, h3, h4⟩ := Rd'.list hy
    refine .inr (.inr (.inl ⟨a, b, xs, ys, rfl, rfl, h1, h3, by rw [h2.len, h4.len]; exact q.1, fun p np => ?_⟩))
    exact k Hs _ _ (.list (ds ++ es)) (Go.laid np) (r.laid np) (r.newList np (h2.app h4)) q.2
  case tuple.tuple ds es =>
    cases hx with
    | @tup a xs _ h1 h2 =>
    cases hy with
    | @tup b ys _ h3 h4 =>
    refine .inr (.inr (.inr ⟨a, b, xs, ys, rfl, rfl, Same.sqT r.sub h1, Same.sqT r.sub h3, by rw [h2.len, h4.len]; exact q.1, fun e => ?_, fun _ e => ?_, fun _ _ p np => ?_⟩))
    · subst e
      cases h2
      exact k Hs H _ (.tuple ([] ++ es)) Go.refl r (Val.mkP (Rp.tup h3 h4) rfl) q.2
    · subst e
      cases h4
      exact k Hs H _ (.tuple (ds ++ [])) Go.refl r (Val.mkP (by rw [List.append_nil]; exact Rp.tup h1 h2) rfl) q.2
    · obtain ⟨r', g'⟩ := r.newTup (o := .tup (xs ++ ys)) np
      exact k _ _ _ (.tuple (ds ++ es)) g' r' (Val.mkP (Rp.tup (SqT.of upd_same) (RpAll.mono g'.st (h2.app h4))) rfl) q.2
theorem opA_sub : OpA C (rI0 fun i j => .int (i - j)) subD := by
  intro H0 S0 Hs σ H s x y dx dy Q Q' r hx hy q k
  cases dx <;> cases dy <;> first | exact q.elim | skip
  case int.int i j => cases hx; cases hy; exact ⟨i, j, rfl, rfl, k Hs H _ (.int (i - j)) Go.refl r (Val.mkP (Rp.int _) rfl) q⟩
theorem RpAll.rep {K : PySem.W.Frag} {H : Hp} {xs : List V} {ds : List D} (h : RpAll K H xs ds) : ∀ n : Nat, RpAll K H (List.replicate n xs).flatten (List.replicate n ds).flatten
  | 0 => .nil
  | n + 1 => by rw [List.replicate_succ, List.replicate_succ, List.flatten_cons, List.flatten_cons]; exact h.app (RpAll.rep h n)
theorem opA_mul : OpA C rMulG mulD := by
  intro H0 S0 Hs σ H s x y dx dy Q Q' r hx hy q k
  cases dx <;> cases dy <;> first | exact q.elim | skip
  case int.int i j => cases hx; cases hy; exact .inl ⟨i, j, rfl, rfl, q.1, k Hs H _ (.int (i * j)) Go.refl r (Val.mkP (Rp.int _) rfl) q.2⟩
  case list.int ds n =>
    obtain ⟨a, xs, rfl, h1, h2⟩ := Rd'.list hx
    cases hy
    refine .inr ⟨a, n, xs, rfl, rfl, h1, by have := q.2.1; omega, by have := q.1; omega, by rw [h2.len]; exact q.2.2.1, fun p np => ?_⟩
    exact k Hs _ _ (.list (List.replicate n.toNat ds).flatten) (Go.laid np) (r.laid np) (r.newList np (h2.rep n.toNat)) q.2.2.2
theorem opA_fdiv : OpA C (rI CDivW fun i j => .int (i / j)) fdivD := by
  intro H0 S0 Hs σ H s x y dx dy Q Q' r hx hy q k
  cases dx <;> cases dy <;> first | exact q.elim | skip
  case int.int i j => cases hx; cases hy; exact ⟨i, j, rfl, rfl, q.1, k Hs H _ (.int (i / j)) Go.refl r (Val.mkP (Rp.int _) rfl) q.2⟩
theorem opA_mod : OpA C (rI (fun _ j => 0 < j) fun i j => .int (i % j)) modD := by
  intro H0 S0 Hs σ H s x y dx dy Q Q' r hx hy q k
  cases dx <;> cases dy <;> first | exact q.elim | skip
  case int.int i j => cases hx; cases hy; exact ⟨i, j, rfl, rfl, q.1, k Hs H _ (.int (i % j)) Go.refl r (Val.mkP (Rp.int _) rfl) q.2⟩
theorem opA_pow : OpA C (rI CPow fun i j => .int (i ^ j.toNat)) powD := by
  intro H0 S0 Hs σ H s x y dx dy Q Q' r hx hy q k
  cases dx <;> cases dy <;> first | exact q.elim | skip
  case int.int i j => cases hx; cases hy; exact ⟨i, j, rfl, rfl, q.1, k Hs H _ (.int (i ^ j.toNat)) Go.refl r (Val.mkP (Rp.int _) rfl) q.2⟩
theorem opA_cmp (p : Int → Int → Bool) : OpA C (rI0 fun i j => .bl (p i j)) (cmpD p) := by
  intro H0 S0 Hs σ H s x y dx dy Q Q' r hx hy q k
  cases dx <;> cases dy <;> first | exact q.elim | skip
  case int.int i j => cases hx; cases hy; exact ⟨i, j, rfl, rfl, k Hs H _ (.bool (p i j)) Go.refl r (Val.mkP (Rp.bl _) rfl) q⟩
theorem eqB_some {K : PySem.W.Frag} {Hs H : Hp} {x y : V} {dx dy : D} {b : Bool} (hx : Rd' K Hs H x dx) (hy : Rd' K Hs H y dy) (e : eqB dx dy = some b) : scal x y = true ∧ decide (x = y) = b := by
  cases dx <;> cases dy <;> first | (exfalso; have e' : (none : Option Bool) = some b := e; cases e'; done) | skip
  all_goals (cases hx; cases hy; simp only [eqB, Option.some.injEq] at e; subst e; exact ⟨rfl, by simp⟩)
theorem opA_eq : OpA C (rEqG C.K) eqD := by
  intro H0 S0 Hs σ H s x y dx dy Q Q' r hx hy q k
  unfold eqD at q
  split at q
  · rename_i b e
    obtain ⟨h1, h2⟩ := eqB_some hx hy e
    exact .inl ⟨h1, by rw [h2]; exact k Hs H _ (.bool b) Go.refl r (Val.mkP (Rp.bl _) rfl) q⟩
  · exact .inr ⟨dx, dy, hx.dp r.sub q.1, hy.dp r.sub q.2.1, q.1, q.2.1, k Hs H _ (.bool (PyData.eqv dx dy)) Go.refl r (Val.mkP (Rp.bl _) rfl) q.2.2⟩
theorem opA_ne : OpA C (rNeG C.K) neD := by
  intro H0 S0 Hs σ H s x y dx dy Q Q' r hx hy q k
  unfold neD at q
  split at q
  · rename_i b e
    obtain ⟨h1, h2⟩ := eqB_some hx hy e
    exact .inl ⟨h1, by rw [h2]; exact k Hs H _ (.bool (!b)) Go.refl r (Val.mkP (Rp.bl _) rfl) q⟩
  · exact .inr ⟨dx, dy, hx.dp r.sub q.1, hy.dp r.sub q.2.1, q.1, q.2.1, k Hs H _ (.bool (!PyData.eqv dx dy)) Go.refl r (Val.mkP (Rp.bl _) rfl) q.2.2⟩
def rIsNV : R2 := fun x y H Q => y = .non ∧ Q (.bl (decide (x = .non))) H
def rNotNV : R2 := fun x y H Q => y = .non ∧ Q (.bl (!decide (x = .non))) H
theorem opA_isN : OpA C (fun x y H Q => y = .non ∧ Q (.bl (decide (x = .non))) H) isND := by
  intro H0 S0 Hs σ H s x y dx dy Q Q' r hx hy q k
  cases dy <;> first | exact q.elim | skip
  cases hy
  refine ⟨rfl, ?_⟩
  cases dx with
  | none => cases hx; exact k Hs H _ (.bool true) Go.refl r (Val.mkP (Rp.bl _) rfl) q
  | bool b => cases hx; exact k Hs H _ (.bool false) Go.refl r (by simpa using Val.bl _) q
  | int b => cases hx; exact k Hs H _ (.bool false) Go.refl r (by simpa using Val.bl _) q
  | str b => cases hx; exact k Hs H _ (.bool false) Go.refl r (by simpa using Val.bl _) q
  | list b => obtain ⟨a, xs, rfl, _⟩ := Rd'.list hx; exact k Hs H _ (.bool false) Go.refl r (by simpa using Val.bl _) q
  | tuple b => cases hx; exact k Hs H _ (.bool false) Go.refl r (by simpa using Val.bl _) q
  | dict b => obtain ⟨a, xs, rfl, _⟩ := Rd'.dict hx; exact k Hs H _ (.bool false) Go.refl r (by simpa using Val.bl _) q
theorem opA_notN : OpA C (fun x y H Q => y = .non ∧ Q (.bl (!decide (x = .non))) H) notND := by
  intro H0 S0 Hs σ H s x y dx dy Q Q' r hx hy q k
  cases dy <;> first | exact q.elim | skip
  cases hy
  refine ⟨rfl, ?_⟩
  cases dx with
  | none => cases hx; exact k Hs H _ (.bool false) Go.refl r (Val.mkP (Rp.bl _) rfl) q
  | bool b => cases hx; exact k Hs H _ (.bool true) Go.refl r (by simpa using Val.bl _) q
  | int b => cases hx; exact k Hs H _ (.bool true) Go.refl r (by simpa using Val.bl _) q
  | str b => cases hx; exact k Hs H _ (.bool true) Go.refl r (by simpa using Val.bl _) q
  | list b => obtain ⟨a, xs, rfl, _⟩ := Rd'.list hx; exact k Hs H _ (.bool true) Go.refl r (by simpa using Val.bl _) q
  | tuple b => cases hx; exact k Hs H _ (.bool true) Go.refl r (by simpa using Val.bl _) q
  | dict b => obtain ⟨a, xs, rfl, _⟩ := Rd'.dict hx; exact k Hs H _ (.bool true) Go.refl r (by simpa using Val.bl _) q
theorem flat_rd {K : PySem.W.Frag} {Hs H : Hp} {x : V} {d : D} (h : Rd' K Hs H x d) (f : flatD d = true) : flatV x = true ∧ ∀ {y : V} {e : D}, Rp K Hs y e → flatD e = true → eqV y x = eqF e d := by
  cases d <;> first | (exfalso; have f' : false = true := f; cases f'; done) | skip
  all_goals
    cases h
    refine ⟨rfl, fun {y e} hy fe => ?_⟩
    cases e <;> first | (exfalso; have f' : false = true := fe; cases f'; done) | (cases hy; rfl)
theorem any_rd {K : PySem.W.Frag} {Hs H : Hp} {x : V} {d : D} (h : Rd' K Hs H x d) (f : flatD d = true) : ∀ {xs : List V} {ds : List D}, RpAll K Hs xs ds → ds.all flatD = true → xs.all flatV = true ∧ inV x xs = ds.any fun z => eqF z d
  | _, _, .nil, _ => ⟨rfl, rfl⟩
  | _, _, .cons (v := v) (vs := vs) (d := e) (ds := es) a b, g => by
    rw [List.all_cons, Bool.and_eq_true] at g
    obtain ⟨h1, h2⟩ := any_rd h f b g.2
    have fv : flatV v = true := by
      cases e <;> first | (exfalso; have f' : false = true := g.1; cases f'; done) | (cases a; rfl)
    refine ⟨by rw [List.all_cons, fv, h1]; rfl, ?_⟩
    unfold inV at h2 ⊢
    rw [List.any_cons, List.any_cons, h2, (flat_rd h f).2 a g.1]
theorem opA_inX (neg : Bool) {rr : R2} (h1 : ∀ x y H Q, rIn C.K neg x y H Q → rr x y H Q) (h2 : ∀ x y H Q, rInS neg x y H Q → rr x y H Q)
    (h3 : ∀ x y H (Q : VK), (∃ d ds, Dp C.K H x d ∧ Dp C.K H y (.list ds) ∧ SeqAt.shaped d = true ∧ SeqAt.shaped (.list ds) = true ∧ Q (.bl (xor neg (ds.any fun z => PyData.eqv z d))) H) → rr x y H Q) : OpA C rr (inD neg) := by
  intro H0 S0 Hs σ H s x y dx dy Q Q' r hx hy q k
  cases dy <;> first | exact q.elim | skip
  case str b =>
    cases dx <;> first | exact q.elim | skip
    cases hx; cases hy
    exact h2 _ _ _ _ ⟨_, _, rfl, rfl, k Hs H _ (.bool _) Go.refl r (Val.mkP (Rp.bl _) rfl) q⟩
  case tuple ys =>
    obtain ⟨f1, f2, q⟩ := q
    cases hy with
    | @tup a xs _ e1 e2 =>
    obtain ⟨g1, g2⟩ := any_rd hx f1 e2 f2
    refine h1 _ _ _ _ ⟨a, xs, rfl, .inr (Same.sqT r.sub e1), (flat_rd hx f1).1, g1, ?_⟩
    rw [g2]
    refine k Hs H _ (.bool _) Go.refl r ?_ q
    cases neg with
    | true => simpa using Val.bl _
    | false => simpa using Val.bl _
  case list ys =>
    have hy' := hy
    obtain ⟨a, xs, rfl, e1, e2⟩ := Rd'.list hy
    rcases q with ⟨f1, f2, q⟩ | ⟨f1, f2, q⟩
    · obtain ⟨g1, g2⟩ := any_rd hx f1 e2 f2
      refine h1 _ _ _ _ ⟨a, xs, rfl, .inl (SqL.of e1), (flat_rd hx f1).1, g1, ?_⟩
      rw [g2]
      refine k Hs H _ (.bool _) Go.refl r ?_ q
      cases neg with
      | true => simpa using Val.bl _
      | false => simpa using Val.bl _
    · exact h3 _ _ _ _ ⟨dx, ys, hx.dp r.sub f1, hy'.dp r.sub f2, f1, f2, k Hs H _ (.bool _) Go.refl r (Val.mkP (Rp.bl _) rfl) q⟩
theorem opA_in : OpA C (rInG C.K) (inD false) := opA_inX false (fun _ _ _ _ h => .inl h) (fun _ _ _ _ h => .inr (.inr h)) (fun _ _ _ _ h => by
  obtain ⟨d, ds, a, b, c, e, q⟩ := h
  exact .inr (.inl ⟨d, ds, a, b, c, e, by simpa using q⟩))
theorem opA_nin : OpA C (rNinG C.K) (inD true) := opA_inX true (fun _ _ _ _ h => .inl h) (fun _ _ _ _ h => .inr (.inr h)) (fun _ _ _ _ h => by
  obtain ⟨d, ds, a, b, c, e, q⟩ := h
  exact .inr (.inl ⟨d, ds, a, b, c, e, by simpa using q⟩))
theorem atI_all {K : PySem.W.Frag} {H : Hp} {xs : List V} {ds : List D} {i : Int} {d : D} (h : RpAll K H xs ds) (e : atI ds i = some d) : ∃ v, atI xs i = some v ∧ Rp K H v d := by
  unfold atI at e ⊢
  rw [h.len]
  cases q : ixN ds.length i with
  | none => rw [q] at e; cases e
  | some j =>
    rw [q] at e
    obtain ⟨x, e1, e2⟩ := h.get (i := j) e
    exact ⟨x, e1, e2⟩
theorem opA_ix {ca : Cat} {ta tb : TE} {da db : DT} (ha : Sim C ca ta da) {cb : Cat} (hb : Sim C cb tb db) : Sim C .E (tOp (rIxG C.K) ta tb) (dOp ixD da db) := by
  refine ⟨fun H0 S0 Hs σ H s Q Q' r0 q k => ha.run H0 S0 Hs σ H s _ _ r0 q fun Hs1 H1 x dx s1 g1 r1 v1 q1 => hb.run H0 S0 Hs1 σ H1 s1 _ _ r1 q1 fun Hs2 H2 y dy s2 g2 r2 v2 q2 => ?_⟩
  have rx := (v1.go r1 g2).rd r2.sub
  have ry := v2.rd r2.sub
  cases dy <;> first | exact q2.elim | skip
  cases ry
  cases dx <;> first | exact q2.elim | skip
  case int.list i ds =>
    obtain ⟨a, xs, rfl, e1, e2⟩ := Rd'.list rx
    obtain ⟨⟨d, e, q2⟩⟩ := (show IxP (atI ds i) _ from q2)
    obtain ⟨v, e3, e4⟩ := atI_all e2 e
    exact .inl ⟨a, xs, i, v, rfl, rfl, SqL.of e1, e3, k Hs2 H2 v d s2 (g1.trans g2) r2 e4 q2⟩
  case int.tuple i ds =>
    cases rx with
    | @tup a xs _ e1 e2 =>
    obtain ⟨⟨d, e, q2⟩⟩ := (show IxP (atI ds i) _ from q2)
    obtain ⟨v, e3, e4⟩ := atI_all e2 e
    exact .inr (.inl ⟨a, xs, i, v, rfl, rfl, Same.sqT r2.sub e1, e3, k Hs2 H2 v d s2 (g1.trans g2) r2 e4 q2⟩)
  case int.str i z =>
    cases rx
    obtain ⟨hz, c, e, q2⟩ := (show IxS z i _ from q2)
    exact .inr (.inr ⟨z, i, c, rfl, rfl, hz, e, k Hs2 H2 _ (.str ⟨#[c]⟩) s2 (g1.trans g2) r2 (Rp.str _) q2⟩)
theorem opA_ixM (i : Nat) (hi : i ∈ C.M) {tb : TE} {db : DT} {cb : Cat} (hb : Sim C cb tb db) : Sim C .E (tOp (rIxG C.K) (tVar i) tb) (dOpM ixD i db) := by
  refine ⟨fun H0 S0 Hs σ H s Q Q' r0 q k => ?_⟩
  obtain ⟨⟨d, e⟩, q⟩ := q
  obtain ⟨v, e1, _⟩ := r0.rdM hi e
  refine ⟨v, e1, hb.run H0 S0 Hs σ H s _ _ r0 q fun Hs2 H2 y dy s2 g2 r2 v2 q2 => ?_⟩
  split at q2
  · rename_i x ex
    obtain ⟨a, o, e2, e3, e4, e5, _⟩ := r2.mt i x ex hi
    rw [e1] at e2
    cases e2
    have ry := v2.rd r2.sub
    cases dy <;> first | exact q2.elim | skip
    case int j =>
      cases ry
      cases e5 <;> first | exact q2.elim | skip
      rename_i xs ds e5
      obtain ⟨⟨d, e, q2⟩⟩ := (show IxP (atI ds j) _ from q2)
      obtain ⟨v, e6, e7⟩ := atI_all e5 e
      exact .inl ⟨a, xs, j, v, rfl, rfl, SqL.of e3, e6, k Hs2 H2 v d s2 g2 r2 e7 q2⟩
  · exact q2.elim
end

/-! ### displays, tests, calls -/
abbrev DA := S → (List D → S → Prop) → Prop
structure SimA (C : Cf) (n : Nat) (ta : TA) (t : DA) : Prop where
  run : ∀ (H0 S0 Hs : Hp) (σ : L2.St) (H : Hp) (s : S) (Q : List D → S → Prop) (Q' : List V → Hp → Prop), R C H0 S0 Hs σ H s → t s Q →
    (∀ Hs' H' vs ds s', Go C σ Hs H Hs' H' → R C H0 S0 Hs' σ H' s' → RpAll C.K Hs' vs ds → ds.length = n → Q ds s' → Q' vs H') → ta σ H Q'
abbrev DB := S → (Bool → S → Prop) → Prop
structure SimT (C : Cf) (tt : TT) (t : DB) : Prop where
  run : ∀ (H0 S0 Hs : Hp) (σ : L2.St) (H : Hp) (s : S) (Q : Bool → S → Prop) (Q' : Bool → Hp → Prop), R C H0 S0 Hs σ H s → t s Q →
    (∀ Hs' H' b s', Go C σ Hs H Hs' H' → R C H0 S0 Hs' σ H' s' → Q b s' → Q' b H') → tt σ H Q'
section
variable {C : Cf} {te ta tb tc : TE} {t da db dc : DT} {ca cb cc : Cat}
def dNil : DA := fun s Q => Q [] s
def dCons (a : DT) (r : DA) : DA := fun s Q => a s fun d s1 => r s1 fun ds s2 => Q (d :: ds) s2
theorem simA_nil : SimA C 0 tNil dNil := ⟨fun H0 S0 Hs σ H s Q Q' r q k => k Hs H [] [] s Go.refl r .nil rfl q⟩
theorem simA_cons {n : Nat} {tr : TA} {dr : DA} (ha : Sim C ca ta da) (hr : SimA C n tr dr) : SimA C (n + 1) (tCons ta tr) (dCons da dr) := by
  refine ⟨fun H0 S0 Hs σ H s Q Q' r q k => ha.toE.run H0 S0 Hs σ H s _ _ r q fun Hs1 H1 x dx s1 g1 r1 v1 q1 => hr.run H0 S0 Hs1 σ H1 s1 _ _ r1 q1 fun Hs2 H2 vs ds s2 g2 r2 v2 l2 q2 => ?_⟩
  exact k Hs2 H2 (x :: vs) (dx :: ds) s2 (g1.trans g2) r2 (.cons (Rp.mono g2.st v1) v2) (by rw [List.length_cons, l2]) q2
theorem small_line {n : Nat} (h : n ≤ 1000) : n ≤ sizeLine := Nat.le_trans h (by decide)
def dTup (a : DA) : DT := fun s Q => a s fun ds s1 => Q (.tuple ds) s1
theorem sim_tup {n : Nat} {t : TA} {a : DA} (hn : n ≤ 1000) (h : SimA C n t a) : Sim C .F (tTup t) (dTup a) := by
  refine ⟨fun H0 S0 Hs σ H s Q Q' r q k => h.run H0 S0 Hs σ H s _ _ r q fun Hs1 H1 vs ds s1 g1 r1 v1 l1 q1 => ⟨by rw [v1.len, l1]; exact small_line hn, fun p np => ?_⟩⟩
  obtain ⟨r', g'⟩ := r1.newTup (o := .tup vs) np
  exact k _ _ _ (.tuple ds) s1 (g1.trans g') r' (Val.mkP (Rp.tup (SqT.of upd_same) (RpAll.mono g'.st v1)) rfl) q1
def dLst (a : DA) : DT := fun s Q => a s fun ds s1 => Q (.list ds) s1
theorem sim_lst {n : Nat} {t : TA} {a : DA} (hn : n ≤ 1000) (h : SimA C n t a) : Sim C .F (tLst t) (dLst a) := by
  refine ⟨fun H0 S0 Hs σ H s Q Q' r q k => h.run H0 S0 Hs σ H s _ _ r q fun Hs1 H1 vs ds s1 g1 r1 v1 l1 q1 => ⟨by rw [v1.len, l1]; exact small_line hn, fun p np => ?_⟩⟩
  exact k Hs1 _ _ (.list ds) s1 (g1.trans (Go.laid np)) (r1.laid np) ((r1.newList np v1).anew fun a e => g1.back a e) q1
/-! tests -/
def dBl (a : DT) : DB := fun s Q => a s fun d s1 => match d with
  | .bool b => Q b s1
  | _ => False
theorem Val.bool {H0 Hst Hs : Hp} {σ : L2.St} {H : Hp} {v : V} {b : Bool} {cat : Cat} (h : Val C H0 Hst Hs σ H cat v (.bool b)) : v = .bl b := by
  cases cat with
  | E => cases (show Rp C.K Hs v (.bool b) from h); rfl
  | F => cases h.p rfl; rfl
theorem simT_B (h : Sim C ca te t) : SimT C (tB te) (dBl t) := by
  refine ⟨fun H0 S0 Hs σ H s Q Q' r q k => h.run H0 S0 Hs σ H s _ _ r q fun Hs1 H1 v d s1 g1 r1 v1 q1 => ?_⟩
  cases d <;> first | exact q1.elim | skip
  rename_i b
  cases v1.bool
  exact ⟨b, rfl, k Hs1 H1 b s1 g1 r1 q1⟩
theorem simT_test (h : Sim C ca te t) : SimT C (tTest te) (dBl t) := by
  refine ⟨fun H0 S0 Hs σ H s Q Q' r q k => h.run H0 S0 Hs σ H s _ _ r q fun Hs1 H1 v d s1 g1 r1 v1 q1 => ?_⟩
  cases d <;> first | exact q1.elim | skip
  rename_i b
  cases v1.bool
  exact ⟨b, rfl, k Hs1 H1 b s1 g1 r1 q1⟩
def dAnd (a b : DB) : DB := fun s Q => a s fun c s1 => if c = true then b s1 Q else Q false s1
def dOr (a b : DB) : DB := fun s Q => a s fun c s1 => if c = true then Q true s1 else b s1 Q
def dNot (a : DB) : DB := fun s Q => a s fun c s1 => Q (!c) s1
theorem simT_and {t u : TT} {a b : DB} (ha : SimT C t a) (hb : SimT C u b) : SimT C (tAnd t u) (dAnd a b) := by
  refine ⟨fun H0 S0 Hs σ H s Q Q' r q k => ha.run H0 S0 Hs σ H s _ _ r q fun Hs1 H1 c s1 g1 r1 q1 => ?_⟩
  cases c with
  | true => exact ifp rfl (hb.run H0 S0 Hs1 σ H1 s1 _ _ r1 (by simpa using q1) fun Hs2 H2 c2 s2 g2 r2 q2 => k Hs2 H2 c2 s2 (g1.trans g2) r2 q2)
  | false => exact ifn Bool.false_ne_true (k Hs1 H1 false s1 g1 r1 (by simpa using q1))
theorem simT_or {t u : TT} {a b : DB} (ha : SimT C t a) (hb : SimT C u b) : SimT C (tOr t u) (dOr a b) := by
  refine ⟨fun H0 S0 Hs σ H s Q Q' r q k => ha.run H0 S0 Hs σ H s _ _ r q fun Hs1 H1 c s1 g1 r1 q1 => ?_⟩
  cases c with
  | false => exact ifn Bool.false_ne_true (hb.run H0 S0 Hs1 σ H1 s1 _ _ r1 (by simpa using q1) fun Hs2 H2 c2 s2 g2 r2 q2 => k Hs2 H2 c2 s2 (g1.trans g2) r2 q2)
  | true => exact ifp rfl (k Hs1 H1 true s1 g1 r1 (by simpa using q1))
theorem simT_not {t : TT} {a : DB} (ha : SimT C t a) : SimT C (tNot t) (dNot a) :=
  ⟨fun H0 S0 Hs σ H s Q Q' r q k => ha.run H0 S0 Hs σ H s _ _ r q fun Hs1 H1 c s1 g1 r1 q1 => k Hs1 H1 (!c) s1 g1 r1 q1⟩
/-- as values -/
def dAndV (a b : DT) : DT := fun s Q => a s fun d s1 => match d with
  | .bool true => b s1 Q
  | .bool false => Q (.bool false) s1
  | _ => False
def dOrV (a b : DT) : DT := fun s Q => a s fun d s1 => match d with
  | .bool true => Q (.bool true) s1
  | .bool false => b s1 Q
  | _ => False
def dNotV (a : DT) : DT := fun s Q => a s fun d s1 => match d with
  | .bool b => Q (.bool (!b)) s1
  | _ => False
theorem sim_andV (ha : Sim C ca ta da) (hb : Sim C cb tb db) : Sim C .E (tAndV ta tb) (dAndV da db) := by
  refine ⟨fun H0 S0 Hs σ H s Q Q' r q k => ha.run H0 S0 Hs σ H s _ _ r q fun Hs1 H1 v d s1 g1 r1 v1 q1 => ?_⟩
  cases d <;> first | exact q1.elim | skip
  rename_i b
  cases v1.bool
  refine ⟨b, rfl, ?_⟩
  cases b with
  | true => exact ifp rfl (hb.toE.run H0 S0 Hs1 σ H1 s1 _ _ r1 q1 fun Hs2 H2 v d s2 g2 r2 v2 q2 => k Hs2 H2 v d s2 (g1.trans g2) r2 v2 q2)
  | false => exact ifn Bool.false_ne_true (k Hs1 H1 _ (.bool false) s1 g1 r1 (Rp.bl _) q1)
theorem sim_orV (ha : Sim C ca ta da) (hb : Sim C cb tb db) : Sim C .E (tOrV ta tb) (dOrV da db) := by
  refine ⟨fun H0 S0 Hs σ H s Q Q' r q k => ha.run H0 S0 Hs σ H s _ _ r q fun Hs1 H1 v d s1 g1 r1 v1 q1 => ?_⟩
  cases d <;> first | exact q1.elim | skip
  rename_i b
  cases v1.bool
  refine ⟨b, rfl, ?_⟩
  cases b with
  | false => exact ifn Bool.false_ne_true (hb.toE.run H0 S0 Hs1 σ H1 s1 _ _ r1 q1 fun Hs2 H2 v d s2 g2 r2 v2 q2 => k Hs2 H2 v d s2 (g1.trans g2) r2 v2 q2)
  | true => exact ifp rfl (k Hs1 H1 _ (.bool true) s1 g1 r1 (Rp.bl _) q1)
theorem sim_notV (ha : Sim C ca ta da) : Sim C .F (tNotV ta) (dNotV da) := by
  refine ⟨fun H0 S0 Hs σ H s Q Q' r q k => ha.run H0 S0 Hs σ H s _ _ r q fun Hs1 H1 v d s1 g1 r1 v1 q1 => ?_⟩
  cases d <;> first | exact q1.elim | skip
  rename_i b
  cases v1.bool
  exact ⟨b, rfl, k Hs1 H1 _ (.bool (!b)) s1 g1 r1 (Val.mkP (Rp.bl _) rfl) q1⟩
def dIf (c : DB) (a b : DT) : DT := fun s Q => c s fun k s1 => if k = true then a s1 Q else b s1 Q
theorem sim_if {tt : TT} {c : DB} {cat : Cat} (hc : SimT C tt c) (ha : Sim C cat ta da) (hb : Sim C cat tb db) : Sim C cat (tIf tt ta tb) (dIf c da db) := by
  refine ⟨fun H0 S0 Hs σ H s Q Q' r q k => hc.run H0 S0 Hs σ H s _ _ r q fun Hs1 H1 c s1 g1 r1 q1 => ?_⟩
  cases c with
  | true => exact ifp rfl (ha.run H0 S0 Hs1 σ H1 s1 _ _ r1 (by simpa using q1) fun Hs2 H2 v d s2 g2 r2 v2 q2 => k Hs2 H2 v d s2 (g1.trans g2) r2 (v2.anew fun a e => g1.back a e) q2)
  | false => exact ifn Bool.false_ne_true (hb.run H0 S0 Hs1 σ H1 s1 _ _ r1 (by simpa using q1) fun Hs2 H2 v d s2 g2 r2 v2 q2 => k Hs2 H2 v d s2 (g1.trans g2) r2 (v2.anew fun a e => g1.back a e) q2)
/-- a < b < c -/
def dChain (f g : DO) (a b c : DT) : DT := fun s Q => a s fun x s1 => b s1 fun y s2 => f x y fun z => match z with
  | .bool true => c s2 fun w s3 => g y w fun z => Q z s3
  | .bool false => Q (.bool false) s2
  | _ => False
theorem sim_chain {r r' : R2} {f g : DO} (hf : OpA C r f) (hg : OpA C r' g) (ha : Sim C ca ta da) (hb : Sim C cb tb db) (hc : Sim C cc tc dc) : Sim C .F (tChain r r' ta tb tc) (dChain f g da db dc) := by
  refine ⟨fun H0 S0 Hs σ H s Q Q' r0 q k => ha.run H0 S0 Hs σ H s _ _ r0 q fun Hs1 H1 x dx s1 g1 r1 v1 q1 => hb.run H0 S0 Hs1 σ H1 s1 _ _ r1 q1 fun Hs2 H2 y dy s2 g2 r2 v2 q2 => ?_⟩
  refine hf H0 S0 Hs2 σ H2 s2 x y dx dy _ _ r2 ((v1.go r1 g2).rd r2.sub) (v2.rd r2.sub) q2 fun Hs3 H3 v d g3 r3 v3 q3 => ?_
  cases d <;> first | exact q3.elim | skip
  rename_i b
  cases v3.bool
  refine ⟨b, rfl, ?_⟩
  have g123 := g1.trans (g2.trans g3)
  cases b with
  | true =>
    refine ifp rfl (hc.run H0 S0 Hs3 σ H3 s2 _ _ r3 q3 fun Hs4 H4 w dw s4 g4 r4 v4 q4 => ?_)
    refine hg H0 S0 Hs4 σ H4 s4 y w dy dw _ _ r4 (((v2.go r2 g3).go r3 g4).rd r4.sub) (v4.rd r4.sub) q4 fun Hs5 H5 v d g5 r5 v5 q5 => ?_
    exact k Hs5 H5 v d s4 (g123.trans (g4.trans g5)) r5 (v5.anew fun a e => (g123.trans g4).back a e) q5
  | false => exact ifn Bool.false_ne_true (k Hs3 H3 _ (.bool false) s2 g123 r3 (Val.mkP (Rp.bl _) rfl) q3)
/-! calls of built-ins -/
abbrev DF := List D → (D → Prop) → Prop
def RdAll (K : PySem.W.Frag) (Hs H : Hp) : List V → List D → Prop
  | [], [] => True
  | v :: vs, d :: ds => Rd' K Hs H v d ∧ RdAll K Hs H vs ds
  | _, _ => False
theorem RpAll.rd {K : PySem.W.Frag} {Hs H : Hp} (sub : Same Hs H) : ∀ {vs : List V} {ds : List D}, RpAll K Hs vs ds → RdAll K Hs H vs ds
  | _, _, .nil => True.intro
  | _, _, .cons a b => ⟨a.rd sub, RpAll.rd sub b⟩
def CaA (C : Cf) (r : List V → Hp → VK → Prop) (f : DF) : Prop := ∀ (H0 S0 Hs : Hp) (σ : L2.St) (H : Hp) (s : S) (vs : List V) (ds : List D) (Q : D → Prop) (Q' : VK), R C H0 S0 Hs σ H s → RdAll C.K Hs H vs ds → f ds Q →
  (∀ Hs' H' v d, Go C σ Hs H Hs' H' → R C H0 S0 Hs' σ H' s → Val C H0 H Hs' σ H' .F v d → Q d → Q' v H') → r vs H Q'
def dCB (f : DF) (a : DA) : DT := fun s Q => a s fun ds s1 => f ds fun z => Q z s1
theorem sim_cb {n : Nat} {r : List V → Hp → VK → Prop} {f : DF} {t : TA} {a : DA} (hf : CaA C r f) (h : SimA C n t a) : Sim C .F (tCB r t) (dCB f a) := by
  refine ⟨fun H0 S0 Hs σ H s Q Q' r0 q k => h.run H0 S0 Hs σ H s _ _ r0 q fun Hs1 H1 vs ds s1 g1 r1 v1 _ q1 => ?_⟩
  exact hf H0 S0 Hs1 σ H1 s1 vs ds _ _ r1 (v1.rd r1.sub) q1 fun Hs2 H2 v d g2 r2 v2 q2 => k Hs2 H2 v d s1 (g1.trans g2) r2 (v2.anew fun a e => g1.back a e) q2
/-- of one list of the def's own -/
def dCBM (f : DF) (i : Nat) : DT := fun s Q => match s.δ[i]? with
  | some (some d) => f [d] fun z => Q z s
  | _ => False
theorem sim_cbM {r : List V → Hp → VK → Prop} {f : DF} (i : Nat) (hi : i ∈ C.M) (hf : CaA C r f) : Sim C .F (tCB r (tCons (tVar i) tNil)) (dCBM f i) := by
  refine ⟨fun H0 S0 Hs σ H s Q Q' r0 q k => ?_⟩
  unfold dCBM at q
  split at q
  · rename_i d e
    obtain ⟨v, e1, rd⟩ := r0.rdM hi e
    exact ⟨v, e1, hf H0 S0 Hs σ H s [v] [d] _ _ r0 ⟨rd, True.intro⟩ q fun Hs2 H2 v d g2 r2 v2 q2 => k Hs2 H2 v d s g2 r2 v2 q2⟩
  · exact q.elim
def lenD : DF := fun ds Q => match ds with
  | [d] => (match d with
    | .list xs => Q (.int xs.length)
    | .tuple xs => Q (.int xs.length)
    | .str x => x.length ≤ sizeLine ∧ Q (.int x.length)
    | _ => False)
  | _ => False
def rLenG (K : PySem.W.Frag) : List V → Hp → VK → Prop := fun xs H Q => rLenQ K xs H Q ∨ ∃ z, xs = [.str z] ∧ z.length ≤ sizeLine ∧ Q (.int z.length) H
theorem CallR.or {X : Cx} {f : Value} {r r' : List V → Hp → VK → Prop} (h : CallR X f r) (h' : CallR X f r') : CallR X f (fun xs H Q => r xs H Q ∨ r' xs H Q) := by
  intro pins s σ H xs us Q I rv q
  rcases q with q | q
  · exact h pins s σ H xs us Q I rv q
  · exact h' pins s σ H xs us Q I rv q
theorem lenG {X : Cx} (K : PySem.W.Frag) (eK : X.K = K) : CallR X (.builtin "len") (rLenG K) := CallR.or (lenQ K eK) call_len_str
theorem caA_len : CaA C (rLenG C.K) lenD := by
  intro H0 S0 Hs σ H s vs ds Q Q' r hd q k
  match vs, ds, hd with
  | [v], [d], ⟨h, _⟩ =>
    cases d <;> first | exact q.elim | skip
    case list xs =>
      obtain ⟨a, ys, rfl, e1, e2⟩ := Rd'.list h
      exact .inl ⟨a, ys, rfl, .inl (SqL.of e1), k Hs H _ (.int (xs.length : Nat)) Go.refl r (Val.mkP (by rw [e2.len]; exact Rp.int _) rfl) q⟩
    case tuple xs =>
      cases h with
      | @tup a ys _ e1 e2 => exact .inl ⟨a, ys, rfl, .inr (Same.sqT r.sub e1), k Hs H _ (.int (xs.length : Nat)) Go.refl r (Val.mkP (by rw [e2.len]; exact Rp.int _) rfl) q⟩
    case str x =>
      cases h
      exact .inr ⟨x, rfl, q.1, k Hs H _ (.int (x.length : Nat)) Go.refl r (Val.mkP (Rp.int _) rfl) q.2⟩
  | [], [], _ => exact q.elim
  | _ :: _ :: _, _ :: _ :: _, _ => exact q.elim
def listD : DF := fun ds Q => match ds with
  | [d] => (match d with
    | .list xs => Q (.list xs)
    | .tuple xs => Q (.list xs)
    | _ => False)
  | _ => False
theorem caA_list : CaA C (rListQ C.K) listD := by
  intro H0 S0 Hs σ H s vs ds Q Q' r hd q k
  match vs, ds, hd with
  | [v], [d], ⟨h, _⟩ =>
    cases d <;> first | exact q.elim | skip
    case list xs =>
      obtain ⟨a, ys, rfl, e1, e2⟩ := Rd'.list h
      exact ⟨a, ys, rfl, .inl (SqL.of e1), fun p np => k Hs _ _ (.list xs) (Go.laid np) (r.laid np) (r.newList np e2) q⟩
    case tuple xs =>
      cases h with
      | @tup a ys _ e1 e2 => exact ⟨a, ys, rfl, .inr (Same.sqT r.sub e1), fun p np => k Hs _ _ (.list xs) (Go.laid np) (r.laid np) (r.newList np e2) q⟩
  | [], [], _ => exact q.elim
  | _ :: _ :: _, _ :: _ :: _, _ => exact q.elim
def tupD : DF := fun ds Q => match ds with
  | [d] => (match d with
    | .list xs => Q (.tuple xs)
    | .tuple xs => Q (.tuple xs)
    | _ => False)
  | _ => False
theorem caA_tup : CaA C (rTupQ C.K) tupD := by
  intro H0 S0 Hs σ H s vs ds Q Q' r hd q k
  match vs, ds, hd with
  | [v], [d], ⟨h, _⟩ =>
    cases d <;> first | exact q.elim | skip
    case list xs =>
      obtain ⟨a, ys, rfl, e1, e2⟩ := Rd'.list h
      refine ⟨a, ys, rfl, .inl ⟨SqL.of e1, fun p np => ?_⟩⟩
      obtain ⟨r', g'⟩ := r.newTup (o := .tup ys) np
      exact k _ _ _ (.tuple xs) g' r' (Val.mkP (Rp.tup (SqT.of upd_same) (RpAll.mono g'.st e2)) rfl) q
    case tuple xs =>
      cases h with
      | @tup a ys _ e1 e2 => exact ⟨a, ys, rfl, .inr ⟨Same.sqT r.sub e1, k Hs H _ (.tuple xs) Go.refl r (Val.mkP (Rp.tup e1 e2) rfl) q⟩⟩
  | [], [], _ => exact q.elim
  | _ :: _ :: _, _ :: _ :: _, _ => exact q.elim
def strD : DF := fun ds Q => match ds with
  | [d] => (match d with
    | .int i => i.natAbs.log2 < 1920 ∧ Q (.str (toString i))
    | _ => False)
  | _ => False
theorem caA_str : CaA C (fun xs H Q => ∃ i, xs = [.int i] ∧ i.natAbs.log2 < 1920 ∧ Q (.str (toString i)) H) strD := by
  intro H0 S0 Hs σ H s vs ds Q Q' r hd q k
  match vs, ds, hd with
  | [v], [d], ⟨h, _⟩ =>
    cases d <;> first | exact q.elim | skip
    cases h
    exact ⟨_, rfl, q.1, k Hs H _ (.str _) Go.refl r (Val.mkP (Rp.str _) rfl) q.2⟩
  | [], [], _ => exact q.elim
  | _ :: _ :: _, _ :: _ :: _, _ => exact q.elim
def intD : DF := fun ds Q => match ds with
  | [d] => (match d with
    | .int i => Q (.int i)
    | .bool b => Q (.int (if b then 1 else 0))
    | _ => False)
  | _ => False
theorem caA_int : CaA C (fun xs H Q => (∃ i, xs = [.int i] ∧ Q (.int i) H) ∨ ∃ k, xs = [.bl k] ∧ Q (.int (if k then 1 else 0)) H) intD := by
  intro H0 S0 Hs σ H s vs ds Q Q' r hd q k
  match vs, ds, hd with
  | [v], [d], ⟨h, _⟩ =>
    cases d <;> first | exact q.elim | skip
    case int i => cases h; exact .inl ⟨i, rfl, k Hs H _ (.int i) Go.refl r (Val.mkP (Rp.int _) rfl) q⟩
    case bool b => cases h; exact .inr ⟨b, rfl, k Hs H _ (.int _) Go.refl r (Val.mkP (Rp.int _) rfl) q⟩
  | [], [], _ => exact q.elim
  | _ :: _ :: _, _ :: _ :: _, _ => exact q.elim
def minD : DF := fun ds Q => match ds with
  | [d, e] => (match d, e with
    | .int i, .int j => Q (.int (if j < i then j else i))
    | _, _ => False)
  | _ => False
def maxD : DF := fun ds Q => match ds with
  | [d, e] => (match d, e with
    | .int i, .int j => Q (.int (if j > i then j else i))
    | _, _ => False)
  | _ => False
theorem caA_min : CaA C (fun xs H Q => ∃ i j, xs = [.int i, .int j] ∧ Q (.int (if j < i then j else i)) H) minD := by
  intro H0 S0 Hs σ H s vs ds Q Q' r hd q k
  match vs, ds, hd with
  | [v, w], [d, e], ⟨h, h', _⟩ =>
    cases d <;> cases e <;> first | exact q.elim | skip
    cases h; cases h'
    exact ⟨_, _, rfl, k Hs H _ (.int _) Go.refl r (Val.mkP (Rp.int _) rfl) q⟩
  | [], [], _ => exact q.elim
  | [_], [_], _ => exact q.elim
  | _ :: _ :: _ :: _, _ :: _ :: _ :: _, _ => exact q.elim
theorem caA_max : CaA C (fun xs H Q => ∃ i j, xs = [.int i, .int j] ∧ Q (.int (if j > i then j else i)) H) maxD := by
  intro H0 S0 Hs σ H s vs ds Q Q' r hd q k
  match vs, ds, hd with
  | [v, w], [d, e], ⟨h, h', _⟩ =>
    cases d <;> cases e <;> first | exact q.elim | skip
    cases h; cases h'
    exact ⟨_, _, rfl, k Hs H _ (.int _) Go.refl r (Val.mkP (Rp.int _) rfl) q⟩
  | [], [], _ => exact q.elim
  | [_], [_], _ => exact q.elim
  | _ :: _ :: _ :: _, _ :: _ :: _ :: _, _ => exact q.elim
/-- lists of ints, of truths -/
def intsOf : List D → Option (List Int)
  | [] => some []
  | .int i :: r => (intsOf r).map (i :: ·)
  | _ :: _ => none
def boolsOf : List D → Option (List Bool)
  | [] => some []
  | .bool i :: r => (boolsOf r).map (i :: ·)
  | _ :: _ => none
theorem ints_rp {K : PySem.W.Frag} {H : Hp} : ∀ {xs : List V} {ds : List D} {ns : List Int}, RpAll K H xs ds → intsOf ds = some ns → xs = ns.map V.int
  | _, _, _, .nil, e => by cases e; rfl
  | _, _, _, .cons (d := d) (ds := ds) a b, e => by
    cases d <;> first | (exfalso; have e' : (none : Option (List Int)) = some _ := e; cases e'; done) | skip
    cases a
    simp only [intsOf, Option.map_eq_some_iff] at e
    obtain ⟨ms, e1, rfl⟩ := e
    rw [ints_rp b e1]
    rfl
theorem bools_rp {K : PySem.W.Frag} {H : Hp} : ∀ {xs : List V} {ds : List D} {ns : List Bool}, RpAll K H xs ds → boolsOf ds = some ns → xs = ns.map V.bl
  | _, _, _, .nil, e => by cases e; rfl
  | _, _, _, .cons (d := d) (ds := ds) a b, e => by
    cases d <;> first | (exfalso; have e' : (none : Option (List Bool)) = some _ := e; cases e'; done) | skip
    cases a
    simp only [boolsOf, Option.map_eq_some_iff] at e
    obtain ⟨ms, e1, rfl⟩ := e
    rw [bools_rp b e1]
    rfl
def sumD : DF := fun ds Q => match ds with
  | [d] => (match d with
    | .list xs => ∃ ns, intsOf xs = some ns ∧ Q (.int ns.sum)
    | _ => False)
  | _ => False
def allD : DF := fun ds Q => match ds with
  | [d] => (match d with
    | .list xs => ∃ ns, boolsOf xs = some ns ∧ Q (.bool (ns.all id))
    | _ => False)
  | _ => False
def anyD : DF := fun ds Q => match ds with
  | [d] => (match d with
    | .list xs => ∃ ns, boolsOf xs = some ns ∧ Q (.bool (ns.any id))
    | _ => False)
  | _ => False
theorem caA_sum : CaA C (rSum C.K) sumD := by
  intro H0 S0 Hs σ H s vs ds Q Q' r hd q k
  match vs, ds, hd with
  | [v], [d], ⟨h, _⟩ =>
    cases d <;> first | exact q.elim | skip
    obtain ⟨a, ys, rfl, e1, e2⟩ := Rd'.list h
    obtain ⟨ns, e3, q⟩ := q
    rw [ints_rp e2 e3] at e1
    exact ⟨a, ns, rfl, SqL.of e1, k Hs H _ (.int _) Go.refl r (Val.mkP (Rp.int _) rfl) q⟩
  | [], [], _ => exact q.elim
  | _ :: _ :: _, _ :: _ :: _, _ => exact q.elim
theorem caA_all : CaA C (rAll C.K) allD := by
  intro H0 S0 Hs σ H s vs ds Q Q' r hd q k
  match vs, ds, hd with
  | [v], [d], ⟨h, _⟩ =>
    cases d <;> first | exact q.elim | skip
    obtain ⟨a, ys, rfl, e1, e2⟩ := Rd'.list h
    obtain ⟨ns, e3, q⟩ := q
    rw [bools_rp e2 e3] at e1
    exact ⟨a, ns, rfl, SqL.of e1, k Hs H _ (.bool _) Go.refl r (Val.mkP (Rp.bl _) rfl) q⟩
  | [], [], _ => exact q.elim
  | _ :: _ :: _, _ :: _ :: _, _ => exact q.elim
theorem caA_any : CaA C (rAny C.K) anyD := by
  intro H0 S0 Hs σ H s vs ds Q Q' r hd q k
  match vs, ds, hd with
  | [v], [d], ⟨h, _⟩ =>
    cases d <;> first | exact q.elim | skip
    obtain ⟨a, ys, rfl, e1, e2⟩ := Rd'.list h
    obtain ⟨ns, e3, q⟩ := q
    rw [bools_rp e2 e3] at e1
    exact ⟨a, ns, rfl, SqL.of e1, k Hs H _ (.bool _) Go.refl r (Val.mkP (Rp.bl _) rfl) q⟩
  | [], [], _ => exact q.elim
  | _ :: _ :: _, _ :: _ :: _, _ => exact q.elim
/-! isinstance -/
theorem tyD_rd {K : PySem.W.Frag} {Hs H : Hp} {x : V} {d : D} (h : Rd' K Hs H x d) (sub : Same Hs H) : TyX K H x (.type (tyD d)) := by
  cases d with
  | list ds => obtain ⟨a, xs, rfl, e, _⟩ := Rd'.list h; exact .base (.lst e)
  | none => cases h; exact .base .non
  | bool b => cases h; exact .base (.bl b)
  | int b => cases h; exact .base (.int b)
  | str b => cases h; exact .base (.str b)
  | tuple b => cases h with | tup q a => exact tyX_tup (Same.sqT sub q)
  | dict b => obtain ⟨a, xs, rfl, e, _⟩ := Rd'.dict h; exact .base (.dK e)
def dIsi (c : Cl) (a : DT) : DT := fun s Q => a s fun d s1 => Q (.bool (isB c d)) s1
theorem sim_isi (c : Cl) (h : Sim C ca te t) : Sim C .F (tCB (rIsi C.K) (tCons te (tCons (tC (.ty c.name)) tNil))) (dIsi c t) := by
  refine ⟨fun H0 S0 Hs σ H s Q Q' r q k => h.run H0 S0 Hs σ H s _ _ r q fun Hs1 H1 v d s1 g1 r1 v1 q1 => ?_⟩
  exact ⟨v, _, _, _, _, rfl, .ty _, tyD_rd (v1.rd r1.sub) r1.sub, kit_ty (kitB_nn c d), k Hs1 H1 _ (.bool _) s1 g1 r1 (Val.mkP (Rp.bl _) rfl) q1⟩
def dIsiM (c : Cl) (i : Nat) : DT := fun s Q => match s.δ[i]? with
  | some (some d) => Q (.bool (isB c d)) s
  | _ => False
theorem sim_isiM (c : Cl) (i : Nat) (hi : i ∈ C.M) : Sim C .F (tCB (rIsi C.K) (tCons (tVar i) (tCons (tC (.ty c.name)) tNil))) (dIsiM c i) := by
  refine ⟨fun H0 S0 Hs σ H s Q Q' r q k => ?_⟩
  unfold dIsiM at q
  split at q
  · rename_i d e
    obtain ⟨v, e1, rd⟩ := r.rdM hi e
    exact ⟨v, e1, v, _, _, _, _, rfl, .ty _, tyD_rd rd r.sub, kit_ty (kitB_nn c d), k Hs H _ (.bool _) s Go.refl r (Val.mkP (Rp.bl _) rfl) q⟩
  · exact q.elim
def isAny (cs : List Cl) (d : D) : Bool := cs.any fun c => isB c d
theorem kitAny_of {K : PySem.W.Frag} (d : D) : ∀ cs : List Cl, cs ≠ [] → PySem.W.kitAny K (.type (tyD d)) (cs.map fun c => Value.type c.name) = some (isAny cs d)
  | [], h => absurd rfl h
  | [c], _ => by
    refine kitAny_cons (kit_ty (kitB_nn c d)) (fun e => ?_) (fun e => ?_)
    · unfold isAny; rw [List.any_cons, e]; rfl
    · unfold isAny; rw [List.any_cons, e]; rfl
  | c :: c' :: cs, _ => by
    refine kitAny_cons (kit_ty (kitB_nn c d)) (fun e => ?_) (fun e => ?_)
    · unfold isAny; rw [List.any_cons, e, Bool.false_or]; exact kitAny_of d (c' :: cs) (by simp)
    · unfold isAny; rw [List.any_cons, e]; rfl
def dIsiT (cs : List Cl) (a : DT) : DT := fun s Q => a s fun d s1 => Q (.bool (isAny cs d)) s1
theorem clsV_all : ∀ cs : List Cl, Paired ClsV (cs.map fun c => V.ty c.name) (cs.map fun c => Value.type c.name)
  | [] => .nil
  | c :: cs => .cons (.ty _) (clsV_all cs)
theorem sim_isiT2 (c1 c2 : Cl) (h : Sim C ca te t) : Sim C .F (tCB (rIsiT C.K) (tCons te (tCons (tTup (tCons (tC (.ty c1.name)) (tCons (tC (.ty c2.name)) tNil))) tNil))) (dIsiT [c1, c2] t) := by
  refine ⟨fun H0 S0 Hs σ H s Q Q' r q k => h.run H0 S0 Hs σ H s _ _ r q fun Hs1 H1 v d s1 g1 r1 v1 q1 => ?_⟩
  refine ⟨by show 2 ≤ sizeLine; decide, fun p np => ?_⟩
  have r2 := r1.laid (o := .tup [.ty c1.name, .ty c2.name]) np
  have g2 : Go C σ Hs1 H1 Hs1 (upd H1 p (.tup [.ty c1.name, .ty c2.name])) := Go.laid np
  exact ⟨v, p, _, _, _, _, rfl, upd_same, clsV_all [c1, c2], tyD_rd ((v1.go r1 g2).rd r2.sub) r2.sub, kitAny_of d [c1, c2] (by simp), k Hs1 _ _ (.bool _) s1 (g1.trans g2) r2 (Val.mkP (Rp.bl _) rfl) q1⟩
end

/-! ### calls of defs -/
/-- a result: E it lies in the still part; F a list is new and outside of it -/
def RV (K : PySem.W.Frag) (H0 Hs H : Hp) : Cat → V → D → Prop
  | .E, v, d => Rp K Hs v d
  | .F, v, d => if isC d = true then ∃ a o, v = .ref a ∧ H a = some o ∧ Hs a = none ∧ H0 a = none ∧ Cn K Hs o d else Rp K Hs v d
def spN (K : PySem.W.Frag) (n : Nat) (cat : Cat) (F : DF) : Sp := fun vs H Q _ => ∃ Hs ds Q0, Same Hs H ∧ RpAll K Hs vs ds ∧ ds.length = n ∧ F ds Q0 ∧
  ∀ d Hs' H' v, Q0 d → Same Hs Hs' → Same Hs' H' → Same H H' → (∀ b, Hs b = none → Hs' b ≠ none → H b = none) → RV K H Hs' H' cat v d → Q v H'
abbrev DFP := List D → Nat → (D → Nat → Prop) → Prop
def spP (K : PySem.W.Frag) (n : Nat) (cat : Cat) (F : DFP) : Sp := fun vs H Q _ => ∃ Hs p c k vs' ds Q0, vs = .ref p :: vs' ∧ Pen H p c k ∧ Hs p = none ∧ Same Hs H ∧ RpAll K Hs vs' ds ∧ ds.length = n ∧ F ds k Q0 ∧
  ∀ d k' Hs' H' v, Q0 d k' → Same Hs Hs' → Same Hs' H' → But p H H' → (∀ b, Hs b = none → Hs' b ≠ none → H b = none) → Hs' p = none → Pen H' p c k' → RV K H Hs' H' cat v d → Q v H'
section
variable {C : Cf} {σ : L2.St} {H0 S0 Hs H Hs' H' : Hp} {s : S}
theorem none_of_new {b : Addr} {o : HO} (nw : ∀ b, Hs b = none → Hs' b ≠ none → H b = none) (h : Hs b = none) (e : H b = some o) : Hs' b = none := by
  cases q : Hs' b with
  | none => rfl
  | some x =>
    have := nw b h (by rw [q]; exact fun z => nomatch z)
    rw [e] at this; cases this
theorem R.step (r : R C H0 S0 Hs σ H s) (st : Same Hs Hs') (sb : Same Hs' H') (hh : Same H H') (nw : ∀ b, Hs b = none → Hs' b ≠ none → H b = none) : R C H0 S0 Hs' σ H' s ∧ Go C σ Hs H Hs' H' := by
  refine ⟨⟨r.len, sb, fun i d e m => ?_, fun i d e m => ?_, r.dead, r.sep, fun p c e => ?_, r.br, r.s0.trans st, fun b o n e => hh _ _ (r.h0 b o n e), fun b e1 e2 => ?_⟩, st, fun b o e _ _ => hh _ _ e, fun b o e => ⟨o, hh _ _ e⟩, nw⟩
  · obtain ⟨v, e1, e2⟩ := r.slot i d e m
    exact ⟨v, e1, Rp.mono st e2⟩
  · obtain ⟨a, u, e2, e3, e4, e5, e6⟩ := r.mt i d e m
    exact ⟨a, u, e2, hh _ _ e3, none_of_new nw e4 e3, e5.mono st, e6⟩
  · obtain ⟨e1, e2, e3, e4⟩ := r.pn p c e
    obtain ⟨_, _, e5, _⟩ := e2.pen
    exact ⟨e1, e2.same hh, none_of_new nw e3 e5, e4⟩
  · cases q : Hs b with
    | some o => exact r.new b e1 (by rw [q]; exact fun z => nomatch z)
    | none => exact (r.free0 (nw b q e2)).1
theorem R.stepP {p c : Addr} {k : Nat} (r : R C H0 S0 Hs σ H s) (hp : C.pen = some (p, c)) (st : Same Hs Hs') (sb : Same Hs' H') (hh : But p H H') (nw : ∀ b, Hs b = none → Hs' b ≠ none → H b = none) (np : Hs' p = none) (pe : Pen H' p c k) :
    R C H0 S0 Hs' σ H' { s with n := k } ∧ Go C σ Hs H Hs' H' := by
  have ip : ∀ b, ¬ IsPen C b → b ≠ p := fun b h e => h (.inl ⟨c, by rw [e]; exact hp⟩)
  refine ⟨⟨r.len, sb, fun i d e m => ?_, fun i d e m => ?_, r.dead, r.sep, fun p' c' e => ?_, r.br, r.s0.trans st, fun b o n e => hh _ _ (ip b n) (r.h0 b o n e), fun b e1 e2 => ?_⟩, st, fun b o e _ n => hh _ _ (ip b n) e, fun b o e => ?_, nw⟩
  · obtain ⟨v, e1, e2⟩ := r.slot i d e m
    exact ⟨v, e1, Rp.mono st e2⟩
  · obtain ⟨a, u, e2, e3, e4, e5, e6⟩ := r.mt i d e m
    have nap : a ≠ p := fun z => by
      subst z
      rcases e6 with e6 | e6
      · exact (r.pn a c hp).2.2.2.1 e6
      · exact (r.pn a c hp).2.2.2.2.2.2.2.1 e6
    exact ⟨a, u, e2, hh _ _ nap e3, none_of_new nw e4 e3, e5.mono st, e6⟩
  · rw [hp] at e
    cases e
    obtain ⟨e1, e2, e3, e4⟩ := r.pn p c hp
    exact ⟨e1, pe, np, e4⟩
  · cases q : Hs b with
    | some o => exact r.new b e1 (by rw [q]; exact fun z => nomatch z)
    | none => exact (r.free0 (nw b q e2)).1
  · by_cases z : b = p
    · subst z
      obtain ⟨_, _, e5, _⟩ := pe.pen
      exact ⟨_, e5⟩
    · exact ⟨o, hh _ _ z e⟩
theorem RV.val {cat : Cat} {v : V} {d : D} (h : RV C.K H Hs' H' cat v d) (r : R C H0 S0 Hs σ H s) : Val C H0 H Hs' σ H' cat v d := by
  cases cat with
  | E => exact h
  | F =>
    have h : (if isC d = true then ∃ a o, v = .ref a ∧ H' a = some o ∧ Hs' a = none ∧ H a = none ∧ Cn C.K Hs' o d else Rp C.K Hs' v d) := h
    cases e : isC d with
    | true =>
      rw [if_pos e] at h
      obtain ⟨a, o, rfl, e1, e2, e3, e4⟩ := h
      obtain ⟨f1, f2, f3, _⟩ := r.free0 e3
      exact Val.mkC ⟨o, e1, e2, f1, e3, e4, f3⟩
    | false =>
      rw [if_neg (by rw [e]; exact Bool.false_ne_true)] at h
      exact Val.mkP h e
def dCall (F : DF) (a : DA) : DT := fun s Q => a s fun ds s1 => F ds fun d => Q d s1
theorem sim_call {n : Nat} {cat : Cat} {F : DF} {ta : TA} {a : DA} (h : SimA C n ta a) : Sim C cat (tCall (spN C.K n cat F) [] E0 ta) (dCall F a) := by
  refine ⟨fun H0 S0 Hs σ H s Q Q' r q k => h.run H0 S0 Hs σ H s _ _ r q fun Hs1 H1 vs ds s1 g1 r1 v1 l1 q1 => ?_⟩
  rw [List.append_nil]
  refine ⟨Hs1, ds, _, r1.sub, v1, l1, q1, fun d Hs' H' v q2 st sb hh nw rv => ?_⟩
  obtain ⟨r2, g2⟩ := r1.step st sb hh nw
  exact k Hs' H' v d s1 (g1.trans g2) r2 ((rv.val r1).anew fun a e => g1.back a e) q2
def dCallP (F : DFP) (a : DA) : DT := fun s Q => a s fun ds s1 => F ds s1.n fun d k => Q d { s1 with n := k }
theorem sim_callP {n : Nat} {cat : Cat} {F : DFP} {ta : TA} {a : DA} {i : Nat} (hp : C.pen ≠ none) (hi : C.ps = i) (h : SimA C n ta a) : Sim C cat (tCall (spP C.K n cat F) [] E0 (tCons (tVar i) ta)) (dCallP F a) := by
  refine ⟨fun H0 S0 Hs σ H s Q Q' r q k => ?_⟩
  obtain ⟨⟨p, c⟩, ep⟩ : ∃ pc, C.pen = some pc := by
    cases e : C.pen with
    | none => exact absurd e hp
    | some pc => exact ⟨pc, rfl⟩
  subst hi
  refine ⟨.ref p, (r.pn p c ep).1, h.run H0 S0 Hs σ H s _ _ r q fun Hs1 H1 vs ds s1 g1 r1 v1 l1 q1 => ?_⟩
  show spP C.K n cat F ((V.ref p :: vs) ++ []) H1 Q' E0
  rw [List.append_nil]
  obtain ⟨e1, e2, e3, e4⟩ := r1.pn p c ep
  refine ⟨Hs1, p, c, s1.n, vs, ds, _, rfl, e2, e3, r1.sub, v1, l1, q1, fun d k' Hs' H' v q2 st sb hh nw np pe rv => ?_⟩
  obtain ⟨r2, g2⟩ := r1.stepP ep st sb hh nw np pe
  exact k Hs' H' v d _ (g1.trans g2) r2 ((rv.val r1).anew fun a e => g1.back a e) q2
end
/-! ### slices -/
def rSlG (K : PySem.W.Frag) : V → Option Int → Option Int → Hp → VK → Prop := fun x lo hi H Q => rSlL K x lo hi H Q ∨ rSlA K x lo hi H Q ∨ rSlS x lo hi H Q
theorem SlR.or {X : Cx} {r r' : V → Option Int → Option Int → Hp → VK → Prop} (h : SlR X r) (h' : SlR X r') : SlR X (fun x lo hi H Q => r x lo hi H Q ∨ r' x lo hi H Q) := by
  intro pins s σ H x v vl vu lo hi sl Q I rx hs pl pu q
  rcases q with q | q
  · exact h pins s σ H x v vl vu lo hi sl Q I rx hs pl pu q
  · exact h' pins s σ H x v vl vu lo hi sl Q I rx hs pl pu q
theorem slG {X : Cx} (K : PySem.W.Frag) (eK : X.K = K) : SlR X (rSlG K) := by
  subst eK
  exact SlR.or sl_list (SlR.or sl_tupA sl_str)
abbrev DOp := S → (Option Int → S → Prop) → Prop
structure SimO (C : Cf) (t : L2.St → Hp → (Option Int → Hp → Prop) → Prop) (d : DOp) : Prop where
  run : ∀ (H0 S0 Hs : Hp) (σ : L2.St) (H : Hp) (s : S) (Q : Option Int → S → Prop) (Q' : Option Int → Hp → Prop), R C H0 S0 Hs σ H s → d s Q →
    (∀ Hs' H' o s', Go C σ Hs H Hs' H' → R C H0 S0 Hs' σ H' s' → Q o s' → Q' o H') → t σ H Q'
def cutD (xs : List D) (lo hi : Option Int) : List D := (xs.drop (HT.sIx xs.length 0 lo)).take (HT.sIx xs.length xs.length hi - HT.sIx xs.length 0 lo)
def slD (x : D) (lo hi : Option Int) (Q : D → Prop) : Prop := match x with
  | .list ds => Q (.list (cutD ds lo hi))
  | .tuple ds => Q (.tuple (cutD ds lo hi))
  | .str z => z.length ≤ sizeLine ∧ Q (.str (cutS z lo hi))
  | _ => False
section
variable {C : Cf} {te ta tb : TE} {t da db : DT} {ca cb : Cat}
def dNoPart : DOp := fun s Q => Q none s
def dPart (a : DT) : DOp := fun s Q => a s fun d s1 => match d with
  | .int i => Q (some i) s1
  | _ => False
theorem simO_none : SimO C tNoPart dNoPart := ⟨fun H0 S0 Hs σ H s Q Q' r q k => k Hs H none s Go.refl r q⟩
theorem Val.int' {H0 Hst Hs : Hp} {σ : L2.St} {H : Hp} {v : V} {b : Int} {cat : Cat} (h : Val C H0 Hst Hs σ H cat v (.int b)) : v = .int b := by
  cases cat with
  | E => cases (show Rp C.K Hs v (.int b) from h); rfl
  | F => cases h.p rfl; rfl
theorem simO_some (h : Sim C ca te t) : SimO C (tPart te) (dPart t) := by
  refine ⟨fun H0 S0 Hs σ H s Q Q' r q k => h.run H0 S0 Hs σ H s _ _ r q fun Hs1 H1 v d s1 g1 r1 v1 q1 => ?_⟩
  cases d <;> first | exact q1.elim | skip
  rename_i b
  cases v1.int'
  exact ⟨b, rfl, k Hs1 H1 _ s1 g1 r1 q1⟩
theorem RpAll.cut {K : PySem.W.Frag} {H : Hp} {xs : List V} {ds : List D} (h : RpAll K H xs ds) (lo hi : Option Int) : RpAll K H (cutV xs lo hi) (cutD ds lo hi) := by
  unfold cutV cutD
  rw [h.len]
  exact (h.drop _).take _
theorem sl_run {H0 S0 Hs : Hp} {σ : L2.St} {H : Hp} {s : S} {x : V} {dx : D} {lo hi : Option Int} {Q : D → Prop} {Q' : VK} (r : R C H0 S0 Hs σ H s) (hx : Rd' C.K Hs H x dx) (q : slD dx lo hi Q)
    (k : ∀ Hs' H' v d, Go C σ Hs H Hs' H' → R C H0 S0 Hs' σ H' s → Val C H0 H Hs' σ H' .F v d → Q d → Q' v H') : rSlG C.K x lo hi H Q' := by
  cases dx <;> first | exact q.elim | skip
  case list ds =>
    obtain ⟨a, xs, rfl, e1, e2⟩ := Rd'.list hx
    exact .inl ⟨a, xs, rfl, SqL.of e1, fun p np => k Hs _ _ (.list (cutD ds lo hi)) (Go.laid np) (r.laid np) (r.newList np (e2.cut lo hi)) q⟩
  case tuple ds =>
    cases hx with
    | @tup a xs _ e1 e2 =>
    refine .inr (.inl ⟨a, xs, rfl, Same.sqT r.sub e1, fun z => ?_, fun z p np => ?_⟩)
    · refine k Hs H _ (.tuple (cutD ds lo hi)) Go.refl r (Val.mkP ?_ rfl) q
      have : cutD ds lo hi = ds := by
        unfold cutD
        rw [← e2.len, z.1, z.2, List.drop_zero, Nat.sub_zero, e2.len, List.take_length]
      rw [this]
      exact Rp.tup e1 e2
    · obtain ⟨r', g'⟩ := r.newTup (o := .tup (cutV xs lo hi)) np
      exact k _ _ _ (.tuple (cutD ds lo hi)) g' r' (Val.mkP (Rp.tup (SqT.of upd_same) (RpAll.mono g'.st (e2.cut lo hi))) rfl) q
  case str z =>
    cases hx
    exact .inr (.inr ⟨z, rfl, q.1, k Hs H _ (.str (cutS z lo hi)) Go.refl r (Val.mkP (Rp.str _) rfl) q.2⟩)
def dSl (a : DT) (l h : DOp) : DT := fun s Q => a s fun x s1 => l s1 fun lo s2 => h s2 fun hi s3 => slD x lo hi fun z => Q z s3
theorem sim_sl {tl th : L2.St → Hp → (Option Int → Hp → Prop) → Prop} {l h : DOp} (ha : Sim C ca ta da) (hl : SimO C tl l) (hh : SimO C th h) : Sim C .F (tSl (rSlG C.K) ta tl th) (dSl da l h) := by
  refine ⟨fun H0 S0 Hs σ H s Q Q' r q k => ha.run H0 S0 Hs σ H s _ _ r q fun Hs1 H1 x dx s1 g1 r1 v1 q1 => hl.run H0 S0 Hs1 σ H1 s1 _ _ r1 q1 fun Hs2 H2 lo s2 g2 r2 q2 => hh.run H0 S0 Hs2 σ H2 s2 _ _ r2 q2 fun Hs3 H3 hi s3 g3 r3 q3 => ?_⟩
  refine sl_run r3 (((v1.go r1 g2).go r2 g3).rd r3.sub) q3 fun Hs4 H4 v d g4 r4 v4 q4 => ?_
  exact k Hs4 H4 v d s3 (g1.trans (g2.trans (g3.trans g4))) r4 (v4.anew fun a e => (g1.trans (g2.trans g3)).back a e) q4
def dSlM (i : Nat) (l h : DOp) : DT := fun s Q => (∃ d, s.δ[i]? = some (some d)) ∧ l s fun lo s2 => h s2 fun hi s3 => match s3.δ[i]? with
  | some (some x) => slD x lo hi fun z => Q z s3
  | _ => False
theorem sim_slM {tl th : L2.St → Hp → (Option Int → Hp → Prop) → Prop} {l h : DOp} (i : Nat) (hi : i ∈ C.M) (hl : SimO C tl l) (hh : SimO C th h) : Sim C .F (tSl (rSlG C.K) (tVar i) tl th) (dSlM i l h) := by
  refine ⟨fun H0 S0 Hs σ H s Q Q' r q k => ?_⟩
  obtain ⟨⟨d, e⟩, q⟩ := q
  obtain ⟨v, e1, _⟩ := r.rdM hi e
  refine ⟨v, e1, hl.run H0 S0 Hs σ H s _ _ r q fun Hs2 H2 lo s2 g2 r2 q2 => hh.run H0 S0 Hs2 σ H2 s2 _ _ r2 q2 fun Hs3 H3 hi' s3 g3 r3 q3 => ?_⟩
  split at q3
  · rename_i x ex
    obtain ⟨v', e2, rd⟩ := r3.rdM hi ex
    rw [e1] at e2
    cases e2
    refine sl_run r3 rd q3 fun Hs4 H4 v d g4 r4 v4 q4 => ?_
    exact k Hs4 H4 v d s3 (g2.trans (g3.trans g4)) r4 (v4.anew fun a e => (g2.trans g3).back a e) q4
  · exact q3.elim
/-- xs[::-1] -/
def revD (x : D) (Q : D → Prop) : Prop := match x with
  | .list ds => Q (.list ds.reverse)
  | _ => False
def dRev (a : DT) : DT := fun s Q => a s fun x s1 => revD x fun z => Q z s1
theorem sim_rev (ha : Sim C ca ta da) : Sim C .F (tRevL C.K ta) (dRev da) := by
  refine ⟨fun H0 S0 Hs σ H s Q Q' r q k => ha.run H0 S0 Hs σ H s _ _ r q fun Hs1 H1 x dx s1 g1 r1 v1 q1 => ?_⟩
  have rd := v1.rd r1.sub
  cases dx <;> first | exact q1.elim | skip
  rename_i ds
  obtain ⟨a, xs, rfl, e1, e2⟩ := Rd'.list rd
  exact ⟨a, xs, rfl, SqL.of e1, fun p np => k Hs1 _ _ (.list ds.reverse) s1 (g1.trans (Go.laid np)) (r1.laid np) ((r1.newList np e2.rev).anew fun a e => g1.back a e) q1⟩
/-! ### lists of the def's own, changed in place -/
abbrev DM := List D → List D → (D → List D → Prop) → Prop
def MtA (C : Cf) (r : V → List V → Hp → VK → Prop) (f : DM) : Prop := ∀ (Hs H : Hp) (a : Addr) (xs : List V) (ds : List D) (vs : List V) (es : List D) (Q : D → List D → Prop) (Q' : VK), Same Hs H → H a = some (.lst xs) → RpAll C.K Hs xs ds → RpAll C.K Hs vs es → f ds es Q →
  (∀ v d xs' ds', RpAll C.K Hs xs' ds' → Rp C.K Hs v d → Q d ds' → Q' v (upd H a (.lst xs'))) → r (.ref a) vs H Q'
theorem R.upd {H0 S0 Hs : Hp} {σ : L2.St} {H : Hp} {s : S} {i : Nat} {a : Addr} {o' : HO} {d d' : D} (r : R C H0 S0 Hs σ H s) (hi : i ∈ C.M) (e : s.δ[i]? = some (some d)) (ea : σ[i]? = some (some (.ref a))) (h : Cn C.K Hs o' d') :
    R C H0 S0 Hs σ (L2.upd H a o') { s with δ := s.δ.set i (some d') } ∧ Go C σ Hs H Hs (L2.upd H a o') := by
  obtain ⟨a', u, e1, e2, e3, e4, e5⟩ := r.mt i d e hi
  rw [ea] at e1
  cases e1
  have il : i < s.δ.length := (List.getElem?_eq_some_iff.mp e).1
  have own : Own C σ a := ⟨i, hi, ea⟩
  have sm : ∀ b o, b ≠ a → H b = some o → L2.upd H a o' b = some o := fun b o n q => by rw [upd_ne n]; exact q
  refine ⟨⟨by simpa using r.len, fun b o q => ?_, fun j d' q m => ?_, fun j d' q m => ?_, fun j m q => ?_, r.sep, fun p c q => ?_, r.br, r.s0, fun b o n q => ?_, r.new⟩, Same.refl _, fun b o q n _ => ?_, fun b o q => ?_, fun _ h1 h2 => absurd h1 h2⟩
  · exact sm b o (fun z => by subst z; rw [e3] at q; cases q) (r.sub b o q)
  · have hj : j ≠ i := fun z => m (z ▸ hi)
    rw [List.getElem?_set_ne (Ne.symm hj)] at q
    exact r.slot j d' q m
  · by_cases hj : j = i
    · subst hj
      rw [List.getElem?_set_self il] at q
      cases q
      exact ⟨a, o', ea, upd_same, e3, h, e5⟩
    · rw [List.getElem?_set_ne (Ne.symm hj)] at q
      obtain ⟨b, w, f2, f3, f4⟩ := r.mt j d' q m
      refine ⟨b, w, f2, sm b _ (fun z => ?_) f3, f4⟩
      subst z
      exact hj (r.sep j i b m hi f2 ea)
  · by_cases hj : j = i
    · subst hj
      rw [List.getElem?_set_self il] at q
      cases q
    · rw [List.getElem?_set_ne (Ne.symm hj)] at q
      exact r.dead j m q
  · obtain ⟨f1, f2, f3, f4, f5, f6, f7, f8, f9⟩ := r.pn p c q
    refine ⟨f1, f2.but (q := a) (fun b o n q => sm b o n q) (fun z => ?_) (fun z => ?_), f3, f4, f5, ?_, f7, f8, f9⟩
    · subst z
      rcases e5 with e5 | e5
      · exact f4 e5
      · exact f8 e5
    · subst z
      rcases e5 with e5 | e5
      · exact f5 e5
      · exact f9 e5
    · rw [List.getElem?_set_ne (show i ≠ C.ps from fun z => f7 (by rw [← z]; exact hi))]
      exact f6
  · refine sm b o (fun z => ?_) (r.h0 b o n q)
    subst z
    rcases e5 with e5 | e5
    · rw [e5] at q; cases q
    · exact n (.inr e5)
  · exact sm b o (fun z => n (by rw [z]; exact own)) q
  · by_cases z : b = a
    · exact ⟨_, by rw [z]; exact upd_same⟩
    · exact ⟨o, sm b o z q⟩
def dMt (f : DM) (i : Nat) (a : DA) : DT := fun s Q => (∃ d, s.δ[i]? = some (some (.list d))) ∧ a s fun es s1 => match s1.δ[i]? with
  | some (some (.list ds)) => f ds es fun d ds' => Q d { s1 with δ := s1.δ.set i (some (.list ds')) }
  | _ => False
theorem R.mtL {H0 S0 Hs : Hp} {σ : L2.St} {H : Hp} {s : S} {i : Nat} {ds : List D} (r : R C H0 S0 Hs σ H s) (hi : i ∈ C.M) (e : s.δ[i]? = some (some (.list ds))) : ∃ a xs, σ[i]? = some (some (.ref a)) ∧ H a = some (.lst xs) := by
  obtain ⟨a, o, e1, e2, _, c, _⟩ := r.mt i _ e hi
  cases c
  exact ⟨a, _, e1, e2⟩
theorem sim_mt {n : Nat} {r : V → List V → Hp → VK → Prop} {f : DM} {ta : TA} {a : DA} (i : Nat) (hi : i ∈ C.M) (hf : MtA C r f) (ha : SimA C n ta a) : Sim C .E (tBM C.K "list" r (tVar i) ta) (dMt f i a) := by
  refine ⟨fun H0 S0 Hs σ H s Q Q' r0 q k => ?_⟩
  obtain ⟨⟨d, e⟩, q⟩ := q
  obtain ⟨b, xs, e1, e2⟩ := r0.mtL hi e
  refine ⟨_, e1, .inl ⟨rfl, xs, SqL.of e2⟩, ha.run H0 S0 Hs σ H s _ _ r0 q fun Hs1 H1 vs es s1 g1 r1 v1 _ q1 => ?_⟩
  split at q1
  · rename_i ds1 ex
    obtain ⟨b', o1, e4, e5, e6, e7, _⟩ := r1.mt i _ ex hi
    rw [e1] at e4
    cases e4
    cases e7
    rename_i xs1 e7
    refine hf Hs1 H1 b xs1 ds1 vs es _ _ r1.sub e5 e7 v1 q1 fun v d xs' ds' h1 h2 q2 => ?_
    obtain ⟨r2, g2⟩ := r1.upd hi ex e1 (.lst h1)
    exact k Hs1 _ v d _ (g1.trans g2) r2 h2 q2
  · exact q1.elim
theorem sim_mt0 {r : V → List V → Hp → VK → Prop} {f : DM} (i : Nat) (hi : i ∈ C.M) (hf : MtA C r f) : Sim C .E (tBM0 C.K "list" r (tVar i)) (dMt f i dNil) := by
  refine ⟨fun H0 S0 Hs σ H s Q Q' r0 q k => ?_⟩
  obtain ⟨⟨d, e⟩, q⟩ := q
  obtain ⟨b, o, e1, e2, e3, e4, _⟩ := r0.mt i _ e hi
  cases e4
  rename_i xs e4
  refine ⟨_, e1, .inl ⟨rfl, xs, SqL.of e2⟩, ?_⟩
  have q : (match s.δ[i]? with | some (some (.list ds)) => f ds [] fun d ds' => Q d { s with δ := s.δ.set i (some (.list ds')) } | _ => False) := q
  rw [e] at q
  refine hf Hs H b xs d [] [] _ _ r0.sub e2 e4 .nil q fun v d xs' ds' h1 h2 q2 => ?_
  obtain ⟨r2, g2⟩ := r0.upd hi e e1 (.lst h1)
  exact k Hs _ v d _ g2 r2 h2 q2
def appM : DM := fun ds es Q => match es with
  | [e] => ds.length < sizeLine ∧ Q .none (ds ++ [e])
  | _ => False
theorem mtA_app : MtA C rAppend appM := by
  intro Hs H a xs ds vs es Q Q' sub h1 h2 h3 q k
  match vs, es, h3 with
  | [v], [e], .cons h4 .nil => exact ⟨a, xs, v, rfl, rfl, h1, by rw [h2.len]; exact q.1, k _ .none _ _ (h2.app (.cons h4 .nil)) .non q.2⟩
  | [], [], _ => exact q.elim
  | _ :: _ :: _, _ :: _ :: _, _ => exact q.elim
def extM : DM := fun ds es Q => match es with
  | [e] => (match e with
    | .list zs => ds.length + zs.length ≤ sizeLine ∧ Q .none (ds ++ zs)
    | _ => False)
  | _ => False
theorem mtA_ext : MtA C rExtend extM := by
  intro Hs H a xs ds vs es Q Q' sub h1 h2 h3 q k
  match vs, es, h3 with
  | [v], [e], .cons h4 .nil =>
    cases e <;> first | exact q.elim | skip
    cases h4 with
    | @lst b zs _ h5 h6 => exact ⟨a, b, xs, zs, rfl, rfl, h1, sub _ _ h5, by rw [h2.len, h6.len]; exact q.1, k _ .none _ _ (h2.app h6) .non q.2⟩
  | [], [], _ => exact q.elim
  | _ :: _ :: _, _ :: _ :: _, _ => exact q.elim
theorem RpAll.eraseIdx {K : PySem.W.Frag} {H : Hp} : ∀ {xs : List V} {ds : List D} (n : Nat), RpAll K H xs ds → RpAll K H (xs.eraseIdx n) (ds.eraseIdx n)
  | _, _, _, .nil => by simp only [List.eraseIdx_nil]; exact .nil
  | _, _, 0, .cons a b => b
  | _, _, n + 1, .cons a b => .cons a (RpAll.eraseIdx n b)
theorem RpAll.dropLast {K : PySem.W.Frag} {H : Hp} {xs : List V} {ds : List D} (h : RpAll K H xs ds) : RpAll K H xs.dropLast ds.dropLast := by
  rw [List.dropLast_eq_take, List.dropLast_eq_take, h.len]
  exact h.take _
def popM : DM := fun ds es Q => match es with
  | [] => (match ds[ds.length - 1]? with | some d => Q d ds.dropLast | none => False)
  | _ => False
theorem mtA_pop : MtA C rPop popM := by
  intro Hs H a xs ds vs es Q Q' sub h1 h2 h3 q k
  match vs, es, h3 with
  | [], [], .nil =>
    simp only [popM] at q
    split at q
    · rename_i d e
      obtain ⟨x, e1, e2⟩ := h2.get e
      exact ⟨a, xs, x, rfl, rfl, h1, by rw [h2.len]; exact e1, k _ d _ _ h2.dropLast e2 q⟩
    · exact q.elim
  | _ :: _, _ :: _, _ => exact q.elim
def popAtM : DM := fun ds es Q => match es with
  | [e] => (match e with
    | .int i => (0 ≤ i ∧ i < 2 ^ 62) ∧ (match ds[i.toNat]? with | some d => Q d (ds.eraseIdx i.toNat) | none => False)
    | _ => False)
  | _ => False
theorem mtA_popAt : MtA C rPopAt popAtM := by
  intro Hs H a xs ds vs es Q Q' sub h1 h2 h3 q k
  match vs, es, h3 with
  | [v], [e], .cons h4 .nil =>
    cases e <;> first | exact q.elim | skip
    cases h4
    rename_i i
    obtain ⟨h0, q⟩ := q
    split at q
    · rename_i d e
      obtain ⟨x, e1, e2⟩ := h2.get e
      have hl : i.toNat < xs.length := (List.getElem?_eq_some_iff.mp e1).1
      exact ⟨a, xs, i, i.toNat, x, rfl, rfl, h1, by omega, by omega, seqIndex_of h0.1 (by omega), e1, k _ d _ _ (h2.eraseIdx _) e2 q⟩
    · exact q.elim
  | [], [], _ => exact q.elim
  | _ :: _ :: _, _ :: _ :: _, _ => exact q.elim
def clearM : DM := fun _ es Q => match es with
  | [] => Q .none []
  | _ => False
theorem mtA_clear : MtA C rClear clearM := by
  intro Hs H a xs ds vs es Q Q' sub h1 h2 h3 q k
  match vs, es, h3 with
  | [], [], .nil => exact ⟨a, xs, rfl, rfl, h1, k _ .none _ _ .nil .non q⟩
  | _ :: _, _ :: _, _ => exact q.elim
end

/-! ### statements -/
structure DEnds where
  nx : S → Prop
  rt : D → S → Prop
  bk : S → Prop := fun _ => False
  ct : S → Prop := fun _ => False
abbrev DSt := DEnds → S → Prop
structure Tr (C : Cf) (cat : Cat) (H0 S0 : Hp) (E : DEnds) (D' : Ends) : Prop where
  nx : ∀ Hs σ H s, R C H0 S0 Hs σ H s → E.nx s → D'.nx σ H
  rt : ∀ Hs σ H s v d, R C H0 S0 Hs σ H s → RV C.K H0 Hs H cat v d → E.rt d s → D'.rt v H
  bk : ∀ Hs σ H s, R C H0 S0 Hs σ H s → E.bk s → D'.bk σ H
  ct : ∀ Hs σ H s, R C H0 S0 Hs σ H s → E.ct s → D'.ct σ H
structure SimS (C : Cf) (cat : Cat) (ts : TS) (t : DSt) : Prop where
  run : ∀ (H0 S0 Hs : Hp) (σ : L2.St) (H : Hp) (s : S) (E : DEnds) (D' : Ends), R C H0 S0 Hs σ H s → t E s → Tr C cat H0 S0 E D' → ts D' σ H
section
variable {C : Cf} {cat : Cat} {te ta tb : TE} {t da db : DT} {ca cb : Cat} {ts us : TS} {a b : DSt}
def dNext : DSt := fun E s => E.nx s
def dSeq (a b : DSt) : DSt := fun E s => a { E with nx := b E } s
theorem simS_next : SimS C cat tNext dNext := ⟨fun H0 S0 Hs σ H s E D' r q k => k.nx Hs σ H s r q⟩
theorem simS_seq (ha : SimS C cat ts a) (hb : SimS C cat us b) : SimS C cat (tSeq ts us) (dSeq a b) :=
  ⟨fun H0 S0 Hs σ H s E D' r q k => ha.run H0 S0 Hs σ H s _ _ r q ⟨fun Hs σ H s r q => hb.run H0 S0 Hs σ H s E D' r q k, k.rt, k.bk, k.ct⟩⟩
def dBreak : DSt := fun E s => E.bk s
def dCont : DSt := fun E s => E.ct s
theorem simS_break : SimS C cat tBreak dBreak := ⟨fun H0 S0 Hs σ H s E D' r q k => k.bk Hs σ H s r q⟩
theorem simS_cont : SimS C cat tCont dCont := ⟨fun H0 S0 Hs σ H s E D' r q k => k.ct Hs σ H s r q⟩
def dNever : DSt := fun _ _ => False
theorem simS_never : SimS C cat tNever dNever := ⟨fun H0 S0 Hs σ H s E D' r q k => q⟩
/-! stores -/
theorem R.setE {H0 S0 Hs : Hp} {σ : L2.St} {H : Hp} {s : S} {i : Nat} {v : V} {d : D} (r : R C H0 S0 Hs σ H s) (hi : i ∉ C.M) (hp : i ≠ C.ps) (h : Rp C.K Hs v d) : R C H0 S0 Hs (σ.set i (some v)) H { s with δ := s.δ.set i (some d) } := by
  have ne : ∀ j, j ∈ C.M → j ≠ i := fun j m z => hi (z ▸ m)
  refine ⟨by simpa using r.len, r.sub, fun j d' q m => ?_, fun j d' q m => ?_, fun j m q => ?_, fun j l x m1 m2 q1 q2 => ?_, fun p c q => ?_, fun b hb => ?_, r.s0, r.h0, r.new⟩
  · by_cases hj : j = i
    · subst hj
      have il : j < s.δ.length := by
        have := (List.getElem?_eq_some_iff.mp q).1
        simpa using this
      rw [List.getElem?_set_self il] at q
      cases q
      exact ⟨v, List.getElem?_set_self (by rw [r.len]; exact il), h⟩
    · rw [List.getElem?_set_ne (Ne.symm hj)] at q ⊢
      exact r.slot j d' q m
  · rw [List.getElem?_set_ne (Ne.symm (ne j m))] at q ⊢
    exact r.mt j d' q m
  · rw [List.getElem?_set_ne (Ne.symm (ne j m))] at q ⊢
    exact r.dead j m q
  · rw [List.getElem?_set_ne (Ne.symm (ne j m1))] at q1
    rw [List.getElem?_set_ne (Ne.symm (ne l m2))] at q2
    exact r.sep j l x m1 m2 q1 q2
  · obtain ⟨f1, f2, f3, f4, f5, f6, f7⟩ := r.pn p c q
    exact ⟨by rw [List.getElem?_set_ne hp]; exact f1, f2, f3, f4, f5, by rw [List.getElem?_set_ne hp]; exact f6, f7⟩
  · obtain ⟨⟨j, b1, b2, b3⟩, b4⟩ := r.br b hb
    exact ⟨⟨j, b1, b2, by rw [List.getElem?_set_ne (Ne.symm (ne j b2))]; exact b3⟩, b4⟩
theorem R.setM {H0 S0 Hs : Hp} {σ : L2.St} {H : Hp} {s : S} {i : Nat} {x : Addr} {d : D} {Hst : Hp} (r : R C H0 S0 Hs σ H s) (hi : i ∈ C.M) (hb : i ∉ C.bs) (f : Fresh C H0 Hst Hs σ H x d) :
    R C H0 S0 Hs (σ.set i (some (.ref x))) H { s with δ := s.δ.set i (some d) } := by
  obtain ⟨o, h1, h2, h3, _, h4, h5⟩ := f
  refine ⟨by simpa using r.len, r.sub, fun j d' q m => ?_, fun j d' q m => ?_, fun j m q => ?_, fun j l y m1 m2 q1 q2 => ?_, fun p c q => ?_, fun b hb' => ?_, r.s0, r.h0, r.new⟩
  · have hj : j ≠ i := fun z => m (z ▸ hi)
    rw [List.getElem?_set_ne (Ne.symm hj)] at q ⊢
    exact r.slot j d' q m
  · by_cases hj : j = i
    · subst hj
      have il : j < s.δ.length := by
        have := (List.getElem?_eq_some_iff.mp q).1
        simpa using this
      rw [List.getElem?_set_self il] at q
      cases q
      exact ⟨x, o, List.getElem?_set_self (by rw [r.len]; exact il), h1, h2, h4, .inl h3⟩
    · rw [List.getElem?_set_ne (Ne.symm hj)] at q ⊢
      exact r.mt j d' q m
  · by_cases hj : j = i
    · subst hj
      have il : j < s.δ.length := by
        have := (List.getElem?_eq_some_iff.mp q).1
        simpa using this
      rw [List.getElem?_set_self il] at q
      cases q
    · rw [List.getElem?_set_ne (Ne.symm hj)] at q ⊢
      exact r.dead j m q
  · by_cases hj : j = i
    · by_cases hl : l = i
      · rw [hj, hl]
      · subst hj
        have jl : j < σ.length := by
          have := (List.getElem?_eq_some_iff.mp q1).1
          simpa using this
        rw [List.getElem?_set_self jl] at q1
        cases q1
        rw [List.getElem?_set_ne (Ne.symm hl)] at q2
        exact absurd ⟨l, m2, q2⟩ h5
    · by_cases hl : l = i
      · subst hl
        have ll : l < σ.length := by
          have := (List.getElem?_eq_some_iff.mp q2).1
          simpa using this
        rw [List.getElem?_set_self ll] at q2
        cases q2
        rw [List.getElem?_set_ne (Ne.symm hj)] at q1
        exact absurd ⟨j, m1, q1⟩ h5
      · rw [List.getElem?_set_ne (Ne.symm hj)] at q1
        rw [List.getElem?_set_ne (Ne.symm hl)] at q2
        exact r.sep j l y m1 m2 q1 q2
  · obtain ⟨f1, f2, f3, f4, f5, f6, f7⟩ := r.pn p c q
    have hp : i ≠ C.ps := fun z => f7.1 (by rw [← z]; exact hi)
    exact ⟨by rw [List.getElem?_set_ne hp]; exact f1, f2, f3, f4, f5, by rw [List.getElem?_set_ne hp]; exact f6, f7⟩
  · obtain ⟨⟨j, b1, b2, b3⟩, b4⟩ := r.br b hb'
    exact ⟨⟨j, b1, b2, by rw [List.getElem?_set_ne (fun z => hb (by rw [z]; exact b1))]; exact b3⟩, b4⟩
def dSet (i : Nat) (a : DT) : DSt := fun E s => a s fun d s1 => E.nx { s1 with δ := s1.δ.set i (some d) }
theorem simS_set (i : Nat) (hi : i ∉ C.M) (hp : i ≠ C.ps) (h : Sim C ca te t) : SimS C cat (tAsg te (gName i)) (dSet i t) :=
  ⟨fun H0 S0 Hs σ H s E D' r q k => h.toE.run H0 S0 Hs σ H s _ _ r q fun Hs1 H1 v d s1 g1 r1 v1 q1 => k.nx Hs1 _ H1 _ (r1.setE hi hp v1) q1⟩
def dSetM (i : Nat) (a : DT) : DSt := fun E s => a s fun d s1 => isC d = true ∧ E.nx { s1 with δ := s1.δ.set i (some d) }
theorem simS_setM (i : Nat) (hi : i ∈ C.M) (hb : i ∉ C.bs) (h : Sim C .F te t) : SimS C cat (tAsg te (gName i)) (dSetM i t) := by
  refine ⟨fun H0 S0 Hs σ H s E D' r q k => h.run H0 S0 Hs σ H s _ _ r q fun Hs1 H1 v d s1 g1 r1 v1 q1 => ?_⟩
  obtain ⟨x, rfl, f⟩ := v1.c q1.1
  exact k.nx Hs1 _ H1 _ (r1.setM hi hb f) q1.2
def dDrop (a : DT) : DSt := fun E s => a s fun _ s1 => E.nx s1
theorem simS_drop (h : Sim C ca te t) : SimS C cat (tDrop te) (dDrop t) :=
  ⟨fun H0 S0 Hs σ H s E D' r q k => h.run H0 S0 Hs σ H s _ _ r q fun Hs1 H1 v d s1 g1 r1 v1 q1 => k.nx Hs1 _ H1 _ r1 q1⟩
def dRet (a : DT) : DSt := fun E s => a s fun d s1 => E.rt d s1
theorem simS_ret (h : Sim C cat te t) : SimS C cat (tRet te) (dRet t) := by
  refine ⟨fun H0 S0 Hs σ H s E D' r q k => h.run H0 S0 Hs σ H s _ _ r q fun Hs1 H1 v d s1 g1 r1 v1 q1 => k.rt Hs1 σ H1 s1 v d r1 ?_ q1⟩
  cases cat with
  | E => exact v1
  | F =>
    cases e : isC d with
    | true =>
      obtain ⟨x, rfl, o, h1, h2, h3, h4, h5, h6⟩ := v1.c e
      exact ifp e ⟨x, o, rfl, h1, h2, h3, h5⟩
    | false => exact ifn (by rw [e]; exact Bool.false_ne_true) (v1.p e)
/-- return of a list of the def's own -/
def dRetM (i : Nat) : DSt := fun E s => match s.δ[i]? with
  | some (some d) => E.rt d { s with δ := s.δ.set i none }
  | _ => False
theorem R.dropM {H0 S0 Hs : Hp} {σ : L2.St} {H : Hp} {s : S} {i : Nat} (r : R C H0 S0 Hs σ H s) (hi : i ∈ C.M) (hb : i ∉ C.bs) : R C H0 S0 Hs (σ.set i none) H { s with δ := s.δ.set i none } := by
  have ko : ∀ (j : Nat) (v : V), (σ.set i none)[j]? = some (some v) → j ≠ i ∧ σ[j]? = some (some v) := fun j v q => by
    by_cases hj : j = i
    · subst hj
      have jl : j < σ.length := by
        have := (List.getElem?_eq_some_iff.mp q).1
        simpa using this
      rw [List.getElem?_set_self jl] at q
      cases q
    · rw [List.getElem?_set_ne (Ne.symm hj)] at q
      exact ⟨hj, q⟩
  refine ⟨by simpa using r.len, r.sub, fun j d' q m => ?_, fun j d' q m => ?_, fun j m q => ?_, fun j l y m1 m2 q1 q2 => r.sep j l y m1 m2 (ko j _ q1).2 (ko l _ q2).2, fun p c q => ?_, fun b hb' => ?_, r.s0, r.h0, r.new⟩
  · have hj : j ≠ i := fun z => m (z ▸ hi)
    rw [List.getElem?_set_ne (Ne.symm hj)] at q ⊢
    exact r.slot j d' q m
  · by_cases hj : j = i
    · subst hj
      have il : j < s.δ.length := by
        have := (List.getElem?_eq_some_iff.mp q).1
        simpa using this
      rw [List.getElem?_set_self il] at q
      cases q
    · rw [List.getElem?_set_ne (Ne.symm hj)] at q ⊢
      exact r.mt j d' q m
  · by_cases hj : j = i
    · subst hj
      have il : j < s.δ.length := by
        have := (List.getElem?_eq_some_iff.mp q).1
        simpa using this
      exact List.getElem?_set_self (by rw [r.len]; exact il)
    · rw [List.getElem?_set_ne (Ne.symm hj)] at q ⊢
      exact r.dead j m q
  · obtain ⟨f1, f2, f3, f4, f5, f6, f7⟩ := r.pn p c q
    have hp : i ≠ C.ps := fun z => f7.1 (by rw [← z]; exact hi)
    exact ⟨by rw [List.getElem?_set_ne hp]; exact f1, f2, f3, f4, f5, by rw [List.getElem?_set_ne hp]; exact f6, f7⟩
  · obtain ⟨⟨j, b1, b2, b3⟩, b4⟩ := r.br b hb'
    exact ⟨⟨j, b1, b2, by rw [List.getElem?_set_ne (fun z => hb (by rw [z]; exact b1))]; exact b3⟩, b4⟩
theorem simS_retM (i : Nat) (hi : i ∈ C.M) (hb : i ∉ C.bs) : SimS C cat (tRet (tVar i)) (dRetM i) := by
  refine ⟨fun H0 S0 Hs σ H s E D' r q k => ?_⟩
  unfold dRetM at q
  split at q
  · rename_i d e
    obtain ⟨x, o, e1, e2, e3, e4, e5⟩ := r.mt i d e hi
    refine ⟨_, e1, ?_⟩
    have r' := r.dropM hi hb
    have e5 : H0 x = none := by
      rcases e5 with e5 | e5
      · exact e5
      · obtain ⟨⟨j, b1, b2, b3⟩, _⟩ := r.br x e5
        exact absurd (by rw [← r.sep j i x b2 hi b3 e1]; exact b1) hb
    cases cat with
    | F => exact k.rt Hs _ H _ _ d r' (ifp e4.is ⟨x, o, rfl, e2, e3, e5, e4⟩) q
    | E =>
      have no : ¬ Own C (σ.set i none) x := fun ⟨j, m, z⟩ => by
        by_cases hj : j = i
        · subst hj
          have jl : j < σ.length := by
            have := (List.getElem?_eq_some_iff.mp z).1
            simpa using this
          rw [List.getElem?_set_self jl] at z
          cases z
        · rw [List.getElem?_set_ne (Ne.symm hj)] at z
          exact hj (r.sep j i x m hi z e1)
      obtain ⟨Hs', _, r2, rp, _⟩ := r'.freeze (Hst := Hs) ⟨o, e2, e3, e5, e3, e4, no⟩
      exact k.rt Hs' _ H _ _ _ r2 rp q
  · exact q.elim
def dRetN : DSt := fun E s => E.rt .none s
theorem simS_retN : SimS C cat tRetN dRetN := by
  refine ⟨fun H0 S0 Hs σ H s E D' r q k => k.rt Hs σ H s .non .none r ?_ q⟩
  cases cat with
  | E => exact Rp.non
  | F => simp only [RV, isC, if_neg Bool.false_ne_true]; exact Rp.non
def dIfS (c : DB) (a b : DSt) : DSt := fun E s => c s fun k s1 => if k = true then a E s1 else b E s1
theorem simS_if {tt : TT} {c : DB} (hc : SimT C tt c) (ha : SimS C cat ts a) (hb : SimS C cat us b) : SimS C cat (tIfS tt ts us) (dIfS c a b) := by
  refine ⟨fun H0 S0 Hs σ H s E D' r q k => hc.run H0 S0 Hs σ H s _ _ r q fun Hs1 H1 c s1 g1 r1 q1 => ?_⟩
  cases c with
  | true => exact ifp rfl (ha.run H0 S0 Hs1 σ H1 s1 E D' r1 (by simpa using q1) k)
  | false => exact ifn Bool.false_ne_true (hb.run H0 S0 Hs1 σ H1 s1 E D' r1 (by simpa using q1) k)
/-! targets -/
structure SimG (C : Cf) (ts : List Nat) (g : TG) (t : D → S → (S → Prop) → Prop) : Prop where
  run : ∀ (H0 S0 Hs : Hp) (σ : L2.St) (H : Hp) (s : S) (v : V) (d : D) (Q : S → Prop) (Q' : L2.St → Hp → Prop), R C H0 S0 Hs σ H s → Rp C.K Hs v d → t d s Q →
    (∀ σ' s', R C H0 S0 Hs σ' H s' → σ'.length = σ.length → (∀ j, j ∉ ts → σ'[j]? = σ[j]?) → Q s' → Q' σ' H) → g v σ H Q'
structure SimGs (C : Cf) (ts : List Nat) (g : TGs) (t : List D → S → (S → Prop) → Prop) : Prop where
  run : ∀ (H0 S0 Hs : Hp) (σ : L2.St) (H : Hp) (s : S) (vs : List V) (ds : List D) (Q : S → Prop) (Q' : L2.St → Hp → Prop), R C H0 S0 Hs σ H s → RpAll C.K Hs vs ds → t ds s Q →
    (∀ σ' s', R C H0 S0 Hs σ' H s' → σ'.length = σ.length → (∀ j, j ∉ ts → σ'[j]? = σ[j]?) → Q s' → Q' σ' H) → g vs σ H Q'
def sName (i : Nat) : D → S → (S → Prop) → Prop := fun d s Q => Q { s with δ := s.δ.set i (some d) }
theorem simG_name (i : Nat) (hi : i ∉ C.M) (hp : i ≠ C.ps) : SimG C [i] (gName i) (sName i) :=
  ⟨fun H0 S0 Hs σ H s v d Q Q' r h q k => k _ _ (r.setE hi hp h) (by simp) (fun j hj => List.getElem?_set_ne (fun z => hj (by simp [z]))) q⟩
def sNil : List D → S → (S → Prop) → Prop := fun ds s Q => match ds with
  | [] => Q s
  | _ => False
def sCons (a : D → S → (S → Prop) → Prop) (b : List D → S → (S → Prop) → Prop) : List D → S → (S → Prop) → Prop := fun ds s Q => match ds with
  | d :: r => a d s fun s1 => b r s1 Q
  | [] => False
theorem simGs_nil : SimGs C [] gNil sNil := by
  refine ⟨fun H0 S0 Hs σ H s vs ds Q Q' r h q k => ?_⟩
  cases h with
  | nil => exact ⟨rfl, k σ s r rfl (fun _ _ => rfl) q⟩
  | cons _ _ => exact q.elim
theorem simGs_cons {ts us : List Nat} {g : TG} {gs : TGs} {x : D → S → (S → Prop) → Prop} {y : List D → S → (S → Prop) → Prop} (h1 : SimG C ts g x) (h2 : SimGs C us gs y) : SimGs C (ts ++ us) (gCons g gs) (sCons x y) := by
  refine ⟨fun H0 S0 Hs σ H s vs ds Q Q' r h q k => ?_⟩
  cases h with
  | nil => exact q.elim
  | cons a b =>
    refine ⟨_, _, rfl, h1.run H0 S0 Hs σ H s _ _ _ _ r a q fun σ1 s1 r1 l1 e1 q1 => h2.run H0 S0 Hs σ1 H s1 _ _ _ _ r1 b q1 fun σ2 s2 r2 l2 e2 q2 => ?_⟩
    refine k σ2 s2 r2 (l2.trans l1) (fun j hj => ?_) q2
    rw [List.mem_append, not_or] at hj
    rw [e2 j hj.2, e1 j hj.1]
def sTup (n : Nat) (a : List D → S → (S → Prop) → Prop) : D → S → (S → Prop) → Prop := fun d s Q => match d with
  | .tuple ds => ds.length = n ∧ a ds s Q
  | _ => False
theorem simG_tup {ts : List Nat} {n : Nat} {gs : TGs} {x : List D → S → (S → Prop) → Prop} (h : SimGs C ts gs x) : SimG C ts (gTup C.K n gs) (sTup n x) := by
  refine ⟨fun H0 S0 Hs σ H s v d Q Q' r hv q k => ?_⟩
  cases d <;> first | exact q.elim | skip
  cases hv with
  | @tup p xs _ e1 e2 => exact ⟨p, xs, rfl, Same.sqT r.sub e1, by rw [e2.len]; exact q.1, h.run H0 S0 Hs σ H s _ _ _ _ r e2 q.2 k⟩
def dAsgG (a : DT) (g : D → S → (S → Prop) → Prop) : DSt := fun E s => a s fun d s1 => g d s1 E.nx
theorem simS_asg {ts : List Nat} {g : TG} {x : D → S → (S → Prop) → Prop} (h : Sim C ca te t) (hg : SimG C ts g x) : SimS C cat (tAsg te g) (dAsgG t x) :=
  ⟨fun H0 S0 Hs σ H s E D' r q k => h.toE.run H0 S0 Hs σ H s _ _ r q fun Hs1 H1 v d s1 g1 r1 v1 q1 => hg.run H0 S0 Hs1 σ H1 s1 v d _ _ r1 v1 q1 fun σ' s' r2 _ _ q2 => k.nx Hs1 σ' H1 s' r2 q2⟩
/-- a, b = x, y: both names at once -/
def dPar (i j : Nat) (a : DA) : DSt := fun E s => a s fun ds s1 => match ds with
  | [d, e] => E.nx { s1 with δ := (s1.δ.set i (some d)).set j (some e) }
  | _ => False
theorem simS_par {ta : TA} {a : DA} (i j : Nat) (hi : i ∉ C.M) (hj : j ∉ C.M) (pi : i ≠ C.ps) (pj : j ≠ C.ps) (h : SimA C 2 ta a) : SimS C cat (tPar i j ta) (dPar i j a) := by
  refine ⟨fun H0 S0 Hs σ H s E D' r q k => h.run H0 S0 Hs σ H s _ _ r q fun Hs1 H1 vs ds s1 g1 r1 v1 l1 q1 => ?_⟩
  match vs, ds, v1 with
  | [v, w], [d, e], .cons h1 (.cons h2 .nil) => exact ⟨v, w, rfl, k.nx Hs1 _ H1 _ ((r1.setE hi pi h1).setE hj pj h2) q1⟩
  | [], [], _ => exact q1.elim
  | [_], [_], _ => exact q1.elim
  | _ :: _ :: _ :: _, _ :: _ :: _ :: _, _ => exact q1.elim
/-- x op= e -/
def dAug (i : Nat) (f : DO) (a : DT) : DSt := fun E s => match s.δ[i]? with
  | some (some x) => a s fun y s1 => f x y fun z => E.nx { s1 with δ := s1.δ.set i (some z) }
  | _ => False
theorem simS_aug {r : R2} {f : DO} (i : Nat) (hi : i ∉ C.M) (hp : i ≠ C.ps) (ho : OpA C r f) (h : Sim C ca te t) : SimS C cat (tAug i te r) (dAug i f t) := by
  refine ⟨fun H0 S0 Hs σ H s E D' r0 q k => ?_⟩
  unfold dAug at q
  split at q
  · rename_i x e
    obtain ⟨v, e1, rp⟩ := r0.slot i x e hi
    refine ⟨v, e1, h.run H0 S0 Hs σ H s _ _ r0 q fun Hs1 H1 y dy s1 g1 r1 v1 q1 => ?_⟩
    refine ho H0 S0 Hs1 σ H1 s1 v y x dy _ _ r1 ((Rp.mono g1.st rp).rd r1.sub) (v1.rd r1.sub) q1 fun Hs2 H2 z dz g2 r2 v2 q2 => ?_
    cases ez : isC dz with
    | true =>
      obtain ⟨w, rfl, f⟩ := v2.c ez
      obtain ⟨Hs3, s3, r3, rp3, _⟩ := r2.freeze f
      exact k.nx Hs3 _ H2 _ (r3.setE hi hp rp3) q2
    | false => exact k.nx Hs2 _ H2 _ (r2.setE hi hp (v2.p ez)) q2
  · exact q.elim
/-- xs[i] = e, xs of the def's own -/
def dSetAt (i : Nat) (a j : DT) : DSt := fun E s => a s fun d s1 => (∃ z, s1.δ[i]? = some (some (.list z))) ∧ j s1 fun k s2 => match k with
  | .int n => (match s2.δ[i]? with
    | some (some (.list ds)) => (match ixN ds.length n with
      | some m => E.nx { s2 with δ := s2.δ.set i (some (.list (ds.set m d))) }
      | none => False)
    | _ => False)
  | _ => False
theorem simS_setAt (i : Nat) (hi : i ∈ C.M) (h : Sim C ca ta da) (hj : Sim C cb tb db) : SimS C cat (tAsg ta (gSub (tVar i) tb rSetL)) (dSetAt i da db) := by
  refine ⟨fun H0 S0 Hs σ H s E D' r q k => h.toE.run H0 S0 Hs σ H s _ _ r q fun Hs1 H1 v d s1 g1 r1 v1 q1 => ?_⟩
  obtain ⟨⟨z, ez⟩, q1⟩ := q1
  obtain ⟨x, xs, e1, _⟩ := r1.mtL hi ez
  refine ⟨_, e1, hj.run H0 S0 Hs1 σ H1 s1 _ _ r1 q1 fun Hs2 H2 w dk s2 g2 r2 v2 q2 => ?_⟩
  cases dk <;> first | exact q2.elim | skip
  rename_i n
  cases v2.int'
  have q2 : (match s2.δ[i]? with | some (some (.list ds)) => (match ixN ds.length n with | some m => E.nx { s2 with δ := s2.δ.set i (some (.list (ds.set m d))) } | none => False) | _ => False) := q2
  split at q2
  · rename_i ds2 e2
    split at q2
    · rename_i m em
      obtain ⟨x', o2, e4, e5, e6, e7, e8⟩ := r2.mt i _ e2 hi
      rw [e1] at e4
      cases e4
      cases e7
      rename_i xs2 e7
      obtain ⟨r3, _⟩ := r2.upd hi e2 e1 (.lst (e7.set m (Rp.mono g2.st v1)))
      exact ⟨x, xs2, n, m, rfl, rfl, e5, by rw [e7.len]; exact em, k.nx Hs2 _ _ _ r3 q2⟩
    · exact q2.elim
  · exact q2.elim
end

/-! ### what is walked -/
/-- J goes through the trees items, wherever Hs1 stays -/
def ItOk (C : Cf) (Hs1 : Hp) (J : It) (items : List D) : Prop := ∃ (G : Hp → Prop) (Y : Nat → Hp → V → Hp → Prop), Walk J items.length G Y ∧ (∀ H, Same Hs1 H → G H) ∧
  ∀ (i : Nat) (H : Hp) (x : V) (H2 : Hp) (H0 S0 Hs : Hp) (σ : L2.St) (s : S), i < items.length → R C H0 S0 Hs σ H s → Same Hs1 Hs → Y i H x H2 →
    ∃ Hs2 d, items[i]? = some d ∧ R C H0 S0 Hs2 σ H2 s ∧ Rp C.K Hs2 x d ∧ Go C σ Hs H Hs2 H2
abbrev DI := S → (List D → S → Prop) → Prop
structure SimI (C : Cf) (wi : TI) (t : DI) : Prop where
  run : ∀ (H0 S0 Hs : Hp) (σ : L2.St) (H : Hp) (s : S) (Q : List D → S → Prop) (Q' : It → Hp → Prop), R C H0 S0 Hs σ H s → t s Q →
    (∀ Hs' H' J items s', Go C σ Hs H Hs' H' → R C H0 S0 Hs' σ H' s' → ItOk C Hs' J items → Q items s' → Q' J H') → wi σ H Q'
section
variable {C : Cf} {cat : Cat} {te ta tb : TE} {t da db : DT} {ca cb : Cat} {ts us : TS} {a b : DSt}
theorem itOk_list {Hs1 : Hp} {x : Addr} {xs : List V} {ds : List D} (h : Hs1 x = some (.lst xs)) (hd : RpAll C.K Hs1 xs ds) : ItOk C Hs1 (Itl C.K x) ds := by
  refine ⟨_, _, by rw [← hd.len]; exact walk_list (xs := xs), fun H e => SqL.of (e _ _ h), fun i H v H2 H0 S0 Hs σ s hi r e y => ?_⟩
  obtain ⟨rfl, y⟩ := y
  obtain ⟨d, e1, e2⟩ := hd.getV y
  exact ⟨Hs, d, e1, r, Rp.mono e e2, Go.refl⟩
theorem itOk_tup {Hs1 : Hp} {x : Addr} {xs : List V} {ds : List D} (h : SqT C.K Hs1 x xs) (hd : RpAll C.K Hs1 xs ds) : ItOk C Hs1 (Itt C.K x) ds := by
  refine ⟨_, _, by rw [← hd.len]; exact walk_tup (xs := xs), fun H e => Same.sqT e h, fun i H v H2 H0 S0 Hs σ s hi r e y => ?_⟩
  obtain ⟨rfl, y⟩ := y
  obtain ⟨d, e1, e2⟩ := hd.getV y
  exact ⟨Hs, d, e1, r, Rp.mono e e2, Go.refl⟩
/-- a list -/
theorem simI_list (h : Sim C ca te t) : SimI C (iList C.K te) (fun s Q => t s fun d s1 => match d with | .list ds => Q ds s1 | _ => False) := by
  refine ⟨fun H0 S0 Hs σ H s Q Q' r q k => h.toE.run H0 S0 Hs σ H s _ _ r q fun Hs1 H1 v d s1 g1 r1 v1 q1 => ?_⟩
  cases d <;> first | exact q1.elim | skip
  cases v1 with
  | @lst x xs _ e1 e2 => exact ⟨x, rfl, ⟨xs, SqL.of (r1.sub _ _ e1)⟩, k Hs1 H1 _ _ s1 g1 r1 (itOk_list e1 e2) q1⟩
theorem simI_tup (h : Sim C ca te t) : SimI C (iTup C.K te) (fun s Q => t s fun d s1 => match d with | .tuple ds => Q ds s1 | _ => False) := by
  refine ⟨fun H0 S0 Hs σ H s Q Q' r q k => h.toE.run H0 S0 Hs σ H s _ _ r q fun Hs1 H1 v d s1 g1 r1 v1 q1 => ?_⟩
  cases d <;> first | exact q1.elim | skip
  cases v1 with
  | @tup x xs _ e1 e2 => exact ⟨x, rfl, ⟨xs, Same.sqT r1.sub e1⟩, k Hs1 H1 _ _ s1 g1 r1 (itOk_tup e1 e2) q1⟩
/-- range -/
def rgD (lo : Int) (n : Nat) : List D := (List.range n).map fun i => .int (lo + (i : Nat))
theorem itOk_range {Hs1 : Hp} (lo : Int) (n : Nat) : ItOk C Hs1 (Itr lo n) (rgD lo n) := by
  have hl : (rgD lo n).length = n := by unfold rgD; rw [List.length_map, List.length_range]
  refine ⟨_, _, by rw [hl]; exact walk_range, fun H e => True.intro, fun i H v H2 H0 S0 Hs σ s hi r e y => ?_⟩
  obtain ⟨rfl, rfl⟩ := y
  refine ⟨Hs, .int (lo + (i : Nat)), ?_, r, Rp.int _, Go.refl⟩
  unfold rgD
  rw [hl] at hi
  rw [List.getElem?_map, List.getElem?_range hi]
  rfl
def dRange1 (a : DT) : DI := fun s Q => a s fun d s1 => match d with
  | .int j => (-(2 ^ 62) ≤ j ∧ j < 2 ^ 62) ∧ Q (rgD 0 j.toNat) s1
  | _ => False
theorem simI_range1 (h : Sim C ca te t) : SimI C (iRng1 (tCons te tNil)) (dRange1 t) := by
  refine ⟨fun H0 S0 Hs σ H s Q Q' r q k => h.run H0 S0 Hs σ H s _ _ r q fun Hs1 H1 v d s1 g1 r1 v1 q1 => ?_⟩
  cases d <;> first | exact q1.elim | skip
  rename_i j
  cases v1.int'
  exact ⟨j, rfl, q1.1.1, q1.1.2, k Hs1 H1 _ _ s1 g1 r1 (itOk_range 0 j.toNat) q1.2⟩
def dRange2 (a b : DT) : DI := fun s Q => a s fun d s1 => b s1 fun e s2 => match d, e with
  | .int i, .int j => (-(2 ^ 62) ≤ i ∧ i < 2 ^ 62 ∧ -(2 ^ 62) ≤ j ∧ j < 2 ^ 62) ∧ Q (rgD i (j - i).toNat) s2
  | _, _ => False
theorem simI_range2 (ha : Sim C ca ta da) (hb : Sim C cb tb db) : SimI C (iRng2 (tCons ta (tCons tb tNil))) (dRange2 da db) := by
  refine ⟨fun H0 S0 Hs σ H s Q Q' r q k => ha.run H0 S0 Hs σ H s _ _ r q fun Hs1 H1 v d s1 g1 r1 v1 q1 => hb.run H0 S0 Hs1 σ H1 s1 _ _ r1 q1 fun Hs2 H2 w e s2 g2 r2 v2 q2 => ?_⟩
  cases d <;> cases e <;> first | exact q2.elim | skip
  rename_i i j
  cases v1.int'
  cases v2.int'
  exact ⟨i, j, rfl, q2.1, k Hs2 H2 _ _ s2 (g1.trans g2) r2 (itOk_range i (j - i).toNat) q2.2⟩
/-- pairs: enumerate, zip -/
def prD (xs ys : List D) : List D := (xs.zip ys).map fun p => .tuple [p.1, p.2]
theorem pair_it {H0 S0 Hs : Hp} {σ : L2.St} {H : Hp} {s : S} {T : Addr} {x y : V} {dx dy : D} (r : R C H0 S0 Hs σ H s) (n : H T = none) (hx : Rp C.K Hs x dx) (hy : Rp C.K Hs y dy) :
    ∃ Hs2, R C H0 S0 Hs2 σ (L2.upd H T (.tup [x, y])) s ∧ Rp C.K Hs2 (.ref T) (.tuple [dx, dy]) ∧ Go C σ Hs H Hs2 (L2.upd H T (.tup [x, y])) := by
  obtain ⟨r', g'⟩ := r.newTup (o := .tup [x, y]) n
  exact ⟨_, r', Rp.tup (SqT.of upd_same) (.cons (Rp.mono g'.st hx) (.cons (Rp.mono g'.st hy) .nil)), g'⟩
def dEnum (a : DT) : DI := fun s Q => a s fun d s1 => match d with
  | .list ds => Q (prD (rgD 0 ds.length) ds) s1
  | _ => False
theorem enum_len (ds : List D) : (prD (rgD 0 ds.length) ds).length = ds.length := by
  unfold prD rgD
  rw [List.length_map, List.length_zip, List.length_map, List.length_range, Nat.min_self]
theorem enum_get {ds : List D} {i : Nat} {d : D} (h : ds[i]? = some d) : (prD (rgD 0 ds.length) ds)[i]? = some (.tuple [.int (i : Nat), d]) := by
  have hi : i < ds.length := (List.getElem?_eq_some_iff.mp h).1
  have h1 : (rgD 0 ds.length)[i]? = some (.int (0 + (i : Nat))) := by
    unfold rgD
    rw [List.getElem?_map, List.getElem?_range hi]
    rfl
  have h2 : ((rgD 0 ds.length).zip ds)[i]? = some (.int (0 + (i : Nat)), d) := List.getElem?_zip_eq_some.mpr ⟨h1, h⟩
  unfold prD
  rw [List.getElem?_map, h2]
  simp
theorem itOk_enum {Hs1 : Hp} {x : Addr} {xs : List V} {ds : List D} (h : Hs1 x = some (.lst xs)) (hd : RpAll C.K Hs1 xs ds) : ItOk C Hs1 (Ite C.K x) (prD (rgD 0 ds.length) ds) := by
  refine ⟨_, _, by rw [enum_len, ← hd.len]; exact walk_enum (xs := xs), fun H e => SqL.of (e _ _ h), fun i H v H2 H0 S0 Hs σ s hi r e y => ?_⟩
  obtain ⟨T, x1, x2, rfl, nT, rfl, e1, e2⟩ := y
  cases e1
  obtain ⟨d, e3, e4⟩ := hd.getV e2
  obtain ⟨Hs2, r2, rp, g⟩ := pair_it r nT (Rp.int ((i : Nat) : Int)) (Rp.mono e e4)
  exact ⟨Hs2, _, enum_get e3, r2, rp, g⟩
theorem simI_enum (h : Sim C ca te t) : SimI C (iEnum C.K (tCons te tNil)) (dEnum t) := by
  refine ⟨fun H0 S0 Hs σ H s Q Q' r q k => h.toE.run H0 S0 Hs σ H s _ _ r q fun Hs1 H1 v d s1 g1 r1 v1 q1 => ?_⟩
  cases d <;> first | exact q1.elim | skip
  cases v1 with
  | @lst x xs _ e1 e2 => exact ⟨x, xs, rfl, SqL.of (r1.sub _ _ e1), k Hs1 H1 _ _ s1 g1 r1 (itOk_enum e1 e2) q1⟩
def dZip (a b : DT) : DI := fun s Q => a s fun d s1 => b s1 fun e s2 => match d, e with
  | .list ds, .list es => Q (prD ds es) s2
  | .tuple ds, .tuple es => Q (prD ds es) s2
  | _, _ => False
theorem zip_len (ds es : List D) : (prD ds es).length = min ds.length es.length := by
  unfold prD
  rw [List.length_map, List.length_zip]
theorem zip_get {ds es : List D} {i : Nat} {d e : D} (h : ds[i]? = some d) (h' : es[i]? = some e) : (prD ds es)[i]? = some (.tuple [d, e]) := by
  have h2 : (ds.zip es)[i]? = some (d, e) := List.getElem?_zip_eq_some.mpr ⟨h, h'⟩
  unfold prD
  rw [List.getElem?_map, h2]
  rfl
theorem simI_zip (ha : Sim C ca ta da) (hb : Sim C cb tb db) : SimI C (iZipA C.K (tCons ta (tCons tb tNil))) (dZip da db) := by
  refine ⟨fun H0 S0 Hs σ H s Q Q' r q k => ha.toE.run H0 S0 Hs σ H s _ _ r q fun Hs1 H1 v d s1 g1 r1 v1 q1 => hb.toE.run H0 S0 Hs1 σ H1 s1 _ _ r1 q1 fun Hs2 H2 w e s2 g2 r2 v2 q2 => ?_⟩
  cases d <;> cases e <;> first | exact q2.elim | skip
  case list.list ds es =>
    cases v1 with
    | @lst x xs _ e1 e2 =>
    cases v2 with
    | @lst y ys _ e3 e4 =>
    have e1' := g2.st _ _ e1
    have e2' := RpAll.mono g2.st e2
    refine ⟨x, y, xs, ys, rfl, .inl ⟨SqL.of (r2.sub _ _ e1'), SqL.of (r2.sub _ _ e3), k Hs2 H2 _ _ s2 (g1.trans g2) r2 ?_ q2⟩⟩
    refine ⟨_, _, walk_zip (K := C.K) (a := x) (b := y) (xs := xs) (ys := ys) (by rw [zip_len, e2.len, e4.len]), fun H e => ⟨SqL.of (e _ _ e1'), SqL.of (e _ _ e3)⟩, fun i H v H2 H0 S0 Hs σ s hi r e y => ?_⟩
    obtain ⟨T, x1, x2, rfl, nT, rfl, f1, f2⟩ := y
    obtain ⟨d, f3, f4⟩ := e2'.getV f1
    obtain ⟨d', f5, f6⟩ := e4.getV f2
    obtain ⟨Hs2, r2, rp, g⟩ := pair_it r nT (Rp.mono e f4) (Rp.mono e f6)
    exact ⟨Hs2, _, zip_get f3 f5, r2, rp, g⟩
  case tuple.tuple ds es =>
    cases v1 with
    | @tup x xs _ e1 e2 =>
    cases v2 with
    | @tup y ys _ e3 e4 =>
    have e1' := Same.sqT g2.st e1
    have e2' := RpAll.mono g2.st e2
    refine ⟨x, y, xs, ys, rfl, .inr ⟨Same.sqT r2.sub e1', Same.sqT r2.sub e3, k Hs2 H2 _ _ s2 (g1.trans g2) r2 ?_ q2⟩⟩
    refine ⟨_, _, walk_zipT (K := C.K) (a := x) (b := y) (xs := xs) (ys := ys) (by rw [zip_len, e2.len, e4.len]), fun H e => ⟨Same.sqT e e1', Same.sqT e e3⟩, fun i H v H2 H0 S0 Hs σ s hi r e y => ?_⟩
    obtain ⟨T, x1, x2, rfl, nT, rfl, f1, f2⟩ := y
    obtain ⟨d, f3, f4⟩ := e2'.getV f1
    obtain ⟨d', f5, f6⟩ := e4.getV f2
    obtain ⟨Hs2, r2, rp, g⟩ := pair_it r nT (Rp.mono e f4) (Rp.mono e f6)
    exact ⟨Hs2, _, zip_get f3 f5, r2, rp, g⟩
/-- a text, sign by sign -/
def signs (z : Str) : List D := z.cps.toList.map fun c => .str ⟨#[c]⟩
def dStr (a : DT) : DI := fun s Q => a s fun d s1 => match d with
  | .str z => Q (signs z) s1
  | _ => False
theorem simI_str (h : Sim C ca te t) : SimI C (iStr te) (dStr t) := by
  refine ⟨fun H0 S0 Hs σ H s Q Q' r q k => h.toE.run H0 S0 Hs σ H s _ _ r q fun Hs1 H1 v d s1 g1 r1 v1 q1 => ?_⟩
  cases d <;> first | exact q1.elim | skip
  rename_i z
  cases v1
  refine ⟨z, rfl, k Hs1 H1 _ _ s1 g1 r1 ?_ q1⟩
  have hl : (signs z).length = z.cps.size := by unfold signs; rw [List.length_map, Array.length_toList]
  refine ⟨_, _, by rw [hl]; exact walk_str, fun H e => True.intro, fun i H v H2 H0 S0 Hs σ s hi r e y => ?_⟩
  obtain ⟨rfl, c, e1, rfl⟩ := y
  refine ⟨Hs, .str ⟨#[c]⟩, ?_, r, Rp.str _, Go.refl⟩
  unfold signs
  rw [List.getElem?_map, Array.getElem?_toList, e1]
  rfl
/-! ### for, while -/
theorem R.base {H0 S0 Hs : Hp} {σ : L2.St} {H : Hp} {s : S} (r : R C H0 S0 Hs σ H s) : R C H0 Hs Hs σ H s :=
  ⟨r.len, r.sub, r.slot, r.mt, r.dead, r.sep, r.pn, r.br, Same.refl _, r.h0, fun _ h1 h2 => absurd h1 h2⟩
theorem R.back {H0 S0 Hs1 Hs : Hp} {σ1 σ : L2.St} {H1 H : Hp} {s1 s : S} (r1 : R C H0 S0 Hs1 σ1 H1 s1) (r : R C H0 Hs1 Hs σ H s) : R C H0 S0 Hs σ H s := by
  refine ⟨r.len, r.sub, r.slot, r.mt, r.dead, r.sep, r.pn, r.br, r1.s0.trans r.s0, r.h0, fun b e1 e2 => ?_⟩
  cases q : Hs1 b with
  | some o => exact r1.new b e1 (by rw [q]; exact fun z => nomatch z)
  | none => exact r.new b q e2
def forD (g : D → S → (S → Prop) → Prop) (b : DSt) (E : DEnds) : List D → S → Prop
  | [], s => E.nx s
  | d :: ds, s => g d s fun s1 => b { E with nx := forD g b E ds, ct := forD g b E ds, bk := E.nx } s1
def dFor (it : DI) (g : D → S → (S → Prop) → Prop) (b : DSt) : DSt := fun E s => it s fun items s1 => forD g b E items s1
theorem simS_for {wi : TI} {it : DI} {tl : List Nat} {g : TG} {x : D → S → (S → Prop) → Prop} (hi : SimI C wi it) (hg : SimG C tl g x) (hb : SimS C cat ts a) : SimS C cat (tFor wi g ts) (dFor it x a) := by
  refine ⟨fun H0 S0 Hs σ H s E D' r q k => hi.run H0 S0 Hs σ H s _ _ r q fun Hs1 H1 J items s1 g1 r1 io q1 => ?_⟩
  obtain ⟨G, Y, W, hG, hY⟩ := io
  refine for_it W (fun i σ H => ∃ Hs s, R C H0 Hs1 Hs σ H s ∧ forD x a E (items.drop i) s) ⟨Hs1, s1, r1.base, q1⟩ (fun i σ H _ ⟨Hs, s, r, _⟩ => hG H (r.s0.trans r.sub)) (fun i v σ H H' hi' ⟨Hs, s, r, q⟩ y => ?_) (fun σ H ⟨Hs, s, r, q⟩ => ?_)
  · obtain ⟨Hs2, d, e1, r2, rp, _⟩ := hY i H v H' H0 Hs1 Hs σ s hi' r r.s0 y
    rw [List.drop_eq_getElem_cons hi'] at q
    have ed : items[i] = d := by
      rw [List.getElem?_eq_getElem hi'] at e1
      exact Option.some.inj e1
    rw [ed] at q
    refine hg.run H0 Hs1 Hs2 σ H' s v d _ _ r2 rp q fun σ3 s3 r3 _ _ q3 => ?_
    refine hb.run H0 Hs1 Hs2 σ3 H' s3 _ _ r3 q3 ⟨fun Hs σ H s r q => ⟨Hs, s, r, q⟩, fun Hs σ H s v d r rv q => k.rt Hs σ H s v d (r1.back r) rv q, fun Hs σ H s r q => k.nx Hs σ H s (r1.back r) q, fun Hs σ H s r q => ⟨Hs, s, r, q⟩⟩
  · rw [List.drop_length] at q
    exact k.nx Hs σ H s (r1.back r) q
def dWhile (c : DB) (b : DSt) : DSt := fun E s => ∃ W : Nat → S → Prop, (∃ m, W m s) ∧ ∀ m s, W m s → c s fun k s1 => if k = true then b { E with nx := fun s' => ∃ m', m' < m ∧ W m' s', ct := fun s' => ∃ m', m' < m ∧ W m' s', bk := E.nx } s1 else E.nx s1
theorem simS_while {tt : TT} {c : DB} (hc : SimT C tt c) (hb : SimS C cat ts a) : SimS C cat (tWhile tt ts) (dWhile c a) := by
  refine ⟨fun H0 S0 Hs σ H s E D' r q k => ?_⟩
  obtain ⟨W, ⟨m0, w0⟩, turn⟩ := q
  refine ⟨fun m σ H => ∃ Hs s, R C H0 S0 Hs σ H s ∧ W m s, ⟨m0, Hs, s, r, w0⟩, fun m σ H ⟨Hs, s, r, w⟩ => ?_⟩
  refine hc.run H0 S0 Hs σ H s _ _ r (turn m s w) fun Hs1 H1 c s1 g1 r1 q1 => ?_
  cases c with
  | true =>
    refine ifp rfl ⟨fun σ' H' => ∃ m', m' < m ∧ ∃ Hs s, R C H0 S0 Hs σ' H' s ∧ W m' s, fun _ _ h => h, ?_⟩
    rw [if_pos rfl] at q1
    exact hb.run H0 S0 Hs1 σ H1 s1 _ _ r1 q1 ⟨fun Hs σ H s r ⟨m', h1, h2⟩ => ⟨m', h1, Hs, s, r, h2⟩, k.rt, k.nx, fun Hs σ H s r ⟨m', h1, h2⟩ => ⟨m', h1, Hs, s, r, h2⟩⟩
  | false => exact ifn Bool.false_ne_true (k.nx Hs1 σ H1 s1 r1 (by simpa using q1))
/-- a list or dict of the def's own goes into the still part from here on -/
theorem R.still {H0 S0 Hs : Hp} {σ : L2.St} {H : Hp} {s : S} {i : Nat} {M' : List Nat} (r : R C H0 S0 Hs σ H s) (hM : ∀ j, j ∈ C.M ↔ j = i ∨ j ∈ M') (hn : i ∉ M') (hb : i ∉ C.bs) : ∃ Hs', R { C with M := M' } H0 S0 Hs' σ H s := by
  have hi : i ∈ C.M := (hM i).mpr (.inl rfl)
  have br : ∀ b, b ∈ C.bor → (∃ j, j ∈ C.bs ∧ j ∈ M' ∧ σ[j]? = some (some (.ref b))) ∧ H0 b ≠ none := fun b hb' => by
    obtain ⟨⟨j, b1, b2, b3⟩, b4⟩ := r.br b hb'
    exact ⟨⟨j, b1, ((hM j).mp b2).resolve_left (fun z => hb (by rw [← z]; exact b1)), b3⟩, b4⟩
  by_cases hl : ∃ d, s.δ[i]? = some (some d)
  · obtain ⟨d, e⟩ := hl
    obtain ⟨x, u, e1, e2, e3, e4, e5⟩ := r.mt i d e hi
    have e5 : H0 x = none := by
      rcases e5 with e5 | e5
      · exact e5
      · obtain ⟨⟨j, b1, b2, b3⟩, _⟩ := r.br x e5
        exact absurd (by rw [← r.sep j i x b2 hi b3 e1]; exact b1) hb
    have sm : Same Hs (L2.upd Hs x u) := same_upd e3
    refine ⟨L2.upd Hs x u, r.len, fun b o q => ?_, fun j d' q m => ?_, fun j d' q m => ?_, fun j m q => r.dead j ((hM j).mpr (.inr m)) q, fun j l y m1 m2 => r.sep j l y ((hM j).mpr (.inr m1)) ((hM l).mpr (.inr m2)), fun p c q => ?_, br, r.s0.trans sm, r.h0, fun b q1 q2 => ?_⟩
    · by_cases z : b = x
      · subst z; rw [upd_same] at q; cases q; exact e2
      · rw [upd_ne z] at q; exact r.sub _ _ q
    · by_cases hj : j = i
      · subst hj
        rw [e] at q
        cases q
        exact ⟨_, e1, (e4.mono sm).rp upd_same⟩
      · obtain ⟨v, f1, f2⟩ := r.slot j d' q (fun z => ((hM j).mp z).elim hj m)
        exact ⟨v, f1, Rp.mono sm f2⟩
    · obtain ⟨y, w, f2, f3, f4, f5, f6⟩ := r.mt j d' q ((hM j).mpr (.inr m))
      refine ⟨y, w, f2, f3, ?_, f5.mono sm, f6⟩
      rw [upd_ne (fun z => by subst z; exact hn ((r.sep j i y ((hM j).mpr (.inr m)) hi f2 e1) ▸ m))]
      exact f4
    · obtain ⟨f1, f2, f3, f4, f5, f6, f7, f8⟩ := r.pn p c q
      refine ⟨f1, f2, ?_, f4, f5, f6, fun z => f7 ((hM _).mpr (.inr z)), f8⟩
      rw [upd_ne (fun z => f4 (by rw [z]; exact e5))]
      exact f3
    · by_cases z : b = x
      · subst z; exact e5
      · rw [upd_ne z] at q2; exact r.new b q1 q2
  · refine ⟨Hs, r.len, r.sub, fun j d' q m => ?_, fun j d' q m => r.mt j d' q ((hM j).mpr (.inr m)), fun j m q => r.dead j ((hM j).mpr (.inr m)) q, fun j l y m1 m2 => r.sep j l y ((hM j).mpr (.inr m1)) ((hM l).mpr (.inr m2)), fun p c q => ?_, br, r.s0, r.h0, r.new⟩
    · exact r.slot j d' q (fun z => ((hM j).mp z).elim (fun e => hl ⟨d', by rw [← e]; exact q⟩) m)
    · obtain ⟨f1, f2, f3, f4, f5, f6, f7, f8⟩ := r.pn p c q
      exact ⟨f1, f2, f3, f4, f5, f6, fun z => f7 ((hM _).mpr (.inr z)), f8⟩
end

/-! ### comprehensions -/
def wipeL (δ : List (Option D)) : List Nat → List (Option D)
  | [] => δ
  | v :: vs => (wipeL δ vs).set v none
def wipeS (s : S) (vs : List Nat) : S := { s with δ := wipeL s.δ vs }
theorem wipeL_length (δ : List (Option D)) : ∀ vs : List Nat, (wipeL δ vs).length = δ.length
  | [] => rfl
  | v :: vs => by unfold wipeL; rw [List.length_set, wipeL_length δ vs]
theorem wipeL_out {δ : List (Option D)} {i : Nat} : ∀ {vs : List Nat}, i ∉ vs → (wipeL δ vs)[i]? = δ[i]?
  | [], _ => rfl
  | v :: vs, h => by
    unfold wipeL
    rw [List.mem_cons, not_or] at h
    rw [List.getElem?_set_ne (Ne.symm h.1)]
    exact wipeL_out h.2
theorem wipeL_in {δ : List (Option D)} {i : Nat} : ∀ {vs : List Nat}, i ∈ vs → ∀ d, (wipeL δ vs)[i]? ≠ some (some d)
  | v :: vs, h, d => by
    unfold wipeL
    by_cases hv : v = i
    · subst hv
      intro q
      have il : v < (wipeL δ vs).length := by
        have := (List.getElem?_eq_some_iff.mp q).1
        simpa using this
      rw [List.getElem?_set_self il] at q
      cases q
    · rw [List.getElem?_set_ne hv]
      exact wipeL_in ((List.mem_cons.mp h).resolve_left (Ne.symm hv)) d
theorem wipe_eq {σ σ' : L2.St} {vs : List Nat} (hl : σ'.length = σ.length) (h : ∀ j, j ∉ vs → σ'[j]? = σ[j]?) : wipe σ' vs = wipe σ vs := by
  apply List.ext_getElem?
  intro i
  by_cases hi : i ∈ vs
  · have z : ∀ (τ : L2.St), i < τ.length → (wipe τ vs)[i]? = some none := fun τ ht => by
      have hl : i < (wipe τ vs).length := by rw [wipe_length]; exact ht
      rw [List.getElem?_eq_getElem hl]
      cases q : (wipe τ vs)[i] with
      | none => rfl
      | some v =>
        have := wipe_some (σ := τ) (vs := vs) (i := i) (x := v) (by rw [List.getElem?_eq_getElem hl, q])
        exact absurd hi this.2
    by_cases hx : i < σ.length
    · rw [z σ hx, z σ' (by rw [hl]; exact hx)]
    · rw [List.getElem?_eq_none (by rw [wipe_length, hl]; omega), List.getElem?_eq_none (by rw [wipe_length]; omega)]
  · rw [wipe_out hi, wipe_out hi]
    exact h i hi
section
variable {C : Cf} {cat : Cat} {te ta tb : TE} {t da db : DT} {ca cb : Cat}
theorem R.wipe {H0 S0 Hs : Hp} {σ : L2.St} {H : Hp} {s : S} {vs : List Nat} (r : R C H0 S0 Hs σ H s) (hM : ∀ v ∈ vs, v ∉ C.M) (hp : ∀ v ∈ vs, v ≠ C.ps) : R C H0 S0 Hs (L2.wipe σ vs) H (wipeS s vs) := by
  have out : ∀ j, j ∈ C.M → j ∉ vs := fun j m z => hM j z m
  have e1 : ∀ j, j ∉ vs → (wipeS s vs).δ[j]? = s.δ[j]? := fun j h => wipeL_out h
  refine ⟨by rw [wipe_length]; exact r.len.trans (wipeL_length s.δ vs).symm, r.sub, fun j d q m => ?_, fun j d q m => ?_, fun j m q => ?_, fun j l y m1 m2 q1 q2 => ?_, fun p c q => ?_, fun b hb => ?_, r.s0, r.h0, r.new⟩
  · by_cases hj : j ∈ vs
    · exact absurd q (wipeL_in hj d)
    · rw [e1 j hj] at q
      rw [wipe_out hj]
      exact r.slot j d q m
  · rw [e1 j (out j m)] at q
    rw [wipe_out (out j m)]
    exact r.mt j d q m
  · rw [e1 j (out j m)] at q
    rw [wipe_out (out j m)]
    exact r.dead j m q
  · rw [wipe_out (out j m1)] at q1
    rw [wipe_out (out l m2)] at q2
    exact r.sep j l y m1 m2 q1 q2
  · obtain ⟨f1, f2, f3, f4, f5, f6, f7⟩ := r.pn p c q
    have hn : C.ps ∉ vs := fun z => hp _ z rfl
    exact ⟨by rw [wipe_out hn]; exact f1, f2, f3, f4, f5, by rw [e1 _ hn]; exact f6, f7⟩
  · obtain ⟨⟨j, b1, b2, b3⟩, b4⟩ := r.br b hb
    exact ⟨⟨j, b1, b2, by rw [wipe_out (out j b2)]; exact b3⟩, b4⟩
theorem R.unwipe {H0 S0 Hs : Hp} {σ : L2.St} {H : Hp} {s : S} {vs : List Nat} (r : R C H0 S0 Hs (L2.wipe σ vs) H s) (hM : ∀ v ∈ vs, v ∉ C.M) (hp : ∀ v ∈ vs, v ≠ C.ps) (hn : ∀ v ∈ vs, ∀ d, s.δ[v]? ≠ some (some d)) : R C H0 S0 Hs σ H s := by
  have out : ∀ j, j ∈ C.M → j ∉ vs := fun j m z => hM j z m
  refine ⟨by rw [← wipe_length σ vs]; exact r.len, r.sub, fun j d q m => ?_, fun j d q m => ?_, fun j m q => ?_, fun j l y m1 m2 q1 q2 => ?_, fun p c q => ?_, fun b hb => ?_, r.s0, r.h0, r.new⟩
  · by_cases hj : j ∈ vs
    · exact absurd q (hn j hj d)
    · have := r.slot j d q m
      rw [wipe_out hj] at this
      exact this
  · have := r.mt j d q m
    rw [wipe_out (out j m)] at this
    exact this
  · have := r.dead j m q
    rw [wipe_out (out j m)] at this
    exact this
  · rw [← wipe_out (vs := vs) (out j m1)] at q1
    rw [← wipe_out (vs := vs) (out l m2)] at q2
    exact r.sep j l y m1 m2 q1 q2
  · obtain ⟨f1, f⟩ := r.pn p c q
    rw [wipe_out (fun z => hp _ z rfl)] at f1
    exact ⟨f1, f⟩
  · obtain ⟨⟨j, b1, b2, b3⟩, b4⟩ := r.br b hb
    rw [wipe_out (out j b2)] at b3
    exact ⟨⟨j, b1, b2, b3⟩, b4⟩
theorem Go.own {σ σ' : L2.St} {Hs H Hs' H' : Hp} (g : Go C σ Hs H Hs' H') (h : ∀ b, Own C σ b → Own C σ' b) : Go C σ' Hs H Hs' H' :=
  ⟨g.st, fun b o e n m => g.kp b o e (fun z => n (h b z)) m, g.th, g.nw⟩
theorem own_of {σ σ' : L2.St} {vs : List Nat} (hM : ∀ v ∈ vs, v ∉ C.M) (h : ∀ j, j ∉ vs → σ'[j]? = σ[j]?) : ∀ b, Own C σ' b → Own C σ b := fun b ⟨i, m, e⟩ => ⟨i, m, by rw [← h i (fun z => hM i z m)]; exact e⟩
theorem R.updF {H0 S0 Hs : Hp} {σ : L2.St} {H : Hp} {s : S} {x : Addr} {o : HO} (r : R C H0 S0 Hs σ H s) (h1 : Hs x = none) (h2 : H0 x = none) (h3 : ¬ Own C σ x) : R C H0 S0 Hs σ (L2.upd H x o) s := by
  have sm : ∀ b u, b ≠ x → H b = some u → L2.upd H x o b = some u := fun b u n q => by rw [upd_ne n]; exact q
  refine ⟨r.len, fun b u q => sm b u (fun z => by subst z; rw [h1] at q; cases q) (r.sub b u q), r.slot, fun j d q m => ?_, r.dead, r.sep, fun p c q => ?_, r.br, r.s0, fun b u n q => sm b u (fun z => by subst z; rw [h2] at q; cases q) (r.h0 b u n q), r.new⟩
  · obtain ⟨y, w, f2, f3, f4⟩ := r.mt j d q m
    exact ⟨y, w, f2, sm y _ (fun z => h3 ⟨j, m, by rw [← z]; exact f2⟩) f3, f4⟩
  · obtain ⟨f1, f2, f3, f4, f5, f6⟩ := r.pn p c q
    exact ⟨f1, f2.but (q := x) (fun b u n q => sm b u n q) (fun z => f4 (z ▸ h2)) (fun z => f5 (z ▸ h2)), f3, f4, f5, f6⟩
def lcD (g : D → S → (S → Prop) → Prop) (c : DB) (e : DT) (vs : List Nat) (Q : List D → S → Prop) : List D → List D → S → Prop
  | [], acc, s => Q acc s
  | d :: ds, acc, s => g d s fun s1 => c s1 fun k s2 => if k = true then e s2 fun y s3 => lcD g c e vs Q ds (acc ++ [y]) (wipeS s3 vs) else lcD g c e vs Q ds acc (wipeS s2 vs)
def dLc (it : DI) (g : D → S → (S → Prop) → Prop) (c : DB) (e : DT) (vs : List Nat) : DT := fun s Q => it s fun items s1 => items.length ≤ sizeLine ∧ lcD g c e vs (fun acc s2 => Q (.list acc) s2) items [] (wipeS s1 vs)
def dYes : DB := fun s Q => Q true s
theorem simT_yes : SimT C tYes dYes := ⟨fun H0 S0 Hs σ H s Q Q' r q k => k Hs H true s Go.refl r q⟩
theorem Go.updF {σ : L2.St} {Hs H Hs' H' : Hp} {x : Addr} {o : HO} (g : Go C σ Hs H Hs' H') (h : H x = none) : Go C σ Hs H Hs' (L2.upd H' x o) := by
  refine ⟨g.st, fun b u q n m => ?_, fun b u q => ?_, g.nw⟩
  · rw [upd_ne (ne_of_none q h)]
    exact g.kp b u q n m
  · obtain ⟨u', h'⟩ := g.th b u q
    exact ⟨u', by rw [upd_ne (ne_of_none q h)]; exact h'⟩
theorem sim_lc {wi : TI} {it : DI} {tl vs : List Nat} {g : TG} {x : D → S → (S → Prop) → Prop} {tt : TT} {c : DB} (hi : SimI C wi it) (hg : SimG C tl g x) (ht : SimT C tt c) (he : Sim C ca te t) (hv : ∀ j, j ∈ tl → j ∈ vs) (hM : ∀ v ∈ vs, v ∉ C.M) (hp : ∀ v ∈ vs, v ≠ C.ps) :
    Sim C .F (tLc wi g tt te vs) (dLc it x c t vs) := by
  refine ⟨fun H0 S0 Hs σ H s Q Q' r q k => hi.run H0 S0 Hs σ H s _ _ r q fun Hs1 H1 J items s1 g1 r1 io q1 => fun L nL => ?_⟩
  obtain ⟨hz, q1⟩ := q1
  obtain ⟨G, Y, W, hG, hY⟩ := io
  obtain ⟨l0, l1, l2, l3⟩ := r1.free0 nL
  have ow : ∀ b, Own C (L2.wipe σ vs) b → Own C σ b := own_of hM fun j h => wipe_out h
  have lw : ¬ Own C (L2.wipe σ vs) L := fun z => l2 (ow L z)
  refine lc_it W (fun i H => ∃ Hs s accV accD, R C H0 Hs1 Hs (L2.wipe σ vs) H s ∧ H L = some (.lst accV) ∧ Hs L = none ∧ RpAll C.K Hs accV accD ∧ accD.length ≤ i ∧ Go C σ Hs1 H1 Hs H ∧ (∀ v ∈ vs, ∀ d, s.δ[v]? ≠ some (some d)) ∧ lcD x c t vs (fun acc s2 => Q (.list acc) s2) (items.drop i) accD s)
    ⟨Hs1, wipeS s1 vs, [], [], ((r1.laid nL).wipe hM hp).base, upd_same, l1, .nil, Nat.le_refl _, Go.laid nL, fun v m d => wipeL_in m d, q1⟩ (fun i H _ ⟨Hs, s, _, _, r, _⟩ => hG H (r.s0.trans r.sub)) (fun i v H H' hi' ⟨Hs, s, accV, accD, r, hL, hsL, ra, la, ga, _, q⟩ y => ?_) (fun H ⟨Hs, s, accV, accD, r, hL, hsL, ra, la, ga, hn, q⟩ => ?_)
  · obtain ⟨Hs2, d, e1, r2, rp, g2⟩ := hY i H v H' H0 Hs1 Hs (L2.wipe σ vs) s hi' r r.s0 y
    rw [List.drop_eq_getElem_cons hi'] at q
    have ed : items[i] = d := by
      rw [List.getElem?_eq_getElem hi'] at e1
      exact Option.some.inj e1
    rw [ed] at q
    have hL2 := g2.kp L _ hL lw l3
    have hsL2 := none_of_new g2.nw hsL hL
    refine hg.run H0 Hs1 Hs2 (L2.wipe σ vs) H' s v d _ _ r2 rp q fun σ3 s3 r3 len3 out3 q3 => ?_
    have out3' : ∀ j, j ∉ vs → σ3[j]? = σ[j]? := fun j h => (out3 j (fun z => h (hv j z))).trans (wipe_out h)
    have wq : L2.wipe σ3 vs = L2.wipe σ vs := wipe_eq (by rw [len3, wipe_length]) out3'
    have ow3 : ∀ b, Own C σ3 b → Own C σ b := own_of hM out3'
    have lw3 : ¬ Own C σ3 L := fun z => l2 (ow3 L z)
    refine ⟨wq, ht.run H0 Hs1 Hs2 σ3 H' s3 _ _ r3 q3 fun Hs4 H4 b4 s4 g4 r4 q4 => ?_⟩
    have hL4 := g4.kp L _ hL2 lw3 l3
    have hsL4 := none_of_new g4.nw hsL2 hL2
    have ga4 : Go C σ Hs1 H1 Hs4 H4 := ga.trans ((g2.own ow).trans (g4.own ow3))
    cases b4 with
    | true =>
      refine ifp rfl (he.toE.run H0 Hs1 Hs4 σ3 H4 s4 _ _ r4 (by simpa using q4) fun Hs5 H5 w dw s5 g5 r5 v5 q5 => ?_)
      have hL5 := g5.kp L _ hL4 lw3 l3
      have hsL5 := none_of_new g5.nw hsL4 hL4
      have ra5 := RpAll.mono (g2.st.trans (g4.st.trans g5.st)) ra
      refine ⟨accV, hL5, by rw [ra5.len]; omega, Hs5, wipeS s5 vs, _, accD ++ [dw], ?_, upd_same, hsL5, ra5.app (.cons v5 .nil), by rw [List.length_append]; show accD.length + 1 ≤ i + 1; omega, (ga4.trans (g5.own ow3)).updF nL, fun v m d => wipeL_in m d, q5⟩
      rw [← wq]
      exact (r5.updF hsL5 l0 lw3).wipe hM hp
    | false =>
      refine ifn Bool.false_ne_true ⟨Hs4, wipeS s4 vs, accV, accD, ?_, hL4, hsL4, RpAll.mono (g2.st.trans g4.st) ra, by omega, ga4, fun v m d => wipeL_in m d, by simpa using q4⟩
      rw [← wq]
      exact r4.wipe hM hp
  · rw [List.drop_length] at q
    refine k Hs H _ (.list accD) s (g1.trans ga) (r1.back (r.unwipe hM hp hn)) (Val.mkC ⟨_, hL, hsL, l0, g1.back L nL, .lst ra, l2⟩) q
end
theorem rvNon {K : PySem.W.Frag} {H0 Hs H : Hp} (cat : Cat) : RV K H0 Hs H cat .non .none := by
  cases cat with
  | E => exact Rp.non
  | F => simp only [RV, isC, if_neg Bool.false_ne_true]; exact Rp.non
/-! ### a def's promise from its body -/
def start' (n : Nat) (ds : List D) : List (Option D) := ds.map some ++ List.replicate (n - ds.length) none
section
variable {P : Program} {w : World} {K : PySem.W.Frag} {mg : Str → Option Value} {base : Heap}
theorem start_slot {vs : List V} {ds : List D} {H : Hp} (N : List Str) (h : RpAll K H vs ds) : (L2.start N vs).length = (start' N.length ds).length ∧ ∀ (i : Nat) (d : D), (start' N.length ds)[i]? = some (some d) → ∃ v, (L2.start N vs)[i]? = some (some v) ∧ Rp K H v d := by
  refine ⟨?_, fun i d e => ?_⟩
  · unfold L2.start start'
    rw [List.length_append, List.length_append, List.length_map, List.length_map, List.length_replicate, List.length_replicate, h.len]
  · unfold start' at e
    by_cases hi : i < ds.length
    · rw [List.getElem?_append_left (by simpa using hi), List.getElem?_map] at e
      cases q : ds[i]? with
      | none => rw [q] at e; cases e
      | some d' =>
        rw [q] at e
        cases e
        obtain ⟨v, e1, e2⟩ := h.get q
        refine ⟨v, ?_, e2⟩
        unfold L2.start
        rw [List.getElem?_append_left (by rw [List.length_map, h.len]; exact hi), List.getElem?_map, e1]
        rfl
    · rw [List.getElem?_append_right (by simpa using hi)] at e
      rw [List.getElem?_replicate] at e
      split at e
      · cases e
      · cases e
theorem start_none {vs : List V} (N : List Str) {i : Nat} (h1 : vs.length ≤ i) (h2 : i < N.length) : (L2.start N vs)[i]? = some none := by
  unfold L2.start
  rw [List.getElem?_append_right (by simpa using h1), List.getElem?_replicate, List.length_map, if_pos (by omega)]
/-- a def without a pen -/
theorem Ok.ofN {x : Str} {st : Stmt} {N ps : List Str} {k n : Nat} {cat : Cat} {M : List Nat} {F : DF} (D' : Df K mg x st ps) (S' : FnScope N ps (defScope st)) (hn : ps.length = n) (hM : ∀ i ∈ M, n ≤ i ∧ i < N.length)
    (hbody : ∀ (f : Addr) (cdv : Value) (A : Around) (outer : List Env) (s : Shared) (H : Hp) (E : XK), Room k (A.deeper (envOfC x (defScope st) s.heap.objs.size f cdv)) →
      ∃ t d, PSs (cxOf CX0 P w K mg base N x (defScope st) f cdv A outer s H E).nox (defBody st) t ∧ SimS { K := K, pen := none, ps := 1000, M := M } cat t d ∧ ∀ ds (Q : D → Prop), ds.length = n → F ds Q → d { nx := fun _ => Q .none, rt := fun z _ => Q z } { δ := start' N.length ds, n := 0 }) :
    Ok P w K mg base (k + 1) x ps (spN K n cat F) := by
  refine Ok.mk D' S' (fun vs H Q E h => ?_) (fun f cdv A outer s H vs Q E hr h => ?_)
  · obtain ⟨Hs, ds, Q0, _, h2, h3, _⟩ := h
    rw [h2.len, h3, hn]
  obtain ⟨Hs, ds, Q0, h1, h2, h3, h4, h5⟩ := h
  obtain ⟨t, d, ht, hs, hd⟩ := hbody f cdv A outer s H E hr
  refine ⟨t, ht, ?_⟩
  obtain ⟨sl, ss⟩ := start_slot N h2
  refine hs.run H Hs Hs (L2.start N vs) H _ { nx := fun _ => Q0 .none, rt := fun z _ => Q0 z } _ ?_ (hd ds Q0 h3 h4) ⟨fun Hs' σ' H' s' r q => ?_, fun Hs' σ' H' s' v dd r rv q => ?_, fun _ _ _ _ _ q => q.elim, fun _ _ _ _ _ q => q.elim⟩
  · refine ⟨sl, h1, fun i dd e m => ss i dd e, fun i dd e m => ?_, fun i m e => start_none N (by rw [h2.len, h3]; exact (hM i m).1) (hM i m).2, fun i j a m1 m2 e1 e2 => ?_, fun p c e => (nomatch e), fun b hb => (nomatch hb), Same.refl _, fun b o _ e => e, fun b e1 e2 => absurd e1 e2⟩
    · obtain ⟨v, e1, _⟩ := ss i dd e
      rw [start_none N (by rw [h2.len, h3]; exact (hM i m).1) (hM i m).2] at e1
      cases e1
    · rw [start_none N (by rw [h2.len, h3]; exact (hM i m1).1) (hM i m1).2] at e1
      cases e1
  · exact h5 .none Hs' H' .non q r.s0 r.sub (fun b o e => r.h0 b o (fun z => z.elim (fun ⟨_, z⟩ => nomatch z) (fun z => nomatch z)) e) r.new (rvNon cat)
  · exact h5 dd Hs' H' v q r.s0 r.sub (fun b o e => r.h0 b o (fun z => z.elim (fun ⟨_, z⟩ => nomatch z) (fun z => nomatch z)) e) r.new rv
/-- a def with a pen, its first parameter -/
theorem Ok.ofP {x : Str} {st : Stmt} {N ps : List Str} {k n : Nat} {cat : Cat} {M : List Nat} {F : DFP} (D' : Df K mg x st ps) (S' : FnScope N ps (defScope st)) (hn : ps.length = n + 1) (hM : ∀ i ∈ M, n + 1 ≤ i ∧ i < N.length) (hN : 0 < N.length)
    (hbody : ∀ (f : Addr) (cdv : Value) (A : Around) (outer : List Env) (s : Shared) (H : Hp) (E : XK) (p c : Addr), Room k (A.deeper (envOfC x (defScope st) s.heap.objs.size f cdv)) →
      ∃ t d, PSs (cxOf CX0 P w K mg base N x (defScope st) f cdv A outer s H E).nox (defBody st) t ∧ SimS { K := K, pen := some (p, c), ps := 0, M := M } cat t d ∧ ∀ ds m (Q : D → Nat → Prop), ds.length = n → F ds m Q → d { nx := fun s => Q .none s.n, rt := fun z s => Q z s.n } { δ := none :: start' (N.length - 1) ds, n := m }) :
    Ok P w K mg base (k + 1) x ps (spP K n cat F) := by
  refine Ok.mk D' S' (fun vs H Q E h => ?_) (fun f cdv A outer s H vs Q E hr h => ?_)
  · obtain ⟨Hs, p, c, m, vs', ds, Q0, rfl, _, _, _, h2, h3, _⟩ := h
    rw [List.length_cons, h2.len, h3, hn]
  obtain ⟨Hs, p, c, m, vs', ds, Q0, rfl, pe, hsp, h1, h2, h3, h4, h5⟩ := h
  obtain ⟨t, d, ht, hs, hd⟩ := hbody f cdv A outer s H E p c hr
  refine ⟨t, ht, ?_⟩
  obtain ⟨N0, N', rfl⟩ : ∃ a b, N = a :: b := by
    cases N with
    | nil => exact absurd hN (by simp)
    | cons a b => exact ⟨a, b, rfl⟩
  obtain ⟨sl, ss⟩ := start_slot N' h2
  have es : L2.start (N0 :: N') (V.ref p :: vs') = some (.ref p) :: L2.start N' vs' := by
    unfold L2.start
    rw [List.map_cons, List.length_cons, List.length_cons, Nat.add_sub_add_right]
    rfl
  have en : (N0 :: N').length - 1 = N'.length := by rw [List.length_cons]; rfl
  rw [en] at hd
  have nn : ∀ i, i ∈ M → (some (V.ref p) :: L2.start N' vs')[i]? = some none := fun i m => by
    have := hM i m
    rw [List.length_cons] at this
    obtain ⟨j, rfl⟩ : ∃ j, i = j + 1 := ⟨i - 1, by omega⟩
    show (L2.start N' vs')[j]? = some none
    exact start_none N' (by rw [h2.len, h3]; omega) (by omega)
  obtain ⟨a0, r0, ep, _⟩ := pe.pen
  obtain ⟨ns, ec⟩ := pe.cells
  rw [es]
  refine hs.run H Hs Hs _ H _ { nx := fun s => Q0 .none s.n, rt := fun z s => Q0 z s.n } _ ?_ (hd ds m Q0 h3 h4) ⟨fun Hs' σ' H' s' r q => ?_, fun Hs' σ' H' s' v dd r rv q => ?_, fun _ _ _ _ _ q => q.elim, fun _ _ _ _ _ q => q.elim⟩
  · refine ⟨by rw [List.length_cons, sl]; rfl, h1, fun i dd e _ => ?_, fun i dd e m => ?_, fun i m e => nn i m, fun i j a m1 m2 e1 e2 => ?_, fun p' c' e => ?_, fun b hb => (nomatch hb), Same.refl _, fun b o _ e => e, fun b e1 e2 => absurd e1 e2⟩
    · cases i with
      | zero => cases e
      | succ j => exact ss j dd e
    · cases i with
      | zero => cases e
      | succ j =>
        obtain ⟨v, e1, _⟩ := ss j dd e
        have := nn (j + 1) m
        have : (L2.start N' vs')[j]? = some none := this
        rw [this] at e1
        cases e1
    · rw [nn i m1] at e1
      cases e1
    · cases e
      exact ⟨rfl, pe, hsp, (by rw [ep]; simp), (by rw [ec]; simp), rfl, fun z => absurd (hM 0 z).1 (by omega), fun z => (nomatch z), fun z => (nomatch z)⟩
  · have ip : ∀ b, ¬ IsPen { K := K, pen := some (p, c), ps := 0, M := M } b ↔ b ≠ p := fun b => ⟨fun h e => h (.inl ⟨c, by rw [e]⟩), fun h z => z.elim (fun ⟨c', e⟩ => h (by cases e; rfl)) (fun z => nomatch z)⟩
    obtain ⟨f1, f2, f3, _⟩ := r.pn p c rfl
    exact h5 .none s'.n Hs' H' .non q r.s0 r.sub (fun b o nb e => r.h0 b o ((ip b).mpr nb) e) r.new f3 f2 (rvNon cat)
  · have ip : ∀ b, ¬ IsPen { K := K, pen := some (p, c), ps := 0, M := M } b ↔ b ≠ p := fun b => ⟨fun h e => h (.inl ⟨c, by rw [e]⟩), fun h z => z.elim (fun ⟨c', e⟩ => h (by cases e; rfl)) (fun z => nomatch z)⟩
    obtain ⟨f1, f2, f3, _⟩ := r.pn p c rfl
    exact h5 dd s'.n Hs' H' v q r.s0 r.sub (fun b o nb e => r.h0 b o ((ip b).mpr nb) e) r.new f3 f2 rv
/-- the draws -/
structure TakeP (m : Int) (n : Nat) (Q : D → Nat → Prop) : Prop where
  hn : n ≤ 1000000000
  h0 : 0 < m
  h1 : m.natAbs < 2 ^ 9000
  k : ∀ r : Int, 0 ≤ r → r < m → Q (.int r) (n + 1)
def takeF : DFP := fun ds n Q => match ds with
  | [d] => (match d with
    | .int m => TakeP m n Q
    | _ => False)
  | _ => False
theorem ok_takeP {k : Nat} (h : Ok P w K mg base k "_law_take" ["_law_pen", "_law_many"] spTake) : Ok P w K mg base k "_law_take" ["_law_pen", "_law_many"] (spP K 1 .E takeF) := by
  refine h.imp fun vs H Q E h => ?_
  obtain ⟨Hs, p, c, m, vs', ds, Q0, rfl, pe, hsp, h1, h2, h3, h4, h5⟩ := h
  match vs', ds, h2 with
  | [v], [d], .cons hd .nil =>
    cases d <;> first | exact h4.elim | skip
    cases hd
    rename_i i
    obtain ⟨e1, e2, e3, e4⟩ := h4
    refine ⟨p, c, m, i, rfl, pe, e1, e2, e3, fun r H' r0 r1 bt pe' => ?_⟩
    refine h5 (.int r) (m + 1) Hs H' _ (e4 r r0 r1) (Same.refl _) (fun b o e => bt b o (fun z => by subst z; rw [hsp] at e; cases e) (h1 b o e)) bt (fun b q1 q2 => absurd q1 q2) hsp pe' (Rp.int r)
  | [], [], _ => exact h4.elim
  | _ :: _ :: _, _ :: _ :: _, _ => exact absurd h3 (by simp)
end

/-! ### words for the printed terms -/
section
variable {C : Cf}
theorem nm {i : Nat} (h : C.M.contains i = false) : i ∉ C.M := fun z => by
  have := List.contains_iff_mem.mpr z
  rw [h] at this
  cases this
theorem ym {i : Nat} (h : C.M.contains i = true) : i ∈ C.M := List.contains_iff_mem.mp h
theorem np {i : Nat} (h : (i == C.ps) = false) : i ≠ C.ps := fun z => by
  rw [z] at h
  simp at h
theorem nmv {vs : List Nat} (h : (vs.all fun v => !C.M.contains v) = true) : ∀ v ∈ vs, v ∉ C.M := fun v m => nm (by
  have := List.all_eq_true.mp h v m
  simpa using this)
theorem npv {vs : List Nat} (h : (vs.all fun v => !(v == C.ps)) = true) : ∀ v ∈ vs, v ≠ C.ps := fun v m => np (by
  have := List.all_eq_true.mp h v m
  simpa using this)
theorem inv' {ts vs : List Nat} (h : (ts.all fun v => vs.contains v) = true) : ∀ j, j ∈ ts → j ∈ vs := fun j m => by
  have := List.all_eq_true.mp h j m
  exact List.contains_iff_mem.mp this
theorem u65 {A : Around} {k : Nat} (hr : Room k A) : A.units + 65 < cLine := by
  have := hr.un
  omega
theorem isiK {X : Cx} (K : PySem.W.Frag) (eK : X.K = K) : CallR X (.builtin "isinstance") (rIsi K) := eK ▸ call_isi
theorem isiTK {X : Cx} (K : PySem.W.Frag) (eK : X.K = K) : CallR X (.builtin "isinstance") (rIsiT K) := eK ▸ call_isiT
theorem sumK {X : Cx} (K : PySem.W.Frag) (eK : X.K = K) (hc : X.calm = true) : CallR X (.builtin "sum") (rSum K) := eK ▸ cr_sum hc
theorem allK {X : Cx} (K : PySem.W.Frag) (eK : X.K = K) (hc : X.calm = true) : CallR X (.builtin "all") (rAll K) := eK ▸ cr_all hc
theorem anyK {X : Cx} (K : PySem.W.Frag) (eK : X.K = K) (hc : X.calm = true) : CallR X (.builtin "any") (rAny K) := eK ▸ cr_any hc
/-- list(range(..)) -/
theorem rg_all {K : PySem.W.Frag} {H : Hp} (lo hi : Int) : RpAll K H (rgV lo hi) (rgD lo (hi - lo).toNat) := by
  unfold rgV rgD
  generalize (hi - lo).toNat = n
  have : ∀ l : List Nat, RpAll K H (l.map fun i => V.int (lo + (i : Nat))) (l.map fun i => (PyData.int (lo + (i : Nat)) : D)) := fun l => by
    induction l with
    | nil => exact .nil
    | cons x l ih => exact .cons (.int _) ih
  exact this _
def dListRg1 (a : DT) : DT := fun s Q => a s fun d s1 => match d with
  | .int n => RgOk 0 n ∧ Q (.list (rgD 0 n.toNat)) s1
  | _ => False
theorem sim_listRg1 {te : TE} {t : DT} {ca : Cat} (h : Sim C ca te t) : Sim C .F (tLstRg (tRg1 te)) (dListRg1 t) := by
  refine ⟨fun H0 S0 Hs σ H s Q Q' r q k => h.run H0 S0 Hs σ H s _ _ r q fun Hs1 H1 v d s1 g1 r1 v1 q1 => ?_⟩
  cases d <;> first | exact q1.elim | skip
  rename_i n
  cases v1.int'
  have e : (n - 0).toNat = n.toNat := by omega
  refine ⟨n, rfl, q1.1, fun p np => k Hs1 _ _ (.list (rgD 0 n.toNat)) s1 (g1.trans (Go.laid np)) (r1.laid np) ((r1.newList np ?_).anew fun a e => g1.back a e) q1.2⟩
  rw [← e]
  exact rg_all 0 n
def dListRg2 (a b : DT) : DT := fun s Q => a s fun d s1 => b s1 fun e s2 => match d, e with
  | .int m, .int n => RgOk m n ∧ Q (.list (rgD m (n - m).toNat)) s2
  | _, _ => False
theorem sim_listRg2 {ta tb : TE} {da db : DT} {ca cb : Cat} (ha : Sim C ca ta da) (hb : Sim C cb tb db) : Sim C .F (tLstRg (tRg2 ta tb)) (dListRg2 da db) := by
  refine ⟨fun H0 S0 Hs σ H s Q Q' r q k => ha.run H0 S0 Hs σ H s _ _ r q fun Hs1 H1 v d s1 g1 r1 v1 q1 => hb.run H0 S0 Hs1 σ H1 s1 _ _ r1 q1 fun Hs2 H2 w e s2 g2 r2 v2 q2 => ?_⟩
  cases d <;> cases e <;> first | exact q2.elim | skip
  rename_i m n
  cases v1.int'
  cases v2.int'
  exact ⟨m, n, rfl, rfl, q2.1, fun p np => k Hs2 _ _ (.list (rgD m (n - m).toNat)) s2 ((g1.trans g2).trans (Go.laid np)) (r2.laid np) ((r2.newList np (rg_all m n)).anew fun a e => (g1.trans g2).back a e) q2.2⟩
end

/-! ### more words -/
theorem boot_isi : bootBuiltins "isinstance" = some (.builtin "isinstance") := by decide +kernel
theorem boot_len : bootBuiltins "len" = some (.builtin "len") := by decide +kernel
theorem boot_tuple : bootBuiltins "tuple" = some (.type "tuple") := by decide +kernel
theorem boot_list : bootBuiltins "list" = some (.type "list") := by decide +kernel
theorem boot_str : bootBuiltins "str" = some (.type "str") := by decide +kernel
theorem boot_int : bootBuiltins "int" = some (.type "int") := by decide +kernel
theorem boot_bool : bootBuiltins "bool" = some (.type "bool") := by decide +kernel
theorem boot_dict : bootBuiltins "dict" = some (.type "dict") := by decide +kernel
theorem boot_min : bootBuiltins "min" = some (.builtin "min") := by decide +kernel
theorem boot_max : bootBuiltins "max" = some (.builtin "max") := by decide +kernel
theorem boot_sum : bootBuiltins "sum" = some (.builtin "sum") := by decide +kernel
theorem boot_all : bootBuiltins "all" = some (.builtin "all") := by decide +kernel
theorem boot_any : bootBuiltins "any" = some (.builtin "any") := by decide +kernel
section
variable {C : Cf} {te ta tb : TE} {t da db : DT} {ca cb : Cat}
theorem nb {i : Nat} (h : C.bs.contains i = false) : i ∉ C.bs := fun z => by
  have := List.contains_iff_mem.mpr z
  rw [h] at this
  cases this
def dNeg (a : DT) : DT := fun s Q => a s fun d s1 => match d with
  | .int i => Q (.int (-i)) s1
  | _ => False
theorem sim_neg (h : Sim C ca te t) : Sim C .F (tUn (rU fun i => .int (-i)) te) (dNeg t) := by
  refine ⟨fun H0 S0 Hs σ H s Q Q' r q k => h.run H0 S0 Hs σ H s _ _ r q fun Hs1 H1 v d s1 g1 r1 v1 q1 => ?_⟩
  cases d <;> first | exact q1.elim | skip
  rename_i i
  cases v1.int'
  exact ⟨i, rfl, k Hs1 H1 _ (.int (-i)) s1 g1 r1 (Val.mkP (Rp.int _) rfl) q1⟩
/-- sep.join(xs) -/
def rJoinQ (K : PySem.W.Frag) : V → List V → Hp → VK → Prop := fun x xs H Q => ∃ a p, ∃ ys : List Str, x = .str a ∧ xs = [.ref p] ∧ (SqL K H p (ys.map V.str) ∨ SqT K H p (ys.map V.str)) ∧
    (ys.map (·.length)).sum + ys.length * a.length ≤ 16777216 ∧ Q (.str (Txt.join a ys)) H
theorem joinK {X : Cx} (K : PySem.W.Frag) (eK : X.K = K) {o e : Expr} {to te : TE} {apos pos : Pos} (ho : PE X o to) (he : PE X e te) (hs : starEach [e] X.env = [(false, eval e X.env)] := by rfl) (hbase : attributeBase o "join" X.env (eval o X.env) = eval o X.env := by rfl) (hline : (apos.endLine == pos.line) = true := by rfl) :
    PE X (.Call (.Attribute o "join" apos) [e] [] pos) (tM1 (rJoinQ K) to te) := by
  subst eK
  exact pe_join ho he hs hbase hline
def strsOf : List D → Option (List Str)
  | [] => some []
  | .str i :: r => (strsOf r).map (i :: ·)
  | _ :: _ => none
theorem strs_rp {K : PySem.W.Frag} {H : Hp} : ∀ {xs : List V} {ds : List D} {ns : List Str}, RpAll K H xs ds → strsOf ds = some ns → xs = ns.map V.str
  | _, _, _, .nil, e => by cases e; rfl
  | _, _, _, .cons (d := d) (ds := ds) a b, e => by
    cases d <;> first | (exfalso; have e' : (none : Option (List Str)) = some _ := e; cases e'; done) | skip
    cases a
    simp only [strsOf, Option.map_eq_some_iff] at e
    obtain ⟨ms, e1, rfl⟩ := e
    rw [strs_rp b e1]
    rfl
def joinD (a : Str) (d : D) (Q : D → Prop) : Prop := match d with
  | .list xs => ∃ ys, strsOf xs = some ys ∧ (ys.map (·.length)).sum + ys.length * a.length ≤ 16777216 ∧ Q (.str (Txt.join a ys))
  | .tuple xs => ∃ ys, strsOf xs = some ys ∧ (ys.map (·.length)).sum + ys.length * a.length ≤ 16777216 ∧ Q (.str (Txt.join a ys))
  | _ => False
def dJoin (a b : DT) : DT := fun s Q => a s fun x s1 => match x with
  | .str z => b s1 fun y s2 => joinD z y fun w => Q w s2
  | _ => False
theorem sim_join (ha : Sim C ca ta da) (hb : Sim C cb tb db) : Sim C .F (tM1 (rJoinQ C.K) ta tb) (dJoin da db) := by
  refine ⟨fun H0 S0 Hs σ H s Q Q' r q k => ha.toE.run H0 S0 Hs σ H s _ _ r q fun Hs1 H1 v d s1 g1 r1 v1 q1 => ?_⟩
  cases d <;> first | exact q1.elim | skip
  rename_i z
  cases v1
  refine ⟨⟨z, rfl⟩, hb.run H0 S0 Hs1 σ H1 s1 _ _ r1 q1 fun Hs2 H2 w e s2 g2 r2 v2 q2 => ?_⟩
  have rd := v2.rd r2.sub
  cases e <;> first | exact q2.elim | skip
  case list xs =>
    obtain ⟨p, ys, rfl, e1, e2⟩ := Rd'.list rd
    obtain ⟨zs, e3, e4, q2⟩ := q2
    rw [strs_rp e2 e3] at e1
    exact ⟨z, p, zs, rfl, rfl, .inl (SqL.of e1), e4, k Hs2 H2 _ (.str _) s2 (g1.trans g2) r2 (Val.mkP (Rp.str _) rfl) q2⟩
  case tuple xs =>
    obtain ⟨zs, e3, e4, q2⟩ := q2
    cases (show Rp C.K Hs2 w (.tuple xs) from rd) with
    | @tup p ys _ e1 e2 =>
    rw [strs_rp e2 e3] at e1
    exact ⟨z, p, zs, rfl, rfl, .inr (Same.sqT r2.sub e1), e4, k Hs2 H2 _ (.str _) s2 (g1.trans g2) r2 (Val.mkP (Rp.str _) rfl) q2⟩
theorem opA_iadd : OpA C (rI0 fun i j => .int (i + j)) (fun x y Q => match x, y with | .int i, .int j => Q (.int (i + j)) | _, _ => False) := by
  intro H0 S0 Hs σ H s x y dx dy Q Q' r hx hy q k
  cases dx <;> cases dy <;> first | exact q.elim | skip
  case int.int i j => cases hx; cases hy; exact ⟨i, j, rfl, rfl, k Hs H _ (.int (i + j)) Go.refl r (Val.mkP (Rp.int _) rfl) q⟩
end

/-! ### own classes, globals -/
def Mt (K : PySem.W.Frag) (C : Addr) (m q : Str) (st : Stmt) (ps : List Str) : Prop := ∃ (f : Addr) (fd : FuncData), Fun K m q st f fd ∧ Binds K fd ps [] ∧ Meth K C m f
def OkM (P : Program) (w : World) (K : PySem.W.Frag) (mg : Str → Option Value) (base : Heap) (C : Addr) (k : Nat) (m : Str) (ps : List Str) (sp : Sp) : Prop :=
  ∃ (f : Addr) (fd : FuncData), Meth K C m f ∧ Binds K fd ps [] ∧ FnOk P w K mg base CX0 k f fd ps sp
def Gv (mg : Str → Option Value) (x : Str) (v : V) : Prop := ∃ u, mg x = some u ∧ RelV v u
/-- a class as the top made it: its name, its __init__ -/
structure Kl (K : PySem.W.Frag) (mg : Str → Option Value) (C : Addr) (x q : Str) (st : Stmt) (ps : List Str) : Prop where
  cl : Cls K C
  g : mg x = some (.ref C)
  mks : PySem.W.makesIn K C = true
  kp : PySem.W.keepIn K (.ref C) = true
  init : Mt K C "__init__" q st ps
section
variable {P : Program} {w : World} {K : PySem.W.Frag} {mg : Str → Option Value} {base : Heap}
theorem OkM.mk {m q : Str} {C : Addr} {st : Stmt} {N ps : List Str} {k : Nat} {sp : Sp} (D : Mt K C m q st ps) (S : FnScope N ps (defScope st)) (len : ∀ vs H Q E, sp vs H Q E → vs.length = ps.length)
    (hbody : ∀ (f : Addr) (cdv : Value) (A : Around) (outer : List Env) (s : Shared) (H : Hp) (vs : List V) (Q : VK) (E : XK), Room k (A.deeper (envOfC q (defScope st) s.heap.objs.size f cdv)) → sp vs H Q E →
      ∃ t, PSs (cxOf CX0 P w K mg base N q (defScope st) f cdv A outer s H E).nox (defBody st) t ∧ t { nx := fun _ H' => Q .non H', rt := Q } (start N vs) H) : OkM P w K mg base C (k + 1) m ps sp := by
  obtain ⟨f, fd, F, b, g⟩ := D
  exact ⟨f, fd, g, b, F.ok S len fun cdv A outer s H vs Q E hr h => hbody f cdv A outer s H vs Q E hr h⟩
theorem OkM.mono {C : Addr} {m : Str} {ps : List Str} {j k : Nat} {sp : Sp} (h : OkM P w K mg base C j m ps sp) (l : j ≤ k) : OkM P w K mg base C k m ps sp := by
  obtain ⟨f, fd, hm, hb, F⟩ := h
  exact ⟨f, fd, hm, hb, F.mono l⟩
end
section
variable {X : Cx}
theorem pe_mth {pl : Sem Bool} {C : Addr} {k : Nat} {m : Str} {ps : List Str} {sp : Sp} {o e : Expr} {es : List Expr} {ta : TE} {t : TA} {apos pos : Pos} (he : PE X o ta) (c : Cls X.K C) (O : OkM X.prog X.w X.K X.mg X.base C k m ps sp) (hr : Room k X.A) (ha : PA X (e :: es) t)
    (hst : starEach (e :: es) X.env = (false, eval e X.env) :: starEach es X.env := by rfl) (hpl : (backTo pos (starEach es X.env)).any (·.1) = false := by rfl)
    (ht : eval (.Call (.Attribute o m apos) (e :: es) [] pos) X.env = (do
      let ov ← eval o X.env
      standAt apos.atName
      let (f, first) ← holding [ov] (getMethod ov m pl)
      callWith pos f first (backTo pos (starEach (e :: es) X.env)) (backToKw pos (keywordEach [] X.env))) := by rfl) :
    PE X (.Call (.Attribute o m apos) (e :: es) [] pos) (tMeth C m sp [] E0 ta t) := by
  obtain ⟨f, fd, hm, hb, F⟩ := O
  exact pe_meth (pl := pl) he c hm F hr hb .nil pass0 ha hst hpl ht
theorem pe_mth0 {pl : Sem Bool} {C : Addr} {k : Nat} {m : Str} {ps : List Str} {sp : Sp} {o : Expr} {ta : TE} {apos pos : Pos} (he : PE X o ta) (c : Cls X.K C) (O : OkM X.prog X.w X.K X.mg X.base C k m ps sp) (hr : Room k X.A)
    (ht : eval (.Call (.Attribute o m apos) [] [] pos) X.env = (do
      let ov ← eval o X.env
      standAt apos.atName
      let (f, first) ← holding [ov] (getMethod ov m pl)
      callWith pos f first (backTo pos (starEach [] X.env)) (backToKw pos (keywordEach [] X.env))) := by rfl) :
    PE X (.Call (.Attribute o m apos) [] [] pos) (tMeth C m sp [] E0 ta tNil) := by
  obtain ⟨f, fd, hm, hb, F⟩ := O
  exact pe_meth0 (pl := pl) he c hm F hr hb .nil pass0 ht
theorem pe_new {C : Addr} {k : Nat} {x q : Str} {st : Stmt} {ps : List Str} {sp : Sp} {e : Expr} {es : List Expr} {t : TA} {p pos : Pos} (L : Kl X.K X.mg C x q st ps) (O : OkM X.prog X.w X.K X.mg X.base C k "__init__" ps sp) (hr : Room (k + 1) X.A) (hg : Gl X x) (ha : PA X (e :: es) t)
    (hdb : (x == ("__debug__" : Str)) = false := by decide) (he : starEach (e :: es) X.env = (false, eval e X.env) :: starEach es X.env := by rfl) (hpl : (backTo pos (starEach es X.env)).any (·.1) = false := by rfl) :
    PE X (.Call (.Name x p) (e :: es) [] pos) (tMake C sp [] E0 t) := by
  obtain ⟨f, fd, hm, hb, F⟩ := O
  exact pe_make ⟨L.mks, hm.at_, hm.fn, L.kp⟩ F hr hg L.g hb .nil pass0 ha hdb he hpl
theorem pe_gv {x : Str} {v : V} {pos : Pos} (hg : Gl X x) (h : Gv X.mg x v) (hd : (x == ("__debug__" : Str)) = false := by decide) : PE X (.Name x pos) (tC v) := by
  obtain ⟨u, e, r⟩ := h
  exact pe_glob hg e r hd
theorem tkEnd {e : Prop} (h : e) : e := h
end

/-! ### loops by invariants, promises of nothing, the law's own frame -/
theorem forD_ind {g : D → S → (S → Prop) → Prop} {b : DSt} {E : DEnds} {items : List D} (Inv : Nat → S → Prop) {s : S} (h0 : Inv 0 s)
    (step : ∀ i d s (N : S → Prop), items[i]? = some d → Inv i s → (∀ s', Inv (i + 1) s' → N s') → g d s fun s1 => b { E with nx := N, ct := N, bk := E.nx } s1) (fin : ∀ s, Inv items.length s → E.nx s) : forD g b E items s := by
  have : ∀ (n i : Nat) (s : S), i + n = items.length → Inv i s → forD g b E (items.drop i) s := by
    intro n
    induction n with
    | zero =>
      intro i s e h
      rw [List.drop_of_length_le (by omega)]
      exact fin s (by rw [← e, Nat.add_zero]; exact h)
    | succ n ih =>
      intro i s e h
      have hi : i < items.length := by omega
      rw [List.drop_eq_getElem_cons hi]
      exact step i _ s _ (List.getElem?_eq_getElem hi) h fun s' h' => ih (i + 1) s' (by omega) h'
  exact this items.length 0 s (by omega) h0
theorem lcD_ind {g : D → S → (S → Prop) → Prop} {c : DB} {e : DT} {vs : List Nat} {Q : List D → S → Prop} {items : List D} (Inv : Nat → List D → S → Prop) {s : S} (h0 : Inv 0 [] s)
    (step : ∀ i d acc s (N : List D → S → Prop), items[i]? = some d → Inv i acc s → (∀ acc' s', Inv (i + 1) acc' s' → N acc' s') → g d s fun s1 => c s1 fun k s2 => if k = true then e s2 fun y s3 => N (acc ++ [y]) (wipeS s3 vs) else N acc (wipeS s2 vs))
    (fin : ∀ acc s, Inv items.length acc s → Q acc s) : lcD g c e vs Q items [] s := by
  have : ∀ (n i : Nat) (acc : List D) (s : S), i + n = items.length → Inv i acc s → lcD g c e vs Q (items.drop i) acc s := by
    intro n
    induction n with
    | zero =>
      intro i acc s e h
      rw [List.drop_of_length_le (by omega)]
      exact fin acc s (by rw [← e, Nat.add_zero]; exact h)
    | succ n ih =>
      intro i acc s e h
      have hi : i < items.length := by omega
      rw [List.drop_eq_getElem_cons hi]
      exact step i _ acc s (fun acc s => lcD g c _ vs Q (items.drop (i + 1)) acc s) (List.getElem?_eq_getElem hi) h fun acc' s' h' => ih (i + 1) acc' s' (by omega) h'
  exact this items.length 0 [] s (by omega) h0
theorem rgD_len (lo : Int) (n : Nat) : (rgD lo n).length = n := by unfold rgD; rw [List.length_map, List.length_range]
theorem rgD_get {lo : Int} {n i : Nat} {d : D} (h : (rgD lo n)[i]? = some d) : i < n ∧ d = .int (lo + (i : Nat)) := by
  have hi := (List.getElem?_eq_some_iff.mp h).1
  rw [rgD_len] at hi
  refine ⟨hi, ?_⟩
  unfold rgD at h
  rw [List.getElem?_map, List.getElem?_range hi] at h
  exact (Option.some.inj h).symm
section
variable {P : Program} {w : World} {K : PySem.W.Frag} {mg : Str → Option Value} {base : Heap}
theorem Ok.no {x : Str} {st : Stmt} {N ps : List Str} {sp : Sp} (D' : Df K mg x st ps) (S' : FnScope N ps (defScope st)) (h : ∀ vs H Q E, sp vs H Q E → False) : Ok P w K mg base 1 x ps sp :=
  Ok.mk D' S' (fun vs H Q E z => (h vs H Q E z).elim) (fun f cdv A outer s H vs Q E hr z => (h vs H Q E z).elim)
theorem spN_no {n : Nat} {cat : Cat} {F : DF} (h : ∀ ds Q, F ds Q → False) : ∀ vs H Q E, spN K n cat F vs H Q E → False := fun vs H Q E ⟨_, _, _, _, _, _, f, _⟩ => h _ _ f
theorem spP_no {n : Nat} {cat : Cat} {F : DFP} (h : ∀ ds n Q, F ds n Q → False) : ∀ vs H Q E, spP K n cat F vs H Q E → False := fun vs H Q E ⟨_, _, _, _, _, _, _, _, _, _, _, _, _, f, _⟩ => h _ _ _ f
/-- the law: its pen is opened first, then the rest in the plain layer -/
theorem Ok.ofLaw {st : Stmt} {fa : Addr} {fda : FuncData} {N0 N1 : Str} {N' : List Str} {k : Nat} {M : List Nat} (F : Fun K "law" "law" st fa fda) (S' : FnScope (N0 :: N1 :: N') ["_law_script"] (defScope st)) (hM : ∀ i ∈ M, 2 ≤ i ∧ i < N'.length + 2)
    (hbody : ∀ (f : Addr) (cdv : Value) (A : Around) (outer : List Env) (s : Shared) (H : Hp) (E : XK), Room k (A.deeper (envOfC "law" (defScope st) s.heap.objs.size f cdv)) →
      ∃ t, PSs (cxOf CX0 P w K mg base (N0 :: N1 :: N') "law" (defScope st) f cdv A outer s H E).nox (defBody st) (tSeq (tAsg (tCall (spOpen K) [] E0 (tCons (tVar 0) tNil)) (gName 1)) t) ∧
        ∀ p c, ∃ d, SimS { K := K, pen := some (p, c), ps := 1, M := M } .E t d ∧ d { nx := fun _ => False, rt := fun z _ => z = .bool true } { δ := none :: none :: List.replicate N'.length none, n := 0 }) :
    FnOk P w K mg base CX0 (k + 1) fa fda ["_law_script"] (spLaw K) := by
  refine F.ok S' (fun vs H Q E h => ?_) (fun cdv A outer s H vs Q E hr h => ?_)
  · obtain ⟨a, ns, rfl, _⟩ := h; rfl
  obtain ⟨a, ns, rfl, hS, hl, q⟩ := h
  obtain ⟨t, ht, hs⟩ := hbody fa cdv A outer s H E hr
  refine ⟨_, ht, ?_⟩
  refine ⟨_, rfl, a, ns, rfl, hS, hl, fun p c H1 sm np nc pe => ?_⟩
  obtain ⟨d, sd, hd⟩ := hs p c
  obtain ⟨a0, r0, ep, _⟩ := pe.pen
  obtain ⟨nn, ec⟩ := pe.cells
  have es : (L2.start (N0 :: N1 :: N') [V.ref a]).set 1 (some (.ref p)) = some (.ref a) :: some (.ref p) :: List.replicate N'.length none := by
    unfold L2.start
    rfl
  show t _ ((L2.start (N0 :: N1 :: N') [V.ref a]).set 1 (some (.ref p))) H1
  rw [es]
  have gn : ∀ i, i ∈ M → (some (V.ref a) :: some (V.ref p) :: List.replicate N'.length (none : Option V))[i]? = some none := fun i m => by
    have := hM i m
    obtain ⟨j, rfl⟩ : ∃ j, i = j + 2 := ⟨i - 2, by omega⟩
    show (List.replicate N'.length none)[j]? = some none
    rw [List.getElem?_replicate, if_pos (by omega)]
  refine sd.run H1 (fun _ => none) (fun _ => none) _ H1 _ _ _ ?_ hd ⟨fun Hs' σ' H' s' r q => q.elim, fun Hs' σ' H' s' v dd r rv e => ?_, fun _ _ _ _ _ q => q.elim, fun _ _ _ _ _ q => q.elim⟩
  · refine ⟨(by simp), (fun b o e => nomatch e), fun i dd e _ => ?_, fun i dd e m => ?_, fun i m e => gn i m, fun i j x m1 m2 e1 e2 => ?_, fun p' c' e => ?_, fun b hb => (nomatch hb), Same.refl _, fun b o _ e => e, fun b e1 e2 => absurd e1 e2⟩
    · exfalso
      match i, e with
      | j + 2, e =>
        have e : (List.replicate N'.length (none : Option D))[j]? = some (some dd) := e
        rw [List.getElem?_replicate] at e
        split at e <;> cases e
    · exfalso
      match i, e with
      | j + 2, e =>
        have e : (List.replicate N'.length (none : Option D))[j]? = some (some dd) := e
        rw [List.getElem?_replicate] at e
        split at e <;> cases e
    · rw [gn i m1] at e1
      cases e1
    · cases e
      exact ⟨rfl, pe, rfl, (by rw [ep]; simp), (by rw [ec]; simp), rfl, fun z => absurd (hM 1 z).1 (by omega), fun z => (nomatch z), fun z => (nomatch z)⟩
  · have e' : dd = .bool true := e
    subst e'
    have rv' : Rp K Hs' v (.bool true) := rv
    cases rv'
    exact q H'
end

/-- one statement, then the rest, with a word between them -/
def dCut (a b : DSt) : DSt := fun E s => ∃ Mid : S → Prop, a { E with nx := Mid } s ∧ ∀ s', Mid s' → b E s'
theorem simS_cut {C : Cf} {cat : Cat} {ts us : TS} {a b : DSt} (ha : SimS C cat ts a) (hb : SimS C cat us b) : SimS C cat (tSeq ts us) (dCut a b) :=
  ⟨fun H0 S0 Hs σ H s E D' r ⟨Mid, q, h⟩ k => ha.run H0 S0 Hs σ H s _ _ r q ⟨fun Hs σ H s r q => hb.run H0 S0 Hs σ H s E D' r (h s q) k, k.rt, k.bk, k.ct⟩⟩
theorem small9 {m : Int} (h0 : 0 < m) (h1 : m < 2 ^ 63) : m.natAbs < 2 ^ 9000 := Nat.lt_of_lt_of_le (show m.natAbs < 2 ^ 63 by omega) (Nat.pow_le_pow_right (by decide) (by decide))
theorem take_ok {m : Int} {n : Nat} {Q : D → Nat → Prop} (hn : n ≤ 1000000000) (h0 : 0 < m) (h1 : m < 2 ^ 63) (k : ∀ r : Int, 0 ≤ r → r < m → Q (.int r) (n + 1)) : TakeP m n Q := ⟨hn, h0, small9 h0 h1, k⟩
theorem log_lt {n k : Nat} (h : n < 2 ^ k) (hk : 0 < k) : n.log2 < k := by
  by_cases h0 : n = 0
  · subst h0
    exact Nat.lt_of_le_of_lt (Nat.le_of_eq (by decide)) hk
  · exact (Nat.log2_lt h0).mpr h
theorem mulOk {i j : Int} (hi : i.natAbs < 2 ^ 2000) (hj : j.natAbs < 2 ^ 2000) : CMulW i j := by
  have h1 := log_lt hi (by decide)
  have h2 := log_lt hj (by decide)
  show i.natAbs.log2 + j.natAbs.log2 < 1000000
  omega
theorem lt2000 {n : Nat} (h : n < 10 ^ 40) : n < 2 ^ 2000 := Nat.lt_of_lt_of_le (show n < 2 ^ 200 from Nat.lt_of_lt_of_le h (by decide)) (Nat.pow_le_pow_right (by decide) (by decide))
theorem ix_ok {ds : List D} {i : Int} {Q : D → Prop} {d : D} (j : Nat) (e : i = (j : Int)) (h : ds[j]? = some d) (q : Q d) : IxP (atI ds i) Q := ⟨d, atI_of j e h, q⟩
theorem ixs_ok {z : Str} {i : Int} {Q : D → Prop} {c : Nat} (hz : z.length ≤ sizeLine) (e : atI z.cps.toList i = some c) (q : Q (.str ⟨#[c]⟩)) : IxS z i Q := ⟨hz, c, e, q⟩

/-! ### plain lists -/
theorem cutD_to (ds : List D) (j : Nat) : cutD ds none (some (j : Int)) = ds.take j := by
  unfold cutD
  rw [HT.sIx_none, HT.sIx_nat, List.drop_zero, Nat.sub_zero]
  rcases Nat.le_total j ds.length with h | h
  · rw [Nat.min_eq_left h]
  · rw [Nat.min_eq_right h, List.take_of_length_le (Nat.le_refl _), List.take_of_length_le h]
theorem cutD_from (ds : List D) (j : Nat) (h : j ≤ ds.length) : cutD ds (some (j : Int)) none = ds.drop j := by
  unfold cutD
  rw [HT.sIx_none, HT.sIx_nat, Nat.min_eq_left h]
  exact List.take_of_length_le (by rw [List.length_drop]; omega)
theorem prD_get {xs ys : List D} {i : Nat} {d : D} (h : (prD xs ys)[i]? = some d) : ∃ x y, xs[i]? = some x ∧ ys[i]? = some y ∧ d = .tuple [x, y] := by
  unfold prD at h
  rw [List.getElem?_map] at h
  cases e : (xs.zip ys)[i]? with
  | none => rw [e] at h; cases h
  | some p =>
    rw [e] at h
    obtain ⟨x, y⟩ := p
    obtain ⟨h1, h2⟩ := List.getElem?_zip_eq_some.mp e
    exact ⟨x, y, h1, h2, (Option.some.inj h).symm⟩
/-- data without dicts, of so many floors -/
def dat : Nat → D → Prop
  | _, .none => True
  | _, .bool _ => True
  | _, .int _ => True
  | _, .str _ => True
  | k + 1, .list ds => ds.length ≤ sizeLine ∧ ∀ d ∈ ds, dat k d
  | k + 1, .tuple ds => ds.length ≤ sizeLine ∧ ∀ d ∈ ds, dat k d
  | _, _ => False
def sameF : Nat → DF
  | 0 => fun _ _ => False
  | k + 1 => fun ds Q => match ds with
    | [a, b] => a = b ∧ dat k a ∧ Q (.bool true)
    | _ => False
theorem nin_true {n : Nat} {Q : D → Prop} (q : Q (.bool true)) : inD true (.bool false) (.list (List.replicate n (.bool true))) Q := by
  refine .inl ⟨rfl, ?_, ?_⟩
  · rw [List.all_eq_true]
    intro x hx
    rw [List.eq_of_mem_replicate hx]
    rfl
  · have : ((List.replicate n (PyData.bool true)).any fun z => eqF z (.bool false)) = false := by
      rw [List.any_eq_false]
      intro x hx
      rw [List.eq_of_mem_replicate hx]
      decide
    rw [this]
    exact q


def topS (i : Nat) : Stmt := PySem.Challenge.pw_leapwork_k48_writings_read.main.body.getD i (.Pass ⟨0, 0, 0, 0⟩)
abbrev s_read : Stmt := topS 10
theorem sc_read : FnScope ["writing", "scribe", "found"] ["writing"] (defScope s_read) := ⟨rfl, rfl, rfl, by decide +kernel, rfl, by decide +kernel, by decide +kernel⟩
abbrev s__law_spread : Stmt := topS 12
theorem sc__law_spread : FnScope ["_law_cell", "_law_at", "_law_primes", "_law_one", "_law_two", "_law_three"] ["_law_cell", "_law_at"] (defScope s__law_spread) := ⟨rfl, rfl, rfl, by decide +kernel, rfl, by decide +kernel, by decide +kernel⟩
abbrev s__law_open : Stmt := topS 13
theorem sc__law_open : FnScope ["_law_script", "_law_cells", "_law_k", "_law_cell"] ["_law_script"] (defScope s__law_open) := ⟨rfl, rfl, rfl, by decide +kernel, rfl, by decide +kernel, by decide +kernel⟩
abbrev s__law_take : Stmt := topS 14
theorem sc__law_take : FnScope ["_law_pen", "_law_many", "_law_at", "_law_cell", "_law_found"] ["_law_pen", "_law_many"] (defScope s__law_take) := ⟨rfl, rfl, rfl, by decide +kernel, rfl, by decide +kernel, by decide +kernel⟩
abbrev s__law_same : Stmt := topS 15
theorem sc__law_same : FnScope ["_law_found", "_law_due", "_law_one", "_law_other"] ["_law_found", "_law_due"] (defScope s__law_same) := ⟨rfl, rfl, rfl, by decide +kernel, rfl, by decide +kernel, by decide +kernel⟩
abbrev s__law_wnumber : Stmt := topS 16
theorem sc__law_wnumber : FnScope ["_law_pen", "_law_way", "_law_size", "_law_number", "_law_k"] ["_law_pen"] (defScope s__law_wnumber) := ⟨rfl, rfl, rfl, by decide +kernel, rfl, by decide +kernel, by decide +kernel⟩
abbrev s__law_wshow : Stmt := topS 17
theorem sc__law_wshow : FnScope ["_law_thing", "_law_part"] ["_law_thing"] (defScope s__law_wshow) := ⟨rfl, rfl, rfl, by decide +kernel, rfl, by decide +kernel, by decide +kernel⟩
abbrev s__law_wword : Stmt := topS 18
theorem sc__law_wword : FnScope ["_law_pen", "_law_letters", "_law_size", "_law_k"] ["_law_pen"] (defScope s__law_wword) := ⟨rfl, rfl, rfl, by decide +kernel, rfl, by decide +kernel, by decide +kernel⟩
abbrev s__law_wpart : Stmt := topS 19
theorem sc__law_wpart : FnScope ["_law_pen", "_law_deep", "_law_way", "_law_k"] ["_law_pen", "_law_deep"] (defScope s__law_wpart) := ⟨rfl, rfl, rfl, by decide +kernel, rfl, by decide +kernel, by decide +kernel⟩
abbrev s__law_wtree : Stmt := topS 20
theorem sc__law_wtree : FnScope ["_law_pen", "_law_deep", "_law_found", "_law_k", "_law_row", "_law_turn", "_law_at"] ["_law_pen", "_law_deep"] (defScope s__law_wtree) := ⟨rfl, rfl, rfl, by decide +kernel, rfl, by decide +kernel, by decide +kernel⟩
abbrev s__law_wwide : Stmt := topS 21
theorem sc__law_wwide : FnScope ["_law_pen", "_law_many", "_law_way", "_law_one", "_law_row", "_law_k"] ["_law_pen"] (defScope s__law_wwide) := ⟨rfl, rfl, rfl, by decide +kernel, rfl, by decide +kernel, by decide +kernel⟩
abbrev s_law : Stmt := topS 22
theorem sc_law : FnScope ["_law_script", "_law_pen", "_law_turn", "_law_way", "_law_thing", "_law_due"] ["_law_script"] (defScope s_law) := ⟨rfl, rfl, rfl, by decide +kernel, rfl, by decide +kernel, by decide +kernel⟩
abbrev s_Scribe___init__ : Stmt := inClass (topS 9) 0
theorem sc_Scribe___init__ : FnScope ["self", "signs"] ["self", "signs"] (defScope s_Scribe___init__) := ⟨rfl, rfl, rfl, by decide +kernel, rfl, by decide +kernel, by decide +kernel⟩
abbrev s_Scribe_sign_ahead : Stmt := inClass (topS 9) 1
theorem sc_Scribe_sign_ahead : FnScope ["self"] ["self"] (defScope s_Scribe_sign_ahead) := ⟨rfl, rfl, rfl, by decide +kernel, rfl, by decide +kernel, by decide +kernel⟩
abbrev s_Scribe_need_sign : Stmt := inClass (topS 9) 2
theorem sc_Scribe_need_sign : FnScope ["self", "some", "sign"] ["self", "some"] (defScope s_Scribe_need_sign) := ⟨rfl, rfl, rfl, by decide +kernel, rfl, by decide +kernel, by decide +kernel⟩
abbrev s_Scribe_run_of : Stmt := inClass (topS 9) 3
theorem sc_Scribe_run_of : FnScope ["self", "some", "most", "end", "found"] ["self", "some", "most"] (defScope s_Scribe_run_of) := ⟨rfl, rfl, rfl, by decide +kernel, rfl, by decide +kernel, by decide +kernel⟩
abbrev s_Scribe_whole_number : Stmt := inClass (topS 9) 4
theorem sc_Scribe_whole_number : FnScope ["self", "turned", "first", "number"] ["self"] (defScope s_Scribe_whole_number) := ⟨rfl, rfl, rfl, by decide +kernel, rfl, by decide +kernel, by decide +kernel⟩
abbrev s_Scribe_any_part : Stmt := inClass (topS 9) 5
theorem sc_Scribe_any_part : FnScope ["self", "sign"] ["self"] (defScope s_Scribe_any_part) := ⟨rfl, rfl, rfl, by decide +kernel, rfl, by decide +kernel, by decide +kernel⟩
abbrev s_Scribe_brackets : Stmt := inClass (topS 9) 6
theorem sc_Scribe_brackets : FnScope ["self", "parts"] ["self"] (defScope s_Scribe_brackets) := ⟨rfl, rfl, rfl, by decide +kernel, rfl, by decide +kernel, by decide +kernel⟩
structure C_Scribe (K : PySem.W.Frag) (mg : Str → Option Value) (C : Addr) : Prop where
  k : Kl K mg C "Scribe" "Scribe.__init__" s_Scribe___init__ ["self", "signs"]
  n_signs : NoAttr K C "signs"
  n_spot : NoAttr K C "spot"
  n_depth : NoAttr K C "depth"
  m_sign_ahead : Mt K C "sign_ahead" "Scribe.sign_ahead" s_Scribe_sign_ahead ["self"]
  m_need_sign : Mt K C "need_sign" "Scribe.need_sign" s_Scribe_need_sign ["self", "some"]
  m_run_of : Mt K C "run_of" "Scribe.run_of" s_Scribe_run_of ["self", "some", "most"]
  m_whole_number : Mt K C "whole_number" "Scribe.whole_number" s_Scribe_whole_number ["self"]
  m_any_part : Mt K C "any_part" "Scribe.any_part" s_Scribe_any_part ["self"]
  m_brackets : Mt K C "brackets" "Scribe.brackets" s_Scribe_brackets ["self"]
structure Tx (K : PySem.W.Frag) (mg : Str → Option Value) : Prop where
  d_read : Df K mg "read" s_read ["writing"]
  d__law_spread : Df K mg "_law_spread" s__law_spread ["_law_cell", "_law_at"]
  d__law_open : Df K mg "_law_open" s__law_open ["_law_script"]
  d__law_take : Df K mg "_law_take" s__law_take ["_law_pen", "_law_many"]
  d__law_same : Df K mg "_law_same" s__law_same ["_law_found", "_law_due"]
  d__law_wnumber : Df K mg "_law_wnumber" s__law_wnumber ["_law_pen"]
  d__law_wshow : Df K mg "_law_wshow" s__law_wshow ["_law_thing"]
  d__law_wword : Df K mg "_law_wword" s__law_wword ["_law_pen"]
  d__law_wpart : Df K mg "_law_wpart" s__law_wpart ["_law_pen", "_law_deep"]
  d__law_wtree : Df K mg "_law_wtree" s__law_wtree ["_law_pen", "_law_deep"]
  d__law_wwide : Df K mg "_law_wwide" s__law_wwide ["_law_pen"]
  d_law : Df K mg "law" s_law ["_law_script"]
  z_bool : mg "bool" = none
  z_enumerate : mg "enumerate" = none
  z_int : mg "int" = none
  z_isinstance : mg "isinstance" = none
  z_len : mg "len" = none
  z_list : mg "list" = none
  z_min : mg "min" = none
  z_range : mg "range" = none
  z_str : mg "str" = none
  z_tuple : mg "tuple" = none
  z_zip : mg "zip" = none
  c_Scribe : ∃ C, C_Scribe K mg C
  g_MOST_LETTERS : Gv mg "MOST_LETTERS" (.int 8)
  g_MOST_FIGURES : Gv mg "MOST_FIGURES" (.int 30)
  g_MOST_BRACKETS : Gv mg "MOST_BRACKETS" (.int 40)
  g_SMALL : Gv mg "SMALL" (.str "abcdefghijklmnopqrstuvwxyz")
  g_FIGURES : Gv mg "FIGURES" (.str "0123456789")
/-! ### the draws: _law_spread, _law_open, _law_take -/
section
variable {P : Program} {w : World} {K : PySem.W.Frag} {mg : Str → Option Value} {base : Heap}
theorem pw_lt {x : Int} {n : Nat} (h0 : 0 ≤ x) (h : x < 2 ^ 64) : x.natAbs < 2 ^ 64 := by omega
theorem ok__law_spread (T : Tx K mg) : Ok P w K mg base 1 "_law_spread" ["_law_cell", "_law_at"] spSpread := by
  refine Ok.mk T.d__law_spread sc__law_spread (fun vs H Q E h => ?_) (fun f cdv A outer s H vs Q E hr h => ?_)
  · obtain ⟨c, a, rfl, _⟩ := h
    rfl
  obtain ⟨c, a, rfl, h0, h1, q⟩ := h
  refine ⟨_, (pss_cons (ps_if (pt_cmpR op_ge (pv 0) (pe_op op_pow (pe_int) (pe_int)) (nomark _))
 (pss_one (ps_ret (pv 0)))
 (pss_nil))
 (pss_cons (ps_set (i := 2) sc__law_spread.nd rfl (Or.inl rfl) (pe_lst (pa_cons (pe_int) (pa_cons (pe_int) (pa_cons (pe_int) (pa_cons (pe_int) (pa_cons (pe_int) (pa_cons (pe_int) (pa_cons (pe_int) (pa_cons (pe_int) (pa_nil)))))))))))
 (pss_cons (ps_set (i := 2) sc__law_spread.nd rfl (Or.inl rfl) (pe_op op_cat (pv 2) (pe_lst (pa_cons (pe_int) (pa_cons (pe_int) (pa_cons (pe_int) (pa_cons (pe_int) (pa_cons (pe_int) (pa_nil)))))))))
 (pss_cons (ps_set (i := 3) sc__law_spread.nd rfl (Or.inl rfl) (pe_op op_mod (pe_op op_pow (pe_op op_add (pe_op op_add (pe_op op_mul (pe_op op_mod (pv 0) (pe_int)) (pe_op op_add (pe_op op_mul (pe_int) (pv 1)) (pe_int))) (pe_op op_mul (pv 1) (pe_int))) (pe_int)) (pe_int)) (pe_ix (ixL K rfl) (pv 2) (pe_op op_mod (pv 1) (pe_int)) (fun _ _ => rfl))))
 (pss_cons (ps_set (i := 4) sc__law_spread.nd rfl (Or.inl rfl) (pe_op op_mod (pe_op op_pow (pe_op op_add (pe_op op_add (pe_op op_mul (pv 3) (pe_op op_add (pv 1) (pe_int))) (pe_op op_mod (pv 0) (pe_int))) (pe_int)) (pe_int)) (pe_ix (ixL K rfl) (pv 2) (pe_op op_mod (pe_op op_add (pv 1) (pe_int)) (pe_int)) (fun _ _ => rfl))))
 (pss_cons (ps_set (i := 5) sc__law_spread.nd rfl (Or.inl rfl) (pe_op op_mod (pe_op op_pow (pe_op op_add (pe_op op_add (pv 4) (pe_op op_mod (pv 3) (pe_int))) (pv 1)) (pe_int)) (pe_ix (ixL K rfl) (pv 2) (pe_op op_mod (pe_op op_add (pv 1) (pe_int)) (pe_int)) (fun _ _ => rfl))))
 (pss_one (ps_ret (pe_op op_add (pe_op op_mul (pe_op op_add (pe_op op_mul (pv 3) (pe_int)) (pv 4)) (pe_int)) (pv 5)))))))))), ?_⟩
  refine ⟨_, rfl, _, _, rfl, rfl, ⟨by decide, by decide, by decide⟩, _, _, rfl, rfl, _, rfl, ite2 (fun e => ?_) (fun e => ?_)⟩
  · have e := of_decide_eq_true e
    refine ⟨_, rfl, ?_⟩
    refine q c H (Int.le_trans (by decide) e) (Same.refl H)
  · refine ⟨by show 8 ≤ sizeLine; decide, fun p1 n1 => ?_⟩
    have s1 := same_upd (o := .lst [V.int 2147483629, .int 2147483587, .int 2147483579, .int 2147483563, .int 2147483549, .int 2147483543, .int 2147483497, .int 2147483489]) n1
    refine ⟨_, rfl, ?_⟩
    refine ⟨by show 5 ≤ sizeLine; decide, fun p2 n2 => ?_⟩
    have s2 := same_upd (o := .lst [V.int 2147483477, .int 2147483423, .int 2147483399, .int 2147483353, .int 2147483323]) n2
    have n12 : p1 ≠ p2 := fun z => by rw [← z, upd_same] at n2; cases n2
    refine ⟨p1, p2, _, _, rfl, rfl, by rw [upd_ne n12]; exact upd_same, upd_same, by show 8 + 5 ≤ sizeLine; decide, fun p3 n3 => ?_⟩
    have s3 := same_upd (o := .lst ([V.int 2147483629, .int 2147483587, .int 2147483579, .int 2147483563, .int 2147483549, .int 2147483543, .int 2147483497, .int 2147483489] ++ [V.int 2147483477, .int 2147483423, .int 2147483399, .int 2147483353, .int 2147483323])) n3
    have hL : SqL K (upd (upd (upd H p1 (.lst [V.int 2147483629, .int 2147483587, .int 2147483579, .int 2147483563, .int 2147483549, .int 2147483543, .int 2147483497, .int 2147483489])) p2 (.lst [V.int 2147483477, .int 2147483423, .int 2147483399, .int 2147483353, .int 2147483323])) p3 (.lst ([V.int 2147483629, .int 2147483587, .int 2147483579, .int 2147483563, .int 2147483549, .int 2147483543, .int 2147483497, .int 2147483489] ++ [V.int 2147483477, .int 2147483423, .int 2147483399, .int 2147483353, .int 2147483323]))) p3 ([2147483629, 2147483587, 2147483579, 2147483563, 2147483549, 2147483543, 2147483497, 2147483489, 2147483477, 2147483423, 2147483399, 2147483353, 2147483323].map V.int) := SqL.of upd_same
    have sH := s1.trans (s2.trans s3)
    generalize (upd (upd (upd H p1 (.lst [V.int 2147483629, .int 2147483587, .int 2147483579, .int 2147483563, .int 2147483549, .int 2147483543, .int 2147483497, .int 2147483489])) p2 (.lst [V.int 2147483477, .int 2147483423, .int 2147483399, .int 2147483353, .int 2147483323])) p3 (.lst ([V.int 2147483629, .int 2147483587, .int 2147483579, .int 2147483563, .int 2147483549, .int 2147483543, .int 2147483497, .int 2147483489] ++ [V.int 2147483477, .int 2147483423, .int 2147483399, .int 2147483353, .int 2147483323]))) = H3 at hL sH ⊢
    have prime : ∀ i : Int, 0 ≤ i → ∃ pr : Int, atI ([2147483629, 2147483587, 2147483579, 2147483563, 2147483549, 2147483543, 2147483497, 2147483489, 2147483477, 2147483423, 2147483399, 2147483353, 2147483323].map V.int) (i % 13) = some (.int pr) ∧ 0 < pr ∧ pr < 2147483647 := fun i hi => by
      have h1 : 0 ≤ i % 13 := Int.emod_nonneg _ (by decide)
      have h2 : i % 13 < 13 := Int.emod_lt_of_pos _ (by decide)
      generalize i % 13 = k at h1 h2
      have hk : k = 0 ∨ k = 1 ∨ k = 2 ∨ k = 3 ∨ k = 4 ∨ k = 5 ∨ k = 6 ∨ k = 7 ∨ k = 8 ∨ k = 9 ∨ k = 10 ∨ k = 11 ∨ k = 12 := by omega
      rcases hk with rfl | rfl | rfl | rfl | rfl | rfl | rfl | rfl | rfl | rfl | rfl | rfl | rfl <;> exact ⟨_, rfl, by decide, by decide⟩
    obtain ⟨q1, a1, b1, c1⟩ := prime a h0
    obtain ⟨q2, a2, b2, c2⟩ := prime (a + 5) (by omega)
    obtain ⟨q3, a3, b3, c3⟩ := prime (a + 7) (by omega)
    have u0 : 0 ≤ c % 1000000007 := Int.emod_nonneg _ (by decide)
    have u1 : c % 1000000007 < 1000000007 := Int.emod_lt_of_pos _ (by decide)
    have v0 : 0 ≤ c % 65537 := Int.emod_nonneg _ (by decide)
    have v1 : c % 65537 < 65537 := Int.emod_lt_of_pos _ (by decide)
    have e1 : 0 ≤ c % 1000000007 * (2 * a + 69069) := Int.mul_nonneg u0 (by omega)
    have e2 : c % 1000000007 * (2 * a + 69069) ≤ 1000000007 * 2000069069 := Int.mul_le_mul (by omega) (by omega) (by omega) (by omega)
    -- one
    refine ⟨_, rfl, _, _, rfl, rfl, (by show (0 : Int) < _; decide), _, rfl, _, _, rfl, rfl, .inl ⟨by decide, by decide⟩, _, _, rfl, rfl, _, _, rfl, rfl, .inl ⟨by omega, by omega⟩, _, rfl, _, _, rfl, rfl, .inr ⟨by decide, by decide⟩, _, _, rfl, rfl, _, _, rfl, rfl, _, _, rfl, rfl, ⟨by decide, by decide, by omega⟩,
      _, rfl, _, rfl, _, _, rfl, rfl, (by show (0 : Int) < _; decide), _, _, _, _, rfl, rfl, hL, a1, _, _, rfl, rfl, b1, ?_⟩
    have w0 : 0 ≤ (c % 1000000007 * (2 * a + 69069) + a * 40503 + 977) ^ 3 % q1 := Int.emod_nonneg _ (by omega)
    have w1 : (c % 1000000007 * (2 * a + 69069) + a * 40503 + 977) ^ 3 % q1 < q1 := Int.emod_lt_of_pos _ b1
    dsimp only [Int.reduceToNat]
    generalize (c % 1000000007 * (2 * a + 69069) + a * 40503 + 977) ^ 3 % q1 = o1 at w0 w1 ⊢
    have e3 : 0 ≤ o1 * (a + 3) := Int.mul_nonneg w0 (by omega)
    have e4 : o1 * (a + 3) ≤ 2147483647 * 1000000003 := Int.mul_le_mul (by omega) (by omega) (by omega) (by omega)
    -- two
    refine ⟨_, rfl, _, rfl, _, _, rfl, rfl, _, _, rfl, rfl, .inl ⟨by omega, by omega⟩, _, rfl, _, _, rfl, rfl, (by show (0 : Int) < _; decide), _, _, rfl, rfl, _, _, rfl, rfl, _, _, rfl, rfl, ⟨by decide, by decide, by omega⟩,
      _, rfl, _, rfl, _, _, rfl, rfl, _, _, rfl, rfl, (by show (0 : Int) < _; decide), _, _, _, _, rfl, rfl, hL, a2, _, _, rfl, rfl, b2, ?_⟩
    have w2 : 0 ≤ (o1 * (a + 3) + c % 65537 + 5) ^ 5 % q2 := Int.emod_nonneg _ (by omega)
    have w3 : (o1 * (a + 3) + c % 65537 + 5) ^ 5 % q2 < q2 := Int.emod_lt_of_pos _ b2
    dsimp only [Int.reduceToNat]
    generalize (o1 * (a + 3) + c % 65537 + 5) ^ 5 % q2 = o2 at w2 w3 ⊢
    have x0 : 0 ≤ o1 % 1009 := Int.emod_nonneg _ (by decide)
    have x1 : o1 % 1009 < 1009 := Int.emod_lt_of_pos _ (by decide)
    -- three
    refine ⟨_, rfl, _, rfl, _, _, rfl, rfl, (by show (0 : Int) < _; decide), _, _, rfl, rfl, _, rfl, _, _, rfl, rfl, _, _, rfl, rfl, ⟨by decide, by decide, by omega⟩,
      _, rfl, _, rfl, _, _, rfl, rfl, _, _, rfl, rfl, (by show (0 : Int) < _; decide), _, _, _, _, rfl, rfl, hL, a3, _, _, rfl, rfl, b3, ?_⟩
    have w4 : 0 ≤ (o2 + o1 % 1009 + a) ^ 3 % q3 := Int.emod_nonneg _ (by omega)
    dsimp only [Int.reduceToNat]
    generalize (o2 + o1 % 1009 + a) ^ 3 % q3 = o3 at w4 ⊢
    -- the answer
    refine ⟨_, rfl, _, _, rfl, rfl, .inr ⟨by decide, by decide⟩, _, rfl, _, _, rfl, rfl, _, _, rfl, rfl, .inr ⟨by decide, by decide⟩, _, rfl, _, _, rfl, rfl, ?_⟩
    exact q _ H3 (by omega) sH
theorem ok__law_open (T : Tx K mg) : Ok P w K mg base 1 "_law_open" ["_law_script"] (spOpen K) := by
  refine Ok.mk T.d__law_open sc__law_open (fun vs H Q E h => ?_) (fun f cdv A outer s H vs Q E hr h => ?_)
  · obtain ⟨a, ns, rfl, _⟩ := h
    rfl
  obtain ⟨a, ns, rfl, hS, hl, q⟩ := h
  refine ⟨_, (pss_cons (ps_set (i := 1) sc__law_open.nd rfl (Or.inl rfl) (pe_callTy (listQ K rfl) (by rfl) T.z_list (by decide +kernel) (pa_cons (pe_slice (slL K rfl) (pv 0) po_none (po_some (pe_int))) (pa_nil))))
 (pss_cons (ps_for PassesOwn.never rfl (piE K rfl (by rfl) T.z_enumerate (pa_cons (pe_slice (slL K rfl) (pv 0) (po_some (pe_int)) (po_some (pe_int))) (pa_nil))) (pgT K rfl 2 rfl (pgs_cons (pg_nameL (i := 2) sc__law_open.nd rfl rfl) (pgs_cons (pg_nameL (i := 3) sc__law_open.nd rfl rfl) (pgs_nil))))
 (pss_one (ps_asg (pe_op op_add (pe_ix (ixL K rfl) (pv 1) (pe_op op_mod (pv 2) (pe_int)) (fun _ _ => rfl)) (pv 3)) (pg_sub (pv 1) (pe_op op_mod (pv 2) (pe_int)) set_list))))
 (pss_one (ps_ret (pe_lst (pa_cons (pv 1) (pa_cons (pe_int) (pa_cons (pe_int) (pa_nil))))))))), ?_⟩
  -- cells = list(script[:12])
  refine ⟨.ref a, rfl, _, rfl, a, ns.map V.int, rfl, hS, fun t1 n1 => ?_⟩
  have s1 := same_upd (o := .lst (cutV (ns.map V.int) none (some 12))) n1
  refine ⟨t1, _, rfl, .inl (SqL.of upd_same), fun c n2 => ?_⟩
  have s2 := same_upd (o := .lst (cutV (ns.map V.int) none (some 12))) n2
  have e12 : cutV (ns.map V.int) none (some 12) = (ns.take 12).map V.int := by
    rw [show (12 : Int) = ((12 : Nat) : Int) from rfl, cut_take, List.map_take]
  have sH := s1.trans s2
  have hc : upd (upd H t1 (.lst (cutV (ns.map V.int) none (some 12)))) c (.lst (cutV (ns.map V.int) none (some 12))) c = some (.lst ((ns.take 12).map V.int)) := by rw [upd_same, e12]
  have nc : H c = none := s1.free n2
  generalize upd (upd H t1 (.lst (cutV (ns.map V.int) none (some 12)))) c (.lst (cutV (ns.map V.int) none (some 12))) = H2 at sH hc ⊢
  -- the loop
  refine ⟨.ref a, rfl, _, rfl, _, rfl, a, ns.map V.int, rfl, sH.seq hS, fun t2 n3 => ?_⟩
  have e63 : cutV (ns.map V.int) (some 12) (some 63) = (ns.drop 12).map V.int := by
    rw [show (12 : Int) = ((12 : Nat) : Int) from rfl, show (63 : Int) = ((63 : Nat) : Int) from rfl, cut_drop _ _ _ (by decide), List.take_of_length_le (by rw [List.length_map]; exact hl), List.map_drop]
  rw [e63]
  have s3 := same_upd (o := .lst ((ns.drop 12).map V.int)) n3
  refine ⟨t2, (ns.drop 12).map V.int, rfl, SqL.of upd_same, for_it (walk_enum (K := K) (a := t2) (xs := (ns.drop 12).map V.int)) (fun i σ H3 => ∃ y2 y3 cs, σ = [some (.ref a), some (.ref c), y2, y3] ∧ But c H2 H3 ∧ H3 t2 = some (.lst ((ns.drop 12).map V.int)) ∧ H3 c = some (.lst (cs.map V.int)) ∧ (cs : List Int).length = (ns.take 12).length) ?_ ?_ ?_ ?_⟩
  · exact ⟨none, none, ns.take 12, rfl, But.of s3, upd_same, s3 _ _ hc, rfl⟩
  · rintro i σ H3 _ ⟨y2, y3, cs, _, _, h2, _⟩
    exact SqL.of h2
  · rintro i x σ H3 H4 hi ⟨y2, y3, cs, rfl, bt, h2, h3, hlc⟩ ⟨t, x1, x2, rfl, nt, rfl, z1, z2⟩
    cases z1
    have z2 : ((ns.drop 12).map V.int)[i]? = some x2 := z2
    have hx : ∃ m : Int, x2 = .int m := by
      rw [List.getElem?_map] at z2
      cases z3 : (ns.drop 12)[i]? with
      | none => rw [z3] at z2; cases z2
      | some m => rw [z3] at z2; exact ⟨m, (Option.some.inj z2).symm⟩
    obtain ⟨m, rfl⟩ := hx
    have hlen : cs.length = 12 := by
      rw [hlc, List.length_take]
      rw [List.length_map, List.length_drop] at hi
      omega
    have k0 : (i : Int) % 12 = ((i % 12 : Nat) : Int) := by omega
    have k1 : i % 12 < cs.length := by omega
    have ntc : c ≠ t := ne_of_none h3 nt
    have h3t : upd H3 t (.tup [V.int (i : Nat), .int m]) c = some (.lst (cs.map V.int)) := by rw [upd_ne ntc]; exact h3
    have g1 : (cs.map V.int)[i % 12]? = some (.int cs[i % 12]) := by rw [List.getElem?_map, List.getElem?_eq_getElem k1]; rfl
    refine ⟨t, _, rfl, SqT.of upd_same, rfl, _, _, rfl, _, _, rfl, rfl, ?_⟩
    refine ⟨_, rfl, _, rfl, _, _, rfl, rfl, (by show (0 : Int) < _; decide), c, _, _, _, rfl, rfl, SqL.of h3t, atI_of _ k0 g1, _, rfl, _, _, rfl, rfl, _, rfl, _, rfl, _, _, rfl, rfl, (by show (0 : Int) < _; decide), c, _, _, _, rfl, rfl, h3t, ixN_of _ k0 (by rw [List.length_map]; exact k1), ?_⟩
    have nct2 : t2 ≠ c := (ne_of_none hc n3).symm
    refine ⟨some (.int (i : Nat)), some (.int m), cs.set (i % 12) (cs[i % 12] + m), rfl, bt.trans ((But.new nt).trans But.upd), ?_, ?_, ?_⟩
    · rw [upd_ne nct2, upd_ne (ne_of_none h2 nt)]; exact h2
    · rw [upd_same, List.map_set]
    · rw [List.length_set]; exact hlc
  · rintro σ H3 ⟨y2, y3, cs, rfl, bt, h2, h3, hlc⟩
    refine ⟨_, rfl, by show 3 ≤ sizeLine; decide, fun p np => ?_⟩
    have ncp : c ≠ p := ne_of_none h3 np
    have npH : H p = none := (show Same H H2 from sH).free ((bt.free (Ne.symm ncp) np))
    refine q p c _ (fun b o e => ?_) npH nc ⟨⟨0, 0, upd_same, by decide, by decide, by decide⟩, ⟨cs, by rw [upd_ne ncp]; exact h3⟩, ncp⟩
    rw [upd_ne (ne_of_none e npH)]
    exact bt _ _ (ne_of_none e nc) (sH _ _ e)
theorem ok__law_take (T : Tx K mg) (O__law_spread : Ok P w K mg base 1 "_law_spread" ["_law_cell", "_law_at"] spSpread) : Ok P w K mg base 2 "_law_take" ["_law_pen", "_law_many"] spTake := by
  refine Ok.mk T.d__law_take sc__law_take (fun vs H Q E h => ?_) (fun f cdv A outer s H vs Q E hr h => ?_)
  · obtain ⟨p, c, n, m, rfl, _⟩ := h
    rfl
  obtain ⟨p, c, n, m, rfl, pe, hn, hm, hw, q⟩ := h
  obtain ⟨⟨a, r, ep, a0, a1, r0⟩, ⟨ns, ec⟩, ncp⟩ := pe
  refine ⟨_, (pss_cons (ps_if (pt_cmpR op_lt (pe_ix (ixL K rfl) (pv 0) (pe_int) (fun _ _ => rfl)) (pv 1) (nomark _))
 (pss_cons (ps_set (i := 2) sc__law_take.nd rfl (Or.inl rfl) (pe_ix (ixL K rfl) (pv 0) (pe_int) (fun _ _ => rfl)))
 (pss_cons (ps_set (i := 3) sc__law_take.nd rfl (Or.inl rfl) (pe_int))
 (pss_cons (ps_if (pt_cmpR op_lt (pv 2) (pe_callB (lenQ K rfl) (by rfl) T.z_len PySem.boot_len (pa_cons (pe_ix (ixL K rfl) (pv 0) (pe_int) (fun _ _ => rfl)) (pa_nil))) (nomark _))
 (pss_one (ps_set (i := 3) sc__law_take.nd rfl (Or.inl rfl) (pe_ix (ixL K rfl) (pe_ix (ixL K rfl) (pv 0) (pe_int) (fun _ _ => rfl)) (pv 2) (fun _ _ => rfl))))
 (pss_one (ps_if (pt_cmpR op_gt (pe_callB (lenQ K rfl) (by rfl) T.z_len PySem.boot_len (pa_cons (pe_ix (ixL K rfl) (pv 0) (pe_int) (fun _ _ => rfl)) (pa_nil))) (pe_int) (nomark _))
 (pss_one (ps_set (i := 3) sc__law_take.nd rfl (Or.inl rfl) (pe_op op_mod (pe_ix (ixL K rfl) (pe_ix (ixL K rfl) (pv 0) (pe_int) (fun _ _ => rfl)) (pe_op op_mod (pe_op op_add (pe_op op_mul (pv 2) (pe_int)) (pe_int)) (pe_callB (lenQ K rfl) (by rfl) T.z_len PySem.boot_len (pa_cons (pe_ix (ixL K rfl) (pv 0) (pe_int) (fun _ _ => rfl)) (pa_nil)))) (fun _ _ => rfl)) (pe_op op_add (pe_op op_pow (pe_int) (pe_int)) (pv 2)))))
 (pss_nil))))
 (pss_cons (ps_asg (pe_op op_add (pv 2) (pe_int)) (pg_sub (pv 0) (pe_int) set_list))
 (pss_one (ps_asg (pe_fn O__law_spread (hr.mono (by omega)) (by rfl) (pa_cons (pv 3) (pa_cons (pv 2) (pa_nil)))) (pg_sub (pv 0) (pe_int) set_list)))))))
 (pss_nil))
 (pss_cons (ps_set (i := 4) sc__law_take.nd rfl (Or.inl rfl) (pe_op op_mod (pe_ix (ixL K rfl) (pv 0) (pe_int) (fun _ _ => rfl)) (pv 1)))
 (pss_cons (ps_asg (pe_op op_fdivW (pe_ix (ixL K rfl) (pv 0) (pe_int) (fun _ _ => rfl)) (pv 1)) (pg_sub (pv 0) (pe_int) set_list))
 (pss_one (ps_ret (pv 4)))))), ?_⟩
  have fin : ∀ (σ2 σ3 : Option V) (H1 : Hp) (a' r' : Int), But p H H1 → H1 p = some (.lst [.ref c, .int a', .int r']) → 0 ≤ a' → a' ≤ ((n + 1 : Nat) : Int) → 0 ≤ r' →
      (tSeq (tAsg (tOp (rI (fun _ j => 0 < j) fun i j => .int (i % j)) (tOp (rIxL K) (tVar 0) (tC (.int 2))) (tVar 1)) (gName 4)) (tSeq (tAsg (tOp (rI CDivW fun i j => .int (i / j)) (tOp (rIxL K) (tVar 0) (tC (.int 2))) (tVar 1)) (gSub (tVar 0) (tC (.int 2)) rSetL)) (tRet (tVar 4))) { nx := fun _ H' => Q .non H', rt := Q } [some (.ref p), some (.int m), σ2, σ3, none] H1) := by
    intro σ2 σ3 H1 a' r' bt e1 z0 z1 z2
    refine ⟨_, rfl, p, _, _, _, rfl, rfl, SqL.of e1, atI_of 2 rfl rfl, _, rfl, _, _, rfl, rfl, hm, ?_⟩
    refine ⟨_, rfl, p, _, _, _, rfl, rfl, SqL.of e1, atI_of 2 rfl rfl, _, rfl, _, _, rfl, rfl, wide_div hm hw (by decide) (by decide), _, rfl, p, _, _, _, rfl, rfl, e1, ixN_of 2 rfl (by show 2 < 3; decide), ?_⟩
    refine ⟨_, rfl, q _ _ (Int.emod_nonneg _ (by omega)) (Int.emod_lt_of_pos _ hm) (bt.trans But.upd) ⟨⟨a', r' / m, upd_same, z0, z1, Int.ediv_nonneg z2 (by omega)⟩, ⟨ns, ?_⟩, ncp⟩⟩
    rw [upd_ne ncp]
    exact bt _ _ ncp ec
  refine ⟨_, rfl, p, _, _, _, rfl, rfl, SqL.of ep, atI_of 2 rfl rfl, _, rfl, _, _, rfl, rfl, _, rfl, ite2 (fun e => ?_) (fun e => ?_)⟩
  · refine ⟨_, rfl, p, _, _, _, rfl, rfl, SqL.of ep, atI_of 1 rfl rfl, ?_⟩
    have fin2 : ∀ (cell : Int), (tSeq (tAsg (tOp (rI0 fun i j => .int (i + j)) (tVar 2) (tC (.int 1))) (gSub (tVar 0) (tC (.int 1)) rSetL)) (tAsg (tCall spSpread [] E0 (tCons (tVar 3) (tCons (tVar 2) tNil))) (gSub (tVar 0) (tC (.int 2)) rSetL)) { nx := fun σ1 H1 => (tSeq (tAsg (tOp (rI (fun _ j => 0 < j) fun i j => .int (i % j)) (tOp (rIxL K) (tVar 0) (tC (.int 2))) (tVar 1)) (gName 4)) (tSeq (tAsg (tOp (rI CDivW fun i j => .int (i / j)) (tOp (rIxL K) (tVar 0) (tC (.int 2))) (tVar 1)) (gSub (tVar 0) (tC (.int 2)) rSetL)) (tRet (tVar 4))) { nx := fun _ H' => Q .non H', rt := Q } σ1 H1), rt := Q } [some (.ref p), some (.int m), some (.int a), some (.int cell), none] H) := by
      intro cell
      refine ⟨_, rfl, _, _, rfl, rfl, _, rfl, p, _, _, _, rfl, rfl, ep, ixN_of 1 rfl (by show 1 < 3; decide), ?_⟩
      refine ⟨_, rfl, _, rfl, cell, a, rfl, a0, by omega, fun r' H2 hr0 sm => ?_⟩
      refine ⟨_, rfl, p, _, _, _, rfl, rfl, sm _ _ upd_same, ixN_of 2 rfl (by show 2 < 3; decide), ?_⟩
      exact fin _ _ _ (a + 1) r' (But.upd.trans ((But.of sm).trans But.upd)) upd_same (by omega) (by omega) hr0
    refine ⟨_, rfl, _, rfl, p, _, _, _, rfl, rfl, SqL.of ep, atI_of 0 rfl rfl, c, _, rfl, .inl (SqL.of ec), _, _, rfl, rfl, _, rfl, ite2 (fun e1 => ?_) (fun e1 => ?_)⟩
    · have e1 := of_decide_eq_true e1
      rw [List.length_map] at e1
      have k1 : a.toNat < ns.length := by omega
      have g1 : (ns.map V.int)[a.toNat]? = some (.int ns[a.toNat]) := by rw [List.getElem?_map, List.getElem?_eq_getElem k1]; rfl
      refine ⟨_, rfl, p, _, _, _, rfl, rfl, SqL.of ep, atI_of 0 rfl rfl, _, rfl, c, _, _, _, rfl, rfl, SqL.of ec, atI_of a.toNat (by omega) g1, ?_⟩
      exact fin2 _
    · refine ⟨_, rfl, p, _, _, _, rfl, rfl, SqL.of ep, atI_of 0 rfl rfl, c, _, rfl, .inl (SqL.of ec), _, _, rfl, rfl, _, rfl, ite2 (fun e2 => ?_) (fun e2 => ?_)⟩
      · have e2 := of_decide_eq_true e2
        rw [List.length_map] at e2
        have k0 : 0 ≤ (a * 5 + 3) % (ns.length : Int) := Int.emod_nonneg _ (by omega)
        have k1 : (a * 5 + 3) % (ns.length : Int) < ns.length := Int.emod_lt_of_pos _ e2
        have k2 : ((a * 5 + 3) % (ns.length : Int)).toNat < ns.length := by omega
        have g1 : (ns.map V.int)[((a * 5 + 3) % (ns.length : Int)).toNat]? = some (.int ns[((a * 5 + 3) % (ns.length : Int)).toNat]) := by rw [List.getElem?_map, List.getElem?_eq_getElem k2]; rfl
        refine ⟨_, rfl, p, _, _, _, rfl, rfl, SqL.of ep, atI_of 0 rfl rfl, _, rfl, _, _, rfl, rfl, .inr ⟨by decide, by decide⟩, _, _, rfl, rfl, _, rfl, p, _, _, _, rfl, rfl, SqL.of ep, atI_of 0 rfl rfl, c, _, rfl, .inl (SqL.of ec), _, _, rfl, rfl, by rw [List.length_map]; exact e2, c, _, _, _, rfl, rfl, SqL.of ec, atI_of _ (by rw [List.length_map]; omega) g1, _, _, rfl, rfl, ⟨by decide, by decide, by decide⟩, _, rfl, _, _, rfl, rfl, _, _, rfl, rfl, ?_, ?_⟩
        · show (0 : Int) < 10 ^ (17 : Int).toNat + a
          have : (0 : Int) < 10 ^ (17 : Int).toNat := by decide
          omega
        · exact fin2 _
      · exact fin2 _
  · exact fin none none H a r (But.refl p H) ep a0 (by omega) r0
end

/-! ### _law_same, by (int, str) -/
section
variable {P : Program} {w : World} {K : PySem.W.Frag} {mg : Str → Option Value} {base : Heap}
theorem ok__law_same (T : Tx K mg) : ∀ k : Nat, Ok P w K mg base (k + 1) "_law_same" ["_law_found", "_law_due"] (spN K 2 .E (sameF k))
  | 0 => Ok.no T.d__law_same sc__law_same (spN_no fun ds Q h => h)
  | k + 1 => by
    have O__law_same : Ok P w K mg base (k + 1) "_law_same" ["_law_found", "_law_due"] (spN K 2 .E (sameF k)) := ok__law_same T k
    refine Ok.ofN (M := []) T.d__law_same sc__law_same rfl (by decide) fun f cdv A outer s H E hr => ⟨_, _, (pss_cons (ps_if (PW.pt (pw_or (pt_cmpR op_isN (pv 1) (pe_non) (nomark _)) (pw_or1 (pt_cmpR op_isN (pv 0) (pe_non) (nomark _)))))
 (pss_one (ps_ret (pe_and (pe_cmpR op_isN (pv 1) (pe_non) (nomark _)) (pe_one (pe_cmpR op_isN (pv 0) (pe_non) (nomark _))))))
 (pss_nil))
 (pss_cons (ps_if (PW.pt (pw_or (pt_val (pe_callB (isiK K rfl) (by rfl) T.z_isinstance boot_isi (pa_cons (pv 1) (pa_cons (pe_bltn (v := .ty "bool") (by rfl) T.z_bool boot_bool rfl) pa_nil)))) (pw_or1 (pt_val (pe_callB (isiK K rfl) (by rfl) T.z_isinstance boot_isi (pa_cons (pv 0) (pa_cons (pe_bltn (v := .ty "bool") (by rfl) T.z_bool boot_bool rfl) pa_nil)))))))
 (pss_one (ps_ret (pe_and (pe_callB (isiK K rfl) (by rfl) T.z_isinstance boot_isi (pa_cons (pv 1) (pa_cons (pe_bltn (v := .ty "bool") (by rfl) T.z_bool boot_bool rfl) pa_nil))) (pe_and (pe_callB (isiK K rfl) (by rfl) T.z_isinstance boot_isi (pa_cons (pv 0) (pa_cons (pe_bltn (v := .ty "bool") (by rfl) T.z_bool boot_bool rfl) pa_nil))) (pe_one (pe_cmpR (eqG K rfl hr.units) (pv 0) (pv 1) (nomark _)))))))
 (pss_nil))
 (pss_cons (ps_if (pt_val (pe_callB (isiTK K rfl) (by rfl) T.z_isinstance boot_isi (pa_cons (pv 1) (pa_cons (pe_tup (pa_cons (pe_bltn (v := .ty "int") (by rfl) T.z_int boot_int rfl) (pa_cons (pe_bltn (v := .ty "str") (by rfl) T.z_str boot_str rfl) (pa_nil)))) pa_nil))))
 (pss_cons (ps_if (pt_cmpR (neG K rfl hr.units) (pe_callB (isiK K rfl) (by rfl) T.z_isinstance boot_isi (pa_cons (pv 0) (pa_cons (pe_bltn (v := .ty "int") (by rfl) T.z_int boot_int rfl) pa_nil))) (pe_callB (isiK K rfl) (by rfl) T.z_isinstance boot_isi (pa_cons (pv 1) (pa_cons (pe_bltn (v := .ty "int") (by rfl) T.z_int boot_int rfl) pa_nil))) (nomark _))
 (pss_one (ps_ret (pe_bl)))
 (pss_nil))
 (pss_one (ps_ret (pe_and (pe_callB (isiTK K rfl) (by rfl) T.z_isinstance boot_isi (pa_cons (pv 0) (pa_cons (pe_tup (pa_cons (pe_bltn (v := .ty "int") (by rfl) T.z_int boot_int rfl) (pa_cons (pe_bltn (v := .ty "str") (by rfl) T.z_str boot_str rfl) (pa_nil)))) pa_nil))) (pe_one (pe_cmpR (eqG K rfl hr.units) (pv 0) (pv 1) (nomark _)))))))
 (pss_nil))
 (pss_cons (ps_if (PW.pt (pw_or (pt_cmpR (neG K rfl hr.units) (pe_callB (isiK K rfl) (by rfl) T.z_isinstance boot_isi (pa_cons (pv 1) (pa_cons (pe_bltn (v := .ty "tuple") (by rfl) T.z_tuple boot_tuple rfl) pa_nil))) (pe_callB (isiK K rfl) (by rfl) T.z_isinstance boot_isi (pa_cons (pv 0) (pa_cons (pe_bltn (v := .ty "tuple") (by rfl) T.z_tuple boot_tuple rfl) pa_nil))) (nomark _)) (pw_or1 (pt_cmpR (neG K rfl hr.units) (pe_callB (isiK K rfl) (by rfl) T.z_isinstance boot_isi (pa_cons (pv 1) (pa_cons (pe_bltn (v := .ty "list") (by rfl) T.z_list boot_list rfl) pa_nil))) (pe_callB (isiK K rfl) (by rfl) T.z_isinstance boot_isi (pa_cons (pv 0) (pa_cons (pe_bltn (v := .ty "list") (by rfl) T.z_list boot_list rfl) pa_nil))) (nomark _)))))
 (pss_one (ps_ret (pe_bl)))
 (pss_nil))
 (pss_cons (ps_if (pt_cmpR (neG K rfl hr.units) (pe_callB (lenG K rfl) (by rfl) T.z_len boot_len (pa_cons (pv 0) (pa_nil))) (pe_callB (lenG K rfl) (by rfl) T.z_len boot_len (pa_cons (pv 1) (pa_nil))) (nomark _))
 (pss_one (ps_ret (pe_bl)))
 (pss_nil))
 (pss_one (ps_ret (pe_cmpR (ninG K rfl (u65 hr)) (pe_bl) (pe_lc (own := [("_law_one", 2), ("_law_other", 3)]) rfl sc__law_same.nd (piZ K rfl (by rfl) T.z_zip (pa_cons (pv 0) (pa_cons (pv 1) pa_nil))) (blkOk_by (own := [("_law_one", 2), ("_law_other", 3)]) (N := ["_law_found", "_law_due", "_law_one", "_law_other"]) (sc := defScope s__law_same) (by decide +kernel)) (fun _ _ _ _ _ => pgT K rfl 2 rfl (pgs_cons (pg_nameL (i := 2) sc__law_same.nd rfl rfl) (pgs_cons (pg_nameL (i := 3) sc__law_same.nd rfl rfl) (pgs_nil)))) (fun _ _ _ _ _ => pts_nil) (fun _ _ _ _ _ => pe_fn O__law_same (hr.mono (by omega)) (by rfl) (pa_cons (pv 2) (pa_cons (pv 3) (pa_nil))))) (by rfl))))))))),
 (simS_seq (simS_if (simT_or (simT_test (sim_op opA_isN (sim_var 1 (nm rfl)) (sim_non))) (simT_test (sim_op opA_isN (sim_var 0 (nm rfl)) (sim_non))))
 (simS_ret (Sim.toE (sim_andV (sim_op opA_isN (sim_var 1 (nm rfl)) (sim_non)) (sim_op opA_isN (sim_var 0 (nm rfl)) (sim_non)))))
 (simS_next))
 (simS_seq (simS_if (simT_or (simT_B (sim_isi .bool (sim_var 1 (nm rfl)))) (simT_B (sim_isi .bool (sim_var 0 (nm rfl)))))
 (simS_ret (Sim.toE (sim_andV (sim_isi .bool (sim_var 1 (nm rfl))) (sim_andV (sim_isi .bool (sim_var 0 (nm rfl))) (sim_op opA_eq (sim_var 0 (nm rfl)) (sim_var 1 (nm rfl)))))))
 (simS_next))
 (simS_seq (simS_if (simT_B (sim_isiT2 .int .str (sim_var 1 (nm rfl))))
 (simS_seq (simS_if (simT_test (sim_op opA_ne (sim_isi .int (sim_var 0 (nm rfl))) (sim_isi .int (sim_var 1 (nm rfl)))))
 (simS_ret (Sim.toE (sim_bl _)))
 (simS_next))
 (simS_ret (Sim.toE (sim_andV (sim_isiT2 .int .str (sim_var 0 (nm rfl))) (sim_op opA_eq (sim_var 0 (nm rfl)) (sim_var 1 (nm rfl)))))))
 (simS_next))
 (simS_seq (simS_if (simT_or (simT_test (sim_op opA_ne (sim_isi .tuple (sim_var 1 (nm rfl))) (sim_isi .tuple (sim_var 0 (nm rfl))))) (simT_test (sim_op opA_ne (sim_isi .list (sim_var 1 (nm rfl))) (sim_isi .list (sim_var 0 (nm rfl))))))
 (simS_ret (Sim.toE (sim_bl _)))
 (simS_next))
 (simS_seq (simS_if (simT_test (sim_op opA_ne (sim_cb caA_len (simA_cons (sim_var 0 (nm rfl)) (simA_nil))) (sim_cb caA_len (simA_cons (sim_var 1 (nm rfl)) (simA_nil)))))
 (simS_ret (Sim.toE (sim_bl _)))
 (simS_next))
 (simS_ret (Sim.toE (sim_op opA_nin (sim_bl _) (sim_lc (simI_zip (sim_var 0 (nm rfl)) (sim_var 1 (nm rfl))) (simG_tup (simGs_cons (simG_name 2 (nm rfl) (np rfl)) (simGs_cons (simG_name 3 (nm rfl) (np rfl)) (simGs_nil)))) (simT_yes) (sim_call (simA_cons (sim_var 2 (nm rfl)) (simA_cons (sim_var 3 (nm rfl)) (simA_nil)))) (inv' rfl) (nmv rfl) (npv rfl)))))))))), ?_⟩
    intro ds Q hl hF
    match ds, hl, hF with
    | [a, b], _, hF =>
    obtain ⟨rfl, hd, q⟩ := hF
    cases a with
    | none => exact q
    | bool x =>
      show Q (.bool (decide (x = x)))
      rw [decide_eq_true rfl]
      exact q
    | int x =>
      show Q (.bool (decide (x = x)))
      rw [decide_eq_true rfl]
      exact q
    | str x =>
      show Q (.bool (decide (x = x)))
      rw [decide_eq_true rfl]
      exact q
    | dict x => cases k <;> exact hd.elim
    | list xs =>
      cases k with
      | zero => exact hd.elim
      | succ k =>
      obtain ⟨hx, hd⟩ := hd
      refine ifn (by simp) ?_
      refine ⟨by rw [zip_len, Nat.min_self]; exact hx, lcD_ind (fun i acc s => acc = List.replicate i (.bool true) ∧ s = { δ := [some (.list xs), some (.list xs), none, none], n := 0 }) ⟨rfl, rfl⟩ ?_ ?_⟩
      · rintro i d acc s N hi ⟨rfl, rfl⟩ hN
        obtain ⟨x, y, e1, e2, rfl⟩ := prD_get hi
        rw [e1] at e2
        cases e2
        refine ⟨rfl, rfl, hd x (List.mem_of_getElem? e1), ?_⟩
        exact hN _ _ ⟨by rw [← List.replicate_succ'], rfl⟩
      · rintro acc s ⟨rfl, rfl⟩
        exact nin_true q
    | tuple xs =>
      cases k with
      | zero => exact hd.elim
      | succ k =>
      obtain ⟨hx, hd⟩ := hd
      refine ifn (by simp) ?_
      refine ⟨by rw [zip_len, Nat.min_self]; exact hx, lcD_ind (fun i acc s => acc = List.replicate i (.bool true) ∧ s = { δ := [some (.tuple xs), some (.tuple xs), none, none], n := 0 }) ⟨rfl, rfl⟩ ?_ ?_⟩
      · rintro i d acc s N hi ⟨rfl, rfl⟩ hN
        obtain ⟨x, y, e1, e2, rfl⟩ := prD_get hi
        rw [e1] at e2
        cases e2
        refine ⟨rfl, rfl, hd x (List.mem_of_getElem? e1), ?_⟩
        exact hN _ _ ⟨by rw [← List.replicate_succ'], rfl⟩
      · rintro acc s ⟨rfl, rfl⟩
        exact nin_true q
end

/-! ### a Scribe: signs, spot, depth -/
abbrev Sg (l : List Nat) : Str := ⟨l.toArray⟩
open TL (tl)
def scF (z : Str) (i d : Nat) : List (Str × V) := [("signs", .str z), ("spot", .int i), ("depth", .int d)]
theorem e_sg_sp : (("spot" : Str) == "signs") = false := by decide +kernel
theorem e_dp_sg : (("depth" : Str) == "signs") = false := by decide +kernel
theorem e_dp_sp : (("depth" : Str) == "spot") = false := by decide +kernel
theorem n_sg_sp : ¬ (("signs" : Str) = "spot") := by decide +kernel
theorem n_sg_dp : ¬ (("signs" : Str) = "depth") := by decide +kernel
theorem n_sp_dp : ¬ (("spot" : Str) = "depth") := by decide +kernel
theorem scF_sg (z : Str) (i d : Nat) : (scF z i d).lookup ("signs" : Str) = some (.str z) := by simp [scF, List.lookup]
theorem scF_sp (z : Str) (i d : Nat) : (scF z i d).lookup ("spot" : Str) = some (.int i) := by simp [scF, List.lookup, e_sg_sp]
theorem scF_dp (z : Str) (i d : Nat) : (scF z i d).lookup ("depth" : Str) = some (.int d) := by simp [scF, List.lookup, e_dp_sg, e_dp_sp]
theorem scF_no (z : Str) (i d : Nat) {m : Str} (h1 : (m == "signs") = false) (h2 : (m == "spot") = false) (h3 : (m == "depth") = false) : (scF z i d).lookup m = none := by simp [scF, List.lookup, h1, h2, h3]
theorem scF_psp (z : Str) (i d : Nat) (j : Int) (k : Nat) (e : j = (k : Int)) : putF "spot" (.int j) (scF z i d) = scF z k d := by
  subst e
  show (if ("signs" : Str) = "spot" then _ else (("signs" : Str), V.str z) :: (if ("spot" : Str) = "spot" then (("spot" : Str), V.int k) :: [("depth", V.int d)] else _)) = _
  rw [if_neg n_sg_sp, if_pos rfl]
  rfl
theorem scF_pdp (z : Str) (i d : Nat) (j : Int) (k : Nat) (e : j = (k : Int)) : putF "depth" (.int j) (scF z i d) = scF z i k := by
  subst e
  show (if ("signs" : Str) = "depth" then _ else (("signs" : Str), V.str z) :: (if ("spot" : Str) = "depth" then _ else (("spot" : Str), V.int i) :: (if ("depth" : Str) = "depth" then (("depth" : Str), V.int k) :: [] else _))) = _
  rw [if_neg n_sg_dp, if_neg n_sp_dp, if_pos rfl]
  rfl
theorem scF_len (z : Str) (i d : Nat) : (scF z i d).length < 1000 := by show 3 < 1000; decide
def Scr (C : Addr) (H : Hp) (p : Addr) (z : Str) (i d : Nat) : Prop := ∃ dx, H p = some (.ins C dx (scF z i d))
theorem Scr.but {C : Addr} {H H' : Hp} {p q : Addr} {z : Str} {i d : Nat} (s : Scr C H p z i d) (b : But q H H') (n : p ≠ q) : Scr C H' p z i d := by
  obtain ⟨dx, e⟩ := s
  exact ⟨dx, b _ _ n e⟩
theorem Scr.same {C : Addr} {H H' : Hp} {p : Addr} {z : Str} {i d : Nat} (s : Scr C H p z i d) (b : Same H H') : Scr C H' p z i d := by
  obtain ⟨dx, e⟩ := s
  exact ⟨dx, b _ _ e⟩
theorem cut_ahead (z : Str) (i : Nat) : cutS z (some (i : Int)) (some ((i : Int) + 1)) = Sg (((tl z).drop i).take 1) := by
  unfold cutS
  have e : ((i : Int) + 1) = ((i + 1 : Nat) : Int) := by omega
  rw [e, HT.sIx_nat, HT.sIx_nat, TL.len_tl]
  refine congrArg Sg ?_
  show List.take _ (List.drop _ (tl z)) = _
  by_cases h : i < (tl z).length
  · rw [Nat.min_eq_left (by omega), Nat.min_eq_left (by omega), show i + 1 - i = 1 by omega]
  · rw [List.drop_of_length_le (show (tl z).length ≤ min i (tl z).length by omega), List.drop_of_length_le (show (tl z).length ≤ i by omega)]
    simp
theorem cut_run (z : Str) (i j : Nat) (h : j ≤ (tl z).length) : cutS z (some (i : Int)) (some (j : Int)) = Sg (((tl z).drop i).take (j - i)) := by
  unfold cutS
  rw [HT.sIx_nat, HT.sIx_nat, TL.len_tl]
  refine congrArg Sg ?_
  show List.take _ (List.drop _ (tl z)) = _
  by_cases h1 : i ≤ (tl z).length
  · rw [Nat.min_eq_left (by omega), Nat.min_eq_left (by omega)]
  · rw [List.drop_of_length_le (show (tl z).length ≤ min i (tl z).length by omega), List.drop_of_length_le (show (tl z).length ≤ i by omega)]
    simp
def spScI (C : Addr) : Sp := fun vs H Q _ => ∃ (p dx : Addr) (z : Str), vs = [.ref p, .str z] ∧ H p = some (.ins C dx []) ∧ ∀ H', But p H H' → Scr C H' p z 0 0 → Q .non H'
def spAhead (C : Addr) : Sp := fun vs H Q _ => ∃ (p : Addr) (z : Str) (i d : Nat), vs = [.ref p] ∧ Scr C H p z i d ∧ z.length ≤ sizeLine ∧ Q (.str (Sg (((tl z).drop i).take 1))) H
def spNeed (C : Addr) : Sp := fun vs H Q _ => ∃ (p : Addr) (z y : Str) (i d c : Nat) (r : List Nat), vs = [.ref p, .str y] ∧ Scr C H p z i d ∧ z.length ≤ sizeLine ∧ (tl z).drop i = c :: r ∧ c ∈ tl y ∧ ∀ H', But p H H' → Scr C H' p z (i + 1) d → Q (.str (Sg [c])) H'
def spRun (C : Addr) : Sp := fun vs H Q _ => ∃ (p : Addr) (z y : Str) (i d m : Nat) (u r : List Nat), vs = [.ref p, .str y, .int m] ∧ Scr C H p z i d ∧ z.length ≤ sizeLine ∧ i ≤ (tl z).length ∧ (tl z).drop i = u ++ r ∧ (∀ c ∈ u, c ∈ tl y) ∧ u.length ≤ m ∧
  (u.length = m ∨ ∀ c, r.head? = some c → c ∉ tl y) ∧ ∀ H', But p H H' → Scr C H' p z (i + u.length) d → Q (.str (Sg u)) H'
section
variable {P : Program} {w : World} {K : PySem.W.Frag} {mg : Str → Option Value} {base : Heap} {C : Addr}
theorem tl_e : tl (Str.ofString "") = [] := by decide +kernel
theorem tl_lp : tl (Str.ofString "(") = [40] := by decide +kernel
theorem tl_rp : tl (Str.ofString ")") = [41] := by decide +kernel
theorem tl_sp : tl (Str.ofString " ") = [32] := by decide +kernel
theorem tl_0 : tl (Str.ofString "0") = [48] := by decide +kernel
theorem tl_m : tl (Str.ofString "-") = [45] := by decide +kernel
theorem sg_no {c : Nat} {r : List Nat} {x : Str} (h : tl x ≠ c :: r) : ¬ (decide (V.str (Sg (c :: r)) = V.str x) = true) := fun e => by
  have e := of_decide_eq_true e
  cases e
  exact h rfl
theorem ok_scI (B : C_Scribe K mg C) : OkM P w K mg base C 1 "__init__" ["self", "signs"] (spScI C) := by
  refine OkM.mk B.k.init sc_Scribe___init__ (fun vs H Q E h => ?_) (fun f cdv A outer s H vs Q E hr h => ?_)
  · obtain ⟨p, dx, z, rfl, _⟩ := h; rfl
  · obtain ⟨p, dx, z, rfl, hp, k⟩ := h
    refine ⟨_, pss_cons (ps_fld (pv 0) (pv 1) rfl) (pss_cons (ps_fld (pv 0) pe_int rfl) (pss_one (ps_fld (pv 0) pe_int rfl))), ?_⟩
    refine ⟨_, rfl, _, rfl, p, C, dx, _, rfl, hp, B.k.cl, B.n_signs, (by show 0 < 1000; decide), _, rfl, p, C, dx, _, rfl, upd_same, B.k.cl, B.n_spot, (by show 1 < 1000; decide), _, rfl, p, C, dx, _, rfl, upd_same, B.k.cl, B.n_depth, ?_, ?_⟩
    · rw [show putF "spot" (V.int 0) (putF "signs" (V.str z) []) = [(("signs" : Str), V.str z), ("spot", V.int 0)] from by
        show (if ("signs" : Str) = "spot" then _ else (("signs" : Str), V.str z) :: [(("spot" : Str), V.int 0)]) = _
        rw [if_neg n_sg_sp]]
      show 2 < 1000; decide
    · refine k _ (But.upd.trans (But.upd.trans But.upd)) ⟨dx, ?_⟩
      rw [upd_same]
      congr 2
theorem ok_ahead (B : C_Scribe K mg C) : OkM P w K mg base C 1 "sign_ahead" ["self"] (spAhead C) := by
  refine OkM.mk B.m_sign_ahead sc_Scribe_sign_ahead (fun vs H Q E h => ?_) (fun f cdv A outer s H vs Q E hr h => ?_)
  · obtain ⟨p, z, i, d, rfl, _⟩ := h; rfl
  · obtain ⟨p, z, i, d, rfl, ⟨dx, hp⟩, hz, k⟩ := h
    refine ⟨_, pss_one (ps_ret (pe_slice sl_str (pe_fld (pv 0) rfl) (po_some (pe_fld (pv 0) rfl)) (po_some (pe_op op_add (pe_fld (pv 0) rfl) pe_int)))), ?_⟩
    refine ⟨_, rfl, p, C, dx, _, _, rfl, hp, B.k.cl, B.n_signs, scF_sg _ _ _, ?_⟩
    refine ⟨_, rfl, p, C, dx, _, _, rfl, hp, B.k.cl, B.n_spot, scF_sp _ _ _, _, rfl, ?_⟩
    refine ⟨_, rfl, p, C, dx, _, _, rfl, hp, B.k.cl, B.n_spot, scF_sp _ _ _, _, _, rfl, rfl, _, rfl, ?_⟩
    refine ⟨z, rfl, hz, ?_⟩
    rw [cut_ahead]
    exact k
theorem ok_need (B : C_Scribe K mg C) : OkM P w K mg base C 2 "need_sign" ["self", "some"] (spNeed C) := by
  have O1 : OkM P w K mg base C 1 "sign_ahead" ["self"] (spAhead C) := ok_ahead B
  refine OkM.mk B.m_need_sign sc_Scribe_need_sign (fun vs H Q E h => ?_) (fun f cdv A outer s H vs Q E hr h => ?_)
  · obtain ⟨p, z, y, i, d, c, r, rfl, _⟩ := h; rfl
  · obtain ⟨p, z, y, i, d, c, r, rfl, ⟨dx, hp⟩, hz, hd, hc, k⟩ := h
    refine ⟨_, pss_cons (ps_set (i := 2) sc_Scribe_need_sign.nd rfl (Or.inl rfl) (pe_mth0 (pv 0) B.k.cl O1 (hr.mono (by omega))))
      (pss_cons (ps_if (PW.pt (pw_or (pt_cmpR (eqG K rfl hr.units) (pv 2) pe_str (nomark _)) (pw_or1 (pt_cmpR op_notin_str (pv 2) (pv 1) (by rfl))))) (pss_one ps_never) pss_nil)
      (pss_cons (ps_fldaug (pv 0) pe_int in_add) (pss_one (ps_ret (pv 2))))), ?_⟩
    refine ⟨_, rfl, p, dx, _, rfl, hp, scF_no _ _ _ (by decide +kernel) (by decide +kernel) (by decide +kernel), p, z, i, d, rfl, ⟨dx, hp⟩, hz, ?_⟩
    rw [hd]
    refine ⟨_, rfl, .inl ⟨rfl, _, rfl, ?_⟩⟩
    refine ifn (sg_no (by rw [tl_e]; exact fun z => nomatch z)) ⟨_, rfl, _, rfl, _, _, rfl, rfl, _, rfl, ?_⟩
    refine ifn (by rw [show (Sg (List.take 1 (c :: r)) : Str) = ⟨#[c]⟩ from rfl, StrLaws.found_one]; simpa using hc) ?_
    refine ⟨_, rfl, p, C, dx, _, _, rfl, hp, B.k.cl, B.n_spot, scF_sp _ _ _, _, _, rfl, rfl, dx, _, hp, scF_len _ _ _, _, rfl, ?_⟩
    exact k _ But.upd ⟨dx, by rw [upd_same, scF_psp z i d _ (i + 1) (by omega)]⟩

theorem drop_get {l u r : List Nat} {i j c : Nat} (h : l.drop i = u ++ r) (e : u[j]? = some c) : l[i + j]? = some c := by
  rw [← List.getElem?_drop, h, List.getElem?_append_left (List.getElem?_eq_some_iff.mp e).1]
  exact e
theorem ok_run (T : Tx K mg) (B : C_Scribe K mg C) : OkM P w K mg base C 1 "run_of" ["self", "some", "most"] (spRun C) := by
  refine OkM.mk B.m_run_of sc_Scribe_run_of (fun vs H Q E h => ?_) (fun f cdv A outer s H vs Q E hr h => ?_)
  · obtain ⟨p, z, y, i, d, m, u, r, rfl, _⟩ := h; rfl
  · obtain ⟨p, z, y, i, d, m, u, r, rfl, ⟨dx, hp⟩, hz, hi, hd, hu, hm, he, k⟩ := h
    have hl : (tl z).length = i + u.length + r.length := by
      have := congrArg List.length hd
      rw [List.length_drop, List.length_append] at this
      omega
    refine ⟨_, pss_cons (ps_set (i := 3) sc_Scribe_run_of.nd rfl (Or.inl rfl) (pe_fld (pv 0) rfl))
      (C8.pss_cut (ps_while PassesOwn.never (PW.pt (pw_and (pt_cmpR op_lt (pv 3) (pe_callB call_len_str (by rfl) T.z_len boot_len (pa_cons (pe_fld (pv 0) rfl) pa_nil)) (nomark _))
        (pw_and (pt_cmpR op_lt (pe_op op_sub (pv 3) (pe_fld (pv 0) rfl)) (pv 2) (nomark _)) (pw_and1 (pt_cmpR op_in_str (pe_ix ix_str (pe_fld (pv 0) rfl) (pv 3) (fun _ _ => rfl)) (pv 1) (by rfl))))))
        (pss_one (ps_aug (i := 3) sc_Scribe_run_of.nd rfl (Or.inl rfl) pe_int iop_add)))
      (pss_cons (ps_set (i := 4) sc_Scribe_run_of.nd rfl (Or.inl rfl) (pe_slice sl_str (pe_fld (pv 0) rfl) (po_some (pe_fld (pv 0) rfl)) (po_some (pv 3))))
      (pss_cons (ps_fld (pv 0) (pv 3) rfl)
      (pss_one (ps_ret (pv 4)))))), ?_⟩
    refine ⟨_, rfl, p, C, dx, _, _, rfl, hp, B.k.cl, B.n_spot, scF_sp _ _ _, ?_⟩
    refine ⟨fun σ H' => σ = [some (.ref p), some (.str y), some (.int m), some (.int ((i + u.length : Nat) : Int)), none] ∧ H' = H, ?_, ?_⟩
    · refine ⟨fun n σ H' => ∃ j, n = u.length - j ∧ j ≤ u.length ∧ σ = [some (.ref p), some (.str y), some (.int m), some (.int ((i + j : Nat) : Int)), none] ∧ H' = H, ⟨_, 0, rfl, Nat.zero_le _, rfl, rfl⟩, ?_⟩
      rintro n σ H' ⟨j, rfl, hj, rfl, rfl⟩
      refine ⟨_, rfl, _, rfl, p, C, dx, _, _, rfl, hp, B.k.cl, B.n_signs, scF_sg _ _ _, z, rfl, hz, _, _, rfl, rfl, _, rfl, ?_⟩
      by_cases c1 : i + j < (tl z).length
      · refine ifp (decide_eq_true (by rw [TL.len_tl]; omega)) ?_
        refine ⟨_, rfl, _, rfl, p, C, dx, _, _, rfl, hp, B.k.cl, B.n_spot, scF_sp _ _ _, _, _, rfl, rfl, _, rfl, _, _, rfl, rfl, _, rfl, ?_⟩
        by_cases c2 : j < m
        · refine ifp (decide_eq_true (by omega)) ?_
          obtain ⟨c, hc⟩ : ∃ c, (tl z)[i + j]? = some c := ⟨_, List.getElem?_eq_getElem c1⟩
          refine ⟨_, rfl, p, C, dx, _, _, rfl, hp, B.k.cl, B.n_signs, scF_sg _ _ _, _, rfl, z, _, c, rfl, rfl, hz, atI_nat hc, _, rfl, _, _, rfl, rfl, _, rfl, ?_⟩
          rw [StrLaws.found_one]
          by_cases c3 : j < u.length
          · have hcu : u[j]? = some c := by
              rw [← hc]
              exact (drop_get hd (List.getElem?_eq_getElem c3)).symm ▸ (List.getElem?_eq_getElem c3)
            refine ifp (decide_eq_true (hu c (List.mem_of_getElem? hcu))) ⟨fun σ' H'' => ∃ m', m' < u.length - j ∧ ∃ j', m' = u.length - j' ∧ j' ≤ u.length ∧ σ' = [some (.ref p), some (.str y), some (.int m), some (.int ((i + j' : Nat) : Int)), none] ∧ H'' = H', fun _ _ h => h, ?_⟩
            refine ⟨_, rfl, _, _, rfl, rfl, _, by omega, j + 1, rfl, by omega, ?_, rfl⟩
            show [some (V.ref p), some (.str y), some (.int m), some (.int (((i + j : Nat) : Int) + 1)), none] = _
            rw [show ((i + j : Nat) : Int) + 1 = ((i + (j + 1) : Nat) : Int) by omega]
          · have ej : j = u.length := by omega
            subst ej
            refine ifn (fun e => ?_) ⟨rfl, rfl⟩
            rcases he with he | he
            · omega
            · refine he c ?_ (of_decide_eq_true e)
              rw [← hc, List.head?_eq_getElem?, ← List.getElem?_drop, hd, List.getElem?_append_right (Nat.le_refl _), Nat.sub_self]
        · have ej : j = u.length := by omega
          subst ej
          exact ifn (by simp; omega) ⟨rfl, rfl⟩
      · have ej : j = u.length := by omega
        subst ej
        exact ifn (fun e => by have := of_decide_eq_true e; rw [TL.len_tl] at this; omega) ⟨rfl, rfl⟩
    · rintro σ H' ⟨rfl, rfl⟩
      refine ⟨_, rfl, p, C, dx, _, _, rfl, hp, B.k.cl, B.n_signs, scF_sg _ _ _, _, rfl, p, C, dx, _, _, rfl, hp, B.k.cl, B.n_spot, scF_sp _ _ _, _, rfl, _, rfl, _, rfl, z, rfl, hz, ?_⟩
      refine ⟨_, rfl, _, rfl, p, C, dx, _, rfl, hp, B.k.cl, B.n_spot, scF_len _ _ _, _, rfl, ?_⟩
      have e1 : cutS z (some ((i : Nat) : Int)) (some ((i + u.length : Nat) : Int)) = Sg u := by
        rw [cut_run z i _ (by omega), hd, Nat.add_sub_cancel_left, List.take_left]
      rw [e1]
      exact k _ But.upd ⟨dx, by rw [upd_same, scF_psp z i d _ (i + u.length) rfl]⟩
end

/-! ### written things -/
open TL (numL joinL)
def intL (n : Int) : List Nat := if n < 0 then 45 :: numL n.natAbs else numL n.natAbs
mutual
def sh : D → List Nat
  | .str w => tl w
  | .int i => intL i
  | .tuple ds => 40 :: (joinL [32] (shL ds) ++ [41])
  | _ => []
def shL : List D → List (List Nat)
  | [] => []
  | d :: ds => sh d :: shL ds
end
def word (w : Str) : Prop := 1 ≤ w.length ∧ w.length ≤ 8 ∧ ∀ c ∈ tl w, 97 ≤ c ∧ c ≤ 122
def vd : Nat → D → Prop
  | _, .str w => word w
  | _, .int i => i.natAbs < 10 ^ 30
  | h + 1, .tuple ds => ∀ d ∈ ds, vd h d
  | _, _ => False
theorem vd_mono : ∀ {h k : Nat} {d : D}, vd h d → h ≤ k → vd k d
  | 0, 0, d, v, _ => v
  | 0, k + 1, d, v, _ => by cases d <;> first | exact v | exact v.elim
  | h + 1, 0, d, v, l => absurd l (by omega)
  | h + 1, k + 1, d, v, l => by
    cases d <;> first | exact v | exact v.elim | skip
    exact fun e m => vd_mono (h := h) (k := k) (v e m) (by omega)
theorem str_ok {w : Str} (h : word w) : PyData.strOk w = true := by
  unfold PyData.strOk
  rw [Array.all_eq_true']
  intro c hc
  have := h.2.2 c (by simpa using hc)
  simp
  omega
mutual
theorem vd_lay : ∀ (d : D) {h : Nat}, vd h d → PyData.canLay0 d = true ∧ PyData.depth d ≤ h
  | .str w, h, v => by
    have v' : word w := by cases h <;> exact v
    exact ⟨by simpa [PyData.canLay0] using str_ok v', by simp [PyData.depth]⟩
  | .int i, h, v => ⟨by simp [PyData.canLay0], by simp [PyData.depth]⟩
  | .tuple ds, 0, v => v.elim
  | .tuple ds, h + 1, v => by
    obtain ⟨a, b⟩ := vd_layL ds (h := h) v
    exact ⟨by simpa [PyData.canLay0] using a, by simpa [PyData.depth] using b⟩
  | .none, h, v => by cases h <;> exact v.elim
  | .bool _, h, v => by cases h <;> exact v.elim
  | .list _, h, v => by cases h <;> exact v.elim
  | .dict _, h, v => by cases h <;> exact v.elim
theorem vd_layL : ∀ (ds : List D) {h : Nat}, (∀ d ∈ ds, vd h d) → PyData.canLayAll0 ds = true ∧ PyData.depthAll ds ≤ h
  | [], h, v => ⟨rfl, by simp [PyData.depthAll]⟩
  | d :: ds, h, v => by
    obtain ⟨a, b⟩ := vd_lay d (v d (List.mem_cons_self ..))
    obtain ⟨a', b'⟩ := vd_layL ds fun e m => v e (List.mem_cons_of_mem _ m)
    refine ⟨by simp [PyData.canLayAll0, a, a'], ?_⟩
    simp only [PyData.depthAll]
    omega
end
theorem vd_shL {ds : List D} {h : Nat} (v : ∀ d ∈ ds, vd h d) (l : h ≤ 60) : Sh (.list ds) := by
  obtain ⟨a, b⟩ := vd_layL ds v
  show (PyData.canLay0 _ && decide (PyData.depth _ ≤ 64)) = true
  rw [Bool.and_eq_true, decide_eq_true_eq]
  exact ⟨by simpa [PyData.canLay0] using a, by simp only [PyData.depth]; omega⟩
/-- behind the first part -/
def tailL (xs : List (List Nat)) : List Nat := xs.flatMap fun x => 32 :: x
theorem join_tail : ∀ (x : List Nat) (xs : List (List Nat)), joinL [32] (x :: xs) = x ++ tailL xs
  | x, [] => by simp [joinL, tailL]
  | x, y :: r => by
    show x ++ ([32] ++ joinL [32] (y :: r)) = _
    rw [join_tail y r]
    simp [tailL]
/-- a number's signs -/
theorem num_cons : ∀ n : Nat, 1 ≤ n → ∃ f u, numL n = f :: u ∧ 49 ≤ f ∧ f ≤ 57 := by
  intro n
  induction n using Nat.strongRecOn with
  | _ n ih =>
    intro h
    by_cases h1 : n < 10
    · exact ⟨48 + n, [], TL.numL_lt h1, by omega, by omega⟩
    · obtain ⟨f, u, e, l⟩ := ih (n / 10) (by omega) (by omega)
      rw [TL.numL_step (by omega), e]
      exact ⟨f, u ++ [48 + n % 10], rfl, l⟩
def Stop (r : List Nat) : Prop := ∀ c, r.head? = some c → c = 32 ∨ c = 41
theorem stop_cons {c : Nat} {r : List Nat} (h : c = 32 ∨ c = 41) : Stop (c :: r) := fun x e => by cases e; exact h
theorem stop_tail (xs : List (List Nat)) (r : List Nat) : Stop (tailL xs ++ 41 :: r) := by
  cases xs with
  | nil => exact stop_cons (.inr rfl)
  | cons x xs => exact stop_cons (.inl rfl)
def spNum (C : Addr) : Sp := fun vs H Q _ => ∃ (p : Addr) (z : Str) (i d : Nat) (n : Int) (r : List Nat), vs = [.ref p] ∧ Scr C H p z i d ∧ z.length ≤ sizeLine ∧ (tl z).drop i = intL n ++ r ∧ n.natAbs < 10 ^ 30 ∧ Stop r ∧
  ∀ H', But p H H' → Scr C H' p z (i + (intL n).length) d → Q (.int n) H'
/-- a part of a writing, or (t) a bracket -/
def spPart (K : PySem.W.Frag) (C : Addr) (h : Nat) (t : Bool) : Sp := fun vs H Q _ => ∃ (p : Addr) (z : Str) (i d : Nat) (x : D) (r : List Nat) (Hs : Hp), vs = [.ref p] ∧ Scr C H p z i d ∧ z.length ≤ sizeLine ∧ (tl z).drop i = sh x ++ r ∧ vd h x ∧ d + h ≤ 40 ∧
  (t = true → ∃ ds, x = .tuple ds) ∧ (t = false → Stop r) ∧ Same Hs H ∧ Hs p = none ∧
  ∀ v Hs' H', Same Hs Hs' → Same Hs' H' → But p H H' → (∀ b, Hs b = none → Hs' b ≠ none → H b = none) → Scr C H' p z (i + (sh x).length) d → Rp K Hs' v x → Q v H'
theorem lt_of_drop {l r : List Nat} {i c : Nat} (h : l.drop i = c :: r) : i < l.length := by
  have := congrArg List.length h
  rw [List.length_drop, List.length_cons] at this
  omega
theorem drop_more {l u r : List Nat} {i : Nat} (h : l.drop i = u ++ r) : l.drop (i + u.length) = r := by
  rw [← List.drop_drop, h, List.drop_left]
theorem tl_fig : tl (Str.ofString "0123456789") = [48, 49, 50, 51, 52, 53, 54, 55, 56, 57] := by decide +kernel
theorem tl_small : tl (Str.ofString "abcdefghijklmnopqrstuvwxyz") = (List.range 26).map (97 + ·) := by decide +kernel
theorem cut_fig : tl (cutS (Str.ofString "0123456789") (some 1) none) = [49, 50, 51, 52, 53, 54, 55, 56, 57] := by decide +kernel
theorem mem_fig {c : Nat} : c ∈ tl (Str.ofString "0123456789") ↔ 48 ≤ c ∧ c ≤ 57 := by
  rw [tl_fig]
  simp only [List.mem_cons, List.not_mem_nil, or_false]
  omega
theorem mem_small {c : Nat} : c ∈ tl (Str.ofString "abcdefghijklmnopqrstuvwxyz") ↔ 97 ≤ c ∧ c ≤ 122 := by
  rw [tl_small]
  simp only [List.mem_map, List.mem_range]
  constructor
  · rintro ⟨a, h, rfl⟩; omega
  · intro h; exact ⟨c - 97, by omega, by omega⟩
section
variable {P : Program} {w : World} {K : PySem.W.Frag} {mg : Str → Option Value} {base : Heap} {C : Addr}
theorem sg_yes {c : Nat} {r : List Nat} {x : Str} (h : tl x = [c]) : decide (V.str (Sg (List.take 1 (c :: r))) = V.str x) = true := decide_eq_true (congrArg V.str (TL.ext_tl h.symm))
theorem ok_num (T : Tx K mg) (B : C_Scribe K mg C) : OkM P w K mg base C 3 "whole_number" ["self"] (spNum C) := by
  have O1 : OkM P w K mg base C 1 "sign_ahead" ["self"] (spAhead C) := ok_ahead B
  have O2 : OkM P w K mg base C 2 "need_sign" ["self", "some"] (spNeed C) := ok_need B
  have O3 : OkM P w K mg base C 1 "run_of" ["self", "some", "most"] (spRun C) := ok_run T B
  refine OkM.mk B.m_whole_number sc_Scribe_whole_number (fun vs H Q E h => ?_) (fun f cdv A outer s H vs Q E hr h => ?_)
  · obtain ⟨p, z, i, d, n, r, rfl, _⟩ := h; rfl
  · obtain ⟨p, z, i, d, n, r, rfl, ⟨dx, hp⟩, hz, hd, hn, hst, k⟩ := h
    have nA : ∀ z i d, (scF z i d).lookup ("sign_ahead" : Str) = none := fun z i d => scF_no _ _ _ (by decide +kernel) (by decide +kernel) (by decide +kernel)
    have nN : ∀ z i d, (scF z i d).lookup ("need_sign" : Str) = none := fun z i d => scF_no _ _ _ (by decide +kernel) (by decide +kernel) (by decide +kernel)
    have nR : ∀ z i d, (scF z i d).lookup ("run_of" : Str) = none := fun z i d => scF_no _ _ _ (by decide +kernel) (by decide +kernel) (by decide +kernel)
    refine ⟨_, pss_cons (ps_if (pt_cmpR (eqG K rfl hr.units) (pe_mth0 (pv 0) B.k.cl O1 (hr.mono (by omega))) pe_str (nomark _)) (pss_cons (ps_fldaug (pv 0) pe_int in_add) (pss_one (ps_ret pe_int))) pss_nil)
      (pss_cons (ps_set (i := 1) sc_Scribe_whole_number.nd rfl (Or.inl rfl) (pe_cmpR (eqG K rfl hr.units) (pe_mth0 (pv 0) B.k.cl O1 (hr.mono (by omega))) pe_str (nomark _)))
      (pss_cons (ps_fldaug (pv 0) (pe_callTy call_int1 (by rfl) T.z_int boot_int (pa_cons (pv 1) pa_nil)) in_add)
      (pss_cons (ps_set (i := 2) sc_Scribe_whole_number.nd rfl (Or.inl rfl) (pe_mth (pv 0) B.k.cl O2 (hr.mono (by omega)) (pa_cons (pe_slice sl_str (pe_gv (by rfl) T.g_FIGURES) (po_some pe_int) po_none) pa_nil)))
      (pss_cons (ps_set (i := 3) sc_Scribe_whole_number.nd rfl (Or.inl rfl) (pe_callTy call_int_str (by rfl) T.z_int boot_int (pa_cons (pe_op op_add_str (pv 2) (pe_mth (pv 0) B.k.cl O3 (hr.mono (by omega)) (pa_cons (pe_gv (by rfl) T.g_FIGURES) (pa_cons (pe_op op_sub (pe_gv (by rfl) T.g_MOST_FIGURES) pe_int) pa_nil)))) pa_nil)))
      (pss_one (ps_ret (pe_ifExp (pt_val (pv 1)) (pe_un un_neg (pv 3)) (pv 3)))))))), ?_⟩
    refine ⟨_, rfl, p, dx, _, rfl, hp, nA _ _ _, p, z, i, d, rfl, ⟨dx, hp⟩, hz, ?_⟩
    rw [hd]
    by_cases n0 : n = 0
    · subst n0
      have e0 : intL 0 = [48] := by decide +kernel
      rw [e0] at k ⊢
      refine .inl ⟨rfl, _, rfl, ifp (sg_yes tl_0) ?_⟩
      refine ⟨_, rfl, p, C, dx, _, _, rfl, hp, B.k.cl, B.n_spot, scF_sp _ _ _, _, _, rfl, rfl, dx, _, hp, scF_len _ _ _, ?_⟩
      exact k _ But.upd ⟨dx, by rw [upd_same, scF_psp z i d _ (i + 1) (by omega)]; rfl⟩
    · obtain ⟨f, u, ef, f1, f2⟩ := num_cons n.natAbs (by omega)
      have hul : u.length ≤ 29 := by
        have := TL.numL_len (n := n.natAbs) (k := 30) (by decide) hn
        rw [ef, List.length_cons] at this
        omega
      have hud : ∀ c ∈ u, 48 ≤ c ∧ c ≤ 57 := fun c m => TL.numL_digits n.natAbs c (by rw [ef]; exact List.mem_cons_of_mem _ m)
      -- the rest, from the spot of the first figure on
      obtain ⟨t, g, et, eg, ez⟩ : ∃ (t : Bool) (g : Nat), intL n = (if t = true then [45] else []) ++ f :: u ∧ (g = if t = true then 1 else 0) ∧ (t = true ↔ n < 0) := by
        unfold intL
        by_cases hneg : n < 0
        · exact ⟨true, 1, by rw [if_pos hneg, ef]; rfl, rfl, by simp [hneg]⟩
        · exact ⟨false, 0, by rw [if_neg hneg, ef]; rfl, rfl, by simp [hneg]⟩
      have hh : ∃ c q, intL n ++ r = c :: q ∧ c ≠ 48 ∧ (decide (V.str (Sg (List.take 1 (c :: q))) = V.str (Str.ofString "-")) = t) := by
        rw [et]
        cases t with
        | true => exact ⟨45, _, rfl, by decide, sg_yes tl_m⟩
        | false =>
          refine ⟨f, _, rfl, by omega, Bool.eq_false_iff.mpr ?_⟩
          exact sg_no (by rw [tl_m]; intro z; injection z with z1 z2; omega)
      obtain ⟨c, q, e1, e2, e3⟩ := hh
      rw [e1]
      refine .inl ⟨rfl, _, rfl, ifn (sg_no (by rw [tl_0]; intro z; injection z with z1 z2; omega)) ?_⟩
      refine ⟨_, rfl, p, dx, _, rfl, hp, nA _ _ _, p, z, i, d, rfl, ⟨dx, hp⟩, hz, ?_⟩
      rw [hd, e1]
      refine .inl ⟨rfl, ?_⟩
      rw [e3]
      refine ⟨_, rfl, p, C, dx, _, _, rfl, hp, B.k.cl, B.n_spot, scF_sp _ _ _, _, rfl, .inr ⟨t, rfl, _, _, rfl, rfl, dx, _, hp, scF_len _ _ _, ?_⟩⟩
      have hd2 : (tl z).drop (i + g) = f :: u ++ r := by
        have : g = (if t = true then [45] else [] : List Nat).length := by rw [eg]; cases t <;> rfl
        rw [this]
        apply drop_more
        rw [hd, et, List.append_assoc]
      have s1 : Scr C (L2.upd H p (.ins C dx (putF "spot" (V.int ((i : Int) + if t = true then 1 else 0)) (scF z i d)))) p z (i + g) d := ⟨dx, by
        rw [upd_same, scF_psp z i d _ (i + g)]
        rw [eg]; cases t <;> simp⟩
      have b1 : But p H (L2.upd H p (.ins C dx (putF "spot" (V.int ((i : Int) + if t = true then 1 else 0)) (scF z i d)))) := But.upd
      generalize (L2.upd H p (.ins C dx (putF "spot" (V.int ((i : Int) + if t = true then 1 else 0)) (scF z i d)))) = H1 at s1 b1
      obtain ⟨dx1, hp1⟩ := s1
      refine ⟨_, rfl, p, dx1, _, rfl, hp1, nN _ _ _, _, rfl, _, rfl, by decide +kernel, p, z, _, i + g, d, f, u ++ r, rfl, ⟨dx1, hp1⟩, hz, hd2, ?_, fun H2 b2 s2 => ?_⟩
      · rw [cut_fig]
        simp only [List.mem_cons, List.not_mem_nil, or_false]
        omega
      obtain ⟨dx2, hp2⟩ := s2
      have hd3 : (tl z).drop (i + g + 1) = u ++ r := drop_more (u := [f]) hd2
      refine ⟨_, rfl, _, rfl, p, dx2, _, rfl, hp2, nR _ _ _, _, _, rfl, rfl, p, z, _, i + g + 1, d, 29, u, r, rfl, ⟨dx2, hp2⟩, hz, ?_, hd3, fun c m => mem_fig.mpr (hud c m), hul, .inr fun c e => ?_, fun H3 b3 s3 => ?_⟩
      · have := lt_of_drop (i := i + g) (l := tl z) hd2
        omega
      · rw [mem_fig]
        rcases hst c e with rfl | rfl <;> decide
      · refine ⟨_, _, rfl, rfl, ?_, ?_⟩
        · show 1 + (Sg u).length ≤ sizeLine
          refine small_line ?_
          rw [TL.len_tl]
          show 1 + u.length ≤ 1000
          omega
        · have en : Sg [f] ++ Sg u = Sg (numL n.natAbs) := by rw [ef]; exact SX.S_cat [f] u
          rw [en]
          refine ⟨_, ((n.natAbs : Nat) : Int), rfl, ?_, ?_, ?_⟩
          · have := SX.int_S (a := numL n.natAbs) (List.all_eq_true.mpr fun c m => by have := TL.numL_digits n.natAbs c m; simp; omega) (TL.numL_ne _) (by have := TL.numL_len (n := n.natAbs) (k := 30) (by decide) hn; omega)
            rw [TL.numL_val] at this
            exact this
          · rw [TL.len_tl]; have := TL.numL_len (n := n.natAbs) (k := 30) (by decide) hn; show (numL n.natAbs).length ≤ 640; omega
          · have hlen : i + g + 1 + u.length = i + (intL n).length := by rw [et, eg]; cases t <;> simp <;> omega
            rw [hlen] at s3
            refine ⟨_, rfl, t, rfl, ?_⟩
            have kk := k H3 (b1.trans (b2.trans b3)) s3
            cases t with
            | true =>
              refine ifp rfl ⟨_, rfl, _, rfl, ?_⟩
              show Q (V.int (-((n.natAbs : Nat) : Int))) H3
              rw [show -((n.natAbs : Nat) : Int) = n by have := ez.mp rfl; omega]
              exact kk
            | false =>
              refine ifn Bool.false_ne_true ⟨_, rfl, ?_⟩
              show Q (V.int ((n.natAbs : Nat) : Int)) H3
              rw [show ((n.natAbs : Nat) : Int) = n by have : ¬ n < 0 := fun z => absurd (ez.mpr z) Bool.false_ne_true; omega]
              exact kk

theorem same_but {Hs H H' : Hp} {p : Addr} (a : Same Hs H) (n : Hs p = none) (b : But p H H') : Same Hs H' := fun c o e => b c o (fun z => by subst z; rw [n] at e; cases e) (a c o e)
theorem sh_head {x : D} {h : Nat} (hv : vd h x) : ∃ c q, sh x = c :: q ∧ c ≠ 41 := by
  cases x <;> first | (cases h <;> exact hv.elim) | skip
  case str w =>
    have hw : word w := by cases h <;> exact hv
    have := hw.1
    rw [TL.len_tl] at this
    show ∃ c q, tl w = c :: q ∧ c ≠ 41
    cases e : tl w with
    | nil => rw [e] at this; cases this
    | cons c q =>
      have := hw.2.2 c (by rw [e]; exact List.mem_cons_self ..)
      exact ⟨c, q, rfl, by omega⟩
  case int n =>
    show ∃ c q, intL n = c :: q ∧ c ≠ 41
    unfold intL
    split
    · exact ⟨_, _, rfl, by decide⟩
    · cases e : numL n.natAbs with
      | nil => exact absurd e (TL.numL_ne _)
      | cons c q =>
        have := TL.numL_digits n.natAbs c (by rw [e]; exact List.mem_cons_self ..)
        exact ⟨c, q, rfl, by omega⟩
  case tuple ds => exact ⟨40, _, by simp only [sh]; rfl, by decide⟩
theorem ok_part (T : Tx K mg) (B : C_Scribe K mg C) {h k : Nat} (O5 : OkM P w K mg base C k "brackets" ["self"] (spPart K C h true)) (hk : 3 ≤ k) : OkM P w K mg base C (k + 1) "any_part" ["self"] (spPart K C h false) := by
  have O1 : OkM P w K mg base C 1 "sign_ahead" ["self"] (spAhead C) := ok_ahead B
  have O3 : OkM P w K mg base C 1 "run_of" ["self", "some", "most"] (spRun C) := ok_run T B
  have O4 : OkM P w K mg base C 3 "whole_number" ["self"] (spNum C) := ok_num T B
  refine OkM.mk B.m_any_part sc_Scribe_any_part (fun vs H Q E h => ?_) (fun f cdv A outer s H vs Q E hr h => ?_)
  · obtain ⟨p, z, i, d, x, r, Hs, rfl, _⟩ := h; rfl
  · obtain ⟨p, z, i, d, x, r, Hs, rfl, ⟨dx, hp⟩, hz, hd, hv, hdh, hxx, hst, hs, hsp, k⟩ := h
    have hst := hst rfl
    clear hxx
    have nA : ∀ z i d, (scF z i d).lookup ("sign_ahead" : Str) = none := fun z i d => scF_no _ _ _ (by decide +kernel) (by decide +kernel) (by decide +kernel)
    have nR : ∀ z i d, (scF z i d).lookup ("run_of" : Str) = none := fun z i d => scF_no _ _ _ (by decide +kernel) (by decide +kernel) (by decide +kernel)
    have nW : ∀ z i d, (scF z i d).lookup ("whole_number" : Str) = none := fun z i d => scF_no _ _ _ (by decide +kernel) (by decide +kernel) (by decide +kernel)
    have nB : ∀ z i d, (scF z i d).lookup ("brackets" : Str) = none := fun z i d => scF_no _ _ _ (by decide +kernel) (by decide +kernel) (by decide +kernel)
    refine ⟨_, pss_cons (ps_set (i := 1) sc_Scribe_any_part.nd rfl (Or.inl rfl) (pe_mth0 (pv 0) B.k.cl O1 (hr.mono (by omega))))
      (pss_cons (ps_if (PW.pt (pw_and (pt_cmpR (neG K rfl hr.units) (pv 1) pe_str (nomark _)) (pw_and1 (pt_cmpR op_in_str (pv 1) (pe_gv (by rfl) T.g_SMALL) (by rfl)))))
        (pss_one (ps_ret (pe_mth (pv 0) B.k.cl O3 (hr.mono (by omega)) (pa_cons (pe_gv (by rfl) T.g_SMALL) (pa_cons (pe_gv (by rfl) T.g_MOST_LETTERS) pa_nil))))) pss_nil)
      (pss_cons (ps_if (PW.pt (pw_and (pt_cmpR (neG K rfl hr.units) (pv 1) pe_str (nomark _)) (pw_and1 (pt_cmpR op_in_str (pv 1) (pe_op op_add_str (pe_gv (by rfl) T.g_FIGURES) pe_str) (by rfl)))))
        (pss_one (ps_ret (pe_mth0 (pv 0) B.k.cl O4 (hr.mono (by omega))))) pss_nil)
      (pss_one (ps_ret (pe_mth0 (pv 0) B.k.cl O5 (hr.mono (by omega))))))), ?_⟩
    refine ⟨_, rfl, p, dx, _, rfl, hp, nA _ _ _, p, z, i, d, rfl, ⟨dx, hp⟩, hz, ?_⟩
    have hh : ∃ c q, sh x = c :: q := by
      cases x <;> first | (cases h <;> exact hv.elim) | skip
      case str w =>
        have hw : word w := by cases h <;> exact hv
        have := hw.1
        rw [TL.len_tl] at this
        show ∃ c q, tl w = c :: q
        cases e : tl w with
        | nil => rw [e] at this; cases this
        | cons c q => exact ⟨c, q, rfl⟩
      case int n =>
        show ∃ c q, intL n = c :: q
        unfold intL
        split
        · exact ⟨_, _, rfl⟩
        · cases e : numL n.natAbs with
          | nil => exact absurd e (TL.numL_ne _)
          | cons c q => exact ⟨c, q, rfl⟩
      case tuple ds => exact ⟨_, _, by simp only [sh]; rfl⟩
    obtain ⟨c, q, ec⟩ := hh
    have ef : (Sg (List.take 1 (c :: q ++ r)) : Str) = ⟨#[c]⟩ := rfl
    have hil := lt_of_drop (show (tl z).drop i = c :: (q ++ r) by rw [hd, ec]; rfl)
    rw [hd, ec, ef]
    have ne : ∀ {A B : Prop}, A → if (!decide (V.str ⟨#[c]⟩ = V.str (Str.ofString ""))) = true then A else B := fun a => ifp (by
      rw [Bool.not_eq_true', Bool.eq_false_iff]
      exact sg_no (c := c) (r := []) (by rw [tl_e]; exact fun z => nomatch z)) a
    refine ⟨_, rfl, .inl ⟨rfl, _, rfl, ne ⟨_, rfl, _, _, rfl, rfl, _, rfl, ?_⟩⟩⟩
    rw [StrLaws.found_one]
    by_cases c1 : c ∈ tl (Str.ofString "abcdefghijklmnopqrstuvwxyz")
    · -- a word
      refine ifp (decide_eq_true c1) ?_
      rw [mem_small] at c1
      obtain ⟨wd, rfl, hw⟩ : ∃ wd, x = .str wd ∧ word wd := by
        cases x <;> first | (cases h <;> exact hv.elim) | skip
        case str wd => exact ⟨wd, rfl, by cases h <;> exact hv⟩
        case int n =>
          exfalso
          have e' : intL n = c :: q := ec
          unfold intL at e'
          split at e'
          · injection e' with e1 e2; omega
          · have := TL.numL_digits n.natAbs c (by rw [e']; exact List.mem_cons_self ..)
            omega
        case tuple ds => exfalso; simp only [sh] at ec; injection ec with e1 e2; omega
      have e2 : sh (.str wd) = tl wd := by simp only [sh]
      rw [e2] at hd k
      refine ⟨_, rfl, p, dx, _, rfl, hp, nR _ _ _, p, z, _, i, d, 8, tl wd, r, rfl, ⟨dx, hp⟩, hz, by omega, hd, fun c m => mem_small.mpr (hw.2.2 c m), by rw [← TL.len_tl]; exact hw.2.1, .inr fun c e => ?_, fun H' b' s' => ?_⟩
      · rw [mem_small]; rcases hst c e with rfl | rfl <;> decide
      · rw [show (Sg (tl wd) : Str) = wd from TL.mk_tl wd]
        exact k _ Hs H' (Same.refl _) (same_but hs hsp b') b' (fun b h1 h2 => absurd h1 h2) s' (Rp.str _)
    · refine ifn (by simpa using c1) ?_
      refine ⟨_, rfl, .inl ⟨rfl, _, rfl, ne ⟨_, rfl, _, _, rfl, rfl, by decide +kernel, _, _, rfl, rfl, _, rfl, ?_⟩⟩⟩
      rw [StrLaws.found_one]
      rw [mem_small] at c1
      have mf : c ∈ (Str.ofString "0123456789" ++ Str.ofString "-").cps.toList ↔ (48 ≤ c ∧ c ≤ 57) ∨ c = 45 := by
        show c ∈ tl (Str.ofString "0123456789" ++ Str.ofString "-") ↔ _
        rw [TL.tl_append, List.mem_append, mem_fig, tl_m, List.mem_singleton]
      by_cases c2 : (48 ≤ c ∧ c ≤ 57) ∨ c = 45
      · refine ifp (decide_eq_true (mf.mpr c2)) ?_
        obtain ⟨n, rfl, hn⟩ : ∃ n, x = .int n ∧ n.natAbs < 10 ^ 30 := by
          cases x <;> first | (cases h <;> exact hv.elim) | skip
          case int n => exact ⟨n, rfl, by cases h <;> exact hv⟩
          case str wd =>
            exfalso
            have hw : word wd := by cases h <;> exact hv
            have e' : tl wd = c :: q := ec
            have := hw.2.2 c (by rw [e']; exact List.mem_cons_self ..)
            omega
          case tuple ds => exfalso; simp only [sh] at ec; injection ec with e1 e2; omega
        have e2 : sh (.int n) = intL n := by simp only [sh]
        rw [e2] at hd k
        refine ⟨_, rfl, p, dx, _, rfl, hp, nW _ _ _, p, z, i, d, n, r, rfl, ⟨dx, hp⟩, hz, hd, hn, hst, fun H' b' s' => ?_⟩
        exact k _ Hs H' (Same.refl _) (same_but hs hsp b') b' (fun b h1 h2 => absurd h1 h2) s' (Rp.int _)
      · refine ifn (by rw [decide_eq_true_eq, mf]; exact c2) ?_
        have ht : ∃ ds, x = .tuple ds := by
          cases x <;> first | (cases h <;> exact hv.elim) | skip
          case tuple ds => exact ⟨ds, rfl⟩
          case str wd =>
            exfalso
            have hw : word wd := by cases h <;> exact hv
            have e' : tl wd = c :: q := ec
            have := hw.2.2 c (by rw [e']; exact List.mem_cons_self ..)
            omega
          case int n =>
            exfalso
            have e' : intL n = c :: q := ec
            unfold intL at e'
            split at e'
            · injection e' with e1 e2; omega
            · have := TL.numL_digits n.natAbs c (by rw [e']; exact List.mem_cons_self ..)
              omega
        exact ⟨_, rfl, p, dx, _, rfl, hp, nB _ _ _, p, z, i, d, x, r, Hs, rfl, ⟨dx, hp⟩, hz, hd, hv, hdh, fun _ => ht, fun z => Bool.noConfusion z, hs, hsp, k⟩
end

/-! ### brackets, read -/
theorem shL_len : ∀ ds : List D, (shL ds).length = ds.length
  | [] => by simp only [shL, List.length_nil]
  | d :: ds => by simp only [shL, List.length_cons, shL_len ds]
theorem shL_app : ∀ ds es : List D, shL (ds ++ es) = shL ds ++ shL es
  | [], es => by simp [shL]
  | d :: ds, es => by simp only [List.cons_append, shL, shL_app ds es]
theorem small_big {n : Nat} (h : n ≤ 2000000) : n ≤ sizeLine := Nat.le_trans h (by decide)
theorem tail_len : ∀ xs : List (List Nat), xs.length ≤ (tailL xs).length
  | [] => Nat.zero_le _
  | x :: xs => by
    have := tail_len xs
    unfold tailL at this ⊢
    rw [List.flatMap_cons, List.length_append, List.length_cons, List.length_cons]
    omega
theorem tail_cons (x : List Nat) (xs : List (List Nat)) : tailL (x :: xs) = 32 :: (x ++ tailL xs) := by simp [tailL]
theorem few_parts (ds : List D) : ds.length + 1 ≤ (sh (.tuple ds)).length := by
  simp only [sh]
  cases ds with
  | nil => simp [shL, joinL]
  | cons e r =>
    simp only [shL]
    rw [join_tail]
    simp only [List.length_cons, List.length_append, List.length_nil]
    have := tail_len (shL r)
    rw [shL_len] at this
    omega
/-- what stands between the parts -/
structure Cm (Hs H : Hp) (p q : Addr) (Hs' H' : Hp) : Prop where
  a : Same Hs Hs'
  b : Same Hs' H'
  c : But p H H'
  d : ∀ b, Hs b = none → Hs' b ≠ none → H b = none
  e : Hs' p = none
  f : Hs' q = none
theorem Cm.upd {Hs H : Hp} {p q : Addr} {Hs' H' : Hp} (m : Cm Hs H p q Hs' H') {o : HO} (hq : H q = none) : Cm Hs H p q Hs' (L2.upd H' q o) :=
  ⟨m.a, fun x u e => by rw [upd_ne (fun z => by subst z; rw [m.f] at e; cases e)]; exact m.b x u e, fun x u n e => by rw [upd_ne (ne_of_none e hq)]; exact m.c x u n e, m.d, m.e, m.f⟩
theorem Cm.own {Hs H : Hp} {p q : Addr} {Hs' H' H2 : Hp} (m : Cm Hs H p q Hs' H') (b : But p H' H2) : Cm Hs H p q Hs' H2 :=
  ⟨m.a, same_but m.b m.e b, m.c.trans b, m.d, m.e, m.f⟩
theorem Cm.more {Hs H : Hp} {p q : Addr} {Hs' H' Hs2 H2 : Hp} (m : Cm Hs H p q Hs' H') (st : Same Hs' Hs2) (sb : Same Hs2 H2) (b : But p H' H2) (nw : ∀ b, Hs' b = none → Hs2 b ≠ none → H' b = none) {u v : HO} (hp : H' p = some u) (hq : H' q = some v) : Cm Hs H p q Hs2 H2 := by
  have p2 : Hs2 p = none := none_of_new nw m.e hp
  refine ⟨m.a.trans st, sb, m.c.trans b, fun x e1 e2 => ?_, p2, none_of_new nw m.f hq⟩
  cases e : Hs' x with
  | some o => exact m.d x e1 (by rw [e]; exact fun z => nomatch z)
  | none =>
    have h1 := nw x e e2
    cases e3 : H x with
    | none => rfl
    | some o =>
      have := m.c x o (fun z => by subst z; exact e2 p2) e3
      rw [h1] at this
      cases this
section
variable {P : Program} {w : World} {K : PySem.W.Frag} {mg : Str → Option Value} {base : Heap} {C : Addr}
theorem ok_br0 (B : C_Scribe K mg C) : OkM P w K mg base C 3 "brackets" ["self"] (spPart K C 0 true) := by
  have no : ∀ {vs H Q E}, spPart K C 0 true vs H Q E → False := fun h => by
    obtain ⟨p, z, i, d, x, r, Hs, rfl, _, _, _, hv, _, ht, _⟩ := h
    obtain ⟨ds, rfl⟩ := ht rfl
    exact hv
  exact OkM.mk B.m_brackets sc_Scribe_brackets (fun vs H Q E h => (no h).elim) (fun f cdv A outer s H vs Q E hr h => (no h).elim)
theorem ok_br (T : Tx K mg) (B : C_Scribe K mg C) {h k : Nat} (O6 : OkM P w K mg base C k "any_part" ["self"] (spPart K C h false)) (hk : 3 ≤ k) : OkM P w K mg base C (k + 1) "brackets" ["self"] (spPart K C (h + 1) true) := by
  have O1 : OkM P w K mg base C 1 "sign_ahead" ["self"] (spAhead C) := ok_ahead B
  have O2 : OkM P w K mg base C 2 "need_sign" ["self", "some"] (spNeed C) := ok_need B
  refine OkM.mk B.m_brackets sc_Scribe_brackets (fun vs H Q E h => ?_) (fun f cdv A outer s H vs Q E hr hh => ?_)
  · obtain ⟨p, z, i, d, x, r, Hs, rfl, _⟩ := h; rfl
  · obtain ⟨p, z, i, d, x, r, Hs, rfl, ⟨dx, hp⟩, hz, hd, hv, hdh, hx, _, hs, hsp, kk⟩ := hh
    obtain ⟨ds, rfl⟩ := hx rfl
    have hv : ∀ e ∈ ds, vd h e := hv
    have nA : ∀ z i d, (scF z i d).lookup ("sign_ahead" : Str) = none := fun z i d => scF_no _ _ _ (by decide +kernel) (by decide +kernel) (by decide +kernel)
    have nN : ∀ z i d, (scF z i d).lookup ("need_sign" : Str) = none := fun z i d => scF_no _ _ _ (by decide +kernel) (by decide +kernel) (by decide +kernel)
    have nP : ∀ z i d, (scF z i d).lookup ("any_part" : Str) = none := fun z i d => scF_no _ _ _ (by decide +kernel) (by decide +kernel) (by decide +kernel)
    have esh : sh (.tuple ds) = 40 :: (joinL [32] (shL ds) ++ [41]) := by simp only [sh]
    have few : ds.length < sizeLine := by
      have h1 := few_parts ds
      have h2 := congrArg List.length hd
      rw [List.length_drop, List.length_append] at h2
      rw [TL.len_tl] at hz
      omega
    refine ⟨_, pss_cons (ps_if (PW.pt (pw_and (pt_cmpR (eqG K rfl hr.units) (pe_mth0 (pv 0) B.k.cl O1 (hr.mono (by omega))) pe_str (nomark _)) (pw_and1 (pt_cmpR (eqG K rfl hr.units) (pe_fld (pv 0) rfl) (pe_gv (by rfl) T.g_MOST_BRACKETS) (nomark _))))) (pss_one ps_never) pss_nil)
      (pss_cons (ps_expr (pe_mth (pv 0) B.k.cl O2 (hr.mono (by omega)) (pa_cons pe_str pa_nil)))
      (pss_cons (ps_fldaug (pv 0) pe_int in_add)
      (pss_cons (ps_set (i := 1) sc_Scribe_brackets.nd rfl (Or.inl rfl) (pe_lst pa_nil))
      (C8.pss_cut (ps_if (pt_cmpR (neG K rfl hr.units) (pe_mth0 (pv 0) B.k.cl O1 (hr.mono (by omega))) pe_str (nomark _)) (pss_one (ps_expr (appK K rfl (pv 1) (pe_mth0 (pv 0) B.k.cl O6 (hr.mono (by omega)))))) pss_nil)
      (C8.pss_cut (ps_while PassesOwn.never (PW.pt (pw_and (pt_cmpR (neG K rfl hr.units) (pv 1) (pe_lst pa_nil) (nomark _)) (pw_and1 (pt_cmpR (neG K rfl hr.units) (pe_mth0 (pv 0) B.k.cl O1 (hr.mono (by omega))) pe_str (nomark _)))))
        (pss_cons (ps_expr (pe_mth (pv 0) B.k.cl O2 (hr.mono (by omega)) (pa_cons pe_str pa_nil))) (pss_one (ps_expr (appK K rfl (pv 1) (pe_mth0 (pv 0) B.k.cl O6 (hr.mono (by omega))))))))
      (pss_cons (ps_expr (pe_mth (pv 0) B.k.cl O2 (hr.mono (by omega)) (pa_cons pe_str pa_nil)))
      (pss_cons (ps_fldaug (pv 0) pe_int in_sub)
      (pss_one (ps_ret (pe_callTy (tupQ K rfl) (by rfl) T.z_tuple boot_tuple (pa_cons (pv 1) pa_nil))))))))))), ?_⟩
    -- the bracket's begin
    refine ⟨_, rfl, p, dx, _, rfl, hp, nA _ _ _, p, z, i, d, rfl, ⟨dx, hp⟩, hz, ?_⟩
    have hd1 : (tl z).drop i = 40 :: (joinL [32] (shL ds) ++ 41 :: r) := by rw [hd, esh]; simp
    rw [hd1]
    refine .inl ⟨rfl, _, rfl, ifp (sg_yes tl_lp) ⟨_, rfl, p, C, dx, _, _, rfl, hp, B.k.cl, B.n_depth, scF_dp _ _ _, .inl ⟨rfl, _, rfl, ifn (fun e => ?_) ?_⟩⟩⟩
    · have e := of_decide_eq_true e
      injection e with e
      omega
    refine ⟨_, rfl, p, dx, _, rfl, hp, nN _ _ _, p, z, _, i, d, 40, _, rfl, ⟨dx, hp⟩, hz, hd1, by rw [tl_lp]; exact List.mem_singleton.mpr rfl, fun H1 b1 s1 => ?_⟩
    obtain ⟨dx1, hp1⟩ := s1
    refine ⟨_, rfl, p, C, dx1, _, _, rfl, hp1, B.k.cl, B.n_depth, scF_dp _ _ _, _, _, rfl, rfl, dx1, _, hp1, scF_len _ _ _, ?_⟩
    rw [scF_pdp z (i + 1) d _ (d + 1) (by omega)]
    have b2 : But p H (L2.upd H1 p (.ins C dx1 (scF z (i + 1) (d + 1)))) := b1.trans But.upd
    have hp2 : (L2.upd H1 p (.ins C dx1 (scF z (i + 1) (d + 1)))) p = some (.ins C dx1 (scF z (i + 1) (d + 1))) := upd_same
    generalize (L2.upd H1 p (.ins C dx1 (scF z (i + 1) (d + 1)))) = H2 at b2 hp2
    refine ⟨by show 0 ≤ sizeLine; exact Nat.zero_le _, fun q nq => ?_⟩
    have pq : p ≠ q := ne_of_none hp2 nq
    have hq0 : H q = none := b2.free pq.symm nq
    have hsq : Hs q = none := by
      cases e : Hs q with
      | none => rfl
      | some o => have := hs _ _ e; rw [hq0] at this; cases this
    have m2 : Cm Hs H p q Hs (L2.upd H2 q (.lst [])) := Cm.upd ⟨Same.refl _, same_but hs hsp b2, b2, fun b e1 e2 => absurd e1 e2, hsp, hsq⟩ hq0
    have hq3 : (L2.upd H2 q (.lst [])) q = some (.lst []) := upd_same
    have s3 : Scr C (L2.upd H2 q (.lst [])) p z (i + 1) (d + 1) := ⟨dx1, by rw [upd_ne pq]; exact hp2⟩
    generalize (L2.upd H2 q (.lst [])) = H3 at m2 hq3 s3
    have hd3 : (tl z).drop (i + 1) = joinL [32] (shL ds) ++ 41 :: r := drop_more (u := [40]) hd1
    -- a part, put to the others
    have step : ∀ (done : List D) (e : D) (Hs' H' : Hp) (i' : Nat) (xs : List V) (rest : List Nat) (Q' : VK), e ∈ ds → done.length < ds.length → Stop rest → Scr C H' p z i' (d + 1) → (tl z).drop i' = sh e ++ rest → H' q = some (.lst xs) → RpAll K Hs' xs done → Cm Hs H p q Hs' H' →
        (∀ v Hs2 H2, H2 q = some (.lst xs) → xs.length < sizeLine → Cm Hs H p q Hs2 (L2.upd H2 q (.lst (xs ++ [v]))) → Scr C (L2.upd H2 q (.lst (xs ++ [v]))) p z (i' + (sh e).length) (d + 1) → RpAll K Hs2 (xs ++ [v]) (done ++ [e]) → Q' v H2) → spPart K C h false [.ref p] H' Q' E0 := by
      intro done e Hs' H' i' xs rest Q' me hl hst sc hdr hq rp cm fin
      refine ⟨p, z, i', d + 1, e, rest, Hs', rfl, sc, hz, hdr, hv e me, by omega, fun z => Bool.noConfusion z, fun _ => hst, cm.b, cm.e, fun v Hs2 H4 g1 g2 g3 g4 g5 g6 => ?_⟩
      obtain ⟨dx', hp'⟩ := sc
      have cm2 := cm.more g1 g2 g3 g4 hp' hq
      exact fin v Hs2 H4 (g3 _ _ pq.symm hq) (by rw [rp.len]; omega) (cm2.upd hq0) (by obtain ⟨dx4, e4⟩ := g5; exact ⟨dx4, by rw [upd_ne pq]; exact e4⟩) ((RpAll.mono g1 rp).app (.cons g6 .nil))
    -- between the parts
    refine ⟨fun σ H' => σ = [some (.ref p), some (.ref q)] ∧ ∃ done todo i' Hs' xs, done ++ todo = ds ∧ (done = [] → todo = []) ∧ Scr C H' p z i' (d + 1) ∧ (tl z).drop i' = tailL (shL todo) ++ 41 :: r ∧ i' + (tailL (shL todo)).length + 1 = i + (sh (.tuple ds)).length ∧ H' q = some (.lst xs) ∧ RpAll K Hs' xs done ∧ Cm Hs H p q Hs' H', ?_, ?_⟩
    · obtain ⟨dx3, hp3⟩ := s3
      refine ⟨_, rfl, p, dx3, _, rfl, hp3, nA _ _ _, p, z, i + 1, d + 1, rfl, ⟨dx3, hp3⟩, hz, ?_⟩
      cases ds with
      | nil =>
        have e0 : joinL [32] (shL ([] : List D)) = [] := by simp only [shL]; rfl
        rw [e0] at hd3 esh
        rw [hd3]
        refine .inl ⟨rfl, _, rfl, ifn ?_ ⟨rfl, [], [], i + 1, Hs, [], rfl, fun _ => rfl, ⟨dx3, hp3⟩, by rw [hd3]; simp [shL, tailL], by rw [esh]; simp [shL, tailL], hq3, .nil, m2⟩⟩
        rw [show ([] ++ 41 :: r : List Nat) = 41 :: r from rfl, sg_yes tl_rp]
        exact Bool.false_ne_true
      | cons e todo =>
        have e0 : joinL [32] (shL (e :: todo)) = sh e ++ tailL (shL todo) := by simp only [shL]; exact join_tail _ _
        rw [e0] at hd3 esh
        rw [List.append_assoc] at hd3
        have ve := hv e (List.mem_cons_self ..)
        obtain ⟨c, u, ec, hc⟩ := sh_head ve
        rw [hd3, ec]
        refine .inl ⟨rfl, _, rfl, ifp ?_ ?_⟩
        · rw [Bool.not_eq_true', Bool.eq_false_iff]
          exact sg_no (by rw [tl_rp]; intro z; injection z with z1 z2; omega)
        refine ⟨_, rfl, .inl ⟨rfl, [], SqL.of hq3⟩, _, rfl, p, dx3, _, rfl, hp3, nP _ _ _, ?_⟩
        refine step [] e Hs H3 (i + 1) [] _ _ (List.mem_cons_self ..) (by simp) (stop_tail _ _) ⟨dx3, hp3⟩ hd3 hq3 .nil m2 fun v Hs2 H4 hq2 hl2 cm2 sc2 rp2 => ?_
        refine ⟨q, [], v, rfl, rfl, hq2, hl2, rfl, [e], todo, _, Hs2, [v], rfl, (fun z => nomatch z), sc2, drop_more hd3, ?_, upd_same, rp2, cm2⟩
        rw [esh]
        simp
        omega
    rintro σ H' ⟨rfl, st⟩
    refine ⟨fun σ H' => σ = [some (.ref p), some (.ref q)] ∧ ∃ i' Hs' xs, Scr C H' p z i' (d + 1) ∧ (tl z).drop i' = 41 :: r ∧ i' + 1 = i + (sh (.tuple ds)).length ∧ H' q = some (.lst xs) ∧ RpAll K Hs' xs ds ∧ Cm Hs H p q Hs' H', ?_, ?_⟩
    · refine ⟨fun n σ H' => σ = [some (.ref p), some (.ref q)] ∧ ∃ done todo i' Hs' xs, n = todo.length ∧ done ++ todo = ds ∧ (done = [] → todo = []) ∧ Scr C H' p z i' (d + 1) ∧ (tl z).drop i' = tailL (shL todo) ++ 41 :: r ∧ i' + (tailL (shL todo)).length + 1 = i + (sh (.tuple ds)).length ∧ H' q = some (.lst xs) ∧ RpAll K Hs' xs done ∧ Cm Hs H p q Hs' H', ?_, ?_⟩
      · obtain ⟨done, todo, i', Hs', xs, st⟩ := st
        exact ⟨todo.length, rfl, done, todo, i', Hs', xs, rfl, st⟩
      rintro n σ H' ⟨rfl, done, todo, i', Hs', xs, rfl, e1, e2, ⟨dx', hp'⟩, e4, e5, e6, e7, e8⟩
      refine ⟨_, rfl, by show 0 ≤ sizeLine; exact Nat.zero_le _, fun l nl => ?_⟩
      have dn : ∀ e ∈ done, vd h e := fun e m => hv e (by rw [← e1]; exact List.mem_append_left _ m)
      have ql : q ≠ l := ne_of_none e6 nl
      have pl : p ≠ l := ne_of_none hp' nl
      have cm' : Cm Hs H p q Hs' (L2.upd H' l (.lst [])) := e8.own (But.new nl)
      have hq' : (L2.upd H' l (.lst [])) q = some (.lst xs) := by rw [upd_ne ql]; exact e6
      have hp'' : (L2.upd H' l (.lst [])) p = some (.ins C dx' (scF z i' (d + 1))) := by rw [upd_ne pl]; exact hp'
      refine .inr ⟨.list done, .list [], Rd'.dp (ifp rfl ⟨q, _, rfl, hq', .lst e7⟩) cm'.b (vd_shL dn (by omega)), Rd'.dp (ifp rfl ⟨l, _, rfl, upd_same, .lst .nil⟩) cm'.b (show SeqAt.shaped _ = true by decide +kernel), vd_shL dn (by omega), by decide +kernel, _, rfl, ?_⟩
      generalize (L2.upd H' l (.lst [])) = H5 at cm' hq' hp''
      cases done with
      | nil =>
        have e3 := e2 rfl
        subst e3
        refine ifn (by simp [PyData.eqv, PyData.eqvAll]) ?_
        have : ds = [] := e1.symm
        subst this
        exact ⟨rfl, i', Hs', xs, ⟨dx', hp''⟩, e4, e5, hq', e7, cm'⟩
      | cons d0 dr =>
        refine ifp (by simp [PyData.eqv, PyData.eqvAll]) ?_
        refine ⟨_, rfl, p, dx', _, rfl, hp'', nA _ _ _, p, z, i', d + 1, rfl, ⟨dx', hp''⟩, hz, ?_⟩
        rw [e4]
        cases todo with
        | nil =>
          have et : tailL (shL ([] : List D)) = [] := by simp only [shL]; rfl
          rw [et] at e4 e5 ⊢
          refine .inl ⟨rfl, _, rfl, ifn ?_ ⟨rfl, i', Hs', xs, ⟨dx', hp''⟩, e4, e5, hq', by rw [← e1, List.append_nil]; exact e7, cm'⟩⟩
          rw [show ([] ++ 41 :: r : List Nat) = 41 :: r from rfl, sg_yes tl_rp]
          exact Bool.false_ne_true
        | cons e todo =>
          have et : tailL (shL (e :: todo)) = 32 :: (sh e ++ tailL (shL todo)) := by simp only [shL]; exact tail_cons _ _
          rw [et] at e4 e5 ⊢
          refine .inl ⟨rfl, _, rfl, ifp ?_ ?_⟩
          · rw [Bool.not_eq_true', Bool.eq_false_iff]
            exact sg_no (by rw [tl_rp]; intro z; injection z with z1 z2; omega)
          refine ⟨fun σ' H'' => ∃ m', m' < (e :: todo).length ∧ (σ' = [some (.ref p), some (.ref q)] ∧ ∃ done todo i' Hs' xs, m' = todo.length ∧ done ++ todo = ds ∧ (done = [] → todo = []) ∧ Scr C H'' p z i' (d + 1) ∧ (tl z).drop i' = tailL (shL todo) ++ 41 :: r ∧ i' + (tailL (shL todo)).length + 1 = i + (sh (.tuple ds)).length ∧ H'' q = some (.lst xs) ∧ RpAll K Hs' xs done ∧ Cm Hs H p q Hs' H''), fun _ _ h => h, ?_⟩
          refine ⟨_, rfl, p, dx', _, rfl, hp'', nN _ _ _, p, z, _, i', d + 1, 32, _, rfl, ⟨dx', hp''⟩, hz, e4, by rw [tl_sp]; exact List.mem_singleton.mpr rfl, fun H6 b6 s6 => ?_⟩
          obtain ⟨dx6, hp6⟩ := s6
          have hq6 := b6 _ _ pq.symm hq'
          have hd6 : (tl z).drop (i' + 1) = sh e ++ (tailL (shL todo) ++ 41 :: r) := by
            have := drop_more (u := [32]) (r := (sh e ++ tailL (shL todo)) ++ 41 :: r) e4
            rw [List.append_assoc] at this
            exact this
          refine ⟨_, rfl, .inl ⟨rfl, xs, SqL.of hq6⟩, _, rfl, p, dx6, _, rfl, hp6, nP _ _ _, ?_⟩
          refine step (d0 :: dr) e Hs' H6 (i' + 1) xs _ _ (by rw [← e1]; exact List.mem_append_right _ (List.mem_cons_self ..)) (by rw [← e1, List.length_append]; simp) (stop_tail _ _) ⟨dx6, hp6⟩ hd6 hq6 e7 (cm'.own b6) fun v Hs2 H4 hq2 hl2 cm2 sc2 rp2 => ?_
          refine ⟨q, xs, v, rfl, rfl, hq2, hl2, todo.length, by simp, rfl, d0 :: dr ++ [e], todo, _, Hs2, xs ++ [v], rfl, by rw [← e1]; simp, (fun z => nomatch z), sc2, drop_more hd6, ?_, upd_same, rp2, cm2⟩
          rw [List.length_cons, List.length_append] at e5
          omega
    rintro σ H' ⟨rfl, i', Hs', xs, ⟨dx', hp'⟩, e4, e5, e6, e7, e8⟩
    refine ⟨_, rfl, p, dx', _, rfl, hp', nN _ _ _, p, z, _, i', d + 1, 41, r, rfl, ⟨dx', hp'⟩, hz, e4, by rw [tl_rp]; exact List.mem_singleton.mpr rfl, fun H6 b6 s6 => ?_⟩
    obtain ⟨dx6, hp6⟩ := s6
    refine ⟨_, rfl, p, C, dx6, _, _, rfl, hp6, B.k.cl, B.n_depth, scF_dp _ _ _, _, _, rfl, rfl, dx6, _, hp6, scF_len _ _ _, ?_⟩
    rw [scF_pdp z (i' + 1) (d + 1) _ d (by omega)]
    have cm7 : Cm Hs H p q Hs' (L2.upd H6 p (.ins C dx6 (scF z (i' + 1) d))) := e8.own (b6.trans But.upd)
    have hp7 : (L2.upd H6 p (.ins C dx6 (scF z (i' + 1) d))) p = some (.ins C dx6 (scF z (i' + 1) d)) := upd_same
    have hq7 : (L2.upd H6 p (.ins C dx6 (scF z (i' + 1) d))) q = some (.lst xs) := by rw [upd_ne pq.symm]; exact b6 _ _ pq.symm e6
    generalize (L2.upd H6 p (.ins C dx6 (scF z (i' + 1) d))) = H7 at cm7 hp7 hq7
    refine ⟨_, rfl, q, xs, rfl, .inl ⟨SqL.of hq7, fun l nl => ?_⟩⟩
    have nl' : Hs' l = none := by
      cases e : Hs' l with
      | none => rfl
      | some o => have := cm7.b _ _ e; rw [nl] at this; cases this
    refine kk _ (L2.upd Hs' l (.tup xs)) _ (cm7.a.trans (same_upd nl')) (fun b o e => ?_) (cm7.c.trans (But.new nl)) (fun b h1 h2 => ?_) ⟨dx6, by rw [upd_ne (ne_of_none hp7 nl), hp7, e5]⟩ (Rp.tup (SqT.of upd_same) (RpAll.mono (same_upd nl') e7))
    · by_cases hb : b = l
      · subst hb; rw [upd_same] at e ⊢; exact e
      · rw [upd_ne hb] at e ⊢; exact cm7.b _ _ e
    · by_cases hb : b = l
      · subst hb
        cases e : H b with
        | none => rfl
        | some o =>
          have := cm7.c b o (fun z => by subst z; rw [hp7] at nl; cases nl) e
          rw [nl] at this; cases this
      · rw [upd_ne hb] at h2
        exact cm7.d b h1 h2
end

/-! ### read -/
def readF : DF := fun ds Q => match ds with
  | [d] => (match d with
    | .str z => ∃ xs, vd 40 (.tuple xs) ∧ tl z = sh (.tuple xs) ∧ z.length ≤ sizeLine ∧ Q (.tuple xs)
    | _ => False)
  | _ => False
section
variable {P : Program} {w : World} {K : PySem.W.Frag} {mg : Str → Option Value} {base : Heap}
theorem ok_parts {C : Addr} (T : Tx K mg) (B : C_Scribe K mg C) : ∀ h : Nat, OkM P w K mg base C (2 * h + 3) "brackets" ["self"] (spPart K C h true)
  | 0 => ok_br0 B
  | h + 1 => ok_br (k := 2 * h + 4) T B (ok_part T B (ok_parts T B h) (by omega)) (by omega)
theorem ok_read (T : Tx K mg) : Ok P w K mg base 85 "read" ["writing"] (spN K 1 .E readF) := by
  obtain ⟨C, B⟩ := T.c_Scribe
  have O0 : OkM P w K mg base C 1 "__init__" ["self", "signs"] (spScI C) := ok_scI B
  have O5 : OkM P w K mg base C 83 "brackets" ["self"] (spPart K C 40 true) := ok_parts T B 40
  refine Ok.mk T.d_read sc_read (fun vs H Q E h => ?_) (fun f cdv A outer s H vs Q E hr h => ?_)
  · obtain ⟨Hs, ds, Q0, _, h2, h3, _⟩ := h
    rw [h2.len, h3]; rfl
  obtain ⟨Hs, ds, Q0, h1, h2, h3, h4, k⟩ := h
  match vs, ds, h2, h4 with
  | [v], [d], .cons hd .nil, h4 =>
    cases d <;> first | exact h4.elim | skip
    rename_i z
    cases hd
    obtain ⟨xs, hv, ez, hz, q⟩ := h4
    have nS : ∀ z i d, (scF z i d).lookup ("brackets" : Str) = none := fun z i d => scF_no _ _ _ (by decide +kernel) (by decide +kernel) (by decide +kernel)
    refine ⟨_, pss_cons (ps_set (i := 1) sc_read.nd rfl (Or.inl rfl) (pe_new B.k O0 (hr.mono (by omega)) (by rfl) (pa_cons (pv 0) pa_nil)))
      (pss_cons (ps_set (i := 2) sc_read.nd rfl (Or.inl rfl) (pe_mth0 (pv 1) B.k.cl O5 (hr.mono (by omega))))
      (pss_cons (ps_if (pt_cmpR op_lt (pe_fld (pv 1) rfl) (pe_callB call_len_str (by rfl) T.z_len boot_len (pa_cons (pv 0) pa_nil)) (nomark _)) (pss_one ps_never) pss_nil)
      (pss_one (ps_ret (pv 2))))), ?_⟩
    refine ⟨_, rfl, fun p dx np ndx ne => ⟨p, dx, z, rfl, upd_same, fun H1 b1 s1 => ⟨rfl, ?_⟩⟩⟩
    have sm0 : Same H (L2.upd (L2.upd H dx (.own p)) p (.ins C dx [])) := (same_upd ndx).trans (same_upd (by rw [upd_ne ne.symm]; exact np))
    have sm1 : Same H H1 := fun b o e => b1 b o (ne_of_none e np) (sm0 b o e)
    have hsp : Hs p = none := by
      cases e : Hs p with
      | none => rfl
      | some o => have := h1 _ _ e; rw [np] at this; cases this
    obtain ⟨dx1, hp1⟩ := s1
    refine ⟨_, rfl, p, dx1, _, rfl, hp1, nS _ _ _, p, z, 0, 0, .tuple xs, [], Hs, rfl, ⟨dx1, hp1⟩, hz, by rw [List.drop_zero, ez, List.append_nil], hv, by omega, fun _ => ⟨xs, rfl⟩, fun z => Bool.noConfusion z, h1.trans sm1, hsp, fun v Hs' H' g1 g2 g3 g4 g5 g6 => ?_⟩
    obtain ⟨dx2, hp2⟩ := g5
    refine ⟨_, rfl, p, C, dx2, _, _, rfl, hp2, B.k.cl, B.n_spot, scF_sp _ _ _, _, rfl, z, rfl, hz, _, _, rfl, rfl, _, rfl, ifn (fun e => ?_) ⟨_, rfl, ?_⟩⟩
    · have e := of_decide_eq_true e
      rw [TL.len_tl, ez] at e
      omega
    · refine k _ Hs' H' v q g1 g2 (fun b o e => g3 b o (ne_of_none e np) (sm1 b o e)) (fun b e1 e2 => ?_) g6
      have := g4 b e1 e2
      cases e : H b with
      | none => rfl
      | some o => rw [sm1 _ _ e] at this; cases this
  | [], [], _, h4 => exact h4.elim
  | _ :: _ :: _, _ :: _ :: _, _, h4 => exact absurd h3 (by simp)
/-! ### the law's own words -/
def numF : DFP := fun ds n Q => match ds with
  | [] => n + 50 ≤ 1000000000 ∧ ∀ (i : Int) (n' : Nat), i.natAbs < 10 ^ 30 → n' ≤ n + 50 → Q (.int i) n'
  | _ => False
theorem ok__law_wnumber (T : Tx K mg) (O__law_take : Ok P w K mg base 2 "_law_take" ["_law_pen", "_law_many"] (spP K 1 .E takeF)) : Ok P w K mg base 3 "_law_wnumber" ["_law_pen"] (spP K 0 .E numF) := by
  refine Ok.ofP (M := []) T.d__law_wnumber sc__law_wnumber rfl (by decide) (by decide) fun f cdv A outer s H E p c hr => ⟨_, _, (pss_cons (ps_set (i := 1) sc__law_wnumber.nd rfl (Or.inl rfl) (pe_fn O__law_take (hr.mono (by omega)) (by rfl) (pa_cons (pv 0) (pa_cons (pe_int) (pa_nil)))))
 (pss_cons (ps_set (i := 2) sc__law_wnumber.nd rfl (Or.inl rfl) (pe_op (addG K rfl) (pe_int) (pe_op op_fdivW (pv 1) (pe_int))))
 (pss_cons (ps_if (pt_cmpR (eqG K rfl hr.units) (pv 1) (pe_int) (nomark _))
 (pss_one (ps_set (i := 2) sc__law_wnumber.nd rfl (Or.inl rfl) (pe_ix (ixG K rfl) (pe_lst (pa_cons (pe_int) (pa_cons (pe_int) (pa_cons (pe_op (addG K rfl) (pe_int) (pe_fn O__law_take (hr.mono (by omega)) (by rfl) (pa_cons (pv 0) (pa_cons (pe_int) (pa_nil))))) (pa_nil))))) (pe_fn O__law_take (hr.mono (by omega)) (by rfl) (pa_cons (pv 0) (pa_cons (pe_int) (pa_nil)))) (fun _ _ => rfl))))
 (pss_nil))
 (pss_cons (ps_set (i := 3) sc__law_wnumber.nd rfl (Or.inl rfl) (pe_ifExp (pt_cmpR (eqG K rfl hr.units) (pv 2) (pe_int) (nomark _)) (pe_fn O__law_take (hr.mono (by omega)) (by rfl) (pa_cons (pv 0) (pa_cons (pe_int) (pa_nil)))) (pe_op (addG K rfl) (pe_int) (pe_fn O__law_take (hr.mono (by omega)) (by rfl) (pa_cons (pv 0) (pa_cons (pe_int) (pa_nil)))))))
 (pss_cons (ps_for PassesOwn.never rfl (pi_range1 (by rfl) T.z_range (pa_cons (pe_op op_sub (pv 2) (pe_int)) (pa_nil))) (pg_nameL (i := 4) sc__law_wnumber.nd rfl rfl)
 (pss_one (ps_set (i := 3) sc__law_wnumber.nd rfl (Or.inl rfl) (pe_op (addG K rfl) (pe_op mulG (pv 3) (pe_int)) (pe_fn O__law_take (hr.mono (by omega)) (by rfl) (pa_cons (pv 0) (pa_cons (pe_int) (pa_nil))))))))
 (pss_one (ps_ret (pe_op mulG (pv 3) (pe_ix (ixG K rfl) (pe_lst (pa_cons (pe_int) (pa_cons (pe_un un_neg (pe_int)) (pa_nil)))) (pe_fn O__law_take (hr.mono (by omega)) (by rfl) (pa_cons (pv 0) (pa_cons (pe_int) (pa_nil)))) (fun _ _ => rfl)))))))))),
 (simS_seq (simS_set 1 (nm rfl) (np rfl) (sim_callP (by simp) rfl (simA_cons (sim_int _) (simA_nil))))
 (simS_seq (simS_set 2 (nm rfl) (np rfl) (sim_op opA_add (sim_int _) (sim_op opA_fdiv (sim_var 1 (nm rfl)) (sim_int _))))
 (simS_cut (simS_if (simT_test (sim_op opA_eq (sim_var 1 (nm rfl)) (sim_int _)))
 (simS_set 2 (nm rfl) (np rfl) (opA_ix (sim_lst (by decide) (simA_cons (sim_int _) (simA_cons (sim_int _) (simA_cons (sim_op opA_add (sim_int _) (sim_callP (by simp) rfl (simA_cons (sim_int _) (simA_nil)))) (simA_nil))))) (sim_callP (by simp) rfl (simA_cons (sim_int _) (simA_nil)))))
 (simS_next))
 (simS_cut (simS_set 3 (nm rfl) (np rfl) (sim_if (simT_test (sim_op opA_eq (sim_var 2 (nm rfl)) (sim_int _))) (Sim.toE (sim_callP (by simp) rfl (simA_cons (sim_int _) (simA_nil)))) (Sim.toE (sim_op opA_add (sim_int _) (sim_callP (by simp) rfl (simA_cons (sim_int _) (simA_nil)))))))
 (simS_cut (simS_for (simI_range1 (sim_op opA_sub (sim_var 2 (nm rfl)) (sim_int _))) (simG_name 4 (nm rfl) (np rfl))
 (simS_set 3 (nm rfl) (np rfl) (sim_op opA_add (sim_op opA_mul (sim_var 3 (nm rfl)) (sim_int _)) (sim_callP (by simp) rfl (simA_cons (sim_int _) (simA_nil))))))
 (simS_ret (Sim.toE (sim_op opA_mul (sim_var 3 (nm rfl)) (opA_ix (sim_lst (by decide) (simA_cons (sim_int _) (simA_cons (sim_neg (sim_int _)) (simA_nil)))) (sim_callP (by simp) rfl (simA_cons (sim_int _) (simA_nil)))))))))))), ?_⟩
  intro ds m Q hl hF
  match ds, hl with
  | [], _ =>
  obtain ⟨hm, k⟩ := hF
  refine take_ok (by (first | omega | (dsimp only; omega) | (dsimp only at *; omega))) (by decide) (by decide) fun way w0 w1 => ?_
  refine ⟨⟨by decide, by decide⟩, ?_⟩
  refine ⟨fun s => ∃ (way size : Int) (m' : Nat), s = { δ := [none, some (.int way), some (.int size), none, none], n := m' } ∧ 1 ≤ size ∧ size ≤ 30 ∧ m' ≤ m + 4, ?_, ?_⟩
  · by_cases h5 : way = 5
    · refine ifp (decide_eq_true h5) (take_ok (by (first | omega | (dsimp only; omega) | (dsimp only at *; omega))) (by decide) (by decide) fun a a0 a1 => take_ok (by (first | omega | (dsimp only; omega) | (dsimp only at *; omega))) (by decide) (by decide) fun b b0 b1 => ?_)
      have : b = 0 ∨ b = 1 ∨ b = 2 := by (first | omega | (dsimp only; omega) | (dsimp only at *; omega))
      rcases this with rfl | rfl | rfl
      · exact ix_ok 0 rfl rfl ⟨_, _, _, rfl, by (first | omega | (dsimp only; omega) | (dsimp only at *; omega)), by (first | omega | (dsimp only; omega) | (dsimp only at *; omega)), by (first | omega | (dsimp only; omega) | (dsimp only at *; omega))⟩
      · exact ix_ok 1 rfl rfl ⟨_, _, _, rfl, by (first | omega | (dsimp only; omega) | (dsimp only at *; omega)), by (first | omega | (dsimp only; omega) | (dsimp only at *; omega)), by (first | omega | (dsimp only; omega) | (dsimp only at *; omega))⟩
      · exact ix_ok 2 rfl rfl ⟨_, _, _, rfl, by (first | omega | (dsimp only; omega) | (dsimp only at *; omega)), by (first | omega | (dsimp only; omega) | (dsimp only at *; omega)), by (first | omega | (dsimp only; omega) | (dsimp only at *; omega))⟩
    · exact ifn (by simpa using h5) ⟨_, _, _, rfl, by (first | omega | (dsimp only; omega) | (dsimp only at *; omega)), by (first | omega | (dsimp only; omega) | (dsimp only at *; omega)), by (first | omega | (dsimp only; omega) | (dsimp only at *; omega))⟩
  rintro s ⟨way, size, m1, rfl, s1, s2, s3⟩
  refine ⟨fun s => ∃ (num : Int) (m' : Nat), s = { δ := [none, some (.int way), some (.int size), some (.int num), none], n := m' } ∧ 0 ≤ num ∧ num < 10 ∧ m' ≤ m + 5, ?_, ?_⟩
  · by_cases hs : size = 1
    · exact ifp (decide_eq_true hs) (take_ok (by (first | omega | (dsimp only; omega) | (dsimp only at *; omega))) (by decide) (by decide) fun r r0 r1 => ⟨r, _, rfl, r0, r1, by (first | omega | (dsimp only; omega) | (dsimp only at *; omega))⟩)
    · exact ifn (by simpa using hs) (take_ok (by (first | omega | (dsimp only; omega) | (dsimp only at *; omega))) (by decide) (by decide) fun r r0 r1 => ⟨_, _, rfl, by (first | omega | (dsimp only; omega) | (dsimp only at *; omega)), by (first | omega | (dsimp only; omega) | (dsimp only at *; omega)), by (first | omega | (dsimp only; omega) | (dsimp only at *; omega))⟩)
  rintro s ⟨num, m2, rfl, n1, n2, n3⟩
  refine ⟨fun s => ∃ (num : Int) (m' : Nat) (kk : Option D), s = { δ := [none, some (.int way), some (.int size), some (.int num), kk], n := m' } ∧ 0 ≤ num ∧ num < ((10 ^ 30 : Nat) : Int) ∧ m' ≤ m + 40, ?_, ?_⟩
  · refine ⟨⟨by (first | omega | (dsimp only; omega) | (dsimp only at *; omega)), by (first | omega | (dsimp only; omega) | (dsimp only at *; omega))⟩, forD_ind (fun i s => ∃ (num : Int) (m' : Nat) (kk : Option D), s = { δ := [none, some (.int way), some (.int size), some (.int num), kk], n := m' } ∧ 0 ≤ num ∧ num < ((10 ^ (i + 1) : Nat) : Int) ∧ i ≤ 29 ∧ m' ≤ m + 5 + i) ⟨num, m2, none, rfl, n1, by simpa using n2, by (first | omega | (dsimp only; omega) | (dsimp only at *; omega)), n3⟩ ?_ ?_⟩
    · rintro i d s N hd ⟨num, m', kk, rfl, a0, a1, a2, a3⟩ hN
      obtain ⟨hi, rfl⟩ := rgD_get hd
      have hp : 10 ^ (i + 1) ≤ 10 ^ 30 := Nat.pow_le_pow_right (by decide) (by (first | omega | (dsimp only; omega) | (dsimp only at *; omega)))
      have hi' : i < 29 := by (first | omega | (dsimp only; omega) | (dsimp only at *; omega))
      refine ⟨mulOk (lt2000 (Nat.lt_trans (show num.natAbs < 10 ^ (i + 1) by (first | omega | (dsimp only; omega) | (dsimp only at *; omega))) (Nat.pow_lt_pow_right (by decide) (by (first | omega | (dsimp only; omega) | (dsimp only at *; omega)))))) (lt2000 (by decide)), take_ok (by (first | omega | (dsimp only; omega) | (dsimp only at *; omega))) (by decide) (by decide) fun r r0 r1 => hN _ ⟨_, _, _, rfl, by (first | omega | (dsimp only; omega) | (dsimp only at *; omega)), ?_, by (first | omega | (dsimp only; omega) | (dsimp only at *; omega)), by (first | omega | (dsimp only; omega) | (dsimp only at *; omega))⟩⟩
      rw [Nat.pow_succ]
      (first | omega | (dsimp only; omega) | (dsimp only at *; omega))
    · rintro s ⟨num, m', kk, rfl, a0, a1, a2, a3⟩
      refine ⟨num, m', kk, rfl, a0, ?_, by (first | omega | (dsimp only; omega) | (dsimp only at *; omega))⟩
      have hp : 10 ^ ((rgD 0 (size - 1).toNat).length + 1) ≤ 10 ^ 30 := Nat.pow_le_pow_right (by decide) (by rw [rgD_len]; (first | omega | (dsimp only; omega) | (dsimp only at *; omega)))
      (first | omega | (dsimp only; omega) | (dsimp only at *; omega))
  rintro s ⟨num, m3, kk, rfl, b1, b2, b3⟩
  refine take_ok (by (first | omega | (dsimp only; omega) | (dsimp only at *; omega))) (by decide) (by decide) fun r r0 r1 => ?_
  have hr : r = 0 ∨ r = 1 := by (first | omega | (dsimp only; omega) | (dsimp only at *; omega))
  have hn : num.natAbs < 10 ^ 40 := Nat.lt_trans (show num.natAbs < 10 ^ 30 by (first | omega | (dsimp only; omega) | (dsimp only at *; omega))) (by decide)
  rcases hr with rfl | rfl
  · exact ix_ok 0 rfl rfl ⟨mulOk (lt2000 hn) (lt2000 (by decide)), k _ _ (by (first | omega | (dsimp only; omega) | (dsimp only at *; omega))) (by (first | omega | (dsimp only; omega) | (dsimp only at *; omega)))⟩
  · exact ix_ok 1 rfl rfl ⟨mulOk (lt2000 hn) (lt2000 (by decide)), k _ _ (by (first | omega | (dsimp only; omega) | (dsimp only at *; omega))) (by (first | omega | (dsimp only; omega) | (dsimp only at *; omega)))⟩
end

/-! ### what is drawn -/
def wordF : DFP := fun ds n Q => match ds with
  | [] => n + 20 ≤ 1000000000 ∧ ∀ (x : Str) (n' : Nat), word x → n' ≤ n + 20 → Q (.str x) n'
  | _ => False
def ones (cs : List Nat) : List D := cs.map fun c => .str ⟨#[c]⟩
theorem strs_ones : ∀ cs : List Nat, strsOf (ones cs) = some (cs.map fun c => ⟨#[c]⟩)
  | [] => rfl
  | c :: cs => by
    show (strsOf (ones cs)).map _ = _
    rw [strs_ones cs]
    rfl
theorem joinL_nil : ∀ xs : List (List Nat), joinL [] xs = xs.flatten
  | [] => rfl
  | [x] => by simp [joinL]
  | x :: y :: r => by
    show x ++ ([] ++ joinL [] (y :: r)) = _
    rw [joinL_nil (y :: r)]
    simp
theorem join_ones (cs : List Nat) : Txt.join (Str.ofString "") (cs.map fun c => ⟨#[c]⟩) = Sg cs := by
  have h := SX.join_S [] (cs.map fun c => [c])
  rw [List.map_map, joinL_nil] at h
  have e : ∀ cs : List Nat, (cs.map fun c => [c]).flatten = cs := by
    intro cs
    induction cs with
    | nil => rfl
    | cons c cs ih => rw [List.map_cons, List.flatten_cons, ih]; rfl
  rw [e] at h
  have e2 : (Str.ofString "") = SX.S [] := TL.ext_tl tl_e
  rw [e2]
  exact h
section
variable {P : Program} {w : World} {K : PySem.W.Frag} {mg : Str → Option Value} {base : Heap}
theorem ok__law_wword (T : Tx K mg) (O__law_take : Ok P w K mg base 2 "_law_take" ["_law_pen", "_law_many"] (spP K 1 .E takeF)) : Ok P w K mg base 3 "_law_wword" ["_law_pen"] (spP K 0 .E wordF) := by
  refine Ok.ofP (M := []) T.d__law_wword sc__law_wword rfl (by decide) (by decide) fun f cdv A outer s H E p c hr => ⟨_, _, (pss_cons (ps_set (i := 1) sc__law_wword.nd rfl (Or.inr rfl) (pe_str))
 (pss_cons (ps_set (i := 2) sc__law_wword.nd rfl (Or.inl rfl) (pe_ifExp (pt_cmpR (eqG K rfl hr.units) (pe_fn O__law_take (hr.mono (by omega)) (by rfl) (pa_cons (pv 0) (pa_cons (pe_int) (pa_nil)))) (pe_int) (nomark _)) (pe_int) (pe_op (addG K rfl) (pe_int) (pe_fn O__law_take (hr.mono (by omega)) (by rfl) (pa_cons (pv 0) (pa_cons (pe_int) (pa_nil)))))))
 (pss_one (ps_ret (joinK K rfl (pe_str) (pe_lc (own := [("_law_k", 3)]) rfl sc__law_wword.nd (pi_range1 (by rfl) T.z_range (pa_cons (pv 2) (pa_nil))) (blkOk_by (own := [("_law_k", 3)]) (N := ["_law_pen", "_law_letters", "_law_size", "_law_k"]) (sc := defScope s__law_wword) (by decide +kernel)) (fun _ _ _ _ _ => pg_nameL (i := 3) sc__law_wword.nd rfl rfl) (fun _ _ _ _ _ => pts_nil) (fun _ _ _ _ _ => pe_ix (ixG K rfl) (pv 1) (pe_fn O__law_take (hr.mono (by omega)) (by rfl) (pa_cons (pv 0) (pa_cons (pe_int) (pa_nil)))) (fun _ _ => rfl)))))))),
 (simS_seq (simS_set 1 (nm rfl) (np rfl) (sim_str _))
 (simS_cut (simS_set 2 (nm rfl) (np rfl) (sim_if (simT_test (sim_op opA_eq (sim_callP (by simp) rfl (simA_cons (sim_int _) (simA_nil))) (sim_int _))) (sim_int _) (sim_op opA_add (sim_int _) (sim_callP (by simp) rfl (simA_cons (sim_int _) (simA_nil))))))
 (simS_ret (Sim.toE (sim_join (sim_str _) (sim_lc (simI_range1 (sim_var 2 (nm rfl))) (simG_name 3 (nm rfl) (np rfl)) (simT_yes) (opA_ix (sim_var 1 (nm rfl)) (sim_callP (by simp) rfl (simA_cons (sim_int _) (simA_nil)))) (inv' rfl) (nmv rfl) (npv rfl))))))), ?_⟩
  intro ds m Q hl hF
  match ds, hl with
  | [], _ =>
  obtain ⟨hm, k⟩ := hF
  refine ⟨fun s => ∃ (size : Int) (m' : Nat), s = { δ := [none, some (.str (Str.ofString "abcdefghijklmnopqrstuvwxyz")), some (.int size), none], n := m' } ∧ 1 ≤ size ∧ size ≤ 8 ∧ m' ≤ m + 2, ?_, ?_⟩
  · refine take_ok (by (first | omega | (dsimp only; omega) | (dsimp only at *; omega))) (by decide) (by decide) fun a a0 a1 => ?_
    by_cases h : a = 0
    · exact ifp (decide_eq_true h) ⟨8, _, rfl, by decide, by decide, by (first | omega | (dsimp only; omega) | (dsimp only at *; omega))⟩
    · exact ifn (by simpa using h) (take_ok (by (first | omega | (dsimp only; omega) | (dsimp only at *; omega))) (by decide) (by decide) fun r r0 r1 => ⟨_, _, rfl, by (first | omega | (dsimp only; omega) | (dsimp only at *; omega)), by (first | omega | (dsimp only; omega) | (dsimp only at *; omega)), by (first | omega | (dsimp only; omega) | (dsimp only at *; omega))⟩)
  rintro s ⟨size, m1, rfl, s1, s2, s3⟩
  refine ⟨⟨by (first | omega | (dsimp only; omega) | (dsimp only at *; omega)), by (first | omega | (dsimp only; omega) | (dsimp only at *; omega))⟩, by rw [rgD_len]; exact small_line (by (first | omega | (dsimp only; omega) | (dsimp only at *; omega))), lcD_ind (fun i acc s => ∃ (cs : List Nat) (m' : Nat), acc = ones cs ∧ cs.length = i ∧ i ≤ 8 ∧ (∀ c ∈ cs, 97 ≤ c ∧ c ≤ 122) ∧ s = { δ := [none, some (.str (Str.ofString "abcdefghijklmnopqrstuvwxyz")), some (.int size), none], n := m' } ∧ m' ≤ m + 2 + i) ⟨[], m1, rfl, rfl, by decide, (fun c h => nomatch h), rfl, s3⟩ ?_ ?_⟩
  · rintro i d acc s N hi ⟨cs, m', rfl, hc, h8, hcs, rfl, hm'⟩ hN
    obtain ⟨hi, rfl⟩ := rgD_get hi
    refine take_ok (by (first | omega | (dsimp only; omega) | (dsimp only at *; omega))) (by decide) (by decide) fun r r0 r1 => ?_
    have e : atI (tl (Str.ofString "abcdefghijklmnopqrstuvwxyz")) r = some (97 + r.toNat) := by
      refine atI_of r.toNat (by (first | omega | (dsimp only; omega) | (dsimp only at *; omega))) ?_
      rw [tl_small, List.getElem?_map, List.getElem?_range (by (first | omega | (dsimp only; omega) | (dsimp only at *; omega)))]
      rfl
    refine ixs_ok (by decide +kernel) e ?_
    refine hN _ _ ⟨cs ++ [97 + r.toNat], _, by unfold ones; rw [List.map_append]; rfl, by rw [List.length_append, hc]; rfl, by (first | omega | (dsimp only; omega) | (dsimp only at *; omega)), fun c hc => ?_, rfl, by (first | omega | (dsimp only; omega) | (dsimp only at *; omega))⟩
    rcases List.mem_append.mp hc with h | h
    · exact hcs c h
    · rw [List.mem_singleton.mp h]; (first | omega | (dsimp only; omega) | (dsimp only at *; omega))
  · rintro acc s ⟨cs, m', rfl, hc, h8, hcs, rfl, hm'⟩
    rw [rgD_len] at hc h8 hm'
    refine ⟨_, strs_ones cs, ?_, ?_⟩
    · have e : (cs.map fun c => (⟨#[c]⟩ : Str)).map (·.length) = cs.map fun _ => 1 := by rw [List.map_map]; rfl
      rw [e]
      have e2 : ∀ cs : List Nat, (cs.map fun _ => 1).sum = cs.length := by
        intro cs
        induction cs with
        | nil => rfl
        | cons c cs ih => rw [List.map_cons, List.sum_cons, ih, List.length_cons]; omega
      rw [e2, TL.len_tl, tl_e]
      simp
      (first | omega | (dsimp only; omega) | (dsimp only at *; omega))
    · rw [join_ones]
      refine k _ _ ⟨?_, ?_, hcs⟩ (by (first | omega | (dsimp only; omega) | (dsimp only at *; omega)))
      · rw [TL.len_tl]; show 1 ≤ cs.length; (first | omega | (dsimp only; omega) | (dsimp only at *; omega))
      · rw [TL.len_tl]; show cs.length ≤ 8; (first | omega | (dsimp only; omega) | (dsimp only at *; omega))
/-! ### shown -/
def showF : Nat → DF
  | 0 => fun _ _ => False
  | k + 1 => fun ds Q => match ds with
    | [d] => vd k d ∧ (sh d).length ≤ 1000000 ∧ Q (.str (Sg (sh d)))
    | _ => False
theorem tl_int (i : Int) : tl (Str.ofString (toString i)) = intL i := by
  unfold intL
  cases i with
  | ofNat n => rw [if_neg (by show ¬ ((n : Nat) : Int) < 0; (first | omega | (dsimp only; omega) | (dsimp only at *; omega)))]; exact TL.tl_num n
  | negSucc n =>
    rw [if_pos (by (first | omega | (dsimp only; omega) | (dsimp only at *; omega)))]
    have e : toString (Int.negSucc n) = "-" ++ toString ((n + 1 : Nat) : Int) := rfl
    rw [e, TL.tl_ofString, String.toList_append, List.map_append, ← TL.tl_ofString (toString ((n + 1 : Nat) : Int)), TL.tl_num]
    rfl
def strsL (ds : List D) : List D := (shL ds).map fun x => .str (Sg x)
theorem strs_L : ∀ xs : List (List Nat), strsOf (xs.map fun x => .str (Sg x)) = some (xs.map Sg)
  | [] => rfl
  | x :: xs => by
    show (strsOf (xs.map fun x => .str (Sg x))).map _ = _
    rw [strs_L xs]
    rfl
theorem joinL_len : ∀ xs : List (List Nat), (xs.map (·.length)).sum + xs.length ≤ (joinL [32] xs).length + 1
  | [] => by simp [joinL]
  | [x] => by simp [joinL]
  | x :: y :: r => by
    have := joinL_len (y :: r)
    show _ ≤ (x ++ ([32] ++ joinL [32] (y :: r))).length + 1
    rw [List.map_cons, List.sum_cons, List.length_cons, List.length_append, List.length_append, List.length_singleton]
    (first | omega | (dsimp only; omega) | (dsimp only at *; omega))
theorem len_mem : ∀ {ds : List D} {d : D}, d ∈ ds → (sh d).length + 2 ≤ (sh (.tuple ds)).length := by
  intro ds d m
  simp only [sh]
  rw [List.length_cons, List.length_append, List.length_singleton]
  have : ∀ {ds : List D} {d : D}, d ∈ ds → (sh d).length ≤ (joinL [32] (shL ds)).length := by
    intro ds
    induction ds with
    | nil => intro d m; cases m
    | cons e ds ih =>
      intro d m
      simp only [shL]
      rw [join_tail, List.length_append]
      rcases List.mem_cons.mp m with rfl | m
      · (first | omega | (dsimp only; omega) | (dsimp only at *; omega))
      · have h := ih m
        cases ds with
        | nil => cases m
        | cons e2 r =>
          simp only [shL] at h ⊢
          rw [join_tail, List.length_append] at h
          rw [tail_cons, List.length_cons, List.length_append]
          (first | omega | (dsimp only; omega) | (dsimp only at *; omega))
  have := this m
  (first | omega | (dsimp only; omega) | (dsimp only at *; omega))
theorem ok__law_wshow (T : Tx K mg) : ∀ k : Nat, Ok P w K mg base (k + 1) "_law_wshow" ["_law_thing"] (spN K 1 .E (showF k))
  | 0 => Ok.no T.d__law_wshow sc__law_wshow (spN_no fun ds Q h => h)
  | k + 1 => by
    have O__law_wshow : Ok P w K mg base (k + 1) "_law_wshow" ["_law_thing"] (spN K 1 .E (showF k)) := ok__law_wshow T k
    refine Ok.ofN (M := []) T.d__law_wshow sc__law_wshow rfl (by decide) fun f cdv A outer s H E hr => ⟨_, _, (pss_cons (ps_if (pt_val (pe_callB (isiK K rfl) (by rfl) T.z_isinstance boot_isi (pa_cons (pv 0) (pa_cons (pe_bltn (v := .ty "tuple") (by rfl) T.z_tuple boot_tuple rfl) pa_nil))))
 (pss_one (ps_ret (pe_op (addG K rfl) (pe_op (addG K rfl) (pe_str) (joinK K rfl (pe_str) (pe_lc (own := [("_law_part", 1)]) rfl sc__law_wshow.nd (piT K rfl (pv 0)) (blkOk_by (own := [("_law_part", 1)]) (N := ["_law_thing", "_law_part"]) (sc := defScope s__law_wshow) (by decide +kernel)) (fun _ _ _ _ _ => pg_nameL (i := 1) sc__law_wshow.nd rfl rfl) (fun _ _ _ _ _ => pts_nil) (fun _ _ _ _ _ => pe_fn O__law_wshow (hr.mono (by omega)) (by rfl) (pa_cons (pv 1) (pa_nil)))))) (pe_str))))
 (pss_nil))
 (pss_one (ps_ret (pe_ifExp (pt_val (pe_callB (isiK K rfl) (by rfl) T.z_isinstance boot_isi (pa_cons (pv 0) (pa_cons (pe_bltn (v := .ty "str") (by rfl) T.z_str boot_str rfl) pa_nil)))) (pv 0) (pe_callTy call_str_int (by rfl) T.z_str boot_str (pa_cons (pv 0) (pa_nil))))))),
 (simS_seq (simS_if (simT_B (sim_isi .tuple (sim_var 0 (nm rfl))))
 (simS_ret (Sim.toE (sim_op opA_add (sim_op opA_add (sim_str _) (sim_join (sim_str _) (sim_lc (simI_tup (sim_var 0 (nm rfl))) (simG_name 1 (nm rfl) (np rfl)) (simT_yes) (sim_call (simA_cons (sim_var 1 (nm rfl)) (simA_nil))) (inv' rfl) (nmv rfl) (npv rfl)))) (sim_str _))))
 (simS_next))
 (simS_ret (Sim.toE (sim_if (simT_B (sim_isi .str (sim_var 0 (nm rfl)))) (Sim.toE (sim_var 0 (nm rfl))) (Sim.toE (sim_cb caA_str (simA_cons (sim_var 0 (nm rfl)) (simA_nil)))))))), ?_⟩
    intro ds Q hl hF
    match ds, hl, hF with
    | [a], _, hF =>
    obtain ⟨hv, hz, q⟩ := hF
    cases a with
    | none => cases k <;> exact hv.elim
    | bool x => cases k <;> exact hv.elim
    | list x => cases k <;> exact hv.elim
    | dict x => cases k <;> exact hv.elim
    | str x =>
      have e : (Sg (sh (.str x)) : Str) = x := by simp only [sh]
      rw [e] at q
      exact q
    | int i =>
      have hv : i.natAbs < 10 ^ 30 := by cases k <;> exact hv
      have e : (Sg (sh (.int i)) : Str) = Str.ofString (toString i) := by simp only [sh]; exact TL.ext_tl (tl_int i).symm
      rw [e] at q
      exact ⟨log_lt (Nat.lt_of_lt_of_le hv (by decide +kernel)) (by decide), q⟩
    | tuple xs =>
      cases k with
      | zero => exact hv.elim
      | succ k =>
      have hv : ∀ d ∈ xs, vd k d := hv
      have few := few_parts xs
      refine ⟨small_big (by (first | omega | (dsimp only; omega) | (dsimp only at *; omega))), lcD_ind (fun i acc s => acc = (shL (xs.take i)).map (fun x => .str (Sg x)) ∧ s = { δ := [some (.tuple xs), none], n := 0 }) ⟨by simp [shL], rfl⟩ ?_ ?_⟩
      · rintro i d acc s N hi ⟨rfl, rfl⟩ hN
        have m := List.mem_of_getElem? hi
        have hl := len_mem m
        refine ⟨hv d m, by (first | omega | (dsimp only; omega) | (dsimp only at *; omega)), hN _ _ ⟨?_, rfl⟩⟩
        rw [List.take_add_one, hi, shL_app, List.map_append]
        simp [shL]
      · rintro acc s ⟨rfl, rfl⟩
        rw [List.take_length]
        have hjl : (joinL [32] (shL xs)).length + 2 = (sh (.tuple xs)).length := by simp only [sh]; simp
        refine ⟨_, strs_L _, ?_, ?_⟩
        · have e : ((shL xs).map Sg).map (·.length) = (shL xs).map (·.length) := SX.lens _
          rw [e, List.length_map, TL.len_tl, tl_sp]
          have := joinL_len (shL xs)
          show _ + (shL xs).length * 1 ≤ 16777216
          (first | omega | (dsimp only; omega) | (dsimp only at *; omega))
        · have e : Txt.join (Str.ofString " ") ((shL xs).map Sg) = Sg (joinL [32] (shL xs)) := by
            rw [show Str.ofString " " = SX.S [32] from TL.ext_tl tl_sp]
            exact SX.join_S [32] (shL xs)
          rw [e]
          refine ⟨?_, ?_, ?_⟩
          · rw [TL.len_tl, TL.len_tl, tl_lp]; refine small_big ?_; show 1 + (joinL [32] (shL xs)).length ≤ 2000000; (first | omega | (dsimp only; omega) | (dsimp only at *; omega))
          · rw [TL.len_tl, TL.len_tl, tl_rp, TL.tl_append, tl_lp, List.length_append]; refine small_big ?_; show 1 + (joinL [32] (shL xs)).length + 1 ≤ 2000000; (first | omega | (dsimp only; omega) | (dsimp only at *; omega))
          · have e : (Sg (sh (.tuple xs)) : Str) = Str.ofString "(" ++ Sg (joinL [32] (shL xs)) ++ Str.ofString ")" := by
              refine TL.ext_tl ?_
              rw [TL.tl_append, TL.tl_append, tl_lp, tl_rp]
              simp only [sh]
              simp
            rw [e] at q
            exact q
end

/-! ### parts, trees, wide ones -/
def pc : Nat → Nat
  | 0 => 60
  | j + 1 => 60 + 3 * pc j
def pl : Nat → Nat
  | 0 => 31
  | j + 1 => 3 * pl j + 40
def partF (J : Nat) : DFP := fun ds n Q => match ds with
  | [d] => (match d with
    | .int deep => ∃ j : Nat, deep = (j : Int) ∧ j < J ∧ n + pc j ≤ 1000000000 ∧ ∀ (x : D) (n' : Nat), vd j x → (sh x).length ≤ pl j → n' ≤ n + pc j → Q x n'
    | _ => False)
  | _ => False
theorem intL_len {i : Int} (h : i.natAbs < 10 ^ 30) : (intL i).length ≤ 31 := by
  have := TL.numL_len (n := i.natAbs) (k := 30) (by decide) h
  unfold intL
  split
  · rw [List.length_cons]; (first | omega | (dsimp only; omega) | (dsimp only at *; omega))
  · (first | omega | (dsimp only; omega) | (dsimp only at *; omega))
theorem pl_le : ∀ j : Nat, 31 ≤ pl j
  | 0 => Nat.le_refl _
  | j + 1 => by
    have := pl_le j
    show 31 ≤ 3 * pl j + 40
    (first | omega | (dsimp only; omega) | (dsimp only at *; omega))
theorem pc_le : ∀ j : Nat, 60 ≤ pc j
  | 0 => Nat.le_refl _
  | j + 1 => by
    show 60 ≤ 60 + 3 * pc j
    (first | omega | (dsimp only; omega) | (dsimp only at *; omega))
theorem tup_len {ds : List D} {b : Nat} (h : ∀ d ∈ ds, (sh d).length ≤ b) : (sh (.tuple ds)).length ≤ 2 + ds.length * (b + 1) := by
  have : ∀ {ds : List D}, (∀ d ∈ ds, (sh d).length ≤ b) → (joinL [32] (shL ds)).length ≤ ds.length * (b + 1) := by
    intro ds
    induction ds with
    | nil => intro _; simp [shL, joinL]
    | cons e ds ih =>
      intro h
      have h1 := h e (List.mem_cons_self ..)
      have h2 := ih fun d m => h d (List.mem_cons_of_mem _ m)
      simp only [shL]
      rw [join_tail, List.length_append, List.length_cons, Nat.succ_mul]
      cases ds with
      | nil => simp [shL, tailL]; (first | omega | (dsimp only; omega) | (dsimp only at *; omega))
      | cons e2 r =>
        simp only [shL] at h2 ⊢
        rw [join_tail, List.length_append] at h2
        rw [tail_cons, List.length_cons, List.length_append]
        (first | omega | (dsimp only; omega) | (dsimp only at *; omega))
  have := this h
  simp only [sh]
  rw [List.length_cons, List.length_append, List.length_singleton]
  (first | omega | (dsimp only; omega) | (dsimp only at *; omega))
theorem vd_word {j : Nat} {x : Str} (h : word x) : vd j (.str x) := by cases j <;> exact h
theorem vd_int {j : Nat} {i : Int} (h : i.natAbs < 10 ^ 30) : vd j (.int i) := by cases j <;> exact h
theorem len_word {x : Str} (h : word x) : (sh (.str x)).length ≤ 8 := by
  have := h.2.1
  rw [TL.len_tl] at this
  simp only [sh]
  exact this
section
variable {P : Program} {w : World} {K : PySem.W.Frag} {mg : Str → Option Value} {base : Heap}
theorem ok__law_wpart (T : Tx K mg) (O__law_take : Ok P w K mg base 2 "_law_take" ["_law_pen", "_law_many"] (spP K 1 .E takeF)) (O__law_wword : Ok P w K mg base 3 "_law_wword" ["_law_pen"] (spP K 0 .E wordF)) (O__law_wnumber : Ok P w K mg base 3 "_law_wnumber" ["_law_pen"] (spP K 0 .E numF)) :
    ∀ J : Nat, Ok P w K mg base (J + 4) "_law_wpart" ["_law_pen", "_law_deep"] (spP K 1 .E (partF J))
  | 0 => (Ok.no T.d__law_wpart sc__law_wpart (spP_no fun ds n Q h => by
      match ds with
      | [d] => cases d <;> first | exact h.elim | (obtain ⟨j, _, h, _⟩ := h; (first | omega | (dsimp only; omega) | (dsimp only at *; omega)))
      | [] => exact h.elim
      | _ :: _ :: _ => exact h.elim)).mono (by (first | omega | (dsimp only; omega) | (dsimp only at *; omega)))
  | J + 1 => by
    have O__law_wpart := ok__law_wpart T O__law_take O__law_wword O__law_wnumber J
    refine Ok.ofP (M := []) T.d__law_wpart sc__law_wpart rfl (by decide) (by decide) fun f cdv A outer s H E p c hr => ⟨_, _, (pss_cons (ps_set (i := 2) sc__law_wpart.nd rfl (Or.inl rfl) (pe_fn O__law_take (hr.mono (by omega)) (by rfl) (pa_cons (pv 0) (pa_cons (pe_int) (pa_nil)))))
 (pss_cons (ps_if (pt_cmpR (eqG K rfl hr.units) (pv 2) (pe_int) (nomark _))
 (pss_one (ps_ret (pe_fn O__law_wword (hr.mono (by omega)) (by rfl) (pa_cons (pv 0) (pa_nil)))))
 (pss_nil))
 (pss_cons (ps_if (PW.pt (pw_or (pt_cmpR (eqG K rfl hr.units) (pv 2) (pe_int) (nomark _)) (pw_or1 (pt_cmpR (eqG K rfl hr.units) (pv 1) (pe_int) (nomark _)))))
 (pss_one (ps_ret (pe_fn O__law_wnumber (hr.mono (by omega)) (by rfl) (pa_cons (pv 0) (pa_nil)))))
 (pss_nil))
 (pss_one (ps_ret (pe_callTy (tupQ K rfl) (by rfl) T.z_tuple boot_tuple (pa_cons (pe_lc (own := [("_law_k", 3)]) rfl sc__law_wpart.nd (pi_range1 (by rfl) T.z_range (pa_cons (pe_fn O__law_take (hr.mono (by omega)) (by rfl) (pa_cons (pv 0) (pa_cons (pe_int) (pa_nil)))) (pa_nil))) (blkOk_by (own := [("_law_k", 3)]) (N := ["_law_pen", "_law_deep", "_law_way", "_law_k"]) (sc := defScope s__law_wpart) (by decide +kernel)) (fun _ _ _ _ _ => pg_nameL (i := 3) sc__law_wpart.nd rfl rfl) (fun _ _ _ _ _ => pts_nil) (fun _ _ _ _ _ => pe_fn O__law_wpart (hr.mono (by omega)) (by rfl) (pa_cons (pv 0) (pa_cons (pe_op op_sub (pv 1) (pe_int)) (pa_nil))))) (pa_nil)))))))),
 (simS_seq (simS_set 2 (nm rfl) (np rfl) (sim_callP (by simp) rfl (simA_cons (sim_int _) (simA_nil))))
 (simS_seq (simS_if (simT_test (sim_op opA_eq (sim_var 2 (nm rfl)) (sim_int _)))
 (simS_ret (Sim.toE (sim_callP (by simp) rfl (simA_nil))))
 (simS_next))
 (simS_seq (simS_if (simT_or (simT_test (sim_op opA_eq (sim_var 2 (nm rfl)) (sim_int _))) (simT_test (sim_op opA_eq (sim_var 1 (nm rfl)) (sim_int _))))
 (simS_ret (Sim.toE (sim_callP (by simp) rfl (simA_nil))))
 (simS_next))
 (simS_ret (Sim.toE (sim_cb caA_tup (simA_cons (sim_lc (simI_range1 (sim_callP (by simp) rfl (simA_cons (sim_int _) (simA_nil)))) (simG_name 3 (nm rfl) (np rfl)) (simT_yes) (sim_callP (by simp) rfl (simA_cons (sim_op opA_sub (sim_var 1 (nm rfl)) (sim_int _)) (simA_nil))) (inv' rfl) (nmv rfl) (npv rfl)) (simA_nil)))))))), ?_⟩
    intro ds m Q hl hF
    match ds, hl with
    | [d], _ =>
    cases d <;> first | exact hF.elim | skip
    rename_i deep
    obtain ⟨j, rfl, hj, hm, k⟩ := hF
    have hpc := pc_le j
    have hpl := pl_le j
    refine take_ok (by (first | omega | (dsimp only; omega) | (dsimp only at *; omega))) (by decide) (by decide) fun way w0 w1 => ?_
    by_cases h0 : way = 0
    · refine ifp (decide_eq_true h0) ⟨by show _ + 20 ≤ _; (first | omega | (dsimp only; omega) | (dsimp only at *; omega)), fun x n' hx hn => k _ _ (vd_word hx) ?_ (by (first | omega | (dsimp only; omega) | (dsimp only at *; omega)))⟩
      have := len_word hx
      (first | omega | (dsimp only; omega) | (dsimp only at *; omega))
    refine ifn (by simpa using h0) ?_
    by_cases h1 : way = 1
    · refine ifp (decide_eq_true h1) ⟨by show _ + 50 ≤ _; (first | omega | (dsimp only; omega) | (dsimp only at *; omega)), fun i n' hi hn => k _ _ (vd_int hi) ?_ (by (first | omega | (dsimp only; omega) | (dsimp only at *; omega)))⟩
      have := intL_len hi
      simp only [sh]
      (first | omega | (dsimp only; omega) | (dsimp only at *; omega))
    refine ifn (by simpa using h1) ?_
    by_cases h2 : (j : Int) = 0
    · refine ifp (decide_eq_true h2) ⟨by show _ + 50 ≤ _; (first | omega | (dsimp only; omega) | (dsimp only at *; omega)), fun i n' hi hn => k _ _ (vd_int hi) ?_ (by (first | omega | (dsimp only; omega) | (dsimp only at *; omega)))⟩
      have := intL_len hi
      simp only [sh]
      (first | omega | (dsimp only; omega) | (dsimp only at *; omega))
    refine ifn (by simpa using h2) ?_
    obtain ⟨i, rfl⟩ : ∃ i, j = i + 1 := ⟨j - 1, by (first | omega | (dsimp only; omega) | (dsimp only at *; omega))⟩
    have epc : pc (i + 1) = 60 + 3 * pc i := rfl
    have epl : pl (i + 1) = 3 * pl i + 40 := rfl
    refine take_ok (by (first | omega | (dsimp only; omega) | (dsimp only at *; omega))) (by decide) (by decide) fun r r0 r1 => ?_
    refine ⟨⟨by (first | omega | (dsimp only; omega) | (dsimp only at *; omega)), by (first | omega | (dsimp only; omega) | (dsimp only at *; omega))⟩, by rw [rgD_len]; exact small_line (by (first | omega | (dsimp only; omega) | (dsimp only at *; omega))), lcD_ind (fun t acc s => ∃ m' : Nat, acc.length = t ∧ t ≤ 3 ∧ (∀ x ∈ acc, vd i x ∧ (sh x).length ≤ pl i) ∧ s = { δ := [none, some (.int ((i + 1 : Nat) : Int)), some (.int way), none], n := m' } ∧ m' ≤ m + 2 + t * pc i) ⟨m + 1 + 1, rfl, by (first | omega | (dsimp only; omega) | (dsimp only at *; omega)), (fun x h => nomatch h), rfl, by (first | omega | (dsimp only; omega) | (dsimp only at *; omega))⟩ ?_ ?_⟩
    · rintro t d acc s N hi ⟨m', ha, ht, hx, rfl, hm'⟩ hN
      obtain ⟨hi, rfl⟩ := rgD_get hi
      have h3 : t * pc i ≤ 2 * pc i := Nat.mul_le_mul_right _ (by (first | omega | (dsimp only; omega) | (dsimp only at *; omega)))
      refine ⟨i, by show ((i + 1 : Nat) : Int) - 1 = _; (first | omega | (dsimp only; omega) | (dsimp only at *; omega)), by (first | omega | (dsimp only; omega) | (dsimp only at *; omega)), by (first | omega | (dsimp only; omega) | (dsimp only at *; omega)), fun x n' v1 v2 v3 => hN _ _ ⟨n', by rw [List.length_append, ha]; rfl, by (first | omega | (dsimp only; omega) | (dsimp only at *; omega)), fun y hy => ?_, rfl, ?_⟩⟩
      · rcases List.mem_append.mp hy with h | h
        · exact hx y h
        · rw [List.mem_singleton.mp h]; exact ⟨v1, v2⟩
      · rw [Nat.succ_mul]
        have v3 : n' ≤ m' + pc i := v3
        (first | omega | (dsimp only; omega) | (dsimp only at *; omega))
    · rintro acc s ⟨m', ha, ht, hx, rfl, hm'⟩
      rw [rgD_len] at ha ht hm'
      have h3 : r.toNat * pc i ≤ 3 * pc i := Nat.mul_le_mul_right _ (by (first | omega | (dsimp only; omega) | (dsimp only at *; omega)))
      refine k _ _ (show vd (i + 1) (.tuple acc) from fun x h => (hx x h).1) ?_ (by show m' ≤ _; (first | omega | (dsimp only; omega) | (dsimp only at *; omega)))
      have h4 := tup_len fun x h => (hx x h).2
      have h5 : acc.length * (pl i + 1) ≤ 3 * (pl i + 1) := Nat.mul_le_mul_right _ (by (first | omega | (dsimp only; omega) | (dsimp only at *; omega)))
      (first | omega | (dsimp only; omega) | (dsimp only at *; omega))
def treeF : DFP := fun ds n Q => match ds with
  | [d] => (match d with
    | .int deep => 1 ≤ deep ∧ deep ≤ 40 ∧ n + 100000 ≤ 1000000000 ∧ ∀ (xs : List D) (n' : Nat), vd 40 (.tuple xs) → (sh (.tuple xs)).length ≤ 100000 → n' ≤ n + 100000 → Q (.tuple xs) n'
    | _ => False)
  | _ => False
theorem tup_of {xs : List D} {b c : Nat} {found : List D} {j : Nat} (hx : ∀ x ∈ xs, (sh x).length ≤ b) (hf : (sh (.tuple found)).length ≤ c) (hl : xs.length ≤ 2) (hj : j ≤ xs.length) (ys : List D) (e : ys = xs.take j ++ [(PyData.tuple found : D)] ++ xs.drop j) : (sh (.tuple ys)).length ≤ 2 + (2 * (b + 1) + (c + 1)) := by
  have lem : ∀ {ds : List D} {n : Nat}, (ds.map fun d => (sh d).length + 1).sum ≤ n → (sh (.tuple ds)).length ≤ 2 + n := by
    intro ds
    have : ∀ {ds : List D}, (joinL [32] (shL ds)).length ≤ (ds.map fun d => (sh d).length + 1).sum := by
      intro ds
      induction ds with
      | nil => simp [shL, joinL]
      | cons e ds ih =>
        simp only [shL]
        rw [join_tail, List.length_append, List.map_cons, List.sum_cons]
        cases ds with
        | nil => simp [shL, tailL]
        | cons e2 r =>
          simp only [shL] at ih ⊢
          rw [join_tail, List.length_append] at ih
          rw [tail_cons, List.length_cons, List.length_append]
          (first | omega | (dsimp only; omega) | (dsimp only at *; omega))
    intro n h
    have := this (ds := ds)
    simp only [sh]
    rw [List.length_cons, List.length_append, List.length_singleton]
    (first | omega | (dsimp only; omega) | (dsimp only at *; omega))
  apply lem
  subst e
  have e1 : ((xs.take j ++ [(PyData.tuple found : D)] ++ xs.drop j).map fun d => (sh d).length + 1).sum = (xs.map fun d => (sh d).length + 1).sum + ((sh (.tuple found)).length + 1) := by
    conv => rhs; rw [← List.take_append_drop j xs]
    simp only [List.map_append, List.sum_append, List.map_cons, List.map_nil, List.sum_cons, List.sum_nil]
    (first | omega | (dsimp only; omega) | (dsimp only at *; omega))
  rw [e1]
  have e2 : (xs.map fun d => (sh d).length + 1).sum ≤ 2 * (b + 1) := by
    match xs, hl, hx with
    | [], _, _ => simp
    | [x], _, hx =>
      have := hx x (by simp)
      simp
      (first | omega | (dsimp only; omega) | (dsimp only at *; omega))
    | [x, y], _, hx =>
      have := hx x (by simp)
      have := hx y (by simp)
      simp
      (first | omega | (dsimp only; omega) | (dsimp only at *; omega))
  (first | omega | (dsimp only; omega) | (dsimp only at *; omega))
theorem ok__law_wtree (T : Tx K mg) (O__law_take : Ok P w K mg base 2 "_law_take" ["_law_pen", "_law_many"] (spP K 1 .E takeF)) (O__law_wpart : Ok P w K mg base 7 "_law_wpart" ["_law_pen", "_law_deep"] (spP K 1 .E (partF 3))) : Ok P w K mg base 8 "_law_wtree" ["_law_pen", "_law_deep"] (spP K 1 .E treeF) := by
  refine Ok.ofP (M := []) T.d__law_wtree sc__law_wtree rfl (by decide) (by decide) fun f cdv A outer s H E p c hr => ⟨_, _, (pss_cons (ps_set (i := 2) sc__law_wtree.nd rfl (Or.inl rfl) (pe_callTy (tupQ K rfl) (by rfl) T.z_tuple boot_tuple (pa_cons (pe_lc (own := [("_law_k", 3)]) rfl sc__law_wtree.nd (pi_range1 (by rfl) T.z_range (pa_cons (pe_fn O__law_take (hr.mono (by omega)) (by rfl) (pa_cons (pv 0) (pa_cons (pe_int) (pa_nil)))) (pa_nil))) (blkOk_by (own := [("_law_k", 3)]) (N := ["_law_pen", "_law_deep", "_law_found", "_law_k", "_law_row", "_law_turn", "_law_at"]) (sc := defScope s__law_wtree) (by decide +kernel)) (fun _ _ _ _ _ => pg_nameL (i := 3) sc__law_wtree.nd rfl rfl) (fun _ _ _ _ _ => pts_nil) (fun _ _ _ _ _ => pe_fn O__law_wpart (hr.mono (by omega)) (by rfl) (pa_cons (pv 0) (pa_cons (pe_int) (pa_nil))))) (pa_nil))))
 (pss_cons (ps_for PassesOwn.never rfl (pi_range2 (by rfl) T.z_range (pa_cons (pe_int) (pa_cons (pv 1) (pa_nil)))) (pg_name (i := 3) sc__law_wtree.nd rfl (Or.inr rfl))
 (pss_cons (ps_setLc (i := 4) (own := [("_law_turn", 5)]) rfl sc__law_wtree.nd rfl rfl (sw_true rfl rfl rfl (by decide +kernel)) (pi_range1 (by rfl) T.z_range (pa_cons (pe_ix (ixG K rfl) (pe_lst (pa_cons (pe_int) (pa_cons (pe_int) (pa_cons (pe_int) (pa_cons (pe_int) (pa_nil)))))) (pe_fn O__law_take (hr.mono (by omega)) (by rfl) (pa_cons (pv 0) (pa_cons (pe_int) (pa_nil)))) (fun _ _ => rfl)) (pa_nil))) (blkOk_by (own := [("_law_turn", 5)]) (N := ["_law_pen", "_law_deep", "_law_found", "_law_k", "_law_row", "_law_turn", "_law_at"]) (sc := defScope s__law_wtree) (by decide +kernel)) (fun _ _ _ _ _ => pg_nameL (i := 5) sc__law_wtree.nd rfl rfl) (fun _ _ _ _ _ => pts_nil) (fun _ _ _ _ _ => pe_fn O__law_wpart (hr.mono (by omega)) (by rfl) (pa_cons (pv 0) (pa_cons (pe_callB (call_min2 rfl) (by rfl) T.z_min boot_min (pa_cons (pv 3) (pa_cons (pe_int) (pa_nil)))) (pa_nil)))))
 (pss_cons (ps_set (i := 6) sc__law_wtree.nd rfl (Or.inl rfl) (pe_fn O__law_take (hr.mono (by omega)) (by rfl) (pa_cons (pv 0) (pa_cons (pe_op (addG K rfl) (pe_callB (lenG K rfl) (by rfl) T.z_len boot_len (pa_cons (pv 4) (pa_nil))) (pe_int)) (pa_nil)))))
 (pss_one (ps_set (i := 2) sc__law_wtree.nd rfl (Or.inl rfl) (pe_callTy (tupQ K rfl) (by rfl) T.z_tuple boot_tuple (pa_cons (pe_op (addG K rfl) (pe_op (addG K rfl) (pe_slice (slG K rfl) (pv 4) po_none (po_some (pv 6))) (pe_lst (pa_cons (pv 2) (pa_nil)))) (pe_slice (slG K rfl) (pv 4) (po_some (pv 6)) po_none)) (pa_nil))))))))
 (pss_one (ps_ret (pv 2))))),
 (simS_seq (simS_set 2 (nm rfl) (np rfl) (sim_cb caA_tup (simA_cons (sim_lc (simI_range1 (sim_callP (by simp) rfl (simA_cons (sim_int _) (simA_nil)))) (simG_name 3 (nm rfl) (np rfl)) (simT_yes) (sim_callP (by simp) rfl (simA_cons (sim_int _) (simA_nil))) (inv' rfl) (nmv rfl) (npv rfl)) (simA_nil))))
 (simS_cut (simS_for (simI_range2 (sim_int _) (sim_var 1 (nm rfl))) (simG_name 3 (nm rfl) (np rfl))
 (simS_cut (simS_set 4 (nm rfl) (np rfl) (sim_lc (simI_range1 (opA_ix (sim_lst (by decide) (simA_cons (sim_int _) (simA_cons (sim_int _) (simA_cons (sim_int _) (simA_cons (sim_int _) (simA_nil)))))) (sim_callP (by simp) rfl (simA_cons (sim_int _) (simA_nil))))) (simG_name 5 (nm rfl) (np rfl)) (simT_yes) (sim_callP (by simp) rfl (simA_cons (sim_cb caA_min (simA_cons (sim_var 3 (nm rfl)) (simA_cons (sim_int _) (simA_nil)))) (simA_nil))) (inv' rfl) (nmv rfl) (npv rfl)))
 (simS_seq (simS_set 6 (nm rfl) (np rfl) (sim_callP (by simp) rfl (simA_cons (sim_op opA_add (sim_cb caA_len (simA_cons (sim_var 4 (nm rfl)) (simA_nil))) (sim_int _)) (simA_nil))))
 (simS_set 2 (nm rfl) (np rfl) (sim_cb caA_tup (simA_cons (sim_op opA_add (sim_op opA_add (sim_sl (sim_var 4 (nm rfl)) simO_none (simO_some (sim_var 6 (nm rfl)))) (sim_lst (by decide) (simA_cons (sim_var 2 (nm rfl)) (simA_nil)))) (sim_sl (sim_var 4 (nm rfl)) (simO_some (sim_var 6 (nm rfl))) simO_none)) (simA_nil)))))))
 (simS_ret (Sim.toE (sim_var 2 (nm rfl)))))), ?_⟩
  intro ds m Q hl hF
  match ds, hl with
  | [d], _ =>
  cases d <;> first | exact hF.elim | skip
  rename_i deep _
  obtain ⟨d1, d2, hm, k⟩ := hF
  refine take_ok (by (first | omega | (dsimp only; omega) | (dsimp only at *; omega))) (by decide) (by decide) fun r r0 r1 => ?_
  refine ⟨⟨by (first | omega | (dsimp only; omega) | (dsimp only at *; omega)), by (first | omega | (dsimp only; omega) | (dsimp only at *; omega))⟩, by rw [rgD_len]; exact small_line (by (first | omega | (dsimp only; omega) | (dsimp only at *; omega))), lcD_ind (fun t acc s => ∃ m' : Nat, acc.length = t ∧ t ≤ 3 ∧ (∀ x ∈ acc, vd 0 x ∧ (sh x).length ≤ 31) ∧ s = { δ := [none, some (.int deep), none, none, none, none, none], n := m' } ∧ m' ≤ m + 1 + t * 60) ⟨m + 1, rfl, by (first | omega | (dsimp only; omega) | (dsimp only at *; omega)), (fun x h => nomatch h), rfl, by (first | omega | (dsimp only; omega) | (dsimp only at *; omega))⟩ ?_ ?_⟩
  · rintro t d acc s N hi ⟨m', ha, ht, hx, rfl, hm'⟩ hN
    obtain ⟨hi, rfl⟩ := rgD_get hi
    refine ⟨0, rfl, by (first | omega | (dsimp only; omega) | (dsimp only at *; omega)), by show _ + 60 ≤ _; (first | omega | (dsimp only; omega) | (dsimp only at *; omega)), fun x n' v1 v2 v3 => hN _ _ ⟨n', by rw [List.length_append, ha]; rfl, by (first | omega | (dsimp only; omega) | (dsimp only at *; omega)), fun y hy => ?_, rfl, ?_⟩⟩
    · rcases List.mem_append.mp hy with h | h
      · exact hx y h
      · rw [List.mem_singleton.mp h]; exact ⟨v1, v2⟩
    · have v3 : n' ≤ m' + 60 := v3
      (first | omega | (dsimp only; omega) | (dsimp only at *; omega))
  rintro acc s ⟨m1, ha, ht, hx, rfl, hm1⟩
  rw [rgD_len] at ha ht hm1
  have hl0 := tup_len fun x h => (hx x h).2
  refine ⟨fun s => ∃ (xs : List D) (m' : Nat) (a b c d : Option D), vd 40 (.tuple xs) ∧ (sh (.tuple xs)).length ≤ 100000 ∧ s = { δ := [none, some (.int deep), some (.tuple xs), a, b, c, d], n := m' } ∧ m' ≤ m + 100000, ?_, ?_⟩
  · refine ⟨⟨by decide, by decide, by (first | omega | (dsimp only; omega) | (dsimp only at *; omega)), by (first | omega | (dsimp only; omega) | (dsimp only at *; omega))⟩, forD_ind (fun i s => ∃ (xs : List D) (m' : Nat) (a b c d : Option D), i ≤ 39 ∧ vd (i + 1) (.tuple xs) ∧ (sh (.tuple xs)).length ≤ 200 + i * 1000 ∧ s = { δ := [none, some (.int deep), some (.tuple xs), a, b, c, d], n := m' } ∧ m' ≤ m + 300 + i * 2000)
      ⟨acc, m1, none, none, none, none, by (first | omega | (dsimp only; omega) | (dsimp only at *; omega)), fun x h => (hx x h).1, by rw [ha] at hl0; (first | omega | (dsimp only; omega) | (dsimp only at *; omega)), rfl, by (first | omega | (dsimp only; omega) | (dsimp only at *; omega))⟩ ?_ ?_⟩
    · rintro i dd s N hd ⟨xs, m', a, b, c', d', hi39, hv, hz, rfl, hm'⟩ hN
      obtain ⟨hi, rfl⟩ := rgD_get hd
      have hi38 : i < 39 := by (first | omega | (dsimp only; omega) | (dsimp only at *; omega))
      -- the row
      refine ⟨fun s => ∃ (ys : List D) (m' : Nat) (c d : Option D), ys.length ≤ 2 ∧ (∀ y ∈ ys, vd (i + 1) y ∧ (sh y).length ≤ 439) ∧ s = { δ := [none, some (.int deep), some (.tuple xs), some (.int (1 + (i : Nat))), some (.list ys), c, d], n := m' } ∧ m' ≤ m + 300 + i * 2000 + 1 + 2 * 780, ?_, ?_⟩
      · refine take_ok (by (first | omega | (dsimp only; omega) | (dsimp only at *; omega))) (by decide) (by decide) fun r r0 r1 => ?_
        obtain ⟨n, hn2, hget⟩ : ∃ n : Nat, n ≤ 2 ∧ ([.int 0, .int 1, .int 0, .int 2] : List D)[r.toNat]? = some (.int (n : Int)) := by
          have hr : r = 0 ∨ r = 1 ∨ r = 2 ∨ r = 3 := by omega
          rcases hr with rfl | rfl | rfl | rfl
          · exact ⟨0, by decide, rfl⟩
          · exact ⟨1, by decide, rfl⟩
          · exact ⟨0, by decide, rfl⟩
          · exact ⟨2, by decide, rfl⟩
        refine ix_ok r.toNat (by omega) hget ?_
        refine ⟨⟨by omega, by omega⟩, by rw [rgD_len]; exact small_line (by omega), lcD_ind (fun t acc s => ∃ m'' : Nat, acc.length = t ∧ t ≤ 2 ∧ (∀ x ∈ acc, vd (i + 1) x ∧ (sh x).length ≤ 439) ∧ s = { δ := [none, some (.int deep), some (.tuple xs), some (.int (1 + (i : Nat))), b, none, d'], n := m'' } ∧ m'' ≤ m' + 1 + t * 780) ⟨m' + 1, rfl, by omega, (fun x h => nomatch h), rfl, by omega⟩ ?_ ?_⟩
        · rintro t dd acc s N hi ⟨m'', ha, ht, hx, rfl, hm''⟩ hN
          obtain ⟨hi, rfl⟩ := rgD_get hi
          have emin : ∃ j : Nat, (if (2 : Int) < 1 + (i : Nat) then (2 : Int) else 1 + (i : Nat)) = (j : Int) ∧ j < 3 ∧ pc j ≤ 780 ∧ pl j ≤ 439 ∧ j ≤ i + 1 := by
            by_cases h2 : 2 < i + 1
            · exact ⟨2, by rw [if_pos (by omega)]; rfl, by decide, by decide, by decide, by omega⟩
            · rw [if_neg (by omega)]
              refine ⟨i + 1, by omega, by omega, ?_, ?_, Nat.le_refl _⟩
              · have : i = 0 ∨ i = 1 := by omega
                rcases this with rfl | rfl <;> decide
              · have : i = 0 ∨ i = 1 := by omega
                rcases this with rfl | rfl <;> decide
          obtain ⟨j, e1, e2, e3, e4, e5⟩ := emin
          refine ⟨j, e1, e2, ?_, fun x n' v1 v2 v3 => hN _ _ ⟨n', by rw [List.length_append, ha]; rfl, by omega, fun y hy => ?_, rfl, ?_⟩⟩
          · show m'' + pc j ≤ 1000000000
            omega
          · rcases List.mem_append.mp hy with h | h
            · exact hx y h
            · rw [List.mem_singleton.mp h]; exact ⟨vd_mono v1 e5, by omega⟩
          · have v3 : n' ≤ m'' + pc j := v3
            omega
        · rintro acc s ⟨m'', ha, ht, hx, rfl, hm''⟩
          rw [rgD_len] at ha ht hm''
          exact ⟨acc, m'', _, _, by omega, hx, rfl, by omega⟩
      rintro s ⟨ys, m2, c2, d2', hy, hys, rfl, hm2⟩
      refine take_ok (by (first | omega | (dsimp only; omega) | (dsimp only at *; omega))) (by (first | omega | (dsimp only; omega) | (dsimp only at *; omega))) (by (first | omega | (dsimp only; omega) | (dsimp only at *; omega))) fun r r0 r1 => ?_
      obtain ⟨j, rfl⟩ : ∃ j : Nat, r = (j : Int) := ⟨r.toNat, by (first | omega | (dsimp only; omega) | (dsimp only at *; omega))⟩
      have hj : j ≤ ys.length := by (first | omega | (dsimp only; omega) | (dsimp only at *; omega))
      have e1 : cutD ys none (some (j : Int)) = ys.take j := cutD_to ys j
      have e2 : cutD ys (some (j : Int)) none = ys.drop j := cutD_from ys j hj
      refine ⟨?_, ?_, ?_⟩
      · rw [e1]; refine small_line ?_; rw [List.length_take]; show _ + 1 ≤ 1000; (first | omega | (dsimp only; omega) | (dsimp only at *; omega))
      · rw [e1, e2]; refine small_line ?_; rw [List.length_append, List.length_take, List.length_drop]; show _ + 1 + _ ≤ 1000; (first | omega | (dsimp only; omega) | (dsimp only at *; omega))
      rw [e1, e2]
      refine hN _ ⟨_, _, _, _, _, _, by (first | omega | (dsimp only; omega) | (dsimp only at *; omega)), ?_, ?_, rfl, by show m2 + 1 ≤ _; (first | omega | (dsimp only; omega) | (dsimp only at *; omega))⟩
      · intro x hx
        rcases List.mem_append.mp hx with hx | hx
        · rcases List.mem_append.mp hx with hx | hx
          · exact (hys x (List.mem_of_mem_take hx)).1
          · rw [List.mem_singleton.mp hx]; exact hv
        · exact (hys x (List.mem_of_mem_drop hx)).1
      · have := tup_of (fun x h => (hys x h).2) hz hy hj _ rfl
        (first | omega | (dsimp only; omega) | (dsimp only at *; omega))
    · rintro s ⟨xs, m', a, b, c', d', hi39, hv, hz, rfl, hm'⟩
      rw [rgD_len] at hi39 hv hz hm'
      exact ⟨xs, m', a, b, c', d', vd_mono hv (by (first | omega | (dsimp only; omega) | (dsimp only at *; omega))), by (first | omega | (dsimp only; omega) | (dsimp only at *; omega)), rfl, by (first | omega | (dsimp only; omega) | (dsimp only at *; omega))⟩
  rintro s ⟨xs, m', a, b, c', d', hv, hz, rfl, hm'⟩
  exact k xs m' hv hz hm'
end

/-! ### wide ones, the law -/
def wideF : DFP := fun ds n Q => match ds with
  | [] => n + 1000 ≤ 1000000000 ∧ ∀ (xs : List D) (n' : Nat), vd 40 (.tuple xs) → (sh (.tuple xs)).length ≤ 100000 → n' ≤ n + 1000 → Q (.tuple xs) n'
  | _ => False
theorem vd_a : word (Str.ofString "a") := ⟨by decide +kernel, by decide +kernel, by decide +kernel⟩
theorem vd_dat : ∀ (h : Nat) {d : D}, vd h d → (sh d).length ≤ 1000000 → dat h d
  | 0, d, v, _ => by cases d <;> first | exact True.intro | exact v.elim
  | h + 1, d, v, l => by
    cases d <;> first | exact True.intro | exact v.elim | skip
    rename_i ds
    have few := few_parts ds
    refine ⟨small_big (by (first | omega | (dsimp only; omega) | (dsimp only at *; omega))), fun e m => vd_dat h (v e m) ?_⟩
    have := len_mem m
    (first | omega | (dsimp only; omega) | (dsimp only at *; omega))
section
variable {P : Program} {w : World} {K : PySem.W.Frag} {mg : Str → Option Value} {base : Heap}
theorem ok__law_wwide (T : Tx K mg) (O__law_take : Ok P w K mg base 2 "_law_take" ["_law_pen", "_law_many"] (spP K 1 .E takeF)) (O__law_wword : Ok P w K mg base 3 "_law_wword" ["_law_pen"] (spP K 0 .E wordF))
    (O__law_wpart : Ok P w K mg base 7 "_law_wpart" ["_law_pen", "_law_deep"] (spP K 1 .E (partF 3))) : Ok P w K mg base 8 "_law_wwide" ["_law_pen"] (spP K 0 .E wideF) := by
  refine Ok.ofP (M := [4]) T.d__law_wwide sc__law_wwide rfl (by decide) (by decide) fun f cdv A outer s H E p c hr => ⟨_, _, (pss_cons (ps_set (i := 1) sc__law_wwide.nd rfl (Or.inl rfl) (pe_op (addG K rfl) (pe_int) (pe_fn O__law_take (hr.mono (by omega)) (by rfl) (pa_cons (pv 0) (pa_cons (pe_int) (pa_nil))))))
 (pss_cons (ps_set (i := 2) sc__law_wwide.nd rfl (Or.inl rfl) (pe_fn O__law_take (hr.mono (by omega)) (by rfl) (pa_cons (pv 0) (pa_cons (pe_int) (pa_nil)))))
 (pss_cons (ps_set (i := 3) sc__law_wwide.nd rfl (Or.inr rfl) (pe_ix (ixG K rfl) (pe_lst (pa_cons (pe_tup (pa_nil)) (pa_cons (pe_tup (pa_cons (pe_fn O__law_wword (hr.mono (by omega)) (by rfl) (pa_cons (pv 0) (pa_nil))) (pa_nil))) (pa_cons (pe_fn O__law_wword (hr.mono (by omega)) (by rfl) (pa_cons (pv 0) (pa_nil))) (pa_nil))))) (pv 2) (fun _ _ => rfl)))
 (pss_cons (ps_set (i := 4) sc__law_wwide.nd rfl (Or.inl rfl) (pe_op mulG (pe_lst (pa_cons (pv 3) (pa_nil))) (pv 1)))
 (pss_cons (ps_if (pt_cmpR (eqG K rfl hr.units) (pv 2) (pe_int) (nomark _))
 (pss_one (ps_setLc (i := 4) (own := [("_law_k", 5)]) rfl sc__law_wwide.nd rfl rfl (sw_true rfl rfl rfl (by decide +kernel)) (pi_range1 (by rfl) T.z_range (pa_cons (pv 1) (pa_nil))) (blkOk_by (own := [("_law_k", 5)]) (N := ["_law_pen", "_law_many", "_law_way", "_law_one", "_law_row", "_law_k"]) (sc := defScope s__law_wwide) (by decide +kernel)) (fun _ _ _ _ _ => pg_nameL (i := 5) sc__law_wwide.nd rfl rfl) (fun _ _ _ _ _ => pts_nil) (fun _ _ _ _ _ => pe_ix (ixG K rfl) (pe_lst (pa_cons (pv 3) (pa_cons (pe_op op_sub (pe_op mulG (pv 5) (pe_int)) (pe_int)) (pa_cons (pe_str) (pa_nil))))) (pe_op op_mod (pv 5) (pe_int)) (fun _ _ => rfl))))
 (pss_nil))
 (pss_cons (ps_asg (pe_fn O__law_wpart (hr.mono (by omega)) (by rfl) (pa_cons (pv 0) (pa_cons (pe_int) (pa_nil)))) (pg_sub (pv 4) (pe_fn O__law_take (hr.mono (by omega)) (by rfl) (pa_cons (pv 0) (pa_cons (pv 1) (pa_nil)))) set_list))
 (pss_one (ps_ret (pe_callTy (tupQ K rfl) (by rfl) T.z_tuple boot_tuple (pa_cons (pv 4) pa_nil)))))))))),
 (simS_seq (simS_set 1 (nm rfl) (np rfl) (sim_op opA_add (sim_int _) (sim_callP (by simp) rfl (simA_cons (sim_int _) (simA_nil)))))
 (simS_seq (simS_set 2 (nm rfl) (np rfl) (sim_callP (by simp) rfl (simA_cons (sim_int _) (simA_nil))))
 (simS_cut (simS_set 3 (nm rfl) (np rfl) (opA_ix (sim_lst (by decide) (simA_cons (sim_tup (by decide) (simA_nil)) (simA_cons (sim_tup (by decide) (simA_cons (sim_callP (by simp) rfl (simA_nil)) (simA_nil))) (simA_cons (sim_callP (by simp) rfl (simA_nil)) (simA_nil))))) (sim_var 2 (nm rfl))))
 (simS_seq (simS_setM 4 (ym rfl) (nb rfl) (sim_op opA_mul (sim_lst (by decide) (simA_cons (sim_var 3 (nm rfl)) (simA_nil))) (sim_var 1 (nm rfl))))
 (simS_cut (simS_if (simT_test (sim_op opA_eq (sim_var 2 (nm rfl)) (sim_int _)))
 (simS_setM 4 (ym rfl) (nb rfl) (sim_lc (simI_range1 (sim_var 1 (nm rfl))) (simG_name 5 (nm rfl) (np rfl)) (simT_yes) (opA_ix (sim_lst (by decide) (simA_cons (sim_var 3 (nm rfl)) (simA_cons (sim_op opA_sub (sim_op opA_mul (sim_var 5 (nm rfl)) (sim_int _)) (sim_int _)) (simA_cons (sim_str _) (simA_nil))))) (sim_op opA_mod (sim_var 5 (nm rfl)) (sim_int _))) (inv' rfl) (nmv rfl) (npv rfl)))
 (simS_next))
 (simS_seq (simS_setAt 4 (ym rfl) (sim_callP (by simp) rfl (simA_cons (sim_int _) (simA_nil))) (sim_callP (by simp) rfl (simA_cons (sim_var 1 (nm rfl)) (simA_nil))))
 (simS_ret (Sim.toE (sim_cbM 4 (ym rfl) caA_tup))))))))), ?_⟩
  intro ds m Q hl hF
  match ds, hl with
  | [], _ =>
  obtain ⟨hm, k⟩ := hF
  refine take_ok (by (first | omega | (dsimp only; omega) | (dsimp only at *; omega))) (by decide) (by decide) fun a a0 a1 => ?_
  refine take_ok (by (first | omega | (dsimp only; omega) | (dsimp only at *; omega))) (by decide) (by decide) fun way w0 w1 => ?_
  obtain ⟨many, em⟩ : ∃ many : Nat, (41 + a : Int) = (many : Int) := ⟨(41 + a).toNat, by (first | omega | (dsimp only; omega) | (dsimp only at *; omega))⟩
  show dCut _ _ _ { δ := [none, some (.int (41 + a)), some (.int way), none, none, none], n := m + 1 + 1 }
  rw [em]
  refine ⟨fun s => ∃ (one : D) (m' : Nat), vd 1 one ∧ (sh one).length ≤ 12 ∧ s = { δ := [none, some (.int many), some (.int way), some one, none, none], n := m' } ∧ m' ≤ m + 42, ?_, ?_⟩
  · refine ⟨by show _ + 20 ≤ _; (first | omega | (dsimp only; omega) | (dsimp only at *; omega)), fun x n1 hx hn1 => ⟨by show _ + 20 ≤ _; (first | omega | (dsimp only; omega) | (dsimp only at *; omega)), fun y n2 hy hn2 => ?_⟩⟩
    have hn1 : n1 ≤ m + 1 + 1 + 20 := hn1
    have hn2 : n2 ≤ n1 + 20 := hn2
    have hr : way = 0 ∨ way = 1 ∨ way = 2 := by (first | omega | (dsimp only; omega) | (dsimp only at *; omega))
    rcases hr with rfl | rfl | rfl
    · exact ix_ok 0 rfl rfl ⟨(.tuple [] : D), _, (show ∀ d ∈ ([] : List D), vd 0 d from (fun d h => nomatch h)), by decide +kernel, rfl, by show n2 ≤ _; (first | omega | (dsimp only; omega) | (dsimp only at *; omega))⟩
    · refine ix_ok 1 rfl rfl ⟨(.tuple [.str x] : D), _, (show ∀ d ∈ ([.str x] : List D), vd 0 d from fun d h => by rw [List.mem_singleton.mp h]; exact vd_word hx), ?_, rfl, by show n2 ≤ _; (first | omega | (dsimp only; omega) | (dsimp only at *; omega))⟩
      have := tup_len (ds := [.str x]) (b := 8) fun d h => by rw [List.mem_singleton.mp h]; exact len_word hx
      rw [List.length_singleton] at this
      (first | omega | (dsimp only; omega) | (dsimp only at *; omega))
    · exact ix_ok 2 rfl rfl ⟨_, _, vd_word hy, Nat.le_trans (len_word hy) (by decide), rfl, by show n2 ≤ _; (first | omega | (dsimp only; omega) | (dsimp only at *; omega))⟩
  rintro s ⟨one, m1, ho, hz, rfl, hm1⟩
  refine ⟨by (first | omega | (dsimp only; omega) | (dsimp only at *; omega)), by (first | omega | (dsimp only; omega) | (dsimp only at *; omega)), ?_, rfl, ?_⟩
  · show 1 * (many : Int).toNat ≤ sizeLine
    exact small_line (by (first | omega | (dsimp only; omega) | (dsimp only at *; omega)))
  refine ⟨fun s => ∃ (xs : List D) (m' : Nat) (kk : Option D), xs.length = many ∧ (∀ x ∈ xs, vd 1 x ∧ (sh x).length ≤ 133) ∧ s = { δ := [none, some (.int many), some (.int way), some one, some (.list xs), kk], n := m' } ∧ m' ≤ m + 42, ?_, ?_⟩
  · by_cases h2 : way = 2
    · refine ifp (decide_eq_true h2) ⟨⟨by (first | omega | (dsimp only; omega) | (dsimp only at *; omega)), by (first | omega | (dsimp only; omega) | (dsimp only at *; omega))⟩, by rw [rgD_len]; exact small_line (by (first | omega | (dsimp only; omega) | (dsimp only at *; omega))), lcD_ind (fun t acc s => ∃ b : Option D, acc.length = t ∧ t ≤ many ∧ (∀ x ∈ acc, vd 1 x ∧ (sh x).length ≤ 133) ∧ s = { δ := [none, some (.int many), some (.int way), some one, b, none], n := m1 }) ⟨_, rfl, by (first | omega | (dsimp only; omega) | (dsimp only at *; omega)), (fun x h => nomatch h), rfl⟩ ?_ ?_⟩
      · rintro t dd acc s N hi ⟨b, ha, ht, hx, rfl⟩ hN
        obtain ⟨hi, rfl⟩ := rgD_get hi
        refine ⟨mulOk (lt2000 (Nat.lt_of_le_of_lt (show (0 + (t : Nat) : Int).natAbs ≤ 100 by (first | omega | (dsimp only; omega) | (dsimp only at *; omega))) (by decide))) (lt2000 (by decide)), by decide, ?_⟩
        have fin : ∀ x, vd 1 x → (sh x).length ≤ 133 → N (acc ++ [x]) (wipeS { δ := [none, some (.int many), some (.int way), some one, b, some (.int (0 + (t : Nat)))], n := m1 } [5]) := fun x h1 h2 => hN _ _ ⟨b, by rw [List.length_append, ha]; rfl, by (first | omega | (dsimp only; omega) | (dsimp only at *; omega)), fun y hy => by
          rcases List.mem_append.mp hy with h | h
          · exact hx y h
          · rw [List.mem_singleton.mp h]; exact ⟨h1, h2⟩, rfl⟩
        have hnum : (0 + (t : Nat) : Int) * 17 - 300 < 10 ^ 30 ∧ -(10 ^ 30) < (0 + (t : Nat) : Int) * 17 - 300 := by constructor <;> (first | omega | (dsimp only; omega) | (dsimp only at *; omega))
        have hr : (0 + (t : Nat) : Int) % 3 = 0 ∨ (0 + (t : Nat) : Int) % 3 = 1 ∨ (0 + (t : Nat) : Int) % 3 = 2 := by (first | omega | (dsimp only; omega) | (dsimp only at *; omega))
        rcases hr with e | e | e
        · exact ix_ok 0 e rfl (fin _ ho (by (first | omega | (dsimp only; omega) | (dsimp only at *; omega))))
        · have h30 : ((0 + (t : Nat) : Int) * 17 - 300).natAbs < 10 ^ 30 := by (first | omega | (dsimp only; omega) | (dsimp only at *; omega))
          exact ix_ok 1 e rfl (fin _ (vd_int h30) (by have := intL_len h30; simp only [sh]; (first | omega | (dsimp only; omega) | (dsimp only at *; omega))))
        · exact ix_ok 2 e rfl (fin _ (vd_word vd_a) (Nat.le_trans (len_word vd_a) (by decide)))
      · rintro acc s ⟨b, ha, ht, hx, rfl⟩
        rw [rgD_len] at ha
        exact ⟨rfl, acc, m1, none, by (first | omega | (dsimp only; omega) | (dsimp only at *; omega)), hx, rfl, hm1⟩
    · refine ifn (by simpa using h2) ⟨_, m1, none, ?_, fun x h => ?_, rfl, hm1⟩
      · show (List.replicate (many : Int).toNat [one]).flatten.length = many
        simp
      · have h : x ∈ (List.replicate (many : Int).toNat [one]).flatten := h
        simp at h
        rw [h.2]
        exact ⟨ho, by (first | omega | (dsimp only; omega) | (dsimp only at *; omega))⟩
  rintro s ⟨xs, m2, kk, hxl, hxs, rfl, hm2⟩
  refine ⟨1, rfl, by decide, by show m2 + 240 ≤ _; (first | omega | (dsimp only; omega) | (dsimp only at *; omega)), fun x n' v1 v2 v3 => ⟨⟨xs, rfl⟩, ?_⟩⟩
  have v3 : n' ≤ m2 + 240 := v3
  refine take_ok (by (first | omega | (dsimp only; omega) | (dsimp only at *; omega))) (by (first | omega | (dsimp only; omega) | (dsimp only at *; omega))) (by (first | omega | (dsimp only; omega) | (dsimp only at *; omega))) fun r r0 r1 => ?_
  show (match ixN xs.length r with | some m => _ | none => False)
  rw [ixN_of r.toNat (by (first | omega | (dsimp only; omega) | (dsimp only at *; omega))) (by (first | omega | (dsimp only; omega) | (dsimp only at *; omega)))]
  have hall : ∀ y ∈ xs.set r.toNat x, vd 1 y ∧ (sh y).length ≤ 133 := fun y hy => by
    rcases List.mem_or_eq_of_mem_set hy with h | h
    · exact hxs y h
    · rw [h]; exact ⟨v1, v2⟩
  refine k _ _ (vd_mono (h := 2) (fun y hy => (hall y hy).1) (by decide)) ?_ (by show n' + 1 ≤ _; (first | omega | (dsimp only; omega) | (dsimp only at *; omega)))
  have h1 := tup_len fun y hy => (hall y hy).2
  rw [List.length_set, hxl] at h1
  (first | omega | (dsimp only; omega) | (dsimp only at *; omega))
theorem ok_law (T : Tx K mg) {fa : Addr} {fda : FuncData} (F : Fun K "law" "law" s_law fa fda) : FnOk P w K mg base CX0 91 fa fda ["_law_script"] (spLaw K) := by
  have O__law_spread := ok__law_spread (P := P) (w := w) (base := base) T
  have O__law_open := ok__law_open (P := P) (w := w) (base := base) T
  have O__law_take := ok_takeP (ok__law_take (P := P) (w := w) (base := base) T O__law_spread)
  have O__law_wnumber := ok__law_wnumber T O__law_take
  have O__law_wword := ok__law_wword T O__law_take
  have O__law_wpart := ok__law_wpart T O__law_take O__law_wword O__law_wnumber 3
  have O__law_wtree := ok__law_wtree T O__law_take O__law_wpart
  have O__law_wwide := ok__law_wwide T O__law_take O__law_wword O__law_wpart
  have O__law_wshow := ok__law_wshow (P := P) (w := w) (base := base) T 41
  have O__law_same := ok__law_same (P := P) (w := w) (base := base) T 41
  have O_read := ok_read (P := P) (w := w) (base := base) T
  refine Ok.ofLaw (M := []) F sc_law (by decide) fun f cdv A outer s H E hr => ⟨_, (pss_cons (ps_set (i := 1) sc_law.nd rfl (Or.inl rfl) (pe_fn O__law_open (hr.mono (by omega)) (by rfl) (pa_cons (pv 0) pa_nil)))
 (pss_cons (ps_for PassesOwn.never rfl (pi_range1 (by rfl) T.z_range (pa_cons (pe_int) (pa_nil))) (pg_nameL (i := 2) sc_law.nd rfl rfl)
 (pss_cons (ps_set (i := 3) sc_law.nd rfl (Or.inl rfl) (pe_fn O__law_take (hr.mono (by omega)) (by rfl) (pa_cons (pv 1) (pa_cons (pe_int) (pa_nil)))))
 (pss_cons (ps_set (i := 4) sc_law.nd rfl (Or.inl rfl) (pe_ifExp (pt_cmpR (eqG K rfl hr.units) (pv 3) (pe_int) (nomark _)) (pe_fn O__law_wwide (hr.mono (by omega)) (by rfl) (pa_cons (pv 1) (pa_nil))) (pe_fn O__law_wtree (hr.mono (by omega)) (by rfl) (pa_cons (pv 1) (pa_cons (pe_ix (ixG K rfl) (pe_lst (pa_cons (pe_int) (pa_cons (pe_int) (pa_cons (pe_int) (pa_cons (pe_op (addG K rfl) (pe_int) (pe_fn O__law_take (hr.mono (by omega)) (by rfl) (pa_cons (pv 1) (pa_cons (pe_int) (pa_nil))))) (pa_nil)))))) (pv 3) (fun _ _ => rfl)) (pa_nil))))))
 (pss_cons (ps_set (i := 5) sc_law.nd rfl (Or.inl rfl) (pe_fn O__law_wshow (hr.mono (by omega)) (by rfl) (pa_cons (pv 4) (pa_nil))))
 (pss_one (ps_if (pt_not (pt_val (pe_fn O__law_same (hr.mono (by omega)) (by rfl) (pa_cons (pe_fn O_read (hr.mono (by omega)) (by rfl) (pa_cons (pv 5) (pa_nil))) (pa_cons (pv 4) (pa_nil))))))
 (pss_one (ps_ret (pe_bl)))
 (pss_nil)))))))
 (pss_one (ps_ret (pe_and (pe_fn O__law_same (hr.mono (by omega)) (by rfl) (pa_cons (pe_fn O_read (hr.mono (by omega)) (by rfl) (pa_cons (pe_str) (pa_nil))) (pa_cons (pe_tup (pa_nil)) (pa_nil)))) (pe_and (pe_fn O__law_same (hr.mono (by omega)) (by rfl) (pa_cons (pe_fn O_read (hr.mono (by omega)) (by rfl) (pa_cons (pe_str) (pa_nil))) (pa_cons (pe_tup (pa_cons (pe_int) (pa_cons (pe_un un_neg (pe_int)) (pa_nil)))) (pa_nil)))) (pe_one (pe_fn O__law_same (hr.mono (by omega)) (by rfl) (pa_cons (pe_fn O_read (hr.mono (by omega)) (by rfl) (pa_cons (pe_str) (pa_nil))) (pa_cons (pe_tup (pa_cons (pe_tup (pa_cons (pe_str) (pa_nil))) (pa_nil))) (pa_nil))))))))))),
 fun p c => ⟨_, (simS_cut (simS_for (simI_range1 (sim_int _)) (simG_name 2 (nm rfl) (np rfl))
 (simS_seq (simS_set 3 (nm rfl) (np rfl) (sim_callP (by simp) rfl (simA_cons (sim_int _) (simA_nil))))
 (simS_cut (simS_set 4 (nm rfl) (np rfl) (sim_if (simT_test (sim_op opA_eq (sim_var 3 (nm rfl)) (sim_int _))) (Sim.toE (sim_callP (by simp) rfl (simA_nil))) (Sim.toE (sim_callP (by simp) rfl (simA_cons (opA_ix (sim_lst (by decide) (simA_cons (sim_int _) (simA_cons (sim_int _) (simA_cons (sim_int _) (simA_cons (sim_op opA_add (sim_int _) (sim_callP (by simp) rfl (simA_cons (sim_int _) (simA_nil)))) (simA_nil)))))) (sim_var 3 (nm rfl))) (simA_nil))))))
 (simS_seq (simS_set 5 (nm rfl) (np rfl) (sim_call (simA_cons (sim_var 4 (nm rfl)) (simA_nil))))
 (simS_if (simT_not (simT_B (sim_call (simA_cons (sim_call (simA_cons (sim_var 5 (nm rfl)) (simA_nil))) (simA_cons (sim_var 4 (nm rfl)) (simA_nil))))))
 (simS_ret (Sim.toE (sim_bl _)))
 (simS_next))))))
 (simS_ret (Sim.toE (sim_andV (sim_call (simA_cons (sim_call (simA_cons (sim_str _) (simA_nil))) (simA_cons (sim_tup (by decide) (simA_nil)) (simA_nil)))) (sim_andV (sim_call (simA_cons (sim_call (simA_cons (sim_str _) (simA_nil))) (simA_cons (sim_tup (by decide) (simA_cons (sim_int _) (simA_cons (sim_neg (sim_int _)) (simA_nil)))) (simA_nil)))) (sim_call (simA_cons (sim_call (simA_cons (sim_str _) (simA_nil))) (simA_cons (sim_tup (by decide) (simA_cons (sim_tup (by decide) (simA_cons (sim_str _) (simA_nil))) (simA_nil))) (simA_nil))))))))), ?_⟩⟩
  refine ⟨fun s => ∃ (n : Nat) (a b c d : Option D), s = { δ := [none, none, a, b, c, d], n := n } ∧ n ≤ 400000, ?_, ?_⟩
  · refine ⟨⟨by decide, by decide⟩, forD_ind (fun i s => ∃ (n : Nat) (a b c d : Option D), s = { δ := [none, none, a, b, c, d], n := n } ∧ n ≤ i * 100010 ∧ i ≤ 3) ⟨0, none, none, none, none, rfl, by (first | omega | (dsimp only; omega) | (dsimp only at *; omega)), by (first | omega | (dsimp only; omega) | (dsimp only at *; omega))⟩ ?_ ?_⟩
    · rintro i d s N hd ⟨n, a, b, c, e, rfl, hn, _⟩ hN
      obtain ⟨hi, rfl⟩ := rgD_get hd
      have hi3 : i < 3 := by simpa using hi
      refine take_ok (by (first | omega | (dsimp only; omega) | (dsimp only at *; omega))) (by decide) (by decide) fun way w0 w1 => ?_
      refine ⟨fun s => ∃ (xs : List D) (n' : Nat) (d : Option D), vd 40 (.tuple xs) ∧ (sh (.tuple xs)).length ≤ 100000 ∧ s = { δ := [none, none, some (.int (0 + (i : Nat))), some (.int way), some (.tuple xs), d], n := n' } ∧ n' ≤ n + 100010, ?_, ?_⟩
      · by_cases h4 : way = 4
        · exact ifp (decide_eq_true h4) ⟨by show n + 1 + 1000 ≤ _; (first | omega | (dsimp only; omega) | (dsimp only at *; omega)), fun xs n' v1 v2 v3 => ⟨xs, n', _, v1, v2, rfl, by have v3 : n' ≤ n + 1 + 1000 := v3; (first | omega | (dsimp only; omega) | (dsimp only at *; omega))⟩⟩
        · refine ifn (by simpa using h4) (take_ok (by (first | omega | (dsimp only; omega) | (dsimp only at *; omega))) (by decide) (by decide) fun r r0 r1 => ?_)
          have fin : ∀ dp : Int, 1 ≤ dp → dp ≤ 40 → treeF [.int dp] (n + 1 + 1) fun d k => (fun s : S => ∃ (xs : List D) (n' : Nat) (d : Option D), vd 40 (.tuple xs) ∧ (sh (.tuple xs)).length ≤ 100000 ∧ s = { δ := [none, none, some (.int (0 + (i : Nat))), some (.int way), some (.tuple xs), d], n := n' } ∧ n' ≤ n + 100010) { δ := [none, none, some (.int (0 + (i : Nat))), some (.int way), some d, e], n := k } :=
            fun dp h1 h2 => ⟨h1, h2, by (first | omega | (dsimp only; omega) | (dsimp only at *; omega)), fun xs n' v1 v2 v3 => ⟨xs, n', _, v1, v2, rfl, by have v3 : n' ≤ n + 1 + 1 + 100000 := v3; (first | omega | (dsimp only; omega) | (dsimp only at *; omega))⟩⟩
          have hr : way = 0 ∨ way = 1 ∨ way = 2 ∨ way = 3 := by (first | omega | (dsimp only; omega) | (dsimp only at *; omega))
          rcases hr with rfl | rfl | rfl | rfl
          · exact ix_ok 0 rfl rfl (fin 1 (by decide) (by decide))
          · exact ix_ok 1 rfl rfl (fin 2 (by decide) (by decide))
          · exact ix_ok 2 rfl rfl (fin 40 (by decide) (by decide))
          · exact ix_ok 3 rfl rfl (fin (3 + r) (by (first | omega | (dsimp only; omega) | (dsimp only at *; omega))) (by (first | omega | (dsimp only; omega) | (dsimp only at *; omega))))
      rintro s ⟨xs, n', d', v1, v2, rfl, v3⟩
      refine ⟨v1, Nat.le_trans v2 (by omega), ?_⟩
      refine ⟨xs, v1, rfl, ?_, rfl, vd_dat 40 v1 (Nat.le_trans v2 (by omega)), ifn (by decide) (hN _ ⟨n', _, _, _, _, rfl, by rw [Nat.succ_mul]; (first | omega | (dsimp only; omega) | (dsimp only at *; omega)), by (first | omega | (dsimp only; omega) | (dsimp only at *; omega))⟩)⟩
      rw [TL.len_tl]
      exact small_big (Nat.le_trans v2 (by omega))
    · rintro s ⟨n, a, b, c, e, rfl, hn, hi⟩
      exact ⟨n, a, b, c, e, rfl, Nat.le_trans hn (Nat.le_trans (Nat.mul_le_mul_right _ hi) (by decide))⟩
  rintro s ⟨n, a, b, c, d, rfl, hn⟩
  refine ⟨[], (fun d h => nomatch h), by decide +kernel, by decide +kernel, rfl, ⟨by decide, (fun d h => nomatch h)⟩, ?_⟩
  refine ⟨[.int 0, .int (-1)], ?_, by decide +kernel, by decide +kernel, rfl, ?_, ?_⟩
  · intro d h
    simp at h
    rcases h with rfl | rfl
    · exact vd_int (by decide)
    · exact vd_int (by decide)
  · refine ⟨by decide, fun d h => ?_⟩
    simp at h
    rcases h with rfl | rfl <;> exact True.intro
  refine ⟨[.tuple [.str (Str.ofString "a")]], ?_, by decide +kernel, by decide +kernel, rfl, ?_, rfl⟩
  · intro d h
    rw [List.mem_singleton.mp h]
    intro d h
    rw [List.mem_singleton.mp h]
    exact vd_word vd_a
  · refine ⟨by decide, fun d h => ?_⟩
    rw [List.mem_singleton.mp h]
    refine ⟨by decide, fun d h => ?_⟩
    rw [List.mem_singleton.mp h]
    exact True.intro
end
theorem law_end {l : PySem.W.OpenLaw} {w : World} {K : PySem.W.Frag} {mg : Str → Option Value} {fa : Addr} (T : Tx K mg) (hmg : mg "law" = some (.ref fa)) :
    ∃ fd : FuncData, (∀ (s : Shared) (v : Value), BindsTo s fd ⟨[v], []⟩ [("_law_script", v)]) ∧ ∀ base : Heap, K.In base → base.Ns mainGlobals mg → FnOk l.prog w K mg base CX0 91 fa fd ["_law_script"] (spLaw K) := by
  obtain ⟨f, fd, F, b, g⟩ := T.d_law
  rw [hmg] at g
  cases g
  have F' := F
  obtain ⟨oc, od, kV, doc, pm, an, cdv, ct, osl, rfl, lk, hcd⟩ := F.ex
  exact ⟨_, fun s v => .of_eq rfl, fun base _ _ => ok_law T F'⟩

theorem all_mk {w : World} {K : PySem.W.Frag} {h : Heap} {mg : Str → Option Value} {f1 f2 f3 f4 f5 f6 f7 f8 f9 f10 f11 f12 : Addr} {C0 : Addr} {fmC0_0 : Addr} {odmC0_0 anmC0_0 : Option Addr} {slmC0_0 : Array (Option Value)} {ocmC0_0 kVmC0_0 dcmC0_0 pmmC0_0 cdmC0_0 ctmC0_0 : Value} {fmC0_1 : Addr} {odmC0_1 anmC0_1 : Option Addr} {slmC0_1 : Array (Option Value)} {ocmC0_1 kVmC0_1 dcmC0_1 pmmC0_1 cdmC0_1 ctmC0_1 : Value} {fmC0_2 : Addr} {odmC0_2 anmC0_2 : Option Addr} {slmC0_2 : Array (Option Value)} {ocmC0_2 kVmC0_2 dcmC0_2 pmmC0_2 cdmC0_2 ctmC0_2 : Value} {fmC0_3 : Addr} {odmC0_3 anmC0_3 : Option Addr} {slmC0_3 : Array (Option Value)} {ocmC0_3 kVmC0_3 dcmC0_3 pmmC0_3 cdmC0_3 ctmC0_3 : Value} {fmC0_4 : Addr} {odmC0_4 anmC0_4 : Option Addr} {slmC0_4 : Array (Option Value)} {ocmC0_4 kVmC0_4 dcmC0_4 pmmC0_4 cdmC0_4 ctmC0_4 : Value} {fmC0_5 : Addr} {odmC0_5 anmC0_5 : Option Addr} {slmC0_5 : Array (Option Value)} {ocmC0_5 kVmC0_5 dcmC0_5 pmmC0_5 cdmC0_5 ctmC0_5 : Value} {fmC0_6 : Addr} {odmC0_6 anmC0_6 : Option Addr} {slmC0_6 : Array (Option Value)} {ocmC0_6 kVmC0_6 dcmC0_6 pmmC0_6 cdmC0_6 ctmC0_6 : Value} {tg0 : Tok} {tg1 : Tok} {tg2 : Tok} {tg3 : Tok} {tg4 : Tok} (X : K.In h) (G : h.Ns mainGlobals mg)
    {od1 an1 od2 an2 od3 an3 od4 an4 od5 an5 od6 an6 od7 an7 od8 an8 od9 an9 od10 an10 od11 an11 od12 an12 : Option Addr} {sl1 sl2 sl3 sl4 sl5 sl6 sl7 sl8 sl9 sl10 sl11 sl12 : Array (Option Value)} {oc1 kV1 dc1 pm1 cd1 ct1 oc2 kV2 dc2 pm2 cd2 ct2 oc3 kV3 dc3 pm3 cd3 ct3 oc4 kV4 dc4 pm4 cd4 ct4 oc5 kV5 dc5 pm5 cd5 ct5 oc6 kV6 dc6 pm6 cd6 ct6 oc7 kV7 dc7 pm7 cd7 ct7 oc8 kV8 dc8 pm8 cd8 ct8 oc9 kV9 dc9 pm9 cd9 ct9 oc10 kV10 dc10 pm10 cd10 ct10 oc11 kV11 dc11 pm11 cd11 ct11 oc12 kV12 dc12 pm12 cd12 ct12 : Value}
    (a1 : PySem.W.nsIn K mainGlobals "read" = some (some (.ref f1))) (l1 : K.lookup f1 = some ⟨oc1, od1, .func (PySem.W.fnOf "read" "read" (defArgs s_read) (defBody s_read) (defScope s_read) .none kV1 dc1 pm1 an1 cd1 ct1), sl1⟩) (c1 : PySem.W.codeIn K cd1 "read" = true) (k1 : PySem.W.keepIn K (.ref f1) = true)
    (a2 : PySem.W.nsIn K mainGlobals "_law_spread" = some (some (.ref f2))) (l2 : K.lookup f2 = some ⟨oc2, od2, .func (PySem.W.fnOf "_law_spread" "_law_spread" (defArgs s__law_spread) (defBody s__law_spread) (defScope s__law_spread) .none kV2 dc2 pm2 an2 cd2 ct2), sl2⟩) (c2 : PySem.W.codeIn K cd2 "_law_spread" = true) (k2 : PySem.W.keepIn K (.ref f2) = true)
    (a3 : PySem.W.nsIn K mainGlobals "_law_open" = some (some (.ref f3))) (l3 : K.lookup f3 = some ⟨oc3, od3, .func (PySem.W.fnOf "_law_open" "_law_open" (defArgs s__law_open) (defBody s__law_open) (defScope s__law_open) .none kV3 dc3 pm3 an3 cd3 ct3), sl3⟩) (c3 : PySem.W.codeIn K cd3 "_law_open" = true) (k3 : PySem.W.keepIn K (.ref f3) = true)
    (a4 : PySem.W.nsIn K mainGlobals "_law_take" = some (some (.ref f4))) (l4 : K.lookup f4 = some ⟨oc4, od4, .func (PySem.W.fnOf "_law_take" "_law_take" (defArgs s__law_take) (defBody s__law_take) (defScope s__law_take) .none kV4 dc4 pm4 an4 cd4 ct4), sl4⟩) (c4 : PySem.W.codeIn K cd4 "_law_take" = true) (k4 : PySem.W.keepIn K (.ref f4) = true)
    (a5 : PySem.W.nsIn K mainGlobals "_law_same" = some (some (.ref f5))) (l5 : K.lookup f5 = some ⟨oc5, od5, .func (PySem.W.fnOf "_law_same" "_law_same" (defArgs s__law_same) (defBody s__law_same) (defScope s__law_same) .none kV5 dc5 pm5 an5 cd5 ct5), sl5⟩) (c5 : PySem.W.codeIn K cd5 "_law_same" = true) (k5 : PySem.W.keepIn K (.ref f5) = true)
    (a6 : PySem.W.nsIn K mainGlobals "_law_wnumber" = some (some (.ref f6))) (l6 : K.lookup f6 = some ⟨oc6, od6, .func (PySem.W.fnOf "_law_wnumber" "_law_wnumber" (defArgs s__law_wnumber) (defBody s__law_wnumber) (defScope s__law_wnumber) .none kV6 dc6 pm6 an6 cd6 ct6), sl6⟩) (c6 : PySem.W.codeIn K cd6 "_law_wnumber" = true) (k6 : PySem.W.keepIn K (.ref f6) = true)
    (a7 : PySem.W.nsIn K mainGlobals "_law_wshow" = some (some (.ref f7))) (l7 : K.lookup f7 = some ⟨oc7, od7, .func (PySem.W.fnOf "_law_wshow" "_law_wshow" (defArgs s__law_wshow) (defBody s__law_wshow) (defScope s__law_wshow) .none kV7 dc7 pm7 an7 cd7 ct7), sl7⟩) (c7 : PySem.W.codeIn K cd7 "_law_wshow" = true) (k7 : PySem.W.keepIn K (.ref f7) = true)
    (a8 : PySem.W.nsIn K mainGlobals "_law_wword" = some (some (.ref f8))) (l8 : K.lookup f8 = some ⟨oc8, od8, .func (PySem.W.fnOf "_law_wword" "_law_wword" (defArgs s__law_wword) (defBody s__law_wword) (defScope s__law_wword) .none kV8 dc8 pm8 an8 cd8 ct8), sl8⟩) (c8 : PySem.W.codeIn K cd8 "_law_wword" = true) (k8 : PySem.W.keepIn K (.ref f8) = true)
    (a9 : PySem.W.nsIn K mainGlobals "_law_wpart" = some (some (.ref f9))) (l9 : K.lookup f9 = some ⟨oc9, od9, .func (PySem.W.fnOf "_law_wpart" "_law_wpart" (defArgs s__law_wpart) (defBody s__law_wpart) (defScope s__law_wpart) .none kV9 dc9 pm9 an9 cd9 ct9), sl9⟩) (c9 : PySem.W.codeIn K cd9 "_law_wpart" = true) (k9 : PySem.W.keepIn K (.ref f9) = true)
    (a10 : PySem.W.nsIn K mainGlobals "_law_wtree" = some (some (.ref f10))) (l10 : K.lookup f10 = some ⟨oc10, od10, .func (PySem.W.fnOf "_law_wtree" "_law_wtree" (defArgs s__law_wtree) (defBody s__law_wtree) (defScope s__law_wtree) .none kV10 dc10 pm10 an10 cd10 ct10), sl10⟩) (c10 : PySem.W.codeIn K cd10 "_law_wtree" = true) (k10 : PySem.W.keepIn K (.ref f10) = true)
    (a11 : PySem.W.nsIn K mainGlobals "_law_wwide" = some (some (.ref f11))) (l11 : K.lookup f11 = some ⟨oc11, od11, .func (PySem.W.fnOf "_law_wwide" "_law_wwide" (defArgs s__law_wwide) (defBody s__law_wwide) (defScope s__law_wwide) .none kV11 dc11 pm11 an11 cd11 ct11), sl11⟩) (c11 : PySem.W.codeIn K cd11 "_law_wwide" = true) (k11 : PySem.W.keepIn K (.ref f11) = true)
    (a12 : PySem.W.nsIn K mainGlobals "law" = some (some (.ref f12))) (l12 : K.lookup f12 = some ⟨oc12, od12, .func (PySem.W.fnOf "law" "law" (defArgs s_law) (defBody s_law) (defScope s_law) .none kV12 dc12 pm12 an12 cd12 ct12), sl12⟩) (c12 : PySem.W.codeIn K cd12 "law" = true) (k12 : PySem.W.keepIn K (.ref f12) = true)
    (z1 : PySem.W.nsIn K mainGlobals "bool" = some none)
    (z2 : PySem.W.nsIn K mainGlobals "enumerate" = some none)
    (z3 : PySem.W.nsIn K mainGlobals "int" = some none)
    (z4 : PySem.W.nsIn K mainGlobals "isinstance" = some none)
    (z5 : PySem.W.nsIn K mainGlobals "len" = some none)
    (z6 : PySem.W.nsIn K mainGlobals "list" = some none)
    (z7 : PySem.W.nsIn K mainGlobals "min" = some none)
    (z8 : PySem.W.nsIn K mainGlobals "range" = some none)
    (z9 : PySem.W.nsIn K mainGlobals "str" = some none)
    (z10 : PySem.W.nsIn K mainGlobals "tuple" = some none)
    (z11 : PySem.W.nsIn K mainGlobals "zip" = some none)
    (C0aC : PySem.W.nsIn K mainGlobals "Scribe" = some (some (.ref C0)))
    (C0pg : PySem.W.plainGet K C0 Str.empty = true)
    (C0hd : PySem.W.hasDictIn K C0 = true)
    (C0po : PySem.W.plainOver K C0 = true)
    (C0sa : PySem.W.findIn K (.ref C0) "__setattr__" = some (some (.builtin "object.__setattr__")))
    (C0mk : PySem.W.makesIn K C0 = true)
    (C0kc : PySem.W.keepIn K (.ref C0) = true)
    (C0n_signs : PySem.W.findIn K (.ref C0) "signs" = some none)
    (C0n_spot : PySem.W.findIn K (.ref C0) "spot" = some none)
    (C0n_depth : PySem.W.findIn K (.ref C0) "depth" = some none)
    (C0a0 : PySem.W.findIn K (.ref C0) "__init__" = some (some (.ref fmC0_0)))
    (C0i0 : PySem.W.isFn K (.ref fmC0_0) = true)
    (C0l0 : K.lookup fmC0_0 = some ⟨ocmC0_0, odmC0_0, .func (PySem.W.fnOf "__init__" "Scribe.__init__" (defArgs s_Scribe___init__) (defBody s_Scribe___init__) (defScope s_Scribe___init__) .none kVmC0_0 dcmC0_0 pmmC0_0 anmC0_0 cdmC0_0 ctmC0_0), slmC0_0⟩)
    (C0c0 : PySem.W.codeIn K cdmC0_0 "Scribe.__init__" = true)
    (C0k0 : PySem.W.keepIn K (.ref fmC0_0) = true)
    (C0a1 : PySem.W.findIn K (.ref C0) "sign_ahead" = some (some (.ref fmC0_1)))
    (C0i1 : PySem.W.isFn K (.ref fmC0_1) = true)
    (C0l1 : K.lookup fmC0_1 = some ⟨ocmC0_1, odmC0_1, .func (PySem.W.fnOf "sign_ahead" "Scribe.sign_ahead" (defArgs s_Scribe_sign_ahead) (defBody s_Scribe_sign_ahead) (defScope s_Scribe_sign_ahead) .none kVmC0_1 dcmC0_1 pmmC0_1 anmC0_1 cdmC0_1 ctmC0_1), slmC0_1⟩)
    (C0c1 : PySem.W.codeIn K cdmC0_1 "Scribe.sign_ahead" = true)
    (C0k1 : PySem.W.keepIn K (.ref fmC0_1) = true)
    (C0a2 : PySem.W.findIn K (.ref C0) "need_sign" = some (some (.ref fmC0_2)))
    (C0i2 : PySem.W.isFn K (.ref fmC0_2) = true)
    (C0l2 : K.lookup fmC0_2 = some ⟨ocmC0_2, odmC0_2, .func (PySem.W.fnOf "need_sign" "Scribe.need_sign" (defArgs s_Scribe_need_sign) (defBody s_Scribe_need_sign) (defScope s_Scribe_need_sign) .none kVmC0_2 dcmC0_2 pmmC0_2 anmC0_2 cdmC0_2 ctmC0_2), slmC0_2⟩)
    (C0c2 : PySem.W.codeIn K cdmC0_2 "Scribe.need_sign" = true)
    (C0k2 : PySem.W.keepIn K (.ref fmC0_2) = true)
    (C0a3 : PySem.W.findIn K (.ref C0) "run_of" = some (some (.ref fmC0_3)))
    (C0i3 : PySem.W.isFn K (.ref fmC0_3) = true)
    (C0l3 : K.lookup fmC0_3 = some ⟨ocmC0_3, odmC0_3, .func (PySem.W.fnOf "run_of" "Scribe.run_of" (defArgs s_Scribe_run_of) (defBody s_Scribe_run_of) (defScope s_Scribe_run_of) .none kVmC0_3 dcmC0_3 pmmC0_3 anmC0_3 cdmC0_3 ctmC0_3), slmC0_3⟩)
    (C0c3 : PySem.W.codeIn K cdmC0_3 "Scribe.run_of" = true)
    (C0k3 : PySem.W.keepIn K (.ref fmC0_3) = true)
    (C0a4 : PySem.W.findIn K (.ref C0) "whole_number" = some (some (.ref fmC0_4)))
    (C0i4 : PySem.W.isFn K (.ref fmC0_4) = true)
    (C0l4 : K.lookup fmC0_4 = some ⟨ocmC0_4, odmC0_4, .func (PySem.W.fnOf "whole_number" "Scribe.whole_number" (defArgs s_Scribe_whole_number) (defBody s_Scribe_whole_number) (defScope s_Scribe_whole_number) .none kVmC0_4 dcmC0_4 pmmC0_4 anmC0_4 cdmC0_4 ctmC0_4), slmC0_4⟩)
    (C0c4 : PySem.W.codeIn K cdmC0_4 "Scribe.whole_number" = true)
    (C0k4 : PySem.W.keepIn K (.ref fmC0_4) = true)
    (C0a5 : PySem.W.findIn K (.ref C0) "any_part" = some (some (.ref fmC0_5)))
    (C0i5 : PySem.W.isFn K (.ref fmC0_5) = true)
    (C0l5 : K.lookup fmC0_5 = some ⟨ocmC0_5, odmC0_5, .func (PySem.W.fnOf "any_part" "Scribe.any_part" (defArgs s_Scribe_any_part) (defBody s_Scribe_any_part) (defScope s_Scribe_any_part) .none kVmC0_5 dcmC0_5 pmmC0_5 anmC0_5 cdmC0_5 ctmC0_5), slmC0_5⟩)
    (C0c5 : PySem.W.codeIn K cdmC0_5 "Scribe.any_part" = true)
    (C0k5 : PySem.W.keepIn K (.ref fmC0_5) = true)
    (C0a6 : PySem.W.findIn K (.ref C0) "brackets" = some (some (.ref fmC0_6)))
    (C0i6 : PySem.W.isFn K (.ref fmC0_6) = true)
    (C0l6 : K.lookup fmC0_6 = some ⟨ocmC0_6, odmC0_6, .func (PySem.W.fnOf "brackets" "Scribe.brackets" (defArgs s_Scribe_brackets) (defBody s_Scribe_brackets) (defScope s_Scribe_brackets) .none kVmC0_6 dcmC0_6 pmmC0_6 anmC0_6 cdmC0_6 ctmC0_6), slmC0_6⟩)
    (C0c6 : PySem.W.codeIn K cdmC0_6 "Scribe.brackets" = true)
    (C0k6 : PySem.W.keepIn K (.ref fmC0_6) = true)
    (kglb0 : PySem.W.nsIn K mainGlobals "MOST_LETTERS" = some (some (.int 8 tg0)))
    (kglb1 : PySem.W.nsIn K mainGlobals "MOST_FIGURES" = some (some (.int 30 tg1)))
    (kglb2 : PySem.W.nsIn K mainGlobals "MOST_BRACKETS" = some (some (.int 40 tg2)))
    (kglb3 : PySem.W.nsIn K mainGlobals "SMALL" = some (some (.str "abcdefghijklmnopqrstuvwxyz" tg3)))
    (kglb4 : PySem.W.nsIn K mainGlobals "FIGURES" = some (some (.str "0123456789" tg4)))
    : Tx K mg := by
  exact ⟨
    ⟨f1, _, fun_mk (st := s_read) l1 c1 k1, (fun_mk (st := s_read) l1 c1 k1).binds (ps := ["writing"]) (fun _ _ _ _ _ _ us hl => match us, hl with | [_], _ => rfl), PySem.W.mg_of X G a1⟩,
    ⟨f2, _, fun_mk (st := s__law_spread) l2 c2 k2, (fun_mk (st := s__law_spread) l2 c2 k2).binds (ps := ["_law_cell", "_law_at"]) (fun _ _ _ _ _ _ us hl => match us, hl with | [_, _], _ => rfl), PySem.W.mg_of X G a2⟩,
    ⟨f3, _, fun_mk (st := s__law_open) l3 c3 k3, (fun_mk (st := s__law_open) l3 c3 k3).binds (ps := ["_law_script"]) (fun _ _ _ _ _ _ us hl => match us, hl with | [_], _ => rfl), PySem.W.mg_of X G a3⟩,
    ⟨f4, _, fun_mk (st := s__law_take) l4 c4 k4, (fun_mk (st := s__law_take) l4 c4 k4).binds (ps := ["_law_pen", "_law_many"]) (fun _ _ _ _ _ _ us hl => match us, hl with | [_, _], _ => rfl), PySem.W.mg_of X G a4⟩,
    ⟨f5, _, fun_mk (st := s__law_same) l5 c5 k5, (fun_mk (st := s__law_same) l5 c5 k5).binds (ps := ["_law_found", "_law_due"]) (fun _ _ _ _ _ _ us hl => match us, hl with | [_, _], _ => rfl), PySem.W.mg_of X G a5⟩,
    ⟨f6, _, fun_mk (st := s__law_wnumber) l6 c6 k6, (fun_mk (st := s__law_wnumber) l6 c6 k6).binds (ps := ["_law_pen"]) (fun _ _ _ _ _ _ us hl => match us, hl with | [_], _ => rfl), PySem.W.mg_of X G a6⟩,
    ⟨f7, _, fun_mk (st := s__law_wshow) l7 c7 k7, (fun_mk (st := s__law_wshow) l7 c7 k7).binds (ps := ["_law_thing"]) (fun _ _ _ _ _ _ us hl => match us, hl with | [_], _ => rfl), PySem.W.mg_of X G a7⟩,
    ⟨f8, _, fun_mk (st := s__law_wword) l8 c8 k8, (fun_mk (st := s__law_wword) l8 c8 k8).binds (ps := ["_law_pen"]) (fun _ _ _ _ _ _ us hl => match us, hl with | [_], _ => rfl), PySem.W.mg_of X G a8⟩,
    ⟨f9, _, fun_mk (st := s__law_wpart) l9 c9 k9, (fun_mk (st := s__law_wpart) l9 c9 k9).binds (ps := ["_law_pen", "_law_deep"]) (fun _ _ _ _ _ _ us hl => match us, hl with | [_, _], _ => rfl), PySem.W.mg_of X G a9⟩,
    ⟨f10, _, fun_mk (st := s__law_wtree) l10 c10 k10, (fun_mk (st := s__law_wtree) l10 c10 k10).binds (ps := ["_law_pen", "_law_deep"]) (fun _ _ _ _ _ _ us hl => match us, hl with | [_, _], _ => rfl), PySem.W.mg_of X G a10⟩,
    ⟨f11, _, fun_mk (st := s__law_wwide) l11 c11 k11, (fun_mk (st := s__law_wwide) l11 c11 k11).binds (ps := ["_law_pen"]) (fun _ _ _ _ _ _ us hl => match us, hl with | [_], _ => rfl), PySem.W.mg_of X G a11⟩,
    ⟨f12, _, fun_mk (st := s_law) l12 c12 k12, (fun_mk (st := s_law) l12 c12 k12).binds (ps := ["_law_script"]) (fun _ _ _ _ _ _ us hl => match us, hl with | [_], _ => rfl), PySem.W.mg_of X G a12⟩,
    PySem.W.mg_none_of X G z1,
    PySem.W.mg_none_of X G z2,
    PySem.W.mg_none_of X G z3,
    PySem.W.mg_none_of X G z4,
    PySem.W.mg_none_of X G z5,
    PySem.W.mg_none_of X G z6,
    PySem.W.mg_none_of X G z7,
    PySem.W.mg_none_of X G z8,
    PySem.W.mg_none_of X G z9,
    PySem.W.mg_none_of X G z10,
    PySem.W.mg_none_of X G z11,
    ⟨C0, ⟨⟨⟨C0pg, C0hd, C0po, C0sa⟩, PySem.W.mg_of X G C0aC, C0mk, C0kc, ⟨fmC0_0, _, fun_mk (st := s_Scribe___init__) C0l0 C0c0 C0k0, (fun_mk (st := s_Scribe___init__) C0l0 C0c0 C0k0).binds (ps := ["self", "signs"]) (fun _ _ _ _ _ _ us hl => match us, hl with | [_, _], _ => rfl), ⟨C0a0, C0i0, C0k0⟩⟩⟩, C0n_signs, C0n_spot, C0n_depth, ⟨fmC0_1, _, fun_mk (st := s_Scribe_sign_ahead) C0l1 C0c1 C0k1, (fun_mk (st := s_Scribe_sign_ahead) C0l1 C0c1 C0k1).binds (ps := ["self"]) (fun _ _ _ _ _ _ us hl => match us, hl with | [_], _ => rfl), ⟨C0a1, C0i1, C0k1⟩⟩, ⟨fmC0_2, _, fun_mk (st := s_Scribe_need_sign) C0l2 C0c2 C0k2, (fun_mk (st := s_Scribe_need_sign) C0l2 C0c2 C0k2).binds (ps := ["self", "some"]) (fun _ _ _ _ _ _ us hl => match us, hl with | [_, _], _ => rfl), ⟨C0a2, C0i2, C0k2⟩⟩, ⟨fmC0_3, _, fun_mk (st := s_Scribe_run_of) C0l3 C0c3 C0k3, (fun_mk (st := s_Scribe_run_of) C0l3 C0c3 C0k3).binds (ps := ["self", "some", "most"]) (fun _ _ _ _ _ _ us hl => match us, hl with | [_, _, _], _ => rfl), ⟨C0a3, C0i3, C0k3⟩⟩, ⟨fmC0_4, _, fun_mk (st := s_Scribe_whole_number) C0l4 C0c4 C0k4, (fun_mk (st := s_Scribe_whole_number) C0l4 C0c4 C0k4).binds (ps := ["self"]) (fun _ _ _ _ _ _ us hl => match us, hl with | [_], _ => rfl), ⟨C0a4, C0i4, C0k4⟩⟩, ⟨fmC0_5, _, fun_mk (st := s_Scribe_any_part) C0l5 C0c5 C0k5, (fun_mk (st := s_Scribe_any_part) C0l5 C0c5 C0k5).binds (ps := ["self"]) (fun _ _ _ _ _ _ us hl => match us, hl with | [_], _ => rfl), ⟨C0a5, C0i5, C0k5⟩⟩, ⟨fmC0_6, _, fun_mk (st := s_Scribe_brackets) C0l6 C0c6 C0k6, (fun_mk (st := s_Scribe_brackets) C0l6 C0c6 C0k6).binds (ps := ["self"]) (fun _ _ _ _ _ _ us hl => match us, hl with | [_], _ => rfl), ⟨C0a6, C0i6, C0k6⟩⟩⟩⟩,
    ⟨_, PySem.W.mg_of X G kglb0, ⟨_, rfl⟩⟩,
    ⟨_, PySem.W.mg_of X G kglb1, ⟨_, rfl⟩⟩,
    ⟨_, PySem.W.mg_of X G kglb2, ⟨_, rfl⟩⟩,
    ⟨_, PySem.W.mg_of X G kglb3, ⟨_, rfl⟩⟩,
    ⟨_, PySem.W.mg_of X G kglb4, ⟨_, rfl⟩⟩⟩
end LW
open PySem PySem.W PyProof.Rows
set_option maxRecDepth 100000 in
set_option maxHeartbeats 0 in
theorem PySem.Challenge.cw_leapwork_k48_writings_read_holds : PySem.Challenge.rw_leapwork_k48_writings_read.Holds := by
  w_on; o_law; k_head; (case hw => w_witness2)
  k_fill
  refine L2.walk_of (l := PySem.Challenge.rw_leapwork_k48_writings_read) (n := 63) (k := 91) (x := "_law_script") (CX := fun _ => L2.CX0) (sp := fun w => LW.spLaw _) rfl (by decide) rfl ⟨rfl, by decide, by decide⟩ (fun w h Y => PySem.W.kIn_of Y) ?F (fun _ _ a ns hl _ hS => ⟨a, ns, rfl, hS, hl, fun _ => rfl⟩) (fun _ _ _ _ _ h => h)
  case F =>
    intro w mg fa h KX G hmg
    refine' LW.law_end (LW.all_mk (w := w) KX G ?a1 ?l1 ?c1 ?k1 ?a2 ?l2 ?c2 ?k2 ?a3 ?l3 ?c3 ?k3 ?a4 ?l4 ?c4 ?k4 ?a5 ?l5 ?c5 ?k5 ?a6 ?l6 ?c6 ?k6 ?a7 ?l7 ?c7 ?k7 ?a8 ?l8 ?c8 ?k8 ?a9 ?l9 ?c9 ?k9 ?a10 ?l10 ?c10 ?k10 ?a11 ?l11 ?c11 ?k11 ?a12 ?l12 ?c12 ?k12 ?z1 ?z2 ?z3 ?z4 ?z5 ?z6 ?z7 ?z8 ?z9 ?z10 ?z11 ?C0aC ?C0pg ?C0hd ?C0po ?C0sa ?C0mk ?C0kc ?C0n_signs ?C0n_spot ?C0n_depth ?C0a0 ?C0i0 ?C0l0 ?C0c0 ?C0k0 ?C0a1 ?C0i1 ?C0l1 ?C0c1 ?C0k1 ?C0a2 ?C0i2 ?C0l2 ?C0c2 ?C0k2 ?C0a3 ?C0i3 ?C0l3 ?C0c3 ?C0k3 ?C0a4 ?C0i4 ?C0l4 ?C0c4 ?C0k4 ?C0a5 ?C0i5 ?C0l5 ?C0c5 ?C0k5 ?C0a6 ?C0i6 ?C0l6 ?C0c6 ?C0k6 ?kglb0 ?kglb1 ?kglb2 ?kglb3 ?kglb4) hmg
    (case a1 => k_is); (case l1 => k_is); (case c1 => k_is); (case k1 => k_is)
    (case a2 => k_is); (case l2 => k_is); (case c2 => k_is); (case k2 => k_is)
    (case a3 => k_is); (case l3 => k_is); (case c3 => k_is); (case k3 => k_is)
    (case a4 => k_is); (case l4 => k_is); (case c4 => k_is); (case k4 => k_is)
    (case a5 => k_is); (case l5 => k_is); (case c5 => k_is); (case k5 => k_is)
    (case a6 => k_is); (case l6 => k_is); (case c6 => k_is); (case k6 => k_is)
    (case a7 => k_is); (case l7 => k_is); (case c7 => k_is); (case k7 => k_is)
    (case a8 => k_is); (case l8 => k_is); (case c8 => k_is); (case k8 => k_is)
    (case a9 => k_is); (case l9 => k_is); (case c9 => k_is); (case k9 => k_is)
    (case a10 => k_is); (case l10 => k_is); (case c10 => k_is); (case k10 => k_is)
    (case a11 => k_is); (case l11 => k_is); (case c11 => k_is); (case k11 => k_is)
    (case a12 => k_is); (case l12 => k_is); (case c12 => k_is); (case k12 => k_is)
    (case z1 => k_is)
    (case z2 => k_is)
    (case z3 => k_is)
    (case z4 => k_is)
    (case z5 => k_is)
    (case z6 => k_is)
    (case z7 => k_is)
    (case z8 => k_is)
    (case z9 => k_is)
    (case z10 => k_is)
    (case z11 => k_is)
    (case C0aC => k_is)
    (case C0pg => k_is)
    (case C0hd => k_is)
    (case C0po => k_is)
    (case C0sa => k_is)
    (case C0mk => k_is)
    (case C0kc => k_is)
    (case C0n_signs => k_is)
    (case C0n_spot => k_is)
    (case C0n_depth => k_is)
    (case C0a0 => k_is)
    (case C0i0 => k_is)
    (case C0l0 => k_is)
    (case C0c0 => k_is)
    (case C0k0 => k_is)
    (case C0a1 => k_is)
    (case C0i1 => k_is)
    (case C0l1 => k_is)
    (case C0c1 => k_is)
    (case C0k1 => k_is)
    (case C0a2 => k_is)
    (case C0i2 => k_is)
    (case C0l2 => k_is)
    (case C0c2 => k_is)
    (case C0k2 => k_is)
    (case C0a3 => k_is)
    (case C0i3 => k_is)
    (case C0l3 => k_is)
    (case C0c3 => k_is)
    (case C0k3 => k_is)
    (case C0a4 => k_is)
    (case C0i4 => k_is)
    (case C0l4 => k_is)
    (case C0c4 => k_is)
    (case C0k4 => k_is)
    (case C0a5 => k_is)
    (case C0i5 => k_is)
    (case C0l5 => k_is)
    (case C0c5 => k_is)
    (case C0k5 => k_is)
    (case C0a6 => k_is)
    (case C0i6 => k_is)
    (case C0l6 => k_is)
    (case C0c6 => k_is)
    (case C0k6 => k_is)
    (case kglb0 => k_is)
    (case kglb1 => k_is)
    (case kglb2 => k_is)
    (case kglb3 => k_is)
    (case kglb4 => k_is)
#print axioms PySem.Challenge.cw_leapwork_k48_writings_read_holds
