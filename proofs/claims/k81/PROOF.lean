import PyProof.Rows.All
import Wide.All
import OpenK.AllK
import Wide.FinOn
import HandS.ForMost
import HandS.IsInst
import HandS.Conv
import HandS.Style
import HandS.Wide
import HandS.Walk
import HandS.Zip
import PySem.Challenge.RW_leapwork_k81_numbers_dealt
set_option Elab.async false
set_option linter.all false
set_option maxRecDepth 100000
set_option maxHeartbeats 4000000
namespace K81
/-- what a holder has whose next figure comes behind r others, of m holders -/
def E (m r n : Nat) : Nat :=
  if h : n = 0 then 0 else
    match r with
    | 0 => n % 2 + 2 * E m (m - 1) (n / 2)
    | r + 1 => E m r (n / 2)
termination_by n
decreasing_by all_goals omega
theorem E_nil (m r : Nat) : E m r 0 = 0 := by unfold E; rfl
theorem E_0 (m n : Nat) : E m 0 n = n % 2 + 2 * E m (m - 1) (n / 2) := by
  by_cases h : n = 0
  · subst h; rw [E_nil]; show 0 = 0 % 2 + 2 * E m (m - 1) (0 / 2); rw [Nat.zero_div, E_nil]
  · rw [E]; rw [dif_neg h]
theorem E_s (m r n : Nat) : E m (r + 1) n = E m r (n / 2) := by
  by_cases h : n = 0
  · subst h; rw [E_nil, Nat.zero_div, E_nil]
  · rw [E]; rw [dif_neg h]
theorem E_add (m r j : Nat) : ∀ n, E m (r + j) n = E m r (n / 2 ^ j) := by
  induction j with
  | zero => intro n; simp
  | succ j ih => intro n; rw [← Nat.add_assoc, E_s, ih, Nat.div_div_eq_div_mul, Nat.pow_succ, Nat.mul_comm]
theorem E_round {m h : Nat} (hm : h < m) (k : Nat) : E m h k = k / 2 ^ h % 2 + 2 * E m h (k / 2 ^ m) := by
  have h1 := E_add m 0 h k
  rw [Nat.zero_add] at h1
  rw [h1, E_0]
  have e : m - 1 = h + (m - 1 - h) := by omega
  have h2 : E m (m - 1) (k / 2 ^ h / 2) = E m h (k / 2 ^ h / 2 / 2 ^ (m - 1 - h)) := by
    conv => lhs; rw [e]
    exact E_add m h (m - 1 - h) _
  rw [h2, Nat.div_div_eq_div_mul, Nat.div_div_eq_div_mul]
  have e3 : 2 ^ h * 2 * 2 ^ (m - 1 - h) = 2 ^ m := by
    rw [← Nat.pow_succ, ← Nat.pow_add]
    congr 1
    omega
  rw [Nat.mul_assoc] at e3
  rw [← Nat.mul_assoc] at *
  rw [show 2 ^ h * 2 * 2 ^ (m - 1 - h) = 2 ^ m by rw [← Nat.pow_succ, ← Nat.pow_add]; congr 1; omega]
def bits (n : Nat) : List Nat := if h : n = 0 then [] else n % 2 :: bits (n / 2)
termination_by n
decreasing_by omega
theorem bits_0 : bits 0 = [] := by unfold bits; rfl
theorem bits_s {n : Nat} (h : n ≠ 0) : bits n = n % 2 :: bits (n / 2) := by rw [bits]; rw [dif_neg h]
def g (m h : Nat) : Nat → List Nat → Nat
  | _, [] => 0
  | i, b :: bs => if i % m = h then b + 2 * g m h (i + 1) bs else g m h (i + 1) bs
theorem g_bits (m h : Nat) (hm : h < m) (n : Nat) : ∀ i r, r < m → (i + r) % m = h → g m h i (bits n) = E m r n := by
  induction n using Nat.strongRecOn with
  | ind n ih =>
    intro i r hr e
    by_cases h0 : n = 0
    · subst h0; rw [bits_0, E_nil]; rfl
    · rw [bits_s h0]
      show (if i % m = h then n % 2 + 2 * g m h (i + 1) (bits (n / 2)) else g m h (i + 1) (bits (n / 2))) = _
      cases r with
      | zero =>
        rw [if_pos (by simpa using e), E_0, ih (n / 2) (by omega) (i + 1) (m - 1) (by omega) ?_]
        rw [show i + 1 + (m - 1) = i + m by omega, Nat.add_mod_right]
        simpa using e
      | succ r =>
        have hne : i % m ≠ h := by
          intro z
          have h1 : (i + (r + 1)) % m = (i % m + (r + 1)) % m := by rw [Nat.add_mod, Nat.mod_eq_of_lt hr]
          rw [e, z] at h1
          by_cases h2 : h + (r + 1) < m
          · rw [Nat.mod_eq_of_lt h2] at h1; omega
          · rw [Nat.mod_eq_sub_mod (by omega), Nat.mod_eq_of_lt (by omega)] at h1; omega
        rw [if_neg hne, E_s, ih (n / 2) (by omega) (i + 1) r (by omega) ?_]
        rw [← e]; congr 1; omega
theorem g_is {m h : Nat} (hm : h < m) (n : Nat) : g m h 0 (bits n) = E m h n := g_bits m h hm n 0 h hm (by rw [Nat.zero_add]; exact Nat.mod_eq_of_lt hm)
theorem bits_len (j : Nat) : ∀ n, n < 2 ^ j → (bits n).length ≤ j := by
  induction j with
  | zero => intro n h; have : n = 0 := by simpa using h
            subst this; rw [bits_0]; exact Nat.le_refl _
  | succ j ih =>
    intro n h
    by_cases h0 : n = 0
    · subst h0; rw [bits_0]; exact Nat.zero_le _
    · rw [bits_s h0, List.length_cons]
      have := ih (n / 2) (by rw [Nat.pow_succ] at h; omega)
      omega
theorem bits_le1 (n : Nat) : ∀ b ∈ bits n, b ≤ 1 := by
  induction n using Nat.strongRecOn with
  | ind n ih =>
    intro b hb
    by_cases h0 : n = 0
    · subst h0; rw [bits_0] at hb; cases hb
    · rw [bits_s h0] at hb
      rcases List.mem_cons.mp hb with e | e
      · omega
      · exact ih (n / 2) (by omega) b e
/-- what the program's inner loop has at a -/
def mid (F : Nat → Nat) (k w a : Nat) (i : Nat) : Nat := if i < a then F i + k / 2 ^ i % 2 * w else F i
theorem E_le (m : Nat) (n : Nat) : ∀ r, E m r n ≤ n := by
  induction n using Nat.strongRecOn with
  | ind n ih =>
    intro r
    by_cases h0 : n = 0
    · subst h0; rw [E_nil]; exact Nat.le_refl _
    · cases r with
      | zero => rw [E_0]; have := ih (n / 2) (by omega) (m - 1); omega
      | succ r => rw [E_s]; have := ih (n / 2) (by omega) r; omega
theorem range_set (m a : Nat) (f : Nat → Nat) (v : Nat) : ((List.range m).map f).set a v = (List.range m).map fun i => if i = a then v else f i := by
  apply List.ext_getElem?
  intro i
  rw [List.getElem?_set, List.getElem?_map, List.getElem?_map, List.length_map, List.length_range]
  by_cases hi : i < m
  · rw [List.getElem?_range hi]
    by_cases e : a = i
    · subst e; simp [hi]
    · rw [if_neg e]; simp [Ne.symm e]
  · rw [List.getElem?_eq_none (by simpa using hi)]
    by_cases e : a = i
    · subst e; simp [hi]
    · rw [if_neg e]; rfl
end K81

namespace LW
open PySem PySem.Spec PyProof.Rows L2 RZ
/-! ### shared words: a def of the text, its promise, calls -/
/-- a def of the text as it stands behind the top -/
def Df (K : PySem.W.Frag) (mg : Str → Option Value) (x : Str) (st : Stmt) (ps : List Str) : Prop :=
  ∃ (f : Addr) (fd : FuncData), Fun K x x st f fd ∧ Binds K fd ps [] ∧ mg x = some (.ref f)
/-- a def that keeps a promise -/
def Ok (P : Program) (w : World) (K : PySem.W.Frag) (mg : Str → Option Value) (base : Heap) (k : Nat) (x : Str) (ps : List Str) (sp : Sp) : Prop :=
  ∃ (f : Addr) (fd : FuncData), mg x = some (.ref f) ∧ PySem.W.keepIn K (.ref f) = true ∧ Binds K fd ps [] ∧ FnOk P w K mg base CX0 k f fd ps sp
section
variable {P : Program} {w : World} {K : PySem.W.Frag} {mg : Str → Option Value} {base : Heap}
theorem Ok.mk {x : Str} {st : Stmt} {N ps : List Str} {k : Nat} {sp : Sp} (D : Df K mg x st ps) (S : FnScope N ps (defScope st)) (len : ∀ vs H Q E, sp vs H Q E → vs.length = ps.length)
    (hbody : ∀ (f : Addr) (cdv : Value) (A : Around) (outer : List Env) (s : Shared) (H : Hp) (vs : List V) (Q : VK) (E : XK), Room k (A.deeper (envOfC x (defScope st) s.heap.objs.size f cdv)) → sp vs H Q E →
      ∃ t, PSs (cxOf CX0 P w K mg base N x (defScope st) f cdv A outer s H E).nox (defBody st) t ∧ t { nx := fun _ H' => Q .non H', rt := Q } (start N vs) H) : Ok P w K mg base (k + 1) x ps sp := by
  obtain ⟨f, fd, F, b, g⟩ := D
  exact ⟨f, fd, g, F.kp, b, F.ok S len fun cdv A outer s H vs Q E hr h => hbody f cdv A outer s H vs Q E hr h⟩
theorem Ok.mono {x : Str} {ps : List Str} {j k : Nat} {sp : Sp} (h : Ok P w K mg base j x ps sp) (l : j ≤ k) : Ok P w K mg base k x ps sp := by
  obtain ⟨f, fd, hm, hk, hb, F⟩ := h
  exact ⟨f, fd, hm, hk, hb, F.mono l⟩
theorem Ok.imp {x : Str} {ps : List Str} {k : Nat} {sp sp' : Sp} (h : Ok P w K mg base k x ps sp) (q : ∀ vs H Q E, sp' vs H Q E → sp vs H Q E) : Ok P w K mg base k x ps sp' := by
  obtain ⟨f, fd, hm, hk, hb, F⟩ := h
  exact ⟨f, fd, hm, hk, hb, F.imp q⟩
end
section
variable {X : Cx}
theorem pe_fn {k : Nat} {x : Str} {ps : List Str} {sp : Sp} {e : Expr} {es : List Expr} {t : TA} {p pos : Pos} (O : Ok X.prog X.w X.K X.mg X.base k x ps sp) (hr : Room k X.A) (hg : Gl X x) (ha : PA X (e :: es) t)
    (hdb : (x == ("__debug__" : Str)) = false := by decide) (he : starEach (e :: es) X.env = (false, eval e X.env) :: starEach es X.env := by rfl) (hpl : (backTo pos (starEach es X.env)).any (·.1) = false := by rfl) :
    PE X (.Call (.Name x p) (e :: es) [] pos) (tCall sp [] E0 t) := by
  obtain ⟨f, fd, hm, hk, hb, F⟩ := O
  exact pe_call F hr hg hm hk hb .nil pass0 ha hdb he hpl
theorem pe_fn0 {k : Nat} {x : Str} {ps : List Str} {sp : Sp} {p pos : Pos} (O : Ok X.prog X.w X.K X.mg X.base k x ps sp) (hr : Room k X.A) (hg : Gl X x) (hdb : (x == ("__debug__" : Str)) = false := by decide) :
    PE X (.Call (.Name x p) [] [] pos) (tCall sp [] E0 tNil) := by
  obtain ⟨f, fd, hm, hk, hb, F⟩ := O
  exact pe_call0 F hr hg hm hk hb .nil pass0 hdb
/-- a name that is a local -/
theorem pg_nameL {i : Nat} {x : Str} {pos : Pos} (hN : X.N.Nodup) (hi : X.N[i]? = some x) (hx : X.env.scope.names.lookup x = some .local) : PG X (.Name x pos) (gName i) := pg_name hN hi (.inl hx) (.inr hx)
/-- xs[i], for xs[i] op= e -/
theorem get_list : PGet X (rIxL X.K) := by
  intro pins s σ H x y v u Q I rx ry h
  obtain ⟨p, xs, i, z, rfl, rfl, hq, he, q⟩ := h
  cases rx
  obtain ⟨t, rfl⟩ := ry
  obtain ⟨its, r, pl, hz⟩ := I.list hq
  obtain ⟨j, h1, h2, h3, h4, h5⟩ := atI_get he
  obtain ⟨w, ew, rw'⟩ := r.get h2
  have hl := r.length
  have hn := line63
  have fin : EP X pins σ Q w s := ⟨z, H, I, rw', q⟩
  by_cases h0 : 0 ≤ i
  · have hj : i.toNat = j := by
      rw [seqIndex_of h0 h5] at h1
      exact Option.some.inj h1
    exact wpAny_getItem_list pl.isList h0 (by omega) (by rw [hj]; simpa using ew) fin
  · have hj : (i + (its.toArray.size : Int)).toNat = j := by
      rw [seqIndex_neg (by omega) h4] at h1
      rw [List.size_toArray, ← hl]
      exact Option.some.inj h1
    exact wpAny_getItem_list_neg pl.isList (by omega) (by rw [List.size_toArray] <;> omega) (by omega) (by rw [hj]; simpa using ew) fin
end
/-! ### heaps -/
theorem same_upd {H : Hp} {p : Addr} {o : HO} (h : H p = none) : Same H (upd H p o) := fun b x e => by
  rw [upd_ne (ne_of_none e h)]
  exact e
/-- all but p is as it was -/
def But (p : Addr) (H H' : Hp) : Prop := ∀ b o, b ≠ p → H b = some o → H' b = some o
theorem But.refl (p : Addr) (H : Hp) : But p H H := fun _ _ _ h => h
theorem But.of {p : Addr} {H H' : Hp} (h : Same H H') : But p H H' := fun b o _ e => h b o e
theorem But.trans {p : Addr} {H H1 H2 : Hp} (a : But p H H1) (b : But p H1 H2) : But p H H2 := fun c o n h => b c o n (a c o n h)
theorem But.upd {p : Addr} {H : Hp} {o : HO} : But p H (upd H p o) := fun b x n e => by rw [upd_ne n]; exact e
theorem But.new {p q : Addr} {H : Hp} {o : HO} (h : H q = none) : But p H (L2.upd H q o) := But.of (same_upd h)
theorem But.free {p : Addr} {H H' : Hp} (e : But p H H') {l : Addr} (n : l ≠ p) (h : H' l = none) : H l = none := by
  cases q : H l with
  | none => rfl
  | some o => rw [e l o n q] at h; cases h
/-! ### the pen: [cells, at, rest] -/
/-- a pen at p, its cells at c, of which at most n were taken -/
structure Pen (H : Hp) (p c : Addr) (n : Nat) : Prop where
  pen : ∃ (at_ rest : Int), H p = some (.lst [.ref c, .int at_, .int rest]) ∧ 0 ≤ at_ ∧ at_ ≤ (n : Int) ∧ 0 ≤ rest
  cells : ∃ ns : List Int, H c = some (.lst (ns.map V.int))
  ne : c ≠ p
theorem Pen.but {H H' : Hp} {p c q : Addr} {n : Nat} (h : Pen H p c n) (b : But q H H') (n1 : p ≠ q) (n2 : c ≠ q) : Pen H' p c n := by
  obtain ⟨⟨a, r, e, z⟩, ⟨ns, e2⟩, ne⟩ := h
  exact ⟨⟨a, r, b _ _ n1 e, z⟩, ⟨ns, b _ _ n2 e2⟩, ne⟩
theorem Pen.same {H H' : Hp} {p c : Addr} {n : Nat} (h : Pen H p c n) (b : Same H H') : Pen H' p c n := by
  obtain ⟨⟨a, r, e, z⟩, ⟨ns, e2⟩, ne⟩ := h
  exact ⟨⟨a, r, b _ _ e, z⟩, ⟨ns, b _ _ e2⟩, ne⟩
theorem Pen.mono {H : Hp} {p c : Addr} {n m : Nat} (h : Pen H p c n) (l : n ≤ m) : Pen H p c m := by
  obtain ⟨⟨a, r, e, z1, z2, z3⟩, ns, ne⟩ := h
  exact ⟨⟨a, r, e, z1, by omega, z3⟩, ns, ne⟩
theorem Pen.new {H : Hp} {p c q : Addr} {n : Nat} (h : Pen H p c n) (e : H q = none) : p ≠ q ∧ c ≠ q := by
  obtain ⟨⟨a, r, e1, _⟩, ⟨ns, e2⟩, ne⟩ := h
  exact ⟨ne_of_none e1 e, ne_of_none e2 e⟩
theorem Pen.free {H : Hp} {p c q : Addr} {n : Nat} (h : Pen H p c n) (e : H q = none) : q ≠ p ∧ q ≠ c := ⟨(h.new e).1.symm, (h.new e).2.symm⟩
/-- the law's script -/
def spLaw (K : PySem.W.Frag) : Sp := fun vs H Q _ => ∃ (a : Addr) (ns : List Int), vs = [.ref a] ∧ SqL K H a (ns.map V.int) ∧ ns.length ≤ 63 ∧ ∀ H', Q (.bl true) H'
def spSpread : Sp := fun vs H Q _ => ∃ c a : Int, vs = [.int c, .int a] ∧ 0 ≤ a ∧ a ≤ 1000000000 ∧ ∀ (r : Int) (H' : Hp), 0 ≤ r → Same H H' → Q (.int r) H'
def spOpen (K : PySem.W.Frag) : Sp := fun vs H Q _ => ∃ (a : Addr) (ns : List Int), vs = [.ref a] ∧ SqL K H a (ns.map V.int) ∧ ns.length ≤ 63 ∧ ∀ p c H', Same H H' → H p = none → H c = none → Pen H' p c 0 → Q (.ref p) H'
def spTake : Sp := fun vs H Q _ => ∃ (p c : Addr) (n : Nat) (m : Int), vs = [.ref p, .int m] ∧ Pen H p c n ∧ n ≤ 1000000000 ∧ 0 < m ∧ m.natAbs < 2 ^ 9000 ∧
  ∀ (r : Int) (H' : Hp), 0 ≤ r → r < m → But p H H' → Pen H' p c (n + 1) → Q (.int r) H'
theorem cut_take (xs : List V) (b : Nat) : cutV xs none (some (b : Int)) = xs.take b := by
  unfold cutV
  rw [HT.sIx_none, HT.sIx_nat, List.drop_zero, Nat.sub_zero]
  rcases Nat.le_total b xs.length with h | h
  · rw [Nat.min_eq_left h]
  · rw [Nat.min_eq_right h, List.take_of_length_le (Nat.le_refl _), List.take_of_length_le h]
theorem cut_drop (xs : List V) (a b : Nat) (h : a ≤ b) : cutV xs (some (a : Int)) (some (b : Int)) = (xs.take b).drop a := by
  unfold cutV
  rw [HT.sIx_nat, HT.sIx_nat]
  apply List.ext_getElem?
  intro i
  rw [List.getElem?_take, List.getElem?_drop, List.getElem?_drop, List.getElem?_take]
  by_cases h1 : a ≤ xs.length
  · rw [Nat.min_eq_left h1]
    by_cases h2 : b ≤ xs.length
    · rw [Nat.min_eq_left h2]
      by_cases h3 : i < b - a
      · rw [if_pos h3, if_pos (by omega)]
      · rw [if_neg h3, if_neg (by omega)]
    · rw [Nat.min_eq_right (by omega)]
      by_cases h3 : a + i < xs.length
      · rw [if_pos (by omega), if_pos (by omega)]
      · rw [List.getElem?_eq_none (by omega)]
        simp
  · rw [Nat.min_eq_right (by omega), List.getElem?_eq_none (by omega), List.getElem?_eq_none (show xs.length ≤ a + i by omega)]
    simp
theorem atI_of {α : Type} {xs : List α} {i : Int} {v : α} (j : Nat) (e : i = (j : Int)) (h : xs[j]? = some v) : atI xs i = some v := by subst e; exact atI_nat h
theorem ixN_of {n : Nat} {i : Int} (j : Nat) (e : i = (j : Int)) (h : j < n) : ixN n i = some j := by
  subst e
  unfold ixN
  rw [if_pos (by omega), if_pos (by omega)]
  simp

/-! ### data: values as trees -/
/-- less than n deep, no list too long -/
def fit : Nat → PyData → Prop
  | 0, _ => False
  | n + 1, .list xs => xs.length < sizeLine ∧ ∀ x ∈ xs, fit n x
  | n + 1, .tuple xs => xs.length < sizeLine ∧ ∀ x ∈ xs, fit n x
  | _ + 1, _ => True
theorem fit_mono : ∀ {n m : Nat} {d : PyData}, fit n d → n ≤ m → fit m d
  | 0, _, _, h, _ => False.elim h
  | n + 1, 0, _, _, l => absurd l (by omega)
  | n + 1, m + 1, .list xs, h, l => ⟨h.1, fun x hx => fit_mono (h.2 x hx) (by omega)⟩
  | n + 1, m + 1, .tuple xs, h, l => ⟨h.1, fun x hx => fit_mono (h.2 x hx) (by omega)⟩
  | n + 1, m + 1, .none, _, _ => True.intro
  | n + 1, m + 1, .bool _, _, _ => True.intro
  | n + 1, m + 1, .int _, _, _ => True.intro
  | n + 1, m + 1, .str _, _, _ => True.intro
  | n + 1, m + 1, .dict _, _, _ => True.intro
theorem ifn {c A B : Prop} [Decidable c] (h : ¬ c) (b : B) : if c then A else B := by rw [if_neg h]; exact b
theorem ifp {c A B : Prop} [Decidable c] (h : c) (a : A) : if c then A else B := by rw [if_pos h]; exact a
theorem yes {σ : L2.St} {H : Hp} {Q : Bool → Hp → Prop} (h : Q true H) : tYes σ H Q := h
inductive Cl where | bool | int | str | tuple | list | dict
def Cl.name : Cl → String
  | .bool => "bool" | .int => "int" | .str => "str" | .tuple => "tuple" | .list => "list" | .dict => "dict"
/-- isinstance of data -/
def isB : Cl → PyData → Bool
  | .bool, .bool _ => true
  | .int, .bool _ => true
  | .int, .int _ => true
  | .str, .str _ => true
  | .tuple, .tuple _ => true
  | .list, .list _ => true
  | .dict, .dict _ => true
  | _, _ => false
def tyD : PyData → String
  | .none => "NoneType" | .bool _ => "bool" | .int _ => "int" | .str _ => "str" | .list _ => "list" | .tuple _ => "tuple" | .dict _ => "dict"
theorem kitB_nn (c : Cl) (d : PyData) : kitB (tyD d) c.name = some (isB c d) := by
  cases c <;> cases d <;> (simp only [tyD, Cl.name, isB]; decide +kernel)
section
variable {K : PySem.W.Frag} {H H' : Hp}
theorem tyX_list {a : Addr} {xs : List V} (h : SqL K H a xs) : TyX K H (.ref a) (.type "list") := by
  rcases h with (h | ⟨o, h⟩) | ⟨o, its, n, h, c, _⟩
  · exact .base (.lst h)
  · exact .base (.frz h)
  · exact .kList h c
theorem tyX_tup {a : Addr} {xs : List V} (h : SqT K H a xs) : TyX K H (.ref a) (.type "tuple") := by
  rcases h with (h | ⟨o, h⟩) | ⟨o, its, n, h, c, _⟩
  · exact .base (.tup h)
  · exact .fTuple h
  · exact .kTuple h c
theorem tyX_of {x : V} {d : PyData} (h : Dp K H x d) : TyX K H x (.type (tyD d)) := by
  cases h with
  | non => exact .base .non
  | bl b => exact .base (.bl b)
  | int i => exact .base (.int i)
  | str z => exact .base (.str z)
  | lst q _ => exact tyX_list q
  | tup q _ => exact tyX_tup q
/-- isinstance(x, T) of data -/
def rIsiD (K : PySem.W.Frag) : List V → Hp → VK → Prop := fun xs H Q => ∃ (c : Cl) (x : V) (d : PyData), xs = [x, .ty c.name] ∧ Dp K H x d ∧ Q (.bl (isB c d)) H
theorem call_isiD {X : Cx} : CallR X (.builtin "isinstance") (rIsiD X.K) := by
  intro pins s σ H xs us Q I r h
  obtain ⟨c, x, d, rfl, hd, q⟩ := h
  exact call_isi pins s σ H _ us Q I r ⟨x, _, _, _, _, rfl, .ty _, tyX_of hd, kit_ty (kitB_nn c d), q⟩
theorem Same.sqT {a : Addr} {xs : List V} (e : Same H H') (h : SqT K H a xs) : SqT K H' a xs := by
  rcases h with (h | ⟨o, h⟩) | h
  · exact .inl (.inl (e _ _ h))
  · exact .inl (.inr ⟨o, e _ _ h⟩)
  · exact .inr h
mutual
theorem Dp_same (e : Same H H') : ∀ {x : V} {d : PyData}, Dp K H x d → Dp K H' x d
  | _, _, .non => .non
  | _, _, .bl b => .bl b
  | _, _, .int i => .int i
  | _, _, .str z => .str z
  | _, _, .lst q a => .lst (e.seq q) (DpAll_same e a)
  | _, _, .tup q a => .tup (Same.sqT e q) (DpAll_same e a)
theorem DpAll_same (e : Same H H') : ∀ {xs : List V} {ds : List PyData}, DpAll K H xs ds → DpAll K H' xs ds
  | _, _, .nil => .nil
  | _, _, .cons a b => .cons (Dp_same e a) (DpAll_same e b)
end
theorem DpAll_len : ∀ {xs : List V} {ds : List PyData}, DpAll K H xs ds → xs.length = ds.length
  | _, _, .nil => rfl
  | _, _, .cons _ b => by rw [List.length_cons, List.length_cons, DpAll_len b]
theorem DpAll_get : ∀ {xs : List V} {ds : List PyData} {i : Nat} {x : V}, DpAll K H xs ds → xs[i]? = some x → ∃ d, ds[i]? = some d ∧ Dp K H x d
  | _, _, 0, _, .cons a _, e => by
    cases e
    exact ⟨_, rfl, a⟩
  | _, _, i + 1, x, .cons _ b, e => DpAll_get (i := i) b e
theorem DpAll_ints : ∀ ns : List Int, DpAll K H (ns.map V.int) (ns.map PyData.int)
  | [] => .nil
  | n :: ns => .cons (.int n) (DpAll_ints ns)
theorem walk_zipT {a b : Addr} {xs ys : List V} {n : Nat} (hn : n = min xs.length ys.length) : Walk (ItzT K a b) n (fun H => SqT K H a xs ∧ SqT K H b ys) (YPair (fun i => xs[i]?) (fun i => ys[i]?)) := by
  subst hn
  refine ⟨fun i _ hi q => ?_, fun _ q => ⟨xs, ys, q.1, q.2, by omega⟩, fun i H v H' _ q y => ?_⟩
  · have h1 : i < xs.length := by omega
    have h2 : i < ys.length := by omega
    exact ⟨xs, ys, xs[i], ys[i], q.1, q.2, by simp [h1], by simp [h2]⟩
  · obtain ⟨T, x, z, h1, h2, h3, h4, h5⟩ := y
    exact ⟨T, x, z, h1, h2, h3, h4 xs q.1, h5 ys q.2⟩
theorem inV_trues (n : Nat) : inV (.bl false) (List.replicate n (V.bl true)) = false := by
  unfold inV
  rw [List.any_eq_false]
  intro x hx
  rw [List.eq_of_mem_replicate hx]
  decide
theorem flat_trues (n : Nat) : (List.replicate n (V.bl true)).all flatV = true := by
  rw [List.all_eq_true]
  intro x hx
  rw [List.eq_of_mem_replicate hx]
  rfl
end
/-- _law_same: equal data are alike -/
def spSame (K : PySem.W.Frag) (n : Nat) : Sp := fun vs H Q _ => ∃ (x y : V) (d : PyData), vs = [x, y] ∧ Dp K H x d ∧ Dp K H y d ∧ fit n d ∧ ∀ H', Same H H' → Q (.bl true) H'

/-! ### rules with the written part told (for comprehensions' blocks) -/
section
variable {X : Cx} (K : PySem.W.Frag) (eK : X.K = K)
include eK
theorem ixL : IxR X (rIxL K) := eK ▸ ix_list
theorem ixT : IxR X (rIxT K) := eK ▸ ix_tup
theorem inQ : OpR X (compareOp .In) (rIn K false) := eK ▸ op_in_seq
theorem ninQ : OpR X (compareOp .NotIn) (rIn K true) := eK ▸ op_notIn_seq
def rLenQ (K : PySem.W.Frag) : List V → Hp → VK → Prop := fun xs H Q => ∃ p ys, xs = [.ref p] ∧ (SqL K H p ys ∨ SqT K H p ys) ∧ Q (.int ys.length) H
theorem lenQ : CallR X (.builtin "len") (rLenQ K) := by subst eK; exact call_len_seq
def rListQ (K : PySem.W.Frag) : List V → Hp → VK → Prop := fun xs H Q => ∃ p ys, xs = [.ref p] ∧ (SqL K H p ys ∨ SqT K H p ys) ∧ ∀ l, H l = none → Q (.ref l) (upd H l (.lst ys))
theorem listQ : CallR X (.type "list") (rListQ K) := by subst eK; exact call_list_of
def rTupQ (K : PySem.W.Frag) : List V → Hp → VK → Prop := fun xs H Q => ∃ p ys, xs = [.ref p] ∧ ((SqL K H p ys ∧ ∀ l, H l = none → Q (.ref l) (upd H l (.tup ys))) ∨ (SqT K H p ys ∧ Q (.ref p) H))
theorem tupQ : CallR X (.type "tuple") (rTupQ K) := by subst eK; exact call_tuple_of
theorem slL : SlR X (rSlL K) := by subst eK; exact sl_list
theorem isiQ : CallR X (.builtin "isinstance") (rIsiD K) := by subst eK; exact call_isiD
theorem getL : PGet X (rIxL K) := eK ▸ get_list
theorem pgT {es : List Expr} {k : Nat} {t : TGs} (n : Nat) {pos : Pos} (hc : X.calm = true) (h : PGs X es t) (hn : (assignEach es X.env).length = n := by rfl) (hst : (assignEach es X.env).findIdx? (·.1) = none := by rfl) : PG X (.Tuple es k pos) (gTup K n t) := by
  subst eK
  exact pg_tup hc h hn hst
theorem piL {tg l : Expr} {tl : TE} (hl : PE X l tl) : PI X tg l (iList K tl) := eK ▸ pi_list hl
theorem piT {tg l : Expr} {tl : TE} (hl : PE X l tl) : PI X tg l (iTup K tl) := eK ▸ pi_tup hl
theorem piZ {e e2 : Expr} {ta : TA} {p pos tpos : Pos} {elts : List Expr} {kk : Nat} (hg : Gl X "zip") (hm : X.mg "zip" = none) (ha : PA X [e, e2] ta)
    (hs : starEach [e, e2] X.env = (false, eval e X.env) :: starEach [e2] X.env := by rfl) (hpl : (backTo pos (starEach [e2] X.env)).any (·.1) = false := by rfl) :
    PI X (.Tuple elts kk tpos) (.Call (.Name "zip" p) [e, e2] [] pos) (iZipA K ta) := by
  subst eK
  exact pi_zipA hg hm ha hs hpl
theorem piE {e : Expr} {ta : TA} {p pos tpos : Pos} {elts : List Expr} {kk : Nat} (hg : Gl X "enumerate") (hm : X.mg "enumerate" = none) (ha : PA X [e] ta) (hs : starEach [e] X.env = [(false, eval e X.env)] := by rfl) :
    PI X (.Tuple elts kk tpos) (.Call (.Name "enumerate" p) [e] [] pos) (iEnum K ta) := by
  subst eK
  exact pi_enum hg hm ha hs
theorem revL {e : Expr} {te : TE} {k : Nat} {p1 p2 p3 pos : Pos} (he : PE X e te) : PE X (.Subscript e (.Slice none none (some (.UnaryOp .USub (.Constant (.int 1) k p1) p2)) p3) pos) (tRevL K te) := by
  subst eK
  exact pe_revL he
theorem appK {o e : Expr} {to te : TE} {apos cpos : Pos} (ho : PE X o to) (he : PE X e te) (hbase : attributeBase o "append" X.env (eval o X.env) = eval o X.env := by rfl)
    (hfew : ((backTo cpos (starEach [e] X.env)).all (fun x => !x.1) && (backToKw cpos (keywordEach [] X.env)).all (fun x => x.1.isSome)
      && decide ([e].length + ([] : List Keyword).length + (if ([] : List Keyword).isEmpty then 0 else 1) < 30)) = true := by rfl)
    (hline : (apos.endLine == cpos.line) = true := by rfl) (hs : starEach [e] X.env = (false, eval e X.env) :: starEach [] X.env := by rfl) :
    PE X (.Call (.Attribute o "append" apos) [e] [] cpos) (tBM K "list" rAppend to (tCons te tNil)) := by
  subst eK
  exact pe_bm PySem.F.plainAttrs_list PySem.F.slot_list_append PySem.F.type_list_append mt_append ho (pa_cons he pa_nil hs) hbase hfew hline hs rfl
end

def topS (i : Nat) : Stmt := PySem.Challenge.pw_leapwork_k81_numbers_dealt.main.body.getD i (.Pass ⟨0, 0, 0, 0⟩)
abbrev s_dealt : Stmt := topS 1
theorem sc_dealt : FnScope ["k", "many", "found", "weight", "at"] ["k", "many"] (defScope s_dealt) := ⟨rfl, rfl, rfl, by decide +kernel, rfl, by decide +kernel, by decide +kernel⟩
abbrev s__law_spread : Stmt := topS 3
theorem sc__law_spread : FnScope ["_law_cell", "_law_at", "_law_primes", "_law_one", "_law_two", "_law_three"] ["_law_cell", "_law_at"] (defScope s__law_spread) := ⟨rfl, rfl, rfl, by decide +kernel, rfl, by decide +kernel, by decide +kernel⟩
abbrev s__law_open : Stmt := topS 4
theorem sc__law_open : FnScope ["_law_script", "_law_cells", "_law_k", "_law_cell"] ["_law_script"] (defScope s__law_open) := ⟨rfl, rfl, rfl, by decide +kernel, rfl, by decide +kernel, by decide +kernel⟩
abbrev s__law_anew : Stmt := topS 5
theorem sc__law_anew : FnScope ["_law_pen"] ["_law_pen"] (defScope s__law_anew) := ⟨rfl, rfl, rfl, by decide +kernel, rfl, by decide +kernel, by decide +kernel⟩
abbrev s__law_take : Stmt := topS 6
theorem sc__law_take : FnScope ["_law_pen", "_law_many", "_law_at", "_law_cell", "_law_found"] ["_law_pen", "_law_many"] (defScope s__law_take) := ⟨rfl, rfl, rfl, by decide +kernel, rfl, by decide +kernel, by decide +kernel⟩
abbrev s__law_same : Stmt := topS 7
theorem sc__law_same : FnScope ["_law_found", "_law_due", "_law_one", "_law_other"] ["_law_found", "_law_due"] (defScope s__law_same) := ⟨rfl, rfl, rfl, by decide +kernel, rfl, by decide +kernel, by decide +kernel⟩
abbrev s__law_dealt : Stmt := topS 8
theorem sc__law_dealt : FnScope ["_law_number", "_law_many", "_law_figures", "_law_found", "_law_holder", "_law_mine", "_law_place"] ["_law_number", "_law_many"] (defScope s__law_dealt) := ⟨rfl, rfl, rfl, by decide +kernel, rfl, by decide +kernel, by decide +kernel⟩
abbrev s__law_some_number : Stmt := topS 9
theorem sc__law_some_number : FnScope ["_law_pen", "_law_kind", "_law_found", "_law_k"] ["_law_pen"] (defScope s__law_some_number) := ⟨rfl, rfl, rfl, by decide +kernel, rfl, by decide +kernel, by decide +kernel⟩
abbrev s_law : Stmt := topS 10
theorem sc_law : FnScope ["_law_script", "_law_pen", "_law_turn", "_law_number", "_law_many", "_law_again", "_law_found"] ["_law_script"] (defScope s_law) := ⟨rfl, rfl, rfl, by decide +kernel, rfl, by decide +kernel, by decide +kernel⟩
structure Tx (K : PySem.W.Frag) (mg : Str → Option Value) : Prop where
  d_dealt : Df K mg "dealt" s_dealt ["k", "many"]
  d__law_spread : Df K mg "_law_spread" s__law_spread ["_law_cell", "_law_at"]
  d__law_open : Df K mg "_law_open" s__law_open ["_law_script"]
  d__law_anew : Df K mg "_law_anew" s__law_anew ["_law_pen"]
  d__law_take : Df K mg "_law_take" s__law_take ["_law_pen", "_law_many"]
  d__law_same : Df K mg "_law_same" s__law_same ["_law_found", "_law_due"]
  d__law_dealt : Df K mg "_law_dealt" s__law_dealt ["_law_number", "_law_many"]
  d__law_some_number : Df K mg "_law_some_number" s__law_some_number ["_law_pen"]
  d_law : Df K mg "law" s_law ["_law_script"]
  z_bool : mg "bool" = none
  z_enumerate : mg "enumerate" = none
  z_int : mg "int" = none
  z_isinstance : mg "isinstance" = none
  z_len : mg "len" = none
  z_list : mg "list" = none
  z_range : mg "range" = none
  z_str : mg "str" = none
  z_tuple : mg "tuple" = none
  z_zip : mg "zip" = none
/-! ### the draws: _law_spread, _law_open, _law_take -/
section
variable {P : Program} {w : World} {K : PySem.W.Frag} {mg : Str → Option Value} {base : Heap}
theorem pw_lt {x : Int} {n : Nat} (h0 : 0 ≤ x) (h : x < 2 ^ 64) : x.natAbs < 2 ^ 64 := by omega
theorem ok__law_spread (T : Tx K mg) : Ok P w K mg base 1 "_law_spread" ["_law_cell", "_law_at"] spSpread := by
  refine Ok.mk T.d__law_spread sc__law_spread (fun vs H Q E h => ?_) (fun f cdv A outer s H vs Q E hr h => ?_)
  · obtain ⟨c, a, rfl, _⟩ := h
    rfl
  obtain ⟨c, a, rfl, h0, h1, q⟩ := h
  refine ⟨_, (pss_cons (ps_if (pt_cmpR op_ge (pv 0) (pe_op op_pow (pe_int) (pe_int)) (nomark _))
 (pss_one (ps_ret (pv 0)))
 (pss_nil))
 (pss_cons (ps_set (i := 2) sc__law_spread.nd rfl (Or.inl rfl) (pe_lst (pa_cons (pe_int) (pa_cons (pe_int) (pa_cons (pe_int) (pa_cons (pe_int) (pa_cons (pe_int) (pa_cons (pe_int) (pa_cons (pe_int) (pa_cons (pe_int) (pa_nil)))))))))))
 (pss_cons (ps_set (i := 2) sc__law_spread.nd rfl (Or.inl rfl) (pe_op op_cat (pv 2) (pe_lst (pa_cons (pe_int) (pa_cons (pe_int) (pa_cons (pe_int) (pa_cons (pe_int) (pa_cons (pe_int) (pa_nil)))))))))
 (pss_cons (ps_set (i := 3) sc__law_spread.nd rfl (Or.inl rfl) (pe_op op_mod (pe_op op_pow (pe_op op_add (pe_op op_add (pe_op op_mul (pe_op op_mod (pv 0) (pe_int)) (pe_op op_add (pe_op op_mul (pe_int) (pv 1)) (pe_int))) (pe_op op_mul (pv 1) (pe_int))) (pe_int)) (pe_int)) (pe_ix (ixL K rfl) (pv 2) (pe_op op_mod (pv 1) (pe_int)) (fun _ _ => rfl))))
 (pss_cons (ps_set (i := 4) sc__law_spread.nd rfl (Or.inl rfl) (pe_op op_mod (pe_op op_pow (pe_op op_add (pe_op op_add (pe_op op_mul (pv 3) (pe_op op_add (pv 1) (pe_int))) (pe_op op_mod (pv 0) (pe_int))) (pe_int)) (pe_int)) (pe_ix (ixL K rfl) (pv 2) (pe_op op_mod (pe_op op_add (pv 1) (pe_int)) (pe_int)) (fun _ _ => rfl))))
 (pss_cons (ps_set (i := 5) sc__law_spread.nd rfl (Or.inl rfl) (pe_op op_mod (pe_op op_pow (pe_op op_add (pe_op op_add (pv 4) (pe_op op_mod (pv 3) (pe_int))) (pv 1)) (pe_int)) (pe_ix (ixL K rfl) (pv 2) (pe_op op_mod (pe_op op_add (pv 1) (pe_int)) (pe_int)) (fun _ _ => rfl))))
 (pss_one (ps_ret (pe_op op_add (pe_op op_mul (pe_op op_add (pe_op op_mul (pv 3) (pe_int)) (pv 4)) (pe_int)) (pv 5)))))))))), ?_⟩
  refine ⟨_, rfl, _, _, rfl, rfl, ⟨by decide, by decide, by decide⟩, _, _, rfl, rfl, _, rfl, ite2 (fun e => ?_) (fun e => ?_)⟩
  · have e := of_decide_eq_true e
    refine ⟨_, rfl, ?_⟩
    refine q c H (Int.le_trans (by decide) e) (Same.refl H)
  · refine ⟨by show 8 ≤ sizeLine; decide, fun p1 n1 => ?_⟩
    have s1 := same_upd (o := .lst [V.int 2147483629, .int 2147483587, .int 2147483579, .int 2147483563, .int 2147483549, .int 2147483543, .int 2147483497, .int 2147483489]) n1
    refine ⟨_, rfl, ?_⟩
    refine ⟨by show 5 ≤ sizeLine; decide, fun p2 n2 => ?_⟩
    have s2 := same_upd (o := .lst [V.int 2147483477, .int 2147483423, .int 2147483399, .int 2147483353, .int 2147483323]) n2
    have n12 : p1 ≠ p2 := fun z => by rw [← z, upd_same] at n2; cases n2
    refine ⟨p1, p2, _, _, rfl, rfl, by rw [upd_ne n12]; exact upd_same, upd_same, by show 8 + 5 ≤ sizeLine; decide, fun p3 n3 => ?_⟩
    have s3 := same_upd (o := .lst ([V.int 2147483629, .int 2147483587, .int 2147483579, .int 2147483563, .int 2147483549, .int 2147483543, .int 2147483497, .int 2147483489] ++ [V.int 2147483477, .int 2147483423, .int 2147483399, .int 2147483353, .int 2147483323])) n3
    have hL : SqL K (upd (upd (upd H p1 (.lst [V.int 2147483629, .int 2147483587, .int 2147483579, .int 2147483563, .int 2147483549, .int 2147483543, .int 2147483497, .int 2147483489])) p2 (.lst [V.int 2147483477, .int 2147483423, .int 2147483399, .int 2147483353, .int 2147483323])) p3 (.lst ([V.int 2147483629, .int 2147483587, .int 2147483579, .int 2147483563, .int 2147483549, .int 2147483543, .int 2147483497, .int 2147483489] ++ [V.int 2147483477, .int 2147483423, .int 2147483399, .int 2147483353, .int 2147483323]))) p3 ([2147483629, 2147483587, 2147483579, 2147483563, 2147483549, 2147483543, 2147483497, 2147483489, 2147483477, 2147483423, 2147483399, 2147483353, 2147483323].map V.int) := SqL.of upd_same
    have sH := s1.trans (s2.trans s3)
    generalize (upd (upd (upd H p1 (.lst [V.int 2147483629, .int 2147483587, .int 2147483579, .int 2147483563, .int 2147483549, .int 2147483543, .int 2147483497, .int 2147483489])) p2 (.lst [V.int 2147483477, .int 2147483423, .int 2147483399, .int 2147483353, .int 2147483323])) p3 (.lst ([V.int 2147483629, .int 2147483587, .int 2147483579, .int 2147483563, .int 2147483549, .int 2147483543, .int 2147483497, .int 2147483489] ++ [V.int 2147483477, .int 2147483423, .int 2147483399, .int 2147483353, .int 2147483323]))) = H3 at hL sH ⊢
    have prime : ∀ i : Int, 0 ≤ i → ∃ pr : Int, atI ([2147483629, 2147483587, 2147483579, 2147483563, 2147483549, 2147483543, 2147483497, 2147483489, 2147483477, 2147483423, 2147483399, 2147483353, 2147483323].map V.int) (i % 13) = some (.int pr) ∧ 0 < pr ∧ pr < 2147483647 := fun i hi => by
      have h1 : 0 ≤ i % 13 := Int.emod_nonneg _ (by decide)
      have h2 : i % 13 < 13 := Int.emod_lt_of_pos _ (by decide)
      generalize i % 13 = k at h1 h2
      have hk : k = 0 ∨ k = 1 ∨ k = 2 ∨ k = 3 ∨ k = 4 ∨ k = 5 ∨ k = 6 ∨ k = 7 ∨ k = 8 ∨ k = 9 ∨ k = 10 ∨ k = 11 ∨ k = 12 := by omega
      rcases hk with rfl | rfl | rfl | rfl | rfl | rfl | rfl | rfl | rfl | rfl | rfl | rfl | rfl <;> exact ⟨_, rfl, by decide, by decide⟩
    obtain ⟨q1, a1, b1, c1⟩ := prime a h0
    obtain ⟨q2, a2, b2, c2⟩ := prime (a + 5) (by omega)
    obtain ⟨q3, a3, b3, c3⟩ := prime (a + 7) (by omega)
    have u0 : 0 ≤ c % 1000000007 := Int.emod_nonneg _ (by decide)
    have u1 : c % 1000000007 < 1000000007 := Int.emod_lt_of_pos _ (by decide)
    have v0 : 0 ≤ c % 65537 := Int.emod_nonneg _ (by decide)
    have v1 : c % 65537 < 65537 := Int.emod_lt_of_pos _ (by decide)
    have e1 : 0 ≤ c % 1000000007 * (2 * a + 69069) := Int.mul_nonneg u0 (by omega)
    have e2 : c % 1000000007 * (2 * a + 69069) ≤ 1000000007 * 2000069069 := Int.mul_le_mul (by omega) (by omega) (by omega) (by omega)
    -- one
    refine ⟨_, rfl, _, _, rfl, rfl, (by show (0 : Int) < _; decide), _, rfl, _, _, rfl, rfl, .inl ⟨by decide, by decide⟩, _, _, rfl, rfl, _, _, rfl, rfl, .inl ⟨by omega, by omega⟩, _, rfl, _, _, rfl, rfl, .inr ⟨by decide, by decide⟩, _, _, rfl, rfl, _, _, rfl, rfl, _, _, rfl, rfl, ⟨by decide, by decide, by omega⟩,
      _, rfl, _, rfl, _, _, rfl, rfl, (by show (0 : Int) < _; decide), _, _, _, _, rfl, rfl, hL, a1, _, _, rfl, rfl, b1, ?_⟩
    have w0 : 0 ≤ (c % 1000000007 * (2 * a + 69069) + a * 40503 + 977) ^ 3 % q1 := Int.emod_nonneg _ (by omega)
    have w1 : (c % 1000000007 * (2 * a + 69069) + a * 40503 + 977) ^ 3 % q1 < q1 := Int.emod_lt_of_pos _ b1
    dsimp only [Int.reduceToNat]
    generalize (c % 1000000007 * (2 * a + 69069) + a * 40503 + 977) ^ 3 % q1 = o1 at w0 w1 ⊢
    have e3 : 0 ≤ o1 * (a + 3) := Int.mul_nonneg w0 (by omega)
    have e4 : o1 * (a + 3) ≤ 2147483647 * 1000000003 := Int.mul_le_mul (by omega) (by omega) (by omega) (by omega)
    -- two
    refine ⟨_, rfl, _, rfl, _, _, rfl, rfl, _, _, rfl, rfl, .inl ⟨by omega, by omega⟩, _, rfl, _, _, rfl, rfl, (by show (0 : Int) < _; decide), _, _, rfl, rfl, _, _, rfl, rfl, _, _, rfl, rfl, ⟨by decide, by decide, by omega⟩,
      _, rfl, _, rfl, _, _, rfl, rfl, _, _, rfl, rfl, (by show (0 : Int) < _; decide), _, _, _, _, rfl, rfl, hL, a2, _, _, rfl, rfl, b2, ?_⟩
    have w2 : 0 ≤ (o1 * (a + 3) + c % 65537 + 5) ^ 5 % q2 := Int.emod_nonneg _ (by omega)
    have w3 : (o1 * (a + 3) + c % 65537 + 5) ^ 5 % q2 < q2 := Int.emod_lt_of_pos _ b2
    dsimp only [Int.reduceToNat]
    generalize (o1 * (a + 3) + c % 65537 + 5) ^ 5 % q2 = o2 at w2 w3 ⊢
    have x0 : 0 ≤ o1 % 1009 := Int.emod_nonneg _ (by decide)
    have x1 : o1 % 1009 < 1009 := Int.emod_lt_of_pos _ (by decide)
    -- three
    refine ⟨_, rfl, _, rfl, _, _, rfl, rfl, (by show (0 : Int) < _; decide), _, _, rfl, rfl, _, rfl, _, _, rfl, rfl, _, _, rfl, rfl, ⟨by decide, by decide, by omega⟩,
      _, rfl, _, rfl, _, _, rfl, rfl, _, _, rfl, rfl, (by show (0 : Int) < _; decide), _, _, _, _, rfl, rfl, hL, a3, _, _, rfl, rfl, b3, ?_⟩
    have w4 : 0 ≤ (o2 + o1 % 1009 + a) ^ 3 % q3 := Int.emod_nonneg _ (by omega)
    dsimp only [Int.reduceToNat]
    generalize (o2 + o1 % 1009 + a) ^ 3 % q3 = o3 at w4 ⊢
    -- the answer
    refine ⟨_, rfl, _, _, rfl, rfl, .inr ⟨by decide, by decide⟩, _, rfl, _, _, rfl, rfl, _, _, rfl, rfl, .inr ⟨by decide, by decide⟩, _, rfl, _, _, rfl, rfl, ?_⟩
    exact q _ H3 (by omega) sH
theorem ok__law_open (T : Tx K mg) : Ok P w K mg base 1 "_law_open" ["_law_script"] (spOpen K) := by
  refine Ok.mk T.d__law_open sc__law_open (fun vs H Q E h => ?_) (fun f cdv A outer s H vs Q E hr h => ?_)
  · obtain ⟨a, ns, rfl, _⟩ := h
    rfl
  obtain ⟨a, ns, rfl, hS, hl, q⟩ := h
  refine ⟨_, (pss_cons (ps_set (i := 1) sc__law_open.nd rfl (Or.inl rfl) (pe_callTy (listQ K rfl) (by rfl) T.z_list (by decide +kernel) (pa_cons (pe_slice (slL K rfl) (pv 0) po_none (po_some (pe_int))) (pa_nil))))
 (pss_cons (ps_for PassesOwn.never rfl (piE K rfl (by rfl) T.z_enumerate (pa_cons (pe_slice (slL K rfl) (pv 0) (po_some (pe_int)) (po_some (pe_int))) (pa_nil))) (pgT K rfl 2 rfl (pgs_cons (pg_nameL (i := 2) sc__law_open.nd rfl rfl) (pgs_cons (pg_nameL (i := 3) sc__law_open.nd rfl rfl) (pgs_nil))))
 (pss_one (ps_asg (pe_op op_add (pe_ix (ixL K rfl) (pv 1) (pe_op op_mod (pv 2) (pe_int)) (fun _ _ => rfl)) (pv 3)) (pg_sub (pv 1) (pe_op op_mod (pv 2) (pe_int)) set_list))))
 (pss_one (ps_ret (pe_lst (pa_cons (pv 1) (pa_cons (pe_int) (pa_cons (pe_int) (pa_nil))))))))), ?_⟩
  -- cells = list(script[:12])
  refine ⟨.ref a, rfl, _, rfl, a, ns.map V.int, rfl, hS, fun t1 n1 => ?_⟩
  have s1 := same_upd (o := .lst (cutV (ns.map V.int) none (some 12))) n1
  refine ⟨t1, _, rfl, .inl (SqL.of upd_same), fun c n2 => ?_⟩
  have s2 := same_upd (o := .lst (cutV (ns.map V.int) none (some 12))) n2
  have e12 : cutV (ns.map V.int) none (some 12) = (ns.take 12).map V.int := by
    rw [show (12 : Int) = ((12 : Nat) : Int) from rfl, cut_take, List.map_take]
  have sH := s1.trans s2
  have hc : upd (upd H t1 (.lst (cutV (ns.map V.int) none (some 12)))) c (.lst (cutV (ns.map V.int) none (some 12))) c = some (.lst ((ns.take 12).map V.int)) := by rw [upd_same, e12]
  have nc : H c = none := s1.free n2
  generalize upd (upd H t1 (.lst (cutV (ns.map V.int) none (some 12)))) c (.lst (cutV (ns.map V.int) none (some 12))) = H2 at sH hc ⊢
  -- the loop
  refine ⟨.ref a, rfl, _, rfl, _, rfl, a, ns.map V.int, rfl, sH.seq hS, fun t2 n3 => ?_⟩
  have e63 : cutV (ns.map V.int) (some 12) (some 63) = (ns.drop 12).map V.int := by
    rw [show (12 : Int) = ((12 : Nat) : Int) from rfl, show (63 : Int) = ((63 : Nat) : Int) from rfl, cut_drop _ _ _ (by decide), List.take_of_length_le (by rw [List.length_map]; exact hl), List.map_drop]
  rw [e63]
  have s3 := same_upd (o := .lst ((ns.drop 12).map V.int)) n3
  refine ⟨t2, (ns.drop 12).map V.int, rfl, SqL.of upd_same, for_it (walk_enum (K := K) (a := t2) (xs := (ns.drop 12).map V.int)) (fun i σ H3 => ∃ y2 y3 cs, σ = [some (.ref a), some (.ref c), y2, y3] ∧ But c H2 H3 ∧ H3 t2 = some (.lst ((ns.drop 12).map V.int)) ∧ H3 c = some (.lst (cs.map V.int)) ∧ (cs : List Int).length = (ns.take 12).length) ?_ ?_ ?_ ?_⟩
  · exact ⟨none, none, ns.take 12, rfl, But.of s3, upd_same, s3 _ _ hc, rfl⟩
  · rintro i σ H3 _ ⟨y2, y3, cs, _, _, h2, _⟩
    exact SqL.of h2
  · rintro i x σ H3 H4 hi ⟨y2, y3, cs, rfl, bt, h2, h3, hlc⟩ ⟨t, x1, x2, rfl, nt, rfl, z1, z2⟩
    cases z1
    have z2 : ((ns.drop 12).map V.int)[i]? = some x2 := z2
    have hx : ∃ m : Int, x2 = .int m := by
      rw [List.getElem?_map] at z2
      cases z3 : (ns.drop 12)[i]? with
      | none => rw [z3] at z2; cases z2
      | some m => rw [z3] at z2; exact ⟨m, (Option.some.inj z2).symm⟩
    obtain ⟨m, rfl⟩ := hx
    have hlen : cs.length = 12 := by
      rw [hlc, List.length_take]
      rw [List.length_map, List.length_drop] at hi
      omega
    have k0 : (i : Int) % 12 = ((i % 12 : Nat) : Int) := by omega
    have k1 : i % 12 < cs.length := by omega
    have ntc : c ≠ t := ne_of_none h3 nt
    have h3t : upd H3 t (.tup [V.int (i : Nat), .int m]) c = some (.lst (cs.map V.int)) := by rw [upd_ne ntc]; exact h3
    have g1 : (cs.map V.int)[i % 12]? = some (.int cs[i % 12]) := by rw [List.getElem?_map, List.getElem?_eq_getElem k1]; rfl
    refine ⟨t, _, rfl, SqT.of upd_same, rfl, _, _, rfl, _, _, rfl, rfl, ?_⟩
    refine ⟨_, rfl, _, rfl, _, _, rfl, rfl, (by show (0 : Int) < _; decide), c, _, _, _, rfl, rfl, SqL.of h3t, atI_of _ k0 g1, _, rfl, _, _, rfl, rfl, _, rfl, _, rfl, _, _, rfl, rfl, (by show (0 : Int) < _; decide), c, _, _, _, rfl, rfl, h3t, ixN_of _ k0 (by rw [List.length_map]; exact k1), ?_⟩
    have nct2 : t2 ≠ c := (ne_of_none hc n3).symm
    refine ⟨some (.int (i : Nat)), some (.int m), cs.set (i % 12) (cs[i % 12] + m), rfl, bt.trans ((But.new nt).trans But.upd), ?_, ?_, ?_⟩
    · rw [upd_ne nct2, upd_ne (ne_of_none h2 nt)]; exact h2
    · rw [upd_same, List.map_set]
    · rw [List.length_set]; exact hlc
  · rintro σ H3 ⟨y2, y3, cs, rfl, bt, h2, h3, hlc⟩
    refine ⟨_, rfl, by show 3 ≤ sizeLine; decide, fun p np => ?_⟩
    have ncp : c ≠ p := ne_of_none h3 np
    have npH : H p = none := (show Same H H2 from sH).free ((bt.free (Ne.symm ncp) np))
    refine q p c _ (fun b o e => ?_) npH nc ⟨⟨0, 0, upd_same, by decide, by decide, by decide⟩, ⟨cs, by rw [upd_ne ncp]; exact h3⟩, ncp⟩
    rw [upd_ne (ne_of_none e npH)]
    exact bt _ _ (ne_of_none e nc) (sH _ _ e)
theorem ok__law_take (T : Tx K mg) (O__law_spread : Ok P w K mg base 1 "_law_spread" ["_law_cell", "_law_at"] spSpread) : Ok P w K mg base 2 "_law_take" ["_law_pen", "_law_many"] spTake := by
  refine Ok.mk T.d__law_take sc__law_take (fun vs H Q E h => ?_) (fun f cdv A outer s H vs Q E hr h => ?_)
  · obtain ⟨p, c, n, m, rfl, _⟩ := h
    rfl
  obtain ⟨p, c, n, m, rfl, pe, hn, hm, hw, q⟩ := h
  obtain ⟨⟨a, r, ep, a0, a1, r0⟩, ⟨ns, ec⟩, ncp⟩ := pe
  refine ⟨_, (pss_cons (ps_if (pt_cmpR op_lt (pe_ix (ixL K rfl) (pv 0) (pe_int) (fun _ _ => rfl)) (pv 1) (nomark _))
 (pss_cons (ps_set (i := 2) sc__law_take.nd rfl (Or.inl rfl) (pe_ix (ixL K rfl) (pv 0) (pe_int) (fun _ _ => rfl)))
 (pss_cons (ps_set (i := 3) sc__law_take.nd rfl (Or.inl rfl) (pe_int))
 (pss_cons (ps_if (pt_cmpR op_lt (pv 2) (pe_callB (lenQ K rfl) (by rfl) T.z_len PySem.boot_len (pa_cons (pe_ix (ixL K rfl) (pv 0) (pe_int) (fun _ _ => rfl)) (pa_nil))) (nomark _))
 (pss_one (ps_set (i := 3) sc__law_take.nd rfl (Or.inl rfl) (pe_ix (ixL K rfl) (pe_ix (ixL K rfl) (pv 0) (pe_int) (fun _ _ => rfl)) (pv 2) (fun _ _ => rfl))))
 (pss_one (ps_if (pt_cmpR op_gt (pe_callB (lenQ K rfl) (by rfl) T.z_len PySem.boot_len (pa_cons (pe_ix (ixL K rfl) (pv 0) (pe_int) (fun _ _ => rfl)) (pa_nil))) (pe_int) (nomark _))
 (pss_one (ps_set (i := 3) sc__law_take.nd rfl (Or.inl rfl) (pe_op op_mod (pe_ix (ixL K rfl) (pe_ix (ixL K rfl) (pv 0) (pe_int) (fun _ _ => rfl)) (pe_op op_mod (pe_op op_add (pe_op op_mul (pv 2) (pe_int)) (pe_int)) (pe_callB (lenQ K rfl) (by rfl) T.z_len PySem.boot_len (pa_cons (pe_ix (ixL K rfl) (pv 0) (pe_int) (fun _ _ => rfl)) (pa_nil)))) (fun _ _ => rfl)) (pe_op op_add (pe_op op_pow (pe_int) (pe_int)) (pv 2)))))
 (pss_nil))))
 (pss_cons (ps_asg (pe_op op_add (pv 2) (pe_int)) (pg_sub (pv 0) (pe_int) set_list))
 (pss_one (ps_asg (pe_fn O__law_spread (hr.mono (by omega)) (by rfl) (pa_cons (pv 3) (pa_cons (pv 2) (pa_nil)))) (pg_sub (pv 0) (pe_int) set_list)))))))
 (pss_nil))
 (pss_cons (ps_set (i := 4) sc__law_take.nd rfl (Or.inl rfl) (pe_op op_mod (pe_ix (ixL K rfl) (pv 0) (pe_int) (fun _ _ => rfl)) (pv 1)))
 (pss_cons (ps_asg (pe_op op_fdivW (pe_ix (ixL K rfl) (pv 0) (pe_int) (fun _ _ => rfl)) (pv 1)) (pg_sub (pv 0) (pe_int) set_list))
 (pss_one (ps_ret (pv 4)))))), ?_⟩
  have fin : ∀ (σ2 σ3 : Option V) (H1 : Hp) (a' r' : Int), But p H H1 → H1 p = some (.lst [.ref c, .int a', .int r']) → 0 ≤ a' → a' ≤ ((n + 1 : Nat) : Int) → 0 ≤ r' →
      (tSeq (tAsg (tOp (rI (fun _ j => 0 < j) fun i j => .int (i % j)) (tOp (rIxL K) (tVar 0) (tC (.int 2))) (tVar 1)) (gName 4)) (tSeq (tAsg (tOp (rI CDivW fun i j => .int (i / j)) (tOp (rIxL K) (tVar 0) (tC (.int 2))) (tVar 1)) (gSub (tVar 0) (tC (.int 2)) rSetL)) (tRet (tVar 4))) { nx := fun _ H' => Q .non H', rt := Q } [some (.ref p), some (.int m), σ2, σ3, none] H1) := by
    intro σ2 σ3 H1 a' r' bt e1 z0 z1 z2
    refine ⟨_, rfl, p, _, _, _, rfl, rfl, SqL.of e1, atI_of 2 rfl rfl, _, rfl, _, _, rfl, rfl, hm, ?_⟩
    refine ⟨_, rfl, p, _, _, _, rfl, rfl, SqL.of e1, atI_of 2 rfl rfl, _, rfl, _, _, rfl, rfl, wide_div hm hw (by decide) (by decide), _, rfl, p, _, _, _, rfl, rfl, e1, ixN_of 2 rfl (by show 2 < 3; decide), ?_⟩
    refine ⟨_, rfl, q _ _ (Int.emod_nonneg _ (by omega)) (Int.emod_lt_of_pos _ hm) (bt.trans But.upd) ⟨⟨a', r' / m, upd_same, z0, z1, Int.ediv_nonneg z2 (by omega)⟩, ⟨ns, ?_⟩, ncp⟩⟩
    rw [upd_ne ncp]
    exact bt _ _ ncp ec
  refine ⟨_, rfl, p, _, _, _, rfl, rfl, SqL.of ep, atI_of 2 rfl rfl, _, rfl, _, _, rfl, rfl, _, rfl, ite2 (fun e => ?_) (fun e => ?_)⟩
  · refine ⟨_, rfl, p, _, _, _, rfl, rfl, SqL.of ep, atI_of 1 rfl rfl, ?_⟩
    have fin2 : ∀ (cell : Int), (tSeq (tAsg (tOp (rI0 fun i j => .int (i + j)) (tVar 2) (tC (.int 1))) (gSub (tVar 0) (tC (.int 1)) rSetL)) (tAsg (tCall spSpread [] E0 (tCons (tVar 3) (tCons (tVar 2) tNil))) (gSub (tVar 0) (tC (.int 2)) rSetL)) { nx := fun σ1 H1 => (tSeq (tAsg (tOp (rI (fun _ j => 0 < j) fun i j => .int (i % j)) (tOp (rIxL K) (tVar 0) (tC (.int 2))) (tVar 1)) (gName 4)) (tSeq (tAsg (tOp (rI CDivW fun i j => .int (i / j)) (tOp (rIxL K) (tVar 0) (tC (.int 2))) (tVar 1)) (gSub (tVar 0) (tC (.int 2)) rSetL)) (tRet (tVar 4))) { nx := fun _ H' => Q .non H', rt := Q } σ1 H1), rt := Q } [some (.ref p), some (.int m), some (.int a), some (.int cell), none] H) := by
      intro cell
      refine ⟨_, rfl, _, _, rfl, rfl, _, rfl, p, _, _, _, rfl, rfl, ep, ixN_of 1 rfl (by show 1 < 3; decide), ?_⟩
      refine ⟨_, rfl, _, rfl, cell, a, rfl, a0, by omega, fun r' H2 hr0 sm => ?_⟩
      refine ⟨_, rfl, p, _, _, _, rfl, rfl, sm _ _ upd_same, ixN_of 2 rfl (by show 2 < 3; decide), ?_⟩
      exact fin _ _ _ (a + 1) r' (But.upd.trans ((But.of sm).trans But.upd)) upd_same (by omega) (by omega) hr0
    refine ⟨_, rfl, _, rfl, p, _, _, _, rfl, rfl, SqL.of ep, atI_of 0 rfl rfl, c, _, rfl, .inl (SqL.of ec), _, _, rfl, rfl, _, rfl, ite2 (fun e1 => ?_) (fun e1 => ?_)⟩
    · have e1 := of_decide_eq_true e1
      rw [List.length_map] at e1
      have k1 : a.toNat < ns.length := by omega
      have g1 : (ns.map V.int)[a.toNat]? = some (.int ns[a.toNat]) := by rw [List.getElem?_map, List.getElem?_eq_getElem k1]; rfl
      refine ⟨_, rfl, p, _, _, _, rfl, rfl, SqL.of ep, atI_of 0 rfl rfl, _, rfl, c, _, _, _, rfl, rfl, SqL.of ec, atI_of a.toNat (by omega) g1, ?_⟩
      exact fin2 _
    · refine ⟨_, rfl, p, _, _, _, rfl, rfl, SqL.of ep, atI_of 0 rfl rfl, c, _, rfl, .inl (SqL.of ec), _, _, rfl, rfl, _, rfl, ite2 (fun e2 => ?_) (fun e2 => ?_)⟩
      · have e2 := of_decide_eq_true e2
        rw [List.length_map] at e2
        have k0 : 0 ≤ (a * 5 + 3) % (ns.length : Int) := Int.emod_nonneg _ (by omega)
        have k1 : (a * 5 + 3) % (ns.length : Int) < ns.length := Int.emod_lt_of_pos _ e2
        have k2 : ((a * 5 + 3) % (ns.length : Int)).toNat < ns.length := by omega
        have g1 : (ns.map V.int)[((a * 5 + 3) % (ns.length : Int)).toNat]? = some (.int ns[((a * 5 + 3) % (ns.length : Int)).toNat]) := by rw [List.getElem?_map, List.getElem?_eq_getElem k2]; rfl
        refine ⟨_, rfl, p, _, _, _, rfl, rfl, SqL.of ep, atI_of 0 rfl rfl, _, rfl, _, _, rfl, rfl, .inr ⟨by decide, by decide⟩, _, _, rfl, rfl, _, rfl, p, _, _, _, rfl, rfl, SqL.of ep, atI_of 0 rfl rfl, c, _, rfl, .inl (SqL.of ec), _, _, rfl, rfl, by rw [List.length_map]; exact e2, c, _, _, _, rfl, rfl, SqL.of ec, atI_of _ (by rw [List.length_map]; omega) g1, _, _, rfl, rfl, ⟨by decide, by decide, by decide⟩, _, rfl, _, _, rfl, rfl, _, _, rfl, rfl, ?_, ?_⟩
        · show (0 : Int) < 10 ^ (17 : Int).toNat + a
          have : (0 : Int) < 10 ^ (17 : Int).toNat := by decide
          omega
        · exact fin2 _
      · exact fin2 _
  · exact fin none none H a r (But.refl p H) ep a0 (by omega) r0
end

/-! ### _law_same -/
section
variable {P : Program} {w : World} {K : PySem.W.Frag} {mg : Str → Option Value} {base : Heap}
theorem step__law_same (T : Tx K mg) {n : Nat} (O__law_same : Ok P w K mg base n "_law_same" ["_law_found", "_law_due"] (spSame K n)) : Ok P w K mg base (n + 1) "_law_same" ["_law_found", "_law_due"] (spSame K (n + 1)) := by
  refine Ok.mk T.d__law_same sc__law_same (fun vs H Q E h => ?_) (fun f cdv A outer s H vs Q E hr h => ?_)
  · obtain ⟨x, y, d, rfl, _⟩ := h
    rfl
  obtain ⟨x, y, d, rfl, hx, hy, hn, q⟩ := h
  refine ⟨_, (pss_cons (ps_if (pt_cmpR op_isN (pv 1) (pe_non) (nomark _))
 (pss_one (ps_ret (pe_cmpR op_isN (pv 0) (pe_non) (nomark _))))
 (pss_nil))
 (pss_cons (ps_if (PW.pt (pw_or (pt_val (pe_callB (isiQ K rfl) (by rfl) T.z_isinstance (by decide +kernel) (pa_cons (pv 1) (pa_cons (pe_bltn (v := .ty "bool") (by rfl) T.z_bool (by decide +kernel) rfl) (pa_nil))))) (pw_or1 (pt_val (pe_callB (isiQ K rfl) (by rfl) T.z_isinstance (by decide +kernel) (pa_cons (pv 0) (pa_cons (pe_bltn (v := .ty "bool") (by rfl) T.z_bool (by decide +kernel) rfl) (pa_nil))))))))
 (pss_one (ps_ret (pe_and (pe_callB (isiQ K rfl) (by rfl) T.z_isinstance (by decide +kernel) (pa_cons (pv 1) (pa_cons (pe_bltn (v := .ty "bool") (by rfl) T.z_bool (by decide +kernel) rfl) (pa_nil)))) (pe_and (pe_callB (isiQ K rfl) (by rfl) T.z_isinstance (by decide +kernel) (pa_cons (pv 0) (pa_cons (pe_bltn (v := .ty "bool") (by rfl) T.z_bool (by decide +kernel) rfl) (pa_nil)))) (pe_one (pe_cmpR op_eq (pv 0) (pv 1) (nomark _)))))))
 (pss_nil))
 (pss_cons (ps_if (pt_val (pe_callB (isiQ K rfl) (by rfl) T.z_isinstance (by decide +kernel) (pa_cons (pv 1) (pa_cons (pe_bltn (v := .ty "int") (by rfl) T.z_int (by decide +kernel) rfl) (pa_nil)))))
 (pss_one (ps_ret (pe_and (pe_callB (isiQ K rfl) (by rfl) T.z_isinstance (by decide +kernel) (pa_cons (pv 0) (pa_cons (pe_bltn (v := .ty "int") (by rfl) T.z_int (by decide +kernel) rfl) (pa_nil)))) (pe_one (pe_cmpR op_eq (pv 0) (pv 1) (nomark _))))))
 (pss_nil))
 (pss_cons (ps_if (pt_val (pe_callB (isiQ K rfl) (by rfl) T.z_isinstance (by decide +kernel) (pa_cons (pv 1) (pa_cons (pe_bltn (v := .ty "str") (by rfl) T.z_str (by decide +kernel) rfl) (pa_nil)))))
 (pss_one (ps_ret (pe_and (pe_callB (isiQ K rfl) (by rfl) T.z_isinstance (by decide +kernel) (pa_cons (pv 0) (pa_cons (pe_bltn (v := .ty "str") (by rfl) T.z_str (by decide +kernel) rfl) (pa_nil)))) (pe_one (pe_cmpR op_eq (pv 0) (pv 1) (nomark _))))))
 (pss_nil))
 (pss_cons (ps_if (PW.pt (pw_or (pt_cmpR op_ne (pe_callB (isiQ K rfl) (by rfl) T.z_isinstance (by decide +kernel) (pa_cons (pv 1) (pa_cons (pe_bltn (v := .ty "tuple") (by rfl) T.z_tuple (by decide +kernel) rfl) (pa_nil)))) (pe_callB (isiQ K rfl) (by rfl) T.z_isinstance (by decide +kernel) (pa_cons (pv 0) (pa_cons (pe_bltn (v := .ty "tuple") (by rfl) T.z_tuple (by decide +kernel) rfl) (pa_nil)))) (nomark _)) (pw_or1 (pt_cmpR op_ne (pe_callB (isiQ K rfl) (by rfl) T.z_isinstance (by decide +kernel) (pa_cons (pv 1) (pa_cons (pe_bltn (v := .ty "list") (by rfl) T.z_list (by decide +kernel) rfl) (pa_nil)))) (pe_callB (isiQ K rfl) (by rfl) T.z_isinstance (by decide +kernel) (pa_cons (pv 0) (pa_cons (pe_bltn (v := .ty "list") (by rfl) T.z_list (by decide +kernel) rfl) (pa_nil)))) (nomark _)))))
 (pss_one (ps_ret (pe_bl)))
 (pss_nil))
 (pss_cons (ps_if (pt_cmpR op_ne (pe_callB (lenQ K rfl) (by rfl) T.z_len PySem.boot_len (pa_cons (pv 0) (pa_nil))) (pe_callB (lenQ K rfl) (by rfl) T.z_len PySem.boot_len (pa_cons (pv 1) (pa_nil))) (nomark _))
 (pss_one (ps_ret (pe_bl)))
 (pss_nil))
 (pss_one (ps_ret (pe_cmpR (ninQ K rfl) (pe_bl) (pe_lc (own := [("_law_one", 2), ("_law_other", 3)]) rfl sc__law_same.nd (piZ K rfl (by rfl) T.z_zip (pa_cons (pv 0) (pa_cons (pv 1) (pa_nil)))) (blkOk_by (own := [("_law_one", 2), ("_law_other", 3)]) (N := ["_law_found", "_law_due", "_law_one", "_law_other"]) (sc := defScope s__law_same) (by decide +kernel)) (fun _ _ _ _ _ => pgT K rfl 2 rfl (pgs_cons (pg_nameL (i := 2) sc__law_same.nd rfl rfl) (pgs_cons (pg_nameL (i := 3) sc__law_same.nd rfl rfl) (pgs_nil)))) (fun _ _ _ _ _ => pts_nil) (fun _ _ _ _ _ => pe_fn O__law_same (hr.mono (by omega)) (by rfl) (pa_cons (pv 2) (pa_cons (pv 3) (pa_nil))))) (by rfl)))))))))), ?_⟩
  have items : ∀ {a b : Addr} {xs ys : List V} {ds : List PyData} {J : It} {G : Hp → Prop} (H0 : Hp) (_ : ∀ H1, Same H0 H1 → G H1) (_ : Walk J xs.length G (YPair (fun i => xs[i]?) (fun i => ys[i]?))) (_ : Same H H0) (_ : DpAll K H xs ds) (_ : DpAll K H ys ds) (_ : ∀ d ∈ ds, fit n d) (_ : xs.length < sizeLine) (D : Addr) (_ : H0 D = none) (_ : ∀ H1, Same H0 H1 → H1 D = some (.lst (List.replicate xs.length (V.bl true))) → Q (.bl true) H1),
      ∃ W : Nat → Nat → Hp → Prop, (∃ m, W 0 m (upd H0 D (.lst []))) ∧ ∀ i m H, W i m H →
      (J.stop i H ∧ (rIn K true (.bl false) (.ref D) H Q)) ∨ (J.go i H ∧ ∃ Nx : Hp → Prop, (∀ H', Nx H' → ∃ m', m' < m ∧ W (i + 1) m' H') ∧ ∀ x' H', J.yld i H x' H' → gTup K 2 (gCons (gName 2) (gCons (gName 3) gNil)) x' (wipe [some x, some y, none, none] [2, 3]) H' fun σ2 H2 => wipe σ2 [2, 3] = wipe [some x, some y, none, none] [2, 3] ∧ tYes σ2 H2 fun b H3 =>
        if b = true then tCall (spSame K n) [] E0 (tCons (tVar 2) (tCons (tVar 3) tNil)) σ2 H3 fun y H4 => ∃ acc, H4 D = some (.lst acc) ∧ acc.length < sizeLine ∧ Nx (upd H4 D (.lst (acc ++ [y]))) else Nx H3) := by
    intro a b xs ys ds J G H0 hG W s0 ax ay hd hz D nD qq
    refine lc_it W (fun i H1 => Same H0 H1 ∧ H1 D = some (.lst (List.replicate i (V.bl true)))) ⟨same_upd nD, upd_same⟩ (fun i H1 _ h => hG H1 h.1) (fun i x' H1 H2 hi h y' => ?_) (fun H1 h => ?_)
    · obtain ⟨T, x1, x2, rfl, nT, rfl, e1, e2⟩ := y'
      have e1 : xs[i]? = some x1 := e1
      have e2 : ys[i]? = some x2 := e2
      obtain ⟨d1, g1, dx⟩ := DpAll_get ax e1
      obtain ⟨d2, g2, dy⟩ := DpAll_get ay e2
      rw [g1] at g2
      cases g2
      have nDT : D ≠ T := ne_of_none h.2 nT
      have s1 : Same H1 (upd H1 T (.tup [x1, x2])) := same_upd nT
      have s2 := s0.trans (h.1.trans s1)
      refine ⟨T, _, rfl, SqT.of upd_same, rfl, _, _, rfl, _, _, rfl, rfl, rfl, yes (ifp rfl ⟨_, rfl, _, rfl, x1, x2, d1, rfl, Dp_same s2 dx, Dp_same s2 dy, hd _ (List.mem_of_getElem? g1), fun H5 s5 => ?_⟩)⟩
      refine ⟨_, s5 _ _ (s1 _ _ h.2), by rw [List.length_replicate]; omega, fun b o e => ?_, ?_⟩
      · rw [upd_ne (ne_of_none e nD)]
        exact s5 _ _ (s1 _ _ (h.1 _ _ e))
      · rw [upd_same, List.replicate_succ']
    · refine ⟨D, _, rfl, .inl (SqL.of h.2), rfl, flat_trues _, ?_⟩
      rw [inV_trues]
      exact qq H1 h.1 h.2
  cases d with
  | none =>
    cases hx; cases hy
    refine ⟨_, rfl, rfl, _, rfl, ifp (by decide) ⟨_, rfl, rfl, ?_⟩⟩
    exact q H (Same.refl H)
  | bool b =>
    cases hx; cases hy
    refine ⟨_, rfl, rfl, _, rfl, ifn (by simp) ?_⟩
    refine ⟨_, rfl, .bool, _, _, rfl, .bl b, _, rfl, iteT ?_⟩
    refine iteT ⟨_, rfl, .bool, _, _, rfl, .bl b, _, rfl, iteT ⟨_, rfl, .bool, _, _, rfl, .bl b, _, rfl, iteT ⟨_, rfl, _, rfl, rfl, ?_⟩⟩⟩
    rw [decide_eq_true rfl]
    exact q H (Same.refl H)
  | int b =>
    cases hx; cases hy
    refine ⟨_, rfl, rfl, _, rfl, ifn (by simp) ?_⟩
    refine ⟨_, rfl, .bool, _, _, rfl, .int b, _, rfl, iteF ⟨_, rfl, .bool, _, _, rfl, .int b, _, rfl, iteF ?_⟩⟩
    refine ⟨_, rfl, .int, _, _, rfl, .int b, _, rfl, iteT ⟨_, rfl, .int, _, _, rfl, .int b, _, rfl, iteT ⟨_, rfl, _, rfl, rfl, ?_⟩⟩⟩
    rw [decide_eq_true rfl]
    exact q H (Same.refl H)
  | str b =>
    cases hx; cases hy
    refine ⟨_, rfl, rfl, _, rfl, ifn (by simp) ?_⟩
    refine ⟨_, rfl, .bool, _, _, rfl, .str b, _, rfl, iteF ⟨_, rfl, .bool, _, _, rfl, .str b, _, rfl, iteF ?_⟩⟩
    refine ⟨_, rfl, .int, _, _, rfl, .str b, _, rfl, iteF ?_⟩
    refine ⟨_, rfl, .str, _, _, rfl, .str b, _, rfl, iteT ⟨_, rfl, .str, _, _, rfl, .str b, _, rfl, iteT ⟨_, rfl, _, rfl, rfl, ?_⟩⟩⟩
    rw [decide_eq_true rfl]
    exact q H (Same.refl H)
  | dict _ => cases hx
  | list ds =>
    have hx' := hx
    have hy' := hy
    cases hx with
    | @lst a xs _ sx ax =>
    cases hy with
    | @lst b ys _ sy ay =>
    have hl : xs.length = ys.length := (DpAll_len ax).trans (DpAll_len ay).symm
    refine ⟨_, rfl, rfl, _, rfl, ifn (by simp) ?_⟩
    refine ⟨_, rfl, .bool, _, _, rfl, hy', _, rfl, iteF ⟨_, rfl, .bool, _, _, rfl, hx', _, rfl, iteF ?_⟩⟩
    refine ⟨_, rfl, .int, _, _, rfl, hy', _, rfl, iteF ?_⟩
    refine ⟨_, rfl, .str, _, _, rfl, hy', _, rfl, iteF ?_⟩
    refine ⟨_, rfl, .tuple, _, _, rfl, hy', _, rfl, .tuple, _, _, rfl, hx', rfl, _, rfl, ifn (by simp) ⟨_, rfl, .list, _, _, rfl, hy', _, rfl, .list, _, _, rfl, hx', rfl, _, rfl, ifn (by simp) ?_⟩⟩
    refine ⟨_, rfl, a, _, rfl, .inl sx, _, rfl, b, _, rfl, .inl sy, rfl, _, rfl, ifn (by simp [hl]) ?_⟩
    refine ⟨_, rfl, _, rfl, a, b, xs, ys, rfl, .inl ⟨sx, sy, fun D nD => ?_⟩⟩
    refine items (a := a) (b := b) H (fun H1 e => ⟨e.seq sx, e.seq sy⟩) (walk_zip (by omega)) (Same.refl H) ax ay hn.2 (by rw [DpAll_len ax]; exact hn.1) D nD (fun H1 e _ => q H1 e)
  | tuple ds =>
    have hx' := hx
    have hy' := hy
    cases hx with
    | @tup a xs _ sx ax =>
    cases hy with
    | @tup b ys _ sy ay =>
    have hl : xs.length = ys.length := (DpAll_len ax).trans (DpAll_len ay).symm
    refine ⟨_, rfl, rfl, _, rfl, ifn (by simp) ?_⟩
    refine ⟨_, rfl, .bool, _, _, rfl, hy', _, rfl, iteF ⟨_, rfl, .bool, _, _, rfl, hx', _, rfl, iteF ?_⟩⟩
    refine ⟨_, rfl, .int, _, _, rfl, hy', _, rfl, iteF ?_⟩
    refine ⟨_, rfl, .str, _, _, rfl, hy', _, rfl, iteF ?_⟩
    refine ⟨_, rfl, .tuple, _, _, rfl, hy', _, rfl, .tuple, _, _, rfl, hx', rfl, _, rfl, ifn (by simp) ⟨_, rfl, .list, _, _, rfl, hy', _, rfl, .list, _, _, rfl, hx', rfl, _, rfl, ifn (by simp) ?_⟩⟩
    refine ⟨_, rfl, a, _, rfl, .inr sx, _, rfl, b, _, rfl, .inr sy, rfl, _, rfl, ifn (by simp [hl]) ?_⟩
    refine ⟨_, rfl, _, rfl, a, b, xs, ys, rfl, .inr ⟨sx, sy, fun D nD => ?_⟩⟩
    refine items (a := a) (b := b) H (fun H1 e => ⟨Same.sqT e sx, Same.sqT e sy⟩) (walk_zipT (by omega)) (Same.refl H) ax ay hn.2 (by rw [DpAll_len ax]; exact hn.1) D nD (fun H1 e _ => q H1 e)
theorem ok__law_same (T : Tx K mg) : ∀ n : Nat, Ok P w K mg base n "_law_same" ["_law_found", "_law_due"] (spSame K n)
  | 0 => by
    obtain ⟨f, fd, F, b, g⟩ := T.d__law_same
    have no : ∀ vs H Q E, ¬ spSame K 0 vs H Q E := fun vs H Q E ⟨_, _, _, _, _, _, h, _⟩ => h
    exact ⟨f, fd, g, F.kp, b, ⟨fun vs H Q E h => absurd h (no vs H Q E), fun A outer s H args us vs Q E _ _ _ _ h => absurd h (no vs H Q E)⟩⟩
  | n + 1 => step__law_same T (ok__law_same T n)
end

/-! ### k81 -/
section
variable {P : Program} {w : World} {K : PySem.W.Frag} {mg : Str → Option Value} {base : Heap}
def spAnew : Sp := fun vs H Q _ => ∃ (p c : Addr) (n : Nat), vs = [.ref p] ∧ Pen H p c n ∧ ∀ H', But p H H' → Pen H' p c n → Q (.ref p) H'
theorem ok__law_anew (T : Tx K mg) : Ok P w K mg base 1 "_law_anew" ["_law_pen"] spAnew := by
  refine Ok.mk T.d__law_anew sc__law_anew (fun vs H Q E h => ?_) (fun f cdv A outer s H vs Q E hr h => ?_)
  · obtain ⟨p, c, n, rfl, _⟩ := h
    rfl
  obtain ⟨p, c, n, rfl, ⟨⟨a, r, ep, a0, a1, r0⟩, ⟨ns, ec⟩, ncp⟩, q⟩ := h
  refine ⟨_, (pss_cons (ps_asg (pe_int) (pg_sub (pv 0) (pe_int) set_list))
 (pss_one (ps_ret (pv 0)))), ?_⟩
  refine ⟨_, rfl, p, _, _, _, rfl, rfl, ep, ixN_of 2 rfl (by show 2 < 3; decide), _, rfl, ?_⟩
  exact q _ But.upd ⟨⟨a, 0, upd_same, a0, a1, by decide⟩, ⟨ns, by rw [upd_ne ncp]; exact ec⟩, ncp⟩
/-- what dealt tells -/
def dl (m n : Nat) : List V := (List.range m).map fun a => V.int ((K81.E m a n : Nat) : Int)
def spDealt : Sp := fun vs H Q _ => ∃ (n m : Nat), vs = [.int (n : Nat), .int (m : Nat)] ∧ 0 < m ∧ m ≤ 9 ∧ n < 2 ^ 62 ∧ ∀ p H', Same H H' → H p = none → H' p = some (.lst (dl m n)) → Q (.ref p) H'
theorem rangeV_set (m a : Nat) (f : Nat → V) (v : V) : ((List.range m).map f).set a v = (List.range m).map fun i => if i = a then v else f i := by
  apply List.ext_getElem?
  intro i
  rw [List.getElem?_set, List.getElem?_map, List.getElem?_map, List.length_map, List.length_range]
  by_cases hi : i < m
  · rw [List.getElem?_range hi]
    by_cases e : a = i
    · subst e; simp [hi]
    · rw [if_neg e]; simp [Ne.symm e]
  · rw [List.getElem?_eq_none (by simpa using hi)]
    by_cases e : a = i
    · subst e; simp [hi]
    · rw [if_neg e]; rfl
theorem rep0 (m : Nat) (v : V) : (List.replicate m [v]).flatten = (List.range m).map fun _ => v := by
  rw [List.map_const', List.length_range]
  induction m with
  | zero => rfl
  | succ m ih => rw [List.replicate_succ, List.flatten_cons, ih, List.replicate_succ]; rfl
theorem ok_dealt (T : Tx K mg) : Ok P w K mg base 1 "dealt" ["k", "many"] spDealt := by
  refine Ok.mk T.d_dealt sc_dealt (fun vs H Q E h => ?_) (fun f cdv A outer s H vs Q E hr h => ?_)
  · obtain ⟨n, m, rfl, _⟩ := h
    rfl
  obtain ⟨n, m, rfl, m0, m9, hn, q⟩ := h
  refine ⟨_, (pss_cons (ps_set (i := 2) sc_dealt.nd rfl (Or.inl rfl) (pe_op op_rep (pe_lst (pa_cons (pe_int) (pa_nil))) (pv 1)))
 (pss_cons (ps_set (i := 3) sc_dealt.nd rfl (Or.inl rfl) (pe_int))
 (pss_cons (ps_while PassesOwn.never (pt_cmpR op_gt (pv 0) (pe_int) (nomark _))
 (pss_cons (ps_for PassesOwn.never rfl (pi_range1 (by rfl) T.z_range (pa_cons (pv 1) (pa_nil))) (pg_nameL (i := 4) sc_dealt.nd rfl rfl)
 (pss_cons (ps_augS (pv 2) (pv 4) (getL K rfl) (pe_op op_mul (pe_op op_mod (pv 0) (pe_int)) (pv 3)) iop_add set_list)
 (pss_one (ps_aug (i := 0) sc_dealt.nd rfl (Or.inl rfl) (pe_int) iop_fdiv))))
 (pss_one (ps_aug (i := 3) sc_dealt.nd rfl (Or.inl rfl) (pe_int) iop_mul))))
 (pss_one (ps_ret (pv 2)))))), ?_⟩
  refine ⟨by show 1 ≤ sizeLine; decide, fun t nt => ?_⟩
  refine ⟨_, rfl, t, _, _, rfl, rfl, upd_same, by omega, by omega, ?_, fun p np => ?_⟩
  · show 1 * m ≤ sizeLine
    exact Nat.le_trans (by omega : 1 * m ≤ 9) (by decide)
  have s1 := same_upd (o := .lst [V.int 0]) nt
  have s2 := same_upd (o := .lst (List.replicate ((m : Nat) : Int).toNat [V.int 0]).flatten) np
  have sH := s1.trans s2
  have hp : upd (upd H t (.lst [V.int 0])) p (.lst (List.replicate ((m : Nat) : Int).toNat [V.int 0]).flatten) p = some (.lst ((List.range m).map fun _ => V.int ((0 : Nat) : Int))) := by
    rw [upd_same, ← rep0]
    rfl
  have npH := s1.free np
  generalize upd (upd H t (.lst [V.int 0])) p (.lst (List.replicate ((m : Nat) : Int).toNat [V.int 0]).flatten) = H2 at sH hp ⊢
  refine ⟨fun μ σ H3 => ∃ (F : Nat → Nat) (k wt : Nat) (y : Option V), μ = k ∧ σ = [some (.int (k : Nat)), some (.int (m : Nat)), some (.ref p), some (.int (wt : Nat)), y] ∧ But p H2 H3 ∧ H3 p = some (.lst ((List.range m).map fun a => V.int ((F a : Nat) : Int))) ∧ ∀ a, a < m → F a + wt * K81.E m a k = K81.E m a n,
    ⟨n, fun _ => 0, n, 1, none, rfl, rfl, But.refl p H2, hp, fun a _ => by show 0 + 1 * _ = _; omega⟩, ?_⟩
  rintro μ σ H3 ⟨F, k, wt, y, rfl, rfl, bt, h3, inv⟩
  refine ⟨_, rfl, _, _, rfl, rfl, _, rfl, ite2 (fun e => ?_) (fun e => ?_)⟩
  · have k0 : 0 < μ := by
      have := of_decide_eq_true e
      omega
    refine ⟨fun σ' H' => ∃ m', m' < μ ∧ ∃ (F : Nat → Nat) (k wt : Nat) (y : Option V), m' = k ∧ σ' = [some (.int (k : Nat)), some (.int (m : Nat)), some (.ref p), some (.int (wt : Nat)), y] ∧ But p H2 H' ∧ H' p = some (.lst ((List.range m).map fun a => V.int ((F a : Nat) : Int))) ∧ ∀ a, a < m → F a + wt * K81.E m a k = K81.E m a n, fun _ _ h => h, ?_⟩
    refine ⟨_, rfl, ((m : Nat) : Int), rfl, by omega, by omega, for_range (lo := 0) (n := m) (fun a σ H4 => ∃ y, σ = [some (.int ((μ / 2 ^ a : Nat) : Int)), some (.int (m : Nat)), some (.ref p), some (.int (wt : Nat)), y] ∧ But p H2 H4 ∧ H4 p = some (.lst ((List.range m).map fun i => V.int ((K81.mid F μ wt a i : Nat) : Int)))) ?_ ?_ ?_⟩
    · exact ⟨y, by simp, bt, h3⟩
    · rintro a σ H4 ha ⟨y4, rfl, b4, h4⟩
      have ga : ((List.range m).map fun i => V.int ((K81.mid F μ wt a i : Nat) : Int))[a]? = some (V.int ((K81.mid F μ wt a a : Nat) : Int)) := by
        rw [List.getElem?_map, List.getElem?_range ha]; rfl
      have ea : (0 : Int) + (a : Nat) = ((a : Nat) : Int) := by omega
      refine ⟨_, rfl, _, rfl, p, _, _, _, rfl, rfl, SqL.of h4, atI_of a ea ga, _, rfl, _, _, rfl, rfl, (by show (0 : Int) < _; decide), _, rfl, _, _, rfl, rfl, .inl ⟨?_, ?_⟩, _, _, rfl, rfl, p, _, _, a, rfl, rfl, h4, ixN_of a ea (by simpa using ha), ?_⟩
      · omega
      · omega
      refine ⟨_, rfl, _, _, rfl, rfl, ⟨by decide, by decide⟩, some (.int (0 + (a : Nat))), ?_, b4.trans But.upd, ?_⟩
      · have ek : ((μ / 2 ^ a : Nat) : Int) / 2 = ((μ / 2 ^ (a + 1) : Nat) : Int) := by
          rw [Nat.pow_succ, ← Nat.div_div_eq_div_mul]
          omega
        exact congrArg (fun z => [some (V.int z), some (.int (m : Nat)), some (.ref p), some (.int (wt : Nat)), some (.int (0 + (a : Nat)))]) ek
      · rw [upd_same]
        congr 2
        rw [rangeV_set]
        apply List.map_congr_left
        intro i hi
        by_cases e1 : i = a
        · subst e1
          rw [if_pos rfl]
          have e2 : K81.mid F μ wt (i + 1) i = K81.mid F μ wt i i + μ / 2 ^ i % 2 * wt := by
            unfold K81.mid
            rw [if_pos (by omega), if_neg (by omega)]
          rw [e2]
          congr 1
        · rw [if_neg e1]
          have e2 : K81.mid F μ wt (a + 1) i = K81.mid F μ wt a i := by
            unfold K81.mid
            by_cases h1 : i < a
            · rw [if_pos h1, if_pos (by omega)]
            · rw [if_neg h1, if_neg (by omega)]
          rw [e2]
    · rintro σ H4 ⟨y4, rfl, b4, h4⟩
      refine ⟨_, rfl, _, _, rfl, rfl, .inr ⟨by decide, by decide⟩, ?_⟩
      refine ⟨μ / 2 ^ m, ?_, K81.mid F μ wt m, μ / 2 ^ m, wt * 2, y4, rfl, ?_, b4, h4, fun a ha => ?_⟩
      · have : 2 ≤ 2 ^ m := by
          have := Nat.pow_le_pow_right (by decide : 0 < 2) m0
          simpa using this
        exact Nat.div_lt_self k0 (by omega)
      · exact congrArg (fun z => [some (V.int ((μ / 2 ^ m : Nat) : Int)), some (.int (m : Nat)), some (.ref p), some (.int z), y4]) (by push_cast; rfl)
      · have h1 := inv a ha
        rw [K81.E_round ha] at h1
        have h2 : K81.mid F μ wt m a = F a + μ / 2 ^ a % 2 * wt := by
          unfold K81.mid
          rw [if_pos ha]
        rw [h2, ← h1, Nat.mul_add, Nat.mul_comm wt (μ / 2 ^ a % 2), ← Nat.mul_assoc]
        omega
  · have k0 : μ = 0 := by
      have : ¬ ((0 : Int) < (μ : Nat)) := fun z => e (decide_eq_true z)
      omega
    subst k0
    refine ⟨_, rfl, q p H3 ?_ npH ?_⟩
    · intro b o eb
      exact bt b o (ne_of_none eb npH) (sH b o eb)
    · rw [h3]
      congr 2
      unfold dl
      apply List.map_congr_left
      intro a ha
      have h1 := inv a (List.mem_range.mp ha)
      rw [K81.E_nil] at h1
      rw [← h1]
      simp
def spLDealt : Sp := spDealt
theorem ok__law_dealt (T : Tx K mg) : Ok P w K mg base 1 "_law_dealt" ["_law_number", "_law_many"] spDealt := by
  refine Ok.mk T.d__law_dealt sc__law_dealt (fun vs H Q E h => ?_) (fun f cdv A outer s H vs Q E hr h => ?_)
  · obtain ⟨n, m, rfl, _⟩ := h
    rfl
  obtain ⟨n, m, rfl, m0, m9, hn, q⟩ := h
  refine ⟨_, (pss_cons (ps_set (i := 2) sc__law_dealt.nd rfl (Or.inl rfl) (pe_lst (pa_nil)))
 (pss_cons (ps_while PassesOwn.never (pt_cmpR op_gt (pv 0) (pe_int) (nomark _))
 (pss_cons (ps_expr (appK K rfl (pv 2) (pe_op op_mod (pv 0) (pe_int))))
 (pss_one (ps_set (i := 0) sc__law_dealt.nd rfl (Or.inl rfl) (pe_op op_fdivW (pv 0) (pe_int))))))
 (pss_cons (ps_set (i := 3) sc__law_dealt.nd rfl (Or.inl rfl) (pe_lst (pa_nil)))
 (pss_cons (ps_for PassesOwn.never rfl (pi_range1 (by rfl) T.z_range (pa_cons (pv 1) (pa_nil))) (pg_nameL (i := 4) sc__law_dealt.nd rfl rfl)
 (pss_cons (ps_set (i := 5) sc__law_dealt.nd rfl (Or.inl rfl) (pe_int))
 (pss_cons (ps_for PassesOwn.never rfl (piL K rfl (revL K rfl (pe_listRg rfl (by rfl) T.z_list (prg_1 (by rfl) T.z_range (pe_callB (lenQ K rfl) (by rfl) T.z_len PySem.boot_len (pa_cons (pv 2) (pa_nil))))))) (pg_nameL (i := 6) sc__law_dealt.nd rfl rfl)
 (pss_one (ps_if (pt_cmpR op_eq (pe_op op_mod (pv 6) (pv 1)) (pv 4) (nomark _))
 (pss_one (ps_set (i := 5) sc__law_dealt.nd rfl (Or.inl rfl) (pe_op op_add (pe_op op_mul (pv 5) (pe_int)) (pe_ix (ixL K rfl) (pv 2) (pv 6) (fun _ _ => rfl)))))
 (pss_nil))))
 (pss_one (ps_expr (appK K rfl (pv 3) (pv 5)))))))
 (pss_one (ps_ret (pv 3))))))), ?_⟩
  refine ⟨Nat.zero_le _, fun g ng => ?_⟩
  have s1 := same_upd (o := .lst []) ng
  have hlen : (K81.bits n).length ≤ 62 := K81.bits_len 62 n hn
  refine ⟨fun μ σ H3 => ∃ (k : Nat) (figs : List Nat), μ = k ∧ σ = [some (.int (k : Nat)), some (.int (m : Nat)), some (.ref g), none, none, none, none] ∧ But g H H3 ∧ H3 g = some (.lst (figs.map fun b => V.int (b : Nat))) ∧ figs ++ K81.bits k = K81.bits n,
    ⟨n, n, [], rfl, rfl, But.of s1, upd_same, rfl⟩, ?_⟩
  rintro μ σ H3 ⟨k, figs, rfl, rfl, bt, h3, inv⟩
  refine ⟨_, rfl, _, _, rfl, rfl, _, rfl, ite2 (fun e => ?_) (fun e => ?_)⟩
  · have k0 : 0 < μ := by
      have := of_decide_eq_true e
      omega
    have el := congrArg List.length inv
    rw [List.length_append] at el
    refine ⟨fun σ' H' => ∃ m', m' < μ ∧ ∃ (k : Nat) (figs : List Nat), m' = k ∧ σ' = [some (.int (k : Nat)), some (.int (m : Nat)), some (.ref g), none, none, none, none] ∧ But g H H' ∧ H' g = some (.lst (figs.map fun b => V.int (b : Nat))) ∧ figs ++ K81.bits k = K81.bits n, fun _ _ h => h, ?_⟩
    refine ⟨_, rfl, .inl ⟨rfl, _, SqL.of h3⟩, _, rfl, _, _, rfl, rfl, (by show (0 : Int) < _; decide), g, _, _, rfl, rfl, h3, ?_, ?_⟩
    · rw [List.length_map]
      exact small1000 (by omega)
    refine ⟨_, rfl, _, _, rfl, rfl, wide_div (b := 2) (by decide) (by decide) (by decide) (by decide), μ / 2, by omega, μ / 2, figs ++ [μ % 2], rfl, ?_, bt.trans But.upd, ?_, ?_⟩
    · exact congrArg (fun z => [some (V.int z), some (.int (m : Nat)), some (.ref g), none, none, none, none]) (by omega : ((μ : Nat) : Int) / 2 = ((μ / 2 : Nat) : Int))
    · rw [upd_same, List.map_append]
      rfl
    · rw [← inv, K81.bits_s (show μ ≠ 0 by omega), List.append_assoc]
      rfl
  · have k0 : μ = 0 := by
      have : ¬ ((0 : Int) < (μ : Nat)) := fun z => e (decide_eq_true z)
      omega
    subst k0
    rw [K81.bits_0, List.append_nil] at inv
    subst inv
    refine ⟨Nat.zero_le _, fun p np => ?_⟩
    have npg : p ≠ g := (ne_of_none h3 np).symm
    have npH : H p = none := bt.free npg np
    have s4 := same_upd (o := .lst []) np
    refine ⟨_, rfl, ((m : Nat) : Int), rfl, by omega, by omega, for_range (lo := 0) (n := m) (fun a σ H4 => ∃ y1 y2 y3, σ = [some (.int ((0 : Nat) : Int)), some (.int (m : Nat)), some (.ref g), some (.ref p), y1, y2, y3] ∧ But p H3 H4 ∧ H4 p = some (.lst ((List.range a).map fun i => V.int ((K81.E m i n : Nat) : Int)))) ⟨none, none, none, rfl, But.of s4, upd_same⟩ ?_ ?_⟩
    · rintro a σ H4 ha ⟨y1, y2, y3, rfl, b4, h4⟩
      have hg4 := b4 _ _ npg.symm h3
      refine ⟨_, rfl, g, _, rfl, .inl (SqL.of hg4), _, rfl, ?_, fun t1 n1 => ?_⟩
      · rw [List.length_map]
        exact RgOk.of_le (by omega) (by omega) (by omega) (by omega)
      rw [List.length_map]
      have s5 := same_upd (o := .lst (rgV 0 ((K81.bits n).length : Nat))) n1
      refine ⟨t1, _, rfl, SqL.of upd_same, fun t2 n2 => ?_⟩
      have s6 := same_upd (o := .lst (rgV 0 ((K81.bits n).length : Nat)).reverse) n2
      have s56 := s5.trans s6
      have ht2 : upd (upd H4 t1 (.lst (rgV 0 ((K81.bits n).length : Nat)))) t2 (.lst (rgV 0 ((K81.bits n).length : Nat)).reverse) t2 = some (.lst (rgV 0 ((K81.bits n).length : Nat)).reverse) := upd_same
      generalize upd (upd H4 t1 (.lst (rgV 0 ((K81.bits n).length : Nat)))) t2 (.lst (rgV 0 ((K81.bits n).length : Nat)).reverse) = H6 at s56 ht2 ⊢
      have hrl : (rgV 0 ((K81.bits n).length : Nat)).reverse.length = (K81.bits n).length := by
        rw [List.length_reverse, rgV_length]
        omega
      refine ⟨t2, rfl, ⟨_, SqL.of ht2⟩, for_list (K := K) (xs := (rgV 0 ((K81.bits n).length : Nat)).reverse) (fun j σ H7 => ∃ y3, σ = [some (.int ((0 : Nat) : Int)), some (.int (m : Nat)), some (.ref g), some (.ref p), some (.int (0 + (a : Nat))), some (.int ((K81.g m a ((K81.bits n).length - j) ((K81.bits n).drop ((K81.bits n).length - j)) : Nat) : Int)), y3] ∧ H7 = H6) ?_ ?_ ?_ ?_⟩
      · refine ⟨y3, ?_, rfl⟩
        rw [Nat.sub_zero, List.drop_length]
        rfl
      · rintro j σ H7 _ ⟨y, _, rfl⟩
        exact SqL.of ht2
      · rintro j x σ H7 hx ⟨y, rfl, rfl⟩
        have hj : j < (K81.bits n).length := by
          have := (List.getElem?_eq_some_iff.mp hx).1
          omega
        have ex : x = .int (((K81.bits n).length - 1 - j : Nat) : Int) := by
          rw [List.getElem?_reverse (by rw [rgV_length]; omega), rgV_length] at hx
          unfold rgV at hx
          rw [List.getElem?_map, List.getElem?_range (by omega)] at hx
          have := (Option.some.inj hx).symm
          rw [this]
          show V.int _ = V.int _
          congr 1
          omega
        subst ex
        generalize hi : (K81.bits n).length - 1 - j = i at *
        have hi2 : (K81.bits n).length - j = i + 1 := by omega
        have hi3 : (K81.bits n).length - (j + 1) = i := by omega
        have hil : i < (K81.bits n).length := by omega
        have gd : (K81.bits n).drop i = (K81.bits n)[i] :: (K81.bits n).drop (i + 1) := List.drop_eq_getElem_cons hil
        have hg7 := s56 _ _ hg4
        have em : ((i : Nat) : Int) % ((m : Nat) : Int) = ((i % m : Nat) : Int) := by omega
        refine ⟨_, rfl, _, rfl, _, _, rfl, rfl, (by show (0 : Int) < _; omega), _, rfl, rfl, _, rfl, ite2 (fun e1 => ?_) (fun e1 => ?_)⟩
        · have e1 : ((i : Nat) : Int) % ((m : Nat) : Int) = 0 + (a : Nat) := V.int.inj (of_decide_eq_true e1)
          have e2 : i % m = a := by omega
          have gi : ((K81.bits n).map fun b => V.int ((b : Nat) : Int))[i]? = some (V.int (((K81.bits n)[i] : Nat) : Int)) := by rw [List.getElem?_map, List.getElem?_eq_getElem hil]; rfl
          refine ⟨_, rfl, _, _, rfl, rfl, .inr ⟨by decide, by decide⟩, _, rfl, _, rfl, g, _, _, _, rfl, rfl, SqL.of hg7, atI_of i rfl gi, _, _, rfl, rfl, some (.int (i : Nat)), ?_, rfl⟩
          rw [hi3, gd, hi2]
          show _ = [some (V.int ((0 : Nat) : Int)), some (.int (m : Nat)), some (.ref g), some (.ref p), some (.int (0 + (a : Nat))), some (.int (((if i % m = a then (K81.bits n)[i] + 2 * K81.g m a (i + 1) ((K81.bits n).drop (i + 1)) else K81.g m a (i + 1) ((K81.bits n).drop (i + 1))) : Nat) : Int)), some (.int (i : Nat))]
          rw [if_pos e2]
          exact congrArg (fun z => [some (V.int ((0 : Nat) : Int)), some (.int (m : Nat)), some (.ref g), some (.ref p), some (.int (0 + (a : Nat))), some (.int z), some (.int (i : Nat))]) (by push_cast; omega)
        · have e2 : i % m ≠ a := fun z => e1 (decide_eq_true (congrArg V.int (by omega)))
          refine ⟨some (.int (i : Nat)), ?_, rfl⟩
          rw [hi3, gd, hi2]
          show _ = [some (V.int ((0 : Nat) : Int)), some (.int (m : Nat)), some (.ref g), some (.ref p), some (.int (0 + (a : Nat))), some (.int (((if i % m = a then (K81.bits n)[i] + 2 * K81.g m a (i + 1) ((K81.bits n).drop (i + 1)) else K81.g m a (i + 1) ((K81.bits n).drop (i + 1))) : Nat) : Int)), some (.int (i : Nat))]
          rw [if_neg e2]
          rfl
      · rintro σ H7 ⟨y, rfl, rfl⟩
        rw [hrl, Nat.sub_self, List.drop_zero, K81.g_is ha]
        have hp7 := s56 _ _ h4
        refine ⟨_, rfl, .inl ⟨rfl, _, SqL.of hp7⟩, _, rfl, p, _, _, rfl, rfl, hp7, ?_, _, _, _, rfl, b4.trans ((But.of s56).trans But.upd), ?_⟩
        · rw [List.length_map, List.length_range]
          exact small1000 (by omega)
        · rw [upd_same, List.range_succ, List.map_append]
          rfl
    · rintro σ H4 ⟨y1, y2, y3, rfl, b4, h4⟩
      refine ⟨_, rfl, q p H4 ?_ npH h4⟩
      intro b o eb
      exact b4 b o (ne_of_none eb npH) (bt b o (ne_of_none eb ng) eb)
def spSome : Sp := fun vs H Q _ => ∃ (p c : Addr) (n : Nat), vs = [.ref p] ∧ Pen H p c n ∧ n ≤ 1000 ∧ ∀ (r : Nat) H', But p H H' → Pen H' p c (n + 3) → r < 2 ^ 62 → Q (.int (r : Nat)) H'
theorem ok__law_some_number (T : Tx K mg) (O__law_take : Ok P w K mg base 2 "_law_take" ["_law_pen", "_law_many"] spTake) : Ok P w K mg base 3 "_law_some_number" ["_law_pen"] spSome := by
  refine Ok.mk T.d__law_some_number sc__law_some_number (fun vs H Q E h => ?_) (fun f cdv A outer s H vs Q E hr h => ?_)
  · obtain ⟨p, c, n, rfl, _⟩ := h
    rfl
  obtain ⟨p, c, n, rfl, pe, hn, q⟩ := h
  refine ⟨_, (pss_cons (ps_set (i := 1) sc__law_some_number.nd rfl (Or.inl rfl) (pe_fn O__law_take (hr.mono (by omega)) (by rfl) (pa_cons (pv 0) (pa_cons (pe_int) (pa_nil)))))
 (pss_cons (ps_if (pt_cmpR op_lt (pv 1) (pe_int) (nomark _))
 (pss_one (ps_ret (pe_fn O__law_take (hr.mono (by omega)) (by rfl) (pa_cons (pv 0) (pa_cons (pe_ix (ixL K rfl) (pe_lst (pa_cons (pe_int) (pa_cons (pe_int) (pa_nil)))) (pv 1) (fun _ _ => rfl)) (pa_nil))))))
 (pss_nil))
 (pss_cons (ps_if (pt_cmpR op_eq (pv 1) (pe_int) (nomark _))
 (pss_cons (ps_set (i := 2) sc__law_some_number.nd rfl (Or.inl rfl) (pe_int))
 (pss_cons (ps_for PassesOwn.never rfl (pi_range1 (by rfl) T.z_range (pa_cons (pe_fn O__law_take (hr.mono (by omega)) (by rfl) (pa_cons (pv 0) (pa_cons (pe_int) (pa_nil)))) (pa_nil))) (pg_nameL (i := 3) sc__law_some_number.nd rfl rfl)
 (pss_one (ps_set (i := 2) sc__law_some_number.nd rfl (Or.inl rfl) (pe_op op_mul (pv 2) (pe_int)))))
 (pss_one (ps_ret (pe_op op_add (pv 2) (pe_fn O__law_take (hr.mono (by omega)) (by rfl) (pa_cons (pv 0) (pa_cons (pe_int) (pa_nil)))))))))
 (pss_nil))
 (pss_one (ps_ret (pe_ifExp (pt_cmpR op_eq (pv 1) (pe_int) (nomark _)) (pe_fn O__law_take (hr.mono (by omega)) (by rfl) (pa_cons (pv 0) (pa_cons (pe_op op_pow (pe_int) (pe_int)) (pa_nil)))) (pe_op op_mul (pe_fn O__law_take (hr.mono (by omega)) (by rfl) (pa_cons (pv 0) (pa_cons (pe_op op_pow (pe_int) (pe_int)) (pa_nil)))) (pe_int)))))))), ?_⟩
  refine ⟨_, rfl, p, c, n, 5, rfl, pe, by omega, by decide, by decide, fun k H1 k0 k5 b1 p1 => ?_⟩
  refine ⟨_, rfl, _, _, rfl, rfl, _, rfl, ite2 (fun e => ?_) (fun e => ?_)⟩
  · have e := of_decide_eq_true e
    refine ⟨_, rfl, by show 2 ≤ sizeLine; decide, fun t nt => ?_⟩
    have p2 := p1.same (same_upd (o := .lst [V.int 12, .int 400]) nt)
    have hk : k = 0 ∨ k = 1 := by omega
    rcases hk with rfl | rfl
    · refine ⟨_, rfl, t, _, _, _, rfl, rfl, SqL.of upd_same, atI_of 0 rfl rfl, p, c, n + 1, 12, rfl, p2, by omega, by decide, by decide, fun r H2 r0 r1 b2 p3 => ?_⟩
      have := q r.toNat H2 (b1.trans ((But.new nt).trans b2)) (p3.mono (by omega)) (by omega)
      rwa [show ((r.toNat : Nat) : Int) = r by omega] at this
    · refine ⟨_, rfl, t, _, _, _, rfl, rfl, SqL.of upd_same, atI_of 1 rfl rfl, p, c, n + 1, 400, rfl, p2, by omega, by decide, by decide, fun r H2 r0 r1 b2 p3 => ?_⟩
      have := q r.toNat H2 (b1.trans ((But.new nt).trans b2)) (p3.mono (by omega)) (by omega)
      rwa [show ((r.toNat : Nat) : Int) = r by omega] at this
  · refine ⟨_, rfl, rfl, _, rfl, ite2 (fun e1 => ?_) (fun e1 => ?_)⟩
    · refine ⟨_, rfl, p, c, n + 1, 40, rfl, p1, by omega, by decide, by decide, fun r H2 r0 r1 b2 p2 => ?_⟩
      refine ⟨r, rfl, by omega, by omega, for_range (lo := 0) (n := r.toNat) (fun i σ H3 => ∃ y, σ = [some (.ref p), some (.int k), some (.int ((2 ^ i : Nat) : Int)), y] ∧ H3 = H2) ⟨none, rfl, rfl⟩ ?_ ?_⟩
      · rintro i σ H3 hi ⟨y, rfl, rfl⟩
        refine ⟨_, rfl, _, _, rfl, rfl, .inr ⟨by decide, by decide⟩, some (.int (0 + (i : Nat))), ?_, rfl⟩
        exact congrArg (fun z => [some (V.ref p), some (.int k), some (.int z), some (.int (0 + (i : Nat)))]) (by rw [Nat.pow_succ]; push_cast; rfl)
      · rintro σ H3 ⟨y, rfl, rfl⟩
        refine ⟨_, rfl, _, rfl, p, c, n + 2, 3, rfl, p2, by omega, by decide, by decide, fun r' H4 r2 r3 b3 p3 => ?_⟩
        refine ⟨_, _, rfl, rfl, ?_⟩
        have hb : 2 ^ r.toNat ≤ 2 ^ 40 := Nat.pow_le_pow_right (by decide) (by omega)
        have := q (2 ^ r.toNat + r'.toNat) H4 (b1.trans (b2.trans b3)) p3 (by omega)
        rwa [show ((2 ^ r.toNat + r'.toNat : Nat) : Int) = ((2 ^ r.toNat : Nat) : Int) + r' by push_cast; omega] at this
    · refine ⟨_, rfl, rfl, _, rfl, ite2 (fun e2 => ?_) (fun e2 => ?_)⟩
      · refine ⟨_, rfl, _, _, rfl, rfl, ⟨by decide, by decide, by decide⟩, p, c, n + 1, _, rfl, p1, by omega, by decide, by decide, fun r H2 r0 r1 b2 p2 => ?_⟩
        have r1 : r < 1000000000000000000 := r1
        have := q r.toNat H2 (b1.trans b2) (p2.mono (by omega)) (by omega)
        rwa [show ((r.toNat : Nat) : Int) = r by omega] at this
      · refine ⟨_, rfl, _, _, rfl, rfl, ⟨by decide, by decide, by decide⟩, p, c, n + 1, _, rfl, p1, by omega, by decide, by decide, fun r H2 r0 r1 b2 p2 => ?_⟩
        have r1 : r < 1000000 := r1
        refine ⟨_, _, rfl, rfl, .inr ⟨by decide, by decide⟩, ?_⟩
        have := q (r.toNat * 1024) H2 (b1.trans b2) (p2.mono (by omega)) (by omega)
        rwa [show ((r.toNat * 1024 : Nat) : Int) = r * 1024 by omega] at this
theorem dl_data (m n : Nat) : ∃ ns : List Int, dl m n = ns.map V.int ∧ ns.length = m := by
  refine ⟨(List.range m).map fun a => ((K81.E m a n : Nat) : Int), ?_, by simp⟩
  unfold dl
  rw [List.map_map]
  rfl
theorem dl_dp {H : Hp} {p : Addr} {m n : Nat} (h : H p = some (.lst (dl m n))) : ∃ d, Dp K H (.ref p) d ∧ (m ≤ 9 → fit 2 d) ∧ ∀ {H' : Hp} {q : Addr}, H' q = some (.lst (dl m n)) → Dp K H' (.ref q) d := by
  obtain ⟨ns, e, hl⟩ := dl_data m n
  rw [e] at h
  refine ⟨_, .lst (SqL.of h) (DpAll_ints ns), fun h9 => ⟨?_, fun x hx => ?_⟩, fun {H'} {q} h' => ?_⟩
  · rw [List.length_map]
    exact small1000 (by omega)
  · obtain ⟨i, _, rfl⟩ := List.mem_map.mp hx
    exact True.intro
  · rw [e] at h'
    exact .lst (SqL.of h') (DpAll_ints ns)
theorem ok_law (T : Tx K mg) {f : Addr} {fd : FuncData} (F : Fun K "law" "law" s_law f fd) : FnOk P w K mg base CX0 10 f fd ["_law_script"] (spLaw K) := by
  have O__law_spread := ok__law_spread (P := P) (w := w) (base := base) T
  have O__law_open := ok__law_open (P := P) (w := w) (base := base) T
  have O__law_take := ok__law_take (P := P) (w := w) (base := base) T O__law_spread
  have O__law_anew := ok__law_anew (P := P) (w := w) (base := base) T
  have O_dealt := ok_dealt (P := P) (w := w) (base := base) T
  have O__law_dealt := ok__law_dealt (P := P) (w := w) (base := base) T
  have O__law_some_number := ok__law_some_number (P := P) (w := w) (base := base) T O__law_take
  have O__law_same := ok__law_same (P := P) (w := w) (base := base) T 2
  refine F.ok sc_law (fun vs H Q E h => ?_) (fun cdv A outer s H vs Q E hr h => ?_)
  · obtain ⟨a, ns, rfl, _⟩ := h
    rfl
  obtain ⟨a, ns, rfl, hS, hl, q⟩ := h
  refine ⟨_, (pss_cons (ps_set (i := 1) sc_law.nd rfl (Or.inl rfl) (pe_fn O__law_open (hr.mono (by omega)) (by rfl) (pa_cons (pv 0) (pa_nil))))
 (pss_cons (ps_for PassesOwn.never rfl (pi_range1 (by rfl) T.z_range (pa_cons (pe_int) (pa_nil))) (pg_nameL (i := 2) sc_law.nd rfl rfl)
 (pss_cons (ps_set (i := 3) sc_law.nd rfl (Or.inl rfl) (pe_fn O__law_some_number (hr.mono (by omega)) (by rfl) (pa_cons (pe_fn O__law_anew (hr.mono (by omega)) (by rfl) (pa_cons (pv 1) (pa_nil))) (pa_nil))))
 (pss_cons (ps_set (i := 4) sc_law.nd rfl (Or.inl rfl) (pe_op op_add (pe_int) (pe_fn O__law_take (hr.mono (by omega)) (by rfl) (pa_cons (pv 1) (pa_cons (pe_int) (pa_nil))))))
 (pss_one (ps_for PassesOwn.never rfl (pi_range1 (by rfl) T.z_range (pa_cons (pe_int) (pa_nil))) (pg_nameL (i := 5) sc_law.nd rfl rfl)
 (pss_cons (ps_set (i := 6) sc_law.nd rfl (Or.inl rfl) (pe_fn O_dealt (hr.mono (by omega)) (by rfl) (pa_cons (pv 3) (pa_cons (pv 4) (pa_nil)))))
 (pss_cons (ps_if (pt_not (pt_val (pe_fn O__law_same (hr.mono (by omega)) (by rfl) (pa_cons (pv 6) (pa_cons (pe_fn O__law_dealt (hr.mono (by omega)) (by rfl) (pa_cons (pv 3) (pa_cons (pv 4) (pa_nil)))) (pa_nil))))))
 (pss_one (ps_ret (pe_bl)))
 (pss_nil))
 (pss_one (ps_expr (appK K rfl (pv 6) (pe_int)))))))))))
 (pss_cons (ps_for PassesOwn.never rfl (pi_range1 (by rfl) T.z_range (pa_cons (pe_int) (pa_nil))) (pg_nameL (i := 3) sc_law.nd rfl rfl)
 (pss_one (ps_if (pt_not (pt_val (pe_fn O__law_same (hr.mono (by omega)) (by rfl) (pa_cons (pe_fn O_dealt (hr.mono (by omega)) (by rfl) (pa_cons (pv 3) (pa_cons (pe_int) (pa_nil)))) (pa_cons (pe_fn O__law_dealt (hr.mono (by omega)) (by rfl) (pa_cons (pv 3) (pa_cons (pe_int) (pa_nil)))) (pa_nil))))))
 (pss_one (ps_ret (pe_bl)))
 (pss_nil))))
 (pss_one (ps_ret (pe_bl)))))), ?_⟩
  refine ⟨_, rfl, a, ns, rfl, hS, hl, fun p c H1 s1 np nc p1 => ?_⟩
  refine ⟨12, rfl, by decide, by decide, for_range (lo := 0) (n := 12) (fun i σ H2 => ∃ y2 y3 y4 y5 y6, σ = [some (.ref a), some (.ref p), y2, y3, y4, y5, y6] ∧ Pen H2 p c (4 * i)) ⟨none, none, none, none, none, rfl, p1⟩ ?_ ?_⟩
  · rintro i σ H2 hi ⟨y2, y3, y4, y5, y6, rfl, p2⟩
    refine ⟨_, rfl, p, c, 4 * i, rfl, p2, fun H3 b3 p3 => ?_⟩
    refine ⟨p, c, 4 * i, rfl, p3, by omega, fun r H4 b4 p4 hr4 => ?_⟩
    refine ⟨_, rfl, p, c, 4 * i + 3, 9, rfl, p4, by omega, by decide, by decide, fun m H5 m0 m9 b5 p5 => ?_⟩
    refine ⟨_, _, rfl, rfl, ?_⟩
    have em : (1 : Int) + m = ((1 + m.toNat : Nat) : Int) := by omega
    refine ⟨2, rfl, by decide, by decide, for_range (lo := 0) (n := 2) (fun j σ H6 => ∃ y5 y6, σ = [some (.ref a), some (.ref p), some (.int (0 + (i : Nat))), some (.int (r : Nat)), some (.int ((1 + m.toNat : Nat) : Int)), y5, y6] ∧ Pen H6 p c (4 * i + 4)) ⟨y5, y6, ?_, p5⟩ ?_ ?_⟩
    · exact congrArg (fun z => [some (V.ref a), some (.ref p), some (.int (0 + (i : Nat))), some (.int (r : Nat)), some (.int z), y5, y6]) em
    · rintro j σ H6 hj ⟨z5, z6, rfl, p6⟩
      refine ⟨_, rfl, _, rfl, r, 1 + m.toNat, rfl, by omega, by omega, hr4, fun t1 H7 s7 n7 h7 => ?_⟩
      refine ⟨_, rfl, _, rfl, _, rfl, r, 1 + m.toNat, rfl, by omega, by omega, hr4, fun t2 H8 s8 n8 h8 => ?_⟩
      obtain ⟨d, d1, df, d2⟩ := dl_dp (K := K) h7
      refine ⟨.ref t1, .ref t2, d, rfl, Dp_same s8 d1, d2 h8, df (by omega), fun H9 s9 => ?_⟩
      refine ⟨_, rfl, ifn (by simp) ?_⟩
      have ht1 := s9 _ _ (s8 _ _ h7)
      refine ⟨_, rfl, .inl ⟨rfl, _, SqL.of ht1⟩, t1, _, _, rfl, rfl, ht1, ?_, _, _, rfl, ?_⟩
      · unfold dl
        rw [List.length_map, List.length_range]
        exact small1000 (by omega)
      · have := p6.free n7
        exact ((p6.same s7).same (s8.trans s9)).but But.upd this.1.symm this.2.symm
    · rintro σ H6 ⟨z5, z6, rfl, p6⟩
      exact ⟨_, _, _, _, _, rfl, by rw [show 4 * (i + 1) = 4 * i + 4 by omega]; exact p6⟩
  · rintro σ H2 ⟨y2, y3, y4, y5, y6, rfl, p2⟩
    refine ⟨40, rfl, by decide, by decide, for_range (lo := 0) (n := 40) (fun i σ H2 => ∃ y2 y3 y4 y5 y6, σ = [some (.ref a), some (.ref p), y2, y3, y4, y5, y6]) ⟨_, _, _, _, _, rfl⟩ ?_ ?_⟩
    · rintro i σ H3 hi ⟨z2, z3, z4, z5, z6, rfl⟩
      have ei : (0 : Int) + (i : Nat) = ((i : Nat) : Int) := by omega
      refine ⟨_, rfl, i, 2, by rw [ei]; rfl, by omega, by omega, by omega, fun t1 H7 s7 n7 h7 => ?_⟩
      refine ⟨_, rfl, i, 2, by rw [ei]; rfl, by omega, by omega, by omega, fun t2 H8 s8 n8 h8 => ?_⟩
      obtain ⟨d, d1, df, d2⟩ := dl_dp (K := K) h7
      refine ⟨.ref t1, .ref t2, d, rfl, Dp_same s8 d1, d2 h8, df (by omega), fun H9 s9 => ?_⟩
      exact ⟨_, rfl, ifn (by simp) ⟨_, _, _, _, _, rfl⟩⟩
    · rintro σ H3 ⟨z2, z3, z4, z5, z6, rfl⟩
      exact q H3
end
theorem law_end {l : PySem.W.OpenLaw} {w : World} {K : PySem.W.Frag} {mg : Str → Option Value} {fa : Addr} (T : Tx K mg) (hmg : mg "law" = some (.ref fa)) :
    ∃ fd : FuncData, (∀ (s : Shared) (v : Value), BindsTo s fd ⟨[v], []⟩ [("_law_script", v)]) ∧ ∀ base : Heap, K.In base → base.Ns mainGlobals mg → FnOk l.prog w K mg base CX0 10 fa fd ["_law_script"] (spLaw K) := by
  obtain ⟨f, fd, F, b, g⟩ := T.d_law
  rw [hmg] at g
  cases g
  have F' := F
  obtain ⟨oc, od, kV, doc, pm, an, cdv, ct, osl, rfl, lk, hcd⟩ := F.ex
  exact ⟨_, fun s v => .of_eq rfl, fun base _ _ => ok_law T F'⟩

theorem all_mk {w : World} {K : PySem.W.Frag} {h : Heap} {mg : Str → Option Value} {f1 f2 f3 f4 f5 f6 f7 f8 f9 : Addr} (X : K.In h) (G : h.Ns mainGlobals mg)
    {od1 an1 od2 an2 od3 an3 od4 an4 od5 an5 od6 an6 od7 an7 od8 an8 od9 an9 : Option Addr} {sl1 sl2 sl3 sl4 sl5 sl6 sl7 sl8 sl9 : Array (Option Value)} {oc1 kV1 dc1 pm1 cd1 ct1 oc2 kV2 dc2 pm2 cd2 ct2 oc3 kV3 dc3 pm3 cd3 ct3 oc4 kV4 dc4 pm4 cd4 ct4 oc5 kV5 dc5 pm5 cd5 ct5 oc6 kV6 dc6 pm6 cd6 ct6 oc7 kV7 dc7 pm7 cd7 ct7 oc8 kV8 dc8 pm8 cd8 ct8 oc9 kV9 dc9 pm9 cd9 ct9 : Value}
    (a1 : PySem.W.nsIn K mainGlobals "dealt" = some (some (.ref f1))) (l1 : K.lookup f1 = some ⟨oc1, od1, .func (PySem.W.fnOf "dealt" "dealt" (defArgs s_dealt) (defBody s_dealt) (defScope s_dealt) .none kV1 dc1 pm1 an1 cd1 ct1), sl1⟩) (c1 : PySem.W.codeIn K cd1 "dealt" = true) (k1 : PySem.W.keepIn K (.ref f1) = true)
    (a2 : PySem.W.nsIn K mainGlobals "_law_spread" = some (some (.ref f2))) (l2 : K.lookup f2 = some ⟨oc2, od2, .func (PySem.W.fnOf "_law_spread" "_law_spread" (defArgs s__law_spread) (defBody s__law_spread) (defScope s__law_spread) .none kV2 dc2 pm2 an2 cd2 ct2), sl2⟩) (c2 : PySem.W.codeIn K cd2 "_law_spread" = true) (k2 : PySem.W.keepIn K (.ref f2) = true)
    (a3 : PySem.W.nsIn K mainGlobals "_law_open" = some (some (.ref f3))) (l3 : K.lookup f3 = some ⟨oc3, od3, .func (PySem.W.fnOf "_law_open" "_law_open" (defArgs s__law_open) (defBody s__law_open) (defScope s__law_open) .none kV3 dc3 pm3 an3 cd3 ct3), sl3⟩) (c3 : PySem.W.codeIn K cd3 "_law_open" = true) (k3 : PySem.W.keepIn K (.ref f3) = true)
    (a4 : PySem.W.nsIn K mainGlobals "_law_anew" = some (some (.ref f4))) (l4 : K.lookup f4 = some ⟨oc4, od4, .func (PySem.W.fnOf "_law_anew" "_law_anew" (defArgs s__law_anew) (defBody s__law_anew) (defScope s__law_anew) .none kV4 dc4 pm4 an4 cd4 ct4), sl4⟩) (c4 : PySem.W.codeIn K cd4 "_law_anew" = true) (k4 : PySem.W.keepIn K (.ref f4) = true)
    (a5 : PySem.W.nsIn K mainGlobals "_law_take" = some (some (.ref f5))) (l5 : K.lookup f5 = some ⟨oc5, od5, .func (PySem.W.fnOf "_law_take" "_law_take" (defArgs s__law_take) (defBody s__law_take) (defScope s__law_take) .none kV5 dc5 pm5 an5 cd5 ct5), sl5⟩) (c5 : PySem.W.codeIn K cd5 "_law_take" = true) (k5 : PySem.W.keepIn K (.ref f5) = true)
    (a6 : PySem.W.nsIn K mainGlobals "_law_same" = some (some (.ref f6))) (l6 : K.lookup f6 = some ⟨oc6, od6, .func (PySem.W.fnOf "_law_same" "_law_same" (defArgs s__law_same) (defBody s__law_same) (defScope s__law_same) .none kV6 dc6 pm6 an6 cd6 ct6), sl6⟩) (c6 : PySem.W.codeIn K cd6 "_law_same" = true) (k6 : PySem.W.keepIn K (.ref f6) = true)
    (a7 : PySem.W.nsIn K mainGlobals "_law_dealt" = some (some (.ref f7))) (l7 : K.lookup f7 = some ⟨oc7, od7, .func (PySem.W.fnOf "_law_dealt" "_law_dealt" (defArgs s__law_dealt) (defBody s__law_dealt) (defScope s__law_dealt) .none kV7 dc7 pm7 an7 cd7 ct7), sl7⟩) (c7 : PySem.W.codeIn K cd7 "_law_dealt" = true) (k7 : PySem.W.keepIn K (.ref f7) = true)
    (a8 : PySem.W.nsIn K mainGlobals "_law_some_number" = some (some (.ref f8))) (l8 : K.lookup f8 = some ⟨oc8, od8, .func (PySem.W.fnOf "_law_some_number" "_law_some_number" (defArgs s__law_some_number) (defBody s__law_some_number) (defScope s__law_some_number) .none kV8 dc8 pm8 an8 cd8 ct8), sl8⟩) (c8 : PySem.W.codeIn K cd8 "_law_some_number" = true) (k8 : PySem.W.keepIn K (.ref f8) = true)
    (a9 : PySem.W.nsIn K mainGlobals "law" = some (some (.ref f9))) (l9 : K.lookup f9 = some ⟨oc9, od9, .func (PySem.W.fnOf "law" "law" (defArgs s_law) (defBody s_law) (defScope s_law) .none kV9 dc9 pm9 an9 cd9 ct9), sl9⟩) (c9 : PySem.W.codeIn K cd9 "law" = true) (k9 : PySem.W.keepIn K (.ref f9) = true)
    (z1 : PySem.W.nsIn K mainGlobals "bool" = some none)
    (z2 : PySem.W.nsIn K mainGlobals "enumerate" = some none)
    (z3 : PySem.W.nsIn K mainGlobals "int" = some none)
    (z4 : PySem.W.nsIn K mainGlobals "isinstance" = some none)
    (z5 : PySem.W.nsIn K mainGlobals "len" = some none)
    (z6 : PySem.W.nsIn K mainGlobals "list" = some none)
    (z7 : PySem.W.nsIn K mainGlobals "range" = some none)
    (z8 : PySem.W.nsIn K mainGlobals "str" = some none)
    (z9 : PySem.W.nsIn K mainGlobals "tuple" = some none)
    (z10 : PySem.W.nsIn K mainGlobals "zip" = some none)
    : Tx K mg := by
  exact ⟨
    ⟨f1, _, fun_mk (st := s_dealt) l1 c1 k1, (fun_mk (st := s_dealt) l1 c1 k1).binds (ps := ["k", "many"]) (fun _ _ _ _ _ _ us hl => match us, hl with | [_, _], _ => rfl), PySem.W.mg_of X G a1⟩,
    ⟨f2, _, fun_mk (st := s__law_spread) l2 c2 k2, (fun_mk (st := s__law_spread) l2 c2 k2).binds (ps := ["_law_cell", "_law_at"]) (fun _ _ _ _ _ _ us hl => match us, hl with | [_, _], _ => rfl), PySem.W.mg_of X G a2⟩,
    ⟨f3, _, fun_mk (st := s__law_open) l3 c3 k3, (fun_mk (st := s__law_open) l3 c3 k3).binds (ps := ["_law_script"]) (fun _ _ _ _ _ _ us hl => match us, hl with | [_], _ => rfl), PySem.W.mg_of X G a3⟩,
    ⟨f4, _, fun_mk (st := s__law_anew) l4 c4 k4, (fun_mk (st := s__law_anew) l4 c4 k4).binds (ps := ["_law_pen"]) (fun _ _ _ _ _ _ us hl => match us, hl with | [_], _ => rfl), PySem.W.mg_of X G a4⟩,
    ⟨f5, _, fun_mk (st := s__law_take) l5 c5 k5, (fun_mk (st := s__law_take) l5 c5 k5).binds (ps := ["_law_pen", "_law_many"]) (fun _ _ _ _ _ _ us hl => match us, hl with | [_, _], _ => rfl), PySem.W.mg_of X G a5⟩,
    ⟨f6, _, fun_mk (st := s__law_same) l6 c6 k6, (fun_mk (st := s__law_same) l6 c6 k6).binds (ps := ["_law_found", "_law_due"]) (fun _ _ _ _ _ _ us hl => match us, hl with | [_, _], _ => rfl), PySem.W.mg_of X G a6⟩,
    ⟨f7, _, fun_mk (st := s__law_dealt) l7 c7 k7, (fun_mk (st := s__law_dealt) l7 c7 k7).binds (ps := ["_law_number", "_law_many"]) (fun _ _ _ _ _ _ us hl => match us, hl with | [_, _], _ => rfl), PySem.W.mg_of X G a7⟩,
    ⟨f8, _, fun_mk (st := s__law_some_number) l8 c8 k8, (fun_mk (st := s__law_some_number) l8 c8 k8).binds (ps := ["_law_pen"]) (fun _ _ _ _ _ _ us hl => match us, hl with | [_], _ => rfl), PySem.W.mg_of X G a8⟩,
    ⟨f9, _, fun_mk (st := s_law) l9 c9 k9, (fun_mk (st := s_law) l9 c9 k9).binds (ps := ["_law_script"]) (fun _ _ _ _ _ _ us hl => match us, hl with | [_], _ => rfl), PySem.W.mg_of X G a9⟩,
    PySem.W.mg_none_of X G z1,
    PySem.W.mg_none_of X G z2,
    PySem.W.mg_none_of X G z3,
    PySem.W.mg_none_of X G z4,
    PySem.W.mg_none_of X G z5,
    PySem.W.mg_none_of X G z6,
    PySem.W.mg_none_of X G z7,
    PySem.W.mg_none_of X G z8,
    PySem.W.mg_none_of X G z9,
    PySem.W.mg_none_of X G z10⟩
end LW
open PySem PySem.W PyProof.Rows
set_option maxRecDepth 100000 in
set_option maxHeartbeats 0 in
theorem PySem.Challenge.cw_leapwork_k81_numbers_dealt_holds : PySem.Challenge.rw_leapwork_k81_numbers_dealt.Holds := by
  w_on; o_law; k_head; (case hw => w_witness2)
  k_fill
  refine L2.walk_of (l := PySem.Challenge.rw_leapwork_k81_numbers_dealt) (n := 63) (k := 10) (x := "_law_script") (CX := fun _ => L2.CX0) (sp := fun w => LW.spLaw _) rfl (by decide) rfl ⟨rfl, by decide, by decide⟩ (fun w h Y => PySem.W.kIn_of Y) ?F (fun _ _ a ns hl _ hS => ⟨a, ns, rfl, hS, hl, fun _ => rfl⟩) (fun _ _ _ _ _ h => h)
  case F =>
    intro w mg fa h KX G hmg
    refine' LW.law_end (LW.all_mk (w := w) KX G ?a1 ?l1 ?c1 ?k1 ?a2 ?l2 ?c2 ?k2 ?a3 ?l3 ?c3 ?k3 ?a4 ?l4 ?c4 ?k4 ?a5 ?l5 ?c5 ?k5 ?a6 ?l6 ?c6 ?k6 ?a7 ?l7 ?c7 ?k7 ?a8 ?l8 ?c8 ?k8 ?a9 ?l9 ?c9 ?k9 ?z1 ?z2 ?z3 ?z4 ?z5 ?z6 ?z7 ?z8 ?z9 ?z10) hmg
    (case a1 => k_is); (case l1 => k_is); (case c1 => k_is); (case k1 => k_is)
    (case a2 => k_is); (case l2 => k_is); (case c2 => k_is); (case k2 => k_is)
    (case a3 => k_is); (case l3 => k_is); (case c3 => k_is); (case k3 => k_is)
    (case a4 => k_is); (case l4 => k_is); (case c4 => k_is); (case k4 => k_is)
    (case a5 => k_is); (case l5 => k_is); (case c5 => k_is); (case k5 => k_is)
    (case a6 => k_is); (case l6 => k_is); (case c6 => k_is); (case k6 => k_is)
    (case a7 => k_is); (case l7 => k_is); (case c7 => k_is); (case k7 => k_is)
    (case a8 => k_is); (case l8 => k_is); (case c8 => k_is); (case k8 => k_is)
    (case a9 => k_is); (case l9 => k_is); (case c9 => k_is); (case k9 => k_is)
    (case z1 => k_is)
    (case z2 => k_is)
    (case z3 => k_is)
    (case z4 => k_is)
    (case z5 => k_is)
    (case z6 => k_is)
    (case z7 => k_is)
    (case z8 => k_is)
    (case z9 => k_is)
    (case z10 => k_is)
#print axioms PySem.Challenge.cw_leapwork_k81_numbers_dealt_holds
