
import PyProof.Rows.All
import Wide.All
import OpenK.AllK
import Wide.FinOn
import HandS.ForMost
import HandS.IsInst
import HandS.Conv
import HandS.Style
import HandS.Wide
import HandS.Walk
import HandS.Zip
import HandS.Deep
import HandS.TupMul
import HandS.RaiseMore
import HandS.TupAny
import HandS.ExcInit
import HandS.Exc
import HandS.ExcOwn
import HandS.ExcIs
import HandS.WordsExc
import HandS.ExcField
import HandS.More
import HandS.DictComp
import HandS.DictEq
import HandS.Small
import HandS.Defaults
import KE.KExcIs
import KE.KDictPairs
import HandS.NoneIn
import HandS.DictTup
import HandS.SortRule
import HandS.CallLocal
import HandS.Lambda
import HandS.EndTab
import KE.SortKeyHeap
import KE.GoesEnumKw
import HandS.Codes
import PySem.Challenge.RW_leapwork_k11_sums_of_terms
set_option Elab.async false
set_option linter.all false
set_option maxRecDepth 100000
set_option maxHeartbeats 4000000
namespace LW
open PySem PySem.Spec PyProof.Rows L2 RZ
/-! ### promises that are asked only where no repr is under way (A.guards = some []) -/
structure FnG (P : Program) (w : World) (K : PySem.W.Frag) (mg : Str → Option Value) (base : Heap) (k : Nat) (f : Addr) (fd : FuncData) (ps : List Str) (sp : Sp) : Prop where
  len : ∀ vs H Q E, sp vs H Q E → vs.length = ps.length
  run : ∀ (A : Around) (fs : List Env) (s : Shared) (H : Hp) (ar : Args) (us : List Value) (vs : List V) (Q : VK) (E : XK), Room k A → A.guards = some [] → Env0 P w K mg base A fs s H → BindsTo s fd ar (ps.zip us) → Vals vs us → sp vs H Q E →
    codeAny (model P w) A (.call (.ref f) ar) (CR CX0 fs P w H s Q E) s
section
variable {P : Program} {w : World} {K : PySem.W.Frag} {mg : Str → Option Value} {base : Heap}
theorem FnG.mono {j k : Nat} {f : Addr} {fd : FuncData} {ps : List Str} {sp : Sp} (F : FnG P w K mg base j f fd ps sp) (h : j ≤ k) : FnG P w K mg base k f fd ps sp :=
  ⟨F.len, fun A fs s H ar us vs Q E hr => F.run A fs s H ar us vs Q E (hr.mono h)⟩
theorem FnG.imp {k : Nat} {f : Addr} {fd : FuncData} {ps : List Str} {sp sp' : Sp} (F : FnG P w K mg base k f fd ps sp) (h : ∀ vs H Q E, sp' vs H Q E → sp vs H Q E) : FnG P w K mg base k f fd ps sp' :=
  ⟨fun vs H Q E q => F.len vs H Q E (h _ _ _ _ q), fun A fs s H ar us vs Q E hr hg he hb hv q => F.run A fs s H ar us vs Q E hr hg he hb hv (h _ _ _ _ q)⟩
theorem FnOk.g {k : Nat} {f : Addr} {fd : FuncData} {ps : List Str} {sp : Sp} (F : FnOk P w K mg base CX0 k f fd ps sp) : FnG P w K mg base k f fd ps sp :=
  ⟨F.len, fun A fs s H ar us vs Q E hr _ => F.run A fs s H ar us vs Q E hr⟩
/-- a def by its body -/
theorem Fun.okG {x q : Str} {st : Stmt} {f : Addr} {fd : FuncData} {N ps : List Str} {k : Nat} {sp : Sp} (F : Fun K x q st f fd) (S : FnScope N ps (defScope st)) (len : ∀ vs H Q E, sp vs H Q E → vs.length = ps.length)
    (hbody : ∀ (cdv : Value) (A : Around) (fs : List Env) (s : Shared) (H : Hp) (vs : List V) (Q : VK) (E : XK), Room k (A.deeper (envOfC q (defScope st) s.heap.objs.size f cdv)) → A.guards = some [] → sp vs H Q E →
      ∃ t, PSs (cxOf CX0 P w K mg base N q (defScope st) f cdv A fs s H E).nox (defBody st) t ∧ t { nx := fun _ H' => Q .non H', rt := Q } (start N vs) H) : FnG P w K mg base (k + 1) f fd ps sp := by
  obtain ⟨oc, od, kV, doc, pm, an, cdv, ct, osl, rfl, lk, hcd⟩ := F.ex
  refine ⟨len, fun A fs s H ar us vs Q E hr hg e0 hb rv hsp => ?_⟩
  have kin : K.In s.heap := e0.mod.kin.keeps fun b o z => (e0.bs b o z).1
  have nl : s.heap.NoLimit := e0.mod.nolimit.keeps fun b o z => (e0.bs b o z).1
  have loc : ∀ y ∈ ps.zip us, (defScope st).names.lookup y.1 = some .local ∨ ((defScope st).names.lookup y.1 = some .cell ∧ ((cellsFrom (s.heap.objs.size + 1) (defScope st).names []).lookup y.1).isSome = true) := by
    rintro ⟨n, v⟩ hy
    exact (S.par n (List.of_mem_zip hy).1).imp_right fun z => ⟨z, PySem.W.cellsFrom_some _ _ _ (.inl z)⟩
  refine codeAny_call_function hr.depth (kin _ _ lk) rfl S.co S.gen rfl (PySem.W.codeRec_of kin hcd) (hb _ _ _ _ (wpAny_newFunctionEnv_cells S.kind loc fun env he s1 x => ?_))
  subst he
  refine ⟨nl.keeps x.toInCall.keep, codeAny_func ?_⟩
  obtain ⟨t, ht, hq⟩ := hbody cdv A fs s H vs Q E (hr.deeper _) hg hsp
  have J0 := inv_start (CX := CX0) (E := E) S hr.hd e0 (len _ _ _ _ hsp) rv x
  refine wpAny_mono (ht.nox.run [] s1 (start N vs) H _ J0 hq) (fun fl s' hs => ?_) (fun _ _ z => z)
  cases fl with
  | ret u =>
    obtain ⟨v, σ', H', J, r', q'⟩ := hs
    exact ⟨v, H', J.os, J.bare, J.base, J.hok, r', q'⟩
  | next =>
    obtain ⟨σ', H', J, q'⟩ := hs
    exact ⟨V.non, H', J.os, J.bare, J.base, J.hok, rfl, q'⟩
  | brk => exact (hs.elim fun _ z => z.elim fun _ z => z.2.elim)
  | cont => exact (hs.elim fun _ z => z.elim fun _ z => z.2.elim)
end
section
variable {X : Cx} {k : Nat} {f : Addr} {fd : FuncData} {ps : List Str} {sp : Sp}
theorem runG {pins : List (Addr × Obj)} {σ : L2.St} {H : Hp} {s : Shared} {Q : VK} {us : List Value} {vs : List V} (F : FnG X.prog X.w X.K X.mg X.base k f fd ps sp) (hr : Room k X.A) (hg : X.A.guards = some []) (hb : Binds X.K fd ps [])
    (I : Inv X pins σ H s) (rv : Vals vs us) (h : sp vs H Q E0) : wpAny (model X.prog X.w) X.A (call (.ref f) us) (EP X pins σ Q) X.xe s := by
  have hl : (us ++ []).length = ps.length := by rw [List.append_nil, ← rv.length]; exact F.len _ _ _ _ h
  have b := hb s us I.kIn hl
  rw [List.append_nil] at b
  refine wpAny_call (codeAny_mono (F.run X.A X.stack s H ⟨us, []⟩ us vs Q E0 hr hg I.env0 b rv h) fun r s' z => ?_)
  match r, z with
  | .ok (.ret u), z => exact I.after z
  | .ok .next, z => exact False.elim z
  | .ok .brk, z => exact False.elim z
  | .ok .cont, z => exact False.elim z
  | .error e, z => exact False.elim z
end
section
variable {X : Cx} {k : Nat} {f : Addr} {fd : FuncData} {ps : List Str} {sp : Sp} {x : Str} {e : Expr} {es : List Expr} {t : TA} {p pos : Pos}
theorem pe_callG (F : FnG X.prog X.w X.K X.mg X.base k f fd ps sp) (hr : Room k X.A) (hg : X.A.guards = some []) (gl : Gl X x) (hm : X.mg x = some (.ref f)) (hk : PySem.W.keepIn X.K (.ref f) = true) (hb : Binds X.K fd ps [])
    (ha : PA X (e :: es) t) (hdb : (x == ("__debug__" : Str)) = false := by decide) (he : starEach (e :: es) X.env = (false, eval e X.env) :: starEach es X.env := by rfl) (hpl : (backTo pos (starEach es X.env)).any (·.1) = false := by rfl) :
    PE X (.Call (.Name x p) (e :: es) [] pos) (tCall sp [] E0 t) :=
  ⟨fun pins s σ H Q I h => wpAny_Call_Name_kw (ld_glob I gl hm (PySem.W.callWith_K (h₀ := X.base) I.ok.mod.kin hk (thn (ha.run pos pins s σ H _ I h) fun us s1 ⟨vs, H1, I1, r, q⟩ => ⟨I1.kIn, runG F hr hg hb I1 r (by have q' : sp (vs ++ []) H1 Q E0 := q; rwa [List.append_nil] at q')⟩) he hpl) hdb)⟩
theorem pe_callG0 (F : FnG X.prog X.w X.K X.mg X.base k f fd ps sp) (hr : Room k X.A) (hg : X.A.guards = some []) (gl : Gl X x) (hm : X.mg x = some (.ref f)) (hk : PySem.W.keepIn X.K (.ref f) = true) (hb : Binds X.K fd ps [])
    (hdb : (x == ("__debug__" : Str)) = false := by decide) : PE X (.Call (.Name x p) [] [] pos) (tCall sp [] E0 tNil) :=
  ⟨fun pins s σ H Q I h => wpAny_Call_Name_kw (ld_glob I gl hm (PySem.W.callWith_K0 I.kIn hk (runG (us := []) (vs := []) F hr hg hb I .nil h)) hdb)⟩
end
/-! ### the law's call -/
theorem lawG {P : Program} {w : World} {K : PySem.W.Frag} {mg mb : Str → Option Value} {k : Nat} {fa a : Addr} {fd : FuncData} {x : Str} {sp : Sp} {s1 : Shared} {vs : List Value} {ns : List Int}
    (KX : K.In s1.heap) (g1 : s1.heap.Ns mainGlobals mg) (g2 : s1.heap.Ns builtinsNs mb) (g3 : ∀ x : Str, x ≠ "__name__" → mb x = bootBuiltins x) (g4 : s1.heap.NoLimit) (g5 : s1.gens = #[])
    (ha : s1.heap.get? a = some { cls := .type "list", data := .seq vs.toArray }) (hi : IntsAre vs ns) (hl : ns.length ≤ sizeLine) (hr : Room k callerA)
    (F : ∀ base : Heap, K.In base → base.Ns mainGlobals mg → FnG P w K mg base k fa fd [x] sp) (bi : ∀ (s : Shared) (u : Value), BindsTo s fd ⟨[u], []⟩ [(x, u)])
    (hsp : ∀ H : Hp, Only H → SqL K H a (ns.map V.int) → sp [.ref a] H (fun v _ => v = .bl true) fun _ _ _ => False) :
    codeAny (model P w) callerA (.call (.ref fa) ⟨[.ref a], []⟩) (fun r s' => r = .ok (.ret (.bool true)) ∧ OldK s1.heap s'.heap ∧ s'.os = s1.os ∧ AllBare s'.gens) s1 := by
  have rv := vals_ints hi
  have lv := hi.length
  suffices core : ∀ H : Hp, Only H → SqL K H a (ns.map V.int) → HOk P w H s1.heap → (∀ b, H b ≠ none → b = a) → (H a ≠ none → K.lookup a = none) →
      codeAny (model P w) callerA (.call (.ref fa) ⟨[.ref a], []⟩) (fun r s' => r = .ok (.ret (.bool true)) ∧ OldK s1.heap s'.heap ∧ s'.os = s1.os ∧ AllBare s'.gens) s1 by
    rcases hk : K.lookup a with _ | o
    · let H1 : Hp := fun b => if b = a then some (.frz { cls := .type "list", data := .seq vs.toArray } (.lst (ns.map V.int))) else none
      have h1 : H1 a = some (.frz { cls := .type "list", data := .seq vs.toArray } (.lst (ns.map V.int))) := if_pos rfl
      have h2 : ∀ b, b ≠ a → H1 b = none := fun b n => if_neg n
      refine core H1 (fun b => ?_) (.inl (.inr ⟨_, h1⟩)) (fun b u z => ?_) (fun b z => Classical.byContradiction fun n => z (h2 b n)) (fun _ => hk)
      · rcases Classical.em (b = a) with rfl | n
        · exact .inr ⟨_, _, h1⟩
        · exact .inl (h2 b n)
      · rcases Classical.em (b = a) with rfl | n
        · rw [h1] at z
          cases z
          exact ⟨ha, by rw [List.length_map]; exact hl, vs, _, rv, ha⟩
        · rw [h2 b n] at z
          cases z
    · have e := KX a o hk
      rw [ha] at e
      cases e
      exact core (fun _ => none) (fun _ => .inl rfl) (.inr ⟨_, vs.toArray, _, hk, rfl, rfl, rfl, by rw [List.size_toArray, lv]; exact hl, by simpa using rv⟩) (fun b u z => by cases (show (none : Option HO) = some u from z)) (fun b z => absurd rfl z) (fun z => absurd rfl z)
  intro H hO hS hok hA hK
  have free : ∀ {b : Addr}, b ≠ a → H b = none := fun {b} n => Classical.byContradiction fun z => n (hA b z)
  have nodict : ∀ {b : Addr} {o : Obj} {es : Array DictEntry} {ep : Nat}, s1.heap.get? b = some o → o.data = .dict es ep → H b = none := fun {b o es ep} z d => free fun y => by
    subst y
    rw [ha] at z
    cases z
    cases (show Data.seq vs.toArray _ = Data.dict es ep from d)
  have ns' : ∀ {b : Addr} {m : Str → Option Value}, s1.heap.Ns b m → (hidT s1.heap H).Ns b m := fun ⟨o, es, ep, z, d, r⟩ => ⟨o, es, ep, hidT_get z (nodict z d), d, r⟩
  have kin : K.In (hidT s1.heap H) := fun b o z => hidT_get (KX b o z) (Classical.byContradiction fun y => by
    have e := hA b y
    subst e
    rw [hK y] at z
    cases z)
  have e0 : Env0 P w K mg (hidT s1.heap H) callerA [] s1 H := ⟨rfl, ⟨kin, ns' g1, ⟨mb, ns' g2, g3⟩, let ⟨mc, z1, z2⟩ := g4; ⟨mc, ns' z1, z2⟩⟩, (fun b o z => of_hidT z), Nat.le_of_eq (hidT_size _ _), trivial, (fun b z => nomatch (show b ∈ ([] : List Addr) from z)), hok, .of_eq g5⟩
  refine codeAny_mono ((F _ kin (ns' g1)).run callerA [] s1 H ⟨[.ref a], []⟩ [.ref a] [.ref a] _ _ hr rfl e0 (bi s1 (.ref a)) (.cons rfl .nil) (hsp H hO hS)) fun r s' z => ?_
  match r, z with
  | .ok .next, z => exact False.elim z
  | .ok .brk, z => exact False.elim z
  | .ok .cont, z => exact False.elim z
  | .error e, z => exact False.elim z
  | .ok (.ret u), z =>
    obtain ⟨v, H', os, bare, un, hok', r', q⟩ := z
    have q : v = .bl true := q
    subst q
    obtain rfl : u = Value.bool true := r'
    refine ⟨rfl, OldK.of_keep fun b o z => ?_, os, bare⟩
    rcases hO b with y | ⟨ob, xs, y⟩
    · exact un.keep b o z y (fun y => nomatch (show b ∈ ([] : List Addr) from y)) (by simp)
    · obtain ⟨z1, _⟩ := hok b _ y
      obtain ⟨z2, _⟩ := hok' b _ (un.frzs b ob _ y)
      rw [z] at z1
      cases z1
      exact z2
theorem walkG {l : PySem.W.OpenLaw} {n k : Nat} {q : Program} {loose : List Str} {XP : (Str → Option Value) → Heap → Prop} {YP : World → Heap → Prop} {d : DefRec} {K : Params → PySem.W.Frag} {sp : World → Sp} {x : Str}
    (hn : l.most = some n) (hn2 : n ≤ sizeLine) (hdf : d.params.defaults = []) (hr : Room k callerA) (hY : ∀ (w : World) (h : Heap), YP w h → (K w.params).In h)
    (F : ∀ (w : World) (mg : Str → Option Value) (fa : Addr) (h : Heap), (K w.params).In h → h.Ns mainGlobals mg → mg d.name = some (.ref fa) →
      ∃ fd : FuncData, (∀ (s : Shared) (u : Value), BindsTo s fd ⟨[u], []⟩ [(x, u)]) ∧ ∀ base : Heap, (K w.params).In base → base.Ns mainGlobals mg → FnG l.prog w (K w.params) mg base k fa fd [x] (sp w))
    (hsp : ∀ (w : World) (H : Hp) (a : Addr) (ns : List Int), ns.length ≤ n → Only H → SqL (K w.params) H a (ns.map V.int) → sp w [.ref a] H (fun v _ => v = .bl true) fun _ _ _ => False) :
    PySem.W.WalkO q loose XP YP l.row.toRowW d [] (fun f vs => PySem.call f vs) :=
  Att.attach_call hn hdf fun w s0 s1 mg mb fa o pm cd doc a vs ns G Y ho hd hcd hmg hobj hints hlen hg => by
    obtain ⟨fd, hb, hF⟩ := F w mg fa _ (hY w _ Y) G.T.g hmg
    exact lawG (hY w _ Y) G.T.g G.T.b G.T.builtins G.T.nolimit hg hobj hints (Nat.le_trans hlen hn2) hr hF hb fun H hO hS => hsp w H a ns hlen hO hS
/-- room, and no repr under way -/
structure Rm (k : Nat) (A : Around) : Prop extends Room k A where
  gd : A.guards = some []
theorem Rm.mono {j k : Nat} {A : Around} (r : Rm k A) (h : j ≤ k) : Rm j A := ⟨r.toRoom.mono h, r.gd⟩

/-! ### shared words: a def of the text, its promise, calls -/
/-- a def of the text as it stands behind the top -/
def Df (K : PySem.W.Frag) (mg : Str → Option Value) (x : Str) (st : Stmt) (ps : List Str) : Prop :=
  ∃ (f : Addr) (fd : FuncData), Fun K x x st f fd ∧ Binds K fd ps [] ∧ mg x = some (.ref f)
/-- a def that keeps a promise -/
def Ok (P : Program) (w : World) (K : PySem.W.Frag) (mg : Str → Option Value) (base : Heap) (k : Nat) (x : Str) (ps : List Str) (sp : Sp) : Prop :=
  ∃ (f : Addr) (fd : FuncData), mg x = some (.ref f) ∧ PySem.W.keepIn K (.ref f) = true ∧ Binds K fd ps [] ∧ FnG P w K mg base k f fd ps sp
section
variable {P : Program} {w : World} {K : PySem.W.Frag} {mg : Str → Option Value} {base : Heap}
theorem Ok.mk {x : Str} {st : Stmt} {N ps : List Str} {k : Nat} {sp : Sp} (D : Df K mg x st ps) (S : FnScope N ps (defScope st)) (len : ∀ vs H Q E, sp vs H Q E → vs.length = ps.length)
    (hbody : ∀ (f : Addr) (cdv : Value) (A : Around) (outer : List Env) (s : Shared) (H : Hp) (vs : List V) (Q : VK) (E : XK), Rm k (A.deeper (envOfC x (defScope st) s.heap.objs.size f cdv)) → sp vs H Q E →
      ∃ t, PSs (cxOf CX0 P w K mg base N x (defScope st) f cdv A outer s H E).nox (defBody st) t ∧ t { nx := fun _ H' => Q .non H', rt := Q } (start N vs) H) : Ok P w K mg base (k + 1) x ps sp := by
  obtain ⟨f, fd, F, b, g⟩ := D
  exact ⟨f, fd, g, F.kp, b, Fun.okG F S len fun cdv A outer s H vs Q E hr hg h => hbody f cdv A outer s H vs Q E ⟨hr, hg⟩ h⟩
theorem Fn.mk {x : Str} {st : Stmt} {f : Addr} {fd : FuncData} {N ps : List Str} {k : Nat} {sp : Sp} (F : Fun K x x st f fd) (S : FnScope N ps (defScope st)) (len : ∀ vs H Q E, sp vs H Q E → vs.length = ps.length)
    (hbody : ∀ (f : Addr) (cdv : Value) (A : Around) (outer : List Env) (s : Shared) (H : Hp) (vs : List V) (Q : VK) (E : XK), Rm k (A.deeper (envOfC x (defScope st) s.heap.objs.size f cdv)) → sp vs H Q E →
      ∃ t, PSs (cxOf CX0 P w K mg base N x (defScope st) f cdv A outer s H E).nox (defBody st) t ∧ t { nx := fun _ H' => Q .non H', rt := Q } (start N vs) H) : FnG P w K mg base (k + 1) f fd ps sp :=
  Fun.okG F S len fun cdv A outer s H vs Q E hr hg h => hbody f cdv A outer s H vs Q E ⟨hr, hg⟩ h
theorem Ok.mono {x : Str} {ps : List Str} {j k : Nat} {sp : Sp} (h : Ok P w K mg base j x ps sp) (l : j ≤ k) : Ok P w K mg base k x ps sp := by
  obtain ⟨f, fd, hm, hk, hb, F⟩ := h
  exact ⟨f, fd, hm, hk, hb, F.mono l⟩
theorem Ok.imp {x : Str} {ps : List Str} {k : Nat} {sp sp' : Sp} (h : Ok P w K mg base k x ps sp) (q : ∀ vs H Q E, sp' vs H Q E → sp vs H Q E) : Ok P w K mg base k x ps sp' := by
  obtain ⟨f, fd, hm, hk, hb, F⟩ := h
  exact ⟨f, fd, hm, hk, hb, F.imp q⟩
end
section
variable {X : Cx}
theorem pe_fn {k : Nat} {x : Str} {ps : List Str} {sp : Sp} {e : Expr} {es : List Expr} {t : TA} {p pos : Pos} (O : Ok X.prog X.w X.K X.mg X.base k x ps sp) (hr : Rm k X.A) (hg : Gl X x) (ha : PA X (e :: es) t)
    (hdb : (x == ("__debug__" : Str)) = false := by decide) (he : starEach (e :: es) X.env = (false, eval e X.env) :: starEach es X.env := by rfl) (hpl : (backTo pos (starEach es X.env)).any (·.1) = false := by rfl) :
    PE X (.Call (.Name x p) (e :: es) [] pos) (tCall sp [] E0 t) := by
  obtain ⟨f, fd, hm, hk, hb, F⟩ := O
  exact pe_callG F hr.toRoom hr.gd hg hm hk hb ha hdb he hpl
theorem pe_fn0 {k : Nat} {x : Str} {ps : List Str} {sp : Sp} {p pos : Pos} (O : Ok X.prog X.w X.K X.mg X.base k x ps sp) (hr : Rm k X.A) (hg : Gl X x) (hdb : (x == ("__debug__" : Str)) = false := by decide) :
    PE X (.Call (.Name x p) [] [] pos) (tCall sp [] E0 tNil) := by
  obtain ⟨f, fd, hm, hk, hb, F⟩ := O
  exact pe_callG0 F hr.toRoom hr.gd hg hm hk hb hdb
/-- a name that is a local -/
theorem pg_nameL {i : Nat} {x : Str} {pos : Pos} (hN : X.N.Nodup) (hi : X.N[i]? = some x) (hx : X.env.scope.names.lookup x = some .local) : PG X (.Name x pos) (gName i) := pg_name hN hi (.inl hx) (.inr hx)
/-- xs[i], for xs[i] op= e -/
theorem get_list : PGet X (rIxL X.K) := by
  intro pins s σ H x y v u Q I rx ry h
  obtain ⟨p, xs, i, z, rfl, rfl, hq, he, q⟩ := h
  cases rx
  obtain ⟨t, rfl⟩ := ry
  obtain ⟨its, r, pl, hz⟩ := I.list hq
  obtain ⟨j, h1, h2, h3, h4, h5⟩ := atI_get he
  obtain ⟨w, ew, rw'⟩ := r.get h2
  have hl := r.length
  have hn := line63
  have fin : EP X pins σ Q w s := ⟨z, H, I, rw', q⟩
  by_cases h0 : 0 ≤ i
  · have hj : i.toNat = j := by
      rw [seqIndex_of h0 h5] at h1
      exact Option.some.inj h1
    exact wpAny_getItem_list pl.isList h0 (by omega) (by rw [hj]; simpa using ew) fin
  · have hj : (i + (its.toArray.size : Int)).toNat = j := by
      rw [seqIndex_neg (by omega) h4] at h1
      rw [List.size_toArray, ← hl]
      exact Option.some.inj h1
    exact wpAny_getItem_list_neg pl.isList (by omega) (by rw [List.size_toArray] <;> omega) (by omega) (by rw [hj]; simpa using ew) fin
end
/-! ### heaps -/
theorem same_upd {H : Hp} {p : Addr} {o : HO} (h : H p = none) : Same H (upd H p o) := fun b x e => by
  rw [upd_ne (ne_of_none e h)]
  exact e
/-- all but p is as it was -/
def But (p : Addr) (H H' : Hp) : Prop := ∀ b o, b ≠ p → H b = some o → H' b = some o
theorem But.refl (p : Addr) (H : Hp) : But p H H := fun _ _ _ h => h
theorem But.of {p : Addr} {H H' : Hp} (h : Same H H') : But p H H' := fun b o _ e => h b o e
theorem But.trans {p : Addr} {H H1 H2 : Hp} (a : But p H H1) (b : But p H1 H2) : But p H H2 := fun c o n h => b c o n (a c o n h)
theorem But.upd {p : Addr} {H : Hp} {o : HO} : But p H (upd H p o) := fun b x n e => by rw [upd_ne n]; exact e
theorem But.new {p q : Addr} {H : Hp} {o : HO} (h : H q = none) : But p H (L2.upd H q o) := But.of (same_upd h)
theorem But.free {p : Addr} {H H' : Hp} (e : But p H H') {l : Addr} (n : l ≠ p) (h : H' l = none) : H l = none := by
  cases q : H l with
  | none => rfl
  | some o => rw [e l o n q] at h; cases h
/-! ### the pen: [cells, at, rest] -/
/-- a pen at p, its cells at c, of which at most n were taken -/
structure Pen (H : Hp) (p c : Addr) (n : Nat) : Prop where
  pen : ∃ (at_ rest : Int), H p = some (.lst [.ref c, .int at_, .int rest]) ∧ 0 ≤ at_ ∧ at_ ≤ (n : Int) ∧ 0 ≤ rest
  cells : ∃ ns : List Int, H c = some (.lst (ns.map V.int))
  ne : c ≠ p
theorem Pen.but {H H' : Hp} {p c q : Addr} {n : Nat} (h : Pen H p c n) (b : But q H H') (n1 : p ≠ q) (n2 : c ≠ q) : Pen H' p c n := by
  obtain ⟨⟨a, r, e, z⟩, ⟨ns, e2⟩, ne⟩ := h
  exact ⟨⟨a, r, b _ _ n1 e, z⟩, ⟨ns, b _ _ n2 e2⟩, ne⟩
theorem Pen.same {H H' : Hp} {p c : Addr} {n : Nat} (h : Pen H p c n) (b : Same H H') : Pen H' p c n := by
  obtain ⟨⟨a, r, e, z⟩, ⟨ns, e2⟩, ne⟩ := h
  exact ⟨⟨a, r, b _ _ e, z⟩, ⟨ns, b _ _ e2⟩, ne⟩
theorem Pen.mono {H : Hp} {p c : Addr} {n m : Nat} (h : Pen H p c n) (l : n ≤ m) : Pen H p c m := by
  obtain ⟨⟨a, r, e, z1, z2, z3⟩, ns, ne⟩ := h
  exact ⟨⟨a, r, e, z1, by omega, z3⟩, ns, ne⟩
theorem Pen.new {H : Hp} {p c q : Addr} {n : Nat} (h : Pen H p c n) (e : H q = none) : p ≠ q ∧ c ≠ q := by
  obtain ⟨⟨a, r, e1, _⟩, ⟨ns, e2⟩, ne⟩ := h
  exact ⟨ne_of_none e1 e, ne_of_none e2 e⟩
theorem Pen.free {H : Hp} {p c q : Addr} {n : Nat} (h : Pen H p c n) (e : H q = none) : q ≠ p ∧ q ≠ c := ⟨(h.new e).1.symm, (h.new e).2.symm⟩
/-- the law's script -/
def spLaw (K : PySem.W.Frag) : Sp := fun vs H Q _ => ∃ (a : Addr) (ns : List Int), vs = [.ref a] ∧ SqL K H a (ns.map V.int) ∧ ns.length ≤ 63 ∧ ∀ H', Q (.bl true) H'
/-- so many draws at most -/
def penLim : Nat := 2 ^ 4000
theorem pen9 : 1000000000 ≤ penLim := Nat.le_trans (show 1000000000 ≤ 2 ^ 100 by decide) (Nat.pow_le_pow_right (by decide) (by decide))
theorem pen100 : 2 ^ 100 ≤ penLim := Nat.pow_le_pow_right (by decide) (by decide)
theorem lim_small {x : Int} (h0 : 0 ≤ x) (h : x ≤ 2 ^ 60 * (penLim : Int)) : x.natAbs < 2 ^ 9000 := by
  have h1 : x.natAbs ≤ 2 ^ 60 * penLim := by omega
  refine Nat.lt_of_le_of_lt h1 ?_
  unfold penLim
  rw [← Nat.pow_add]
  exact Nat.pow_lt_pow_right (by decide) (by decide)
def CPowW (i j : Int) : Prop := 0 ≤ j ∧ j ≤ 1000 ∧ i.natAbs < 2 ^ 9000
theorem powBits {a n : Int} (h : CPowW a n) : (Builtin.Int.intBits a : Int) * n ≤ 2 ^ 27 := by
  obtain ⟨h0, h1, h2⟩ := h
  have hb : Builtin.Int.intBits a ≤ 9000 := intBits_le h2
  have h3 : (Builtin.Int.intBits a : Int) * n ≤ 9000 * n := Int.mul_le_mul_of_nonneg_right (by omega) h0
  omega
theorem op_powW {X : Cx} : OpR X (binaryOp .Pow) (rI CPowW fun i j => .int (i ^ j.toNat)) := opI fun _ _ _ _ _ _ _ hc q => pow_int hc.1 (powBits hc) q
def spSpread : Sp := fun vs H Q _ => ∃ c a : Int, vs = [.int c, .int a] ∧ 0 ≤ a ∧ a ≤ (penLim : Int) ∧ ∀ (r : Int) (H' : Hp), 0 ≤ r → Same H H' → Q (.int r) H'
def spOpen (K : PySem.W.Frag) : Sp := fun vs H Q _ => ∃ (a : Addr) (ns : List Int), vs = [.ref a] ∧ SqL K H a (ns.map V.int) ∧ ns.length ≤ 63 ∧ ∀ p c H', Same H H' → H p = none → H c = none → Pen H' p c 0 → Q (.ref p) H'
def spTake : Sp := fun vs H Q _ => ∃ (p c : Addr) (n : Nat) (m : Int), vs = [.ref p, .int m] ∧ Pen H p c n ∧ n ≤ penLim ∧ 0 < m ∧ m.natAbs < 2 ^ 9000 ∧
  ∀ (r : Int) (H' : Hp), 0 ≤ r → r < m → But p H H' → Pen H' p c (n + 1) → Q (.int r) H'
theorem cut_take (xs : List V) (b : Nat) : cutV xs none (some (b : Int)) = xs.take b := by
  unfold cutV
  rw [HT.sIx_none, HT.sIx_nat, List.drop_zero, Nat.sub_zero]
  rcases Nat.le_total b xs.length with h | h
  · rw [Nat.min_eq_left h]
  · rw [Nat.min_eq_right h, List.take_of_length_le (Nat.le_refl _), List.take_of_length_le h]
theorem cut_drop (xs : List V) (a b : Nat) (h : a ≤ b) : cutV xs (some (a : Int)) (some (b : Int)) = (xs.take b).drop a := by
  unfold cutV
  rw [HT.sIx_nat, HT.sIx_nat]
  apply List.ext_getElem?
  intro i
  rw [List.getElem?_take, List.getElem?_drop, List.getElem?_drop, List.getElem?_take]
  by_cases h1 : a ≤ xs.length
  · rw [Nat.min_eq_left h1]
    by_cases h2 : b ≤ xs.length
    · rw [Nat.min_eq_left h2]
      by_cases h3 : i < b - a
      · rw [if_pos h3, if_pos (by omega)]
      · rw [if_neg h3, if_neg (by omega)]
    · rw [Nat.min_eq_right (by omega)]
      by_cases h3 : a + i < xs.length
      · rw [if_pos (by omega), if_pos (by omega)]
      · rw [List.getElem?_eq_none (by omega)]
        simp
  · rw [Nat.min_eq_right (by omega), List.getElem?_eq_none (by omega), List.getElem?_eq_none (show xs.length ≤ a + i by omega)]
    simp
theorem atI_of {α : Type} {xs : List α} {i : Int} {v : α} (j : Nat) (e : i = (j : Int)) (h : xs[j]? = some v) : atI xs i = some v := by subst e; exact atI_nat h
theorem ixN_of {n : Nat} {i : Int} (j : Nat) (e : i = (j : Int)) (h : j < n) : ixN n i = some j := by
  subst e
  unfold ixN
  rw [if_pos (by omega), if_pos (by omega)]
  simp

/-! ### data: values as trees -/
/-- less than n deep, no list too long -/
def fit : Nat → PyData → Prop
  | 0, _ => False
  | n + 1, .list xs => xs.length < sizeLine ∧ ∀ x ∈ xs, fit n x
  | n + 1, .tuple xs => xs.length < sizeLine ∧ ∀ x ∈ xs, fit n x
  | _ + 1, _ => True
theorem fit_mono : ∀ {n m : Nat} {d : PyData}, fit n d → n ≤ m → fit m d
  | 0, _, _, h, _ => False.elim h
  | n + 1, 0, _, _, l => absurd l (by omega)
  | n + 1, m + 1, .list xs, h, l => ⟨h.1, fun x hx => fit_mono (h.2 x hx) (by omega)⟩
  | n + 1, m + 1, .tuple xs, h, l => ⟨h.1, fun x hx => fit_mono (h.2 x hx) (by omega)⟩
  | n + 1, m + 1, .none, _, _ => True.intro
  | n + 1, m + 1, .bool _, _, _ => True.intro
  | n + 1, m + 1, .int _, _, _ => True.intro
  | n + 1, m + 1, .str _, _, _ => True.intro
  | n + 1, m + 1, .dict _, _, _ => True.intro
theorem ifn {c A B : Prop} [Decidable c] (h : ¬ c) (b : B) : if c then A else B := by rw [if_neg h]; exact b
theorem ifp {c A B : Prop} [Decidable c] (h : c) (a : A) : if c then A else B := by rw [if_pos h]; exact a
theorem yes {σ : L2.St} {H : Hp} {Q : Bool → Hp → Prop} (h : Q true H) : tYes σ H Q := h
inductive Cl where | bool | int | str | tuple | list | dict
def Cl.name : Cl → String
  | .bool => "bool" | .int => "int" | .str => "str" | .tuple => "tuple" | .list => "list" | .dict => "dict"
/-- isinstance of data -/
def isB : Cl → PyData → Bool
  | .bool, .bool _ => true
  | .int, .bool _ => true
  | .int, .int _ => true
  | .str, .str _ => true
  | .tuple, .tuple _ => true
  | .list, .list _ => true
  | .dict, .dict _ => true
  | _, _ => false
def tyD : PyData → String
  | .none => "NoneType" | .bool _ => "bool" | .int _ => "int" | .str _ => "str" | .list _ => "list" | .tuple _ => "tuple" | .dict _ => "dict"
theorem kitB_nn (c : Cl) (d : PyData) : kitB (tyD d) c.name = some (isB c d) := by
  cases c <;> cases d <;> (simp only [tyD, Cl.name, isB]; decide +kernel)
section
variable {K : PySem.W.Frag} {H H' : Hp}
theorem tyX_list {a : Addr} {xs : List V} (h : SqL K H a xs) : TyX K H (.ref a) (.type "list") := by
  rcases h with (h | ⟨o, h⟩) | ⟨o, its, n, h, c, _⟩
  · exact .base (.lst h)
  · exact .base (.frz h)
  · exact .kList h c
theorem tyX_tup {a : Addr} {xs : List V} (h : SqT K H a xs) : TyX K H (.ref a) (.type "tuple") := by
  rcases h with (h | ⟨o, h⟩) | ⟨o, its, n, h, c, _⟩
  · exact .base (.tup h)
  · exact .fTuple h
  · exact .kTuple h c
theorem tyX_of {x : V} {d : PyData} (h : Dp K H x d) : TyX K H x (.type (tyD d)) := by
  cases h with
  | non => exact .base .non
  | bl b => exact .base (.bl b)
  | int i => exact .base (.int i)
  | str z => exact .base (.str z)
  | lst q _ => exact tyX_list q
  | tup q _ => exact tyX_tup q
/-- isinstance(x, T) of data -/
def rIsiD (K : PySem.W.Frag) : List V → Hp → VK → Prop := fun xs H Q => ∃ (c : Cl) (x : V) (d : PyData), xs = [x, .ty c.name] ∧ Dp K H x d ∧ Q (.bl (isB c d)) H
theorem call_isiD {X : Cx} : CallR X (.builtin "isinstance") (rIsiD X.K) := by
  intro pins s σ H xs us Q I r h
  obtain ⟨c, x, d, rfl, hd, q⟩ := h
  exact call_isi pins s σ H _ us Q I r ⟨x, _, _, _, _, rfl, .ty _, tyX_of hd, kit_ty (kitB_nn c d), q⟩
theorem Same.sqT {a : Addr} {xs : List V} (e : Same H H') (h : SqT K H a xs) : SqT K H' a xs := by
  rcases h with (h | ⟨o, h⟩) | h
  · exact .inl (.inl (e _ _ h))
  · exact .inl (.inr ⟨o, e _ _ h⟩)
  · exact .inr h
mutual
theorem Dp_same (e : Same H H') : ∀ {x : V} {d : PyData}, Dp K H x d → Dp K H' x d
  | _, _, .non => .non
  | _, _, .bl b => .bl b
  | _, _, .int i => .int i
  | _, _, .str z => .str z
  | _, _, .lst q a => .lst (e.seq q) (DpAll_same e a)
  | _, _, .tup q a => .tup (Same.sqT e q) (DpAll_same e a)
theorem DpAll_same (e : Same H H') : ∀ {xs : List V} {ds : List PyData}, DpAll K H xs ds → DpAll K H' xs ds
  | _, _, .nil => .nil
  | _, _, .cons a b => .cons (Dp_same e a) (DpAll_same e b)
end
theorem DpAll_len : ∀ {xs : List V} {ds : List PyData}, DpAll K H xs ds → xs.length = ds.length
  | _, _, .nil => rfl
  | _, _, .cons _ b => by rw [List.length_cons, List.length_cons, DpAll_len b]
theorem DpAll_get : ∀ {xs : List V} {ds : List PyData} {i : Nat} {x : V}, DpAll K H xs ds → xs[i]? = some x → ∃ d, ds[i]? = some d ∧ Dp K H x d
  | _, _, 0, _, .cons a _, e => by
    cases e
    exact ⟨_, rfl, a⟩
  | _, _, i + 1, x, .cons _ b, e => DpAll_get (i := i) b e
theorem DpAll_ints : ∀ ns : List Int, DpAll K H (ns.map V.int) (ns.map PyData.int)
  | [] => .nil
  | n :: ns => .cons (.int n) (DpAll_ints ns)
theorem walk_zipT {a b : Addr} {xs ys : List V} {n : Nat} (hn : n = min xs.length ys.length) : Walk (ItzT K a b) n (fun H => SqT K H a xs ∧ SqT K H b ys) (YPair (fun i => xs[i]?) (fun i => ys[i]?)) := by
  subst hn
  refine ⟨fun i _ hi q => ?_, fun _ q => ⟨xs, ys, q.1, q.2, by omega⟩, fun i H v H' _ q y => ?_⟩
  · have h1 : i < xs.length := by omega
    have h2 : i < ys.length := by omega
    exact ⟨xs, ys, xs[i], ys[i], q.1, q.2, by simp [h1], by simp [h2]⟩
  · obtain ⟨T, x, z, h1, h2, h3, h4, h5⟩ := y
    exact ⟨T, x, z, h1, h2, h3, h4 xs q.1, h5 ys q.2⟩
theorem inV_trues (n : Nat) : inV (.bl false) (List.replicate n (V.bl true)) = false := by
  unfold inV
  rw [List.any_eq_false]
  intro x hx
  rw [List.eq_of_mem_replicate hx]
  decide
theorem flat_trues (n : Nat) : (List.replicate n (V.bl true)).all flatV = true := by
  rw [List.all_eq_true]
  intro x hx
  rw [List.eq_of_mem_replicate hx]
  rfl
end
/-- _law_same: equal data are alike -/
def spSame (K : PySem.W.Frag) (n : Nat) : Sp := fun vs H Q _ => ∃ (x y : V) (d : PyData), vs = [x, y] ∧ Dp K H x d ∧ Dp K H y d ∧ fit n d ∧ ∀ H', Same H H' → Q (.bl true) H'

/-! ### rules with the written part told (for comprehensions' blocks) -/
section
variable {X : Cx} (K : PySem.W.Frag) (eK : X.K = K)
include eK
theorem ixL : IxR X (rIxL K) := eK ▸ ix_list
theorem ixT : IxR X (rIxT K) := eK ▸ ix_tup
theorem inQ : OpR X (compareOp .In) (rIn K false) := eK ▸ op_in_seq
theorem ninQ : OpR X (compareOp .NotIn) (rIn K true) := eK ▸ op_notIn_seq
def rLenQ (K : PySem.W.Frag) : List V → Hp → VK → Prop := fun xs H Q => ∃ p ys, xs = [.ref p] ∧ (SqL K H p ys ∨ SqT K H p ys) ∧ Q (.int ys.length) H
theorem lenQ : CallR X (.builtin "len") (rLenQ K) := by subst eK; exact call_len_seq
def rListQ (K : PySem.W.Frag) : List V → Hp → VK → Prop := fun xs H Q => ∃ p ys, xs = [.ref p] ∧ (SqL K H p ys ∨ SqT K H p ys) ∧ ∀ l, H l = none → Q (.ref l) (upd H l (.lst ys))
theorem listQ : CallR X (.type "list") (rListQ K) := by subst eK; exact call_list_of
theorem slL : SlR X (rSlL K) := by subst eK; exact sl_list
theorem isiQ : CallR X (.builtin "isinstance") (rIsiD K) := by subst eK; exact call_isiD
theorem getL : PGet X (rIxL K) := eK ▸ get_list
theorem pgT {es : List Expr} {k : Nat} {t : TGs} (n : Nat) {pos : Pos} (hc : X.calm = true) (h : PGs X es t) (hn : (assignEach es X.env).length = n := by rfl) (hst : (assignEach es X.env).findIdx? (·.1) = none := by rfl) : PG X (.Tuple es k pos) (gTup K n t) := by
  subst eK
  exact pg_tup hc h hn hst
theorem piL {tg l : Expr} {tl : TE} (hl : PE X l tl) : PI X tg l (iList K tl) := eK ▸ pi_list hl
theorem piT {tg l : Expr} {tl : TE} (hl : PE X l tl) : PI X tg l (iTup K tl) := eK ▸ pi_tup hl
theorem piZ {e e2 : Expr} {ta : TA} {p pos tpos : Pos} {elts : List Expr} {kk : Nat} (hg : Gl X "zip") (hm : X.mg "zip" = none) (ha : PA X [e, e2] ta)
    (hs : starEach [e, e2] X.env = (false, eval e X.env) :: starEach [e2] X.env := by rfl) (hpl : (backTo pos (starEach [e2] X.env)).any (·.1) = false := by rfl) :
    PI X (.Tuple elts kk tpos) (.Call (.Name "zip" p) [e, e2] [] pos) (iZipA K ta) := by
  subst eK
  exact pi_zipA hg hm ha hs hpl
theorem piE {e : Expr} {ta : TA} {p pos tpos : Pos} {elts : List Expr} {kk : Nat} (hg : Gl X "enumerate") (hm : X.mg "enumerate" = none) (ha : PA X [e] ta) (hs : starEach [e] X.env = [(false, eval e X.env)] := by rfl) :
    PI X (.Tuple elts kk tpos) (.Call (.Name "enumerate" p) [e] [] pos) (iEnum K ta) := by
  subst eK
  exact pi_enum hg hm ha hs
theorem revL {e : Expr} {te : TE} {k : Nat} {p1 p2 p3 pos : Pos} (he : PE X e te) : PE X (.Subscript e (.Slice none none (some (.UnaryOp .USub (.Constant (.int 1) k p1) p2)) p3) pos) (tRevL K te) := by
  subst eK
  exact pe_revL he
theorem appK {o e : Expr} {to te : TE} {apos cpos : Pos} (ho : PE X o to) (he : PE X e te) (hbase : attributeBase o "append" X.env (eval o X.env) = eval o X.env := by rfl)
    (hfew : ((backTo cpos (starEach [e] X.env)).all (fun x => !x.1) && (backToKw cpos (keywordEach [] X.env)).all (fun x => x.1.isSome)
      && decide ([e].length + ([] : List Keyword).length + (if ([] : List Keyword).isEmpty then 0 else 1) < 30)) = true := by rfl)
    (hline : (apos.endLine == cpos.line) = true := by rfl) (hs : starEach [e] X.env = (false, eval e X.env) :: starEach [] X.env := by rfl) :
    PE X (.Call (.Attribute o "append" apos) [e] [] cpos) (tBM K "list" rAppend to (tCons te tNil)) := by
  subst eK
  exact pe_bm PySem.F.plainAttrs_list PySem.F.slot_list_append PySem.F.type_list_append mt_append ho (pa_cons he pa_nil hs) hbase hfew hline hs rfl
end

/-! ### tuples that keep their object: it is known to have no dict of its own -/
def tupObj (its : List Value) : Obj := { cls := .type "tuple", data := .seq its.toArray }
/-- a tuple, its object known to have no dict -/
def TqT (K : PySem.W.Frag) (H : Hp) (a : Addr) (xs : List V) : Prop :=
  (∃ o, H a = some (.frz o (.tup xs)) ∧ o.dict = none) ∨
    ∃ (o : Obj) (its : Array Value) (n : Nat), K.lookup a = some o ∧ o.cls = .type "tuple" ∧ o.dict = none ∧ o.data = .seq its n ∧ its.size ≤ sizeLine ∧ Vals xs its.toList
theorem TqT.of {K : PySem.W.Frag} {H : Hp} {a : Addr} {xs : List V} {o : Obj} (h : H a = some (.frz o (.tup xs))) (d : o.dict = none) : TqT K H a xs := .inl ⟨o, h, d⟩
theorem TqT.sq {K : PySem.W.Frag} {H : Hp} {a : Addr} {xs : List V} (h : TqT K H a xs) : SqT K H a xs := by
  rcases h with ⟨o, h, _⟩ | ⟨o, its, n, h1, h2, _, h4, h5, h6⟩
  · exact .inl (.inr ⟨o, h⟩)
  · exact .inr ⟨o, its, n, h1, h2, h4, h5, h6⟩
theorem Same.tqT {K : PySem.W.Frag} {H H' : Hp} {a : Addr} {xs : List V} (e : Same H H') (h : TqT K H a xs) : TqT K H' a xs := by
  rcases h with ⟨o, h, d⟩ | h
  · exact .inl ⟨o, e _ _ h, d⟩
  · exact .inr h
section
variable {X : Cx} {pins : List (Addr × Obj)} {σ : L2.St} {H : Hp} {s : Shared}
/-- its object in the heap -/
theorem TqT.obj (I : Inv X pins σ H s) {a : Addr} {xs : List V} (h : TqT X.K H a xs) : ∃ (o : Obj) (its : List Value) (n : Nat), Vals xs its ∧ s.heap.get? a = some o ∧ o.cls = .type "tuple" ∧ o.dict = none ∧ o.data = .seq its.toArray n ∧ xs.length ≤ sizeLine := by
  rcases h with ⟨o, h, d⟩ | ⟨o, its, n, h1, h2, h3, h4, h5, h6⟩
  · obtain ⟨e, z, its, r, o', e', c, n, dat⟩ := I.hok a _ h
    rw [e] at e'
    cases e'
    exact ⟨o, its, n, r, e, c, d, dat, z⟩
  · refine ⟨o, its.toList, n, h6, I.kIn a o h1, h2, h3, by simpa using h4, ?_⟩
    have := h6.length
    simp only [Array.length_toList] at this
    omega
/-- a new tuple laid down -/
theorem frz_new (I : Inv X pins σ H s) {xs : List V} {its : List Value} (r : Vals xs its) (z : xs.length ≤ sizeLine) {h' : Heap} (hk : ∀ b o, s.heap.get? b = some o → h'.get? b = some o) {a : Addr} (ha : s.heap.objs.size ≤ a) (hn : h'.get? a = some (tupObj its)) {t : Nat} :
    Inv X pins σ (L2.upd H a (.frz (tupObj its) (.tup xs))) { s with heap := h', toks := t } ∧ H a = none := by
  have hf := I.hok.fresh ha
  refine ⟨I.laid (t' := t) hk ha ?_, hf⟩
  exact ⟨hn, z, its, r, tupObj its, hn, rfl, _, rfl⟩
end
section
variable {X : Cx}
/-- a display -/
def tTupZ (t : TA) : TE := fun σ H Q => t σ H fun xs H1 => xs.length ≤ sizeLine ∧ ∀ p o, H1 p = none → o.dict = none → Q (.ref p) (L2.upd H1 p (.frz o (.tup xs)))
theorem pe_tupZ {es : List Expr} {t : TA} {k : Nat} {pos : Pos} (h : PA X es t) : PE X (.Tuple es k pos) (tTupZ t) := by
  refine ⟨fun pins s σ H Q I hq => wpAny_Tuple_spliced (thn (h.run pos pins s σ H _ I hq) fun us s1 ⟨xs, H1, I1, r, z, q⟩ => ⟨by rw [← r.length]; exact z, ?_⟩)⟩
  obtain ⟨I2, hf⟩ := frz_new I1 r z (h' := s1.heap.push (tupObj us)) (fun b u e => Heap.get?_push_of_some _ e) (Nat.le_refl _) (Heap.get?_push_size _ rfl) (t := s1.toks)
  exact ⟨.ref s1.heap.objs.size, _, I2, rfl, q _ _ hf rfl⟩
variable (K : PySem.W.Frag) (eK : X.K = K)
/-- tuple(xs) -/
def rTupQ (K : PySem.W.Frag) : List V → Hp → VK → Prop := fun xs H Q => ∃ p ys, xs = [.ref p] ∧ ((SqL K H p ys ∧ ∀ l o, H l = none → o.dict = none → Q (.ref l) (L2.upd H l (.frz o (.tup ys)))) ∨ (SqT K H p ys ∧ Q (.ref p) H))
include eK in
theorem tupQ : CallR X (.type "tuple") (rTupQ K) := by
  subst eK
  intro pins s σ H xs us Q I r h
  obtain ⟨p, ys, rfl, h⟩ := h
  obtain ⟨u, rfl, rx⟩ := vals1 r
  cases rx
  rcases h with ⟨hq, q⟩ | ⟨hq, q⟩
  · obtain ⟨its, rv, pl, hz⟩ := I.list hq
    have hlen := rv.length
    refine call_tuple_list pl.isList (fun h' kp => ?_) (by rw [List.size_toArray, ← hlen]; exact hz)
    have I1 : Inv X pins σ H { s with heap := h' } := I.kept (t' := s.toks) kp
    obtain ⟨I2, hf⟩ := frz_new I1 rv hz (h' := h'.push (tupObj its)) (fun b o e => Heap.get?_push_of_some _ e) (Nat.le_refl _) (Heap.get?_push_size _ rfl) (t := s.toks)
    exact ⟨.ref h'.objs.size, _, I2, rfl, q _ _ hf rfl⟩
  · obtain ⟨its, rv, pl, hz⟩ := I.tuple hq
    exact call_tuple_same pl ⟨.ref p, H, I, rfl, q⟩
/-- t + u -/
def rCatZ (K : PySem.W.Frag) : R2 := fun x y H Q => ∃ a b xs ys, x = .ref a ∧ y = .ref b ∧ SqT K H a xs ∧ SqT K H b ys ∧ xs.length + ys.length ≤ sizeLine ∧
  (xs = [] → Q (.ref b) H) ∧ (xs ≠ [] → ys = [] → Q (.ref a) H) ∧ (xs ≠ [] → ys ≠ [] → ∀ p o, H p = none → o.dict = none → Q (.ref p) (L2.upd H p (.frz o (.tup (xs ++ ys)))))
include eK in
theorem op_catZ : OpR X (binaryOp .Add) (rCatZ K) := by
  subst eK
  intro pins s σ H x y v u Q I rx ry h
  obtain ⟨a, b, xs, ys, rfl, rfl, ha, hb, hz, q0, q1, q2⟩ := h
  by_cases hx : xs = []
  · exact op_catA pins s σ H _ _ v u Q I rx ry ⟨a, b, xs, ys, rfl, rfl, ha, hb, hz, q0, q1, fun n => absurd hx n⟩
  by_cases hy : ys = []
  · exact op_catA pins s σ H _ _ v u Q I rx ry ⟨a, b, xs, ys, rfl, rfl, ha, hb, hz, q0, q1, fun _ n => absurd hy n⟩
  cases rx
  cases ry
  obtain ⟨i1, r1, p1, _⟩ := I.tuple ha
  obtain ⟨i2, r2, p2, _⟩ := I.tuple hb
  refine HT.cat_tup p1 p2 (fun z => hx (r1.nil_iff.mp z)) (fun z => absurd (r2.nil_iff.mp z) hy) (fun _ => ?_) (by rw [← r1.length, ← r2.length]; exact hz)
  obtain ⟨I2, hf⟩ := frz_new I (r1.append r2) (by rw [List.length_append]; exact hz) (h' := s.heap.push (tupObj (i1 ++ i2))) (fun b o e => Heap.get?_push_of_some _ e) (Nat.le_refl _) (Heap.get?_push_size _ rfl) (t := s.toks)
  exact ⟨.ref s.heap.objs.size, _, I2, rfl, q2 hx hy _ _ hf rfl⟩
/-- t[lo:hi] -/
def rSlZ (K : PySem.W.Frag) : V → Option Int → Option Int → Hp → VK → Prop := fun x lo hi H Q => ∃ a xs, x = .ref a ∧ SqT K H a xs ∧
  (HT.sIx xs.length 0 lo = 0 ∧ HT.sIx xs.length xs.length hi = xs.length → Q (.ref a) H) ∧ (¬ (HT.sIx xs.length 0 lo = 0 ∧ HT.sIx xs.length xs.length hi = xs.length) → ∀ p o, H p = none → o.dict = none → Q (.ref p) (L2.upd H p (.frz o (.tup (cutV xs lo hi)))))
include eK in
theorem sl_tupZ : SlR X (rSlZ K) := by
  subst eK
  intro pins s σ H x v vl vu lo hi sl Q I rx hs pl pu h
  obtain ⟨a, xs, rfl, hx, q1, q2⟩ := h
  by_cases hw : HT.sIx xs.length 0 lo = 0 ∧ HT.sIx xs.length xs.length hi = xs.length
  · exact sl_tupA pins s σ H _ v vl vu lo hi sl Q I rx hs pl pu ⟨a, xs, rfl, hx, q1, fun n => absurd hw n⟩
  cases rx
  obtain ⟨its, r, ht, hz⟩ := I.tuple hx
  have el : its.toArray.size = xs.length := by rw [List.size_toArray, r.length]
  refine ⟨"tuple", _, PyProof.Rows.slot_tuple_getitem.lookup, ht.typeIs, HT.getItem_tuple_cut ht hs pl pu (by rw [el]; exact hw) ?_ (by rw [el]; exact hz)⟩
  rw [el]
  have rc : Vals (cutV xs lo hi) ((its.drop (HT.sIx xs.length 0 lo)).take (HT.sIx xs.length xs.length hi - HT.sIx xs.length 0 lo)) := (r.drop (HT.sIx xs.length 0 lo)).take (HT.sIx xs.length xs.length hi - HT.sIx xs.length 0 lo)
  obtain ⟨I2, hf⟩ := frz_new I rc (Nat.le_trans (cutV_length xs lo hi) hz) (h' := s.heap.push (tupObj ((its.drop (HT.sIx xs.length 0 lo)).take (HT.sIx xs.length xs.length hi - HT.sIx xs.length 0 lo)))) (fun b o e => Heap.get?_push_of_some _ e) (Nat.le_refl _) (Heap.get?_push_size _ rfl) (t := s.toks)
  exact ⟨.ref s.heap.objs.size, _, I2, rfl, q2 hw _ _ hf rfl⟩
end

/-! ### the plain layer: values as trees, no heap in sight -/
abbrev D := PyData
def keyD : Key → D
  | .inl i => .int i
  | .inr x => .str x
mutual
inductive Rp (K : PySem.W.Frag) (H : Hp) : V → D → Prop
  | non : Rp K H .non .none
  | bl (b : Bool) : Rp K H (.bl b) (.bool b)
  | int (i : Int) : Rp K H (.int i) (.int i)
  | str (x : Str) : Rp K H (.str x) (.str x)
  | lst {a : Addr} {xs : List V} {ds : List D} : H a = some (.lst xs) → RpAll K H xs ds → Rp K H (.ref a) (.list ds)
  | tup {a : Addr} {xs : List V} {ds : List D} : TqT K H a xs → RpAll K H xs ds → Rp K H (.ref a) (.tuple ds)
  | dic {a : Addr} {kvs : List (Key × V)} {ds : List (D × D)} : Rd H a (.dK kvs) → RpKV K H kvs ds → Rp K H (.ref a) (.dict ds)
inductive RpAll (K : PySem.W.Frag) (H : Hp) : List V → List D → Prop
  | nil : RpAll K H [] []
  | cons {v : V} {vs : List V} {d : D} {ds : List D} : Rp K H v d → RpAll K H vs ds → RpAll K H (v :: vs) (d :: ds)
inductive RpKV (K : PySem.W.Frag) (H : Hp) : List (Key × V) → List (D × D) → Prop
  | nil : RpKV K H [] []
  | cons {k : Key} {v : V} {vs : List (Key × V)} {d : D} {ds : List (D × D)} : Rp K H v d → RpKV K H vs ds → RpKV K H ((k, v) :: vs) ((keyD k, d) :: ds)
end
theorem rd_same {H H' : Hp} {a : Addr} {u : HO} (e : Same H H') (h : Rd H a u) : Rd H' a u := by
  rcases h with h | ⟨o, h⟩
  · exact .inl (e _ _ h)
  · exact .inr ⟨o, e _ _ h⟩
section
variable {K : PySem.W.Frag} {H H' : Hp}
mutual
theorem Rp.mono (e : Same H H') : ∀ {x : V} {d : D}, Rp K H x d → Rp K H' x d
  | _, _, .non => .non
  | _, _, .bl b => .bl b
  | _, _, .int i => .int i
  | _, _, .str z => .str z
  | _, _, .lst q a => .lst (e _ _ q) (RpAll.mono e a)
  | _, _, .tup q a => .tup (Same.tqT e q) (RpAll.mono e a)
  | _, _, .dic q a => .dic (rd_same e q) (RpKV.mono e a)
theorem RpAll.mono (e : Same H H') : ∀ {xs : List V} {ds : List D}, RpAll K H xs ds → RpAll K H' xs ds
  | _, _, .nil => .nil
  | _, _, .cons a b => .cons (Rp.mono e a) (RpAll.mono e b)
theorem RpKV.mono (e : Same H H') : ∀ {xs : List (Key × V)} {ds : List (D × D)}, RpKV K H xs ds → RpKV K H' xs ds
  | _, _, .nil => .nil
  | _, _, .cons a b => .cons (Rp.mono e a) (RpKV.mono e b)
end
/-- the same; true: or a pair that an iterator has made -/
def RqB : Bool → PySem.W.Frag → Hp → V → D → Prop
  | false, K, H, v, d => Rp K H v d
  | true, K, H, v, d => Rp K H v d ∨ ∃ a xs ds, v = .ref a ∧ d = .tuple ds ∧ SqT K H a xs ∧ RpAll K H xs ds
theorem Rp.rq {b : Bool} {v : V} {d : D} (h : Rp K H v d) : RqB b K H v d := by
  cases b with
  | false => exact h
  | true => exact .inl h
theorem RqB.tup {b : Bool} {v : V} {ds : List D} (h : RqB b K H v (.tuple ds)) : ∃ a xs, v = .ref a ∧ SqT K H a xs ∧ RpAll K H xs ds := by
  have main : Rp K H v (.tuple ds) → ∃ a xs, v = .ref a ∧ SqT K H a xs ∧ RpAll K H xs ds := fun h => by
    cases h with
    | tup q a => exact ⟨_, _, rfl, q.sq, a⟩
  cases b with
  | false => exact main h
  | true =>
    rcases h with h | ⟨a, xs, ds', rfl, e, h1, h2⟩
    · exact main h
    · cases e
      exact ⟨a, xs, rfl, h1, h2⟩
theorem RpAll.len : ∀ {xs : List V} {ds : List D}, RpAll K H xs ds → xs.length = ds.length
  | _, _, .nil => rfl
  | _, _, .cons _ b => by rw [List.length_cons, List.length_cons, RpAll.len b]
theorem RpAll.get : ∀ {xs : List V} {ds : List D} {i : Nat} {d : D}, RpAll K H xs ds → ds[i]? = some d → ∃ x, xs[i]? = some x ∧ Rp K H x d
  | _, _, 0, _, .cons a _, e => by
    cases e
    exact ⟨_, rfl, a⟩
  | _, _, i + 1, d, .cons _ b, e => RpAll.get (i := i) b e
theorem RpAll.getV : ∀ {xs : List V} {ds : List D} {i : Nat} {x : V}, RpAll K H xs ds → xs[i]? = some x → ∃ d, ds[i]? = some d ∧ Rp K H x d
  | _, _, 0, _, .cons a _, e => by
    cases e
    exact ⟨_, rfl, a⟩
  | _, _, i + 1, d, .cons _ b, e => RpAll.getV (i := i) b e
theorem RpAll.app : ∀ {xs : List V} {ds : List D} {ys : List V} {es : List D}, RpAll K H xs ds → RpAll K H ys es → RpAll K H (xs ++ ys) (ds ++ es)
  | _, _, _, _, .nil, h => h
  | _, _, _, _, .cons a b, h => .cons a (RpAll.app b h)
theorem RpAll.take : ∀ {xs : List V} {ds : List D} (n : Nat), RpAll K H xs ds → RpAll K H (xs.take n) (ds.take n)
  | _, _, 0, _ => by simp only [List.take_zero]; exact .nil
  | _, _, n + 1, .nil => .nil
  | _, _, n + 1, .cons a b => .cons a (RpAll.take n b)
theorem RpAll.drop : ∀ {xs : List V} {ds : List D} (n : Nat), RpAll K H xs ds → RpAll K H (xs.drop n) (ds.drop n)
  | _, _, 0, h => h
  | _, _, n + 1, .nil => .nil
  | _, _, n + 1, .cons a b => RpAll.drop n b
theorem RpAll.set : ∀ {xs : List V} {ds : List D} {v : V} {d : D} (n : Nat), RpAll K H xs ds → Rp K H v d → RpAll K H (xs.set n v) (ds.set n d)
  | _, _, _, _, _, .nil, _ => .nil
  | _, _, _, _, 0, .cons a b, h => .cons h b
  | _, _, _, _, n + 1, .cons a b, h => .cons a (RpAll.set n b h)
theorem RpAll.rev : ∀ {xs : List V} {ds : List D}, RpAll K H xs ds → RpAll K H xs.reverse ds.reverse
  | _, _, .nil => .nil
  | _, _, .cons a b => by rw [List.reverse_cons, List.reverse_cons]; exact (RpAll.rev b).app (.cons a .nil)
end
/-- the state: each slot's tree, and how many draws at most were taken -/
structure S where
  δ : List (Option D)
  n : Nat
  /-- what an object of one's own holds besides -/
  h : D := .none
/-- a pen of draws, or an object of a class of one's own: its class, its fields by its number and by its other thing, the trees of those fields that stay -/
inductive PKind
  | draw
  | obj (Cc : Addr) (f : V → V → List (Str × V)) (fd : List (V × D))
/-- what stays the same through a def's body: M, the slots of its own lists and dicts (changed in place); the pen and its slot; bor, bs: lists and dicts that were handed in to be changed, and their slots -/
structure Cf where
  K : PySem.W.Frag
  pen : Option (Addr × Addr)
  ps : Nat
  M : List Nat
  bor : List Addr := []
  bs : List Nat := []
  pk : PKind := .draw
  ex : Hp → Prop := fun _ => False
  fx : List (Nat × V × Option (List V)) := []
  tb : List (Addr × Str) := []
/-- slot i is neither the pen's nor one whose value is told -/
def Cf.Nf (C : Cf) (i : Nat) : Prop := i ≠ C.ps ∧ ∀ x ∈ C.fx, x.1 ≠ i
/-- tables of code objects: what they hold is told, the code objects lie in the still part -/
def TbS (T : List (Addr × Str)) (Hs H : Hp) : Prop := ∀ t ∈ T, Hs t.1 = none ∧ ∃ ps : Array Value, H t.1 = some (.tbl ps) ∧ TriplesOk ps.toList ∧ ∀ (pos : Pos) (cv : Value), codeAmong pos ps.toList = some cv → ∃ c, cv = .ref c ∧ Hs c = some (LamX.CodeO c t.2)
theorem TbS.to {T : List (Addr × Str)} {Hs Hs' H H' : Hp} (x : TbS T Hs H) (st : Same Hs Hs') (h : ∀ t ∈ T, ∀ ps, H t.1 = some (.tbl ps) → H' t.1 = some (.tbl ps)) (nw : ∀ b, Hs b = none → Hs' b ≠ none → ∀ ps, H b ≠ some (.tbl ps)) : TbS T Hs' H' := fun t m => by
  obtain ⟨n, ps, e1, e2, e3⟩ := x t m
  refine ⟨?_, ps, h t m ps e1, e2, fun pos cv hc => ?_⟩
  · cases q : Hs' t.1 with
    | none => rfl
    | some o => exact absurd e1 (nw t.1 n (by rw [q]; simp) ps)
  · obtain ⟨c, f1, f2⟩ := e3 pos cv hc
    exact ⟨c, f1, st _ _ f2⟩
theorem TbS.nil {Hs H : Hp} : TbS [] Hs H := fun _ m => nomatch m
theorem TbS.non {T : List (Addr × Str)} {Hs H : Hp} (h : T = []) : TbS T Hs H := by subst h; exact TbS.nil
def IsPen (C : Cf) (b : Addr) : Prop := ((∃ c, C.pen = some (b, c)) ∨ b ∈ C.tb.map Prod.fst) ∨ b ∈ C.bor
/-- a slot's told value: of the law's script also what it holds -/
def ScOk (C : Cf) (H0 : Hp) (y : V × Option (List V)) : Prop := ∀ xs, y.2 = some xs → ∃ a, y.1 = .ref a ∧ SqL C.K H0 a xs ∧ (Rd H0 a (.lst xs) → ¬ IsPen C a)
def Own (C : Cf) (σ : L2.St) (b : Addr) : Prop := ∃ i, i ∈ C.M ∧ σ[i]? = some (some (.ref b))
/-- a list's or a dict's object, and its tree -/
inductive Cn (K : PySem.W.Frag) (Hs : Hp) : HO → D → Prop
  | lst {xs : List V} {ds : List D} : RpAll K Hs xs ds → Cn K Hs (.lst xs) (.list ds)
  | dic {kvs : List (Key × V)} {ds : List (D × D)} : RpKV K Hs kvs ds → Cn K Hs (.dK kvs) (.dict ds)
/-- the same, or a dict that is walked through -/
inductive Cr (K : PySem.W.Frag) (Hs : Hp) : HO → D → Prop
  | lst {xs : List V} {ds : List D} : RpAll K Hs xs ds → Cr K Hs (.lst xs) (.list ds)
  | dic {kvs : List (Key × V)} {ds : List (D × D)} : RpKV K Hs kvs ds → Cr K Hs (.dK kvs) (.dict ds)
  | frz {f : Obj} {kvs : List (Key × V)} {ds : List (D × D)} : RpKV K Hs kvs ds → Cr K Hs (.frz f (.dK kvs)) (.dict ds)
theorem Cn.cr {K : PySem.W.Frag} {Hs : Hp} {o : HO} {d : D} (h : Cn K Hs o d) : Cr K Hs o d := by
  cases h with
  | lst a => exact .lst a
  | dic a => exact .dic a
def isC : D → Bool
  | .list _ => true
  | .dict _ => true
  | _ => false
theorem Cn.mono {K : PySem.W.Frag} {Hs Hs' : Hp} (e : Same Hs Hs') {o : HO} {d : D} (h : Cn K Hs o d) : Cn K Hs' o d := by
  cases h with
  | lst a => exact .lst (RpAll.mono e a)
  | dic a => exact .dic (RpKV.mono e a)
theorem Cn.is {K : PySem.W.Frag} {Hs : Hp} {o : HO} {d : D} (h : Cn K Hs o d) : isC d = true := by cases h <;> rfl
theorem Cn.rp {K : PySem.W.Frag} {Hs : Hp} {o : HO} {d : D} {a : Addr} (h : Cn K Hs o d) (e : Hs a = some o) : Rp K Hs (.ref a) d := by
  cases h with
  | lst q => exact .lst e q
  | dic q => exact .dic (.inl e) q
theorem Cr.is {K : PySem.W.Frag} {Hs : Hp} {o : HO} {d : D} (h : Cr K Hs o d) : isC d = true := by cases h <;> rfl
theorem Rp.cn {K : PySem.W.Frag} {Hs : Hp} {v : V} {d : D} (h : Rp K Hs v d) (c : isC d = true) : ∃ a o, v = .ref a ∧ Hs a = some o ∧ Cr K Hs o d := by
  cases h with
  | lst q a => exact ⟨_, _, rfl, q, .lst a⟩
  | dic q a =>
    rcases q with q | ⟨o, q⟩
    · exact ⟨_, _, rfl, q, .dic a⟩
    · exact ⟨_, _, rfl, q, .frz a⟩
  | non => cases c
  | bl _ => cases c
  | int _ => cases c
  | str _ => cases c
  | tup _ _ => cases c
def PenK (K : PySem.W.Frag) : PKind → Hp → Hp → Addr → Addr → Nat → D → Prop
  | .draw, _, H, p, c, n, _ => Pen H p c n
  | .obj Cc f fd, Hs, H, p, c, n, h => (∃ hv, Rp K Hs hv h ∧ H p = some (.ins Cc c (f (.int (n : Int)) hv))) ∧ H c = some (.own p) ∧ c ≠ p ∧ ∀ x ∈ fd, Rp K Hs x.1 x.2
section
variable {K : PySem.W.Frag} {k : PKind} {Hs Hs' H H' : Hp} {p c q : Addr} {n : Nat} {h : D}
theorem PenK.mono (x : PenK K k Hs H p c n h) (st : Same Hs Hs') (hh : Same H H') : PenK K k Hs' H' p c n h := by
  cases k with
  | draw => exact Pen.same x hh
  | obj Cc f fd =>
    obtain ⟨⟨hv, a, b⟩, e, ne, z⟩ := x
    exact ⟨⟨hv, Rp.mono st a, hh _ _ b⟩, hh _ _ e, ne, fun y m => Rp.mono st (z y m)⟩
theorem PenK.same (x : PenK K k Hs H p c n h) (hh : Same H H') : PenK K k Hs H' p c n h := x.mono (Same.refl _) hh
theorem PenK.but (x : PenK K k Hs H p c n h) (b : But q H H') (n1 : p ≠ q) (n2 : c ≠ q) : PenK K k Hs H' p c n h := by
  cases k with
  | draw => exact Pen.but x b n1 n2
  | obj Cc f fd =>
    obtain ⟨⟨hv, a, z⟩, e, ne, y⟩ := x
    exact ⟨⟨hv, a, b _ _ n1 z⟩, b _ _ n2 e, ne, y⟩
theorem PenK.ntb (x : PenK K k Hs H p c n h) : ∀ ps, H p ≠ some (.tbl ps) := by
  intro ps e
  cases k with
  | draw =>
    obtain ⟨_, _, e', _⟩ := Pen.pen x
    rw [e] at e'; cases e'
  | obj Cc f fd =>
    obtain ⟨⟨hv, a, z⟩, _⟩ := x
    rw [e] at z; cases z
theorem PenK.at_ (x : PenK K k Hs H p c n h) : ∃ o, H p = some o := by
  cases k with
  | draw =>
    obtain ⟨_, _, e, _⟩ := Pen.pen x
    exact ⟨_, e⟩
  | obj Cc f fd =>
    obtain ⟨⟨hv, a, z⟩, e, ne, y⟩ := x
    exact ⟨_, z⟩
end
/-- the slots and the heap bear the state; Hs: the part of the heap that stays -/
structure R (C : Cf) (H0 S0 Hs : Hp) (σ : L2.St) (H : Hp) (s : S) : Prop where
  len : σ.length = s.δ.length
  sub : Same Hs H
  slot : ∀ i d, s.δ[i]? = some (some d) → i ∉ C.M → ∃ v, σ[i]? = some (some v) ∧ Rp C.K Hs v d
  mt : ∀ i d, s.δ[i]? = some (some d) → i ∈ C.M → ∃ a o, σ[i]? = some (some (.ref a)) ∧ H a = some o ∧ Hs a = none ∧ Cn C.K Hs o d ∧ (H0 a = none ∨ a ∈ C.bor)
  dead : ∀ i, i ∈ C.M → s.δ[i]? = some none → σ[i]? = some none
  sep : ∀ i j a, i ∈ C.M → j ∈ C.M → σ[i]? = some (some (.ref a)) → σ[j]? = some (some (.ref a)) → i = j
  pn : ∀ p c, C.pen = some (p, c) → σ[C.ps]? = some (some (.ref p)) ∧ PenK C.K C.pk Hs H p c s.n s.h ∧ Hs p = none ∧ H0 p ≠ none ∧ H0 c ≠ none ∧ s.δ[C.ps]? = some none ∧ C.ps ∉ C.M ∧ p ∉ C.bor ∧ c ∉ C.bor
  br : ∀ b, b ∈ C.bor → (∃ i, i ∈ C.bs ∧ i ∈ C.M ∧ σ[i]? = some (some (.ref b))) ∧ H0 b ≠ none
  s0 : Same S0 Hs
  h0 : ∀ b o, ¬ IsPen C b → H0 b = some o → H b = some o
  new : ∀ b, S0 b = none → Hs b ≠ none → H0 b = none
  fx : ∀ x ∈ C.fx, σ[x.1]? = some (some x.2.1) ∧ x.1 ∉ C.M ∧ ScOk C H0 x.2
  tb : TbS C.tb Hs H ∧ ∀ t ∈ C.tb, H0 t.1 ≠ none
/-- from one heap to a later one -/
structure Go (C : Cf) (σ : L2.St) (Hs H Hs' H' : Hp) : Prop where
  st : Same Hs Hs'
  kp : ∀ b o, H b = some o → ¬ Own C σ b → ¬ IsPen C b → H' b = some o
  th : ∀ b o, H b = some o → ∃ o', H' b = some o'
  nw : ∀ b, Hs b = none → Hs' b ≠ none → H b = none
section
variable {C : Cf} {σ : L2.St} {H0 S0 Hs H Hs' H' Hs'' H'' : Hp} {s s' : S}
theorem Go.refl : Go C σ Hs H Hs H := ⟨Same.refl _, fun _ _ h _ _ => h, fun _ o h => ⟨o, h⟩, fun _ h h' => absurd h h'⟩
theorem Go.trans (a : Go C σ Hs H Hs' H') (b : Go C σ Hs' H' Hs'' H'') : Go C σ Hs H Hs'' H'' := by
  refine ⟨a.st.trans b.st, fun c o h n1 n2 => b.kp c o (a.kp c o h n1 n2) n1 n2, fun c o h => ?_, fun c h h' => ?_⟩
  · obtain ⟨o', h'⟩ := a.th c o h
    exact b.th c o' h'
  · cases q : Hs' c with
    | some o => exact a.nw c h (by rw [q]; exact fun z => nomatch z)
    | none =>
      have h1 := b.nw c q h'
      cases q2 : H c with
      | none => rfl
      | some o =>
        obtain ⟨o', h2⟩ := a.th c o q2
        rw [h1] at h2
        cases h2
/-- a value's kinds: E: it lies in the still part; F: a list or dict is new and nobody else's -/
inductive Cat where | E | F
def Fresh (C : Cf) (H0 Hst Hs : Hp) (σ : L2.St) (H : Hp) (a : Addr) (d : D) : Prop :=
  ∃ o, H a = some o ∧ Hs a = none ∧ H0 a = none ∧ Hst a = none ∧ Cn C.K Hs o d ∧ ¬ Own C σ a
def Val (C : Cf) (H0 Hst Hs : Hp) (σ : L2.St) (H : Hp) : Cat → V → D → Prop
  | .E, v, d => Rp C.K Hs v d
  | .F, v, d => if isC d = true then ∃ a, v = .ref a ∧ Fresh C H0 Hst Hs σ H a d else Rp C.K Hs v d
theorem Val.c {Hst : Hp} {v : V} {d : D} (h : Val C H0 Hst Hs σ H .F v d) (e : isC d = true) : ∃ a, v = .ref a ∧ Fresh C H0 Hst Hs σ H a d := by
  have h : (if isC d = true then ∃ a, v = .ref a ∧ Fresh C H0 Hst Hs σ H a d else Rp C.K Hs v d) := h
  rw [if_pos e] at h
  exact h
theorem Val.p {Hst : Hp} {v : V} {d : D} (h : Val C H0 Hst Hs σ H .F v d) (e : isC d = false) : Rp C.K Hs v d := by
  have h : (if isC d = true then ∃ a, v = .ref a ∧ Fresh C H0 Hst Hs σ H a d else Rp C.K Hs v d) := h
  rw [if_neg (by rw [e]; exact Bool.false_ne_true)] at h
  exact h
theorem Val.mkC {Hst : Hp} {a : Addr} {d : D} (f : Fresh C H0 Hst Hs σ H a d) : Val C H0 Hst Hs σ H .F (.ref a) d := by
  obtain ⟨o, _, _, _, _, c, _⟩ := id f
  exact ifp c.is ⟨a, rfl, f⟩
theorem Val.mkP {Hst : Hp} {v : V} {d : D} (h : Rp C.K Hs v d) (e : isC d = false) : Val C H0 Hst Hs σ H .F v d := ifn (by rw [e]; exact Bool.false_ne_true) h
/-- what may be read -/
def Rd' (K : PySem.W.Frag) (Hs H : Hp) (v : V) (d : D) : Prop := if isC d = true then ∃ a o, v = .ref a ∧ H a = some o ∧ Cr K Hs o d else Rp K Hs v d
theorem Rd'.list {K : PySem.W.Frag} {v : V} {ds : List D} (h : Rd' K Hs H v (.list ds)) : ∃ a xs, v = .ref a ∧ H a = some (.lst xs) ∧ RpAll K Hs xs ds := by
  obtain ⟨a, o, rfl, e, c⟩ := (show ∃ a o, v = .ref a ∧ H a = some o ∧ Cr K Hs o (.list ds) from h)
  cases c with
  | lst q => exact ⟨a, _, rfl, e, q⟩
theorem Rd'.dict {K : PySem.W.Frag} {v : V} {ds : List (D × D)} (h : Rd' K Hs H v (.dict ds)) : ∃ a xs, v = .ref a ∧ Rd H a (.dK xs) ∧ RpKV K Hs xs ds := by
  obtain ⟨a, o, rfl, e, c⟩ := (show ∃ a o, v = .ref a ∧ H a = some o ∧ Cr K Hs o (.dict ds) from h)
  cases c with
  | dic q => exact ⟨a, _, rfl, .inl e, q⟩
  | frz q => exact ⟨a, _, rfl, .inr ⟨_, e⟩, q⟩
theorem Rd'.mkR {K : PySem.W.Frag} {a : Addr} {o : HO} {d : D} (h : H a = some o) (c : Cr K Hs o d) : Rd' K Hs H (.ref a) d := ifp c.is ⟨a, o, rfl, h, c⟩
theorem Rd'.mkC {K : PySem.W.Frag} {a : Addr} {o : HO} {d : D} (h : H a = some o) (c : Cn K Hs o d) : Rd' K Hs H (.ref a) d := Rd'.mkR h c.cr
theorem Rp.rd {K : PySem.W.Frag} {v : V} {d : D} (h : Rp K Hs v d) (sub : Same Hs H) : Rd' K Hs H v d := by
  cases e : isC d with
  | true =>
    obtain ⟨a, o, rfl, q, c⟩ := h.cn e
    exact Rd'.mkR (sub _ _ q) c
  | false => exact ifn (by rw [e]; exact Bool.false_ne_true) h
theorem Val.rd {Hst : Hp} {cat : Cat} {v : V} {d : D} (h : Val C H0 Hst Hs σ H cat v d) (sub : Same Hs H) : Rd' C.K Hs H v d := by
  cases cat with
  | E => exact Rp.rd h sub
  | F =>
    cases e : isC d with
    | true =>
      obtain ⟨a, rfl, o, h1, _, _, _, c, _⟩ := h.c e
      exact Rd'.mkC h1 c
    | false => exact Rp.rd (h.p e) sub
theorem R.notPen (r : R C H0 S0 Hs σ H s) {a : Addr} (h : H0 a = none) : ¬ IsPen C a := fun z => by
  rcases z with (⟨c, e⟩ | e) | e
  · exact (r.pn a c e).2.2.2.1 h
  · obtain ⟨t, m, rfl⟩ := List.mem_map.mp e
    exact r.tb.2 t m h
  · exact (r.br a e).2 h
theorem Val.go {Hst : Hp} {cat : Cat} {v : V} {d : D} (h : Val C H0 Hst Hs σ H cat v d) (r : R C H0 S0 Hs σ H s) (g : Go C σ Hs H Hs' H') : Val C H0 Hst Hs' σ H' cat v d := by
  cases cat with
  | E => exact Rp.mono g.st h
  | F =>
    cases e : isC d with
    | true =>
      obtain ⟨a, rfl, o, h1, h2, h3, h4, h5, h6⟩ := h.c e
      refine Val.mkC ⟨o, g.kp a _ h1 h6 (r.notPen h3), ?_, h3, h4, h5.mono g.st, h6⟩
      cases q : Hs' a with
      | none => rfl
      | some o =>
        have := g.nw a h2 (by rw [q]; exact fun z => nomatch z)
        rw [h1] at this
        cases this
    | false => exact Val.mkP (Rp.mono g.st (h.p e)) e
theorem Val.anew {Hst Hst' : Hp} {cat : Cat} {v : V} {d : D} (h : Val C H0 Hst' Hs σ H cat v d) (e : ∀ a, Hst' a = none → Hst a = none) : Val C H0 Hst Hs σ H cat v d := by
  cases cat with
  | E => exact h
  | F =>
    cases q : isC d with
    | true =>
      obtain ⟨a, rfl, o, h1, h2, h3, h4, h5, h6⟩ := h.c q
      exact Val.mkC ⟨o, h1, h2, h3, e a h4, h5, h6⟩
    | false => exact Val.mkP (h.p q) q
theorem Go.back (g : Go C σ Hs H Hs' H') : ∀ a, H' a = none → H a = none := fun a h => by
  cases q : H a with
  | none => rfl
  | some o => obtain ⟨o', h'⟩ := g.th a o q; rw [h] at h'; cases h'
/-- a new list or dict goes into the still part -/
theorem R.freeze (r : R C H0 S0 Hs σ H s) {a : Addr} {d : D} {Hst : Hp} (f : Fresh C H0 Hst Hs σ H a d) : ∃ Hs', Same Hs Hs' ∧ R C H0 S0 Hs' σ H s ∧ Rp C.K Hs' (.ref a) d ∧ ∀ b, Hs b = none → Hs' b ≠ none → b = a := by
  obtain ⟨o, h1, h2, h3, h4, h5, h6⟩ := f
  have sm : Same Hs (upd Hs a o) := same_upd h2
  refine ⟨upd Hs a o, sm, ⟨r.len, fun b u e => ?_, fun i d e m => ?_, fun i d e m => ?_, r.dead, r.sep, fun p c e => ?_, r.br, r.s0.trans sm, r.h0, fun b e1 e2 => ?_, r.fx, r.tb.1.to sm (fun _ _ _ e => e) (fun b e1 e2 ps e => ?_), r.tb.2⟩, (h5.mono sm).rp upd_same, fun b e1 e2 => ?_⟩
  · by_cases z : b = a
    · subst z; rw [upd_same] at e; cases e; exact h1
    · rw [upd_ne z] at e; exact r.sub _ _ e
  · obtain ⟨v, e1, e2⟩ := r.slot i d e m
    exact ⟨v, e1, Rp.mono sm e2⟩
  · obtain ⟨b, u, e2, e3, e4, e5, e6⟩ := r.mt i d e m
    refine ⟨b, u, e2, e3, ?_, e5.mono sm, e6⟩
    rw [upd_ne (fun z => h6 ⟨i, m, by rw [← z]; exact e2⟩)]
    exact e4
  · obtain ⟨e1, e2, e3, e4, e5⟩ := r.pn p c e
    refine ⟨e1, e2.mono sm (Same.refl _), ?_, e4, e5⟩
    rw [upd_ne (fun z => e4 (by rw [z]; exact h3))]
    exact e3
  · by_cases z : b = a
    · subst z; exact h3
    · rw [upd_ne z] at e2; exact r.new b e1 e2
  · by_cases z : b = a
    · subst z; rw [h1] at e; cases e; cases h5
    · rw [upd_ne z] at e2; exact e2 e1
  · by_cases z : b = a
    · exact z
    · rw [upd_ne z] at e2; exact absurd e1 e2
end
/-- an expression in the plain layer: from a state to a tree and a state -/
abbrev DT := S → (D → S → Prop) → Prop
/-- te's reading follows from t -/
structure Sim (C : Cf) (cat : Cat) (te : TE) (t : DT) : Prop where
  run : ∀ (H0 S0 Hs : Hp) (σ : L2.St) (H : Hp) (s : S) (Q : D → S → Prop) (Q' : VK), R C H0 S0 Hs σ H s → t s Q →
    (∀ Hs' H' v d s', Go C σ Hs H Hs' H' → R C H0 S0 Hs' σ H' s' → Val C H0 H Hs' σ H' cat v d → Q d s' → Q' v H') → te σ H Q'
section
variable {C : Cf} {te ta tb : TE} {t da db : DT}
/-- a new list laid down -/
theorem Sim.e (h : Sim C .F te t) : Sim C .E te t := by
  refine ⟨fun H0 S0 Hs σ H s Q Q' r q k => h.run H0 S0 Hs σ H s Q Q' r q fun Hs' H' v d s' g r' vl qq => ?_⟩
  cases e : isC d with
  | true =>
    obtain ⟨a, rfl, f⟩ := vl.c e
    obtain ⟨Hs2, s1, r2, rp, nw⟩ := r'.freeze f
    refine k Hs2 H' _ _ s' ⟨g.st.trans s1, g.kp, g.th, fun b e1 e2 => ?_⟩ r2 rp qq
    cases q3 : Hs' b with
    | some o => exact g.nw b e1 (by rw [q3]; exact fun z => nomatch z)
    | none =>
      have := nw b q3 e2
      subst this
      obtain ⟨_, _, _, _, h4, _⟩ := f
      exact h4
  | false => exact k Hs' H' _ _ s' g r' (vl.p e) qq
theorem Sim.toE {cat : Cat} (h : Sim C cat te t) : Sim C .E te t := by
  cases cat with
  | E => exact h
  | F => exact h.e
/-! names and constants -/
def dV (i : Nat) : DT := fun s Q => match s.δ[i]? with
  | some (some d) => Q d s
  | _ => False
theorem sim_var (i : Nat) (hi : i ∉ C.M) : Sim C .E (tVar i) (dV i) := by
  refine ⟨fun H0 S0 Hs σ H s Q Q' r q k => ?_⟩
  unfold dV at q
  split at q
  · rename_i d e
    obtain ⟨v, e1, e2⟩ := r.slot i d e hi
    exact ⟨v, e1, k Hs H v d s Go.refl r e2 q⟩
  · exact q.elim
def dC (d : D) : DT := fun s Q => Q d s
theorem sim_int (i : Int) : Sim C .F (tC (.int i)) (dC (.int i)) := ⟨fun H0 S0 Hs σ H s Q Q' r q k => k Hs H _ (.int i) s Go.refl r (Val.mkP (Rp.int i) rfl) q⟩
theorem sim_bl (b : Bool) : Sim C .F (tC (.bl b)) (dC (.bool b)) := ⟨fun H0 S0 Hs σ H s Q Q' r q k => k Hs H _ (.bool b) s Go.refl r (Val.mkP (Rp.bl b) rfl) q⟩
theorem sim_non : Sim C .F (tC .non) (dC .none) := ⟨fun H0 S0 Hs σ H s Q Q' r q k => k Hs H _ .none s Go.refl r (Val.mkP Rp.non rfl) q⟩
theorem sim_str (x : Str) : Sim C .F (tC (.str x)) (dC (.str x)) := ⟨fun H0 S0 Hs σ H s Q Q' r q k => k Hs H _ (.str x) s Go.refl r (Val.mkP (Rp.str x) rfl) q⟩
/-! operations by values -/
abbrev DO := D → D → (D → Prop) → Prop
/-- r's reading follows from f -/
def OpA (C : Cf) (r : R2) (f : DO) : Prop := ∀ (H0 S0 Hs : Hp) (σ : L2.St) (H : Hp) (s : S) (x y : V) (dx dy : D) (Q : D → Prop) (Q' : VK), R C H0 S0 Hs σ H s → Rd' C.K Hs H x dx → Rd' C.K Hs H y dy → f dx dy Q →
  (∀ Hs' H' v d, Go C σ Hs H Hs' H' → R C H0 S0 Hs' σ H' s → Val C H0 H Hs' σ H' .F v d → Q d → Q' v H') → r x y H Q'
def dOp (f : DO) (da db : DT) : DT := fun s Q => da s fun x s1 => db s1 fun y s2 => f x y fun z => Q z s2
theorem sim_op {r : R2} {f : DO} {ca cb : Cat} (ho : OpA C r f) (ha : Sim C ca ta da) (hb : Sim C cb tb db) : Sim C .F (tOp r ta tb) (dOp f da db) := by
  refine ⟨fun H0 S0 Hs σ H s Q Q' r0 q k => ha.run H0 S0 Hs σ H s _ _ r0 q fun Hs1 H1 x dx s1 g1 r1 v1 q1 => hb.run H0 S0 Hs1 σ H1 s1 _ _ r1 q1 fun Hs2 H2 y dy s2 g2 r2 v2 q2 => ?_⟩
  refine ho H0 S0 Hs2 σ H2 s2 x y dx dy _ _ r2 ((v1.go r1 g2).rd r2.sub) (v2.rd r2.sub) q2 fun Hs3 H3 v d g3 r3 v3 q3 => ?_
  exact k Hs3 H3 v d s2 (g1.trans (g2.trans g3)) r3 (v3.anew (fun a e => (g1.trans g2).back a e)) q3
/-- the left one a list of the def's own: read when the other one is there -/
def dOpM (f : DO) (i : Nat) (db : DT) : DT := fun s Q => (∃ d, s.δ[i]? = some (some d)) ∧ db s fun y s2 => match s2.δ[i]? with
  | some (some x) => f x y fun z => Q z s2
  | _ => False
theorem R.rdM (r : R C H0 S0 Hs σ H s) {i : Nat} {d : D} (hi : i ∈ C.M) (e : s.δ[i]? = some (some d)) : ∃ v, σ[i]? = some (some v) ∧ Rd' C.K Hs H v d := by
  obtain ⟨a, o, e1, e2, _, e3, _⟩ := r.mt i d e hi
  exact ⟨_, e1, Rd'.mkC e2 e3⟩
theorem sim_opM {r : R2} {f : DO} {cb : Cat} (i : Nat) (hi : i ∈ C.M) (ho : OpA C r f) (hb : Sim C cb tb db) : Sim C .F (tOp r (tVar i) tb) (dOpM f i db) := by
  refine ⟨fun H0 S0 Hs σ H s Q Q' r0 q k => ?_⟩
  obtain ⟨⟨d, e⟩, q⟩ := q
  obtain ⟨v, e1, _⟩ := r0.rdM hi e
  refine ⟨v, e1, hb.run H0 S0 Hs σ H s _ _ r0 q fun Hs2 H2 y dy s2 g2 r2 v2 q2 => ?_⟩
  split at q2
  · rename_i x ex
    obtain ⟨v', e2, rd⟩ := r2.rdM hi ex
    rw [e1] at e2
    cases e2
    refine ho H0 S0 Hs2 σ H2 s2 v y x dy _ _ r2 rd (v2.rd r2.sub) q2 fun Hs3 H3 v d g3 r3 v3 q3 => ?_
    exact k Hs3 H3 v d s2 (g2.trans g3) r3 (v3.anew (fun a e => g2.back a e)) q3
  · exact q2.elim
/-- the right one a list of the def's own -/
def dOpR (f : DO) (da : DT) (i : Nat) : DT := fun s Q => da s fun x s2 => match s2.δ[i]? with
  | some (some y) => f x y fun z => Q z s2
  | _ => False
theorem sim_opR {r : R2} {f : DO} {ca : Cat} (i : Nat) (hi : i ∈ C.M) (ho : OpA C r f) (ha : Sim C ca ta da) : Sim C .F (tOp r ta (tVar i)) (dOpR f da i) := by
  refine ⟨fun H0 S0 Hs σ H s Q Q' r0 q k => ha.run H0 S0 Hs σ H s _ _ r0 q fun Hs2 H2 x dx s2 g2 r2 v2 q2 => ?_⟩
  split at q2
  · rename_i y ey
    obtain ⟨v', e2, rd⟩ := r2.rdM hi ey
    refine ⟨v', e2, ho H0 S0 Hs2 σ H2 s2 x v' dx y _ _ r2 (v2.rd r2.sub) rd q2 fun Hs3 H3 v d g3 r3 v3 q3 => ?_⟩
    exact k Hs3 H3 v d s2 (g2.trans g3) r3 (v3.anew (fun a e => g2.back a e)) q3
  · exact q2.elim
def dOpMM (f : DO) (i j : Nat) : DT := fun s Q => match s.δ[i]?, s.δ[j]? with
  | some (some x), some (some y) => f x y fun z => Q z s
  | _, _ => False
theorem sim_opMM {r : R2} {f : DO} (i j : Nat) (hi : i ∈ C.M) (hj : j ∈ C.M) (ho : OpA C r f) : Sim C .F (tOp r (tVar i) (tVar j)) (dOpMM f i j) := by
  refine ⟨fun H0 S0 Hs σ H s Q Q' r0 q k => ?_⟩
  unfold dOpMM at q
  split at q
  · rename_i x y ex ey
    obtain ⟨v, e1, rd1⟩ := r0.rdM hi ex
    obtain ⟨v', e2, rd2⟩ := r0.rdM hj ey
    exact ⟨v, e1, v', e2, ho H0 S0 Hs σ H s v v' x y _ _ r0 rd1 rd2 q fun Hs3 H3 v d g3 r3 v3 q3 => k Hs3 H3 v d s g3 r3 v3 q3⟩
  · exact q.elim
end

/-! ### operations of the plain layer -/
section
variable {K : PySem.W.Frag} {H : Hp}
mutual
theorem Rp.dp : ∀ (d : D) {v : V}, Rp K H v d → d.canLay0 = true → Dp K H v d
  | .none, _, h, _ => by cases h; exact .non
  | .bool b, _, h, _ => by cases h; exact .bl b
  | .int b, _, h, _ => by cases h; exact .int b
  | .str b, _, h, _ => by cases h; exact .str b
  | .list ds, _, h, c => by
    cases h with
    | lst q a => exact .lst (SqL.of q) (RpAll.dp ds a (by simpa [PyData.canLay0] using c))
  | .tuple ds, _, h, c => by
    cases h with
    | tup q a => exact .tup q.sq (RpAll.dp ds a (by simpa [PyData.canLay0] using c))
  | .dict ds, _, _, c => by simp [PyData.canLay0] at c
theorem RpAll.dp : ∀ (ds : List D) {vs : List V}, RpAll K H vs ds → PyData.canLayAll0 ds = true → DpAll K H vs ds
  | [], _, h, _ => by cases h; exact .nil
  | d :: ds, _, h, c => by
    cases h with
    | cons a b =>
      simp only [PyData.canLayAll0, Bool.and_eq_true] at c
      exact .cons (Rp.dp d a c.1) (RpAll.dp ds b c.2)
end
end
/-- data that == may compare -/
def Sh (d : D) : Prop := SeqAt.shaped d = true
theorem Rd'.dp {K : PySem.W.Frag} {Hs H : Hp} {v : V} {d : D} (h : Rd' K Hs H v d) (sub : Same Hs H) (c : Sh d) : Dp K H v d := by
  have c' := SeqAt.canLay_of_shaped c
  cases e : isC d with
  | true =>
    cases d <;> first | (exfalso; have e' : false = true := e; cases e'; done) | skip
    case list ds =>
      obtain ⟨a, xs, rfl, h1, h2⟩ := Rd'.list h
      exact .lst (SqL.of h1) (DpAll_same sub (RpAll.dp ds h2 (by simpa [PyData.canLay0] using c')))
    case dict ds => simp [PyData.canLay0] at c'
  | false =>
    have h : (if isC d = true then _ else Rp K Hs v d) := h
    rw [if_neg (by rw [e]; exact Bool.false_ne_true)] at h
    exact Dp_same sub (Rp.dp _ h c')
section
variable {C : Cf} {σ : L2.St} {H0 S0 Hs H : Hp} {s : S}
/-- a new object in the heap, not of the still part -/
theorem Go.laid {a : Addr} {o : HO} (h : H a = none) : Go C σ Hs H Hs (upd H a o) :=
  ⟨Same.refl _, fun b x e _ _ => by rw [upd_ne (ne_of_none e h)]; exact e, fun b x e => ⟨x, by rw [upd_ne (ne_of_none e h)]; exact e⟩, fun _ h1 h2 => absurd h1 h2⟩
theorem R.laid (r : R C H0 S0 Hs σ H s) {a : Addr} {o : HO} (h : H a = none) : R C H0 S0 Hs σ (upd H a o) s := by
  have sm : Same H (upd H a o) := same_upd h
  refine ⟨r.len, r.sub.trans sm, r.slot, fun i d e m => ?_, r.dead, r.sep, fun p c e => ?_, r.br, r.s0, fun b x n e => sm _ _ (r.h0 b x n e), r.new, r.fx, r.tb.1.to (Same.refl _) (fun _ _ _ e => sm _ _ e) (fun _ e1 e2 => absurd e1 e2), r.tb.2⟩
  · obtain ⟨b, u, e2, e3, e4⟩ := r.mt i d e m
    exact ⟨b, u, e2, sm _ _ e3, e4⟩
  · obtain ⟨e1, e2, e3⟩ := r.pn p c e
    exact ⟨e1, e2.same sm, e3⟩
theorem R.free0 (r : R C H0 S0 Hs σ H s) {a : Addr} (h : H a = none) : H0 a = none ∧ Hs a = none ∧ ¬ Own C σ a ∧ ¬ IsPen C a := by
  have no : ¬ Own C σ a := fun ⟨i, m, e⟩ => by
    have hi : i < s.δ.length := by rw [← r.len]; exact (List.getElem?_eq_some_iff.mp e).1
    cases q : s.δ[i]'hi with
    | none =>
      have := r.dead i m (by rw [List.getElem?_eq_getElem hi, q])
      rw [e] at this; cases this
    | some d =>
      obtain ⟨b, u, e2, e3, _⟩ := r.mt i d (by rw [List.getElem?_eq_getElem hi, q]) m
      rw [e] at e2; cases e2
      rw [h] at e3; cases e3
  have np : ¬ IsPen C a := fun z => by
    rcases z with (⟨c, e⟩ | e) | e
    · obtain ⟨_, e2⟩ := (r.pn a c e).2.1.at_
      rw [h] at e2; cases e2
    · obtain ⟨t, m, rfl⟩ := List.mem_map.mp e
      obtain ⟨_, ps, e1, _⟩ := r.tb.1 t m
      rw [h] at e1; cases e1
    · obtain ⟨i, _, m, z⟩ := (r.br a e).1
      exact no ⟨i, m, z⟩
  refine ⟨?_, ?_, no, np⟩
  · cases q : H0 a with
    | none => rfl
    | some o => rw [r.h0 a o np q] at h; cases h
  · cases q : Hs a with
    | none => rfl
    | some o => rw [r.sub a o q] at h; cases h
/-- a new list or dict, nobody else's -/
theorem R.newC (r : R C H0 S0 Hs σ H s) {a : Addr} {o : HO} {d : D} (h : H a = none) (hx : Cn C.K Hs o d) : Val C H0 H Hs σ (upd H a o) .F (.ref a) d := by
  obtain ⟨h0, h1, h2, _⟩ := r.free0 h
  exact Val.mkC ⟨o, upd_same, h1, h0, h, hx, h2⟩
theorem R.newList (r : R C H0 S0 Hs σ H s) {a : Addr} {xs : List V} {ds : List D} (h : H a = none) (hx : RpAll C.K Hs xs ds) : Val C H0 H Hs σ (upd H a (.lst xs)) .F (.ref a) (.list ds) := r.newC h (.lst hx)
/-- a new tuple lies in the still part at once -/
theorem R.newTup (r : R C H0 S0 Hs σ H s) {a : Addr} {o : HO} (h : H a = none) : R C H0 S0 (upd Hs a o) σ (upd H a o) s ∧ Go C σ Hs H (upd Hs a o) (upd H a o) := by
  obtain ⟨h0, h1, h2, h3⟩ := r.free0 h
  have sm : Same H (upd H a o) := same_upd h
  have sm' : Same Hs (upd Hs a o) := same_upd h1
  have r' := r.laid (o := o) h
  refine ⟨⟨r.len, fun b x e => ?_, fun i d e m => ?_, fun i d e m => ?_, r.dead, r.sep, fun p c e => ?_, r.br, r.s0.trans sm', r'.h0, fun b e1 e2 => ?_, r.fx, r.tb.1.to sm' (fun _ _ _ e => sm _ _ e) (fun b e1 e2 ps e => ?_), r.tb.2⟩, sm', fun b x e _ _ => sm _ _ e, fun b x e => ⟨x, sm _ _ e⟩, fun b e1 e2 => ?_⟩
  · by_cases z : b = a
    · subst z; rw [upd_same] at e; rw [upd_same]; exact e
    · rw [upd_ne z] at e; exact r'.sub _ _ e
  · obtain ⟨v, e1, e2⟩ := r.slot i d e m
    exact ⟨v, e1, Rp.mono sm' e2⟩
  · obtain ⟨b, u, e2, e3, e4, e5, e6⟩ := r'.mt i d e m
    refine ⟨b, u, e2, e3, ?_, e5.mono sm', e6⟩
    rw [upd_ne (fun z => h2 ⟨i, m, by rw [← z]; exact e2⟩)]
    exact e4
  · obtain ⟨e1, e2, e3, e4⟩ := r'.pn p c e
    refine ⟨e1, e2.mono sm' (Same.refl _), ?_, e4⟩
    rw [upd_ne (fun z => h3 (.inl (.inl ⟨c, by rw [← z]; exact e⟩)))]
    exact e3
  · by_cases z : b = a
    · subst z; exact h0
    · rw [upd_ne z] at e2; exact r.new b e1 e2
  · by_cases z : b = a
    · subst z; rw [h] at e; cases e
    · rw [upd_ne z] at e2; exact e2 e1
  · by_cases z : b = a
    · subst z; exact h
    · rw [upd_ne z] at e2; exact absurd e1 e2
end
theorem Val.bl {C : Cf} {H0 Hst Hs : Hp} {σ : L2.St} {H : Hp} (b : Bool) : Val C H0 Hst Hs σ H .F (.bl b) (.bool b) := Val.mkP (Rp.bl b) rfl
/-! the operators -/
section
variable {X : Cx} (K : PySem.W.Frag) (eK : X.K = K)
def rAddS : R2 := fun x y H Q => ∃ i j, x = .str i ∧ y = .str j ∧ i.length + j.length ≤ sizeLine ∧ Q (.str (i ++ j)) H
def rAddG (K : PySem.W.Frag) : R2 := fun x y H Q => rI0 (fun i j => .int (i + j)) x y H Q ∨ rAddS x y H Q ∨ rCat x y H Q ∨ rCatZ K x y H Q
include eK in
theorem addG : OpR X (binaryOp .Add) (rAddG K) := by
  subst eK
  exact OpR.or op_add (OpR.or op_add_str (OpR.or op_cat (op_catZ X.K rfl)))
def rMulG : R2 := fun x y H Q => rI CMulW (fun i j => .int (i * j)) x y H Q ∨ rRep x y H Q
theorem mulG : OpR X (binaryOp .Mult) rMulG := OpR.or op_mulW op_rep
/-- a dict beside an empty one -/
def rEqE (neg : Bool) : R2 := fun x y H Q => ∃ a b ks, x = .ref a ∧ y = .ref b ∧ Rd H a (.dK ks) ∧ Rd H b (.dK []) ∧ Q (.bl (xor neg ks.isEmpty)) H
theorem eqE_hits {A : Around} {s : Shared} {ks : List (Key × V)} {va vb : List (Key × Value)} (ra : KV ks va) (hb : vb = []) : va.length = vb.length → PySem.W.KeqHits A s vb va true := fun e => by
  subst hb
  cases va with
  | nil => exact .nil
  | cons p r => cases e
theorem kvNil {vb : List (Key × Value)} (rb : KV [] vb) : vb = [] := by
  have := rb.length
  cases vb with
  | nil => rfl
  | cons p r => cases this
theorem op_eqE (hu : X.A.units < cLine) : OpR X (compareOp .Eq) (rEqE false) := by
  intro pins s σ H x y v u Q I rx ry h
  obtain ⟨a, b, ks, rfl, rfl, ea, eb, q⟩ := h
  obtain rfl : v = Value.ref a := rx
  obtain rfl : u = Value.ref b := ry
  obtain ⟨_, ya, va, ra, da⟩ := dk_rd I.hok ea
  obtain ⟨_, yb, vb, rb, db⟩ := dk_rd I.hok eb
  have hb := kvNil rb
  have hl : (ks.isEmpty) = (va.length == vb.length) := by
    rw [hb, ← ra.length]
    cases ks <;> rfl
  exact PySem.W.keq_eq (knd := mixKind X.prog X.w) (r := true) ya yb da db hu (eqE_hits ra hb) (fin_bl I q (by simp [hl]))
theorem op_neE (hu : X.A.units < cLine) : OpR X (compareOp .NotEq) (rEqE true) := by
  intro pins s σ H x y v u Q I rx ry h
  obtain ⟨a, b, ks, rfl, rfl, ea, eb, q⟩ := h
  obtain rfl : v = Value.ref a := rx
  obtain rfl : u = Value.ref b := ry
  obtain ⟨_, ya, va, ra, da⟩ := dk_rd I.hok ea
  obtain ⟨_, yb, vb, rb, db⟩ := dk_rd I.hok eb
  have hb := kvNil rb
  have hl : (ks.isEmpty) = (va.length == vb.length) := by
    rw [hb, ← ra.length]
    cases ks <;> rfl
  exact PySem.W.keq_ne (knd := mixKind X.prog X.w) (r := true) ya yb da db hu (eqE_hits ra hb) (fin_bl I q (by simp [hl]))
def rEqG (K : PySem.W.Frag) : R2 := fun x y H Q => rEq x y H Q ∨ rEqD K x y H Q ∨ rEqE false x y H Q
def rNeG (K : PySem.W.Frag) : R2 := fun x y H Q => rNe x y H Q ∨ rNeD K x y H Q ∨ rEqE true x y H Q
include eK in
theorem eqG (hu : X.A.units + 64 < cLine) : OpR X (compareOp .Eq) (rEqG K) := by subst eK; exact OpR.or op_eq (OpR.or (op_eqD hu) (op_eqE (by omega)))
include eK in
theorem neG (hu : X.A.units + 64 < cLine) : OpR X (compareOp .NotEq) (rNeG K) := by subst eK; exact OpR.or op_ne (OpR.or (op_neD hu) (op_neE (by omega)))
def rInS (neg : Bool) : R2 := fun x y H Q => ∃ i j, x = .str i ∧ y = .str j ∧ Q (.bl (xor neg (!(Builtin.Str.occurrences j i 0 j.length 1).isEmpty))) H
def rInDk (neg : Bool) : R2 := fun x y H Q => ∃ a kvs k, y = .ref a ∧ x = kV k ∧ Rd H a (.dK kvs) ∧ Q (.bl (xor neg (valV kvs k).isSome)) H
def rInG (K : PySem.W.Frag) : R2 := fun x y H Q => rIn K false x y H Q ∨ rInD K x y H Q ∨ rInS false x y H Q ∨ rInDk false x y H Q
def rNinG (K : PySem.W.Frag) : R2 := fun x y H Q => rIn K true x y H Q ∨ rNotInD K x y H Q ∨ rInS true x y H Q ∨ rInDk true x y H Q
include eK in
theorem inG (hu : X.A.units + 65 < cLine) : OpR X (compareOp .In) (rInG K) := by
  subst eK
  refine OpR.or op_in_seq (OpR.or (op_inD hu) (OpR.or (fun pins s σ H x y v u Q I rx ry h => op_in_str pins s σ H x y v u Q I rx ry ?_) (fun pins s σ H x y v u Q I rx ry h => ?_)))
  · obtain ⟨i, j, rfl, rfl, q⟩ := h
    exact ⟨i, j, rfl, rfl, by simpa using q⟩
  · obtain ⟨a, kvs, k, rfl, rfl, hd, q⟩ := h
    cases (show u = Value.ref a from ry)
    exact d_in (by omega) I (.inl ⟨kvs, k, hd, rfl, rfl⟩) rx fun s3 I3 => ⟨.bl _, H, I3, rfl, by simpa using q⟩
include eK in
theorem ninG (hu : X.A.units + 65 < cLine) : OpR X (compareOp .NotIn) (rNinG K) := by
  subst eK
  refine OpR.or op_notIn_seq (OpR.or (op_notInD hu) (OpR.or (fun pins s σ H x y v u Q I rx ry h => op_notin_str pins s σ H x y v u Q I rx ry ?_) (fun pins s σ H x y v u Q I rx ry h => ?_)))
  · obtain ⟨i, j, rfl, rfl, q⟩ := h
    exact ⟨i, j, rfl, rfl, by simpa using q⟩
  · obtain ⟨a, kvs, k, rfl, rfl, hd, q⟩ := h
    cases (show u = Value.ref a from ry)
    exact d_notIn (by omega) I (.inl ⟨kvs, k, hd, rfl, rfl⟩) rx fun s3 I3 => ⟨.bl _, H, I3, rfl, by simpa using q⟩
def rIxDk : R2 := fun x y H Q => ∃ p kvs k v, x = .ref p ∧ y = kV k ∧ Rd H p (.dK kvs) ∧ valV kvs k = some v ∧ Q v H
theorem ixDk {X : Cx} (hu : X.A.units + 65 < cLine) : IxR X rIxDk := by
  intro value slice pins s σ H x y v u Q I rx ry h hs
  obtain ⟨p, kvs, k, z, rfl, rfl, hH, hv, q⟩ := h
  cases rx
  exact tail_any (isD_at I (.inl ⟨kvs, hH⟩)).1 slot_dict_getitem.lookup (d_getItem (v := z) (by omega) I (by rw [← hv]; exact .inl ⟨kvs, k, hH, rfl, rfl⟩) ry fun w' s' I' r' => ⟨z, H, I', r', q⟩) hs
def rIxG (K : PySem.W.Frag) : R2 := fun x y H Q => rIxL K x y H Q ∨ rIxT K x y H Q ∨ rIxS x y H Q ∨ rIxDk x y H Q
include eK in
theorem ixG (hu : X.A.units + 65 < cLine) : IxR X (rIxG K) := by subst eK; exact IxR.or ix_list (IxR.or ix_tup (IxR.or ix_str (ixDk hu)))
end
def addD : DO := fun x y Q => match x, y with
  | .int i, .int j => Q (.int (i + j))
  | .str a, .str b => a.length + b.length ≤ sizeLine ∧ Q (.str (a ++ b))
  | .list a, .list b => a.length + b.length ≤ sizeLine ∧ Q (.list (a ++ b))
  | .tuple a, .tuple b => a.length + b.length ≤ sizeLine ∧ Q (.tuple (a ++ b))
  | _, _ => False
def subD : DO := fun x y Q => match x, y with
  | .int i, .int j => Q (.int (i - j))
  | _, _ => False
def mulD : DO := fun x y Q => match x, y with
  | .int i, .int j => CMulW i j ∧ Q (.int (i * j))
  | .list a, .int k => k < 2 ^ 62 ∧ -(2 ^ 62) < k ∧ a.length * k.toNat ≤ sizeLine ∧ Q (.list (List.replicate k.toNat a).flatten)
  | _, _ => False
def fdivD : DO := fun x y Q => match x, y with
  | .int i, .int j => CDivW i j ∧ Q (.int (i / j))
  | _, _ => False
def modD : DO := fun x y Q => match x, y with
  | .int i, .int j => 0 < j ∧ Q (.int (i % j))
  | _, _ => False
def powD : DO := fun x y Q => match x, y with
  | .int i, .int j => CPow i j ∧ Q (.int (i ^ j.toNat))
  | _, _ => False
def cmpD (p : Int → Int → Bool) : DO := fun x y Q => match x, y with
  | .int i, .int j => Q (.bool (p i j))
  | _, _ => False
/-- == -/
def eqB : D → D → Option Bool
  | .str a, .str b => some (decide (a = b))
  | .int a, .int b => some (decide (a = b))
  | .bool a, .bool b => some (decide (a = b))
  | .none, .none => some true
  | .none, .str _ => some false
  | .str _, .none => some false
  | .none, .int _ => some false
  | .int _, .none => some false
  | .int _, .str _ => some false
  | .str _, .int _ => some false
  | _, _ => none
def eqD0 : DO := fun x y Q => match eqB x y with
  | some b => Q (.bool b)
  | none => Sh x ∧ Sh y ∧ Q (.bool (PyData.eqv x y))
def neD0 : DO := fun x y Q => match eqB x y with
  | some b => Q (.bool (!b))
  | none => Sh x ∧ Sh y ∧ Q (.bool (!PyData.eqv x y))
def eqD : DO := fun x y Q => match y with
  | .dict [] => (match x with
    | .dict ks => Q (.bool ks.isEmpty)
    | _ => False)
  | _ => eqD0 x y Q
def neD : DO := fun x y Q => match y with
  | .dict [] => (match x with
    | .dict ks => Q (.bool (!ks.isEmpty))
    | _ => False)
  | _ => neD0 x y Q
/-- what a dict holds at a key -/
def keyIs : D → D → Bool
  | .str a, .str b => decide (a = b)
  | .int a, .int b => decide (a = b)
  | _, _ => false
def isKey : D → Bool
  | .str _ => true
  | .int _ => true
  | _ => false
def findD : List (D × D) → D → Option D
  | [], _ => none
  | (k, d) :: r, x => if keyIs k x = true then some d else findD r x
def isND : DO := fun x y Q => match y with
  | .none => Q (.bool (match x with | .none => true | _ => false))
  | _ => False
def notND : DO := fun x y Q => match y with
  | .none => Q (.bool (match x with | .none => false | _ => true))
  | _ => False
/-- a flat tree's == -/
def flatD : D → Bool
  | .none => true
  | .bool _ => true
  | .int _ => true
  | .str _ => true
  | _ => false
def eqF : D → D → Bool
  | .none, .none => true
  | .bool a, .bool b => a == b
  | .bool a, .int b => (if a then 1 else 0) == b
  | .int a, .bool b => a == (if b then 1 else 0)
  | .int a, .int b => a == b
  | .str a, .str b => a == b
  | _, _ => false
def inD (neg : Bool) : DO := fun x y Q => match y with
  | .str b => (match x with
    | .str a => Q (.bool (xor neg (!(Builtin.Str.occurrences b a 0 b.length 1).isEmpty)))
    | _ => False)
  | .tuple ys => flatD x = true ∧ ys.all flatD = true ∧ Q (.bool (xor neg (ys.any fun z => eqF z x)))
  | .list ys => (flatD x = true ∧ ys.all flatD = true ∧ Q (.bool (xor neg (ys.any fun z => eqF z x)))) ∨ (Sh x ∧ Sh (.list ys) ∧ Q (.bool (xor neg (ys.any fun z => PyData.eqv z x))))
  | .dict kvs => isKey x = true ∧ Q (.bool (xor neg (findD kvs x).isSome))
  | _ => False
structure IxP (o : Option D) (Q : D → Prop) : Prop where
  ex : ∃ d, o = some d ∧ Q d
structure IxS (z : Str) (i : Int) (Q : D → Prop) : Prop where
  ln : z.length ≤ sizeLine
  ex : ∃ c, atI z.cps.toList i = some c ∧ Q (.str ⟨#[c]⟩)
def ixD : DO := fun x y Q => match y with
  | .int i => (match x with
    | .list ds => IxP (atI ds i) Q
    | .tuple ds => IxP (atI ds i) Q
    | .str z => IxS z i Q
    | .dict kvs => IxP (findD kvs (.int i)) Q
    | _ => False)
  | .str z => (match x with
    | .dict kvs => IxP (findD kvs (.str z)) Q
    | _ => False)
  | _ => False
theorem keyIs_key (a b : Key) : keyIs (keyD a) (keyD b) = decide (a = b) := by
  cases a <;> cases b <;> simp [keyIs, keyD]
theorem findD_rp {K : PySem.W.Frag} {H : Hp} {x : Key} : ∀ {kvs : List (Key × V)} {ds : List (D × D)}, RpKV K H kvs ds → (findD ds (keyD x) = none ∧ valV kvs x = none) ∨ ∃ d v, findD ds (keyD x) = some d ∧ valV kvs x = some v ∧ Rp K H v d
  | _, _, .nil => .inl ⟨rfl, rfl⟩
  | _, _, .cons (k := k) (v := v) (d := d) (vs := vs) (ds := ds) a b => by
    by_cases h : k = x
    · subst h
      exact .inr ⟨d, v, if_pos (by rw [keyIs_key]; exact decide_eq_true rfl), valV_pos rfl, a⟩
    · have e : findD ((keyD k, d) :: ds) (keyD x) = findD ds (keyD x) := if_neg (by rw [keyIs_key, decide_eq_false h]; exact Bool.false_ne_true)
      rw [e, valV_neg (p := (k, v)) h]
      exact findD_rp b
theorem findD_some {K : PySem.W.Frag} {H : Hp} {x : Key} {kvs : List (Key × V)} {ds : List (D × D)} {d : D} (h : RpKV K H kvs ds) (e : findD ds (keyD x) = some d) : ∃ v, valV kvs x = some v ∧ Rp K H v d := by
  rcases findD_rp (x := x) h with ⟨f1, _⟩ | ⟨d', v, f1, f2, f3⟩
  · rw [f1] at e; cases e
  · rw [f1] at e; cases e; exact ⟨v, f2, f3⟩
theorem findD_is {K : PySem.W.Frag} {H : Hp} {x : Key} {kvs : List (Key × V)} {ds : List (D × D)} (h : RpKV K H kvs ds) : (findD ds (keyD x)).isSome = (valV kvs x).isSome := by
  rcases findD_rp (x := x) h with ⟨f1, f2⟩ | ⟨d', v, f1, f2, f3⟩ <;> rw [f1, f2] <;> rfl
theorem RpKV.len {K : PySem.W.Frag} {H : Hp} : ∀ {kvs : List (Key × V)} {ds : List (D × D)}, RpKV K H kvs ds → kvs.length = ds.length
  | _, _, .nil => rfl
  | _, _, .cons _ b => by rw [List.length_cons, List.length_cons, RpKV.len b]
theorem isKey_of {d : D} (h : isKey d = true) : ∃ k : Key, d = keyD k := by
  cases d <;> first | (cases h; done) | skip
  · exact ⟨.inl _, rfl⟩
  · exact ⟨.inr _, rfl⟩
theorem Rp.key {K : PySem.W.Frag} {H : Hp} {v : V} {k : Key} (h : Rp K H v (keyD k)) : v = kV k := by
  cases k with
  | inl i => cases h; rfl
  | inr i => cases h; rfl
section
variable {C : Cf}
theorem opA_add : OpA C (rAddG C.K) addD := by
  intro H0 S0 Hs σ H s x y dx dy Q Q' r hx hy q k
  cases dx <;> cases dy <;> first | exact q.elim | skip
  case int.int i j => cases hx; cases hy; exact .inl ⟨i, j, rfl, rfl, k Hs H _ (.int (i + j)) Go.refl r (Val.mkP (Rp.int _) rfl) q⟩
  case str.str a b => cases hx; cases hy; exact .inr (.inl ⟨a, b, rfl, rfl, q.1, k Hs H _ (.str (a ++ b)) Go.refl r (Val.mkP (Rp.str _) rfl) q.2⟩)
  case list.list ds es =>
    obtain ⟨a, xs, rfl, h1, h2⟩ := Rd'.list hx
    obtain ⟨b, ys, rfl, h3, h4⟩ := Rd'.list hy
    refine .inr (.inr (.inl ⟨a, b, xs, ys, rfl, rfl, h1, h3, by rw [h2.len, h4.len]; exact q.1, fun p np => ?_⟩))
    exact k Hs _ _ (.list (ds ++ es)) (Go.laid np) (r.laid np) (r.newList np (h2.app h4)) q.2
  case tuple.tuple ds es =>
    cases hx with
    | @tup a xs _ h1 h2 =>
    cases hy with
    | @tup b ys _ h3 h4 =>
    refine .inr (.inr (.inr ⟨a, b, xs, ys, rfl, rfl, Same.sqT r.sub h1.sq, Same.sqT r.sub h3.sq, by rw [h2.len, h4.len]; exact q.1, fun e => ?_, fun _ e => ?_, fun _ _ p o np hd => ?_⟩))
    · subst e
      cases h2
      exact k Hs H _ (.tuple ([] ++ es)) Go.refl r (Val.mkP (Rp.tup h3 h4) rfl) q.2
    · subst e
      cases h4
      exact k Hs H _ (.tuple (ds ++ [])) Go.refl r (Val.mkP (by rw [List.append_nil]; exact Rp.tup h1 h2) rfl) q.2
    · obtain ⟨r', g'⟩ := r.newTup (o := .frz o (.tup (xs ++ ys))) np
      exact k _ _ _ (.tuple (ds ++ es)) g' r' (Val.mkP (Rp.tup (TqT.of upd_same hd) (RpAll.mono g'.st (h2.app h4))) rfl) q.2
theorem opA_sub : OpA C (rI0 fun i j => .int (i - j)) subD := by
  intro H0 S0 Hs σ H s x y dx dy Q Q' r hx hy q k
  cases dx <;> cases dy <;> first | exact q.elim | skip
  case int.int i j => cases hx; cases hy; exact ⟨i, j, rfl, rfl, k Hs H _ (.int (i - j)) Go.refl r (Val.mkP (Rp.int _) rfl) q⟩
theorem RpAll.rep {K : PySem.W.Frag} {H : Hp} {xs : List V} {ds : List D} (h : RpAll K H xs ds) : ∀ n : Nat, RpAll K H (List.replicate n xs).flatten (List.replicate n ds).flatten
  | 0 => .nil
  | n + 1 => by rw [List.replicate_succ, List.replicate_succ, List.flatten_cons, List.flatten_cons]; exact h.app (RpAll.rep h n)
theorem opA_mul : OpA C rMulG mulD := by
  intro H0 S0 Hs σ H s x y dx dy Q Q' r hx hy q k
  cases dx <;> cases dy <;> first | exact q.elim | skip
  case int.int i j => cases hx; cases hy; exact .inl ⟨i, j, rfl, rfl, q.1, k Hs H _ (.int (i * j)) Go.refl r (Val.mkP (Rp.int _) rfl) q.2⟩
  case list.int ds n =>
    obtain ⟨a, xs, rfl, h1, h2⟩ := Rd'.list hx
    cases hy
    refine .inr ⟨a, n, xs, rfl, rfl, h1, by have := q.2.1; omega, by have := q.1; omega, by rw [h2.len]; exact q.2.2.1, fun p np => ?_⟩
    exact k Hs _ _ (.list (List.replicate n.toNat ds).flatten) (Go.laid np) (r.laid np) (r.newList np (h2.rep n.toNat)) q.2.2.2
theorem opA_fdiv : OpA C (rI CDivW fun i j => .int (i / j)) fdivD := by
  intro H0 S0 Hs σ H s x y dx dy Q Q' r hx hy q k
  cases dx <;> cases dy <;> first | exact q.elim | skip
  case int.int i j => cases hx; cases hy; exact ⟨i, j, rfl, rfl, q.1, k Hs H _ (.int (i / j)) Go.refl r (Val.mkP (Rp.int _) rfl) q.2⟩
theorem opA_mod : OpA C (rI (fun _ j => 0 < j) fun i j => .int (i % j)) modD := by
  intro H0 S0 Hs σ H s x y dx dy Q Q' r hx hy q k
  cases dx <;> cases dy <;> first | exact q.elim | skip
  case int.int i j => cases hx; cases hy; exact ⟨i, j, rfl, rfl, q.1, k Hs H _ (.int (i % j)) Go.refl r (Val.mkP (Rp.int _) rfl) q.2⟩
theorem opA_pow : OpA C (rI CPow fun i j => .int (i ^ j.toNat)) powD := by
  intro H0 S0 Hs σ H s x y dx dy Q Q' r hx hy q k
  cases dx <;> cases dy <;> first | exact q.elim | skip
  case int.int i j => cases hx; cases hy; exact ⟨i, j, rfl, rfl, q.1, k Hs H _ (.int (i ^ j.toNat)) Go.refl r (Val.mkP (Rp.int _) rfl) q.2⟩
theorem opA_cmp (p : Int → Int → Bool) : OpA C (rI0 fun i j => .bl (p i j)) (cmpD p) := by
  intro H0 S0 Hs σ H s x y dx dy Q Q' r hx hy q k
  cases dx <;> cases dy <;> first | exact q.elim | skip
  case int.int i j => cases hx; cases hy; exact ⟨i, j, rfl, rfl, k Hs H _ (.bool (p i j)) Go.refl r (Val.mkP (Rp.bl _) rfl) q⟩
theorem eqB_some {K : PySem.W.Frag} {Hs H : Hp} {x y : V} {dx dy : D} {b : Bool} (hx : Rd' K Hs H x dx) (hy : Rd' K Hs H y dy) (e : eqB dx dy = some b) : scal x y = true ∧ decide (x = y) = b := by
  cases dx <;> cases dy <;> first | (exfalso; have e' : (none : Option Bool) = some b := e; cases e'; done) | skip
  all_goals (cases hx; cases hy; simp only [eqB, Option.some.injEq] at e; subst e; exact ⟨rfl, by simp⟩)
theorem eqE_rd {K : PySem.W.Frag} {Hs H : Hp} {x y : V} {ks : List (D × D)} (hx : Rd' K Hs H x (.dict ks)) (hy : Rd' K Hs H y (.dict [])) : ∃ a b ls, x = .ref a ∧ y = .ref b ∧ Rd H a (.dK ls) ∧ Rd H b (.dK []) ∧ ls.isEmpty = ks.isEmpty := by
  obtain ⟨a, xs, rfl, h1, h2⟩ := Rd'.dict hx
  obtain ⟨b, ys, rfl, h3, h4⟩ := Rd'.dict hy
  cases h4
  refine ⟨a, b, xs, rfl, rfl, h1, h3, ?_⟩
  cases h2 <;> rfl
theorem opA_eq : OpA C (rEqG C.K) eqD := by
  intro H0 S0 Hs σ H s x y dx dy Q Q' r hx hy q k
  have old : eqD0 dx dy Q → rEqG C.K x y H Q' := ?old
  · unfold eqD at q
    split at q
    · split at q
      · obtain ⟨a, b, ls, rfl, rfl, h1, h2, h3⟩ := eqE_rd hx hy
        exact .inr (.inr ⟨a, b, ls, rfl, rfl, h1, h2, k Hs H _ (.bool _) Go.refl r (Val.mkP (by simpa [h3] using Rp.bl _) rfl) q⟩)
      · exact q.elim
    · exact old q
  intro q
  unfold eqD0 at q
  split at q
  · rename_i b e
    obtain ⟨h1, h2⟩ := eqB_some hx hy e
    exact .inl ⟨h1, by rw [h2]; exact k Hs H _ (.bool b) Go.refl r (Val.mkP (Rp.bl _) rfl) q⟩
  · exact .inr (.inl ⟨dx, dy, hx.dp r.sub q.1, hy.dp r.sub q.2.1, q.1, q.2.1, k Hs H _ (.bool (PyData.eqv dx dy)) Go.refl r (Val.mkP (Rp.bl _) rfl) q.2.2⟩)
theorem opA_ne : OpA C (rNeG C.K) neD := by
  intro H0 S0 Hs σ H s x y dx dy Q Q' r hx hy q k
  have old : neD0 dx dy Q → rNeG C.K x y H Q' := ?old
  · unfold neD at q
    split at q
    · split at q
      · obtain ⟨a, b, ls, rfl, rfl, h1, h2, h3⟩ := eqE_rd hx hy
        exact .inr (.inr ⟨a, b, ls, rfl, rfl, h1, h2, k Hs H _ (.bool _) Go.refl r (Val.mkP (by simpa [h3] using Rp.bl _) rfl) q⟩)
      · exact q.elim
    · exact old q
  intro q
  unfold neD0 at q
  split at q
  · rename_i b e
    obtain ⟨h1, h2⟩ := eqB_some hx hy e
    exact .inl ⟨h1, by rw [h2]; exact k Hs H _ (.bool (!b)) Go.refl r (Val.mkP (Rp.bl _) rfl) q⟩
  · exact .inr (.inl ⟨dx, dy, hx.dp r.sub q.1, hy.dp r.sub q.2.1, q.1, q.2.1, k Hs H _ (.bool (!PyData.eqv dx dy)) Go.refl r (Val.mkP (Rp.bl _) rfl) q.2.2⟩)
def rIsNV : R2 := fun x y H Q => y = .non ∧ Q (.bl (decide (x = .non))) H
def rNotNV : R2 := fun x y H Q => y = .non ∧ Q (.bl (!decide (x = .non))) H
theorem opA_isN : OpA C (fun x y H Q => y = .non ∧ Q (.bl (decide (x = .non))) H) isND := by
  intro H0 S0 Hs σ H s x y dx dy Q Q' r hx hy q k
  cases dy <;> first | exact q.elim | skip
  cases hy
  refine ⟨rfl, ?_⟩
  cases dx with
  | none => cases hx; exact k Hs H _ (.bool true) Go.refl r (Val.mkP (Rp.bl _) rfl) q
  | bool b => cases hx; exact k Hs H _ (.bool false) Go.refl r (by simpa using Val.bl _) q
  | int b => cases hx; exact k Hs H _ (.bool false) Go.refl r (by simpa using Val.bl _) q
  | str b => cases hx; exact k Hs H _ (.bool false) Go.refl r (by simpa using Val.bl _) q
  | list b => obtain ⟨a, xs, rfl, _⟩ := Rd'.list hx; exact k Hs H _ (.bool false) Go.refl r (by simpa using Val.bl _) q
  | tuple b => cases hx; exact k Hs H _ (.bool false) Go.refl r (by simpa using Val.bl _) q
  | dict b => obtain ⟨a, xs, rfl, _⟩ := Rd'.dict hx; exact k Hs H _ (.bool false) Go.refl r (by simpa using Val.bl _) q
theorem opA_notN : OpA C (fun x y H Q => y = .non ∧ Q (.bl (!decide (x = .non))) H) notND := by
  intro H0 S0 Hs σ H s x y dx dy Q Q' r hx hy q k
  cases dy <;> first | exact q.elim | skip
  cases hy
  refine ⟨rfl, ?_⟩
  cases dx with
  | none => cases hx; exact k Hs H _ (.bool false) Go.refl r (Val.mkP (Rp.bl _) rfl) q
  | bool b => cases hx; exact k Hs H _ (.bool true) Go.refl r (by simpa using Val.bl _) q
  | int b => cases hx; exact k Hs H _ (.bool true) Go.refl r (by simpa using Val.bl _) q
  | str b => cases hx; exact k Hs H _ (.bool true) Go.refl r (by simpa using Val.bl _) q
  | list b => obtain ⟨a, xs, rfl, _⟩ := Rd'.list hx; exact k Hs H _ (.bool true) Go.refl r (by simpa using Val.bl _) q
  | tuple b => cases hx; exact k Hs H _ (.bool true) Go.refl r (by simpa using Val.bl _) q
  | dict b => obtain ⟨a, xs, rfl, _⟩ := Rd'.dict hx; exact k Hs H _ (.bool true) Go.refl r (by simpa using Val.bl _) q
theorem flat_rd {K : PySem.W.Frag} {Hs H : Hp} {x : V} {d : D} (h : Rd' K Hs H x d) (f : flatD d = true) : flatV x = true ∧ ∀ {y : V} {e : D}, Rp K Hs y e → flatD e = true → eqV y x = eqF e d := by
  cases d <;> first | (exfalso; have f' : false = true := f; cases f'; done) | skip
  all_goals
    cases h
    refine ⟨rfl, fun {y e} hy fe => ?_⟩
    cases e <;> first | (exfalso; have f' : false = true := fe; cases f'; done) | (cases hy; rfl)
theorem any_rd {K : PySem.W.Frag} {Hs H : Hp} {x : V} {d : D} (h : Rd' K Hs H x d) (f : flatD d = true) : ∀ {xs : List V} {ds : List D}, RpAll K Hs xs ds → ds.all flatD = true → xs.all flatV = true ∧ inV x xs = ds.any fun z => eqF z d
  | _, _, .nil, _ => ⟨rfl, rfl⟩
  | _, _, .cons (v := v) (vs := vs) (d := e) (ds := es) a b, g => by
    rw [List.all_cons, Bool.and_eq_true] at g
    obtain ⟨h1, h2⟩ := any_rd h f b g.2
    have fv : flatV v = true := by
      cases e <;> first | (exfalso; have f' : false = true := g.1; cases f'; done) | (cases a; rfl)
    refine ⟨by rw [List.all_cons, fv, h1]; rfl, ?_⟩
    unfold inV at h2 ⊢
    rw [List.any_cons, List.any_cons, h2, (flat_rd h f).2 a g.1]
theorem opA_inX (neg : Bool) {rr : R2} (h1 : ∀ x y H Q, rIn C.K neg x y H Q → rr x y H Q) (h2 : ∀ x y H Q, rInS neg x y H Q → rr x y H Q)
    (h3 : ∀ x y H (Q : VK), (∃ d ds, Dp C.K H x d ∧ Dp C.K H y (.list ds) ∧ SeqAt.shaped d = true ∧ SeqAt.shaped (.list ds) = true ∧ Q (.bl (xor neg (ds.any fun z => PyData.eqv z d))) H) → rr x y H Q) (h4 : ∀ x y H Q, rInDk neg x y H Q → rr x y H Q) : OpA C rr (inD neg) := by
  intro H0 S0 Hs σ H s x y dx dy Q Q' r hx hy q k
  cases dy <;> first | exact q.elim | skip
  case str b =>
    cases dx <;> first | exact q.elim | skip
    cases hx; cases hy
    exact h2 _ _ _ _ ⟨_, _, rfl, rfl, k Hs H _ (.bool _) Go.refl r (Val.mkP (Rp.bl _) rfl) q⟩
  case tuple ys =>
    obtain ⟨f1, f2, q⟩ := q
    cases hy with
    | @tup a xs _ e1 e2 =>
    obtain ⟨g1, g2⟩ := any_rd hx f1 e2 f2
    refine h1 _ _ _ _ ⟨a, xs, rfl, .inr (Same.sqT r.sub e1.sq), (flat_rd hx f1).1, g1, ?_⟩
    rw [g2]
    refine k Hs H _ (.bool _) Go.refl r ?_ q
    cases neg with
    | true => simpa using Val.bl _
    | false => simpa using Val.bl _
  case list ys =>
    have hy' := hy
    obtain ⟨a, xs, rfl, e1, e2⟩ := Rd'.list hy
    rcases q with ⟨f1, f2, q⟩ | ⟨f1, f2, q⟩
    · obtain ⟨g1, g2⟩ := any_rd hx f1 e2 f2
      refine h1 _ _ _ _ ⟨a, xs, rfl, .inl (SqL.of e1), (flat_rd hx f1).1, g1, ?_⟩
      rw [g2]
      refine k Hs H _ (.bool _) Go.refl r ?_ q
      cases neg with
      | true => simpa using Val.bl _
      | false => simpa using Val.bl _
    · exact h3 _ _ _ _ ⟨dx, ys, hx.dp r.sub f1, hy'.dp r.sub f2, f1, f2, k Hs H _ (.bool _) Go.refl r (Val.mkP (Rp.bl _) rfl) q⟩
  case dict kvs =>
    obtain ⟨hk, q⟩ := q
    obtain ⟨a, ls, rfl, e1, e2⟩ := Rd'.dict hy
    obtain ⟨kk, rfl⟩ := isKey_of hk
    have hx' : Rp C.K Hs x (keyD kk) := by cases kk <;> exact hx
    refine h4 _ _ _ _ ⟨a, ls, kk, rfl, hx'.key, e1, k Hs H _ (.bool _) Go.refl r (Val.mkP ?_ rfl) q⟩
    rw [findD_is e2]
    exact Rp.bl _
theorem opA_in : OpA C (rInG C.K) (inD false) := opA_inX false (fun _ _ _ _ h => .inl h) (fun _ _ _ _ h => .inr (.inr (.inl h))) (fun _ _ _ _ h => by
  obtain ⟨d, ds, a, b, c, e, q⟩ := h
  exact .inr (.inl ⟨d, ds, a, b, c, e, by simpa using q⟩)) (fun _ _ _ _ h => .inr (.inr (.inr h)))
theorem opA_nin : OpA C (rNinG C.K) (inD true) := opA_inX true (fun _ _ _ _ h => .inl h) (fun _ _ _ _ h => .inr (.inr (.inl h))) (fun _ _ _ _ h => by
  obtain ⟨d, ds, a, b, c, e, q⟩ := h
  exact .inr (.inl ⟨d, ds, a, b, c, e, by simpa using q⟩)) (fun _ _ _ _ h => .inr (.inr (.inr h)))
theorem atI_all {K : PySem.W.Frag} {H : Hp} {xs : List V} {ds : List D} {i : Int} {d : D} (h : RpAll K H xs ds) (e : atI ds i = some d) : ∃ v, atI xs i = some v ∧ Rp K H v d := by
  unfold atI at e ⊢
  rw [h.len]
  cases q : ixN ds.length i with
  | none => rw [q] at e; cases e
  | some j =>
    rw [q] at e
    obtain ⟨x, e1, e2⟩ := h.get (i := j) e
    exact ⟨x, e1, e2⟩
theorem opA_ix {ca : Cat} {ta tb : TE} {da db : DT} (ha : Sim C ca ta da) {cb : Cat} (hb : Sim C cb tb db) : Sim C .E (tOp (rIxG C.K) ta tb) (dOp ixD da db) := by
  refine ⟨fun H0 S0 Hs σ H s Q Q' r0 q k => ha.run H0 S0 Hs σ H s _ _ r0 q fun Hs1 H1 x dx s1 g1 r1 v1 q1 => hb.run H0 S0 Hs1 σ H1 s1 _ _ r1 q1 fun Hs2 H2 y dy s2 g2 r2 v2 q2 => ?_⟩
  have rx := (v1.go r1 g2).rd r2.sub
  have ry := v2.rd r2.sub
  cases dy <;> first | exact q2.elim | skip
  all_goals cases ry
  all_goals (cases dx <;> first | exact q2.elim | skip)
  case int.dict i kvs =>
    obtain ⟨a, ls, rfl, e1, e2⟩ := Rd'.dict rx
    obtain ⟨⟨d, e, q2⟩⟩ := (show IxP (findD kvs (keyD (.inl i))) _ from q2)
    obtain ⟨v, e3, e4⟩ := findD_some e2 e
    exact .inr (.inr (.inr ⟨a, ls, .inl i, v, rfl, rfl, e1, e3, k Hs2 H2 v d s2 (g1.trans g2) r2 e4 q2⟩))
  case str.dict i kvs =>
    obtain ⟨a, ls, rfl, e1, e2⟩ := Rd'.dict rx
    obtain ⟨⟨d, e, q2⟩⟩ := (show IxP (findD kvs (keyD (.inr i))) _ from q2)
    obtain ⟨v, e3, e4⟩ := findD_some e2 e
    exact .inr (.inr (.inr ⟨a, ls, .inr i, v, rfl, rfl, e1, e3, k Hs2 H2 v d s2 (g1.trans g2) r2 e4 q2⟩))
  case int.list i ds =>
    obtain ⟨a, xs, rfl, e1, e2⟩ := Rd'.list rx
    obtain ⟨⟨d, e, q2⟩⟩ := (show IxP (atI ds i) _ from q2)
    obtain ⟨v, e3, e4⟩ := atI_all e2 e
    exact .inl ⟨a, xs, i, v, rfl, rfl, SqL.of e1, e3, k Hs2 H2 v d s2 (g1.trans g2) r2 e4 q2⟩
  case int.tuple i ds =>
    cases rx with
    | @tup a xs _ e1 e2 =>
    obtain ⟨⟨d, e, q2⟩⟩ := (show IxP (atI ds i) _ from q2)
    obtain ⟨v, e3, e4⟩ := atI_all e2 e
    exact .inr (.inl ⟨a, xs, i, v, rfl, rfl, Same.sqT r2.sub e1.sq, e3, k Hs2 H2 v d s2 (g1.trans g2) r2 e4 q2⟩)
  case int.str i z =>
    cases rx
    obtain ⟨hz, c, e, q2⟩ := (show IxS z i _ from q2)
    exact .inr (.inr (.inl ⟨z, i, c, rfl, rfl, hz, e, k Hs2 H2 _ (.str ⟨#[c]⟩) s2 (g1.trans g2) r2 (Rp.str _) q2⟩))
theorem opA_ixM (i : Nat) (hi : i ∈ C.M) {tb : TE} {db : DT} {cb : Cat} (hb : Sim C cb tb db) : Sim C .E (tOp (rIxG C.K) (tVar i) tb) (dOpM ixD i db) := by
  refine ⟨fun H0 S0 Hs σ H s Q Q' r0 q k => ?_⟩
  obtain ⟨⟨d, e⟩, q⟩ := q
  obtain ⟨v, e1, _⟩ := r0.rdM hi e
  refine ⟨v, e1, hb.run H0 S0 Hs σ H s _ _ r0 q fun Hs2 H2 y dy s2 g2 r2 v2 q2 => ?_⟩
  split at q2
  · rename_i x ex
    obtain ⟨a, o, e2, e3, e4, e5, _⟩ := r2.mt i x ex hi
    rw [e1] at e2
    cases e2
    have ry := v2.rd r2.sub
    cases dy <;> first | exact q2.elim | skip
    case int j =>
      cases ry
      cases e5 with
      | lst e5 =>
        rename_i xs ds
        obtain ⟨⟨d, e, q2⟩⟩ := (show IxP (atI ds j) _ from q2)
        obtain ⟨v, e6, e7⟩ := atI_all e5 e
        exact .inl ⟨a, xs, j, v, rfl, rfl, SqL.of e3, e6, k Hs2 H2 v d s2 g2 r2 e7 q2⟩
      | dic e5 =>
        rename_i xs ds
        obtain ⟨⟨d, e, q2⟩⟩ := (show IxP (findD ds (keyD (.inl j))) _ from q2)
        obtain ⟨v, e6, e7⟩ := findD_some e5 e
        exact .inr (.inr (.inr ⟨a, xs, .inl j, v, rfl, rfl, .inl e3, e6, k Hs2 H2 v d s2 g2 r2 e7 q2⟩))
    case str j =>
      cases ry
      cases e5 with
      | lst e5 => exact q2.elim
      | dic e5 =>
        rename_i xs ds
        obtain ⟨⟨d, e, q2⟩⟩ := (show IxP (findD ds (keyD (.inr j))) _ from q2)
        obtain ⟨v, e6, e7⟩ := findD_some e5 e
        exact .inr (.inr (.inr ⟨a, xs, .inr j, v, rfl, rfl, .inl e3, e6, k Hs2 H2 v d s2 g2 r2 e7 q2⟩))
  · exact q2.elim
end

/-! ### displays, tests, calls -/
abbrev DA := S → (List D → S → Prop) → Prop
structure SimA (C : Cf) (n : Nat) (ta : TA) (t : DA) : Prop where
  run : ∀ (H0 S0 Hs : Hp) (σ : L2.St) (H : Hp) (s : S) (Q : List D → S → Prop) (Q' : List V → Hp → Prop), R C H0 S0 Hs σ H s → t s Q →
    (∀ Hs' H' vs ds s', Go C σ Hs H Hs' H' → R C H0 S0 Hs' σ H' s' → RpAll C.K Hs' vs ds → ds.length = n → Q ds s' → Q' vs H') → ta σ H Q'
abbrev DB := S → (Bool → S → Prop) → Prop
structure SimT (C : Cf) (tt : TT) (t : DB) : Prop where
  run : ∀ (H0 S0 Hs : Hp) (σ : L2.St) (H : Hp) (s : S) (Q : Bool → S → Prop) (Q' : Bool → Hp → Prop), R C H0 S0 Hs σ H s → t s Q →
    (∀ Hs' H' b s', Go C σ Hs H Hs' H' → R C H0 S0 Hs' σ H' s' → Q b s' → Q' b H') → tt σ H Q'
section
variable {C : Cf} {te ta tb tc : TE} {t da db dc : DT} {ca cb cc : Cat}
def dNil : DA := fun s Q => Q [] s
def dCons (a : DT) (r : DA) : DA := fun s Q => a s fun d s1 => r s1 fun ds s2 => Q (d :: ds) s2
theorem simA_nil : SimA C 0 tNil dNil := ⟨fun H0 S0 Hs σ H s Q Q' r q k => k Hs H [] [] s Go.refl r .nil rfl q⟩
theorem simA_cons {n : Nat} {tr : TA} {dr : DA} (ha : Sim C ca ta da) (hr : SimA C n tr dr) : SimA C (n + 1) (tCons ta tr) (dCons da dr) := by
  refine ⟨fun H0 S0 Hs σ H s Q Q' r q k => ha.toE.run H0 S0 Hs σ H s _ _ r q fun Hs1 H1 x dx s1 g1 r1 v1 q1 => hr.run H0 S0 Hs1 σ H1 s1 _ _ r1 q1 fun Hs2 H2 vs ds s2 g2 r2 v2 l2 q2 => ?_⟩
  exact k Hs2 H2 (x :: vs) (dx :: ds) s2 (g1.trans g2) r2 (.cons (Rp.mono g2.st v1) v2) (by rw [List.length_cons, l2]) q2
theorem small_line {n : Nat} (h : n ≤ 1000) : n ≤ sizeLine := Nat.le_trans h (by decide)
def dTup (a : DA) : DT := fun s Q => a s fun ds s1 => Q (.tuple ds) s1
theorem sim_tup {n : Nat} {t : TA} {a : DA} (hn : n ≤ 1000) (h : SimA C n t a) : Sim C .F (tTupZ t) (dTup a) := by
  refine ⟨fun H0 S0 Hs σ H s Q Q' r q k => h.run H0 S0 Hs σ H s _ _ r q fun Hs1 H1 vs ds s1 g1 r1 v1 l1 q1 => ⟨by rw [v1.len, l1]; exact small_line hn, fun p o np hd => ?_⟩⟩
  obtain ⟨r', g'⟩ := r1.newTup (o := .frz o (.tup vs)) np
  exact k _ _ _ (.tuple ds) s1 (g1.trans g') r' (Val.mkP (Rp.tup (TqT.of upd_same hd) (RpAll.mono g'.st v1)) rfl) q1
def dLst (a : DA) : DT := fun s Q => a s fun ds s1 => Q (.list ds) s1
theorem sim_lst {n : Nat} {t : TA} {a : DA} (hn : n ≤ 1000) (h : SimA C n t a) : Sim C .F (tLst t) (dLst a) := by
  refine ⟨fun H0 S0 Hs σ H s Q Q' r q k => h.run H0 S0 Hs σ H s _ _ r q fun Hs1 H1 vs ds s1 g1 r1 v1 l1 q1 => ⟨by rw [v1.len, l1]; exact small_line hn, fun p np => ?_⟩⟩
  exact k Hs1 _ _ (.list ds) s1 (g1.trans (Go.laid np)) (r1.laid np) ((r1.newList np v1).anew fun a e => g1.back a e) q1
/-! tests -/
def dBl (a : DT) : DB := fun s Q => a s fun d s1 => match d with
  | .bool b => Q b s1
  | _ => False
theorem Val.bool {H0 Hst Hs : Hp} {σ : L2.St} {H : Hp} {v : V} {b : Bool} {cat : Cat} (h : Val C H0 Hst Hs σ H cat v (.bool b)) : v = .bl b := by
  cases cat with
  | E => cases (show Rp C.K Hs v (.bool b) from h); rfl
  | F => cases h.p rfl; rfl
theorem simT_B (h : Sim C ca te t) : SimT C (tB te) (dBl t) := by
  refine ⟨fun H0 S0 Hs σ H s Q Q' r q k => h.run H0 S0 Hs σ H s _ _ r q fun Hs1 H1 v d s1 g1 r1 v1 q1 => ?_⟩
  cases d <;> first | exact q1.elim | skip
  rename_i b
  cases v1.bool
  exact ⟨b, rfl, k Hs1 H1 b s1 g1 r1 q1⟩
theorem simT_test (h : Sim C ca te t) : SimT C (tTest te) (dBl t) := by
  refine ⟨fun H0 S0 Hs σ H s Q Q' r q k => h.run H0 S0 Hs σ H s _ _ r q fun Hs1 H1 v d s1 g1 r1 v1 q1 => ?_⟩
  cases d <;> first | exact q1.elim | skip
  rename_i b
  cases v1.bool
  exact ⟨b, rfl, k Hs1 H1 b s1 g1 r1 q1⟩
def dAnd (a b : DB) : DB := fun s Q => a s fun c s1 => if c = true then b s1 Q else Q false s1
def dOr (a b : DB) : DB := fun s Q => a s fun c s1 => if c = true then Q true s1 else b s1 Q
def dNot (a : DB) : DB := fun s Q => a s fun c s1 => Q (!c) s1
theorem simT_and {t u : TT} {a b : DB} (ha : SimT C t a) (hb : SimT C u b) : SimT C (tAnd t u) (dAnd a b) := by
  refine ⟨fun H0 S0 Hs σ H s Q Q' r q k => ha.run H0 S0 Hs σ H s _ _ r q fun Hs1 H1 c s1 g1 r1 q1 => ?_⟩
  cases c with
  | true => exact ifp rfl (hb.run H0 S0 Hs1 σ H1 s1 _ _ r1 (by simpa using q1) fun Hs2 H2 c2 s2 g2 r2 q2 => k Hs2 H2 c2 s2 (g1.trans g2) r2 q2)
  | false => exact ifn Bool.false_ne_true (k Hs1 H1 false s1 g1 r1 (by simpa using q1))
theorem simT_or {t u : TT} {a b : DB} (ha : SimT C t a) (hb : SimT C u b) : SimT C (tOr t u) (dOr a b) := by
  refine ⟨fun H0 S0 Hs σ H s Q Q' r q k => ha.run H0 S0 Hs σ H s _ _ r q fun Hs1 H1 c s1 g1 r1 q1 => ?_⟩
  cases c with
  | false => exact ifn Bool.false_ne_true (hb.run H0 S0 Hs1 σ H1 s1 _ _ r1 (by simpa using q1) fun Hs2 H2 c2 s2 g2 r2 q2 => k Hs2 H2 c2 s2 (g1.trans g2) r2 q2)
  | true => exact ifp rfl (k Hs1 H1 true s1 g1 r1 (by simpa using q1))
theorem simT_not {t : TT} {a : DB} (ha : SimT C t a) : SimT C (tNot t) (dNot a) :=
  ⟨fun H0 S0 Hs σ H s Q Q' r q k => ha.run H0 S0 Hs σ H s _ _ r q fun Hs1 H1 c s1 g1 r1 q1 => k Hs1 H1 (!c) s1 g1 r1 q1⟩
/-- as values -/
def dAndV (a b : DT) : DT := fun s Q => a s fun d s1 => match d with
  | .bool true => b s1 Q
  | .bool false => Q (.bool false) s1
  | _ => False
def dOrV (a b : DT) : DT := fun s Q => a s fun d s1 => match d with
  | .bool true => Q (.bool true) s1
  | .bool false => b s1 Q
  | _ => False
def dNotV (a : DT) : DT := fun s Q => a s fun d s1 => match d with
  | .bool b => Q (.bool (!b)) s1
  | _ => False
theorem sim_andV (ha : Sim C ca ta da) (hb : Sim C cb tb db) : Sim C .E (tAndV ta tb) (dAndV da db) := by
  refine ⟨fun H0 S0 Hs σ H s Q Q' r q k => ha.run H0 S0 Hs σ H s _ _ r q fun Hs1 H1 v d s1 g1 r1 v1 q1 => ?_⟩
  cases d <;> first | exact q1.elim | skip
  rename_i b
  cases v1.bool
  refine ⟨b, rfl, ?_⟩
  cases b with
  | true => exact ifp rfl (hb.toE.run H0 S0 Hs1 σ H1 s1 _ _ r1 q1 fun Hs2 H2 v d s2 g2 r2 v2 q2 => k Hs2 H2 v d s2 (g1.trans g2) r2 v2 q2)
  | false => exact ifn Bool.false_ne_true (k Hs1 H1 _ (.bool false) s1 g1 r1 (Rp.bl _) q1)
theorem sim_orV (ha : Sim C ca ta da) (hb : Sim C cb tb db) : Sim C .E (tOrV ta tb) (dOrV da db) := by
  refine ⟨fun H0 S0 Hs σ H s Q Q' r q k => ha.run H0 S0 Hs σ H s _ _ r q fun Hs1 H1 v d s1 g1 r1 v1 q1 => ?_⟩
  cases d <;> first | exact q1.elim | skip
  rename_i b
  cases v1.bool
  refine ⟨b, rfl, ?_⟩
  cases b with
  | false => exact ifn Bool.false_ne_true (hb.toE.run H0 S0 Hs1 σ H1 s1 _ _ r1 q1 fun Hs2 H2 v d s2 g2 r2 v2 q2 => k Hs2 H2 v d s2 (g1.trans g2) r2 v2 q2)
  | true => exact ifp rfl (k Hs1 H1 _ (.bool true) s1 g1 r1 (Rp.bl _) q1)
theorem sim_notV (ha : Sim C ca ta da) : Sim C .F (tNotV ta) (dNotV da) := by
  refine ⟨fun H0 S0 Hs σ H s Q Q' r q k => ha.run H0 S0 Hs σ H s _ _ r q fun Hs1 H1 v d s1 g1 r1 v1 q1 => ?_⟩
  cases d <;> first | exact q1.elim | skip
  rename_i b
  cases v1.bool
  exact ⟨b, rfl, k Hs1 H1 _ (.bool (!b)) s1 g1 r1 (Val.mkP (Rp.bl _) rfl) q1⟩
def dIf (c : DB) (a b : DT) : DT := fun s Q => c s fun k s1 => if k = true then a s1 Q else b s1 Q
theorem sim_if {tt : TT} {c : DB} {cat : Cat} (hc : SimT C tt c) (ha : Sim C cat ta da) (hb : Sim C cat tb db) : Sim C cat (tIf tt ta tb) (dIf c da db) := by
  refine ⟨fun H0 S0 Hs σ H s Q Q' r q k => hc.run H0 S0 Hs σ H s _ _ r q fun Hs1 H1 c s1 g1 r1 q1 => ?_⟩
  cases c with
  | true => exact ifp rfl (ha.run H0 S0 Hs1 σ H1 s1 _ _ r1 (by simpa using q1) fun Hs2 H2 v d s2 g2 r2 v2 q2 => k Hs2 H2 v d s2 (g1.trans g2) r2 (v2.anew fun a e => g1.back a e) q2)
  | false => exact ifn Bool.false_ne_true (hb.run H0 S0 Hs1 σ H1 s1 _ _ r1 (by simpa using q1) fun Hs2 H2 v d s2 g2 r2 v2 q2 => k Hs2 H2 v d s2 (g1.trans g2) r2 (v2.anew fun a e => g1.back a e) q2)
/-- a < b < c -/
def dChain (f g : DO) (a b c : DT) : DT := fun s Q => a s fun x s1 => b s1 fun y s2 => f x y fun z => match z with
  | .bool true => c s2 fun w s3 => g y w fun z => Q z s3
  | .bool false => Q (.bool false) s2
  | _ => False
theorem sim_chain {r r' : R2} {f g : DO} (hf : OpA C r f) (hg : OpA C r' g) (ha : Sim C ca ta da) (hb : Sim C cb tb db) (hc : Sim C cc tc dc) : Sim C .F (tChain r r' ta tb tc) (dChain f g da db dc) := by
  refine ⟨fun H0 S0 Hs σ H s Q Q' r0 q k => ha.run H0 S0 Hs σ H s _ _ r0 q fun Hs1 H1 x dx s1 g1 r1 v1 q1 => hb.run H0 S0 Hs1 σ H1 s1 _ _ r1 q1 fun Hs2 H2 y dy s2 g2 r2 v2 q2 => ?_⟩
  refine hf H0 S0 Hs2 σ H2 s2 x y dx dy _ _ r2 ((v1.go r1 g2).rd r2.sub) (v2.rd r2.sub) q2 fun Hs3 H3 v d g3 r3 v3 q3 => ?_
  cases d <;> first | exact q3.elim | skip
  rename_i b
  cases v3.bool
  refine ⟨b, rfl, ?_⟩
  have g123 := g1.trans (g2.trans g3)
  cases b with
  | true =>
    refine ifp rfl (hc.run H0 S0 Hs3 σ H3 s2 _ _ r3 q3 fun Hs4 H4 w dw s4 g4 r4 v4 q4 => ?_)
    refine hg H0 S0 Hs4 σ H4 s4 y w dy dw _ _ r4 (((v2.go r2 g3).go r3 g4).rd r4.sub) (v4.rd r4.sub) q4 fun Hs5 H5 v d g5 r5 v5 q5 => ?_
    exact k Hs5 H5 v d s4 (g123.trans (g4.trans g5)) r5 (v5.anew fun a e => (g123.trans g4).back a e) q5
  | false => exact ifn Bool.false_ne_true (k Hs3 H3 _ (.bool false) s2 g123 r3 (Val.mkP (Rp.bl _) rfl) q3)
/-! calls of built-ins -/
abbrev DF := List D → (D → Prop) → Prop
def RdAll (K : PySem.W.Frag) (Hs H : Hp) : List V → List D → Prop
  | [], [] => True
  | v :: vs, d :: ds => Rd' K Hs H v d ∧ RdAll K Hs H vs ds
  | _, _ => False
theorem RpAll.rd {K : PySem.W.Frag} {Hs H : Hp} (sub : Same Hs H) : ∀ {vs : List V} {ds : List D}, RpAll K Hs vs ds → RdAll K Hs H vs ds
  | _, _, .nil => True.intro
  | _, _, .cons a b => ⟨a.rd sub, RpAll.rd sub b⟩
def CaA (C : Cf) (r : List V → Hp → VK → Prop) (f : DF) : Prop := ∀ (H0 S0 Hs : Hp) (σ : L2.St) (H : Hp) (s : S) (vs : List V) (ds : List D) (Q : D → Prop) (Q' : VK), R C H0 S0 Hs σ H s → RdAll C.K Hs H vs ds → f ds Q →
  (∀ Hs' H' v d, Go C σ Hs H Hs' H' → R C H0 S0 Hs' σ H' s → Val C H0 H Hs' σ H' .F v d → Q d → Q' v H') → r vs H Q'
def dCB (f : DF) (a : DA) : DT := fun s Q => a s fun ds s1 => f ds fun z => Q z s1
theorem sim_cb {n : Nat} {r : List V → Hp → VK → Prop} {f : DF} {t : TA} {a : DA} (hf : CaA C r f) (h : SimA C n t a) : Sim C .F (tCB r t) (dCB f a) := by
  refine ⟨fun H0 S0 Hs σ H s Q Q' r0 q k => h.run H0 S0 Hs σ H s _ _ r0 q fun Hs1 H1 vs ds s1 g1 r1 v1 _ q1 => ?_⟩
  exact hf H0 S0 Hs1 σ H1 s1 vs ds _ _ r1 (v1.rd r1.sub) q1 fun Hs2 H2 v d g2 r2 v2 q2 => k Hs2 H2 v d s1 (g1.trans g2) r2 (v2.anew fun a e => g1.back a e) q2
/-- of one list of the def's own -/
def dCBM (f : DF) (i : Nat) : DT := fun s Q => match s.δ[i]? with
  | some (some d) => f [d] fun z => Q z s
  | _ => False
theorem sim_cbM {r : List V → Hp → VK → Prop} {f : DF} (i : Nat) (hi : i ∈ C.M) (hf : CaA C r f) : Sim C .F (tCB r (tCons (tVar i) tNil)) (dCBM f i) := by
  refine ⟨fun H0 S0 Hs σ H s Q Q' r0 q k => ?_⟩
  unfold dCBM at q
  split at q
  · rename_i d e
    obtain ⟨v, e1, rd⟩ := r0.rdM hi e
    exact ⟨v, e1, hf H0 S0 Hs σ H s [v] [d] _ _ r0 ⟨rd, True.intro⟩ q fun Hs2 H2 v d g2 r2 v2 q2 => k Hs2 H2 v d s g2 r2 v2 q2⟩
  · exact q.elim
def lenD : DF := fun ds Q => match ds with
  | [d] => (match d with
    | .list xs => Q (.int xs.length)
    | .tuple xs => Q (.int xs.length)
    | .str x => x.length ≤ sizeLine ∧ Q (.int x.length)
    | .dict kvs => Q (.int kvs.length)
    | _ => False)
  | _ => False
def rLenDk : List V → Hp → VK → Prop := fun xs H Q => ∃ a kvs, xs = [V.ref a] ∧ Rd H a (.dK kvs) ∧ Q (.int kvs.length) H
theorem len_dk {X : Cx} : CallR X (.builtin "len") rLenDk := by
  intro pins s σ H xs us Q I r h
  obtain ⟨a, kvs, rfl, e, q⟩ := h
  obtain ⟨u, rfl, ru⟩ := vals1 r
  cases (show u = Value.ref a from ru)
  exact d_len I e fun t s' I' => ⟨.int kvs.length, H, I', ⟨t, rfl⟩, q⟩
def rLenG (K : PySem.W.Frag) : List V → Hp → VK → Prop := fun xs H Q => rLenQ K xs H Q ∨ (∃ z, xs = [.str z] ∧ z.length ≤ sizeLine ∧ Q (.int z.length) H) ∨ rLenDk xs H Q
theorem CallR.or {X : Cx} {f : Value} {r r' : List V → Hp → VK → Prop} (h : CallR X f r) (h' : CallR X f r') : CallR X f (fun xs H Q => r xs H Q ∨ r' xs H Q) := by
  intro pins s σ H xs us Q I rv q
  rcases q with q | q
  · exact h pins s σ H xs us Q I rv q
  · exact h' pins s σ H xs us Q I rv q
theorem lenG {X : Cx} (K : PySem.W.Frag) (eK : X.K = K) : CallR X (.builtin "len") (rLenG K) := CallR.or (lenQ K eK) (CallR.or call_len_str len_dk)
theorem caA_len : CaA C (rLenG C.K) lenD := by
  intro H0 S0 Hs σ H s vs ds Q Q' r hd q k
  match vs, ds, hd with
  | [v], [d], ⟨h, _⟩ =>
    cases d <;> first | exact q.elim | skip
    case list xs =>
      obtain ⟨a, ys, rfl, e1, e2⟩ := Rd'.list h
      exact .inl ⟨a, ys, rfl, .inl (SqL.of e1), k Hs H _ (.int (xs.length : Nat)) Go.refl r (Val.mkP (by rw [e2.len]; exact Rp.int _) rfl) q⟩
    case tuple xs =>
      cases h with
      | @tup a ys _ e1 e2 => exact .inl ⟨a, ys, rfl, .inr (Same.sqT r.sub e1.sq), k Hs H _ (.int (xs.length : Nat)) Go.refl r (Val.mkP (by rw [e2.len]; exact Rp.int _) rfl) q⟩
    case str x =>
      cases h
      exact .inr (.inl ⟨x, rfl, q.1, k Hs H _ (.int (x.length : Nat)) Go.refl r (Val.mkP (Rp.int _) rfl) q.2⟩)
    case dict kvs =>
      obtain ⟨a, ls, rfl, e1, e2⟩ := Rd'.dict h
      exact .inr (.inr ⟨a, ls, rfl, e1, k Hs H _ (.int (kvs.length : Nat)) Go.refl r (Val.mkP (by rw [e2.len]; exact Rp.int _) rfl) q⟩)
  | [], [], _ => exact q.elim
  | _ :: _ :: _, _ :: _ :: _, _ => exact q.elim
def listD : DF := fun ds Q => match ds with
  | [d] => (match d with
    | .list xs => Q (.list xs)
    | .tuple xs => Q (.list xs)
    | _ => False)
  | _ => False
theorem caA_list : CaA C (rListQ C.K) listD := by
  intro H0 S0 Hs σ H s vs ds Q Q' r hd q k
  match vs, ds, hd with
  | [v], [d], ⟨h, _⟩ =>
    cases d <;> first | exact q.elim | skip
    case list xs =>
      obtain ⟨a, ys, rfl, e1, e2⟩ := Rd'.list h
      exact ⟨a, ys, rfl, .inl (SqL.of e1), fun p np => k Hs _ _ (.list xs) (Go.laid np) (r.laid np) (r.newList np e2) q⟩
    case tuple xs =>
      cases h with
      | @tup a ys _ e1 e2 => exact ⟨a, ys, rfl, .inr (Same.sqT r.sub e1.sq), fun p np => k Hs _ _ (.list xs) (Go.laid np) (r.laid np) (r.newList np e2) q⟩
  | [], [], _ => exact q.elim
  | _ :: _ :: _, _ :: _ :: _, _ => exact q.elim
def tupD : DF := fun ds Q => match ds with
  | [d] => (match d with
    | .list xs => Q (.tuple xs)
    | .tuple xs => Q (.tuple xs)
    | _ => False)
  | _ => False
theorem caA_tup : CaA C (rTupQ C.K) tupD := by
  intro H0 S0 Hs σ H s vs ds Q Q' r hd q k
  match vs, ds, hd with
  | [v], [d], ⟨h, _⟩ =>
    cases d <;> first | exact q.elim | skip
    case list xs =>
      obtain ⟨a, ys, rfl, e1, e2⟩ := Rd'.list h
      refine ⟨a, ys, rfl, .inl ⟨SqL.of e1, fun p o np hd => ?_⟩⟩
      obtain ⟨r', g'⟩ := r.newTup (o := .frz o (.tup ys)) np
      exact k _ _ _ (.tuple xs) g' r' (Val.mkP (Rp.tup (TqT.of upd_same hd) (RpAll.mono g'.st e2)) rfl) q
    case tuple xs =>
      cases h with
      | @tup a ys _ e1 e2 => exact ⟨a, ys, rfl, .inr ⟨Same.sqT r.sub e1.sq, k Hs H _ (.tuple xs) Go.refl r (Val.mkP (Rp.tup e1 e2) rfl) q⟩⟩
  | [], [], _ => exact q.elim
  | _ :: _ :: _, _ :: _ :: _, _ => exact q.elim
def strD : DF := fun ds Q => match ds with
  | [d] => (match d with
    | .int i => i.natAbs.log2 < 1920 ∧ Q (.str (toString i))
    | _ => False)
  | _ => False
theorem caA_str : CaA C (fun xs H Q => ∃ i, xs = [.int i] ∧ i.natAbs.log2 < 1920 ∧ Q (.str (toString i)) H) strD := by
  intro H0 S0 Hs σ H s vs ds Q Q' r hd q k
  match vs, ds, hd with
  | [v], [d], ⟨h, _⟩ =>
    cases d <;> first | exact q.elim | skip
    cases h
    exact ⟨_, rfl, q.1, k Hs H _ (.str _) Go.refl r (Val.mkP (Rp.str _) rfl) q.2⟩
  | [], [], _ => exact q.elim
  | _ :: _ :: _, _ :: _ :: _, _ => exact q.elim
def intD : DF := fun ds Q => match ds with
  | [d] => (match d with
    | .int i => Q (.int i)
    | .bool b => Q (.int (if b then 1 else 0))
    | _ => False)
  | _ => False
theorem caA_int : CaA C (fun xs H Q => (∃ i, xs = [.int i] ∧ Q (.int i) H) ∨ ∃ k, xs = [.bl k] ∧ Q (.int (if k then 1 else 0)) H) intD := by
  intro H0 S0 Hs σ H s vs ds Q Q' r hd q k
  match vs, ds, hd with
  | [v], [d], ⟨h, _⟩ =>
    cases d <;> first | exact q.elim | skip
    case int i => cases h; exact .inl ⟨i, rfl, k Hs H _ (.int i) Go.refl r (Val.mkP (Rp.int _) rfl) q⟩
    case bool b => cases h; exact .inr ⟨b, rfl, k Hs H _ (.int _) Go.refl r (Val.mkP (Rp.int _) rfl) q⟩
  | [], [], _ => exact q.elim
  | _ :: _ :: _, _ :: _ :: _, _ => exact q.elim
def minD : DF := fun ds Q => match ds with
  | [d, e] => (match d, e with
    | .int i, .int j => Q (.int (if j < i then j else i))
    | _, _ => False)
  | _ => False
def maxD : DF := fun ds Q => match ds with
  | [d, e] => (match d, e with
    | .int i, .int j => Q (.int (if j > i then j else i))
    | _, _ => False)
  | _ => False
theorem caA_min : CaA C (fun xs H Q => ∃ i j, xs = [.int i, .int j] ∧ Q (.int (if j < i then j else i)) H) minD := by
  intro H0 S0 Hs σ H s vs ds Q Q' r hd q k
  match vs, ds, hd with
  | [v, w], [d, e], ⟨h, h', _⟩ =>
    cases d <;> cases e <;> first | exact q.elim | skip
    cases h; cases h'
    exact ⟨_, _, rfl, k Hs H _ (.int _) Go.refl r (Val.mkP (Rp.int _) rfl) q⟩
  | [], [], _ => exact q.elim
  | [_], [_], _ => exact q.elim
  | _ :: _ :: _ :: _, _ :: _ :: _ :: _, _ => exact q.elim
theorem caA_max : CaA C (fun xs H Q => ∃ i j, xs = [.int i, .int j] ∧ Q (.int (if j > i then j else i)) H) maxD := by
  intro H0 S0 Hs σ H s vs ds Q Q' r hd q k
  match vs, ds, hd with
  | [v, w], [d, e], ⟨h, h', _⟩ =>
    cases d <;> cases e <;> first | exact q.elim | skip
    cases h; cases h'
    exact ⟨_, _, rfl, k Hs H _ (.int _) Go.refl r (Val.mkP (Rp.int _) rfl) q⟩
  | [], [], _ => exact q.elim
  | [_], [_], _ => exact q.elim
  | _ :: _ :: _ :: _, _ :: _ :: _ :: _, _ => exact q.elim
/-- lists of ints, of truths -/
def intsOf : List D → Option (List Int)
  | [] => some []
  | .int i :: r => (intsOf r).map (i :: ·)
  | _ :: _ => none
def boolsOf : List D → Option (List Bool)
  | [] => some []
  | .bool i :: r => (boolsOf r).map (i :: ·)
  | _ :: _ => none
theorem ints_rp {K : PySem.W.Frag} {H : Hp} : ∀ {xs : List V} {ds : List D} {ns : List Int}, RpAll K H xs ds → intsOf ds = some ns → xs = ns.map V.int
  | _, _, _, .nil, e => by cases e; rfl
  | _, _, _, .cons (d := d) (ds := ds) a b, e => by
    cases d <;> first | (exfalso; have e' : (none : Option (List Int)) = some _ := e; cases e'; done) | skip
    cases a
    simp only [intsOf, Option.map_eq_some_iff] at e
    obtain ⟨ms, e1, rfl⟩ := e
    rw [ints_rp b e1]
    rfl
theorem bools_rp {K : PySem.W.Frag} {H : Hp} : ∀ {xs : List V} {ds : List D} {ns : List Bool}, RpAll K H xs ds → boolsOf ds = some ns → xs = ns.map V.bl
  | _, _, _, .nil, e => by cases e; rfl
  | _, _, _, .cons (d := d) (ds := ds) a b, e => by
    cases d <;> first | (exfalso; have e' : (none : Option (List Bool)) = some _ := e; cases e'; done) | skip
    cases a
    simp only [boolsOf, Option.map_eq_some_iff] at e
    obtain ⟨ms, e1, rfl⟩ := e
    rw [bools_rp b e1]
    rfl
def sumD : DF := fun ds Q => match ds with
  | [d] => (match d with
    | .list xs => ∃ ns, intsOf xs = some ns ∧ Q (.int ns.sum)
    | _ => False)
  | _ => False
def allD : DF := fun ds Q => match ds with
  | [d] => (match d with
    | .list xs => ∃ ns, boolsOf xs = some ns ∧ Q (.bool (ns.all id))
    | _ => False)
  | _ => False
def anyD : DF := fun ds Q => match ds with
  | [d] => (match d with
    | .list xs => ∃ ns, boolsOf xs = some ns ∧ Q (.bool (ns.any id))
    | _ => False)
  | _ => False
theorem caA_sum : CaA C (rSum C.K) sumD := by
  intro H0 S0 Hs σ H s vs ds Q Q' r hd q k
  match vs, ds, hd with
  | [v], [d], ⟨h, _⟩ =>
    cases d <;> first | exact q.elim | skip
    obtain ⟨a, ys, rfl, e1, e2⟩ := Rd'.list h
    obtain ⟨ns, e3, q⟩ := q
    rw [ints_rp e2 e3] at e1
    exact ⟨a, ns, rfl, SqL.of e1, k Hs H _ (.int _) Go.refl r (Val.mkP (Rp.int _) rfl) q⟩
  | [], [], _ => exact q.elim
  | _ :: _ :: _, _ :: _ :: _, _ => exact q.elim
theorem caA_all : CaA C (rAll C.K) allD := by
  intro H0 S0 Hs σ H s vs ds Q Q' r hd q k
  match vs, ds, hd with
  | [v], [d], ⟨h, _⟩ =>
    cases d <;> first | exact q.elim | skip
    obtain ⟨a, ys, rfl, e1, e2⟩ := Rd'.list h
    obtain ⟨ns, e3, q⟩ := q
    rw [bools_rp e2 e3] at e1
    exact ⟨a, ns, rfl, SqL.of e1, k Hs H _ (.bool _) Go.refl r (Val.mkP (Rp.bl _) rfl) q⟩
  | [], [], _ => exact q.elim
  | _ :: _ :: _, _ :: _ :: _, _ => exact q.elim
theorem caA_any : CaA C (rAny C.K) anyD := by
  intro H0 S0 Hs σ H s vs ds Q Q' r hd q k
  match vs, ds, hd with
  | [v], [d], ⟨h, _⟩ =>
    cases d <;> first | exact q.elim | skip
    obtain ⟨a, ys, rfl, e1, e2⟩ := Rd'.list h
    obtain ⟨ns, e3, q⟩ := q
    rw [bools_rp e2 e3] at e1
    exact ⟨a, ns, rfl, SqL.of e1, k Hs H _ (.bool _) Go.refl r (Val.mkP (Rp.bl _) rfl) q⟩
  | [], [], _ => exact q.elim
  | _ :: _ :: _, _ :: _ :: _, _ => exact q.elim
/-! isinstance -/
theorem tyD_rd {K : PySem.W.Frag} {Hs H : Hp} {x : V} {d : D} (h : Rd' K Hs H x d) (sub : Same Hs H) : TyX K H x (.type (tyD d)) := by
  cases d with
  | list ds => obtain ⟨a, xs, rfl, e, _⟩ := Rd'.list h; exact .base (.lst e)
  | none => cases h; exact .base .non
  | bool b => cases h; exact .base (.bl b)
  | int b => cases h; exact .base (.int b)
  | str b => cases h; exact .base (.str b)
  | tuple b => cases h with | tup q a => exact tyX_tup (Same.sqT sub q.sq)
  | dict b =>
    obtain ⟨a, xs, rfl, e, _⟩ := Rd'.dict h
    rcases e with e | ⟨o, e⟩
    · exact .base (.dK e)
    · exact .fDict e
def dIsi (c : Cl) (a : DT) : DT := fun s Q => a s fun d s1 => Q (.bool (isB c d)) s1
theorem sim_isi (c : Cl) (h : Sim C ca te t) : Sim C .F (tCB (rIsi C.K) (tCons te (tCons (tC (.ty c.name)) tNil))) (dIsi c t) := by
  refine ⟨fun H0 S0 Hs σ H s Q Q' r q k => h.run H0 S0 Hs σ H s _ _ r q fun Hs1 H1 v d s1 g1 r1 v1 q1 => ?_⟩
  exact ⟨v, _, _, _, _, rfl, .ty _, tyD_rd (v1.rd r1.sub) r1.sub, kit_ty (kitB_nn c d), k Hs1 H1 _ (.bool _) s1 g1 r1 (Val.mkP (Rp.bl _) rfl) q1⟩
def dIsiM (c : Cl) (i : Nat) : DT := fun s Q => match s.δ[i]? with
  | some (some d) => Q (.bool (isB c d)) s
  | _ => False
theorem sim_isiM (c : Cl) (i : Nat) (hi : i ∈ C.M) : Sim C .F (tCB (rIsi C.K) (tCons (tVar i) (tCons (tC (.ty c.name)) tNil))) (dIsiM c i) := by
  refine ⟨fun H0 S0 Hs σ H s Q Q' r q k => ?_⟩
  unfold dIsiM at q
  split at q
  · rename_i d e
    obtain ⟨v, e1, rd⟩ := r.rdM hi e
    exact ⟨v, e1, v, _, _, _, _, rfl, .ty _, tyD_rd rd r.sub, kit_ty (kitB_nn c d), k Hs H _ (.bool _) s Go.refl r (Val.mkP (Rp.bl _) rfl) q⟩
  · exact q.elim
def isAny (cs : List Cl) (d : D) : Bool := cs.any fun c => isB c d
theorem kitAny_of {K : PySem.W.Frag} (d : D) : ∀ cs : List Cl, cs ≠ [] → PySem.W.kitAny K (.type (tyD d)) (cs.map fun c => Value.type c.name) = some (isAny cs d)
  | [], h => absurd rfl h
  | [c], _ => by
    refine kitAny_cons (kit_ty (kitB_nn c d)) (fun e => ?_) (fun e => ?_)
    · unfold isAny; rw [List.any_cons, e]; rfl
    · unfold isAny; rw [List.any_cons, e]; rfl
  | c :: c' :: cs, _ => by
    refine kitAny_cons (kit_ty (kitB_nn c d)) (fun e => ?_) (fun e => ?_)
    · unfold isAny; rw [List.any_cons, e, Bool.false_or]; exact kitAny_of d (c' :: cs) (by simp)
    · unfold isAny; rw [List.any_cons, e]; rfl
def dIsiT (cs : List Cl) (a : DT) : DT := fun s Q => a s fun d s1 => Q (.bool (isAny cs d)) s1
theorem clsV_all : ∀ cs : List Cl, Paired ClsV (cs.map fun c => V.ty c.name) (cs.map fun c => Value.type c.name)
  | [] => .nil
  | c :: cs => .cons (.ty _) (clsV_all cs)
theorem sim_isiT2 (c1 c2 : Cl) (h : Sim C ca te t) : Sim C .F (tCB (rIsiT C.K) (tCons te (tCons (tTup (tCons (tC (.ty c1.name)) (tCons (tC (.ty c2.name)) tNil))) tNil))) (dIsiT [c1, c2] t) := by
  refine ⟨fun H0 S0 Hs σ H s Q Q' r q k => h.run H0 S0 Hs σ H s _ _ r q fun Hs1 H1 v d s1 g1 r1 v1 q1 => ?_⟩
  refine ⟨by show 2 ≤ sizeLine; decide, fun p np => ?_⟩
  have r2 := r1.laid (o := .tup [.ty c1.name, .ty c2.name]) np
  have g2 : Go C σ Hs1 H1 Hs1 (upd H1 p (.tup [.ty c1.name, .ty c2.name])) := Go.laid np
  exact ⟨v, p, _, _, _, _, rfl, upd_same, clsV_all [c1, c2], tyD_rd ((v1.go r1 g2).rd r2.sub) r2.sub, kitAny_of d [c1, c2] (by simp), k Hs1 _ _ (.bool _) s1 (g1.trans g2) r2 (Val.mkP (Rp.bl _) rfl) q1⟩
end

/-! ### calls of defs -/
/-- a result: E it lies in the still part; F a list is new and outside of it -/
def RV (K : PySem.W.Frag) (H0 Hs H : Hp) : Cat → V → D → Prop
  | .E, v, d => Rp K Hs v d
  | .F, v, d => if isC d = true then ∃ a o, v = .ref a ∧ H a = some o ∧ Hs a = none ∧ H0 a = none ∧ Cn K Hs o d else Rp K Hs v d
def spN (K : PySem.W.Frag) (n : Nat) (cat : Cat) (F : DF) : Sp := fun vs H Q _ => ∃ Hs ds Q0, Same Hs H ∧ RpAll K Hs vs ds ∧ ds.length = n ∧ F ds Q0 ∧
  ∀ d Hs' H' v, Q0 d → Same Hs Hs' → Same Hs' H' → Same H H' → (∀ b, Hs b = none → Hs' b ≠ none → H b = none) → RV K H Hs' H' cat v d → Q v H'
abbrev DFP := List D → Nat → (D → Nat → Prop) → Prop
def spP (K : PySem.W.Frag) (n : Nat) (cat : Cat) (F : DFP) : Sp := fun vs H Q _ => ∃ Hs p c k vs' ds Q0, vs = .ref p :: vs' ∧ Pen H p c k ∧ Hs p = none ∧ Same Hs H ∧ RpAll K Hs vs' ds ∧ ds.length = n ∧ F ds k Q0 ∧
  ∀ d k' Hs' H' v, Q0 d k' → Same Hs Hs' → Same Hs' H' → But p H H' → (∀ b, Hs b = none → Hs' b ≠ none → H b = none) → Hs' p = none → Pen H' p c k' → RV K H Hs' H' cat v d → Q v H'
section
variable {C : Cf} {σ : L2.St} {H0 S0 Hs H Hs' H' : Hp} {s : S}
theorem none_of_new {b : Addr} {o : HO} (nw : ∀ b, Hs b = none → Hs' b ≠ none → H b = none) (h : Hs b = none) (e : H b = some o) : Hs' b = none := by
  cases q : Hs' b with
  | none => rfl
  | some x =>
    have := nw b h (by rw [q]; exact fun z => nomatch z)
    rw [e] at this; cases this
theorem R.step (r : R C H0 S0 Hs σ H s) (st : Same Hs Hs') (sb : Same Hs' H') (hh : Same H H') (nw : ∀ b, Hs b = none → Hs' b ≠ none → H b = none) : R C H0 S0 Hs' σ H' s ∧ Go C σ Hs H Hs' H' := by
  refine ⟨⟨r.len, sb, fun i d e m => ?_, fun i d e m => ?_, r.dead, r.sep, fun p c e => ?_, r.br, r.s0.trans st, fun b o n e => hh _ _ (r.h0 b o n e), fun b e1 e2 => ?_, r.fx, r.tb.1.to st (fun _ _ _ e => hh _ _ e) (fun b e1 e2 ps e => by rw [nw b e1 e2] at e; cases e), r.tb.2⟩, st, fun b o e _ _ => hh _ _ e, fun b o e => ⟨o, hh _ _ e⟩, nw⟩
  · obtain ⟨v, e1, e2⟩ := r.slot i d e m
    exact ⟨v, e1, Rp.mono st e2⟩
  · obtain ⟨a, u, e2, e3, e4, e5, e6⟩ := r.mt i d e m
    exact ⟨a, u, e2, hh _ _ e3, none_of_new nw e4 e3, e5.mono st, e6⟩
  · obtain ⟨e1, e2, e3, e4⟩ := r.pn p c e
    obtain ⟨_, e5⟩ := e2.at_
    exact ⟨e1, e2.mono st hh, none_of_new nw e3 e5, e4⟩
  · cases q : Hs b with
    | some o => exact r.new b e1 (by rw [q]; exact fun z => nomatch z)
    | none => exact (r.free0 (nw b q e2)).1
theorem R.stepP {p c : Addr} {k : Nat} {y : D} (r : R C H0 S0 Hs σ H s) (hp : C.pen = some (p, c)) (st : Same Hs Hs') (sb : Same Hs' H') (hh : But p H H') (nw : ∀ b, Hs b = none → Hs' b ≠ none → H b = none) (np : Hs' p = none) (pe : PenK C.K C.pk Hs' H' p c k y) :
    R C H0 S0 Hs' σ H' { s with n := k, h := y } ∧ Go C σ Hs H Hs' H' := by
  have ip : ∀ b, ¬ IsPen C b → b ≠ p := fun b h e => h (.inl (.inl ⟨c, by rw [e]; exact hp⟩))
  have ntb : ∀ ps, H p ≠ some (.tbl ps) := (r.pn p c hp).2.1.ntb
  refine ⟨⟨r.len, sb, fun i d e m => ?_, fun i d e m => ?_, r.dead, r.sep, fun p' c' e => ?_, r.br, r.s0.trans st, fun b o n e => hh _ _ (ip b n) (r.h0 b o n e), fun b e1 e2 => ?_, r.fx, r.tb.1.to st (fun t m ps e => hh _ _ (fun z => ntb ps (by rw [← z]; exact e)) e) (fun b e1 e2 ps e => by rw [nw b e1 e2] at e; cases e), r.tb.2⟩, st, fun b o e _ n => hh _ _ (ip b n) e, fun b o e => ?_, nw⟩
  · obtain ⟨v, e1, e2⟩ := r.slot i d e m
    exact ⟨v, e1, Rp.mono st e2⟩
  · obtain ⟨a, u, e2, e3, e4, e5, e6⟩ := r.mt i d e m
    have nap : a ≠ p := fun z => by
      subst z
      rcases e6 with e6 | e6
      · exact (r.pn a c hp).2.2.2.1 e6
      · exact (r.pn a c hp).2.2.2.2.2.2.2.1 e6
    exact ⟨a, u, e2, hh _ _ nap e3, none_of_new nw e4 e3, e5.mono st, e6⟩
  · rw [hp] at e
    cases e
    obtain ⟨e1, e2, e3, e4⟩ := r.pn p c hp
    exact ⟨e1, pe, np, e4⟩
  · cases q : Hs b with
    | some o => exact r.new b e1 (by rw [q]; exact fun z => nomatch z)
    | none => exact (r.free0 (nw b q e2)).1
  · by_cases z : b = p
    · subst z
      exact pe.at_
    · exact ⟨o, hh _ _ z e⟩
theorem RV.val {cat : Cat} {v : V} {d : D} (h : RV C.K H Hs' H' cat v d) (r : R C H0 S0 Hs σ H s) : Val C H0 H Hs' σ H' cat v d := by
  cases cat with
  | E => exact h
  | F =>
    have h : (if isC d = true then ∃ a o, v = .ref a ∧ H' a = some o ∧ Hs' a = none ∧ H a = none ∧ Cn C.K Hs' o d else Rp C.K Hs' v d) := h
    cases e : isC d with
    | true =>
      rw [if_pos e] at h
      obtain ⟨a, o, rfl, e1, e2, e3, e4⟩ := h
      obtain ⟨f1, f2, f3, _⟩ := r.free0 e3
      exact Val.mkC ⟨o, e1, e2, f1, e3, e4, f3⟩
    | false =>
      rw [if_neg (by rw [e]; exact Bool.false_ne_true)] at h
      exact Val.mkP h e
def dCall (F : DF) (a : DA) : DT := fun s Q => a s fun ds s1 => F ds fun d => Q d s1
theorem sim_call {n : Nat} {cat : Cat} {F : DF} {ta : TA} {a : DA} (h : SimA C n ta a) : Sim C cat (tCall (spN C.K n cat F) [] E0 ta) (dCall F a) := by
  refine ⟨fun H0 S0 Hs σ H s Q Q' r q k => h.run H0 S0 Hs σ H s _ _ r q fun Hs1 H1 vs ds s1 g1 r1 v1 l1 q1 => ?_⟩
  rw [List.append_nil]
  refine ⟨Hs1, ds, _, r1.sub, v1, l1, q1, fun d Hs' H' v q2 st sb hh nw rv => ?_⟩
  obtain ⟨r2, g2⟩ := r1.step st sb hh nw
  exact k Hs' H' v d s1 (g1.trans g2) r2 ((rv.val r1).anew fun a e => g1.back a e) q2
def dCallP (F : DFP) (a : DA) : DT := fun s Q => a s fun ds s1 => F ds s1.n fun d k => Q d { s1 with n := k }
theorem sim_callP {n : Nat} {cat : Cat} {F : DFP} {ta : TA} {a : DA} {i : Nat} (hp : C.pen ≠ none) (hi : C.ps = i) (h : SimA C n ta a) (hk : C.pk = .draw := by rfl) : Sim C cat (tCall (spP C.K n cat F) [] E0 (tCons (tVar i) ta)) (dCallP F a) := by
  refine ⟨fun H0 S0 Hs σ H s Q Q' r q k => ?_⟩
  obtain ⟨⟨p, c⟩, ep⟩ : ∃ pc, C.pen = some pc := by
    cases e : C.pen with
    | none => exact absurd e hp
    | some pc => exact ⟨pc, rfl⟩
  subst hi
  refine ⟨.ref p, (r.pn p c ep).1, h.run H0 S0 Hs σ H s _ _ r q fun Hs1 H1 vs ds s1 g1 r1 v1 l1 q1 => ?_⟩
  show spP C.K n cat F ((V.ref p :: vs) ++ []) H1 Q' E0
  rw [List.append_nil]
  obtain ⟨e1, e2, e3, e4⟩ := r1.pn p c ep
  rw [hk] at e2
  refine ⟨Hs1, p, c, s1.n, vs, ds, _, rfl, e2, e3, r1.sub, v1, l1, q1, fun d k' Hs' H' v q2 st sb hh nw np pe rv => ?_⟩
  obtain ⟨r2, g2⟩ := r1.stepP (y := s1.h) ep st sb hh nw np (by rw [hk]; exact pe)
  exact k Hs' H' v d _ (g1.trans g2) r2 ((rv.val r1).anew fun a e => g1.back a e) q2
end
/-! ### slices -/
def rSlG (K : PySem.W.Frag) : V → Option Int → Option Int → Hp → VK → Prop := fun x lo hi H Q => rSlL K x lo hi H Q ∨ rSlZ K x lo hi H Q ∨ rSlS x lo hi H Q
theorem SlR.or {X : Cx} {r r' : V → Option Int → Option Int → Hp → VK → Prop} (h : SlR X r) (h' : SlR X r') : SlR X (fun x lo hi H Q => r x lo hi H Q ∨ r' x lo hi H Q) := by
  intro pins s σ H x v vl vu lo hi sl Q I rx hs pl pu q
  rcases q with q | q
  · exact h pins s σ H x v vl vu lo hi sl Q I rx hs pl pu q
  · exact h' pins s σ H x v vl vu lo hi sl Q I rx hs pl pu q
theorem slG {X : Cx} (K : PySem.W.Frag) (eK : X.K = K) : SlR X (rSlG K) := by
  subst eK
  exact SlR.or sl_list (SlR.or (sl_tupZ X.K rfl) sl_str)
abbrev DOp := S → (Option Int → S → Prop) → Prop
structure SimO (C : Cf) (t : L2.St → Hp → (Option Int → Hp → Prop) → Prop) (d : DOp) : Prop where
  run : ∀ (H0 S0 Hs : Hp) (σ : L2.St) (H : Hp) (s : S) (Q : Option Int → S → Prop) (Q' : Option Int → Hp → Prop), R C H0 S0 Hs σ H s → d s Q →
    (∀ Hs' H' o s', Go C σ Hs H Hs' H' → R C H0 S0 Hs' σ H' s' → Q o s' → Q' o H') → t σ H Q'
def cutD (xs : List D) (lo hi : Option Int) : List D := (xs.drop (HT.sIx xs.length 0 lo)).take (HT.sIx xs.length xs.length hi - HT.sIx xs.length 0 lo)
def slD (x : D) (lo hi : Option Int) (Q : D → Prop) : Prop := match x with
  | .list ds => Q (.list (cutD ds lo hi))
  | .tuple ds => Q (.tuple (cutD ds lo hi))
  | .str z => z.length ≤ sizeLine ∧ Q (.str (cutS z lo hi))
  | _ => False
section
variable {C : Cf} {te ta tb : TE} {t da db : DT} {ca cb : Cat}
def dNoPart : DOp := fun s Q => Q none s
def dPart (a : DT) : DOp := fun s Q => a s fun d s1 => match d with
  | .int i => Q (some i) s1
  | _ => False
theorem simO_none : SimO C tNoPart dNoPart := ⟨fun H0 S0 Hs σ H s Q Q' r q k => k Hs H none s Go.refl r q⟩
theorem Val.int' {H0 Hst Hs : Hp} {σ : L2.St} {H : Hp} {v : V} {b : Int} {cat : Cat} (h : Val C H0 Hst Hs σ H cat v (.int b)) : v = .int b := by
  cases cat with
  | E => cases (show Rp C.K Hs v (.int b) from h); rfl
  | F => cases h.p rfl; rfl
theorem simO_some (h : Sim C ca te t) : SimO C (tPart te) (dPart t) := by
  refine ⟨fun H0 S0 Hs σ H s Q Q' r q k => h.run H0 S0 Hs σ H s _ _ r q fun Hs1 H1 v d s1 g1 r1 v1 q1 => ?_⟩
  cases d <;> first | exact q1.elim | skip
  rename_i b
  cases v1.int'
  exact ⟨b, rfl, k Hs1 H1 _ s1 g1 r1 q1⟩
theorem RpAll.cut {K : PySem.W.Frag} {H : Hp} {xs : List V} {ds : List D} (h : RpAll K H xs ds) (lo hi : Option Int) : RpAll K H (cutV xs lo hi) (cutD ds lo hi) := by
  unfold cutV cutD
  rw [h.len]
  exact (h.drop _).take _
theorem sl_run {H0 S0 Hs : Hp} {σ : L2.St} {H : Hp} {s : S} {x : V} {dx : D} {lo hi : Option Int} {Q : D → Prop} {Q' : VK} (r : R C H0 S0 Hs σ H s) (hx : Rd' C.K Hs H x dx) (q : slD dx lo hi Q)
    (k : ∀ Hs' H' v d, Go C σ Hs H Hs' H' → R C H0 S0 Hs' σ H' s → Val C H0 H Hs' σ H' .F v d → Q d → Q' v H') : rSlG C.K x lo hi H Q' := by
  cases dx <;> first | exact q.elim | skip
  case list ds =>
    obtain ⟨a, xs, rfl, e1, e2⟩ := Rd'.list hx
    exact .inl ⟨a, xs, rfl, SqL.of e1, fun p np => k Hs _ _ (.list (cutD ds lo hi)) (Go.laid np) (r.laid np) (r.newList np (e2.cut lo hi)) q⟩
  case tuple ds =>
    cases hx with
    | @tup a xs _ e1 e2 =>
    refine .inr (.inl ⟨a, xs, rfl, Same.sqT r.sub e1.sq, fun z => ?_, fun z p o np hd => ?_⟩)
    · refine k Hs H _ (.tuple (cutD ds lo hi)) Go.refl r (Val.mkP ?_ rfl) q
      have : cutD ds lo hi = ds := by
        unfold cutD
        rw [← e2.len, z.1, z.2, List.drop_zero, Nat.sub_zero, e2.len, List.take_length]
      rw [this]
      exact Rp.tup e1 e2
    · obtain ⟨r', g'⟩ := r.newTup (o := .frz o (.tup (cutV xs lo hi))) np
      exact k _ _ _ (.tuple (cutD ds lo hi)) g' r' (Val.mkP (Rp.tup (TqT.of upd_same hd) (RpAll.mono g'.st (e2.cut lo hi))) rfl) q
  case str z =>
    cases hx
    exact .inr (.inr ⟨z, rfl, q.1, k Hs H _ (.str (cutS z lo hi)) Go.refl r (Val.mkP (Rp.str _) rfl) q.2⟩)
def dSl (a : DT) (l h : DOp) : DT := fun s Q => a s fun x s1 => l s1 fun lo s2 => h s2 fun hi s3 => slD x lo hi fun z => Q z s3
theorem sim_sl {tl th : L2.St → Hp → (Option Int → Hp → Prop) → Prop} {l h : DOp} (ha : Sim C ca ta da) (hl : SimO C tl l) (hh : SimO C th h) : Sim C .F (tSl (rSlG C.K) ta tl th) (dSl da l h) := by
  refine ⟨fun H0 S0 Hs σ H s Q Q' r q k => ha.run H0 S0 Hs σ H s _ _ r q fun Hs1 H1 x dx s1 g1 r1 v1 q1 => hl.run H0 S0 Hs1 σ H1 s1 _ _ r1 q1 fun Hs2 H2 lo s2 g2 r2 q2 => hh.run H0 S0 Hs2 σ H2 s2 _ _ r2 q2 fun Hs3 H3 hi s3 g3 r3 q3 => ?_⟩
  refine sl_run r3 (((v1.go r1 g2).go r2 g3).rd r3.sub) q3 fun Hs4 H4 v d g4 r4 v4 q4 => ?_
  exact k Hs4 H4 v d s3 (g1.trans (g2.trans (g3.trans g4))) r4 (v4.anew fun a e => (g1.trans (g2.trans g3)).back a e) q4
def dSlM (i : Nat) (l h : DOp) : DT := fun s Q => (∃ d, s.δ[i]? = some (some d)) ∧ l s fun lo s2 => h s2 fun hi s3 => match s3.δ[i]? with
  | some (some x) => slD x lo hi fun z => Q z s3
  | _ => False
theorem sim_slM {tl th : L2.St → Hp → (Option Int → Hp → Prop) → Prop} {l h : DOp} (i : Nat) (hi : i ∈ C.M) (hl : SimO C tl l) (hh : SimO C th h) : Sim C .F (tSl (rSlG C.K) (tVar i) tl th) (dSlM i l h) := by
  refine ⟨fun H0 S0 Hs σ H s Q Q' r q k => ?_⟩
  obtain ⟨⟨d, e⟩, q⟩ := q
  obtain ⟨v, e1, _⟩ := r.rdM hi e
  refine ⟨v, e1, hl.run H0 S0 Hs σ H s _ _ r q fun Hs2 H2 lo s2 g2 r2 q2 => hh.run H0 S0 Hs2 σ H2 s2 _ _ r2 q2 fun Hs3 H3 hi' s3 g3 r3 q3 => ?_⟩
  split at q3
  · rename_i x ex
    obtain ⟨v', e2, rd⟩ := r3.rdM hi ex
    rw [e1] at e2
    cases e2
    refine sl_run r3 rd q3 fun Hs4 H4 v d g4 r4 v4 q4 => ?_
    exact k Hs4 H4 v d s3 (g2.trans (g3.trans g4)) r4 (v4.anew fun a e => (g2.trans g3).back a e) q4
  · exact q3.elim
/-- xs[::-1] -/
def revD (x : D) (Q : D → Prop) : Prop := match x with
  | .list ds => Q (.list ds.reverse)
  | _ => False
def dRev (a : DT) : DT := fun s Q => a s fun x s1 => revD x fun z => Q z s1
theorem sim_rev (ha : Sim C ca ta da) : Sim C .F (tRevL C.K ta) (dRev da) := by
  refine ⟨fun H0 S0 Hs σ H s Q Q' r q k => ha.run H0 S0 Hs σ H s _ _ r q fun Hs1 H1 x dx s1 g1 r1 v1 q1 => ?_⟩
  have rd := v1.rd r1.sub
  cases dx <;> first | exact q1.elim | skip
  rename_i ds
  obtain ⟨a, xs, rfl, e1, e2⟩ := Rd'.list rd
  exact ⟨a, xs, rfl, SqL.of e1, fun p np => k Hs1 _ _ (.list ds.reverse) s1 (g1.trans (Go.laid np)) (r1.laid np) ((r1.newList np e2.rev).anew fun a e => g1.back a e) q1⟩
/-! ### lists of the def's own, changed in place -/
abbrev DM := List D → List D → (D → List D → Prop) → Prop
def MtA (C : Cf) (r : V → List V → Hp → VK → Prop) (f : DM) : Prop := ∀ (Hs H : Hp) (a : Addr) (xs : List V) (ds : List D) (vs : List V) (es : List D) (Q : D → List D → Prop) (Q' : VK), Same Hs H → H a = some (.lst xs) → RpAll C.K Hs xs ds → RpAll C.K Hs vs es → f ds es Q →
  (∀ v d xs' ds', RpAll C.K Hs xs' ds' → Rp C.K Hs v d → Q d ds' → Q' v (upd H a (.lst xs'))) → r (.ref a) vs H Q'
theorem R.upd {H0 S0 Hs : Hp} {σ : L2.St} {H : Hp} {s : S} {i : Nat} {a : Addr} {o' : HO} {d d' : D} (r : R C H0 S0 Hs σ H s) (hi : i ∈ C.M) (e : s.δ[i]? = some (some d)) (ea : σ[i]? = some (some (.ref a))) (h : Cn C.K Hs o' d') :
    R C H0 S0 Hs σ (L2.upd H a o') { s with δ := s.δ.set i (some d') } ∧ Go C σ Hs H Hs (L2.upd H a o') := by
  obtain ⟨a', u, e1, e2, e3, e4, e5⟩ := r.mt i d e hi
  rw [ea] at e1
  cases e1
  have il : i < s.δ.length := (List.getElem?_eq_some_iff.mp e).1
  have own : Own C σ a := ⟨i, hi, ea⟩
  have sm : ∀ b o, b ≠ a → H b = some o → L2.upd H a o' b = some o := fun b o n q => by rw [upd_ne n]; exact q
  refine ⟨⟨by simpa using r.len, fun b o q => ?_, fun j d' q m => ?_, fun j d' q m => ?_, fun j m q => ?_, r.sep, fun p c q => ?_, r.br, r.s0, fun b o n q => ?_, r.new, r.fx, r.tb.1.to (Same.refl _) (fun t m ps q => sm _ _ (fun z => by rw [z, e2] at q; cases q; cases e4) q) (fun _ h1 h2 => absurd h1 h2), r.tb.2⟩, Same.refl _, fun b o q n _ => ?_, fun b o q => ?_, fun _ h1 h2 => absurd h1 h2⟩
  · exact sm b o (fun z => by subst z; rw [e3] at q; cases q) (r.sub b o q)
  · have hj : j ≠ i := fun z => m (z ▸ hi)
    rw [List.getElem?_set_ne (Ne.symm hj)] at q
    exact r.slot j d' q m
  · by_cases hj : j = i
    · subst hj
      rw [List.getElem?_set_self il] at q
      cases q
      exact ⟨a, o', ea, upd_same, e3, h, e5⟩
    · rw [List.getElem?_set_ne (Ne.symm hj)] at q
      obtain ⟨b, w, f2, f3, f4⟩ := r.mt j d' q m
      refine ⟨b, w, f2, sm b _ (fun z => ?_) f3, f4⟩
      subst z
      exact hj (r.sep j i b m hi f2 ea)
  · by_cases hj : j = i
    · subst hj
      rw [List.getElem?_set_self il] at q
      cases q
    · rw [List.getElem?_set_ne (Ne.symm hj)] at q
      exact r.dead j m q
  · obtain ⟨f1, f2, f3, f4, f5, f6, f7, f8, f9⟩ := r.pn p c q
    refine ⟨f1, f2.but (q := a) (fun b o n q => sm b o n q) (fun z => ?_) (fun z => ?_), f3, f4, f5, ?_, f7, f8, f9⟩
    · subst z
      rcases e5 with e5 | e5
      · exact f4 e5
      · exact f8 e5
    · subst z
      rcases e5 with e5 | e5
      · exact f5 e5
      · exact f9 e5
    · rw [List.getElem?_set_ne (show i ≠ C.ps from fun z => f7 (by rw [← z]; exact hi))]
      exact f6
  · refine sm b o (fun z => ?_) (r.h0 b o n q)
    subst z
    rcases e5 with e5 | e5
    · rw [e5] at q; cases q
    · exact n (.inr e5)
  · exact sm b o (fun z => n (by rw [z]; exact own)) q
  · by_cases z : b = a
    · exact ⟨_, by rw [z]; exact upd_same⟩
    · exact ⟨o, sm b o z q⟩
def dMt (f : DM) (i : Nat) (a : DA) : DT := fun s Q => (∃ d, s.δ[i]? = some (some (.list d))) ∧ a s fun es s1 => match s1.δ[i]? with
  | some (some (.list ds)) => f ds es fun d ds' => Q d { s1 with δ := s1.δ.set i (some (.list ds')) }
  | _ => False
theorem R.mtL {H0 S0 Hs : Hp} {σ : L2.St} {H : Hp} {s : S} {i : Nat} {ds : List D} (r : R C H0 S0 Hs σ H s) (hi : i ∈ C.M) (e : s.δ[i]? = some (some (.list ds))) : ∃ a xs, σ[i]? = some (some (.ref a)) ∧ H a = some (.lst xs) := by
  obtain ⟨a, o, e1, e2, _, c, _⟩ := r.mt i _ e hi
  cases c
  exact ⟨a, _, e1, e2⟩
theorem sim_mt {n : Nat} {r : V → List V → Hp → VK → Prop} {f : DM} {ta : TA} {a : DA} (i : Nat) (hi : i ∈ C.M) (hf : MtA C r f) (ha : SimA C n ta a) : Sim C .E (tBM C.K "list" r (tVar i) ta) (dMt f i a) := by
  refine ⟨fun H0 S0 Hs σ H s Q Q' r0 q k => ?_⟩
  obtain ⟨⟨d, e⟩, q⟩ := q
  obtain ⟨b, xs, e1, e2⟩ := r0.mtL hi e
  refine ⟨_, e1, .inl ⟨rfl, xs, SqL.of e2⟩, ha.run H0 S0 Hs σ H s _ _ r0 q fun Hs1 H1 vs es s1 g1 r1 v1 _ q1 => ?_⟩
  split at q1
  · rename_i ds1 ex
    obtain ⟨b', o1, e4, e5, e6, e7, _⟩ := r1.mt i _ ex hi
    rw [e1] at e4
    cases e4
    cases e7
    rename_i xs1 e7
    refine hf Hs1 H1 b xs1 ds1 vs es _ _ r1.sub e5 e7 v1 q1 fun v d xs' ds' h1 h2 q2 => ?_
    obtain ⟨r2, g2⟩ := r1.upd hi ex e1 (.lst h1)
    exact k Hs1 _ v d _ (g1.trans g2) r2 h2 q2
  · exact q1.elim
theorem sim_mt0 {r : V → List V → Hp → VK → Prop} {f : DM} (i : Nat) (hi : i ∈ C.M) (hf : MtA C r f) : Sim C .E (tBM0 C.K "list" r (tVar i)) (dMt f i dNil) := by
  refine ⟨fun H0 S0 Hs σ H s Q Q' r0 q k => ?_⟩
  obtain ⟨⟨d, e⟩, q⟩ := q
  obtain ⟨b, o, e1, e2, e3, e4, _⟩ := r0.mt i _ e hi
  cases e4
  rename_i xs e4
  refine ⟨_, e1, .inl ⟨rfl, xs, SqL.of e2⟩, ?_⟩
  have q : (match s.δ[i]? with | some (some (.list ds)) => f ds [] fun d ds' => Q d { s with δ := s.δ.set i (some (.list ds')) } | _ => False) := q
  rw [e] at q
  refine hf Hs H b xs d [] [] _ _ r0.sub e2 e4 .nil q fun v d xs' ds' h1 h2 q2 => ?_
  obtain ⟨r2, g2⟩ := r0.upd hi e e1 (.lst h1)
  exact k Hs _ v d _ g2 r2 h2 q2
def appM : DM := fun ds es Q => match es with
  | [e] => ds.length < sizeLine ∧ Q .none (ds ++ [e])
  | _ => False
theorem mtA_app : MtA C rAppend appM := by
  intro Hs H a xs ds vs es Q Q' sub h1 h2 h3 q k
  match vs, es, h3 with
  | [v], [e], .cons h4 .nil => exact ⟨a, xs, v, rfl, rfl, h1, by rw [h2.len]; exact q.1, k _ .none _ _ (h2.app (.cons h4 .nil)) .non q.2⟩
  | [], [], _ => exact q.elim
  | _ :: _ :: _, _ :: _ :: _, _ => exact q.elim
def extM : DM := fun ds es Q => match es with
  | [e] => (match e with
    | .list zs => ds.length + zs.length ≤ sizeLine ∧ Q .none (ds ++ zs)
    | _ => False)
  | _ => False
theorem mtA_ext : MtA C rExtend extM := by
  intro Hs H a xs ds vs es Q Q' sub h1 h2 h3 q k
  match vs, es, h3 with
  | [v], [e], .cons h4 .nil =>
    cases e <;> first | exact q.elim | skip
    cases h4 with
    | @lst b zs _ h5 h6 => exact ⟨a, b, xs, zs, rfl, rfl, h1, sub _ _ h5, by rw [h2.len, h6.len]; exact q.1, k _ .none _ _ (h2.app h6) .non q.2⟩
  | [], [], _ => exact q.elim
  | _ :: _ :: _, _ :: _ :: _, _ => exact q.elim
theorem RpAll.eraseIdx {K : PySem.W.Frag} {H : Hp} : ∀ {xs : List V} {ds : List D} (n : Nat), RpAll K H xs ds → RpAll K H (xs.eraseIdx n) (ds.eraseIdx n)
  | _, _, _, .nil => by simp only [List.eraseIdx_nil]; exact .nil
  | _, _, 0, .cons a b => b
  | _, _, n + 1, .cons a b => .cons a (RpAll.eraseIdx n b)
theorem RpAll.dropLast {K : PySem.W.Frag} {H : Hp} {xs : List V} {ds : List D} (h : RpAll K H xs ds) : RpAll K H xs.dropLast ds.dropLast := by
  rw [List.dropLast_eq_take, List.dropLast_eq_take, h.len]
  exact h.take _
def popM : DM := fun ds es Q => match es with
  | [] => (match ds[ds.length - 1]? with | some d => Q d ds.dropLast | none => False)
  | _ => False
theorem mtA_pop : MtA C rPop popM := by
  intro Hs H a xs ds vs es Q Q' sub h1 h2 h3 q k
  match vs, es, h3 with
  | [], [], .nil =>
    simp only [popM] at q
    split at q
    · rename_i d e
      obtain ⟨x, e1, e2⟩ := h2.get e
      exact ⟨a, xs, x, rfl, rfl, h1, by rw [h2.len]; exact e1, k _ d _ _ h2.dropLast e2 q⟩
    · exact q.elim
  | _ :: _, _ :: _, _ => exact q.elim
def popAtM : DM := fun ds es Q => match es with
  | [e] => (match e with
    | .int i => (0 ≤ i ∧ i < 2 ^ 62) ∧ (match ds[i.toNat]? with | some d => Q d (ds.eraseIdx i.toNat) | none => False)
    | _ => False)
  | _ => False
theorem mtA_popAt : MtA C rPopAt popAtM := by
  intro Hs H a xs ds vs es Q Q' sub h1 h2 h3 q k
  match vs, es, h3 with
  | [v], [e], .cons h4 .nil =>
    cases e <;> first | exact q.elim | skip
    cases h4
    rename_i i
    obtain ⟨h0, q⟩ := q
    split at q
    · rename_i d e
      obtain ⟨x, e1, e2⟩ := h2.get e
      have hl : i.toNat < xs.length := (List.getElem?_eq_some_iff.mp e1).1
      exact ⟨a, xs, i, i.toNat, x, rfl, rfl, h1, by omega, by omega, seqIndex_of h0.1 (by omega), e1, k _ d _ _ (h2.eraseIdx _) e2 q⟩
    · exact q.elim
  | [], [], _ => exact q.elim
  | _ :: _ :: _, _ :: _ :: _, _ => exact q.elim
def clearM : DM := fun _ es Q => match es with
  | [] => Q .none []
  | _ => False
theorem mtA_clear : MtA C rClear clearM := by
  intro Hs H a xs ds vs es Q Q' sub h1 h2 h3 q k
  match vs, es, h3 with
  | [], [], .nil => exact ⟨a, xs, rfl, rfl, h1, k _ .none _ _ .nil .non q⟩
  | _ :: _, _ :: _, _ => exact q.elim
end

/-! ### statements -/
structure DEnds where
  nx : S → Prop
  rt : D → S → Prop
  bk : S → Prop := fun _ => False
  ct : S → Prop := fun _ => False
  ex : Prop := False
abbrev DSt := DEnds → S → Prop
structure Tr (C : Cf) (cat : Cat) (H0 S0 : Hp) (E : DEnds) (D' : Ends) : Prop where
  nx : ∀ Hs σ H s, R C H0 S0 Hs σ H s → E.nx s → D'.nx σ H
  rt : ∀ Hs σ H s v d, R C H0 S0 Hs σ H s → RV C.K H0 Hs H cat v d → E.rt d s → D'.rt v H
  bk : ∀ Hs σ H s, R C H0 S0 Hs σ H s → E.bk s → D'.bk σ H
  ct : ∀ Hs σ H s, R C H0 S0 Hs σ H s → E.ct s → D'.ct σ H
  ex : ∀ Hs σ H s, R C H0 S0 Hs σ H s → E.ex → C.ex H
structure SimS (C : Cf) (cat : Cat) (ts : TS) (t : DSt) : Prop where
  run : ∀ (H0 S0 Hs : Hp) (σ : L2.St) (H : Hp) (s : S) (E : DEnds) (D' : Ends), R C H0 S0 Hs σ H s → t E s → Tr C cat H0 S0 E D' → ts D' σ H
section
variable {C : Cf} {cat : Cat} {te ta tb : TE} {t da db : DT} {ca cb : Cat} {ts us : TS} {a b : DSt}
def dNext : DSt := fun E s => E.nx s
def dSeq (a b : DSt) : DSt := fun E s => a { E with nx := b E } s
theorem simS_next : SimS C cat tNext dNext := ⟨fun H0 S0 Hs σ H s E D' r q k => k.nx Hs σ H s r q⟩
theorem simS_seq (ha : SimS C cat ts a) (hb : SimS C cat us b) : SimS C cat (tSeq ts us) (dSeq a b) :=
  ⟨fun H0 S0 Hs σ H s E D' r q k => ha.run H0 S0 Hs σ H s _ _ r q ⟨fun Hs σ H s r q => hb.run H0 S0 Hs σ H s E D' r q k, k.rt, k.bk, k.ct, k.ex⟩⟩
def dBreak : DSt := fun E s => E.bk s
def dCont : DSt := fun E s => E.ct s
theorem simS_break : SimS C cat tBreak dBreak := ⟨fun H0 S0 Hs σ H s E D' r q k => k.bk Hs σ H s r q⟩
theorem simS_cont : SimS C cat tCont dCont := ⟨fun H0 S0 Hs σ H s E D' r q k => k.ct Hs σ H s r q⟩
def dNever : DSt := fun _ _ => False
theorem simS_never : SimS C cat tNever dNever := ⟨fun H0 S0 Hs σ H s E D' r q k => q⟩
/-! stores -/
theorem R.setE {H0 S0 Hs : Hp} {σ : L2.St} {H : Hp} {s : S} {i : Nat} {v : V} {d : D} (r : R C H0 S0 Hs σ H s) (hi : i ∉ C.M) (hp : C.Nf i) (h : Rp C.K Hs v d) : R C H0 S0 Hs (σ.set i (some v)) H { s with δ := s.δ.set i (some d) } := by
  have ne : ∀ j, j ∈ C.M → j ≠ i := fun j m z => hi (z ▸ m)
  refine ⟨by simpa using r.len, r.sub, fun j d' q m => ?_, fun j d' q m => ?_, fun j m q => ?_, fun j l x m1 m2 q1 q2 => ?_, fun p c q => ?_, fun b hb => ?_, r.s0, r.h0, r.new, fun y m => ⟨by rw [List.getElem?_set_ne (Ne.symm (hp.2 y m))]; exact (r.fx y m).1, (r.fx y m).2⟩, r.tb⟩
  · by_cases hj : j = i
    · subst hj
      have il : j < s.δ.length := by
        have := (List.getElem?_eq_some_iff.mp q).1
        simpa using this
      rw [List.getElem?_set_self il] at q
      cases q
      exact ⟨v, List.getElem?_set_self (by rw [r.len]; exact il), h⟩
    · rw [List.getElem?_set_ne (Ne.symm hj)] at q ⊢
      exact r.slot j d' q m
  · rw [List.getElem?_set_ne (Ne.symm (ne j m))] at q ⊢
    exact r.mt j d' q m
  · rw [List.getElem?_set_ne (Ne.symm (ne j m))] at q ⊢
    exact r.dead j m q
  · rw [List.getElem?_set_ne (Ne.symm (ne j m1))] at q1
    rw [List.getElem?_set_ne (Ne.symm (ne l m2))] at q2
    exact r.sep j l x m1 m2 q1 q2
  · obtain ⟨f1, f2, f3, f4, f5, f6, f7⟩ := r.pn p c q
    exact ⟨by rw [List.getElem?_set_ne hp.1]; exact f1, f2, f3, f4, f5, by rw [List.getElem?_set_ne hp.1]; exact f6, f7⟩
  · obtain ⟨⟨j, b1, b2, b3⟩, b4⟩ := r.br b hb
    exact ⟨⟨j, b1, b2, by rw [List.getElem?_set_ne (Ne.symm (ne j b2))]; exact b3⟩, b4⟩
theorem R.setM {H0 S0 Hs : Hp} {σ : L2.St} {H : Hp} {s : S} {i : Nat} {x : Addr} {d : D} {Hst : Hp} (r : R C H0 S0 Hs σ H s) (hi : i ∈ C.M) (hb : i ∉ C.bs) (f : Fresh C H0 Hst Hs σ H x d) :
    R C H0 S0 Hs (σ.set i (some (.ref x))) H { s with δ := s.δ.set i (some d) } := by
  obtain ⟨o, h1, h2, h3, _, h4, h5⟩ := f
  refine ⟨by simpa using r.len, r.sub, fun j d' q m => ?_, fun j d' q m => ?_, fun j m q => ?_, fun j l y m1 m2 q1 q2 => ?_, fun p c q => ?_, fun b hb' => ?_, r.s0, r.h0, r.new, fun y m => ⟨by rw [List.getElem?_set_ne (show i ≠ y.1 from fun z => (r.fx y m).2.1 (by rw [← z]; exact hi))]; exact (r.fx y m).1, (r.fx y m).2⟩, r.tb⟩
  · have hj : j ≠ i := fun z => m (z ▸ hi)
    rw [List.getElem?_set_ne (Ne.symm hj)] at q ⊢
    exact r.slot j d' q m
  · by_cases hj : j = i
    · subst hj
      have il : j < s.δ.length := by
        have := (List.getElem?_eq_some_iff.mp q).1
        simpa using this
      rw [List.getElem?_set_self il] at q
      cases q
      exact ⟨x, o, List.getElem?_set_self (by rw [r.len]; exact il), h1, h2, h4, .inl h3⟩
    · rw [List.getElem?_set_ne (Ne.symm hj)] at q ⊢
      exact r.mt j d' q m
  · by_cases hj : j = i
    · subst hj
      have il : j < s.δ.length := by
        have := (List.getElem?_eq_some_iff.mp q).1
        simpa using this
      rw [List.getElem?_set_self il] at q
      cases q
    · rw [List.getElem?_set_ne (Ne.symm hj)] at q ⊢
      exact r.dead j m q
  · by_cases hj : j = i
    · by_cases hl : l = i
      · rw [hj, hl]
      · subst hj
        have jl : j < σ.length := by
          have := (List.getElem?_eq_some_iff.mp q1).1
          simpa using this
        rw [List.getElem?_set_self jl] at q1
        cases q1
        rw [List.getElem?_set_ne (Ne.symm hl)] at q2
        exact absurd ⟨l, m2, q2⟩ h5
    · by_cases hl : l = i
      · subst hl
        have ll : l < σ.length := by
          have := (List.getElem?_eq_some_iff.mp q2).1
          simpa using this
        rw [List.getElem?_set_self ll] at q2
        cases q2
        rw [List.getElem?_set_ne (Ne.symm hj)] at q1
        exact absurd ⟨j, m1, q1⟩ h5
      · rw [List.getElem?_set_ne (Ne.symm hj)] at q1
        rw [List.getElem?_set_ne (Ne.symm hl)] at q2
        exact r.sep j l y m1 m2 q1 q2
  · obtain ⟨f1, f2, f3, f4, f5, f6, f7⟩ := r.pn p c q
    have hp : i ≠ C.ps := fun z => f7.1 (by rw [← z]; exact hi)
    exact ⟨by rw [List.getElem?_set_ne hp]; exact f1, f2, f3, f4, f5, by rw [List.getElem?_set_ne hp]; exact f6, f7⟩
  · obtain ⟨⟨j, b1, b2, b3⟩, b4⟩ := r.br b hb'
    exact ⟨⟨j, b1, b2, by rw [List.getElem?_set_ne (fun z => hb (by rw [z]; exact b1))]; exact b3⟩, b4⟩
def dSet (i : Nat) (a : DT) : DSt := fun E s => a s fun d s1 => E.nx { s1 with δ := s1.δ.set i (some d) }
theorem simS_set (i : Nat) (hi : i ∉ C.M) (hp : C.Nf i) (h : Sim C ca te t) : SimS C cat (tAsg te (gName i)) (dSet i t) :=
  ⟨fun H0 S0 Hs σ H s E D' r q k => h.toE.run H0 S0 Hs σ H s _ _ r q fun Hs1 H1 v d s1 g1 r1 v1 q1 => k.nx Hs1 _ H1 _ (r1.setE hi hp v1) q1⟩
def dSetM (i : Nat) (a : DT) : DSt := fun E s => a s fun d s1 => isC d = true ∧ E.nx { s1 with δ := s1.δ.set i (some d) }
theorem simS_setM (i : Nat) (hi : i ∈ C.M) (hb : i ∉ C.bs) (h : Sim C .F te t) : SimS C cat (tAsg te (gName i)) (dSetM i t) := by
  refine ⟨fun H0 S0 Hs σ H s E D' r q k => h.run H0 S0 Hs σ H s _ _ r q fun Hs1 H1 v d s1 g1 r1 v1 q1 => ?_⟩
  obtain ⟨x, rfl, f⟩ := v1.c q1.1
  exact k.nx Hs1 _ H1 _ (r1.setM hi hb f) q1.2
def dDrop (a : DT) : DSt := fun E s => a s fun _ s1 => E.nx s1
theorem simS_drop (h : Sim C ca te t) : SimS C cat (tDrop te) (dDrop t) :=
  ⟨fun H0 S0 Hs σ H s E D' r q k => h.run H0 S0 Hs σ H s _ _ r q fun Hs1 H1 v d s1 g1 r1 v1 q1 => k.nx Hs1 _ H1 _ r1 q1⟩
def dRet (a : DT) : DSt := fun E s => a s fun d s1 => E.rt d s1
theorem simS_ret (h : Sim C cat te t) : SimS C cat (tRet te) (dRet t) := by
  refine ⟨fun H0 S0 Hs σ H s E D' r q k => h.run H0 S0 Hs σ H s _ _ r q fun Hs1 H1 v d s1 g1 r1 v1 q1 => k.rt Hs1 σ H1 s1 v d r1 ?_ q1⟩
  cases cat with
  | E => exact v1
  | F =>
    cases e : isC d with
    | true =>
      obtain ⟨x, rfl, o, h1, h2, h3, h4, h5, h6⟩ := v1.c e
      exact ifp e ⟨x, o, rfl, h1, h2, h3, h5⟩
    | false => exact ifn (by rw [e]; exact Bool.false_ne_true) (v1.p e)
/-- return of a list of the def's own -/
def dRetM (i : Nat) : DSt := fun E s => match s.δ[i]? with
  | some (some d) => E.rt d { s with δ := s.δ.set i none }
  | _ => False
theorem R.dropM {H0 S0 Hs : Hp} {σ : L2.St} {H : Hp} {s : S} {i : Nat} (r : R C H0 S0 Hs σ H s) (hi : i ∈ C.M) (hb : i ∉ C.bs) : R C H0 S0 Hs (σ.set i none) H { s with δ := s.δ.set i none } := by
  have ko : ∀ (j : Nat) (v : V), (σ.set i none)[j]? = some (some v) → j ≠ i ∧ σ[j]? = some (some v) := fun j v q => by
    by_cases hj : j = i
    · subst hj
      have jl : j < σ.length := by
        have := (List.getElem?_eq_some_iff.mp q).1
        simpa using this
      rw [List.getElem?_set_self jl] at q
      cases q
    · rw [List.getElem?_set_ne (Ne.symm hj)] at q
      exact ⟨hj, q⟩
  refine ⟨by simpa using r.len, r.sub, fun j d' q m => ?_, fun j d' q m => ?_, fun j m q => ?_, fun j l y m1 m2 q1 q2 => r.sep j l y m1 m2 (ko j _ q1).2 (ko l _ q2).2, fun p c q => ?_, fun b hb' => ?_, r.s0, r.h0, r.new, fun y m => ⟨by rw [List.getElem?_set_ne (show i ≠ y.1 from fun z => (r.fx y m).2.1 (by rw [← z]; exact hi))]; exact (r.fx y m).1, (r.fx y m).2⟩, r.tb⟩
  · have hj : j ≠ i := fun z => m (z ▸ hi)
    rw [List.getElem?_set_ne (Ne.symm hj)] at q ⊢
    exact r.slot j d' q m
  · by_cases hj : j = i
    · subst hj
      have il : j < s.δ.length := by
        have := (List.getElem?_eq_some_iff.mp q).1
        simpa using this
      rw [List.getElem?_set_self il] at q
      cases q
    · rw [List.getElem?_set_ne (Ne.symm hj)] at q ⊢
      exact r.mt j d' q m
  · by_cases hj : j = i
    · subst hj
      have il : j < s.δ.length := by
        have := (List.getElem?_eq_some_iff.mp q).1
        simpa using this
      exact List.getElem?_set_self (by rw [r.len]; exact il)
    · rw [List.getElem?_set_ne (Ne.symm hj)] at q ⊢
      exact r.dead j m q
  · obtain ⟨f1, f2, f3, f4, f5, f6, f7⟩ := r.pn p c q
    have hp : i ≠ C.ps := fun z => f7.1 (by rw [← z]; exact hi)
    exact ⟨by rw [List.getElem?_set_ne hp]; exact f1, f2, f3, f4, f5, by rw [List.getElem?_set_ne hp]; exact f6, f7⟩
  · obtain ⟨⟨j, b1, b2, b3⟩, b4⟩ := r.br b hb'
    exact ⟨⟨j, b1, b2, by rw [List.getElem?_set_ne (fun z => hb (by rw [z]; exact b1))]; exact b3⟩, b4⟩
theorem simS_retM (i : Nat) (hi : i ∈ C.M) (hb : i ∉ C.bs) : SimS C cat (tRet (tVar i)) (dRetM i) := by
  refine ⟨fun H0 S0 Hs σ H s E D' r q k => ?_⟩
  unfold dRetM at q
  split at q
  · rename_i d e
    obtain ⟨x, o, e1, e2, e3, e4, e5⟩ := r.mt i d e hi
    refine ⟨_, e1, ?_⟩
    have r' := r.dropM hi hb
    have e5 : H0 x = none := by
      rcases e5 with e5 | e5
      · exact e5
      · obtain ⟨⟨j, b1, b2, b3⟩, _⟩ := r.br x e5
        exact absurd (by rw [← r.sep j i x b2 hi b3 e1]; exact b1) hb
    cases cat with
    | F => exact k.rt Hs _ H _ _ d r' (ifp e4.is ⟨x, o, rfl, e2, e3, e5, e4⟩) q
    | E =>
      have no : ¬ Own C (σ.set i none) x := fun ⟨j, m, z⟩ => by
        by_cases hj : j = i
        · subst hj
          have jl : j < σ.length := by
            have := (List.getElem?_eq_some_iff.mp z).1
            simpa using this
          rw [List.getElem?_set_self jl] at z
          cases z
        · rw [List.getElem?_set_ne (Ne.symm hj)] at z
          exact hj (r.sep j i x m hi z e1)
      obtain ⟨Hs', _, r2, rp, _⟩ := r'.freeze (Hst := Hs) ⟨o, e2, e3, e5, e3, e4, no⟩
      exact k.rt Hs' _ H _ _ _ r2 rp q
  · exact q.elim
def dRetN : DSt := fun E s => E.rt .none s
theorem simS_retN : SimS C cat tRetN dRetN := by
  refine ⟨fun H0 S0 Hs σ H s E D' r q k => k.rt Hs σ H s .non .none r ?_ q⟩
  cases cat with
  | E => exact Rp.non
  | F => simp only [RV, isC, if_neg Bool.false_ne_true]; exact Rp.non
def dIfS (c : DB) (a b : DSt) : DSt := fun E s => c s fun k s1 => if k = true then a E s1 else b E s1
theorem simS_if {tt : TT} {c : DB} (hc : SimT C tt c) (ha : SimS C cat ts a) (hb : SimS C cat us b) : SimS C cat (tIfS tt ts us) (dIfS c a b) := by
  refine ⟨fun H0 S0 Hs σ H s E D' r q k => hc.run H0 S0 Hs σ H s _ _ r q fun Hs1 H1 c s1 g1 r1 q1 => ?_⟩
  cases c with
  | true => exact ifp rfl (ha.run H0 S0 Hs1 σ H1 s1 E D' r1 (by simpa using q1) k)
  | false => exact ifn Bool.false_ne_true (hb.run H0 S0 Hs1 σ H1 s1 E D' r1 (by simpa using q1) k)
/-! targets -/
structure SimG (C : Cf) (bw : Bool) (ts : List Nat) (g : TG) (t : D → S → (S → Prop) → Prop) : Prop where
  run : ∀ (H0 S0 Hs : Hp) (σ : L2.St) (H : Hp) (s : S) (v : V) (d : D) (Q : S → Prop) (Q' : L2.St → Hp → Prop), R C H0 S0 Hs σ H s → RqB bw C.K Hs v d → t d s Q →
    (∀ σ' s', R C H0 S0 Hs σ' H s' → σ'.length = σ.length → (∀ j, j ∉ ts → σ'[j]? = σ[j]?) → Q s' → Q' σ' H) → g v σ H Q'
structure SimGs (C : Cf) (ts : List Nat) (g : TGs) (t : List D → S → (S → Prop) → Prop) : Prop where
  run : ∀ (H0 S0 Hs : Hp) (σ : L2.St) (H : Hp) (s : S) (vs : List V) (ds : List D) (Q : S → Prop) (Q' : L2.St → Hp → Prop), R C H0 S0 Hs σ H s → RpAll C.K Hs vs ds → t ds s Q →
    (∀ σ' s', R C H0 S0 Hs σ' H s' → σ'.length = σ.length → (∀ j, j ∉ ts → σ'[j]? = σ[j]?) → Q s' → Q' σ' H) → g vs σ H Q'
def sName (i : Nat) : D → S → (S → Prop) → Prop := fun d s Q => Q { s with δ := s.δ.set i (some d) }
theorem simG_name (i : Nat) (hi : i ∉ C.M) (hp : C.Nf i) : SimG C false [i] (gName i) (sName i) :=
  ⟨fun H0 S0 Hs σ H s v d Q Q' r h q k => k _ _ (r.setE hi hp h) (by simp) (fun j hj => List.getElem?_set_ne (fun z => hj (by simp [z]))) q⟩
def sNil : List D → S → (S → Prop) → Prop := fun ds s Q => match ds with
  | [] => Q s
  | _ => False
def sCons (a : D → S → (S → Prop) → Prop) (b : List D → S → (S → Prop) → Prop) : List D → S → (S → Prop) → Prop := fun ds s Q => match ds with
  | d :: r => a d s fun s1 => b r s1 Q
  | [] => False
theorem simGs_nil : SimGs C [] gNil sNil := by
  refine ⟨fun H0 S0 Hs σ H s vs ds Q Q' r h q k => ?_⟩
  cases h with
  | nil => exact ⟨rfl, k σ s r rfl (fun _ _ => rfl) q⟩
  | cons _ _ => exact q.elim
theorem simGs_cons {ts us : List Nat} {g : TG} {gs : TGs} {x : D → S → (S → Prop) → Prop} {y : List D → S → (S → Prop) → Prop} (h1 : SimG C false ts g x) (h2 : SimGs C us gs y) : SimGs C (ts ++ us) (gCons g gs) (sCons x y) := by
  refine ⟨fun H0 S0 Hs σ H s vs ds Q Q' r h q k => ?_⟩
  cases h with
  | nil => exact q.elim
  | cons a b =>
    refine ⟨_, _, rfl, h1.run H0 S0 Hs σ H s _ _ _ _ r a q fun σ1 s1 r1 l1 e1 q1 => h2.run H0 S0 Hs σ1 H s1 _ _ _ _ r1 b q1 fun σ2 s2 r2 l2 e2 q2 => ?_⟩
    refine k σ2 s2 r2 (l2.trans l1) (fun j hj => ?_) q2
    rw [List.mem_append, not_or] at hj
    rw [e2 j hj.2, e1 j hj.1]
def sTup (n : Nat) (a : List D → S → (S → Prop) → Prop) : D → S → (S → Prop) → Prop := fun d s Q => match d with
  | .tuple ds => ds.length = n ∧ a ds s Q
  | _ => False
theorem simG_tup {bw : Bool} {ts : List Nat} {n : Nat} {gs : TGs} {x : List D → S → (S → Prop) → Prop} (h : SimGs C ts gs x) : SimG C bw ts (gTup C.K n gs) (sTup n x) := by
  refine ⟨fun H0 S0 Hs σ H s v d Q Q' r hv q k => ?_⟩
  cases d <;> first | exact q.elim | skip
  obtain ⟨p, xs, rfl, e1, e2⟩ := hv.tup
  exact ⟨p, xs, rfl, Same.sqT r.sub e1, by rw [e2.len]; exact q.1, h.run H0 S0 Hs σ H s _ _ _ _ r e2 q.2 k⟩
def dAsgG (a : DT) (g : D → S → (S → Prop) → Prop) : DSt := fun E s => a s fun d s1 => g d s1 E.nx
theorem simS_asg {ts : List Nat} {g : TG} {x : D → S → (S → Prop) → Prop} (h : Sim C ca te t) (hg : SimG C false ts g x) : SimS C cat (tAsg te g) (dAsgG t x) :=
  ⟨fun H0 S0 Hs σ H s E D' r q k => h.toE.run H0 S0 Hs σ H s _ _ r q fun Hs1 H1 v d s1 g1 r1 v1 q1 => hg.run H0 S0 Hs1 σ H1 s1 v d _ _ r1 v1 q1 fun σ' s' r2 _ _ q2 => k.nx Hs1 σ' H1 s' r2 q2⟩
/-- a, b = x, y: both names at once -/
def dPar (i j : Nat) (a : DA) : DSt := fun E s => a s fun ds s1 => match ds with
  | [d, e] => E.nx { s1 with δ := (s1.δ.set i (some d)).set j (some e) }
  | _ => False
theorem simS_par {ta : TA} {a : DA} (i j : Nat) (hi : i ∉ C.M) (hj : j ∉ C.M) (pi : C.Nf i) (pj : C.Nf j) (h : SimA C 2 ta a) : SimS C cat (tPar i j ta) (dPar i j a) := by
  refine ⟨fun H0 S0 Hs σ H s E D' r q k => h.run H0 S0 Hs σ H s _ _ r q fun Hs1 H1 vs ds s1 g1 r1 v1 l1 q1 => ?_⟩
  match vs, ds, v1 with
  | [v, w], [d, e], .cons h1 (.cons h2 .nil) => exact ⟨v, w, rfl, k.nx Hs1 _ H1 _ ((r1.setE hi pi h1).setE hj pj h2) q1⟩
  | [], [], _ => exact q1.elim
  | [_], [_], _ => exact q1.elim
  | _ :: _ :: _ :: _, _ :: _ :: _ :: _, _ => exact q1.elim
/-- x op= e -/
def dAug (i : Nat) (f : DO) (a : DT) : DSt := fun E s => match s.δ[i]? with
  | some (some x) => a s fun y s1 => f x y fun z => E.nx { s1 with δ := s1.δ.set i (some z) }
  | _ => False
theorem simS_aug {r : R2} {f : DO} (i : Nat) (hi : i ∉ C.M) (hp : C.Nf i) (ho : OpA C r f) (h : Sim C ca te t) : SimS C cat (tAug i te r) (dAug i f t) := by
  refine ⟨fun H0 S0 Hs σ H s E D' r0 q k => ?_⟩
  unfold dAug at q
  split at q
  · rename_i x e
    obtain ⟨v, e1, rp⟩ := r0.slot i x e hi
    refine ⟨v, e1, h.run H0 S0 Hs σ H s _ _ r0 q fun Hs1 H1 y dy s1 g1 r1 v1 q1 => ?_⟩
    refine ho H0 S0 Hs1 σ H1 s1 v y x dy _ _ r1 ((Rp.mono g1.st rp).rd r1.sub) (v1.rd r1.sub) q1 fun Hs2 H2 z dz g2 r2 v2 q2 => ?_
    cases ez : isC dz with
    | true =>
      obtain ⟨w, rfl, f⟩ := v2.c ez
      obtain ⟨Hs3, s3, r3, rp3, _⟩ := r2.freeze f
      exact k.nx Hs3 _ H2 _ (r3.setE hi hp rp3) q2
    | false => exact k.nx Hs2 _ H2 _ (r2.setE hi hp (v2.p ez)) q2
  · exact q.elim
/-- xs[i] = e, xs of the def's own -/
def dSetAt (i : Nat) (a j : DT) : DSt := fun E s => a s fun d s1 => (∃ z, s1.δ[i]? = some (some (.list z))) ∧ j s1 fun k s2 => match k with
  | .int n => (match s2.δ[i]? with
    | some (some (.list ds)) => (match ixN ds.length n with
      | some m => E.nx { s2 with δ := s2.δ.set i (some (.list (ds.set m d))) }
      | none => False)
    | _ => False)
  | _ => False
theorem simS_setAt (i : Nat) (hi : i ∈ C.M) (h : Sim C ca ta da) (hj : Sim C cb tb db) : SimS C cat (tAsg ta (gSub (tVar i) tb rSetL)) (dSetAt i da db) := by
  refine ⟨fun H0 S0 Hs σ H s E D' r q k => h.toE.run H0 S0 Hs σ H s _ _ r q fun Hs1 H1 v d s1 g1 r1 v1 q1 => ?_⟩
  obtain ⟨⟨z, ez⟩, q1⟩ := q1
  obtain ⟨x, xs, e1, _⟩ := r1.mtL hi ez
  refine ⟨_, e1, hj.run H0 S0 Hs1 σ H1 s1 _ _ r1 q1 fun Hs2 H2 w dk s2 g2 r2 v2 q2 => ?_⟩
  cases dk <;> first | exact q2.elim | skip
  rename_i n
  cases v2.int'
  have q2 : (match s2.δ[i]? with | some (some (.list ds)) => (match ixN ds.length n with | some m => E.nx { s2 with δ := s2.δ.set i (some (.list (ds.set m d))) } | none => False) | _ => False) := q2
  split at q2
  · rename_i ds2 e2
    split at q2
    · rename_i m em
      obtain ⟨x', o2, e4, e5, e6, e7, e8⟩ := r2.mt i _ e2 hi
      rw [e1] at e4
      cases e4
      cases e7
      rename_i xs2 e7
      obtain ⟨r3, _⟩ := r2.upd hi e2 e1 (.lst (e7.set m (Rp.mono g2.st v1)))
      exact ⟨x, xs2, n, m, rfl, rfl, e5, by rw [e7.len]; exact em, k.nx Hs2 _ _ _ r3 q2⟩
    · exact q2.elim
  · exact q2.elim
end

/-! ### what is walked -/
/-- J goes through the trees items, wherever Hs1 stays -/
def ItOk (bw : Bool) (C : Cf) (Hs1 : Hp) (J : It) (items : List D) : Prop := ∃ (G : Hp → Prop) (Y : Nat → Hp → V → Hp → Prop), Walk J items.length G Y ∧ (∀ H, Same Hs1 H → G H) ∧
  ∀ (i : Nat) (H : Hp) (x : V) (H2 : Hp) (H0 S0 Hs : Hp) (σ : L2.St) (s : S), i < items.length → R C H0 S0 Hs σ H s → Same Hs1 Hs → Y i H x H2 →
    ∃ Hs2 d, items[i]? = some d ∧ R C H0 S0 Hs2 σ H2 s ∧ RqB bw C.K Hs2 x d ∧ Go C σ Hs H Hs2 H2
abbrev DI := S → (List D → S → Prop) → Prop
structure SimI (C : Cf) (bw : Bool) (wi : TI) (t : DI) : Prop where
  run : ∀ (H0 S0 Hs : Hp) (σ : L2.St) (H : Hp) (s : S) (Q : List D → S → Prop) (Q' : It → Hp → Prop), R C H0 S0 Hs σ H s → t s Q →
    (∀ Hs' H' J items s', Go C σ Hs H Hs' H' → R C H0 S0 Hs' σ H' s' → ItOk bw C Hs' J items → Q items s' → Q' J H') → wi σ H Q'
section
variable {C : Cf} {cat : Cat} {te ta tb : TE} {t da db : DT} {ca cb : Cat} {ts us : TS} {a b : DSt}
theorem itOk_list {Hs1 : Hp} {x : Addr} {xs : List V} {ds : List D} (h : Hs1 x = some (.lst xs)) (hd : RpAll C.K Hs1 xs ds) : ItOk false C Hs1 (Itl C.K x) ds := by
  refine ⟨_, _, by rw [← hd.len]; exact walk_list (xs := xs), fun H e => SqL.of (e _ _ h), fun i H v H2 H0 S0 Hs σ s hi r e y => ?_⟩
  obtain ⟨rfl, y⟩ := y
  obtain ⟨d, e1, e2⟩ := hd.getV y
  exact ⟨Hs, d, e1, r, Rp.mono e e2, Go.refl⟩
theorem itOk_tup {Hs1 : Hp} {x : Addr} {xs : List V} {ds : List D} (h : SqT C.K Hs1 x xs) (hd : RpAll C.K Hs1 xs ds) : ItOk false C Hs1 (Itt C.K x) ds := by
  refine ⟨_, _, by rw [← hd.len]; exact walk_tup (xs := xs), fun H e => Same.sqT e h, fun i H v H2 H0 S0 Hs σ s hi r e y => ?_⟩
  obtain ⟨rfl, y⟩ := y
  obtain ⟨d, e1, e2⟩ := hd.getV y
  exact ⟨Hs, d, e1, r, Rp.mono e e2, Go.refl⟩
/-- a list -/
theorem simI_list (h : Sim C ca te t) : SimI C false (iList C.K te) (fun s Q => t s fun d s1 => match d with | .list ds => Q ds s1 | _ => False) := by
  refine ⟨fun H0 S0 Hs σ H s Q Q' r q k => h.toE.run H0 S0 Hs σ H s _ _ r q fun Hs1 H1 v d s1 g1 r1 v1 q1 => ?_⟩
  cases d <;> first | exact q1.elim | skip
  cases v1 with
  | @lst x xs _ e1 e2 => exact ⟨x, rfl, ⟨xs, SqL.of (r1.sub _ _ e1)⟩, k Hs1 H1 _ _ s1 g1 r1 (itOk_list e1 e2) q1⟩
theorem simI_tup (h : Sim C ca te t) : SimI C false (iTup C.K te) (fun s Q => t s fun d s1 => match d with | .tuple ds => Q ds s1 | _ => False) := by
  refine ⟨fun H0 S0 Hs σ H s Q Q' r q k => h.toE.run H0 S0 Hs σ H s _ _ r q fun Hs1 H1 v d s1 g1 r1 v1 q1 => ?_⟩
  cases d <;> first | exact q1.elim | skip
  cases v1 with
  | @tup x xs _ e1 e2 => exact ⟨x, rfl, ⟨xs, Same.sqT r1.sub e1.sq⟩, k Hs1 H1 _ _ s1 g1 r1 (itOk_tup e1.sq e2) q1⟩
/-- range -/
def rgD (lo : Int) (n : Nat) : List D := (List.range n).map fun i => .int (lo + (i : Nat))
theorem itOk_range {Hs1 : Hp} (lo : Int) (n : Nat) : ItOk false C Hs1 (Itr lo n) (rgD lo n) := by
  have hl : (rgD lo n).length = n := by unfold rgD; rw [List.length_map, List.length_range]
  refine ⟨_, _, by rw [hl]; exact walk_range, fun H e => True.intro, fun i H v H2 H0 S0 Hs σ s hi r e y => ?_⟩
  obtain ⟨rfl, rfl⟩ := y
  refine ⟨Hs, .int (lo + (i : Nat)), ?_, r, Rp.int _, Go.refl⟩
  unfold rgD
  rw [hl] at hi
  rw [List.getElem?_map, List.getElem?_range hi]
  rfl
def dRange1 (a : DT) : DI := fun s Q => a s fun d s1 => match d with
  | .int j => (-(2 ^ 62) ≤ j ∧ j < 2 ^ 62) ∧ Q (rgD 0 j.toNat) s1
  | _ => False
theorem simI_range1 (h : Sim C ca te t) : SimI C false (iRng1 (tCons te tNil)) (dRange1 t) := by
  refine ⟨fun H0 S0 Hs σ H s Q Q' r q k => h.run H0 S0 Hs σ H s _ _ r q fun Hs1 H1 v d s1 g1 r1 v1 q1 => ?_⟩
  cases d <;> first | exact q1.elim | skip
  rename_i j
  cases v1.int'
  exact ⟨j, rfl, q1.1.1, q1.1.2, k Hs1 H1 _ _ s1 g1 r1 (itOk_range 0 j.toNat) q1.2⟩
def dRange2 (a b : DT) : DI := fun s Q => a s fun d s1 => b s1 fun e s2 => match d, e with
  | .int i, .int j => (-(2 ^ 62) ≤ i ∧ i < 2 ^ 62 ∧ -(2 ^ 62) ≤ j ∧ j < 2 ^ 62) ∧ Q (rgD i (j - i).toNat) s2
  | _, _ => False
theorem simI_range2 (ha : Sim C ca ta da) (hb : Sim C cb tb db) : SimI C false (iRng2 (tCons ta (tCons tb tNil))) (dRange2 da db) := by
  refine ⟨fun H0 S0 Hs σ H s Q Q' r q k => ha.run H0 S0 Hs σ H s _ _ r q fun Hs1 H1 v d s1 g1 r1 v1 q1 => hb.run H0 S0 Hs1 σ H1 s1 _ _ r1 q1 fun Hs2 H2 w e s2 g2 r2 v2 q2 => ?_⟩
  cases d <;> cases e <;> first | exact q2.elim | skip
  rename_i i j
  cases v1.int'
  cases v2.int'
  exact ⟨i, j, rfl, q2.1, k Hs2 H2 _ _ s2 (g1.trans g2) r2 (itOk_range i (j - i).toNat) q2.2⟩
/-- pairs: enumerate, zip -/
def prD (xs ys : List D) : List D := (xs.zip ys).map fun p => .tuple [p.1, p.2]
theorem pair_it {H0 S0 Hs : Hp} {σ : L2.St} {H : Hp} {s : S} {T : Addr} {x y : V} {dx dy : D} (r : R C H0 S0 Hs σ H s) (n : H T = none) (hx : Rp C.K Hs x dx) (hy : Rp C.K Hs y dy) :
    ∃ Hs2, R C H0 S0 Hs2 σ (L2.upd H T (.tup [x, y])) s ∧ RqB true C.K Hs2 (.ref T) (.tuple [dx, dy]) ∧ Go C σ Hs H Hs2 (L2.upd H T (.tup [x, y])) := by
  obtain ⟨r', g'⟩ := r.newTup (o := .tup [x, y]) n
  exact ⟨_, r', .inr ⟨T, [x, y], [dx, dy], rfl, rfl, SqT.of upd_same, .cons (Rp.mono g'.st hx) (.cons (Rp.mono g'.st hy) .nil)⟩, g'⟩
def dEnum (a : DT) : DI := fun s Q => a s fun d s1 => match d with
  | .list ds => Q (prD (rgD 0 ds.length) ds) s1
  | _ => False
theorem enum_len (ds : List D) : (prD (rgD 0 ds.length) ds).length = ds.length := by
  unfold prD rgD
  rw [List.length_map, List.length_zip, List.length_map, List.length_range, Nat.min_self]
theorem enum_get {ds : List D} {i : Nat} {d : D} (h : ds[i]? = some d) : (prD (rgD 0 ds.length) ds)[i]? = some (.tuple [.int (i : Nat), d]) := by
  have hi : i < ds.length := (List.getElem?_eq_some_iff.mp h).1
  have h1 : (rgD 0 ds.length)[i]? = some (.int (0 + (i : Nat))) := by
    unfold rgD
    rw [List.getElem?_map, List.getElem?_range hi]
    rfl
  have h2 : ((rgD 0 ds.length).zip ds)[i]? = some (.int (0 + (i : Nat)), d) := List.getElem?_zip_eq_some.mpr ⟨h1, h⟩
  unfold prD
  rw [List.getElem?_map, h2]
  simp
theorem itOk_enum {Hs1 : Hp} {x : Addr} {xs : List V} {ds : List D} (h : Hs1 x = some (.lst xs)) (hd : RpAll C.K Hs1 xs ds) : ItOk true C Hs1 (Ite C.K x) (prD (rgD 0 ds.length) ds) := by
  refine ⟨_, _, by rw [enum_len, ← hd.len]; exact walk_enum (xs := xs), fun H e => SqL.of (e _ _ h), fun i H v H2 H0 S0 Hs σ s hi r e y => ?_⟩
  obtain ⟨T, x1, x2, rfl, nT, rfl, e1, e2⟩ := y
  cases e1
  obtain ⟨d, e3, e4⟩ := hd.getV e2
  obtain ⟨Hs2, r2, rp, g⟩ := pair_it r nT (Rp.int ((i : Nat) : Int)) (Rp.mono e e4)
  exact ⟨Hs2, _, enum_get e3, r2, rp, g⟩
theorem simI_enum (h : Sim C ca te t) : SimI C true (iEnum C.K (tCons te tNil)) (dEnum t) := by
  refine ⟨fun H0 S0 Hs σ H s Q Q' r q k => h.toE.run H0 S0 Hs σ H s _ _ r q fun Hs1 H1 v d s1 g1 r1 v1 q1 => ?_⟩
  cases d <;> first | exact q1.elim | skip
  cases v1 with
  | @lst x xs _ e1 e2 => exact ⟨x, xs, rfl, SqL.of (r1.sub _ _ e1), k Hs1 H1 _ _ s1 g1 r1 (itOk_enum e1 e2) q1⟩
def dZip (a b : DT) : DI := fun s Q => a s fun d s1 => b s1 fun e s2 => match d, e with
  | .list ds, .list es => Q (prD ds es) s2
  | .tuple ds, .tuple es => Q (prD ds es) s2
  | _, _ => False
theorem zip_len (ds es : List D) : (prD ds es).length = min ds.length es.length := by
  unfold prD
  rw [List.length_map, List.length_zip]
theorem zip_get {ds es : List D} {i : Nat} {d e : D} (h : ds[i]? = some d) (h' : es[i]? = some e) : (prD ds es)[i]? = some (.tuple [d, e]) := by
  have h2 : (ds.zip es)[i]? = some (d, e) := List.getElem?_zip_eq_some.mpr ⟨h, h'⟩
  unfold prD
  rw [List.getElem?_map, h2]
  rfl
theorem simI_zip (ha : Sim C ca ta da) (hb : Sim C cb tb db) : SimI C true (iZipA C.K (tCons ta (tCons tb tNil))) (dZip da db) := by
  refine ⟨fun H0 S0 Hs σ H s Q Q' r q k => ha.toE.run H0 S0 Hs σ H s _ _ r q fun Hs1 H1 v d s1 g1 r1 v1 q1 => hb.toE.run H0 S0 Hs1 σ H1 s1 _ _ r1 q1 fun Hs2 H2 w e s2 g2 r2 v2 q2 => ?_⟩
  cases d <;> cases e <;> first | exact q2.elim | skip
  case list.list ds es =>
    cases v1 with
    | @lst x xs _ e1 e2 =>
    cases v2 with
    | @lst y ys _ e3 e4 =>
    have e1' := g2.st _ _ e1
    have e2' := RpAll.mono g2.st e2
    refine ⟨x, y, xs, ys, rfl, .inl ⟨SqL.of (r2.sub _ _ e1'), SqL.of (r2.sub _ _ e3), k Hs2 H2 _ _ s2 (g1.trans g2) r2 ?_ q2⟩⟩
    refine ⟨_, _, walk_zip (K := C.K) (a := x) (b := y) (xs := xs) (ys := ys) (by rw [zip_len, e2.len, e4.len]), fun H e => ⟨SqL.of (e _ _ e1'), SqL.of (e _ _ e3)⟩, fun i H v H2 H0 S0 Hs σ s hi r e y => ?_⟩
    obtain ⟨T, x1, x2, rfl, nT, rfl, f1, f2⟩ := y
    obtain ⟨d, f3, f4⟩ := e2'.getV f1
    obtain ⟨d', f5, f6⟩ := e4.getV f2
    obtain ⟨Hs2, r2, rp, g⟩ := pair_it r nT (Rp.mono e f4) (Rp.mono e f6)
    exact ⟨Hs2, _, zip_get f3 f5, r2, rp, g⟩
  case tuple.tuple ds es =>
    cases v1 with
    | @tup x xs _ e1 e2 =>
    cases v2 with
    | @tup y ys _ e3 e4 =>
    have e1' := Same.sqT g2.st e1.sq
    have e2' := RpAll.mono g2.st e2
    refine ⟨x, y, xs, ys, rfl, .inr ⟨Same.sqT r2.sub e1', Same.sqT r2.sub e3.sq, k Hs2 H2 _ _ s2 (g1.trans g2) r2 ?_ q2⟩⟩
    refine ⟨_, _, walk_zipT (K := C.K) (a := x) (b := y) (xs := xs) (ys := ys) (by rw [zip_len, e2.len, e4.len]), fun H e => ⟨Same.sqT e e1', Same.sqT e e3.sq⟩, fun i H v H2 H0 S0 Hs σ s hi r e y => ?_⟩
    obtain ⟨T, x1, x2, rfl, nT, rfl, f1, f2⟩ := y
    obtain ⟨d, f3, f4⟩ := e2'.getV f1
    obtain ⟨d', f5, f6⟩ := e4.getV f2
    obtain ⟨Hs2, r2, rp, g⟩ := pair_it r nT (Rp.mono e f4) (Rp.mono e f6)
    exact ⟨Hs2, _, zip_get f3 f5, r2, rp, g⟩
/-- a text, sign by sign -/
def signs (z : Str) : List D := z.cps.toList.map fun c => .str ⟨#[c]⟩
def dStr (a : DT) : DI := fun s Q => a s fun d s1 => match d with
  | .str z => Q (signs z) s1
  | _ => False
theorem simI_str (h : Sim C ca te t) : SimI C false (iStr te) (dStr t) := by
  refine ⟨fun H0 S0 Hs σ H s Q Q' r q k => h.toE.run H0 S0 Hs σ H s _ _ r q fun Hs1 H1 v d s1 g1 r1 v1 q1 => ?_⟩
  cases d <;> first | exact q1.elim | skip
  rename_i z
  cases v1
  refine ⟨z, rfl, k Hs1 H1 _ _ s1 g1 r1 ?_ q1⟩
  have hl : (signs z).length = z.cps.size := by unfold signs; rw [List.length_map, Array.length_toList]
  refine ⟨_, _, by rw [hl]; exact walk_str, fun H e => True.intro, fun i H v H2 H0 S0 Hs σ s hi r e y => ?_⟩
  obtain ⟨rfl, c, e1, rfl⟩ := y
  refine ⟨Hs, .str ⟨#[c]⟩, ?_, r, Rp.str _, Go.refl⟩
  unfold signs
  rw [List.getElem?_map, Array.getElem?_toList, e1]
  rfl
/-! ### for, while -/
theorem R.base {H0 S0 Hs : Hp} {σ : L2.St} {H : Hp} {s : S} (r : R C H0 S0 Hs σ H s) : R C H0 Hs Hs σ H s :=
  ⟨r.len, r.sub, r.slot, r.mt, r.dead, r.sep, r.pn, r.br, Same.refl _, r.h0, fun _ h1 h2 => absurd h1 h2, r.fx, r.tb⟩
theorem R.back {H0 S0 Hs1 Hs : Hp} {σ1 σ : L2.St} {H1 H : Hp} {s1 s : S} (r1 : R C H0 S0 Hs1 σ1 H1 s1) (r : R C H0 Hs1 Hs σ H s) : R C H0 S0 Hs σ H s := by
  refine ⟨r.len, r.sub, r.slot, r.mt, r.dead, r.sep, r.pn, r.br, r1.s0.trans r.s0, r.h0, fun b e1 e2 => ?_, r.fx, r.tb⟩
  cases q : Hs1 b with
  | some o => exact r1.new b e1 (by rw [q]; exact fun z => nomatch z)
  | none => exact r.new b q e2
def forD (g : D → S → (S → Prop) → Prop) (b : DSt) (E : DEnds) : List D → S → Prop
  | [], s => E.nx s
  | d :: ds, s => g d s fun s1 => b { E with nx := forD g b E ds, ct := forD g b E ds, bk := E.nx } s1
def dFor (it : DI) (g : D → S → (S → Prop) → Prop) (b : DSt) : DSt := fun E s => it s fun items s1 => forD g b E items s1
theorem simS_for {bw : Bool} {wi : TI} {it : DI} {tl : List Nat} {g : TG} {x : D → S → (S → Prop) → Prop} (hi : SimI C bw wi it) (hg : SimG C bw tl g x) (hb : SimS C cat ts a) : SimS C cat (tFor wi g ts) (dFor it x a) := by
  refine ⟨fun H0 S0 Hs σ H s E D' r q k => hi.run H0 S0 Hs σ H s _ _ r q fun Hs1 H1 J items s1 g1 r1 io q1 => ?_⟩
  obtain ⟨G, Y, W, hG, hY⟩ := io
  refine for_it W (fun i σ H => ∃ Hs s, R C H0 Hs1 Hs σ H s ∧ forD x a E (items.drop i) s) ⟨Hs1, s1, r1.base, q1⟩ (fun i σ H _ ⟨Hs, s, r, _⟩ => hG H (r.s0.trans r.sub)) (fun i v σ H H' hi' ⟨Hs, s, r, q⟩ y => ?_) (fun σ H ⟨Hs, s, r, q⟩ => ?_)
  · obtain ⟨Hs2, d, e1, r2, rp, _⟩ := hY i H v H' H0 Hs1 Hs σ s hi' r r.s0 y
    rw [List.drop_eq_getElem_cons hi'] at q
    have ed : items[i] = d := by
      rw [List.getElem?_eq_getElem hi'] at e1
      exact Option.some.inj e1
    rw [ed] at q
    refine hg.run H0 Hs1 Hs2 σ H' s v d _ _ r2 rp q fun σ3 s3 r3 _ _ q3 => ?_
    refine hb.run H0 Hs1 Hs2 σ3 H' s3 _ _ r3 q3 ⟨fun Hs σ H s r q => ⟨Hs, s, r, q⟩, fun Hs σ H s v d r rv q => k.rt Hs σ H s v d (r1.back r) rv q, fun Hs σ H s r q => k.nx Hs σ H s (r1.back r) q, fun Hs σ H s r q => ⟨Hs, s, r, q⟩, fun Hs σ H s r q => k.ex Hs σ H s (r1.back r) q⟩
  · rw [List.drop_length] at q
    exact k.nx Hs σ H s (r1.back r) q
def dWhile (c : DB) (b : DSt) : DSt := fun E s => ∃ W : Nat → S → Prop, (∃ m, W m s) ∧ ∀ m s, W m s → c s fun k s1 => if k = true then b { E with nx := fun s' => ∃ m', m' < m ∧ W m' s', ct := fun s' => ∃ m', m' < m ∧ W m' s', bk := E.nx } s1 else E.nx s1
theorem simS_while {tt : TT} {c : DB} (hc : SimT C tt c) (hb : SimS C cat ts a) : SimS C cat (tWhile tt ts) (dWhile c a) := by
  refine ⟨fun H0 S0 Hs σ H s E D' r q k => ?_⟩
  obtain ⟨W, ⟨m0, w0⟩, turn⟩ := q
  refine ⟨fun m σ H => ∃ Hs s, R C H0 S0 Hs σ H s ∧ W m s, ⟨m0, Hs, s, r, w0⟩, fun m σ H ⟨Hs, s, r, w⟩ => ?_⟩
  refine hc.run H0 S0 Hs σ H s _ _ r (turn m s w) fun Hs1 H1 c s1 g1 r1 q1 => ?_
  cases c with
  | true =>
    refine ifp rfl ⟨fun σ' H' => ∃ m', m' < m ∧ ∃ Hs s, R C H0 S0 Hs σ' H' s ∧ W m' s, fun _ _ h => h, ?_⟩
    rw [if_pos rfl] at q1
    exact hb.run H0 S0 Hs1 σ H1 s1 _ _ r1 q1 ⟨fun Hs σ H s r ⟨m', h1, h2⟩ => ⟨m', h1, Hs, s, r, h2⟩, k.rt, k.nx, fun Hs σ H s r ⟨m', h1, h2⟩ => ⟨m', h1, Hs, s, r, h2⟩, k.ex⟩
  | false => exact ifn Bool.false_ne_true (k.nx Hs1 σ H1 s1 r1 (by simpa using q1))
/-- a list or dict of the def's own goes into the still part from here on -/
theorem R.still {H0 S0 Hs : Hp} {σ : L2.St} {H : Hp} {s : S} {i : Nat} {M' : List Nat} (r : R C H0 S0 Hs σ H s) (hM : ∀ j, j ∈ C.M ↔ j = i ∨ j ∈ M') (hn : i ∉ M') (hb : i ∉ C.bs) : ∃ Hs', R { C with M := M' } H0 S0 Hs' σ H s := by
  have hi : i ∈ C.M := (hM i).mpr (.inl rfl)
  have br : ∀ b, b ∈ C.bor → (∃ j, j ∈ C.bs ∧ j ∈ M' ∧ σ[j]? = some (some (.ref b))) ∧ H0 b ≠ none := fun b hb' => by
    obtain ⟨⟨j, b1, b2, b3⟩, b4⟩ := r.br b hb'
    exact ⟨⟨j, b1, ((hM j).mp b2).resolve_left (fun z => hb (by rw [← z]; exact b1)), b3⟩, b4⟩
  by_cases hl : ∃ d, s.δ[i]? = some (some d)
  · obtain ⟨d, e⟩ := hl
    obtain ⟨x, u, e1, e2, e3, e4, e5⟩ := r.mt i d e hi
    have e5 : H0 x = none := by
      rcases e5 with e5 | e5
      · exact e5
      · obtain ⟨⟨j, b1, b2, b3⟩, _⟩ := r.br x e5
        exact absurd (by rw [← r.sep j i x b2 hi b3 e1]; exact b1) hb
    have sm : Same Hs (L2.upd Hs x u) := same_upd e3
    refine ⟨L2.upd Hs x u, r.len, fun b o q => ?_, fun j d' q m => ?_, fun j d' q m => ?_, fun j m q => r.dead j ((hM j).mpr (.inr m)) q, fun j l y m1 m2 => r.sep j l y ((hM j).mpr (.inr m1)) ((hM l).mpr (.inr m2)), fun p c q => ?_, br, r.s0.trans sm, r.h0, fun b q1 q2 => ?_, fun y m => ⟨(r.fx y m).1, fun z => (r.fx y m).2.1 ((hM _).mpr (.inr z)), (r.fx y m).2.2⟩, r.tb.1.to sm (fun _ _ _ e => e) (fun b q1 q2 ps e => by
      by_cases z : b = x
      · subst z; rw [e2] at e; cases e; cases e4
      · rw [upd_ne z] at q2; exact q2 q1), r.tb.2⟩
    · by_cases z : b = x
      · subst z; rw [upd_same] at q; cases q; exact e2
      · rw [upd_ne z] at q; exact r.sub _ _ q
    · by_cases hj : j = i
      · subst hj
        rw [e] at q
        cases q
        exact ⟨_, e1, (e4.mono sm).rp upd_same⟩
      · obtain ⟨v, f1, f2⟩ := r.slot j d' q (fun z => ((hM j).mp z).elim hj m)
        exact ⟨v, f1, Rp.mono sm f2⟩
    · obtain ⟨y, w, f2, f3, f4, f5, f6⟩ := r.mt j d' q ((hM j).mpr (.inr m))
      refine ⟨y, w, f2, f3, ?_, f5.mono sm, f6⟩
      rw [upd_ne (fun z => by subst z; exact hn ((r.sep j i y ((hM j).mpr (.inr m)) hi f2 e1) ▸ m))]
      exact f4
    · obtain ⟨f1, f2, f3, f4, f5, f6, f7, f8⟩ := r.pn p c q
      refine ⟨f1, f2.mono sm (Same.refl _), ?_, f4, f5, f6, fun z => f7 ((hM _).mpr (.inr z)), f8⟩
      rw [upd_ne (fun z => f4 (by rw [z]; exact e5))]
      exact f3
    · by_cases z : b = x
      · subst z; exact e5
      · rw [upd_ne z] at q2; exact r.new b q1 q2
  · refine ⟨Hs, r.len, r.sub, fun j d' q m => ?_, fun j d' q m => r.mt j d' q ((hM j).mpr (.inr m)), fun j m q => r.dead j ((hM j).mpr (.inr m)) q, fun j l y m1 m2 => r.sep j l y ((hM j).mpr (.inr m1)) ((hM l).mpr (.inr m2)), fun p c q => ?_, br, r.s0, r.h0, r.new, fun y m => ⟨(r.fx y m).1, fun z => (r.fx y m).2.1 ((hM _).mpr (.inr z)), (r.fx y m).2.2⟩, r.tb⟩
    · exact r.slot j d' q (fun z => ((hM j).mp z).elim (fun e => hl ⟨d', by rw [← e]; exact q⟩) m)
    · obtain ⟨f1, f2, f3, f4, f5, f6, f7, f8⟩ := r.pn p c q
      exact ⟨f1, f2, f3, f4, f5, f6, fun z => f7 ((hM _).mpr (.inr z)), f8⟩
end

/-! ### comprehensions -/
def wipeL (δ : List (Option D)) : List Nat → List (Option D)
  | [] => δ
  | v :: vs => (wipeL δ vs).set v none
def wipeS (s : S) (vs : List Nat) : S := { s with δ := wipeL s.δ vs }
theorem wipeL_length (δ : List (Option D)) : ∀ vs : List Nat, (wipeL δ vs).length = δ.length
  | [] => rfl
  | v :: vs => by unfold wipeL; rw [List.length_set, wipeL_length δ vs]
theorem wipeL_out {δ : List (Option D)} {i : Nat} : ∀ {vs : List Nat}, i ∉ vs → (wipeL δ vs)[i]? = δ[i]?
  | [], _ => rfl
  | v :: vs, h => by
    unfold wipeL
    rw [List.mem_cons, not_or] at h
    rw [List.getElem?_set_ne (Ne.symm h.1)]
    exact wipeL_out h.2
theorem wipeL_in {δ : List (Option D)} {i : Nat} : ∀ {vs : List Nat}, i ∈ vs → ∀ d, (wipeL δ vs)[i]? ≠ some (some d)
  | v :: vs, h, d => by
    unfold wipeL
    by_cases hv : v = i
    · subst hv
      intro q
      have il : v < (wipeL δ vs).length := by
        have := (List.getElem?_eq_some_iff.mp q).1
        simpa using this
      rw [List.getElem?_set_self il] at q
      cases q
    · rw [List.getElem?_set_ne hv]
      exact wipeL_in ((List.mem_cons.mp h).resolve_left (Ne.symm hv)) d
theorem wipe_eq {σ σ' : L2.St} {vs : List Nat} (hl : σ'.length = σ.length) (h : ∀ j, j ∉ vs → σ'[j]? = σ[j]?) : wipe σ' vs = wipe σ vs := by
  apply List.ext_getElem?
  intro i
  by_cases hi : i ∈ vs
  · have z : ∀ (τ : L2.St), i < τ.length → (wipe τ vs)[i]? = some none := fun τ ht => by
      have hl : i < (wipe τ vs).length := by rw [wipe_length]; exact ht
      rw [List.getElem?_eq_getElem hl]
      cases q : (wipe τ vs)[i] with
      | none => rfl
      | some v =>
        have := wipe_some (σ := τ) (vs := vs) (i := i) (x := v) (by rw [List.getElem?_eq_getElem hl, q])
        exact absurd hi this.2
    by_cases hx : i < σ.length
    · rw [z σ hx, z σ' (by rw [hl]; exact hx)]
    · rw [List.getElem?_eq_none (by rw [wipe_length, hl]; omega), List.getElem?_eq_none (by rw [wipe_length]; omega)]
  · rw [wipe_out hi, wipe_out hi]
    exact h i hi
section
variable {C : Cf} {cat : Cat} {te ta tb : TE} {t da db : DT} {ca cb : Cat}
theorem R.wipe {H0 S0 Hs : Hp} {σ : L2.St} {H : Hp} {s : S} {vs : List Nat} (r : R C H0 S0 Hs σ H s) (hM : ∀ v ∈ vs, v ∉ C.M) (hp : ∀ v ∈ vs, C.Nf v) : R C H0 S0 Hs (L2.wipe σ vs) H (wipeS s vs) := by
  have out : ∀ j, j ∈ C.M → j ∉ vs := fun j m z => hM j z m
  have e1 : ∀ j, j ∉ vs → (wipeS s vs).δ[j]? = s.δ[j]? := fun j h => wipeL_out h
  refine ⟨by rw [wipe_length]; exact r.len.trans (wipeL_length s.δ vs).symm, r.sub, fun j d q m => ?_, fun j d q m => ?_, fun j m q => ?_, fun j l y m1 m2 q1 q2 => ?_, fun p c q => ?_, fun b hb => ?_, r.s0, r.h0, r.new, fun y m => ⟨by rw [wipe_out (fun z => (hp _ z).2 y m rfl)]; exact (r.fx y m).1, (r.fx y m).2⟩, r.tb⟩
  · by_cases hj : j ∈ vs
    · exact absurd q (wipeL_in hj d)
    · rw [e1 j hj] at q
      rw [wipe_out hj]
      exact r.slot j d q m
  · rw [e1 j (out j m)] at q
    rw [wipe_out (out j m)]
    exact r.mt j d q m
  · rw [e1 j (out j m)] at q
    rw [wipe_out (out j m)]
    exact r.dead j m q
  · rw [wipe_out (out j m1)] at q1
    rw [wipe_out (out l m2)] at q2
    exact r.sep j l y m1 m2 q1 q2
  · obtain ⟨f1, f2, f3, f4, f5, f6, f7⟩ := r.pn p c q
    have hn : C.ps ∉ vs := fun z => (hp _ z).1 rfl
    exact ⟨by rw [wipe_out hn]; exact f1, f2, f3, f4, f5, by rw [e1 _ hn]; exact f6, f7⟩
  · obtain ⟨⟨j, b1, b2, b3⟩, b4⟩ := r.br b hb
    exact ⟨⟨j, b1, b2, by rw [wipe_out (out j b2)]; exact b3⟩, b4⟩
theorem R.unwipe {H0 S0 Hs : Hp} {σ : L2.St} {H : Hp} {s : S} {vs : List Nat} (r : R C H0 S0 Hs (L2.wipe σ vs) H s) (hM : ∀ v ∈ vs, v ∉ C.M) (hp : ∀ v ∈ vs, C.Nf v) (hn : ∀ v ∈ vs, ∀ d, s.δ[v]? ≠ some (some d)) : R C H0 S0 Hs σ H s := by
  have out : ∀ j, j ∈ C.M → j ∉ vs := fun j m z => hM j z m
  refine ⟨by rw [← wipe_length σ vs]; exact r.len, r.sub, fun j d q m => ?_, fun j d q m => ?_, fun j m q => ?_, fun j l y m1 m2 q1 q2 => ?_, fun p c q => ?_, fun b hb => ?_, r.s0, r.h0, r.new, fun y m => ⟨by have := (r.fx y m).1; rw [wipe_out (fun z => (hp _ z).2 y m rfl)] at this; exact this, (r.fx y m).2⟩, r.tb⟩
  · by_cases hj : j ∈ vs
    · exact absurd q (hn j hj d)
    · have := r.slot j d q m
      rw [wipe_out hj] at this
      exact this
  · have := r.mt j d q m
    rw [wipe_out (out j m)] at this
    exact this
  · have := r.dead j m q
    rw [wipe_out (out j m)] at this
    exact this
  · rw [← wipe_out (vs := vs) (out j m1)] at q1
    rw [← wipe_out (vs := vs) (out l m2)] at q2
    exact r.sep j l y m1 m2 q1 q2
  · obtain ⟨f1, f⟩ := r.pn p c q
    rw [wipe_out (fun z => (hp _ z).1 rfl)] at f1
    exact ⟨f1, f⟩
  · obtain ⟨⟨j, b1, b2, b3⟩, b4⟩ := r.br b hb
    rw [wipe_out (out j b2)] at b3
    exact ⟨⟨j, b1, b2, b3⟩, b4⟩
theorem Go.own {σ σ' : L2.St} {Hs H Hs' H' : Hp} (g : Go C σ Hs H Hs' H') (h : ∀ b, Own C σ b → Own C σ' b) : Go C σ' Hs H Hs' H' :=
  ⟨g.st, fun b o e n m => g.kp b o e (fun z => n (h b z)) m, g.th, g.nw⟩
theorem own_of {σ σ' : L2.St} {vs : List Nat} (hM : ∀ v ∈ vs, v ∉ C.M) (h : ∀ j, j ∉ vs → σ'[j]? = σ[j]?) : ∀ b, Own C σ' b → Own C σ b := fun b ⟨i, m, e⟩ => ⟨i, m, by rw [← h i (fun z => hM i z m)]; exact e⟩
theorem R.updF {H0 S0 Hs : Hp} {σ : L2.St} {H : Hp} {s : S} {x : Addr} {o : HO} (r : R C H0 S0 Hs σ H s) (h1 : Hs x = none) (h2 : H0 x = none) (h3 : ¬ Own C σ x) : R C H0 S0 Hs σ (L2.upd H x o) s := by
  have sm : ∀ b u, b ≠ x → H b = some u → L2.upd H x o b = some u := fun b u n q => by rw [upd_ne n]; exact q
  refine ⟨r.len, fun b u q => sm b u (fun z => by subst z; rw [h1] at q; cases q) (r.sub b u q), r.slot, fun j d q m => ?_, r.dead, r.sep, fun p c q => ?_, r.br, r.s0, fun b u n q => sm b u (fun z => by subst z; rw [h2] at q; cases q) (r.h0 b u n q), r.new, r.fx, r.tb.1.to (Same.refl _) (fun t m ps e => sm _ _ (fun z => r.tb.2 t m (by rw [z]; exact h2)) e) (fun _ e1 e2 => absurd e1 e2), r.tb.2⟩
  · obtain ⟨y, w, f2, f3, f4⟩ := r.mt j d q m
    exact ⟨y, w, f2, sm y _ (fun z => h3 ⟨j, m, by rw [← z]; exact f2⟩) f3, f4⟩
  · obtain ⟨f1, f2, f3, f4, f5, f6⟩ := r.pn p c q
    exact ⟨f1, f2.but (q := x) (fun b u n q => sm b u n q) (fun z => f4 (z ▸ h2)) (fun z => f5 (z ▸ h2)), f3, f4, f5, f6⟩
def lcD (g : D → S → (S → Prop) → Prop) (c : DB) (e : DT) (vs : List Nat) (Q : List D → S → Prop) : List D → List D → S → Prop
  | [], acc, s => Q acc s
  | d :: ds, acc, s => g d s fun s1 => c s1 fun k s2 => if k = true then e s2 fun y s3 => lcD g c e vs Q ds (acc ++ [y]) (wipeS s3 vs) else lcD g c e vs Q ds acc (wipeS s2 vs)
def dLc (it : DI) (g : D → S → (S → Prop) → Prop) (c : DB) (e : DT) (vs : List Nat) : DT := fun s Q => it s fun items s1 => items.length ≤ sizeLine ∧ lcD g c e vs (fun acc s2 => Q (.list acc) s2) items [] (wipeS s1 vs)
def dYes : DB := fun s Q => Q true s
theorem simT_yes : SimT C tYes dYes := ⟨fun H0 S0 Hs σ H s Q Q' r q k => k Hs H true s Go.refl r q⟩
theorem Go.updF {σ : L2.St} {Hs H Hs' H' : Hp} {x : Addr} {o : HO} (g : Go C σ Hs H Hs' H') (h : H x = none) : Go C σ Hs H Hs' (L2.upd H' x o) := by
  refine ⟨g.st, fun b u q n m => ?_, fun b u q => ?_, g.nw⟩
  · rw [upd_ne (ne_of_none q h)]
    exact g.kp b u q n m
  · obtain ⟨u', h'⟩ := g.th b u q
    exact ⟨u', by rw [upd_ne (ne_of_none q h)]; exact h'⟩
theorem sim_lc {bw : Bool} {wi : TI} {it : DI} {tl vs : List Nat} {g : TG} {x : D → S → (S → Prop) → Prop} {tt : TT} {c : DB} (hi : SimI C bw wi it) (hg : SimG C bw tl g x) (ht : SimT C tt c) (he : Sim C ca te t) (hv : ∀ j, j ∈ tl → j ∈ vs) (hM : ∀ v ∈ vs, v ∉ C.M) (hp : ∀ v ∈ vs, C.Nf v) :
    Sim C .F (tLc wi g tt te vs) (dLc it x c t vs) := by
  refine ⟨fun H0 S0 Hs σ H s Q Q' r q k => hi.run H0 S0 Hs σ H s _ _ r q fun Hs1 H1 J items s1 g1 r1 io q1 => fun L nL => ?_⟩
  obtain ⟨hz, q1⟩ := q1
  obtain ⟨G, Y, W, hG, hY⟩ := io
  obtain ⟨l0, l1, l2, l3⟩ := r1.free0 nL
  have ow : ∀ b, Own C (L2.wipe σ vs) b → Own C σ b := own_of hM fun j h => wipe_out h
  have lw : ¬ Own C (L2.wipe σ vs) L := fun z => l2 (ow L z)
  refine lc_it W (fun i H => ∃ Hs s accV accD, R C H0 Hs1 Hs (L2.wipe σ vs) H s ∧ H L = some (.lst accV) ∧ Hs L = none ∧ RpAll C.K Hs accV accD ∧ accD.length ≤ i ∧ Go C σ Hs1 H1 Hs H ∧ (∀ v ∈ vs, ∀ d, s.δ[v]? ≠ some (some d)) ∧ lcD x c t vs (fun acc s2 => Q (.list acc) s2) (items.drop i) accD s)
    ⟨Hs1, wipeS s1 vs, [], [], ((r1.laid nL).wipe hM hp).base, upd_same, l1, .nil, Nat.le_refl _, Go.laid nL, fun v m d => wipeL_in m d, q1⟩ (fun i H _ ⟨Hs, s, _, _, r, _⟩ => hG H (r.s0.trans r.sub)) (fun i v H H' hi' ⟨Hs, s, accV, accD, r, hL, hsL, ra, la, ga, _, q⟩ y => ?_) (fun H ⟨Hs, s, accV, accD, r, hL, hsL, ra, la, ga, hn, q⟩ => ?_)
  · obtain ⟨Hs2, d, e1, r2, rp, g2⟩ := hY i H v H' H0 Hs1 Hs (L2.wipe σ vs) s hi' r r.s0 y
    rw [List.drop_eq_getElem_cons hi'] at q
    have ed : items[i] = d := by
      rw [List.getElem?_eq_getElem hi'] at e1
      exact Option.some.inj e1
    rw [ed] at q
    have hL2 := g2.kp L _ hL lw l3
    have hsL2 := none_of_new g2.nw hsL hL
    refine hg.run H0 Hs1 Hs2 (L2.wipe σ vs) H' s v d _ _ r2 rp q fun σ3 s3 r3 len3 out3 q3 => ?_
    have out3' : ∀ j, j ∉ vs → σ3[j]? = σ[j]? := fun j h => (out3 j (fun z => h (hv j z))).trans (wipe_out h)
    have wq : L2.wipe σ3 vs = L2.wipe σ vs := wipe_eq (by rw [len3, wipe_length]) out3'
    have ow3 : ∀ b, Own C σ3 b → Own C σ b := own_of hM out3'
    have lw3 : ¬ Own C σ3 L := fun z => l2 (ow3 L z)
    refine ⟨wq, ht.run H0 Hs1 Hs2 σ3 H' s3 _ _ r3 q3 fun Hs4 H4 b4 s4 g4 r4 q4 => ?_⟩
    have hL4 := g4.kp L _ hL2 lw3 l3
    have hsL4 := none_of_new g4.nw hsL2 hL2
    have ga4 : Go C σ Hs1 H1 Hs4 H4 := ga.trans ((g2.own ow).trans (g4.own ow3))
    cases b4 with
    | true =>
      refine ifp rfl (he.toE.run H0 Hs1 Hs4 σ3 H4 s4 _ _ r4 (by simpa using q4) fun Hs5 H5 w dw s5 g5 r5 v5 q5 => ?_)
      have hL5 := g5.kp L _ hL4 lw3 l3
      have hsL5 := none_of_new g5.nw hsL4 hL4
      have ra5 := RpAll.mono (g2.st.trans (g4.st.trans g5.st)) ra
      refine ⟨accV, hL5, by rw [ra5.len]; omega, Hs5, wipeS s5 vs, _, accD ++ [dw], ?_, upd_same, hsL5, ra5.app (.cons v5 .nil), by rw [List.length_append]; show accD.length + 1 ≤ i + 1; omega, (ga4.trans (g5.own ow3)).updF nL, fun v m d => wipeL_in m d, q5⟩
      rw [← wq]
      exact (r5.updF hsL5 l0 lw3).wipe hM hp
    | false =>
      refine ifn Bool.false_ne_true ⟨Hs4, wipeS s4 vs, accV, accD, ?_, hL4, hsL4, RpAll.mono (g2.st.trans g4.st) ra, by omega, ga4, fun v m d => wipeL_in m d, by simpa using q4⟩
      rw [← wq]
      exact r4.wipe hM hp
  · rw [List.drop_length] at q
    refine k Hs H _ (.list accD) s (g1.trans ga) (r1.back (r.unwipe hM hp hn)) (Val.mkC ⟨_, hL, hsL, l0, g1.back L nL, .lst ra, l2⟩) q
end
theorem rvNon {K : PySem.W.Frag} {H0 Hs H : Hp} (cat : Cat) : RV K H0 Hs H cat .non .none := by
  cases cat with
  | E => exact Rp.non
  | F => simp only [RV, isC, if_neg Bool.false_ne_true]; exact Rp.non
/-! ### the end of a body: a list of the def's own may go into the still part -/
structure SimE (C : Cf) (cat : Cat) (ts : TS) (t : DSt) : Prop where
  run : ∀ (H0 S0 Hs : Hp) (σ : L2.St) (H : Hp) (s : S) (E : DEnds) (D' : Ends), R C H0 S0 Hs σ H s → t E s →
    (∀ M' Hs σ H s, R { C with M := M' } H0 S0 Hs σ H s → E.nx s → D'.nx σ H) → (∀ M' Hs σ H s v d, R { C with M := M' } H0 S0 Hs σ H s → RV C.K H0 Hs H cat v d → E.rt d s → D'.rt v H) →
    (∀ Hs σ H s, R C H0 S0 Hs σ H s → E.bk s → D'.bk σ H) → (∀ Hs σ H s, R C H0 S0 Hs σ H s → E.ct s → D'.ct σ H) → (∀ M' Hs σ H s, R { C with M := M' } H0 S0 Hs σ H s → E.ex → C.ex H) → ts D' σ H
section
variable {C : Cf} {cat : Cat} {ts us : TS} {a b : DSt}
theorem SimS.e (h : SimS C cat ts a) : SimE C cat ts a :=
  ⟨fun H0 S0 Hs σ H s E D' r q k1 k2 k3 k4 k5 => h.run H0 S0 Hs σ H s E D' r q ⟨fun Hs σ H s r q => k1 C.M Hs σ H s r q, fun Hs σ H s v d r rv q => k2 C.M Hs σ H s v d r rv q, k3, k4, fun Hs σ H s r q => k5 C.M Hs σ H s r q⟩⟩
theorem simE_seq (ha : SimS C cat ts a) (hb : SimE C cat us b) : SimE C cat (tSeq ts us) (dSeq a b) :=
  ⟨fun H0 S0 Hs σ H s E D' r q k1 k2 k3 k4 k5 => ha.run H0 S0 Hs σ H s _ _ r q ⟨fun Hs σ H s r q => hb.run H0 S0 Hs σ H s E D' r q k1 k2 k3 k4 k5, fun Hs σ H s v d r rv q => k2 C.M Hs σ H s v d r rv q, k3, k4, fun Hs σ H s r q => k5 C.M Hs σ H s r q⟩⟩
/-- from here on slot i is still; behind this no break or continue -/
theorem simE_still (i : Nat) (M' : List Nat) (hM : ∀ j, j ∈ C.M ↔ j = i ∨ j ∈ M') (hn : i ∉ M') (hb : i ∉ C.bs) (h : SimE { C with M := M' } cat us b) : SimE C cat us (fun E s => b { E with bk := fun _ => False, ct := fun _ => False } s) := by
  refine ⟨fun H0 S0 Hs σ H s E D' r q k1 k2 k3 k4 k5 => ?_⟩
  obtain ⟨Hs', r'⟩ := r.still hM hn hb
  exact h.run H0 S0 Hs' σ H s _ D' r' q (fun M2 Hs σ H s r q => k1 M2 Hs σ H s r q) (fun M2 Hs σ H s v d r rv q => k2 M2 Hs σ H s v d r rv q) (fun _ _ _ _ _ z => z.elim) (fun _ _ _ _ _ z => z.elim) (fun M2 Hs σ H s r q => k5 M2 Hs σ H s r q)
end

/-! ### a def's promise from its body -/
def start' (n : Nat) (ds : List D) : List (Option D) := ds.map some ++ List.replicate (n - ds.length) none
section
variable {P : Program} {w : World} {K : PySem.W.Frag} {mg : Str → Option Value} {base : Heap}
theorem start_slot {vs : List V} {ds : List D} {H : Hp} (N : List Str) (h : RpAll K H vs ds) : (L2.start N vs).length = (start' N.length ds).length ∧ ∀ (i : Nat) (d : D), (start' N.length ds)[i]? = some (some d) → ∃ v, (L2.start N vs)[i]? = some (some v) ∧ Rp K H v d := by
  refine ⟨?_, fun i d e => ?_⟩
  · unfold L2.start start'
    rw [List.length_append, List.length_append, List.length_map, List.length_map, List.length_replicate, List.length_replicate, h.len]
  · unfold start' at e
    by_cases hi : i < ds.length
    · rw [List.getElem?_append_left (by simpa using hi), List.getElem?_map] at e
      cases q : ds[i]? with
      | none => rw [q] at e; cases e
      | some d' =>
        rw [q] at e
        cases e
        obtain ⟨v, e1, e2⟩ := h.get q
        refine ⟨v, ?_, e2⟩
        unfold L2.start
        rw [List.getElem?_append_left (by rw [List.length_map, h.len]; exact hi), List.getElem?_map, e1]
        rfl
    · rw [List.getElem?_append_right (by simpa using hi)] at e
      rw [List.getElem?_replicate] at e
      split at e
      · cases e
      · cases e
theorem start_none {vs : List V} (N : List Str) {i : Nat} (h1 : vs.length ≤ i) (h2 : i < N.length) : (L2.start N vs)[i]? = some none := by
  unfold L2.start
  rw [List.getElem?_append_right (by simpa using h1), List.getElem?_replicate, List.length_map, if_pos (by omega)]
/-- a def without a pen -/
theorem Fn.ofNE {x : Str} {st : Stmt} {f0 : Addr} {fd0 : FuncData} {N ps : List Str} {k n : Nat} {cat : Cat} {M : List Nat} {F : DF} (D' : Fun K x x st f0 fd0) (S' : FnScope N ps (defScope st)) (hn : ps.length = n) (hM : ∀ i ∈ M, n ≤ i ∧ i < N.length)
    (hbody : ∀ (f : Addr) (cdv : Value) (A : Around) (outer : List Env) (s : Shared) (H : Hp) (E : XK), Rm k (A.deeper (envOfC x (defScope st) s.heap.objs.size f cdv)) →
      ∃ t d, PSs (cxOf CX0 P w K mg base N x (defScope st) f cdv A outer s H E).nox (defBody st) t ∧ SimE { K := K, pen := none, ps := 1000, M := M } cat t d ∧ ∀ ds (Q : D → Prop), ds.length = n → F ds Q → d { nx := fun _ => Q .none, rt := fun z _ => Q z } { δ := start' N.length ds, n := 0 }) :
    FnG P w K mg base (k + 1) f0 fd0 ps (spN K n cat F) := by
  refine Fn.mk D' S' (fun vs H Q E h => ?_) (fun f cdv A outer s H vs Q E hr h => ?_)
  · obtain ⟨Hs, ds, Q0, _, h2, h3, _⟩ := h
    rw [h2.len, h3, hn]
  obtain ⟨Hs, ds, Q0, h1, h2, h3, h4, h5⟩ := h
  obtain ⟨t, d, ht, hs, hd⟩ := hbody f cdv A outer s H E hr
  refine ⟨t, ht, ?_⟩
  obtain ⟨sl, ss⟩ := start_slot N h2
  refine hs.run H Hs Hs (L2.start N vs) H _ { nx := fun _ => Q0 .none, rt := fun z _ => Q0 z } _ ?_ (hd ds Q0 h3 h4) (fun M' Hs' σ' H' s' r q => ?_) (fun M' Hs' σ' H' s' v dd r rv q => ?_) (fun _ _ _ _ _ q => q.elim) (fun _ _ _ _ _ q => q.elim) (fun _ _ _ _ _ _ q => q.elim)
  · refine ⟨sl, h1, fun i dd e m => ss i dd e, fun i dd e m => ?_, fun i m e => start_none N (by rw [h2.len, h3]; exact (hM i m).1) (hM i m).2, fun i j a m1 m2 e1 e2 => ?_, fun p c e => (nomatch e), fun b hb => (nomatch hb), Same.refl _, fun b o _ e => e, fun b e1 e2 => absurd e1 e2, fun y m => (nomatch m), TbS.nil, fun _ m => (nomatch m)⟩
    · obtain ⟨v, e1, _⟩ := ss i dd e
      rw [start_none N (by rw [h2.len, h3]; exact (hM i m).1) (hM i m).2] at e1
      cases e1
    · rw [start_none N (by rw [h2.len, h3]; exact (hM i m1).1) (hM i m1).2] at e1
      cases e1
  · exact h5 .none Hs' H' .non q r.s0 r.sub (fun b o e => r.h0 b o (fun z => z.elim (fun z => z.elim (fun ⟨_, z⟩ => nomatch z) (fun z => nomatch z)) (fun z => nomatch z)) e) r.new (rvNon cat)
  · exact h5 dd Hs' H' v q r.s0 r.sub (fun b o e => r.h0 b o (fun z => z.elim (fun z => z.elim (fun ⟨_, z⟩ => nomatch z) (fun z => nomatch z)) (fun z => nomatch z)) e) r.new rv
theorem Ok.ofNE {x : Str} {st : Stmt} {N ps : List Str} {k n : Nat} {cat : Cat} {M : List Nat} {F : DF} (D' : Df K mg x st ps) (S' : FnScope N ps (defScope st)) (hn : ps.length = n) (hM : ∀ i ∈ M, n ≤ i ∧ i < N.length)
    (hbody : ∀ (f : Addr) (cdv : Value) (A : Around) (outer : List Env) (s : Shared) (H : Hp) (E : XK), Rm k (A.deeper (envOfC x (defScope st) s.heap.objs.size f cdv)) →
      ∃ t d, PSs (cxOf CX0 P w K mg base N x (defScope st) f cdv A outer s H E).nox (defBody st) t ∧ SimE { K := K, pen := none, ps := 1000, M := M } cat t d ∧ ∀ ds (Q : D → Prop), ds.length = n → F ds Q → d { nx := fun _ => Q .none, rt := fun z _ => Q z } { δ := start' N.length ds, n := 0 }) :
    Ok P w K mg base (k + 1) x ps (spN K n cat F) := by
  obtain ⟨f, fd, F', b, g⟩ := D'
  exact ⟨f, fd, g, F'.kp, b, Fn.ofNE F' S' hn hM hbody⟩
/-- the same, no list of its own goes still -/
theorem Ok.ofN {x : Str} {st : Stmt} {N ps : List Str} {k n : Nat} {cat : Cat} {M : List Nat} {F : DF} (D' : Df K mg x st ps) (S' : FnScope N ps (defScope st)) (hn : ps.length = n) (hM : ∀ i ∈ M, n ≤ i ∧ i < N.length)
    (hbody : ∀ (f : Addr) (cdv : Value) (A : Around) (outer : List Env) (s : Shared) (H : Hp) (E : XK), Rm k (A.deeper (envOfC x (defScope st) s.heap.objs.size f cdv)) →
      ∃ t d, PSs (cxOf CX0 P w K mg base N x (defScope st) f cdv A outer s H E).nox (defBody st) t ∧ SimS { K := K, pen := none, ps := 1000, M := M } cat t d ∧ ∀ ds (Q : D → Prop), ds.length = n → F ds Q → d { nx := fun _ => Q .none, rt := fun z _ => Q z } { δ := start' N.length ds, n := 0 }) :
    Ok P w K mg base (k + 1) x ps (spN K n cat F) := by
  exact Ok.ofNE D' S' hn hM fun f cdv A outer s H E hr => by
    obtain ⟨t, d, h1, h2, h3⟩ := hbody f cdv A outer s H E hr
    exact ⟨t, d, h1, h2.e, h3⟩
/-- a def with a pen, its first parameter -/
theorem Ok.ofPE {x : Str} {st : Stmt} {N ps : List Str} {k n : Nat} {cat : Cat} {M : List Nat} {F : DFP} (D' : Df K mg x st ps) (S' : FnScope N ps (defScope st)) (hn : ps.length = n + 1) (hM : ∀ i ∈ M, n + 1 ≤ i ∧ i < N.length) (hN : 0 < N.length)
    (hbody : ∀ (f : Addr) (cdv : Value) (A : Around) (outer : List Env) (s : Shared) (H : Hp) (E : XK) (p c : Addr), Rm k (A.deeper (envOfC x (defScope st) s.heap.objs.size f cdv)) →
      ∃ t d, PSs (cxOf CX0 P w K mg base N x (defScope st) f cdv A outer s H E).nox (defBody st) t ∧ SimE { K := K, pen := some (p, c), ps := 0, M := M } cat t d ∧ ∀ ds m (Q : D → Nat → Prop), ds.length = n → F ds m Q → d { nx := fun s => Q .none s.n, rt := fun z s => Q z s.n } { δ := none :: start' (N.length - 1) ds, n := m }) :
    Ok P w K mg base (k + 1) x ps (spP K n cat F) := by
  refine Ok.mk D' S' (fun vs H Q E h => ?_) (fun f cdv A outer s H vs Q E hr h => ?_)
  · obtain ⟨Hs, p, c, m, vs', ds, Q0, rfl, _, _, _, h2, h3, _⟩ := h
    rw [List.length_cons, h2.len, h3, hn]
  obtain ⟨Hs, p, c, m, vs', ds, Q0, rfl, pe, hsp, h1, h2, h3, h4, h5⟩ := h
  obtain ⟨t, d, ht, hs, hd⟩ := hbody f cdv A outer s H E p c hr
  refine ⟨t, ht, ?_⟩
  obtain ⟨N0, N', rfl⟩ : ∃ a b, N = a :: b := by
    cases N with
    | nil => exact absurd hN (by simp)
    | cons a b => exact ⟨a, b, rfl⟩
  obtain ⟨sl, ss⟩ := start_slot N' h2
  have es : L2.start (N0 :: N') (V.ref p :: vs') = some (.ref p) :: L2.start N' vs' := by
    unfold L2.start
    rw [List.map_cons, List.length_cons, List.length_cons, Nat.add_sub_add_right]
    rfl
  have en : (N0 :: N').length - 1 = N'.length := by rw [List.length_cons]; rfl
  rw [en] at hd
  have nn : ∀ i, i ∈ M → (some (V.ref p) :: L2.start N' vs')[i]? = some none := fun i m => by
    have := hM i m
    rw [List.length_cons] at this
    obtain ⟨j, rfl⟩ : ∃ j, i = j + 1 := ⟨i - 1, by omega⟩
    show (L2.start N' vs')[j]? = some none
    exact start_none N' (by rw [h2.len, h3]; omega) (by omega)
  obtain ⟨a0, r0, ep, _⟩ := pe.pen
  obtain ⟨ns, ec⟩ := pe.cells
  rw [es]
  refine hs.run H Hs Hs _ H _ { nx := fun s => Q0 .none s.n, rt := fun z s => Q0 z s.n } _ ?_ (hd ds m Q0 h3 h4) (fun M' Hs' σ' H' s' r q => ?_) (fun M' Hs' σ' H' s' v dd r rv q => ?_) (fun _ _ _ _ _ q => q.elim) (fun _ _ _ _ _ q => q.elim) (fun _ _ _ _ _ _ q => q.elim)
  · refine ⟨by rw [List.length_cons, sl]; rfl, h1, fun i dd e _ => ?_, fun i dd e m => ?_, fun i m e => nn i m, fun i j a m1 m2 e1 e2 => ?_, fun p' c' e => ?_, fun b hb => (nomatch hb), Same.refl _, fun b o _ e => e, fun b e1 e2 => absurd e1 e2, fun y m => (nomatch m), TbS.nil, fun _ m => (nomatch m)⟩
    · cases i with
      | zero => cases e
      | succ j => exact ss j dd e
    · cases i with
      | zero => cases e
      | succ j =>
        obtain ⟨v, e1, _⟩ := ss j dd e
        have := nn (j + 1) m
        have : (L2.start N' vs')[j]? = some none := this
        rw [this] at e1
        cases e1
    · rw [nn i m1] at e1
      cases e1
    · cases e
      exact ⟨rfl, pe, hsp, (by rw [ep]; simp), (by rw [ec]; simp), rfl, fun z => absurd (hM 0 z).1 (by omega), fun z => (nomatch z), fun z => (nomatch z)⟩
  · have ip : ∀ b, ¬ IsPen { K := K, pen := some (p, c), ps := 0, M := M' } b ↔ b ≠ p := fun b => ⟨fun h e => h (.inl (.inl ⟨c, by rw [e]⟩)), fun h z => z.elim (fun z => z.elim (fun ⟨c', e⟩ => h (by cases e; rfl)) (fun z => nomatch z)) (fun z => nomatch z)⟩
    obtain ⟨f1, f2, f3, _⟩ := r.pn p c rfl
    exact h5 .none s'.n Hs' H' .non q r.s0 r.sub (fun b o nb e => r.h0 b o ((ip b).mpr nb) e) r.new f3 f2 (rvNon cat)
  · have ip : ∀ b, ¬ IsPen { K := K, pen := some (p, c), ps := 0, M := M' } b ↔ b ≠ p := fun b => ⟨fun h e => h (.inl (.inl ⟨c, by rw [e]⟩)), fun h z => z.elim (fun z => z.elim (fun ⟨c', e⟩ => h (by cases e; rfl)) (fun z => nomatch z)) (fun z => nomatch z)⟩
    obtain ⟨f1, f2, f3, _⟩ := r.pn p c rfl
    exact h5 dd s'.n Hs' H' v q r.s0 r.sub (fun b o nb e => r.h0 b o ((ip b).mpr nb) e) r.new f3 f2 rv
/-- the same, no list of its own goes still -/
theorem Ok.ofP {x : Str} {st : Stmt} {N ps : List Str} {k n : Nat} {cat : Cat} {M : List Nat} {F : DFP} (D' : Df K mg x st ps) (S' : FnScope N ps (defScope st)) (hn : ps.length = n + 1) (hM : ∀ i ∈ M, n + 1 ≤ i ∧ i < N.length) (hN : 0 < N.length)
    (hbody : ∀ (f : Addr) (cdv : Value) (A : Around) (outer : List Env) (s : Shared) (H : Hp) (E : XK) (p c : Addr), Rm k (A.deeper (envOfC x (defScope st) s.heap.objs.size f cdv)) →
      ∃ t d, PSs (cxOf CX0 P w K mg base N x (defScope st) f cdv A outer s H E).nox (defBody st) t ∧ SimS { K := K, pen := some (p, c), ps := 0, M := M } cat t d ∧ ∀ ds m (Q : D → Nat → Prop), ds.length = n → F ds m Q → d { nx := fun s => Q .none s.n, rt := fun z s => Q z s.n } { δ := none :: start' (N.length - 1) ds, n := m }) :
    Ok P w K mg base (k + 1) x ps (spP K n cat F) := by
  exact Ok.ofPE D' S' hn hM hN fun f cdv A outer s H E p c hr => by
    obtain ⟨t, d, h1, h2, h3⟩ := hbody f cdv A outer s H E p c hr
    exact ⟨t, d, h1, h2.e, h3⟩
/-- the draws -/
structure TakeP (m : Int) (n : Nat) (Q : D → Nat → Prop) : Prop where
  hn : n ≤ penLim
  h0 : 0 < m
  h1 : m.natAbs < 2 ^ 9000
  k : ∀ r : Int, 0 ≤ r → r < m → Q (.int r) (n + 1)
def takeF : DFP := fun ds n Q => match ds with
  | [d] => (match d with
    | .int m => TakeP m n Q
    | _ => False)
  | _ => False
theorem ok_takeP {k : Nat} (h : Ok P w K mg base k "_law_take" ["_law_pen", "_law_many"] spTake) : Ok P w K mg base k "_law_take" ["_law_pen", "_law_many"] (spP K 1 .E takeF) := by
  refine h.imp fun vs H Q E h => ?_
  obtain ⟨Hs, p, c, m, vs', ds, Q0, rfl, pe, hsp, h1, h2, h3, h4, h5⟩ := h
  match vs', ds, h2 with
  | [v], [d], .cons hd .nil =>
    cases d <;> first | exact h4.elim | skip
    cases hd
    rename_i i
    obtain ⟨e1, e2, e3, e4⟩ := h4
    refine ⟨p, c, m, i, rfl, pe, e1, e2, e3, fun r H' r0 r1 bt pe' => ?_⟩
    refine h5 (.int r) (m + 1) Hs H' _ (e4 r r0 r1) (Same.refl _) (fun b o e => bt b o (fun z => by subst z; rw [hsp] at e; cases e) (h1 b o e)) bt (fun b q1 q2 => absurd q1 q2) hsp pe' (Rp.int r)
  | [], [], _ => exact h4.elim
  | _ :: _ :: _, _ :: _ :: _, _ => exact absurd h3 (by simp)
end

/-! ### words for the printed terms -/
section
variable {C : Cf}
theorem nm {i : Nat} (h : C.M.contains i = false) : i ∉ C.M := fun z => by
  have := List.contains_iff_mem.mpr z
  rw [h] at this
  cases this
theorem ym {i : Nat} (h : C.M.contains i = true) : i ∈ C.M := List.contains_iff_mem.mp h
theorem np {i : Nat} (h : (i == C.ps || C.fx.any fun x => x.1 == i) = false) : C.Nf i := by
  rw [Bool.or_eq_false_iff] at h
  refine ⟨fun z => ?_, fun x m z => ?_⟩
  · have h1 := h.1
    rw [z] at h1
    simp at h1
  · exact List.any_eq_false.mp h.2 x m (by rw [z]; simp)
theorem nmv {vs : List Nat} (h : (vs.all fun v => !C.M.contains v) = true) : ∀ v ∈ vs, v ∉ C.M := fun v m => nm (by
  have := List.all_eq_true.mp h v m
  simpa using this)
theorem npv {vs : List Nat} (h : (vs.all fun v => !(v == C.ps || C.fx.any fun x => x.1 == v)) = true) : ∀ v ∈ vs, C.Nf v := fun v m => np (by
  have := List.all_eq_true.mp h v m
  rwa [Bool.not_eq_true'] at this)
theorem inv' {ts vs : List Nat} (h : (ts.all fun v => vs.contains v) = true) : ∀ j, j ∈ ts → j ∈ vs := fun j m => by
  have := List.all_eq_true.mp h j m
  exact List.contains_iff_mem.mp this
theorem u65 {A : Around} {k : Nat} (hr : Room k A) : A.units + 65 < cLine := by
  have := hr.un
  omega
theorem isiK {X : Cx} (K : PySem.W.Frag) (eK : X.K = K) : CallR X (.builtin "isinstance") (rIsi K) := eK ▸ call_isi
theorem isiTK {X : Cx} (K : PySem.W.Frag) (eK : X.K = K) : CallR X (.builtin "isinstance") (rIsiT K) := eK ▸ call_isiT
theorem sumK {X : Cx} (K : PySem.W.Frag) (eK : X.K = K) (hc : X.calm = true) : CallR X (.builtin "sum") (rSum K) := eK ▸ cr_sum hc
theorem allK {X : Cx} (K : PySem.W.Frag) (eK : X.K = K) (hc : X.calm = true) : CallR X (.builtin "all") (rAll K) := eK ▸ cr_all hc
theorem anyK {X : Cx} (K : PySem.W.Frag) (eK : X.K = K) (hc : X.calm = true) : CallR X (.builtin "any") (rAny K) := eK ▸ cr_any hc
/-- list(range(..)) -/
theorem rg_all {K : PySem.W.Frag} {H : Hp} (lo hi : Int) : RpAll K H (rgV lo hi) (rgD lo (hi - lo).toNat) := by
  unfold rgV rgD
  generalize (hi - lo).toNat = n
  have : ∀ l : List Nat, RpAll K H (l.map fun i => V.int (lo + (i : Nat))) (l.map fun i => (PyData.int (lo + (i : Nat)) : D)) := fun l => by
    induction l with
    | nil => exact .nil
    | cons x l ih => exact .cons (.int _) ih
  exact this _
def dListRg1 (a : DT) : DT := fun s Q => a s fun d s1 => match d with
  | .int n => RgOk 0 n ∧ Q (.list (rgD 0 n.toNat)) s1
  | _ => False
theorem sim_listRg1 {te : TE} {t : DT} {ca : Cat} (h : Sim C ca te t) : Sim C .F (tLstRg (tRg1 te)) (dListRg1 t) := by
  refine ⟨fun H0 S0 Hs σ H s Q Q' r q k => h.run H0 S0 Hs σ H s _ _ r q fun Hs1 H1 v d s1 g1 r1 v1 q1 => ?_⟩
  cases d <;> first | exact q1.elim | skip
  rename_i n
  cases v1.int'
  have e : (n - 0).toNat = n.toNat := by omega
  refine ⟨n, rfl, q1.1, fun p np => k Hs1 _ _ (.list (rgD 0 n.toNat)) s1 (g1.trans (Go.laid np)) (r1.laid np) ((r1.newList np ?_).anew fun a e => g1.back a e) q1.2⟩
  rw [← e]
  exact rg_all 0 n
def dListRg2 (a b : DT) : DT := fun s Q => a s fun d s1 => b s1 fun e s2 => match d, e with
  | .int m, .int n => RgOk m n ∧ Q (.list (rgD m (n - m).toNat)) s2
  | _, _ => False
theorem sim_listRg2 {ta tb : TE} {da db : DT} {ca cb : Cat} (ha : Sim C ca ta da) (hb : Sim C cb tb db) : Sim C .F (tLstRg (tRg2 ta tb)) (dListRg2 da db) := by
  refine ⟨fun H0 S0 Hs σ H s Q Q' r q k => ha.run H0 S0 Hs σ H s _ _ r q fun Hs1 H1 v d s1 g1 r1 v1 q1 => hb.run H0 S0 Hs1 σ H1 s1 _ _ r1 q1 fun Hs2 H2 w e s2 g2 r2 v2 q2 => ?_⟩
  cases d <;> cases e <;> first | exact q2.elim | skip
  rename_i m n
  cases v1.int'
  cases v2.int'
  exact ⟨m, n, rfl, rfl, q2.1, fun p np => k Hs2 _ _ (.list (rgD m (n - m).toNat)) s2 ((g1.trans g2).trans (Go.laid np)) (r2.laid np) ((r2.newList np (rg_all m n)).anew fun a e => (g1.trans g2).back a e) q2.2⟩
end

/-! ### more words -/
theorem boot_isi : bootBuiltins "isinstance" = some (.builtin "isinstance") := by decide +kernel
theorem boot_len : bootBuiltins "len" = some (.builtin "len") := by decide +kernel
theorem boot_tuple : bootBuiltins "tuple" = some (.type "tuple") := by decide +kernel
theorem boot_list : bootBuiltins "list" = some (.type "list") := by decide +kernel
theorem boot_str : bootBuiltins "str" = some (.type "str") := by decide +kernel
theorem boot_int : bootBuiltins "int" = some (.type "int") := by decide +kernel
theorem boot_bool : bootBuiltins "bool" = some (.type "bool") := by decide +kernel
theorem boot_dict : bootBuiltins "dict" = some (.type "dict") := by decide +kernel
theorem boot_min : bootBuiltins "min" = some (.builtin "min") := by decide +kernel
theorem boot_max : bootBuiltins "max" = some (.builtin "max") := by decide +kernel
theorem boot_sum : bootBuiltins "sum" = some (.builtin "sum") := by decide +kernel
theorem boot_all : bootBuiltins "all" = some (.builtin "all") := by decide +kernel
theorem boot_any : bootBuiltins "any" = some (.builtin "any") := by decide +kernel
section
variable {C : Cf} {te ta tb : TE} {t da db : DT} {ca cb : Cat}
theorem nb {i : Nat} (h : C.bs.contains i = false) : i ∉ C.bs := fun z => by
  have := List.contains_iff_mem.mpr z
  rw [h] at this
  cases this
def dNeg (a : DT) : DT := fun s Q => a s fun d s1 => match d with
  | .int i => Q (.int (-i)) s1
  | _ => False
theorem sim_neg (h : Sim C ca te t) : Sim C .F (tUn (rU fun i => .int (-i)) te) (dNeg t) := by
  refine ⟨fun H0 S0 Hs σ H s Q Q' r q k => h.run H0 S0 Hs σ H s _ _ r q fun Hs1 H1 v d s1 g1 r1 v1 q1 => ?_⟩
  cases d <;> first | exact q1.elim | skip
  rename_i i
  cases v1.int'
  exact ⟨i, rfl, k Hs1 H1 _ (.int (-i)) s1 g1 r1 (Val.mkP (Rp.int _) rfl) q1⟩
/-- sep.join(xs) -/
def rJoinQ (K : PySem.W.Frag) : V → List V → Hp → VK → Prop := fun x xs H Q => ∃ a p, ∃ ys : List Str, x = .str a ∧ xs = [.ref p] ∧ (SqL K H p (ys.map V.str) ∨ SqT K H p (ys.map V.str)) ∧
    (ys.map (·.length)).sum + ys.length * a.length ≤ 16777216 ∧ Q (.str (Txt.join a ys)) H
theorem joinK {X : Cx} (K : PySem.W.Frag) (eK : X.K = K) {o e : Expr} {to te : TE} {apos pos : Pos} (ho : PE X o to) (he : PE X e te) (hs : starEach [e] X.env = [(false, eval e X.env)] := by rfl) (hbase : attributeBase o "join" X.env (eval o X.env) = eval o X.env := by rfl) (hline : (apos.endLine == pos.line) = true := by rfl) :
    PE X (.Call (.Attribute o "join" apos) [e] [] pos) (tM1 (rJoinQ K) to te) := by
  subst eK
  exact pe_join ho he hs hbase hline
def strsOf : List D → Option (List Str)
  | [] => some []
  | .str i :: r => (strsOf r).map (i :: ·)
  | _ :: _ => none
theorem strs_rp {K : PySem.W.Frag} {H : Hp} : ∀ {xs : List V} {ds : List D} {ns : List Str}, RpAll K H xs ds → strsOf ds = some ns → xs = ns.map V.str
  | _, _, _, .nil, e => by cases e; rfl
  | _, _, _, .cons (d := d) (ds := ds) a b, e => by
    cases d <;> first | (exfalso; have e' : (none : Option (List Str)) = some _ := e; cases e'; done) | skip
    cases a
    simp only [strsOf, Option.map_eq_some_iff] at e
    obtain ⟨ms, e1, rfl⟩ := e
    rw [strs_rp b e1]
    rfl
def joinD (a : Str) (d : D) (Q : D → Prop) : Prop := match d with
  | .list xs => ∃ ys, strsOf xs = some ys ∧ (ys.map (·.length)).sum + ys.length * a.length ≤ 16777216 ∧ Q (.str (Txt.join a ys))
  | .tuple xs => ∃ ys, strsOf xs = some ys ∧ (ys.map (·.length)).sum + ys.length * a.length ≤ 16777216 ∧ Q (.str (Txt.join a ys))
  | _ => False
def dJoin (a b : DT) : DT := fun s Q => a s fun x s1 => match x with
  | .str z => b s1 fun y s2 => joinD z y fun w => Q w s2
  | _ => False
theorem sim_join (ha : Sim C ca ta da) (hb : Sim C cb tb db) : Sim C .F (tM1 (rJoinQ C.K) ta tb) (dJoin da db) := by
  refine ⟨fun H0 S0 Hs σ H s Q Q' r q k => ha.toE.run H0 S0 Hs σ H s _ _ r q fun Hs1 H1 v d s1 g1 r1 v1 q1 => ?_⟩
  cases d <;> first | exact q1.elim | skip
  rename_i z
  cases v1
  refine ⟨⟨z, rfl⟩, hb.run H0 S0 Hs1 σ H1 s1 _ _ r1 q1 fun Hs2 H2 w e s2 g2 r2 v2 q2 => ?_⟩
  have rd := v2.rd r2.sub
  cases e <;> first | exact q2.elim | skip
  case list xs =>
    obtain ⟨p, ys, rfl, e1, e2⟩ := Rd'.list rd
    obtain ⟨zs, e3, e4, q2⟩ := q2
    rw [strs_rp e2 e3] at e1
    exact ⟨z, p, zs, rfl, rfl, .inl (SqL.of e1), e4, k Hs2 H2 _ (.str _) s2 (g1.trans g2) r2 (Val.mkP (Rp.str _) rfl) q2⟩
  case tuple xs =>
    obtain ⟨zs, e3, e4, q2⟩ := q2
    cases (show Rp C.K Hs2 w (.tuple xs) from rd) with
    | @tup p ys _ e1 e2 =>
    rw [strs_rp e2 e3] at e1
    exact ⟨z, p, zs, rfl, rfl, .inr (Same.sqT r2.sub e1.sq), e4, k Hs2 H2 _ (.str _) s2 (g1.trans g2) r2 (Val.mkP (Rp.str _) rfl) q2⟩
theorem opA_iadd : OpA C (rI0 fun i j => .int (i + j)) (fun x y Q => match x, y with | .int i, .int j => Q (.int (i + j)) | _, _ => False) := by
  intro H0 S0 Hs σ H s x y dx dy Q Q' r hx hy q k
  cases dx <;> cases dy <;> first | exact q.elim | skip
  case int.int i j => cases hx; cases hy; exact ⟨i, j, rfl, rfl, k Hs H _ (.int (i + j)) Go.refl r (Val.mkP (Rp.int _) rfl) q⟩
end

/-! ### repr of a tree without dicts -/
def rRepr (K : PySem.W.Frag) : List V → Hp → VK → Prop := fun xs H Q => ∃ x d, xs = [x] ∧ Dp K H x d ∧ Sh d ∧ d.showable = true ∧ d.shown.length ≤ sizeLine ∧ Q (.str d.shown) H
theorem reprK {X : Cx} (K : PySem.W.Frag) (eK : X.K = K) (hg : X.A.guards = some []) (hu : X.A.units + 65 < cLine) : CallR X (.builtin "repr") (rRepr K) := by
  subst eK
  intro pins s σ H xs us Q I rv h
  obtain ⟨x, d, rfl, hd, sd, hw, hz, q⟩ := h
  obtain ⟨u, rfl, ru⟩ := vals1 rv
  obtain ⟨as, rd⟩ := Dp.reads I d x u hd ru
  have hs : d.canLay0 = true ∧ d.depth ≤ 64 := by
    have : (d.canLay0 && decide (d.depth ≤ 64)) = true := sd
    simpa using this
  have nd : d.hasDict = false := PyData.hasDict_of_canLay d hs.1
  have no : d.hasDict = true → sysModules ∉ as := fun z => by rw [nd] at z; cases z
  cases rd with
  | none => exact PySem.P.repr_of_none ⟨.str _, H, I.tok _, ⟨_, rfl⟩, q⟩
  | bool b => exact PySem.P.repr_of_bool ⟨.str _, H, I.tok _, ⟨_, rfl⟩, q⟩
  | int i t => exact PySem.P.repr_of_int (by simpa [PyData.showable] using hw) ⟨.str _, H, I.tok _, ⟨_, rfl⟩, q⟩
  | str z t => exact PySem.P.repr_of_str ⟨.str _, H, I.tok _, ⟨_, rfl⟩, q⟩ hz
  | list a b c r => exact repr_of_reads' (.list a b c r) hw no hg (by omega) (fun _ _ z => z) (fun h' t tk kp => ⟨.str _, H, I.kept kp, ⟨_, rfl⟩, q⟩) hz
  | tuple a b c r => exact repr_of_reads' (.tuple a b c r) hw no hg (by omega) (fun _ _ z => z) (fun h' t tk kp => ⟨.str _, H, I.kept kp, ⟨_, rfl⟩, q⟩) hz
  | dict a b c r1 r2 => exact absurd nd (by simp [PyData.hasDict])
def reprD : DF := fun ds Q => match ds with
  | [d] => Sh d ∧ d.showable = true ∧ d.shown.length ≤ sizeLine ∧ Q (.str d.shown)
  | _ => False
theorem caA_repr {C : Cf} : CaA C (rRepr C.K) reprD := by
  intro H0 S0 Hs σ H s vs ds Q Q' r hd q k
  match vs, ds, hd with
  | [v], [d], ⟨h, _⟩ => exact ⟨v, d, rfl, h.dp r.sub q.1, q.1, q.2.1, q.2.2.1, k Hs H _ (.str _) Go.refl r (Val.mkP (Rp.str _) rfl) q.2.2.2⟩
  | [], [], _ => exact q.elim
  | _ :: _ :: _, _ :: _ :: _, _ => exact q.elim

/-! ### own classes, globals -/
def Mt (K : PySem.W.Frag) (C : Addr) (m q : Str) (st : Stmt) (ps : List Str) : Prop := ∃ (f : Addr) (fd : FuncData), Fun K m q st f fd ∧ Binds K fd ps [] ∧ Meth K C m f
def OkM (P : Program) (w : World) (K : PySem.W.Frag) (mg : Str → Option Value) (base : Heap) (C : Addr) (k : Nat) (m : Str) (ps : List Str) (sp : Sp) : Prop :=
  ∃ (f : Addr) (fd : FuncData), Meth K C m f ∧ Binds K fd ps [] ∧ FnG P w K mg base k f fd ps sp
def Gv (mg : Str → Option Value) (x : Str) (v : V) : Prop := ∃ u, mg x = some u ∧ RelV v u
/-- a class as the top made it: its name, its __init__ -/
structure Kl (K : PySem.W.Frag) (mg : Str → Option Value) (C : Addr) (x q : Str) (st : Stmt) (ps : List Str) : Prop where
  cl : Cls K C
  g : mg x = some (.ref C)
  mks : PySem.W.makesIn K C = true
  kp : PySem.W.keepIn K (.ref C) = true
  init : Mt K C "__init__" q st ps
section
variable {P : Program} {w : World} {K : PySem.W.Frag} {mg : Str → Option Value} {base : Heap}
theorem OkM.mk {m q : Str} {C : Addr} {st : Stmt} {N ps : List Str} {k : Nat} {sp : Sp} (D : Mt K C m q st ps) (S : FnScope N ps (defScope st)) (len : ∀ vs H Q E, sp vs H Q E → vs.length = ps.length)
    (hbody : ∀ (f : Addr) (cdv : Value) (A : Around) (outer : List Env) (s : Shared) (H : Hp) (vs : List V) (Q : VK) (E : XK), Rm k (A.deeper (envOfC q (defScope st) s.heap.objs.size f cdv)) → sp vs H Q E →
      ∃ t, PSs (cxOf CX0 P w K mg base N q (defScope st) f cdv A outer s H E).nox (defBody st) t ∧ t { nx := fun _ H' => Q .non H', rt := Q } (start N vs) H) : OkM P w K mg base C (k + 1) m ps sp := by
  obtain ⟨f, fd, F, b, g⟩ := D
  exact ⟨f, fd, g, b, Fun.okG F S len fun cdv A outer s H vs Q E hr hg h => hbody f cdv A outer s H vs Q E ⟨hr, hg⟩ h⟩
theorem OkM.mono {C : Addr} {m : Str} {ps : List Str} {j k : Nat} {sp : Sp} (h : OkM P w K mg base C j m ps sp) (l : j ≤ k) : OkM P w K mg base C k m ps sp := by
  obtain ⟨f, fd, hm, hb, F⟩ := h
  exact ⟨f, fd, hm, hb, F.mono l⟩
end
section
variable {X : Cx}
theorem pe_mth {pl : Sem Bool} {C : Addr} {k : Nat} {m : Str} {ps : List Str} {sp : Sp} {o e : Expr} {es : List Expr} {ta : TE} {t : TA} {apos pos : Pos} (he : PE X o ta) (c : Cls X.K C) (O : OkM X.prog X.w X.K X.mg X.base C k m ps sp) (hr : Rm k X.A) (ha : PA X (e :: es) t)
    (hst : starEach (e :: es) X.env = (false, eval e X.env) :: starEach es X.env := by rfl) (hpl : (backTo pos (starEach es X.env)).any (·.1) = false := by rfl)
    (ht : eval (.Call (.Attribute o m apos) (e :: es) [] pos) X.env = (do
      let ov ← eval o X.env
      standAt apos.atName
      let (f, first) ← holding [ov] (getMethod ov m pl)
      callWith pos f first (backTo pos (starEach (e :: es) X.env)) (backToKw pos (keywordEach [] X.env))) := by rfl) :
    PE X (.Call (.Attribute o m apos) (e :: es) [] pos) (tMeth C m sp [] E0 ta t) := by
  obtain ⟨f, fd, hm, hb, F⟩ := O
  refine ⟨fun pins s σ H Q I h => PySem.W.methodCall_KW (pl := pl) (thn (he.run pins s σ H _ I h) fun u s1 ⟨y, H1, I1, ry, a, dx, fs, ey, ea, l, q⟩ => ?_) ht⟩
  subst ey
  obtain rfl : u = Value.ref a := ry
  exact getmeth_ok I1 ea c hm l (PySem.W.callWith_K (first := [.ref a]) (h₀ := X.base) I.ok.mod.kin hm.kp (thn (ha.run pos pins s1 σ H1 _ I1 q) fun us s2 ⟨vs, H2, I2, r, q2⟩ => ⟨I2.kIn, runG (us := .ref a :: us) (vs := .ref a :: vs) F hr.toRoom hr.gd hb I2 (.cons rfl r) (by have q3 : sp (V.ref a :: (vs ++ [])) H2 Q E0 := q2; rwa [List.append_nil] at q3)⟩) hst hpl)
theorem pe_mth0 {pl : Sem Bool} {C : Addr} {k : Nat} {m : Str} {ps : List Str} {sp : Sp} {o : Expr} {ta : TE} {apos pos : Pos} (he : PE X o ta) (c : Cls X.K C) (O : OkM X.prog X.w X.K X.mg X.base C k m ps sp) (hr : Rm k X.A)
    (ht : eval (.Call (.Attribute o m apos) [] [] pos) X.env = (do
      let ov ← eval o X.env
      standAt apos.atName
      let (f, first) ← holding [ov] (getMethod ov m pl)
      callWith pos f first (backTo pos (starEach [] X.env)) (backToKw pos (keywordEach [] X.env))) := by rfl) :
    PE X (.Call (.Attribute o m apos) [] [] pos) (tMeth C m sp [] E0 ta tNil) := by
  obtain ⟨f, fd, hm, hb, F⟩ := O
  refine ⟨fun pins s σ H Q I h => PySem.W.methodCall_KW (pl := pl) (thn (he.run pins s σ H _ I h) fun u s1 ⟨y, H1, I1, ry, a, dx, fs, ey, ea, l, q⟩ => ?_) ht⟩
  subst ey
  obtain rfl : u = Value.ref a := ry
  exact getmeth_ok I1 ea c hm l (PySem.W.callWith_K0 (first := [.ref a]) I1.kIn hm.kp (runG (us := [.ref a]) (vs := [.ref a]) F hr.toRoom hr.gd hb I1 (.cons rfl .nil) q))
theorem makeG {C : Addr} {k : Nat} {f : Addr} {fd : FuncData} {ps : List Str} {sp : Sp} {pins : List (Addr × Obj)} {σ : L2.St} {H : Hp} {s : Shared} {Q : VK} {us : List Value} {vs : List V} (M : Mk X.K C f) (F : FnG X.prog X.w X.K X.mg X.base k f fd ps sp) (hr : Room (k + 1) X.A) (hg : X.A.guards = some []) (hb : Binds X.K fd ps [])
    (I : Inv X pins σ H s) (rv : Vals vs us) (h : ∀ x dx, H x = none → H dx = none → dx ≠ x → sp (.ref x :: vs) (L2.upd (L2.upd H dx (.own x)) x (.ins C dx [])) (fun v H2 => v = .non ∧ Q (.ref x) H2) E0) :
    wpAny (model X.prog X.w) X.A (call (.ref C) us) (EP X pins σ Q) X.xe s := by
  have hq := h (s.heap.objs.size + 1) s.heap.objs.size (I.hok.fresh (Nat.le_succ _)) (I.hok.fresh (Nat.le_refl _)) (Nat.ne_of_lt (Nat.lt_succ_self _))
  have J := Inv.made (C := C) I
  have r2 : Vals (V.ref (s.heap.objs.size + 1) :: vs) (Value.ref (s.heap.objs.size + 1) :: us) := .cons rfl rv
  have hl : ((Value.ref (s.heap.objs.size + 1) :: us) ++ []).length = ps.length := by
    rw [List.append_nil, ← r2.length]
    exact F.len _ _ _ _ hq
  have b := hb _ (Value.ref (s.heap.objs.size + 1) :: us) J.kIn hl
  rw [List.append_nil] at b
  refine wpAny_call (make_map (f := f) I.kIn M.makes M.init (beq_iff_eq.mp M.fn) (codeAny_mono (F.run _ X.stack _ _ ⟨_, []⟩ _ _ _ E0 (hr.make C us []) (by
      have ng : (Code.builtin "type.__call__" ⟨Value.ref C :: us, []⟩).guards = [] := by first | rfl | (with_unfolding_all rfl) | (simp [Code.guards, Code.isGuard]; done)
      show pushGuards (Code.builtin "type.__call__" ⟨Value.ref C :: us, []⟩).guards X.A.guards = some []
      rw [ng]
      exact hg) (J.env0.make C us []) b r2 hq) fun r s' z => ?_))
  match r, z with
  | .ok (.ret u), z =>
    obtain ⟨v, H', I3, rv', ev, q3⟩ := J.after z
    subst ev
    exact ⟨rv', ⟨V.ref (s.heap.objs.size + 1), H', I3, rfl, q3⟩⟩
  | .ok .next, z => exact False.elim z
  | .ok .brk, z => exact False.elim z
  | .ok .cont, z => exact False.elim z
  | .error e, z => exact False.elim z
theorem pe_new {C : Addr} {k : Nat} {x q : Str} {st : Stmt} {ps : List Str} {sp : Sp} {e : Expr} {es : List Expr} {t : TA} {p pos : Pos} (L : Kl X.K X.mg C x q st ps) (O : OkM X.prog X.w X.K X.mg X.base C k "__init__" ps sp) (hr : Rm (k + 1) X.A) (hg : Gl X x) (ha : PA X (e :: es) t)
    (hdb : (x == ("__debug__" : Str)) = false := by decide) (he : starEach (e :: es) X.env = (false, eval e X.env) :: starEach es X.env := by rfl) (hpl : (backTo pos (starEach es X.env)).any (·.1) = false := by rfl) :
    PE X (.Call (.Name x p) (e :: es) [] pos) (tMake C sp [] E0 t) := by
  obtain ⟨f, fd, hm, hb, F⟩ := O
  exact ⟨fun pins s σ H Q I h => wpAny_Call_Name_kw (ld_glob I hg L.g (PySem.W.callWith_K (h₀ := X.base) I.ok.mod.kin L.kp (thn (ha.run pos pins s σ H _ I h) fun us s1 ⟨vs, H1, I1, r, q⟩ => ⟨I1.kIn, makeG ⟨L.mks, hm.at_, hm.fn, L.kp⟩ F hr.toRoom hr.gd hb I1 r (fun y dy n1 n2 n3 => by have q3 := q y dy n1 n2 n3; rwa [List.append_nil] at q3)⟩) he hpl) hdb)⟩
theorem pe_gv {x : Str} {v : V} {pos : Pos} (hg : Gl X x) (h : Gv X.mg x v) (hd : (x == ("__debug__" : Str)) = false := by decide) : PE X (.Name x pos) (tC v) := by
  obtain ⟨u, e, r⟩ := h
  exact pe_glob hg e r hd
theorem tkEnd {e : Prop} (h : e) : e := h
end

/-! ### loops by invariants, promises of nothing, the law's own frame -/
theorem forD_ind {g : D → S → (S → Prop) → Prop} {b : DSt} {E : DEnds} {items : List D} (Inv : Nat → S → Prop) {s : S} (h0 : Inv 0 s)
    (step : ∀ i d s (N : S → Prop), items[i]? = some d → Inv i s → (∀ s', Inv (i + 1) s' → N s') → g d s fun s1 => b { E with nx := N, ct := N, bk := E.nx } s1) (fin : ∀ s, Inv items.length s → E.nx s) : forD g b E items s := by
  have : ∀ (n i : Nat) (s : S), i + n = items.length → Inv i s → forD g b E (items.drop i) s := by
    intro n
    induction n with
    | zero =>
      intro i s e h
      rw [List.drop_of_length_le (by omega)]
      exact fin s (by rw [← e, Nat.add_zero]; exact h)
    | succ n ih =>
      intro i s e h
      have hi : i < items.length := by omega
      rw [List.drop_eq_getElem_cons hi]
      exact step i _ s _ (List.getElem?_eq_getElem hi) h fun s' h' => ih (i + 1) s' (by omega) h'
  exact this items.length 0 s (by omega) h0
theorem lcD_ind {g : D → S → (S → Prop) → Prop} {c : DB} {e : DT} {vs : List Nat} {Q : List D → S → Prop} {items : List D} (Inv : Nat → List D → S → Prop) {s : S} (h0 : Inv 0 [] s)
    (step : ∀ i d acc s (N : List D → S → Prop), items[i]? = some d → Inv i acc s → (∀ acc' s', Inv (i + 1) acc' s' → N acc' s') → g d s fun s1 => c s1 fun k s2 => if k = true then e s2 fun y s3 => N (acc ++ [y]) (wipeS s3 vs) else N acc (wipeS s2 vs))
    (fin : ∀ acc s, Inv items.length acc s → Q acc s) : lcD g c e vs Q items [] s := by
  have : ∀ (n i : Nat) (acc : List D) (s : S), i + n = items.length → Inv i acc s → lcD g c e vs Q (items.drop i) acc s := by
    intro n
    induction n with
    | zero =>
      intro i acc s e h
      rw [List.drop_of_length_le (by omega)]
      exact fin acc s (by rw [← e, Nat.add_zero]; exact h)
    | succ n ih =>
      intro i acc s e h
      have hi : i < items.length := by omega
      rw [List.drop_eq_getElem_cons hi]
      exact step i _ acc s (fun acc s => lcD g c _ vs Q (items.drop (i + 1)) acc s) (List.getElem?_eq_getElem hi) h fun acc' s' h' => ih (i + 1) acc' s' (by omega) h'
  exact this items.length 0 [] s (by omega) h0
theorem rgD_len (lo : Int) (n : Nat) : (rgD lo n).length = n := by unfold rgD; rw [List.length_map, List.length_range]
theorem rgD_get {lo : Int} {n i : Nat} {d : D} (h : (rgD lo n)[i]? = some d) : i < n ∧ d = .int (lo + (i : Nat)) := by
  have hi := (List.getElem?_eq_some_iff.mp h).1
  rw [rgD_len] at hi
  refine ⟨hi, ?_⟩
  unfold rgD at h
  rw [List.getElem?_map, List.getElem?_range hi] at h
  exact (Option.some.inj h).symm
section
variable {P : Program} {w : World} {K : PySem.W.Frag} {mg : Str → Option Value} {base : Heap}
theorem Ok.no {x : Str} {st : Stmt} {N ps : List Str} {sp : Sp} (D' : Df K mg x st ps) (S' : FnScope N ps (defScope st)) (h : ∀ vs H Q E, sp vs H Q E → False) : Ok P w K mg base 1 x ps sp :=
  Ok.mk D' S' (fun vs H Q E z => (h vs H Q E z).elim) (fun f cdv A outer s H vs Q E hr z => (h vs H Q E z).elim)
theorem spN_no {n : Nat} {cat : Cat} {F : DF} (h : ∀ ds Q, F ds Q → False) : ∀ vs H Q E, spN K n cat F vs H Q E → False := fun vs H Q E ⟨_, _, _, _, _, _, f, _⟩ => h _ _ f
theorem spP_no {n : Nat} {cat : Cat} {F : DFP} (h : ∀ ds n Q, F ds n Q → False) : ∀ vs H Q E, spP K n cat F vs H Q E → False := fun vs H Q E ⟨_, _, _, _, _, _, _, _, _, _, _, _, _, f, _⟩ => h _ _ _ f
/-- the law: its pen is opened first, then the rest in the plain layer -/
theorem Ok.ofLaw {st : Stmt} {fa : Addr} {fda : FuncData} {N0 N1 : Str} {N' : List Str} {k : Nat} {M : List Nat} (F : Fun K "law" "law" st fa fda) (S' : FnScope (N0 :: N1 :: N') ["_law_script"] (defScope st)) (hM : ∀ i ∈ M, 2 ≤ i ∧ i < N'.length + 2)
    (hbody : ∀ (f : Addr) (cdv : Value) (A : Around) (outer : List Env) (s : Shared) (H : Hp) (E : XK), Rm k (A.deeper (envOfC "law" (defScope st) s.heap.objs.size f cdv)) →
      ∃ t, PSs (cxOf CX0 P w K mg base (N0 :: N1 :: N') "law" (defScope st) f cdv A outer s H E).nox (defBody st) (tSeq (tAsg (tCall (spOpen K) [] E0 (tCons (tVar 0) tNil)) (gName 1)) t) ∧
        ∀ p c, ∃ d, SimS { K := K, pen := some (p, c), ps := 1, M := M } .E t d ∧ d { nx := fun _ => False, rt := fun z _ => z = .bool true } { δ := none :: none :: List.replicate N'.length none, n := 0 }) :
    FnG P w K mg base (k + 1) fa fda ["_law_script"] (spLaw K) := by
  refine Fun.okG F S' (fun vs H Q E h => ?_) (fun cdv A outer s H vs Q E hr hg h => ?_)
  · obtain ⟨a, ns, rfl, _⟩ := h; rfl
  obtain ⟨a, ns, rfl, hS, hl, q⟩ := h
  obtain ⟨t, ht, hs⟩ := hbody fa cdv A outer s H E ⟨hr, hg⟩
  refine ⟨_, ht, ?_⟩
  refine ⟨_, rfl, a, ns, rfl, hS, hl, fun p c H1 sm np nc pe => ?_⟩
  obtain ⟨d, sd, hd⟩ := hs p c
  obtain ⟨a0, r0, ep, _⟩ := pe.pen
  obtain ⟨nn, ec⟩ := pe.cells
  have es : (L2.start (N0 :: N1 :: N') [V.ref a]).set 1 (some (.ref p)) = some (.ref a) :: some (.ref p) :: List.replicate N'.length none := by
    unfold L2.start
    rfl
  show t _ ((L2.start (N0 :: N1 :: N') [V.ref a]).set 1 (some (.ref p))) H1
  rw [es]
  have gn : ∀ i, i ∈ M → (some (V.ref a) :: some (V.ref p) :: List.replicate N'.length (none : Option V))[i]? = some none := fun i m => by
    have := hM i m
    obtain ⟨j, rfl⟩ : ∃ j, i = j + 2 := ⟨i - 2, by omega⟩
    show (List.replicate N'.length none)[j]? = some none
    rw [List.getElem?_replicate, if_pos (by omega)]
  refine sd.run H1 (fun _ => none) (fun _ => none) _ H1 _ _ _ ?_ hd ⟨fun Hs' σ' H' s' r q => q.elim, fun Hs' σ' H' s' v dd r rv e => ?_, fun _ _ _ _ _ q => q.elim, fun _ _ _ _ _ q => q.elim, fun _ _ _ _ _ q => q.elim⟩
  · refine ⟨(by simp), (fun b o e => nomatch e), fun i dd e _ => ?_, fun i dd e m => ?_, fun i m e => gn i m, fun i j x m1 m2 e1 e2 => ?_, fun p' c' e => ?_, fun b hb => (nomatch hb), Same.refl _, fun b o _ e => e, fun b e1 e2 => absurd e1 e2, fun y m => (nomatch m), TbS.nil, fun _ m => (nomatch m)⟩
    · exfalso
      match i, e with
      | j + 2, e =>
        have e : (List.replicate N'.length (none : Option D))[j]? = some (some dd) := e
        rw [List.getElem?_replicate] at e
        split at e <;> cases e
    · exfalso
      match i, e with
      | j + 2, e =>
        have e : (List.replicate N'.length (none : Option D))[j]? = some (some dd) := e
        rw [List.getElem?_replicate] at e
        split at e <;> cases e
    · rw [gn i m1] at e1
      cases e1
    · cases e
      exact ⟨rfl, pe, rfl, (by rw [ep]; simp), (by rw [ec]; simp), rfl, fun z => absurd (hM 1 z).1 (by omega), fun z => (nomatch z), fun z => (nomatch z)⟩
  · have e' : dd = .bool true := e
    subst e'
    have rv' : Rp K Hs' v (.bool true) := rv
    cases rv'
    exact q H'
end

/-- one statement, then the rest, with a word between them -/
def dCut (a b : DSt) : DSt := fun E s => ∃ Mid : S → Prop, a { E with nx := Mid } s ∧ ∀ s', Mid s' → b E s'
theorem simS_cut {C : Cf} {cat : Cat} {ts us : TS} {a b : DSt} (ha : SimS C cat ts a) (hb : SimS C cat us b) : SimS C cat (tSeq ts us) (dCut a b) :=
  ⟨fun H0 S0 Hs σ H s E D' r ⟨Mid, q, h⟩ k => ha.run H0 S0 Hs σ H s _ _ r q ⟨fun Hs σ H s r q => hb.run H0 S0 Hs σ H s E D' r (h s q) k, k.rt, k.bk, k.ct, k.ex⟩⟩
theorem small9 {m : Int} (h0 : 0 < m) (h1 : m < 2 ^ 63) : m.natAbs < 2 ^ 9000 := Nat.lt_of_lt_of_le (show m.natAbs < 2 ^ 63 by omega) (Nat.pow_le_pow_right (by decide) (by decide))
theorem take_ok {m : Int} {n : Nat} {Q : D → Nat → Prop} (hn : n ≤ 1000000000) (h0 : 0 < m) (h1 : m < 2 ^ 63) (k : ∀ r : Int, 0 ≤ r → r < m → Q (.int r) (n + 1)) : TakeP m n Q := ⟨Nat.le_trans hn pen9, h0, small9 h0 h1, k⟩
theorem tk_ok {m : Int} {n : Nat} {Q : D → Nat → Prop} (hn : n ≤ penLim) (h0 : 0 < m) (h1 : m < 2 ^ 63) (k : ∀ r : Int, 0 ≤ r → r < m → Q (.int r) (n + 1)) : TakeP m n Q := ⟨hn, h0, small9 h0 h1, k⟩
theorem log_lt {n k : Nat} (h : n < 2 ^ k) (hk : 0 < k) : n.log2 < k := by
  by_cases h0 : n = 0
  · subst h0
    exact Nat.lt_of_le_of_lt (Nat.le_of_eq (by decide)) hk
  · exact (Nat.log2_lt h0).mpr h
theorem mulOk {i j : Int} (hi : i.natAbs < 2 ^ 2000) (hj : j.natAbs < 2 ^ 2000) : CMulW i j := by
  have h1 := log_lt hi (by decide)
  have h2 := log_lt hj (by decide)
  show i.natAbs.log2 + j.natAbs.log2 < 1000000
  omega
theorem lt2000 {n : Nat} (h : n < 10 ^ 40) : n < 2 ^ 2000 := Nat.lt_of_lt_of_le (show n < 2 ^ 200 from Nat.lt_of_lt_of_le h (by decide)) (Nat.pow_le_pow_right (by decide) (by decide))
theorem ix_ok {ds : List D} {i : Int} {Q : D → Prop} {d : D} (j : Nat) (e : i = (j : Int)) (h : ds[j]? = some d) (q : Q d) : IxP (atI ds i) Q := ⟨d, atI_of j e h, q⟩
theorem ixs_ok {z : Str} {i : Int} {Q : D → Prop} {c : Nat} (hz : z.length ≤ sizeLine) (e : atI z.cps.toList i = some c) (q : Q (.str ⟨#[c]⟩)) : IxS z i Q := ⟨hz, c, e, q⟩

section
variable {C : Cf} {cat : Cat} {ts us : TS} {a b : DSt}
theorem simE_cut (ha : SimS C cat ts a) (hb : SimE C cat us b) : SimE C cat (tSeq ts us) (dCut a b) :=
  ⟨fun H0 S0 Hs σ H s E D' r ⟨Mid, q, h⟩ k1 k2 k3 k4 k5 => ha.run H0 S0 Hs σ H s _ _ r q ⟨fun Hs σ H s r q => hb.run H0 S0 Hs σ H s E D' r (h s q) k1 k2 k3 k4 k5, fun Hs σ H s v d r rv q => k2 C.M Hs σ H s v d r rv q, k3, k4, fun Hs σ H s r q => k5 C.M Hs σ H s r q⟩⟩
end

/-! ### plain lists -/
theorem cutD_to (ds : List D) (j : Nat) : cutD ds none (some (j : Int)) = ds.take j := by
  unfold cutD
  rw [HT.sIx_none, HT.sIx_nat, List.drop_zero, Nat.sub_zero]
  rcases Nat.le_total j ds.length with h | h
  · rw [Nat.min_eq_left h]
  · rw [Nat.min_eq_right h, List.take_of_length_le (Nat.le_refl _), List.take_of_length_le h]
theorem cutD_from (ds : List D) (j : Nat) (h : j ≤ ds.length) : cutD ds (some (j : Int)) none = ds.drop j := by
  unfold cutD
  rw [HT.sIx_none, HT.sIx_nat, Nat.min_eq_left h]
  exact List.take_of_length_le (by rw [List.length_drop]; omega)
theorem prD_get {xs ys : List D} {i : Nat} {d : D} (h : (prD xs ys)[i]? = some d) : ∃ x y, xs[i]? = some x ∧ ys[i]? = some y ∧ d = .tuple [x, y] := by
  unfold prD at h
  rw [List.getElem?_map] at h
  cases e : (xs.zip ys)[i]? with
  | none => rw [e] at h; cases h
  | some p =>
    rw [e] at h
    obtain ⟨x, y⟩ := p
    obtain ⟨h1, h2⟩ := List.getElem?_zip_eq_some.mp e
    exact ⟨x, y, h1, h2, (Option.some.inj h).symm⟩
/-- data without dicts, of so many floors -/
def dat : Nat → D → Prop
  | _, .none => True
  | _, .bool _ => True
  | _, .int _ => True
  | _, .str _ => True
  | k + 1, .list ds => ds.length ≤ sizeLine ∧ ∀ d ∈ ds, dat k d
  | k + 1, .tuple ds => ds.length ≤ sizeLine ∧ ∀ d ∈ ds, dat k d
  | _, _ => False
def sameF : Nat → DF
  | 0 => fun _ _ => False
  | k + 1 => fun ds Q => match ds with
    | [a, b] => a = b ∧ dat k a ∧ Q (.bool true)
    | _ => False
theorem nin_true {n : Nat} {Q : D → Prop} (q : Q (.bool true)) : inD true (.bool false) (.list (List.replicate n (.bool true))) Q := by
  refine .inl ⟨rfl, ?_, ?_⟩
  · rw [List.all_eq_true]
    intro x hx
    rw [List.eq_of_mem_replicate hx]
    rfl
  · have : ((List.replicate n (PyData.bool true)).any fun z => eqF z (.bool false)) = false := by
      rw [List.any_eq_false]
      intro x hx
      rw [List.eq_of_mem_replicate hx]
      decide
    rw [this]
    exact q

/-! ### sum of a tuple, tuple * 0 and * 1, a display of texts indexed at once -/
section
variable {prog : Program} {w : World} {A : Around} {E : Value → Shared → Prop} {s : Shared} {l : Addr}
theorem sum_rawT {its : List Value} {ns : List Int} {Q : Value → Shared → Prop} (hh : A.handled = none) (hl : s.heap.IsTuple l its.toArray) (hi : IntsAre its ns)
    (h : ∀ h' tk t', (∀ b o, s.heap.get? b = some o → h'.get? b = some o) → Q (.int ns.sum t') { s with heap := h', toks := tk }) : wpAny (model prog w) A (call (.builtin "sum") [.ref l]) Q E s := by
  obtain ⟨xs, e⟩ := hi.allInts.items
  have hn : numsOf (intItems xs).toList = ns := by rw [← e]; exact hi.numsOf
  rw [nums_intItems] at hn
  rw [e] at hl
  have hlt : l < s.heap.objs.size := by obtain ⟨_, e, _⟩ := hl; exact Heap.lt_size e
  refine PySem.call_sum_walkG (wpAny_pyIter_tuple hl ⟨_, _, _, _, _, _, numAt xs, rfl, Walks.tuple (A := A.in1) hh _ l (Nat.ne_of_lt hlt) (intItems xs), ⟨⟨_, Heap.get?_push_size _ rfl, rfl, rfl⟩, hl.push _⟩, fun b hb => ?_, (fun _ _ => intItems_at), fun h' tk t' hk => ?_⟩)
  · show b < (s.heap.push _).objs.size
    rw [Heap.size_push]
    rcases List.mem_cons.mp hb with rfl | hb
    · exact Nat.lt_succ_self _
    · rcases List.mem_cons.mp hb with rfl | hb
      · exact Nat.lt_succ_of_lt hlt
      · cases hb
  · have hk' : ∀ b o, s.heap.get? b = some o → h'.get? b = some o := fun b o e => hk b o (fun hb => absurd (Heap.lt_size e) ((List.mem_singleton.mp hb) ▸ Nat.lt_irrefl _)) (Heap.get?_push_of_some _ e)
    have := h h' tk t' hk'
    have e2 : preSum (numAt xs) (intItems xs).size = ns.sum := by
      rw [preSum_eq, List.take_of_length_le (by simp [intItems]), hn]
    rw [e2]
    exact this
end
def rSumT (K : PySem.W.Frag) : List V → Hp → VK → Prop := fun vs H Q => ∃ (a : Addr) (ns : List Int), vs = [V.ref a] ∧ SqT K H a (ns.map V.int) ∧ Q (.int ns.sum) H
def rSumG (K : PySem.W.Frag) : List V → Hp → VK → Prop := fun xs H Q => rSum K xs H Q ∨ rSumT K xs H Q
theorem sumG {X : Cx} (K : PySem.W.Frag) (eK : X.K = K) (hc : X.calm = true) : CallR X (.builtin "sum") (rSumG K) := by
  subst eK
  refine CallR.or (cr_sum hc) ?_
  intro pins s σ H vs us Q I r h
  obtain ⟨a, ns, rfl, hs, q⟩ := h
  obtain ⟨its, rv, hl, _⟩ := I.tuple hs
  rw [Vals.ref1 r]
  exact sum_rawT (I.ok.hd hc) hl rv.ints fun h' tk t' hk => ⟨.int _, H, I.kept hk, ⟨_, rfl⟩, q⟩
def sumGD : DF := fun ds Q => match ds with
  | [d] => (match d with
    | .list xs => ∃ ns, intsOf xs = some ns ∧ Q (.int ns.sum)
    | .tuple xs => ∃ ns, intsOf xs = some ns ∧ Q (.int ns.sum)
    | _ => False)
  | _ => False
theorem caA_sumG {C : Cf} : CaA C (rSumG C.K) sumGD := by
  intro H0 S0 Hs σ H s vs ds Q Q' r hd q k
  match vs, ds, hd with
  | [v], [d], ⟨h, _⟩ =>
    cases d <;> first | exact q.elim | skip
    case list xs =>
      obtain ⟨a, ys, rfl, e1, e2⟩ := Rd'.list h
      obtain ⟨ns, e3, q⟩ := q
      rw [ints_rp e2 e3] at e1
      exact .inl ⟨a, ns, rfl, SqL.of e1, k Hs H _ (.int _) Go.refl r (Val.mkP (Rp.int _) rfl) q⟩
    case tuple xs =>
      cases h with
      | @tup a ys _ e1 e2 =>
      obtain ⟨ns, e3, q⟩ := q
      rw [ints_rp e2 e3] at e1
      exact .inr ⟨a, ns, rfl, Same.sqT r.sub e1.sq, k Hs H _ (.int _) Go.refl r (Val.mkP (Rp.int _) rfl) q⟩
  | [], [], _ => exact q.elim
  | _ :: _ :: _, _ :: _ :: _, _ => exact q.elim
/-! tuple * 0, tuple * 1 -/
theorem tuple_mul1 (l : Addr) (items : Array Value) (n : Nat) (dd : Option Addr) (sl : Array (Option Value)) (x : Int) (u : Tok) (c0 : (decide (x < -(2 ^ 63)) || decide (x ≥ 2 ^ 63)) = false) (c1 : (items.isEmpty || x == 1) = true) :
    Meets (Builtin.«tuple.__mul__» ⟨[.ref l, .int x u], []⟩) (fun _ R s => s.heap.get? l = some { cls := .type "tuple", dict := dd, data := .seq items n, slots := sl } ∧ R (.ok (.ret (Value.ref l))) s) :=
  .of_wp fun prog w A R s h => by
    obtain ⟨hp, g, d, tk, os⟩ := s
    obtain ⟨hl, h⟩ := h
    have f1 := AutoSeq1.idx_int
    wp_walk using wpAny_loadPart' hl
    repeat (first
      | (refine wpAny_ite_false (decide_eq_false (by rw [c0]; exact Bool.false_ne_true)) ?_; wp_walk using wpAny_loadPart' hl)
      | (refine wpAny_ite_true (decide_eq_true c1) ?_; wp_walk using wpAny_loadPart' hl))
    exact ⟨_, rfl, h⟩
theorem tuple_mul0 (l : Addr) (items : Array Value) (n : Nat) (dd : Option Addr) (sl : Array (Option Value)) (x : Int) (u : Tok) (c0 : (decide (x < -(2 ^ 63)) || decide (x ≥ 2 ^ 63)) = false) (c1 : (items.isEmpty || x == 1) = false) (c2 : (decide (x ≤ 0) || items.isEmpty) = true) :
    Meets (Builtin.«tuple.__mul__» ⟨[.ref l, .int x u], []⟩) (fun _ R s => s.heap.get? l = some { cls := .type "tuple", dict := dd, data := .seq items n, slots := sl } ∧
      R (.ok (.ret (Value.ref s.heap.objs.size))) { s with heap := s.heap.push { cls := Value.type "tuple", data := Data.seq #[] }, toks := s.toks }) :=
  .of_wp fun prog w A R s h => by
    obtain ⟨hp, g, d, tk, os⟩ := s
    obtain ⟨hl, h⟩ := h
    have f1 := AutoSeq1.idx_int
    wp_walk using wpAny_loadPart' hl
    repeat (first
      | (refine wpAny_ite_false (decide_eq_false (by rw [c0]; exact Bool.false_ne_true)) ?_; wp_walk using wpAny_loadPart' hl)
      | (refine wpAny_ite_false (decide_eq_false (by rw [c1]; exact Bool.false_ne_true)) ?_; wp_walk using wpAny_loadPart' hl)
      | (refine wpAny_ite_true (decide_eq_true c2) ?_; wp_walk using wpAny_loadPart' hl))
    exact ⟨_, rfl, h⟩
def rRep01 (K : PySem.W.Frag) : R2 := fun x y H Q => ∃ l k xs, x = .ref l ∧ y = .int k ∧ SqT K H l xs ∧ 0 ≤ k ∧ k ≤ 1 ∧ (k = 1 ∨ xs = [] → Q (.ref l) H) ∧ (k = 0 → xs ≠ [] → ∀ p o, H p = none → o.dict = none → Q (.ref p) (L2.upd H p (.frz o (.tup []))))
theorem op_rep01 {X : Cx} (K : PySem.W.Frag) (eK : X.K = K) : OpR X (binaryOp .Mult) (rRep01 K) := by
  subst eK
  intro pins s σ H x y v u Q I rx ry h
  obtain ⟨l, k, xs, rfl, rfl, hT, h1, h2, q1, q0⟩ := h
  cases rx
  obtain ⟨t, rfl⟩ := ry
  obtain ⟨its, r, ⟨⟨cls, dd, data, sl⟩, ho, hc, n, hd⟩, hs⟩ := I.tuple hT
  simp only at hc hd
  subst hc hd
  have hle : its.length = xs.length := r.length.symm
  have c0 : (decide (k < -(2 ^ 63)) || decide (k ≥ 2 ^ 63)) = false := by
    rw [decide_eq_false (by omega), decide_eq_false (by omega)] <;> rfl
  by_cases hk : k = 1 ∨ xs = []
  · have c1 : (its.toArray.isEmpty || k == 1) = true := by
      rcases hk with rfl | hk
      · simp
      · rw [hk] at hle
        rw [List.eq_nil_of_length_eq_zero hle]
        rfl
    refine wpAny_binaryOp_repeat_ref (T := "tuple") (U := "int") (by decide) ⟨_, ho, rfl⟩ (fun s' => typeIs_int s' k t) noFill_tuple_mul F.fills_int_mul F.slot_int_rmul repeat_tuple F.slot_int_index.lookup
      (call_meets F.slot_int_rmul (typeIs_int s k t) F.entry_int_rmul (F.args_int_rmul_2 _ _) (int_rmul_tuple k t l its.toArray n dd sl)
        ⟨ho, rfl, ⟨_, ho, rfl⟩, call_meets F.slot_tuple_mul ⟨_, ho, rfl⟩ F.entry_tuple_mul (F.args_tuple_mul_2 _ _) (tuple_mul1 l its.toArray n dd sl k t c0 c1) ⟨ho, ?_⟩⟩)
    exact ⟨.ref l, H, I, rfl, q1 hk⟩
  · have hn : its ≠ [] := fun e => hk (.inr (by rw [e] at hle; exact List.eq_nil_of_length_eq_zero hle.symm))
    have hi : its.toArray.isEmpty = false := by
      cases its with
      | nil => exact absurd rfl hn
      | cons a b => rfl
    have k0 : k = 0 := by
      have : ¬ k = 1 := fun e => hk (.inl e)
      omega
    subst k0
    have c1 : (its.toArray.isEmpty || (0 : Int) == 1) = false := by rw [hi]; rfl
    have c2 : (decide ((0 : Int) ≤ 0) || its.toArray.isEmpty) = true := by rw [hi]; rfl
    refine wpAny_binaryOp_repeat_ref (T := "tuple") (U := "int") (by decide) ⟨_, ho, rfl⟩ (fun s' => typeIs_int s' 0 t) noFill_tuple_mul F.fills_int_mul F.slot_int_rmul repeat_tuple F.slot_int_index.lookup
      (call_meets F.slot_int_rmul (typeIs_int s 0 t) F.entry_int_rmul (F.args_int_rmul_2 _ _) (int_rmul_tuple 0 t l its.toArray n dd sl)
        ⟨ho, rfl, ⟨_, ho, rfl⟩, call_meets F.slot_tuple_mul ⟨_, ho, rfl⟩ F.entry_tuple_mul (F.args_tuple_mul_2 _ _) (tuple_mul0 l its.toArray n dd sl 0 t c0 c1 c2) ⟨ho, ?_⟩⟩)
    obtain ⟨I2, hf⟩ := frz_new I (xs := []) (its := []) .nil (by decide) (h' := s.heap.push (tupObj [])) (fun b o e => Heap.get?_push_of_some _ e) (Nat.le_refl _) (Heap.get?_push_size _ rfl) (t := s.toks)
    exact ⟨.ref s.heap.objs.size, _, I2, rfl, q0 rfl (fun e => hk (.inr e)) _ _ hf rfl⟩
def rep01D : DO := fun x y Q => match x, y with
  | .tuple a, .int k => (k = 1 ∧ Q (.tuple a)) ∨ (k = 0 ∧ Q (.tuple []))
  | _, _ => False
theorem opA_rep01 {C : Cf} : OpA C (rRep01 C.K) rep01D := by
  intro H0 S0 Hs σ H s x y dx dy Q Q' r hx hy q k
  cases dx <;> cases dy <;> first | exact q.elim | skip
  case tuple.int ds n =>
    cases hx with
    | @tup a xs _ h1 h2 =>
    cases hy
    rcases q with ⟨rfl, q⟩ | ⟨rfl, q⟩
    · exact ⟨a, 1, xs, rfl, rfl, Same.sqT r.sub h1.sq, by decide, by decide, fun _ => k Hs H _ (.tuple ds) Go.refl r (Val.mkP (Rp.tup h1 h2) rfl) q, fun e => absurd e (by decide)⟩
    · refine ⟨a, 0, xs, rfl, rfl, Same.sqT r.sub h1.sq, by decide, by decide, fun e => ?_, fun _ _ p o np hd => ?_⟩
      · have e : xs = [] := e.resolve_left (by decide)
        subst e
        cases h2
        exact k Hs H _ (.tuple []) Go.refl r (Val.mkP (Rp.tup h1 .nil) rfl) q
      · obtain ⟨r', g'⟩ := r.newTup (o := .frz o (.tup [])) np
        exact k _ _ _ (.tuple []) g' r' (Val.mkP (Rp.tup (TqT.of upd_same hd) .nil) rfl) q
/-! {"a": x, "b": y}[z] -/
section
variable {C : Cf} {t1 t2 tb : TE} {d1 d2 db : DT} {c1 c2 cb : Cat}
def dSel2 (k1 k2 : Str) (d1 d2 db : DT) : DT := fun s Q => d1 s fun x s1 => d2 s1 fun y s2 => db s2 fun z s3 => (z = .str k1 ∧ Q x s3) ∨ (z = .str k2 ∧ Q y s3)
theorem sim_dsel2 {k1 k2 : Str} (hk : k1 ≠ k2) (h1 : Sim C c1 t1 d1) (h2 : Sim C c2 t2 d2) (hb : Sim C cb tb db) : Sim C .E (tOp rIxDk (tDisp [(tC (.str k1), t1), (tC (.str k2), t2)]) tb) (dSel2 k1 k2 d1 d2 db) := by
  refine ⟨fun H0 S0 Hs σ H s Q Q' r q k => fun p np => ?_⟩
  obtain ⟨f0, f1, f2, f3⟩ := r.free0 np
  have r0 := r.laid (o := .dK []) np
  have g0 : Go C σ Hs H Hs (upd H p (.dK [])) := Go.laid np
  refine h1.toE.run H0 S0 Hs σ _ s _ _ r0 q fun Hs1 H1 x dx s1 g1 r1 v1 q1 => ?_
  have p1 : H1 p = some (.dK []) := g1.kp p _ upd_same f2 f3
  have n1 : Hs1 p = none := none_of_new g1.nw f1 upd_same
  refine h2.toE.run H0 S0 Hs1 σ H1 s1 _ _ r1 q1 fun Hs2 H2 y dy s2 g2 r2 v2 q2 => ?_
  have p2 : H2 p = some (.dK []) := g2.kp p _ p1 f2 f3
  have n2 : Hs2 p = none := none_of_new g2.nw n1 p1
  refine ⟨p2, [(.inr k1, x), (.inr k2, y)], rfl, by simp, ?_⟩
  have em : mergeK [] [((.inr k1 : Key), x), (.inr k2, y)] = [(.inr k1, x), (.inr k2, y)] := by
    have : ¬ ((Sum.inr k1 : Key) = .inr k2) := fun e => hk (by cases e; rfl)
    simp [mergeK, putK, this]
  rw [em]
  have r3 := r2.updF (o := .dK [(.inr k1, x), (.inr k2, y)]) n2 f0 f2
  have g3 : Go C σ Hs H Hs2 (upd H2 p (.dK [(.inr k1, x), (.inr k2, y)])) := (g0.trans (g1.trans g2)).updF np
  refine hb.toE.run H0 S0 Hs2 σ _ s2 _ _ r3 q2 fun Hs3 H3 z dz s3 g4 r4 v4 q4 => ?_
  have p3 : H3 p = some (.dK [(.inr k1, x), (.inr k2, y)]) := g4.kp p _ upd_same f2 f3
  have v1' : Rp C.K Hs3 x dx := Rp.mono (g2.st.trans g4.st) v1
  have v2' : Rp C.K Hs3 y dy := Rp.mono g4.st v2
  have v4' : Rp C.K Hs3 z dz := v4
  rcases q4 with ⟨rfl, q4⟩ | ⟨rfl, q4⟩
  · cases v4'
    refine ⟨p, _, .inr k1, x, rfl, rfl, .inl p3, ?_, k Hs3 H3 x dx s3 (g3.trans g4) r4 v1' q4⟩
    simp [valV]
  · cases v4'
    refine ⟨p, _, .inr k2, y, rfl, rfl, .inl p3, ?_, k Hs3 H3 y dy s3 (g3.trans g4) r4 v2' q4⟩
    have : ¬ ((Sum.inr k1 : Key) = .inr k2) := fun e => hk (by cases e; rfl)
    simp [valV, this]
end
/-! str(x) of an int or a text -/
def rStrG : List V → Hp → VK → Prop := fun xs H Q => (∃ i, xs = [.int i] ∧ i.natAbs.log2 < 1920 ∧ Q (.str (toString i)) H) ∨ ∃ a, xs = [.str a] ∧ Q (.str a) H
theorem strG {X : Cx} : CallR X (.type "str") rStrG := CallR.or call_str_int SkE.call_str_str
def strGD : DF := fun ds Q => match ds with
  | [d] => (match d with
    | .int i => i.natAbs.log2 < 1920 ∧ Q (.str (toString i))
    | .str a => Q (.str a)
    | _ => False)
  | _ => False
theorem caA_strG {C : Cf} : CaA C rStrG strGD := by
  intro H0 S0 Hs σ H s vs ds Q Q' r hd q k
  match vs, ds, hd with
  | [v], [d], ⟨h, _⟩ =>
    cases d <;> first | exact q.elim | skip
    case int i =>
      cases h
      exact .inl ⟨_, rfl, q.1, k Hs H _ (.str _) Go.refl r (Val.mkP (Rp.str _) rfl) q.2⟩
    case str a =>
      cases h
      exact .inr ⟨_, rfl, k Hs H _ (.str _) Go.refl r (Val.mkP (Rp.str _) rfl) q⟩
  | [], [], _ => exact q.elim
  | _ :: _ :: _, _ :: _ :: _, _ => exact q.elim


/-! ### enumerate of a text -/
def Ites (x : Str) : It := ⟨fun i _ => i < x.cps.size, fun i H v H' => ∃ T c, v = .ref T ∧ H T = none ∧ H' = L2.upd H T (.tup [.int (i : Nat), .str ⟨#[c]⟩]) ∧ x.cps[i]? = some c, fun i _ => x.cps.size ≤ i⟩
theorem turn_enumS {P : Program} {w : World} {K : PySem.W.Frag} {elts : List Expr} {kk : Nat} {tpos : Pos} (e it : Addr) (x : Str) (t : Tok) (ty : String) (hty : ty = "str_ascii_iterator" ∨ ty = "str_iterator") :
    Turn P w K (.Tuple elts kk tpos) (Ites x) [e, it] e (fun i h => ((∃ old, IsEnum h e it ((i : Nat) : Int) old) ∧ h.IsStrIter it ty x t i ∧ e ≠ it) ∧ i ≤ x.cps.size) where
  mem := by simp
  obj := fun i h st b hb => by
    obtain ⟨⟨⟨old, he⟩, ⟨o, ho, hc, hd⟩, _⟩, _⟩ := st
    have e' : b = e ∨ b = it := by simpa using hb
    rcases e' with z | z
    · rw [z]; exact ⟨_, he, fun v q => nomatch q⟩
    · rw [z]; exact ⟨o, ho, fun v q => by rw [hd] at q; cases q⟩
  keep := fun i h h' st k => let ⟨⟨⟨old, he⟩, ⟨o, ho, r⟩, hne⟩, hl⟩ := st; ⟨⟨⟨old, k e (by simp) _ he⟩, ⟨o, k it (by simp) o ho, r⟩, hne⟩, hl⟩
  item := by
    intro X hP hw hK hc i pins s σ H E I hf st hg
    subst hP hw hK
    obtain ⟨⟨⟨old, he⟩, hit, hne⟩, _⟩ := st
    have hel : e < s.heap.objs.size := Heap.lt_size he
    have hil : it < s.heap.objs.size := by obtain ⟨_, q, _⟩ := hit; exact Heap.lt_size q
    have D : Draws X.prog X.w X.A.in1 it [it] x.cps.size (fun i v => ∃ c u, x.cps[i]? = some c ∧ v = .str ⟨#[c]⟩ u) (fun i h => h.IsStrIter it ty x t i) := by
      have hh : X.A.in1.handled = none := I.ok.hd hc
      rcases hty with z | z
      · rw [z]; exact Draws.strAscii hh it x t
      · rw [z]; exact Draws.strWide hh it x t
    refine wpAny_pyNext_enum_itemD D he hit hg hne (by simpa using hne) fun v h' tk hv ho hit' hT hsz hk => ?_
    obtain ⟨c, u, hc', rfl⟩ := hv
    refine ⟨_, rfl, wpAny_letOwnedTupleGo_enum (s := { s with heap := h', toks := tk + 1 }) ho fun h'' he' sb => ?_⟩
    have hT2 : h''.get? s.heap.objs.size = some { cls := .type "tuple", data := .seq #[.int i tk, .str ⟨#[c]⟩ u] } := (sb.2 _ (Nat.ne_of_gt hel)).trans hT
    have new : ObjOk X.prog X.w (L2.upd H s.heap.objs.size (.tup [.int (i : Nat), .str ⟨#[c]⟩])) h'' s.heap.objs.size (.tup [.int (i : Nat), .str ⟨#[c]⟩]) :=
      ⟨by show 2 ≤ sizeLine; decide, [.int i tk, .str ⟨#[c]⟩ u], .cons ⟨_, rfl⟩ (.cons ⟨_, rfl⟩ .nil), ⟨_, hT2, rfl, _, rfl⟩⟩
    have I1 : Inv X pins σ (L2.upd H s.heap.objs.size (.tup [.int (i : Nat), .str ⟨#[c]⟩])) { s with heap := h'', toks := tk + 1 } :=
      I.turnedNew (ch := [e, it]) (fun b ob hb q => (sb.2 b (fun z => hb (by simp [z]))).trans (hk b ob (fun z => hb (by simp [z])) (fun z => hb (by simp [z])) q)) hf (Nat.le_refl _) new
    have hg' : i < x.cps.size := hg
    refine ⟨.ref s.heap.objs.size, _, I1, rfl, ⟨_, c, rfl, I.hok.fresh (Nat.le_refl _), rfl, hc'⟩, ⟨⟨⟨.str ⟨#[c]⟩ u, ?_⟩, (let ⟨o, ho, r⟩ := hit'; ⟨o, (sb.2 it (Ne.symm hne)).trans ho, r⟩), hne⟩, hg'⟩, fun b hb => ?_⟩
    · have e1 : ((i + 1 : Nat) : Int) = (i : Int) + 1 := by omega
      rw [e1]; exact he'
    · have hb' : b < s.heap.objs.size := by
        have e' : b = e ∨ b = it := by simpa using hb
        rcases e' with z | z
        · rw [z]; exact hel
        · rw [z]; exact hil
      rw [upd_ne (Nat.ne_of_lt hb')]
      exact (hf b hb).1
  done := by
    intro X hP hw hK hc i pins s σ H E I hf st hg
    subst hP hw hK
    obtain ⟨⟨⟨old, he⟩, hit, hne⟩, hl⟩ := st
    have hg : x.cps.size ≤ i := hg
    have ei : i = x.cps.size := by omega
    subst ei
    have D : Draws X.prog X.w X.A.in1 it [it] x.cps.size (fun i v => ∃ c u, x.cps[i]? = some c ∧ v = .str ⟨#[c]⟩ u) (fun i h => h.IsStrIter it ty x t i) := by
      have hh : X.A.in1.handled = none := I.ok.hd hc
      rcases hty with z | z
      · rw [z]; exact Draws.strAscii hh it x t
      · rw [z]; exact Draws.strWide hh it x t
    obtain ⟨f0, f1, f2, f3, f4, f5⟩ := hf it (by simp)
    exact wpAny_pyNext_enum_endD D he hit fun h' eb => ⟨rfl, I.turned (t' := s.toks) (fun b o hb q => eb b o hb q) f0 f1 f3 f4 f5⟩
  self := fun A i s Q E st h => let ⟨⟨⟨_, he⟩, _⟩, _⟩ := st; wpAny_pyIter_enum he h
def iEnumS (ta : TA) : TI := fun σ H R => ta σ H fun vs H1 => ∃ x, vs = [.str x] ∧ R (Ites x) H1
theorem pi_enumS {X : Cx} {e : Expr} {ta : TA} {p pos tpos : Pos} {elts : List Expr} {kk : Nat} (hg : Gl X "enumerate") (hm : X.mg "enumerate" = none) (ha : PA X [e] ta) (hs : starEach [e] X.env = [(false, eval e X.env)] := by rfl) :
    PI X (.Tuple elts kk tpos) (.Call (.Name "enumerate" p) [e] [] pos) (iEnumS ta) := by
  refine ⟨fun pins s σ H R I h => ?_⟩
  refine Call_ (ld_blt I hg hm boot_enumerate (PyProof.Rows.callWith_type1 (thn (ha.run pos pins s σ H _ I h) fun us s1 ⟨vs, H1, I1, r1, q1⟩ => ?_) hs rfl))
  obtain ⟨x, ex, q⟩ := q1
  subst ex
  cases r1 with
  | cons r rr =>
    cases rr
    obtain ⟨t, rfl⟩ := r
    refine call_enumerate_str fun h' he hit hsz hk => wpAny_pyIter_enum he ?_
    have I2 : Inv X pins σ H1 { s1 with heap := h' } := I1.kept (t' := s1.toks) hk
    have hty : strIterType x = "str_ascii_iterator" ∨ strIterType x = "str_iterator" := by unfold strIterType; split <;> simp
    refine ⟨s1.heap.objs.size + 1, [s1.heap.objs.size + 1, s1.heap.objs.size], _, _, H1, rfl, I2, turn_enumS (s1.heap.objs.size + 1) s1.heap.objs.size x t _ hty, ⟨⟨⟨.none, he⟩, hit, Nat.succ_ne_self _⟩, Nat.zero_le _⟩, fun b hb => ?_, q⟩
    have e' : b = s1.heap.objs.size + 1 ∨ b = s1.heap.objs.size := by simpa using hb
    have hle : s1.heap.objs.size ≤ b := by
      rcases e' with z | z
      · rw [z]; exact Nat.le_add_right _ _
      · rw [z]; exact Nat.le_refl _
    exact I1.fpOk hle (I1.hok.fresh hle)
theorem walk_enumS {z : Str} : Walk (Ites z) z.cps.size (fun _ => True) (fun i H v H' => ∃ T c, v = .ref T ∧ H T = none ∧ H' = L2.upd H T (.tup [.int (i : Nat), .str ⟨#[c]⟩]) ∧ z.cps[i]? = some c) :=
  ⟨fun _ _ hi _ => hi, fun _ _ => Nat.le_refl _, fun _ _ _ _ _ _ y => y⟩
def dEnumS (a : DT) : DI := fun s Q => a s fun d s1 => match d with
  | .str z => Q (prD (rgD 0 (signs z).length) (signs z)) s1
  | _ => False
section
variable {C : Cf} {ca : Cat} {te : TE} {t : DT}
theorem simI_enumS (h : Sim C ca te t) : SimI C true (iEnumS (tCons te tNil)) (dEnumS t) := by
  refine ⟨fun H0 S0 Hs σ H s Q Q' r q k => h.toE.run H0 S0 Hs σ H s _ _ r q fun Hs1 H1 v d s1 g1 r1 v1 q1 => ?_⟩
  cases d <;> first | exact q1.elim | skip
  rename_i z
  cases v1
  refine ⟨z, rfl, k Hs1 H1 _ _ s1 g1 r1 ?_ q1⟩
  have hl : (signs z).length = z.cps.size := by unfold signs; rw [List.length_map, Array.length_toList]
  refine ⟨_, _, by rw [enum_len, hl]; exact walk_enumS, fun H e => True.intro, fun i H v H2 H0 S0 Hs σ s hi r e y => ?_⟩
  obtain ⟨T, c, rfl, nT, rfl, e1⟩ := y
  obtain ⟨Hs2, r2, rp, g⟩ := pair_it r nT (Rp.int ((i : Nat) : Int)) (Rp.str ⟨#[c]⟩)
  refine ⟨Hs2, _, enum_get ?_, r2, rp, g⟩
  unfold signs
  rw [List.getElem?_map, Array.getElem?_toList, e1]
  rfl
end
/-! ### a text so often -/
def repS (x : Str) (n : Nat) : Str := ⟨(List.replicate n x.cps.toList).flatten.toArray⟩
def rRepS : R2 := fun x y H Q => ∃ z n, x = .str z ∧ y = .int n ∧ 0 ≤ n ∧ n < 2 ^ 62 ∧ z.length * n.toNat ≤ sizeLine ∧ Q (.str (repS z n.toNat)) H
theorem fold_app (x : Array Nat) : ∀ (n : Nat) (acc : Array Nat), (List.replicate n x).foldl (· ++ ·) acc = acc ++ (List.replicate n x.toList).flatten.toArray
  | 0, acc => by simp
  | n + 1, acc => by
    rw [List.replicate_succ, List.foldl_cons, fold_app x n]
    rw [List.replicate_succ, List.flatten_cons, Array.append_assoc]
    congr 1
    apply Array.ext'
    simp
theorem repS_len (x : Str) (n : Nat) : (repS x n).length = x.length * n := by
  unfold repS
  show (List.replicate n x.cps.toList).flatten.toArray.size = x.cps.size * n
  simp [Nat.mul_comm]
theorem op_repS {X : Cx} : OpR X (binaryOp .Mult) rRepS := by
  intro pins s σ H x y v u Q I rx ry h
  obtain ⟨z, n, rfl, rfl, h1, h2, hz, q⟩ := h
  obtain ⟨t, rfl⟩ := rx
  obtain ⟨t', rfl⟩ := ry
  by_cases h0 : n < 1
  · have e0 : n = 0 := by omega
    subst e0
    refine P.mul_str_none h0 (by decide) ?_
    have ee : repS z (0 : Int).toNat = Str.empty := by unfold repS; rfl
    rw [ee] at q
    exact ⟨.str Str.empty, H, I.tok _, ⟨_, rfl⟩, q⟩
  have hn1 : 1 ≤ n.toNat := by omega
  have hlong : Builtin.Str.tooLong (z.length * n.toNat) = false := by
    unfold Builtin.Str.tooLong
    exact decide_eq_false (by omega)
  refine P.mul_str ?_ (fun _ _ => ?_) (fun _ _ => hlong) ?_
  · rw [decide_eq_false (by omega), decide_eq_false (by omega)]; rfl
  · have hz' : (z.length : Int) * n ≤ sizeLine := by
      have e : n = ((n.toNat : Nat) : Int) := by omega
      rw [e]
      exact_mod_cast hz
    have hsz : (sizeLine : Int) ≤ 2 ^ 63 - 1 := by decide
    intro hgt
    have h3 : (z.length : Int) ≤ (2 ^ 63 - 1) / n := (Int.le_ediv_iff_mul_le (by omega)).mpr (by omega)
    omega
  · rw [if_neg (by omega)]
    have fin : repS z n.toNat = ⟨(List.replicate n.toNat z.cps).foldl (· ++ ·) #[]⟩ := by
      rw [fold_app]; unfold repS; simp
    split
    · rename_i hh
      have ez : repS z n.toNat = z := by
        rcases Bool.or_eq_true_iff.mp hh with h | h
        · have e1 : n = 1 := by simpa using h
          subst e1
          unfold repS
          simp
        · have e0 : z.cps.toList = [] := by
            have : z.length = 0 := by simpa using h
            have : z.cps.size = 0 := this
            exact List.eq_nil_of_length_eq_zero (by rw [Array.length_toList]; exact this)
          obtain ⟨zc⟩ := z
          unfold repS
          dsimp only at e0 ⊢
          rw [e0]
          have : zc = #[] := by apply Array.ext'; exact e0
          rw [this]
          simp
      rw [ez] at q
      exact ⟨.str z, H, I, ⟨_, rfl⟩, q⟩
    · rw [← fin]
      refine ⟨?_, .str (repS z n.toNat), H, I.tok _, ⟨_, rfl⟩, q⟩
      rw [repS_len]; exact hz
def repD : DO := fun x y Q => match x, y with
  | .str z, .int n => 0 ≤ n ∧ n < 2 ^ 62 ∧ z.length * n.toNat ≤ sizeLine ∧ Q (.str (repS z n.toNat))
  | _, _ => False
theorem opA_repS {C : Cf} : OpA C rRepS repD := by
  intro H0 S0 Hs σ H s x y dx dy Q Q' r hx hy q k
  cases dx <;> cases dy <;> first | exact q.elim | skip
  case str.int z n => cases hx; cases hy; exact ⟨z, n, rfl, rfl, q.1, q.2.1, q.2.2.1, k Hs H _ (.str _) Go.refl r (Val.mkP (Rp.str _) rfl) q.2.2.2⟩

/-! ### dict(t), t a tuple of pairs -/
section
variable {X : Cx} {pins : List (Addr × Obj)} {σ : L2.St} {H : Hp} {s : Shared}
theorem pairs_at (I : Inv X pins σ H s) : ∀ {ps : List Addr} {kvs : List (Key × V)}, Paired (fun p kv => SqT X.K H p [kV kv.1, kv.2]) ps kvs →
    ∃ (prs : List (Key × Value)) (pvs : List (Value × Value)), KV kvs prs ∧ prs.length = ps.length ∧ pvs.length = ps.length ∧
      ∀ (j : Nat) (k v : Value), pvs[j]? = some (k, v) → ∃ (b : Addr) (q : Key), ps[j]? = some b ∧ IsTup s.heap b #[k, v] ∧ prs[j]? = some (q, v) ∧ L2.keyIs q k = true
  | _, _, .nil => ⟨[], [], .nil, rfl, rfl, fun j k v e => by simp at e⟩
  | _, _, .cons (a := p) (b := kv) h t => by
    obtain ⟨prs, pvs, r, l1, l2, hp⟩ := pairs_at I t
    obtain ⟨its, rv, ht, _⟩ := I.tuple h
    obtain ⟨u, y, ei, ru, ry⟩ := vals2 rv
    subst ei
    refine ⟨(kv.1, y) :: prs, (u, y) :: pvs, .cons ⟨rfl, ry⟩ r, by rw [List.length_cons, List.length_cons, l1], by rw [List.length_cons, List.length_cons, l2], fun j k v e => ?_⟩
    cases j with
    | zero =>
      have e' : (u, y) = (k, v) := Option.some.inj e
      cases e'
      exact ⟨p, kv.1, rfl, ht, rfl, kV_is (P := X.prog) (w := X.w) ru⟩
    | succ j =>
      obtain ⟨b, q, e1, e2, e3, e4⟩ := hp j k v (by simpa using e)
      exact ⟨b, q, by simpa using e1, e2, by simpa using e3, e4⟩
end
theorem call_dictZ {X : Cx} (hcalm : X.calm = true) : CallR X (.type "dict") (fun xs H Q => ∃ (a : Addr) (ps : List Addr) (kvs : List (Key × V)), xs = [.ref a] ∧ TqT X.K H a (ps.map V.ref) ∧ Paired (fun p kv => SqT X.K H p [kV kv.1, kv.2]) ps kvs ∧
    ∀ p, H p = none → Q (.ref p) (L2.upd H p (.dK (mergeK [] kvs)))) := by
  intro pins s σ H xs us Q I r q
  obtain ⟨a, ps, kvs, rfl, hq, hp, q⟩ := q
  obtain ⟨u, rfl, rx⟩ := vals1 r
  cases rx
  obtain ⟨o, its, n, rv, ho, hc, hd, hdat, hz⟩ := hq.obj I
  have ei := refs_at rv
  subst ei
  rw [List.length_map] at hz
  obtain ⟨prs, pvs, rel, l1, l2, hpr⟩ := pairs_at I hp
  have PI : PairItems s.heap (ps.map Value.ref).toArray (fun j => (ps[j]?).getD 0) pvs := by
    refine ⟨by simp [l2], fun j k v e => ?_⟩
    obtain ⟨b, q, e1, e2, _, _⟩ := hpr j k v e
    refine ⟨by simp [e1], .inl ?_⟩
    simp only [e1, Option.getD_some]
    exact e2
  refine PySem.call_dict_pairs (knd := mixKind X.prog X.w) (kvs := prs) (PairArg.tuple a (ps.map Value.ref).toArray (fun j => (ps[j]?).getD 0) pvs) (I.ok.hd hcalm) ⟨⟨o, n, ho, hc, hd, hdat⟩, PI⟩ ⟨by rw [l1, l2], fun i k v e => ?_⟩ (by rw [l2]; exact hz) fun h' tk hd' k => ?_
  · obtain ⟨b, q, e1, e2, e3, e4⟩ := hpr i k v e
    exact ⟨q, e3, e4⟩
  · have hm : (s.heap.objs.size == sysModules) = false := beq_eq_false_iff_ne.mpr (Nat.ne_of_gt I.big)
    have hlen : (mergeK [] kvs).length ≤ sizeLine := by
      refine Nat.le_trans (length_mergeK kvs []) ?_
      rw [List.length_nil, Nat.zero_add, rel.length, l1]
      exact hz
    exact ⟨.ref s.heap.objs.size, L2.upd H s.heap.objs.size (.dK (mergeK [] kvs)), I.laid (t' := tk) (fun b o e => k b o (fun m => nomatch m) e) (Nat.le_refl _) (show ObjOk X.prog X.w _ _ _ (.dK (mergeK [] kvs)) from ⟨hlen, hm, merged [] prs, KV.merge rel .nil, hd'⟩), rfl, q _ (I.hok.fresh (Nat.le_refl _))⟩

/-! ### dicts with texts as keys: display, get with a default -/
theorem lt_u1 {a b : Nat} (h : a + 65 < b) : a + 1 < b := by omega
def findS : List (D × D) → Str → Option D
  | [], _ => none
  | (.str k, d) :: r, x => if k = x then some d else findS r x
  | _ :: r, x => findS r x
structure SimP (C : Cf) (ks : List Str) (trs : List (TE × TE)) (t : DA) : Prop where
  run : ∀ (H0 S0 Hs : Hp) (σ : L2.St) (H : Hp) (s : S) (Q : List D → S → Prop) (Q' : List (V × V) → Hp → Prop), R C H0 S0 Hs σ H s → t s Q →
    (∀ Hs' H' kvs ds s', Go C σ Hs H Hs' H' → R C H0 S0 Hs' σ H' s' → RpKV C.K Hs' kvs ((ks.map PyData.str).zip ds) → kvs.map Prod.fst = ks.map Sum.inr → Q ds s' → Q' (kvs.map fun kv => (kV kv.1, kv.2)) H') → tPairs trs σ H Q'
def dDisp (ks : List Str) (a : DA) : DT := fun s Q => a s fun ds s1 => Q (.dict ((ks.map PyData.str).zip ds)) s1
def dGet2 (a b c : DT) : DT := fun s Q => a s fun d s1 => match d with
  | .dict kvs => b s1 fun k s2 => c s2 fun z s3 => isKey k = true ∧ Q ((findD kvs k).getD z) s3
  | _ => False
def dGet1 (a b : DT) : DT := fun s Q => a s fun d s1 => match d with
  | .dict kvs => b s1 fun k s2 => isKey k = true ∧ Q ((findD kvs k).getD .none) s2
  | _ => False
theorem nodup_inr : ∀ {ks : List Str}, ks.Nodup → (ks.map (Sum.inr : Str → Key)).Nodup
  | [], _ => .nil
  | k :: ks, h => by
    obtain ⟨h1, h2⟩ := List.nodup_cons.mp h
    refine List.nodup_cons.mpr ⟨fun m => ?_, nodup_inr h2⟩
    obtain ⟨y, m, e⟩ := List.mem_map.mp m
    cases e
    exact h1 m
theorem merge_nodup : ∀ (kvs acc : List (Key × V)), (kvs.map Prod.fst).Nodup → (∀ k ∈ kvs.map Prod.fst, k ∉ acc.map Prod.fst) → mergeK acc kvs = acc ++ kvs
  | [], acc, _, _ => by rw [List.append_nil]; rfl
  | (k, v) :: r, acc, h, hd => by
    show mergeK (putK acc k v) r = _
    have hk : k ∉ acc.map Prod.fst := hd k (List.mem_cons_self ..)
    have e : putK acc k v = acc ++ [(k, v)] := by
      unfold putK
      rw [if_neg]
      intro z
      obtain ⟨p, m, e⟩ := List.any_eq_true.mp z
      exact hk (List.mem_map.mpr ⟨p, m, of_decide_eq_true e⟩)
    rw [e, merge_nodup r (acc ++ [(k, v)]) (List.nodup_cons.mp h).2 (fun k' m => ?_), List.append_assoc]
    · rfl
    · rw [List.map_append, List.mem_append]
      rintro (z | z)
      · exact hd k' (List.mem_cons_of_mem _ m) z
      · rw [List.map_cons, List.map_nil, List.mem_singleton] at z
        have z : k' = k := z
        rw [z] at m
        exact (List.nodup_cons.mp h).1 m
theorem find_rp {K : PySem.W.Frag} {H : Hp} {x : Str} : ∀ {kvs : List (Key × V)} {ds : List (D × D)}, RpKV K H kvs ds → (findS ds x = none ∧ valV kvs (.inr x) = none) ∨ ∃ d v, findS ds x = some d ∧ valV kvs (.inr x) = some v ∧ Rp K H v d
  | _, _, .nil => .inl ⟨rfl, rfl⟩
  | _, _, .cons (k := k) (v := v) (d := d) (vs := vs) (ds := ds) a b => by
    cases k with
    | inl i =>
      have e : findS ((keyD (.inl i), d) :: ds) x = findS ds x := rfl
      rw [e, valV_neg (p := (Sum.inl i, v)) (k := Sum.inr x) (fun z => nomatch z)]
      exact find_rp b
    | inr y =>
      by_cases h : y = x
      · subst h
        exact .inr ⟨d, v, if_pos rfl, valV_pos rfl, a⟩
      · have e : findS ((keyD (.inr y), d) :: ds) x = findS ds x := if_neg h
        rw [e, valV_neg (p := (Sum.inr y, v)) (k := Sum.inr x) (fun z => h (by injection z))]
        exact find_rp b
section
variable {C : Cf} {te ta tb tc : TE} {t da db dc : DT} {ca cb cc : Cat}
theorem simP_nil : SimP C [] [] dNil := ⟨fun H0 S0 Hs σ H s Q Q' r q k => k Hs H [] [] s Go.refl r .nil rfl q⟩
theorem simP_cons {ks : List Str} {k : Str} {trs : List (TE × TE)} {dr : DA} (ha : Sim C ca ta da) (hr : SimP C ks trs dr) : SimP C (k :: ks) ((tC (.str k), ta) :: trs) (dCons da dr) := by
  refine ⟨fun H0 S0 Hs σ H s Q Q' r q kk => ha.toE.run H0 S0 Hs σ H s _ _ r q fun Hs1 H1 x dx s1 g1 r1 v1 q1 => hr.run H0 S0 Hs1 σ H1 s1 _ _ r1 q1 fun Hs2 H2 kvs ds s2 g2 r2 v2 l2 q2 => ?_⟩
  exact kk Hs2 H2 ((.inr k, x) :: kvs) (dx :: ds) s2 (g1.trans g2) r2 (.cons (k := .inr k) (Rp.mono g2.st v1) v2) (by rw [List.map_cons, List.map_cons, l2]) q2
theorem sim_disp {ks : List Str} {trs : List (TE × TE)} {a : DA} (hk : ks.Nodup) (hl : ks.length ≤ 15) (h : SimP C ks trs a) : Sim C .F (tDisp trs) (dDisp ks a) := by
  refine ⟨fun H0 S0 Hs σ H s Q Q' r q k => fun p np => ?_⟩
  obtain ⟨f0, f1, f2, f3⟩ := r.free0 np
  have r0 := r.laid (o := .dK []) np
  have g0 : Go C σ Hs H Hs (L2.upd H p (.dK [])) := Go.laid np
  refine h.run H0 S0 Hs σ _ s _ _ r0 q fun Hs1 H1 kvs ds s1 g1 r1 v1 l1 q1 => ?_
  have p1 : H1 p = some (.dK []) := g1.kp p _ upd_same f2 f3
  have n1 : Hs1 p = none := none_of_new g1.nw f1 upd_same
  refine ⟨p1, kvs, rfl, ?_, ?_⟩
  · have := congrArg List.length l1
    rw [List.length_map, List.length_map] at this
    omega
  have em : mergeK [] kvs = kvs := by
    have := merge_nodup kvs [] (by rw [l1]; exact nodup_inr hk) (fun k _ m => nomatch m)
    rw [List.nil_append] at this
    exact this
  rw [em]
  have r2 := r1.updF (o := .dK kvs) n1 f0 f2
  have g2 : Go C σ Hs H Hs1 (L2.upd H1 p (.dK kvs)) := (g0.trans g1).updF np
  exact k Hs1 _ _ (.dict ((ks.map PyData.str).zip ds)) s1 g2 r2 (Val.mkC ⟨_, upd_same, n1, f0, np, .dic v1, f2⟩) q1
theorem sim_dget2 (ha : Sim C ca ta da) (hb : Sim C cb tb db) (hc : Sim C cc tc dc) : Sim C .E (tDGet2 ta tb tc) (dGet2 da db dc) := by
  refine ⟨fun H0 S0 Hs σ H s Q Q' r q k => ha.toE.run H0 S0 Hs σ H s _ _ r q fun Hs1 H1 x dx s1 g1 r1 v1 q1 => ?_⟩
  cases dx <;> first | exact q1.elim | skip
  have v1' : Rp C.K Hs1 x _ := v1
  cases v1' with
  | dic e1 e2 =>
  refine ⟨_, rfl, .inl ⟨_, rd_same r1.sub e1⟩, ?_⟩
  refine hb.toE.run H0 S0 Hs1 σ H1 s1 _ _ r1 q1 fun Hs2 H2 y dy s2 g2 r2 v2 q2 => ?_
  refine hc.toE.run H0 S0 Hs2 σ H2 s2 _ _ r2 q2 fun Hs3 H3 z dz s3 g3 r3 v3 q3 => ?_
  obtain ⟨hk, q3⟩ := q3
  obtain ⟨kx, rfl⟩ := isKey_of hk
  have v2' : Rp C.K Hs2 y (keyD kx) := v2
  obtain rfl := v2'.key
  have e1' := rd_same g3.st (rd_same g2.st e1)
  have e2' := RpKV.mono (g2.st.trans g3.st) e2
  refine ⟨_, .inl ⟨_, kx, rd_same r3.sub e1', rfl, rfl⟩, ?_⟩
  rcases findD_rp (x := kx) e2' with ⟨f1, f2⟩ | ⟨d, v, f1, f2, f3⟩
  · rw [f2]
    rw [f1] at q3
    exact k Hs3 H3 z dz s3 (g1.trans (g2.trans g3)) r3 v3 q3
  · rw [f2]
    rw [f1] at q3
    exact k Hs3 H3 v d s3 (g1.trans (g2.trans g3)) r3 f3 q3
theorem sim_dget1 (ha : Sim C ca ta da) (hb : Sim C cb tb db) : Sim C .E (tDGet1 ta tb) (dGet1 da db) := by
  refine ⟨fun H0 S0 Hs σ H s Q Q' r q k => ha.toE.run H0 S0 Hs σ H s _ _ r q fun Hs1 H1 x dx s1 g1 r1 v1 q1 => ?_⟩
  cases dx <;> first | exact q1.elim | skip
  have v1' : Rp C.K Hs1 x _ := v1
  cases v1' with
  | dic e1 e2 =>
  refine ⟨_, rfl, .inl ⟨_, rd_same r1.sub e1⟩, ?_⟩
  refine hb.toE.run H0 S0 Hs1 σ H1 s1 _ _ r1 q1 fun Hs2 H2 y dy s2 g2 r2 v2 q2 => ?_
  obtain ⟨hk, q2⟩ := q2
  obtain ⟨kx, rfl⟩ := isKey_of hk
  have v2' : Rp C.K Hs2 y (keyD kx) := v2
  obtain rfl := v2'.key
  have e1' := rd_same g2.st e1
  have e2' := RpKV.mono g2.st e2
  refine ⟨_, .inl ⟨_, kx, rd_same r2.sub e1', rfl, rfl⟩, ?_⟩
  rcases findD_rp (x := kx) e2' with ⟨f1, f2⟩ | ⟨d, v, f1, f2, f3⟩
  · rw [f2]
    rw [f1] at q2
    exact k Hs2 H2 .non .none s2 (g1.trans g2) r2 .non q2
  · rw [f2]
    rw [f1] at q2
    exact k Hs2 H2 v d s2 (g1.trans g2) r2 f3 q2
/-- {} -/
theorem sim_dnew : Sim C .F tDNewK (dC (.dict [])) := by
  refine ⟨fun H0 S0 Hs σ H s Q Q' r q k => fun p np => ?_⟩
  exact k Hs _ _ (.dict []) s (Go.laid np) (r.laid np) (r.newC np (.dic .nil)) q
/-! d[k] = v, of its own -/
def putD (kvs : List (D × D)) (k v : D) : List (D × D) := if (findD kvs k).isSome = true then kvs.map fun kv => if keyIs kv.1 k = true then (kv.1, v) else kv else kvs ++ [(k, v)]
theorem RpKV.map {K : PySem.W.Frag} {H : Hp} {k : Key} {v : V} {d : D} (hv : Rp K H v d) : ∀ {kvs : List (Key × V)} {ds : List (D × D)}, RpKV K H kvs ds → RpKV K H (kvs.map fun kv => if kv.1 = k then (kv.1, v) else kv) (ds.map fun kv => if keyIs kv.1 (keyD k) = true then (kv.1, d) else kv)
  | _, _, .nil => .nil
  | _, _, .cons (k := k') (v := v') (d := d') a b => by
    rw [List.map_cons, List.map_cons]
    have e : keyIs (keyD k') (keyD k) = decide (k' = k) := keyIs_key _ _
    by_cases h : k' = k
    · rw [if_pos h, if_pos (by rw [e, decide_eq_true h])]
      exact .cons hv (RpKV.map hv b)
    · rw [if_neg h, if_neg (by rw [e, decide_eq_false h]; exact Bool.false_ne_true)]
      exact .cons a (RpKV.map hv b)
theorem RpKV.snoc {K : PySem.W.Frag} {H : Hp} {k : Key} {v : V} {d : D} (hv : Rp K H v d) : ∀ {kvs : List (Key × V)} {ds : List (D × D)}, RpKV K H kvs ds → RpKV K H (kvs ++ [(k, v)]) (ds ++ [(keyD k, d)])
  | _, _, .nil => .cons hv .nil
  | _, _, .cons a b => .cons a (RpKV.snoc hv b)
theorem RpKV.put {K : PySem.W.Frag} {H : Hp} {kvs : List (Key × V)} {ds : List (D × D)} {k : Key} {v : V} {d : D} (h : RpKV K H kvs ds) (hv : Rp K H v d) : RpKV K H (putK kvs k v) (putD ds (keyD k) d) := by
  unfold putK putD
  rw [findD_is h, valV_any]
  cases e : (valV kvs k).isSome with
  | true => rw [if_pos rfl, if_pos rfl]; exact h.map hv
  | false => rw [if_neg Bool.false_ne_true, if_neg Bool.false_ne_true]; exact h.snoc hv
def dSetK (i : Nat) (a j : DT) : DSt := fun E s => a s fun d s1 => (∃ z, s1.δ[i]? = some (some (.dict z))) ∧ j s1 fun k s2 => isKey k = true ∧ match s2.δ[i]? with
  | some (some (.dict kvs)) => kvs.length < sizeLine ∧ E.nx { s2 with δ := s2.δ.set i (some (.dict (putD kvs k d))) }
  | _ => False
theorem simS_setK {cat : Cat} (i : Nat) (hi : i ∈ C.M) (h : Sim C ca ta da) (hj : Sim C cb tb db) : SimS C cat (sDPut (tVar i) tb ta) (dSetK i da db) := by
  refine ⟨fun H0 S0 Hs σ H s E D' r q k => h.toE.run H0 S0 Hs σ H s _ _ r q fun Hs1 H1 v d s1 g1 r1 v1 q1 => ?_⟩
  obtain ⟨⟨z, ez⟩, q1⟩ := q1
  obtain ⟨b, o, e1, e2, e3, e4, _⟩ := r1.mt i _ ez hi
  refine ⟨_, e1, hj.toE.run H0 S0 Hs1 σ H1 s1 _ _ r1 q1 fun Hs2 H2 y dy s2 g2 r2 v2 q2 => ?_⟩
  obtain ⟨hk, q2⟩ := q2
  obtain ⟨kx, rfl⟩ := isKey_of hk
  have v2' : Rp C.K Hs2 y (keyD kx) := v2
  obtain rfl := v2'.key
  split at q2
  · rename_i kvs ex
    obtain ⟨b', o', f1, f2, f3, f4, _⟩ := r2.mt i _ ex hi
    rw [e1] at f1
    cases f1
    cases f4 with
    | dic f4 =>
      rename_i xs
      obtain ⟨r3, g3⟩ := r2.upd hi ex e1 (.dic (f4.put (k := kx) (Rp.mono g2.st v1)))
      exact ⟨b, _, rfl, DPut.k f2 (by rw [f4.len]; exact q2.1), k.nx Hs2 σ _ _ r3 q2.2⟩
  · exact q2.elim
/-! dict(d), dict([(k, v), ..]) -/
def pairsOf : List D → Option (List (D × D))
  | [] => some []
  | .tuple [k, v] :: r => if isKey k = true then (pairsOf r).map ((k, v) :: ·) else none
  | _ :: _ => none
def mergeD (acc : List (D × D)) (more : List (D × D)) : List (D × D) := more.foldl (fun a kv => putD a kv.1 kv.2) acc
theorem RpKV.merge {K : PySem.W.Frag} {H : Hp} : ∀ {more : List (Key × V)} {ms : List (D × D)} {kvs : List (Key × V)} {ds : List (D × D)}, RpKV K H more ms → RpKV K H kvs ds → RpKV K H (mergeK kvs more) (mergeD ds ms)
  | _, _, _, _, .nil, h => h
  | _, _, _, _, .cons (k := k) a b, h => by
    have := RpKV.merge b (h.put (k := k) a)
    exact this
theorem pairs_rp {K : PySem.W.Frag} {Hs H : Hp} (sub : Same Hs H) : ∀ {xs : List V} {ds : List D} {kvs : List (D × D)}, RpAll K Hs xs ds → pairsOf ds = some kvs → ∃ (ps : List Addr) (ks : List (Key × V)), xs = ps.map V.ref ∧ Paired (fun p kv => SqT K H p [kV kv.1, kv.2]) ps ks ∧ RpKV K Hs ks kvs
  | _, _, _, .nil, e => by cases e; exact ⟨[], [], rfl, .nil, .nil⟩
  | _, _, kvs, .cons (d := d) (ds := r1) a b, e => by
    unfold pairsOf at e
    split at e
    · rename_i e0; cases e0
    · rename_i k0 v0 r0 e0
      injection e0 with e1 e2
      subst e1 e2
      split at e
      · rename_i hk
        obtain ⟨kk, rfl⟩ := isKey_of hk
        cases e3 : pairsOf r1 with
        | none => rw [e3] at e; cases e
        | some w =>
          rw [e3] at e
          cases e
          obtain ⟨ps, ks, rfl, h2, h3⟩ := pairs_rp sub b e3
          cases a with
          | @tup t zs _ h4 h5 =>
            cases h5 with
            | cons h6 h7 =>
              cases h7 with
              | cons h8 h9 =>
                cases h9
                obtain rfl := h6.key
                exact ⟨t :: ps, (kk, _) :: ks, rfl, .cons (Same.sqT sub h4.sq) h2, .cons h8 h3⟩
      · cases e
    · cases e
def rDictG (K : PySem.W.Frag) : List V → Hp → VK → Prop := fun xs H Q => (∃ (a : Addr) (kvs : List (Key × V)), xs = [.ref a] ∧ Rd H a (.dK kvs) ∧ ∀ p, H p = none → Q (.ref p) (upd H p (.dK kvs))) ∨
  (∃ (a : Addr) (ps : List Addr) (kvs : List (Key × V)), xs = [.ref a] ∧ SqL K H a (ps.map V.ref) ∧ Paired (fun p kv => SqT K H p [kV kv.1, kv.2]) ps kvs ∧ ∀ p, H p = none → Q (.ref p) (upd H p (.dK (mergeK [] kvs)))) ∨
  (∃ (a : Addr) (ps : List Addr) (kvs : List (Key × V)), xs = [.ref a] ∧ TqT K H a (ps.map V.ref) ∧ Paired (fun p kv => SqT K H p [kV kv.1, kv.2]) ps kvs ∧ ∀ p, H p = none → Q (.ref p) (L2.upd H p (.dK (mergeK [] kvs))))
theorem dictG {X : Cx} (K : PySem.W.Frag) (eK : X.K = K) (hc : X.calm = true) : CallR X (.type "dict") (rDictG K) := by
  subst eK
  exact CallR.or call_dictD (CallR.or (call_dictP hc) (call_dictZ hc))
def dictD : DF := fun ds Q => match ds with
  | [d] => (match d with
    | .dict kvs => Q (.dict kvs)
    | .list ps => ∃ kvs, pairsOf ps = some kvs ∧ Q (.dict (mergeD [] kvs))
    | .tuple ps => ∃ kvs, pairsOf ps = some kvs ∧ Q (.dict (mergeD [] kvs))
    | _ => False)
  | _ => False
theorem caA_dict : CaA C (rDictG C.K) dictD := by
  intro H0 S0 Hs σ H s vs ds Q Q' r hd q k
  match vs, ds, hd with
  | [v], [d], ⟨h, _⟩ =>
    cases d <;> first | exact q.elim | skip
    case dict kvs =>
      obtain ⟨a, ls, rfl, e1, e2⟩ := Rd'.dict h
      exact .inl ⟨a, ls, rfl, e1, fun p np => k Hs _ _ (.dict kvs) (Go.laid np) (r.laid np) (r.newC np (.dic e2)) q⟩
    case list ps =>
      obtain ⟨a, xs, rfl, e1, e2⟩ := Rd'.list h
      obtain ⟨kvs, e3, q⟩ := q
      obtain ⟨as, ks, rfl, h2, h3⟩ := pairs_rp r.sub e2 e3
      exact .inr (.inl ⟨a, as, ks, rfl, SqL.of e1, h2, fun p np => k Hs _ _ (.dict _) (Go.laid np) (r.laid np) (r.newC np (.dic (h3.merge .nil))) q⟩)
    case tuple ps =>
      cases (show Rp C.K Hs v (.tuple ps) from h) with
      | @tup a xs _ e1 e2 =>
      obtain ⟨kvs, e3, q⟩ := q
      obtain ⟨as, ks, rfl, h2, h3⟩ := pairs_rp r.sub e2 e3
      exact .inr (.inr ⟨a, as, ks, rfl, Same.tqT r.sub e1, h2, fun p np => k Hs _ _ (.dict _) (Go.laid np) (r.laid np) (r.newC np (.dic (h3.merge .nil))) q⟩)
  | [], [], _ => exact q.elim
  | _ :: _ :: _, _ :: _ :: _, _ => exact q.elim
/-! sorted -/
def sortD : DF := fun ds Q => match ds with
  | [d] => (match d with
    | .dict kvs => ∃ ks : List Str, kvs.map Prod.fst = ks.map PyData.str ∧ ks.length < 64 ∧ ∀ ys : List Str, ys.Perm ks → sortedS ys = true → Q (.list (ys.map PyData.str))
    | .list xs => ∃ ks : List Str, xs = ks.map PyData.str ∧ ks.length < 64 ∧ ∀ ys : List Str, ys.Perm ks → sortedS ys = true → Q (.list (ys.map PyData.str))
    | _ => False)
  | _ => False
def rSortG (K : PySem.W.Frag) : List V → Hp → VK → Prop := fun xs H Q => (∃ (a : Addr) (kvs : List (Key × V)) (ks : List Str), xs = [.ref a] ∧ Rd H a (.dK kvs) ∧ kvs.map (·.1) = ks.map Sum.inr ∧ ks.length < 64 ∧
    ∀ ys p, ys.Perm ks → sortedS ys = true → H p = none → Q (.ref p) (upd H p (.lst (ys.map V.str)))) ∨
  rSortedS K xs H Q
theorem sortG {X : Cx} (K : PySem.W.Frag) (eK : X.K = K) (hc : X.calm = true) : CallR X (.builtin "sorted") (rSortG K) := by
  subst eK
  exact CallR.or (call_sortedD hc) cr_sortedS
theorem strs_map {K : PySem.W.Frag} {H : Hp} : ∀ {xs : List V} {ks : List Str}, RpAll K H xs (ks.map PyData.str) → xs = ks.map V.str
  | _, [], h => by cases h; rfl
  | _, k :: ks, h => by
    cases h with
    | cons a b => cases a; rw [strs_map b]; rfl
theorem strs_rp' {K : PySem.W.Frag} {H : Hp} : ∀ ys : List Str, RpAll K H (ys.map V.str) (ys.map PyData.str)
  | [] => .nil
  | y :: ys => .cons (.str y) (strs_rp' ys)
theorem keys_map {K : PySem.W.Frag} {H : Hp} : ∀ {kvs : List (Key × V)} {ds : List (D × D)} {ks : List Str}, RpKV K H kvs ds → ds.map Prod.fst = ks.map PyData.str → kvs.map (·.1) = ks.map Sum.inr
  | _, _, [], .nil, _ => rfl
  | _, _, k :: ks, .nil, e => by cases e
  | _, _, [], .cons a b, e => by cases e
  | _, _, k :: ks, .cons (k := kk) a b, e => by
    rw [List.map_cons, List.map_cons] at e
    injection e with e1 e2
    rw [List.map_cons, List.map_cons, keys_map b e2]
    cases kk with
    | inl i => cases e1
    | inr z => cases e1; rfl
theorem caA_sort : CaA C (rSortG C.K) sortD := by
  intro H0 S0 Hs σ H s vs ds Q Q' r hd q k
  match vs, ds, hd with
  | [v], [d], ⟨h, _⟩ =>
    cases d <;> first | exact q.elim | skip
    case dict kvs =>
      obtain ⟨a, ls, rfl, e1, e2⟩ := Rd'.dict h
      obtain ⟨ks, e3, hl, q⟩ := q
      exact .inl ⟨a, ls, ks, rfl, e1, keys_map e2 e3, hl, fun ys p hp hs np => k Hs _ _ (.list _) (Go.laid np) (r.laid np) (r.newList np (strs_rp' ys)) (q ys hp hs)⟩
    case list xs =>
      obtain ⟨a, ls, rfl, e1, e2⟩ := Rd'.list h
      obtain ⟨ks, rfl, hl, q⟩ := q
      obtain rfl := strs_map e2
      exact .inr ⟨a, ks, rfl, SqL.of e1, hl, fun ys p hp hs np => k Hs _ _ (.list _) (Go.laid np) (r.laid np) (r.newList np (strs_rp' ys)) (q ys hp hs)⟩
  | [], [], _ => exact q.elim
  | _ :: _ :: _, _ :: _ :: _, _ => exact q.elim
end


/-! ### a list or dict that a def changes for its caller -/
def spB (K : PySem.W.Frag) (j n : Nat) (F : List D → (D → D → Prop) → Prop) : Sp := fun vs H Q _ => ∃ (Hs : Hp) (ds : List D) (Q0 : D → D → Prop) (p : Addr) (o : HO) (dj : D), Same Hs H ∧ vs[j]? = some (.ref p) ∧ H p = some o ∧ Hs p = none ∧ Cn K Hs o dj ∧ vs.length = n ∧ ds.length = n ∧ ds[j]? = some dj ∧
  (∀ i v d, i ≠ j → vs[i]? = some v → ds[i]? = some d → Rp K Hs v d) ∧ F ds Q0 ∧
  ∀ d dj' Hs' H' v o', Q0 d dj' → Same Hs Hs' → Same Hs' H' → But p H H' → (∀ b, Hs b = none → Hs' b ≠ none → H b = none) → Hs' p = none → H' p = some o' → Cn K Hs' o' dj' → Rp K Hs' v d → Q v H'
section
variable {C : Cf} {σ : L2.St} {H0 S0 Hs H Hs' H' : Hp} {s : S}
theorem R.stepB {i : Nat} {b : Addr} {dj dj' : D} {o' : HO} (r : R C H0 S0 Hs σ H s) (hi : i ∈ C.M) (es : σ[i]? = some (some (.ref b))) (hd : s.δ[i]? = some (some dj)) (st : Same Hs Hs') (sb : Same Hs' H') (hh : But b H H') (nw : ∀ b, Hs b = none → Hs' b ≠ none → H b = none) (nb : Hs' b = none) (ho : H' b = some o') (c : Cn C.K Hs' o' dj') :
    R C H0 S0 Hs' σ H' { s with δ := s.δ.set i (some dj') } ∧ Go C σ Hs H Hs' H' := by
  have hil : i < s.δ.length := (List.getElem?_eq_some_iff.mp hd).1
  obtain ⟨b0, o0, e1, e2, e3, e4, e5⟩ := r.mt i dj hd hi
  rw [es] at e1
  obtain rfl : b = b0 := by cases e1; rfl
  have bne : ∀ {x : Addr}, H0 x ≠ none → x ∉ C.bor → x ≠ b := fun h1 h2 z => by
    subst z
    rcases e5 with e5 | e5
    · exact h1 e5
    · exact h2 e5
  have sete : (s.δ.set i (some dj'))[i]? = some (some dj') := by rw [List.getElem?_set_self hil]
  have setn : ∀ k, k ≠ i → (s.δ.set i (some dj'))[k]? = s.δ[k]? := fun k h => List.getElem?_set_ne (Ne.symm h)
  refine ⟨⟨by rw [List.length_set]; exact r.len, sb, fun k d e m => ?_, fun k d e m => ?_, fun k m e => ?_, r.sep, fun p c' e => ?_, r.br, r.s0.trans st, fun b' o n e => ?_, fun b' h1 h2 => ?_, r.fx, r.tb.1.to st (fun t m ps e => hh _ _ (fun z => by rw [z, e2] at e; cases e; cases e4) e) (fun c e1 e2 ps e => by rw [nw c e1 e2] at e; cases e), r.tb.2⟩, st, fun b' o e n m => ?_, fun b' o e => ?_, nw⟩
  · have hk : k ≠ i := fun z => m (by rw [z]; exact hi)
    have e : (s.δ.set i (some dj'))[k]? = some (some d) := e
    rw [setn k hk] at e
    obtain ⟨v, f1, f2⟩ := r.slot k d e m
    exact ⟨v, f1, Rp.mono st f2⟩
  · have e : (s.δ.set i (some dj'))[k]? = some (some d) := e
    by_cases hk : k = i
    · subst hk
      rw [sete] at e
      cases e
      exact ⟨b, o', es, ho, nb, c, e5⟩
    · rw [setn k hk] at e
      obtain ⟨a, u, f1, f2, f3, f4, f5⟩ := r.mt k d e m
      have hab : a ≠ b := fun z => hk (r.sep k i a m hi f1 (by rw [z]; exact es))
      exact ⟨a, u, f1, hh a u hab f2, none_of_new nw f3 f2, f4.mono st, f5⟩
  · have e : (s.δ.set i (some dj'))[k]? = some none := e
    have hk : k ≠ i := fun z => by subst z; rw [sete] at e; cases e
    rw [setn k hk] at e
    exact r.dead k m e
  · obtain ⟨f1, f2, f3, f4, f5, f6, f7, f8, f9⟩ := r.pn p c' e
    have pb : p ≠ b := bne f4 f8
    have cb : c' ≠ b := bne f5 f9
    obtain ⟨_, ep⟩ := f2.at_
    refine ⟨f1, (f2.mono st (Same.refl _)).but (q := b) hh pb cb, none_of_new nw f3 ep, f4, f5, ?_, f7, f8, f9⟩
    have hk : C.ps ≠ i := fun z => f7 (by rw [z]; exact hi)
    show (s.δ.set i (some dj'))[C.ps]? = some none
    rw [setn _ hk]
    exact f6
  · have hb : b' ≠ b := fun z => by
      subst z
      rcases e5 with e5 | e5
      · rw [e5] at e; cases e
      · exact n (.inr e5)
    exact hh b' o hb (r.h0 b' o n e)
  · cases q : Hs b' with
    | some o => exact r.new b' h1 (by rw [q]; exact fun z => nomatch z)
    | none => exact (r.free0 (nw b' q h2)).1
  · have hb : b' ≠ b := fun z => n ⟨i, hi, by rw [z]; exact es⟩
    exact hh b' o hb e
  · by_cases hb : b' = b
    · exact ⟨o', by rw [hb]; exact ho⟩
    · exact ⟨o, hh b' o hb e⟩
/-- the arguments of a call, the one at j a list or dict of its own -/
structure SimB (C : Cf) (i j n : Nat) (ta : TA) (t : DA) : Prop where
  run : ∀ (H0 S0 Hs : Hp) (σ : L2.St) (H : Hp) (s : S) (Q : List D → S → Prop) (Q' : List V → Hp → Prop), R C H0 S0 Hs σ H s → t s Q →
    (∀ Hs' H' vs ds s', Go C σ Hs H Hs' H' → R C H0 S0 Hs' σ H' s' → (∃ b, σ[i]? = some (some (.ref b)) ∧ vs[j]? = some (.ref b)) → vs.length = n → ds.length = n → (∀ k v d, k ≠ j → vs[k]? = some v → ds[k]? = some d → Rp C.K Hs' v d) → Q ds s' → Q' vs H') → ta σ H Q'
def dHole (i : Nat) (r : DA) : DA := fun s Q => (∃ d, s.δ[i]? = some (some d)) ∧ r s fun ds s1 => Q (.none :: ds) s1
theorem RpAll.at {K : PySem.W.Frag} {H : Hp} {vs : List V} {ds : List D} (h : RpAll K H vs ds) {k : Nat} {v : V} {d : D} (e1 : vs[k]? = some v) (e2 : ds[k]? = some d) : Rp K H v d := by
  obtain ⟨x, e, r⟩ := h.get e2
  rw [e1] at e
  cases e
  exact r
theorem simB_here {i n : Nat} {ta : TA} {t : DA} (hi : i ∈ C.M) (h : SimA C n ta t) : SimB C i 0 (n + 1) (tCons (tVar i) ta) (dHole i t) := by
  refine ⟨fun H0 S0 Hs σ H s Q Q' r ⟨⟨d, e⟩, q⟩ k => ?_⟩
  obtain ⟨b, o, e1, _⟩ := r.mt i d e hi
  refine ⟨.ref b, e1, h.run H0 S0 Hs σ H s _ _ r q fun Hs1 H1 vs ds s1 g1 r1 v1 l1 q1 => ?_⟩
  refine k Hs1 H1 _ _ s1 g1 r1 ⟨b, e1, rfl⟩ (by rw [List.length_cons, v1.len, l1]) (by rw [List.length_cons, l1]) (fun j v d hj ev ed => ?_) q1
  cases j with
  | zero => exact absurd rfl hj
  | succ j => exact v1.at (k := j) ev ed
theorem simB_cons {i j n : Nat} {ca : Cat} {te : TE} {dt : DT} {ta : TA} {t : DA} (ha : Sim C ca te dt) (h : SimB C i j n ta t) : SimB C i (j + 1) (n + 1) (tCons te ta) (dCons dt t) := by
  refine ⟨fun H0 S0 Hs σ H s Q Q' r q k => ?_⟩
  refine ha.toE.run H0 S0 Hs σ H s _ _ r q fun Hs1 H1 v d s1 g1 r1 v1 q1 => ?_
  refine h.run H0 S0 Hs1 σ H1 s1 _ _ r1 q1 fun Hs2 H2 vs ds s2 g2 r2 hb l1 l2 ap q2 => ?_
  refine k Hs2 H2 _ _ s2 (g1.trans g2) r2 hb (by rw [List.length_cons, l1]) (by rw [List.length_cons, l2]) (fun m x y hm ex ey => ?_) q2
  cases m with
  | zero => cases ex; cases ey; exact Rp.mono g2.st v1
  | succ m => exact ap m x y (fun z => hm (by rw [z])) ex ey
def dCallB (F : List D → (D → D → Prop) → Prop) (i j : Nat) (a : DA) : DT := fun s Q => a s fun ds s1 => match s1.δ[i]? with
  | some (some dj) => F (ds.set j dj) fun d dj' => Q d { s1 with δ := s1.δ.set i (some dj') }
  | _ => False
theorem sim_callB {i j n : Nat} {F : List D → (D → D → Prop) → Prop} {ta : TA} {a : DA} (hi : i ∈ C.M) (hj : j < n) (h : SimB C i j n ta a) : Sim C .E (tCall (spB C.K j n F) [] E0 ta) (dCallB F i j a) := by
  refine ⟨fun H0 S0 Hs σ H s Q Q' r q k => h.run H0 S0 Hs σ H s _ _ r q fun Hs1 H1 vs ds s1 g1 r1 ⟨b, eb, ev⟩ l1 l2 ap q1 => ?_⟩
  rw [List.append_nil]
  split at q1
  · rename_i dj ej
    obtain ⟨b', o, e1, e2, e3, e4, e5⟩ := r1.mt i dj ej hi
    rw [eb] at e1
    cases e1
    refine ⟨Hs1, ds.set j dj, _, b, o, dj, r1.sub, ev, e2, e3, e4, l1, by rw [List.length_set]; exact l2, by rw [List.getElem?_set_self (by omega)], fun m v d hm e1 e2 => ?_, q1, fun d dj' Hs' H' v o' q2 st sb hh nw np ho cn rp => ?_⟩
    · rw [List.getElem?_set_ne (Ne.symm hm)] at e2
      exact ap m v d hm e1 e2
    · obtain ⟨r2, g2⟩ := r1.stepB hi eb ej st sb hh nw np ho cn
      exact k Hs' H' v d _ (g1.trans g2) r2 rp q2
  · exact q1.elim
end
section
variable {P : Program} {w : World} {K : PySem.W.Frag} {mg : Str → Option Value} {base : Heap}
theorem RpSlots {H : Hp} {p : Addr} : ∀ {vs : List V} {ds : List D} (N : List Str) (j : Nat), vs.length = ds.length → (∀ i v d, i ≠ j → vs[i]? = some v → ds[i]? = some d → Rp K H v d) → (L2.start N vs).length = (start' N.length ds).length ∧ ∀ (i : Nat) (d : D), i ≠ j → (start' N.length ds)[i]? = some (some d) → ∃ v, (L2.start N vs)[i]? = some (some v) ∧ Rp K H v d := by
  intro vs ds N j hl h
  unfold L2.start start'
  refine ⟨by rw [List.length_append, List.length_append, List.length_map, List.length_map, List.length_replicate, List.length_replicate, hl], fun i d hij e => ?_⟩
  by_cases hi : i < ds.length
  · rw [List.getElem?_append_left (by rw [List.length_map]; exact hi), List.getElem?_map] at e
    rw [List.getElem?_append_left (by rw [List.length_map, hl]; exact hi), List.getElem?_map]
    cases q : ds[i]? with
    | none => rw [q] at e; cases e
    | some d' =>
      rw [q] at e
      cases e
      have hv : i < vs.length := by rw [hl]; exact hi
      refine ⟨vs[i], by rw [List.getElem?_eq_getElem hv]; rfl, h i _ d hij (List.getElem?_eq_getElem hv) q⟩
  · rw [List.getElem?_append_right (by rw [List.length_map]; omega), List.getElem?_replicate] at e
    split at e <;> cases e
/-- a def that changes the list or dict handed in at j -/
theorem Ok.ofB {x : Str} {st : Stmt} {N ps : List Str} {k j n : Nat} {M : List Nat} {F : List D → (D → D → Prop) → Prop} (D' : Df K mg x st ps) (S' : FnScope N ps (defScope st)) (hn : ps.length = n) (hj : j < n) (hM : ∀ i ∈ M, n ≤ i ∧ i < N.length)
    (hbody : ∀ (f : Addr) (cdv : Value) (A : Around) (outer : List Env) (s : Shared) (H : Hp) (E : XK) (p : Addr), Rm k (A.deeper (envOfC x (defScope st) s.heap.objs.size f cdv)) →
      ∃ t d, PSs (cxOf CX0 P w K mg base N x (defScope st) f cdv A outer s H E).nox (defBody st) t ∧ SimS { K := K, pen := none, ps := 1000, M := j :: M, bor := [p], bs := [j] } .E t d ∧ ∀ ds (Q : D → D → Prop), ds.length = n → F ds Q →
        d { nx := fun s => ∀ dj, s.δ[j]? = some (some dj) → Q .none dj, rt := fun z s => ∀ dj, s.δ[j]? = some (some dj) → Q z dj } { δ := start' N.length ds, n := 0 }) :
    Ok P w K mg base (k + 1) x ps (spB K j n F) := by
  refine Ok.mk D' S' (fun vs H Q E h => ?_) (fun f cdv A outer s H vs Q E hr h => ?_)
  · obtain ⟨Hs, ds, Q0, p, o, dj, _, _, _, _, _, h2, _⟩ := h
    rw [h2, hn]
  obtain ⟨Hs, ds, Q0, p, o, dj, h1, ep, eo, np, cn, l1, l2, ej, rp, hF, h5⟩ := h
  obtain ⟨t, d, ht, hs, hd⟩ := hbody f cdv A outer s H E p hr
  refine ⟨t, ht, ?_⟩
  obtain ⟨sl, ss⟩ := RpSlots (K := K) (H := Hs) (p := p) N j (by rw [l1, l2]) rp
  have sj : (L2.start N vs)[j]? = some (some (.ref p)) := by
    unfold L2.start
    rw [List.getElem?_append_left (by rw [List.length_map, l1]; exact hj), List.getElem?_map, ep]
    rfl
  have dj0 : (start' N.length ds)[j]? = some (some dj) := by
    unfold start'
    rw [List.getElem?_append_left (by rw [List.length_map, l2]; exact hj), List.getElem?_map, ej]
    rfl
  have nn : ∀ i, i ∈ M → (L2.start N vs)[i]? = some none := fun i m => start_none N (by rw [l1]; exact (hM i m).1) (hM i m).2
  have jM : j ∉ M := fun z => by have := (hM j z).1; omega
  have fin : ∀ (Hs' : Hp) (σ' : L2.St) (H' : Hp) (s' : S) (v : V) (z : D), R { K := K, pen := none, ps := 1000, M := j :: M, bor := [p], bs := [j] } H Hs Hs' σ' H' s' → Rp K Hs' v z → (∀ dj, s'.δ[j]? = some (some dj) → Q0 z dj) → Q v H' := by
    intro Hs' σ' H' s' v z r rz q
    obtain ⟨⟨i, hib, him, hip⟩, _⟩ := r.br p (List.mem_singleton.mpr rfl)
    have hib : i ∈ [j] := hib
    rw [List.mem_singleton] at hib
    subst hib
    have il : i < s'.δ.length := by rw [← r.len]; exact (List.getElem?_eq_some_iff.mp hip).1
    cases e : s'.δ[i]'il with
    | none =>
      have := r.dead i him (by rw [List.getElem?_eq_getElem il, e])
      rw [hip] at this
      cases this
    | some dj' =>
      have e' : s'.δ[i]? = some (some dj') := by rw [List.getElem?_eq_getElem il, e]
      obtain ⟨a, o', f1, f2, f3, f4, _⟩ := r.mt i dj' e' him
      rw [hip] at f1
      cases f1
      refine h5 z dj' Hs' H' v o' (q dj' e') r.s0 r.sub (fun b u nb eb => r.h0 b u (fun z => ?_) eb) r.new f3 f2 f4 rz
      rcases z with (⟨c, z⟩ | z) | z
      · cases z
      · cases z
      · exact nb (List.mem_singleton.mp z)
  refine hs.run H Hs Hs (L2.start N vs) H _ { nx := fun s => ∀ dj, s.δ[j]? = some (some dj) → Q0 .none dj, rt := fun z s => ∀ dj, s.δ[j]? = some (some dj) → Q0 z dj } _ ?_ (hd ds Q0 l2 hF) ⟨fun Hs' σ' H' s' r q => fin Hs' σ' H' s' .non .none r .non q, fun Hs' σ' H' s' v z r rv q => fin Hs' σ' H' s' v z r rv q, fun _ _ _ _ _ q => q.elim, fun _ _ _ _ _ q => q.elim, fun _ _ _ _ _ q => q.elim⟩
  refine ⟨sl, h1, fun i dd e m => ss i dd (fun z => m (by rw [z]; exact List.mem_cons_self ..)) e, fun i dd e m => ?_, fun i m e => ?_, fun i i2 a m1 m2 e1 e2 => ?_, fun p c e => (nomatch e), fun b hb => ?_, Same.refl _, fun b o _ e => e, fun b e1 e2 => absurd e1 e2, fun y m => (nomatch m), TbS.nil, fun _ m => (nomatch m)⟩
  · rcases List.mem_cons.mp m with rfl | m
    · rw [dj0] at e
      cases e
      exact ⟨p, o, sj, eo, np, cn, .inr (List.mem_singleton.mpr rfl)⟩
    · exfalso
      have hh := (hM i m)
      have : (start' N.length ds)[i]? = some none := by
        unfold start'
        rw [List.getElem?_append_right (by rw [List.length_map, l2]; exact hh.1), List.getElem?_replicate, if_pos (by rw [List.length_map]; omega)]
      rw [this] at e
      cases e
  · rcases List.mem_cons.mp m with rfl | m
    · rw [dj0] at e
      cases e
    · exact nn i m
  · rcases List.mem_cons.mp m1 with rfl | m1
    · rcases List.mem_cons.mp m2 with rfl | m2
      · rfl
      · rw [nn i2 m2] at e2; cases e2
    · rw [nn i m1] at e1; cases e1
  · have hb : b ∈ [p] := hb
    rw [List.mem_singleton] at hb
    subst hb
    exact ⟨⟨j, List.mem_singleton.mpr rfl, List.mem_cons_self .., sj⟩, by rw [eo]; simp⟩
end

open PySem.Sem (wp)
open TL (tl)
open LamX (CodeO TabB)
/-! ### zip(text, tuple, strict=True), both as long -/
abbrev IsZipS (h : Heap) (z TI TO : Addr) (f0 : Value) : Prop :=
  h.get? z = some { cls := .type "zip", dict := none, data := .fields #[f0, .bool false, .bool true, .ref TI, .ref TO], slots := #[] }
section
variable {prog : Program} {w : World} {A : Around} {E : Value → Shared → Prop} {s : Shared} {it : Addr} {fp : List Addr} {n i : Nat} {P : Nat → Value → Prop} {St : Nat → Heap → Prop}
theorem nextE_item (D : Draws prog w A it fp n P St) {Q : Option Value → Shared → Prop} (hi : i < n) (st : St i s.heap)
    (hQ : ∀ x h' tk, P i x → St (i + 1) h' → Heap.SameBut it s.heap h' → Q (some x) { s with heap := h', toks := tk }) : wpAny (model prog w) A (Builtin.SmallTypes.nextOrEnd (.ref it)) Q E s := by
  unfold Builtin.SmallTypes.nextOrEnd
  exact wpAny_bind (wpAny_attempt (D.item i s _ _ hi st fun x h' tk p st' sb => wpAny_pure (hQ x h' tk p st' sb)))
theorem nextE_end (D : Draws prog w A it fp n P St) {Q : Option Value → Shared → Prop} (st : St n s.heap)
    (hQ : ∀ h', Heap.ExtBut it s.heap h' → Q none { s with heap := h' }) : wpAny (model prog w) A (Builtin.SmallTypes.nextOrEnd (.ref it)) Q E s := by
  unfold Builtin.SmallTypes.nextOrEnd
  refine wpAny_bind (wpAny_attempt (D.done s _ _ st fun h' e hx he => ?_))
  obtain ⟨o, ho, hc⟩ := he
  refine wpAny_bind (wpAny_isInstance (T := "StopIteration") (b := true) ⟨o, ho, hc⟩ isSubtype_stop ?_)
  exact wpAny_pure (hQ _ hx)
end
section
variable {prog : Program} {w : World} {A : Around} {E : Value → Shared → Prop} {s : Shared} {z TI TO i1 i2 : Addr} {fp1 fp2 : List Addr} {n i : Nat} {P1 P2 : Nat → Value → Prop} {St1 St2 : Nat → Heap → Prop} {a1 a2 : Value}
theorem zipS_next_item {Q : Value → Shared → Prop} (S : ZipSep2 z TI TO i1 i2 fp1 fp2) (D1 : Draws prog w A i1 fp1 n P1 St1) (D2 : Draws prog w A i2 fp2 n P2 St2)
    (hz : IsZipS s.heap z TI TO .none) (hTI : IsTupOf2 s.heap TI (.ref i1) (.ref i2)) (hTO : IsTupOf2 s.heap TO a1 a2) (st1 : St1 i s.heap) (st2 : St2 i s.heap) (hlt : i < n)
    (hQ : ∀ x1 x2 h' tk, P1 i x1 → P2 i x2 → IsZipS h' z TI TO (rawInt s.heap.objs.size) → IsTupOf2 h' TO x1 x2 → St1 (i + 1) h' → St2 (i + 1) h' → IsTupOf2 h' s.heap.objs.size x1 x2 → h'.objs.size = s.heap.objs.size + 1 →
      (∀ c o, c ≠ z → c ≠ TO → c ≠ i1 → c ≠ i2 → s.heap.get? c = some o → h'.get? c = some o) → Q (.ref s.heap.objs.size) { s with heap := h', toks := tk }) :
    wpAny (model prog w) A (Builtin.«zip.__next__» ⟨[.ref z], []⟩) (fun fin s' => ∃ v, fin = .done (.ret v) ∧ Q v s') E s := by
  obtain ⟨hp, g, d, tk0, os⟩ := s
  show wpAny _ _ (field (.ref z) 2 >>= _) _ _ _
  refine wpAny_bind (wpAny_field hz rfl (x := .bool true) rfl ?_)
  show wpAny _ _ (field (.ref z) 3 >>= _) _ _ _
  refine wpAny_bind (wpAny_field hz rfl (x := .ref TI) rfl ?_)
  refine wpAny_bind (wpAny_seqItems hTI rfl ?_)
  show wpAny _ _ (Builtin.SmallTypes.ownedTupleIsFree (.ref z) >>= _) _ _ _
  refine wpAny_bind ?_
  unfold Builtin.SmallTypes.ownedTupleIsFree
  refine wpAny_bind (wpAny_field hz rfl (x := .none) rfl (wpAny_pure ?_))
  simp only [if_true]
  refine wpAny_bind (wpAny_rule ?_)
  refine wpAny_bind (wpAny_field hz rfl (x := .ref TO) rfl ?_)
  refine wpAny_bind (wpAny_setField_rec hz (by simp) fun g0 hz0 hs0 => ?_)
  replace hz0 : IsZipS g0 z TI TO .ellipsis := hz0
  replace hs0 : Heap.SameBut z hp g0 := hs0
  refine wpAny_bind ?_
  simp only [List.zipIdx_cons, List.zipIdx_nil, List.forIn_cons, List.forIn_nil]
  refine wpAny_bind (wpAny_bind (wpAny_onRaise ?_))
  show wpAny _ _ (Builtin.SmallTypes.nextOrEnd (.ref i1)) _ _ ⟨g0, g, d, tk0, os⟩
  refine nextE_item D1 hlt (D1.over st1 hs0 S.zf1) fun x1 p1 tk1 hx1 sn1 hp1 => ?_
  replace hp1 : Heap.SameBut i1 g0 p1 := hp1
  have hU1 : IsTupOf2 p1 TO a1 a2 := hp1.extBut _ _ S.Ti1 (hs0.extBut _ _ S.TOz hTO)
  refine wpAny_bind (wpAny_seqItems (s := ⟨p1, g, d, tk1, os⟩) hU1 rfl ?_)
  refine wpAny_bind (updateSeq_IsTupOf2 (s := ⟨p1, g, d, tk1, os⟩) hU1 fun g1 hT1 hs1 => ?_)
  replace hT1 : IsTupOf2 g1 TO x1 a2 := hT1
  replace hs1 : Heap.SameBut TO p1 g1 := hs1
  refine wpAny_bind (wpAny_letGo (wpAny_pure ?_))
  refine wpAny_bind (wpAny_bind (wpAny_onRaise ?_))
  show wpAny _ _ (Builtin.SmallTypes.nextOrEnd (.ref i2)) _ _ ⟨g1, g, d, tk1, os⟩
  refine nextE_item D2 hlt (D2.over (D2.over (D2.over st2 hs0 S.zf2) hp1 S.sep1_2) hs1 S.Tf2) fun x2 p2 tk2 hx2 sn2 hp2 => ?_
  replace hp2 : Heap.SameBut i2 g1 p2 := hp2
  have hU2 : IsTupOf2 p2 TO x1 a2 := hp2.extBut _ _ S.Ti2 hT1
  refine wpAny_bind (wpAny_seqItems (s := ⟨p2, g, d, tk2, os⟩) hU2 rfl ?_)
  refine wpAny_bind (updateSeq_IsTupOf2 (s := ⟨p2, g, d, tk2, os⟩) hU2 fun g2 hT2 hs2 => ?_)
  replace hT2 : IsTupOf2 g2 TO x1 x2 := hT2
  replace hs2 : Heap.SameBut TO p2 g2 := hs2
  refine wpAny_bind (wpAny_letGo (wpAny_pure (wpAny_pure ?_)))
  refine wpAny_bind (wpAny_seqItems (s := ⟨g2, g, d, tk2, os⟩) hT2 rfl ?_)
  refine wpAny_bind (wpAny_newTuple ?_)
  have hsz : g2.objs.size = hp.objs.size := by rw [hs2.1, hp2.1, hs1.1, hp1.1, hs0.1]
  have hzz : IsZipS g2 z TI TO .ellipsis := (hs2.extBut _ _ S.TOz.symm (hp2.extBut _ _ S.zi2 (hs1.extBut _ _ S.TOz.symm (hp1.extBut _ _ S.zi1 hz0))))
  have hkk : ∀ c o, c ≠ z → c ≠ TO → c ≠ i1 → c ≠ i2 → hp.get? c = some o → g2.get? c = some o := fun c o cz cT c1 c2 e =>
    (hs2.extBut _ _ cT (hp2.extBut _ _ c2 (hs1.extBut _ _ cT (hp1.extBut _ _ c1 (hs0.extBut _ _ cz e)))))
  have hj1 : St1 (i + 1) g2 := (D1.over (D1.over (D1.over sn1 hs1 S.Tf1) hp2 S.sep2_1) hs2 S.Tf1)
  have hj2 : St2 (i + 1) g2 := (D2.over sn2 hs2 S.Tf2)
  have hzlt : z < g2.objs.size := Heap.lt_size hzz
  show wpAny _ _ (Builtin.SmallTypes.ownedTupleHandOut (.ref z) (.ref g2.objs.size) >>= _) _ _ ⟨g2.push { cls := .type "tuple", data := .seq #[x1, x2] }, g, d, tk2, os⟩
  refine wpAny_bind ?_
  unfold Builtin.SmallTypes.ownedTupleHandOut
  have hz₆ : IsZipS (g2.push { cls := .type "tuple", data := .seq #[x1, x2] }) z TI TO .ellipsis := Heap.get?_push_of_some _ hzz
  refine wpAny_bind (wpAny_setField_rec hz₆ (by simp) fun h₇ hz₇ hs₇ => ?_)
  replace hz₇ : IsZipS h₇ z TI TO (rawInt g2.objs.size) := hz₇
  refine wpAny_setField_rec hz₇ (by simp) fun h₈ hz₈ hs₈ => ?_
  replace hz₈ : IsZipS h₈ z TI TO (rawInt g2.objs.size) := hz₈
  replace hs₇ : Heap.SameBut z (g2.push { cls := .type "tuple", data := .seq #[x1, x2] }) h₇ := hs₇
  replace hs₈ : Heap.SameBut z h₇ h₈ := hs₈
  have up : ∀ c o, c ≠ z → g2.get? c = some o → h₈.get? c = some o := fun c o c1 e => hs₈.extBut _ _ c1 (hs₇.extBut _ _ c1 (Heap.get?_push_of_some _ e))
  have hT₈ : IsTupOf2 h₈ g2.objs.size x1 x2 := hs₈.extBut _ _ (Nat.ne_of_gt hzlt) (hs₇.extBut _ _ (Nat.ne_of_gt hzlt) (Heap.get?_push_size _ rfl))
  have hz8 : h₈.objs.size = g2.objs.size + 1 := by rw [hs₈.1, hs₇.1, Heap.size_push]
  rw [hsz] at hz₈ hT₈ hz8
  refine wpAny_pure ⟨_, rfl, ?_⟩
  show Q (.ref g2.objs.size) ⟨h₈, g, d, tk2, os⟩
  rw [hsz]
  exact hQ x1 x2 h₈ tk2 hx1 hx2 hz₈ (up _ _ S.TOz hT2) (D1.frame _ _ _ hj1 fun b hb o e => up b o (fun q => S.zf1 (q ▸ hb)) e) (D2.frame _ _ _ hj2 fun b hb o e => up b o (fun q => S.zf2 (q ▸ hb)) e) hT₈ hz8 fun c o cz cT c1 c2 e => up c o cz (hkk c o cz cT c1 c2 e)
theorem zipS_next_end {Q : Fin → Shared → Prop} (hh : A.handled = none) (S : ZipSep2 z TI TO i1 i2 fp1 fp2) (D1 : Draws prog w A i1 fp1 n P1 St1) (D2 : Draws prog w A i2 fp2 n P2 St2)
    (hz : IsZipS s.heap z TI TO .none) (hTI : IsTupOf2 s.heap TI (.ref i1) (.ref i2)) (hTO : IsTupOf2 s.heap TO a1 a2) (st1 : St1 n s.heap) (st2 : St2 n s.heap)
    (hE : ∀ h' tk e, (∀ c o, c ≠ z → c ≠ TO → c ≠ i1 → c ≠ i2 → s.heap.get? c = some o → h'.get? c = some o) → (∃ o, h'.get? e = some o ∧ o.cls = .type "StopIteration") → E (.ref e) { s with heap := h', toks := tk }) :
    wpAny (model prog w) A (Builtin.«zip.__next__» ⟨[.ref z], []⟩) Q E s := by
  obtain ⟨hp, g, d, tk0, os⟩ := s
  show wpAny _ _ (field (.ref z) 2 >>= _) _ _ _
  refine wpAny_bind (wpAny_field hz rfl (x := .bool true) rfl ?_)
  show wpAny _ _ (field (.ref z) 3 >>= _) _ _ _
  refine wpAny_bind (wpAny_field hz rfl (x := .ref TI) rfl ?_)
  refine wpAny_bind (wpAny_seqItems hTI rfl ?_)
  show wpAny _ _ (Builtin.SmallTypes.ownedTupleIsFree (.ref z) >>= _) _ _ _
  refine wpAny_bind ?_
  unfold Builtin.SmallTypes.ownedTupleIsFree
  refine wpAny_bind (wpAny_field hz rfl (x := .none) rfl (wpAny_pure ?_))
  simp only [if_true]
  refine wpAny_bind (wpAny_rule ?_)
  refine wpAny_bind (wpAny_field hz rfl (x := .ref TO) rfl ?_)
  refine wpAny_bind (wpAny_setField_rec hz (by simp) fun g0 hz0 hs0 => ?_)
  replace hz0 : IsZipS g0 z TI TO .ellipsis := hz0
  replace hs0 : Heap.SameBut z hp g0 := hs0
  refine wpAny_bind ?_
  simp only [List.zipIdx_cons, List.zipIdx_nil, List.forIn_cons, List.forIn_nil]
  refine wpAny_bind (wpAny_bind (wpAny_onRaise ?_))
  show wpAny _ _ (Builtin.SmallTypes.nextOrEnd (.ref i1)) _ _ ⟨g0, g, d, tk0, os⟩
  refine nextE_end D1 (D1.over st1 hs0 S.zf1) fun q hq => ?_
  replace hq : Heap.ExtBut i1 g0 q := hq
  have hzq : IsZipS q z TI TO .ellipsis := hq _ _ S.zi1 hz0
  refine wpAny_bind (wpAny_setField_rec (s := ⟨q, g, d, tk0, os⟩) hzq (by simp) fun q' hz' hq' => ?_)
  replace hz' : IsZipS q' z TI TO .none := hz'
  replace hq' : Heap.SameBut z q q' := hq'
  refine wpAny_bind ?_
  show wpAny _ _ ((forIn [(Value.ref i2, 1)] PUnit.unit _) >>= _) _ _ ⟨q', g, d, tk0, os⟩
  simp only [List.forIn_cons, List.forIn_nil]
  have st2' : St2 n q' := D2.frame _ _ _ st2 fun b hb o e => hq'.extBut b o (fun x => S.zf2 (x ▸ hb)) (hq b o (fun x => S.sep1_2 (x ▸ hb)) (hs0.extBut b o (fun x => S.zf2 (x ▸ hb)) e))
  refine wpAny_bind (wpAny_bind (wpAny_bind (nextE_end D2 (s := ⟨q', g, d, tk0, os⟩) st2' fun q2 hq2 => ?_)))
  replace hq2 : Heap.ExtBut i2 q' q2 := hq2
  refine wpAny_pure (wpAny_pure ?_)
  refine wpAny_bind (wpAny_rule ?_)
  unfold Builtin.SmallTypes.stopIteration
  refine wpAny_bind ?_
  simp only [newExc, newTuple]
  refine wpAny_bind (wpAny_newObj_type ?_ (by size_fits))
  refine wpAny_bind (m := firstArgMember _ _) (wpAny_of_eq (a := Value.none) (by first | rfl | (simp only [firstArgMember]; rfl)) ?_)
  refine wpAny_newObj_type ?_ (by size_fits)
  simp only [raiseNew]
  refine wpAny_bind (wpAny_handled ?_)
  rw [hh]
  refine wpAny_bind (wpAny_pure (wpAny_throw ?_))
  refine hE _ _ _ (fun c o cz cT c1 c2 e => ?_) ⟨_, Heap.get?_push_size _ rfl, rfl⟩
  exact Heap.get?_push_of_some _ (Heap.get?_push_of_some _ (hq2 c o c2 (hq'.extBut c o cz (hq c o c1 (hs0.extBut c o cz e)))))
theorem pyNext_zipS_item {Q : Option Value → Shared → Prop} (S : ZipSep2 z TI TO i1 i2 fp1 fp2) (D1 : Draws prog w A.in1 i1 fp1 n P1 St1) (D2 : Draws prog w A.in1 i2 fp2 n P2 St2)
    (hz : IsZipS s.heap z TI TO .none) (hTI : IsTupOf2 s.heap TI (.ref i1) (.ref i2)) (hTO : IsTupOf2 s.heap TO a1 a2) (st1 : St1 i s.heap) (st2 : St2 i s.heap) (hlt : i < n)
    (hQ : ∀ x1 x2 h' tk, P1 i x1 → P2 i x2 → IsZipS h' z TI TO (rawInt s.heap.objs.size) → IsTupOf2 h' TO x1 x2 → St1 (i + 1) h' → St2 (i + 1) h' → IsTupOf2 h' s.heap.objs.size x1 x2 → h'.objs.size = s.heap.objs.size + 1 →
      (∀ c o, c ≠ z → c ≠ TO → c ≠ i1 → c ≠ i2 → s.heap.get? c = some o → h'.get? c = some o) → Q (some (.ref s.heap.objs.size)) { s with heap := h', toks := tk }) :
    wpAny (model prog w) A (pyNext (.ref z)) Q E s := by
  have hT : s.TypeIs (.ref z) "zip" := ⟨_, hz, rfl⟩
  unfold pyNext
  exact wpAny_bind (wpAny_attempt (wpAny_callSpecial?_slot (name := Str.ofString "__next__") hT F.slot_zip_next
    (wpAny_call_entry F.slot_zip_next hT F.entry_zip_next
      (zipS_next_item S D1 D2 hz hTI hTO st1 st2 hlt fun x1 x2 h' tk y1 y2 b1 b2 d1 d2 b5 b6 b7 => wpAny_pure (hQ x1 x2 h' tk y1 y2 b1 b2 d1 d2 b5 b6 b7)) (F.args_zip_next_1 _))))
theorem pyNext_zipS_end {Q : Option Value → Shared → Prop} (hh : A.handled = none) (S : ZipSep2 z TI TO i1 i2 fp1 fp2) (D1 : Draws prog w A.in1 i1 fp1 n P1 St1) (D2 : Draws prog w A.in1 i2 fp2 n P2 St2)
    (hz : IsZipS s.heap z TI TO .none) (hTI : IsTupOf2 s.heap TI (.ref i1) (.ref i2)) (hTO : IsTupOf2 s.heap TO a1 a2) (st1 : St1 n s.heap) (st2 : St2 n s.heap)
    (hQ : ∀ h' tk, (∀ c o, c ≠ z → c ≠ TO → c ≠ i1 → c ≠ i2 → s.heap.get? c = some o → h'.get? c = some o) → Q none { s with heap := h', toks := tk }) : wpAny (model prog w) A (pyNext (.ref z)) Q E s := by
  have hT : s.TypeIs (.ref z) "zip" := ⟨_, hz, rfl⟩
  unfold pyNext
  refine wpAny_bind (wpAny_attempt (wpAny_callSpecial?_slot (name := Str.ofString "__next__") hT F.slot_zip_next
    (wpAny_call_entry F.slot_zip_next hT F.entry_zip_next (zipS_next_end (show A.in1.handled = none from hh) S D1 D2 hz hTI hTO st1 st2 fun h' tk e hk he => ?_) (F.args_zip_next_1 _))))
  obtain ⟨o, ho, hc⟩ := he
  refine wpAny_bind (wpAny_isInstance (T := "StopIteration") (b := true) ⟨o, ho, hc⟩ isSubtype_stop ?_)
  exact wpAny_pure (hQ _ _ hk)
end
/-! its beginning -/
theorem typeCall_zip_strict (a b : Value) : checkTypeCall "zip" ⟨[a, b], [(Str.ofString "strict", .bool true)]⟩ = pure () := by kernel_rfl
theorem newCall_zip_strict (a b : Value) : checkBuiltinCall "zip.__new__" ⟨[.type "zip", a, b], [(Str.ofString "strict", .bool true)]⟩ = pure () := by kernel_rfl
theorem args_init_strict (obj a b : Value) : argsOk "object.__init__" ⟨[obj, a, b], [(Str.ofString "strict", .bool true)]⟩ := by unfold argsOk; kernel_rfl
abbrev gzS (h : Heap) (o1 o2 : Obj) : Heap := (gzO2 h o1 o2).push { cls := .type "zip", data := .fields #[.none, .bool false, .bool true, .ref ((h.push o1).push o2).objs.size, .ref (gzT2 h o1 o2).objs.size] }
theorem meets_zip_newS {v1 v2 : Value} {o1 o2 : Obj} {H1 H2 : Heap → Prop} (B1 : Begins v1 o1 H1) (B2 : Begins v2 o2 H2) :
    Meets (Builtin.«zip.__new__» ⟨[.type "zip", v1, v2], [(Str.ofString "strict", .bool true)]⟩) (fun _ R s => (H1 s.heap ∧ H2 s.heap) ∧
      R (.ok (.ret (.ref (gzO2 s.heap o1 o2).objs.size))) { s with heap := gzS s.heap o1 o2 }) :=
  .of_wp fun prog w A R s h => by
    obtain ⟨hp, g, d, tk, os⟩ := s; obtain ⟨⟨h1, h2⟩, h⟩ := h
    have hsub := sub_zip
    have q1 : ∀ {A' : Around} {E : Value → Shared → Prop} {Q : Value → Shared → Prop}, Q (.ref hp.objs.size) ⟨(hp.push o1), g, d, tk, os⟩ → wpAny (model prog w) A' (pyIter v1) Q E ⟨hp, g, d, tk, os⟩ :=
      fun q => B1.iter prog w _ _ ⟨hp, g, d, tk, os⟩ _ (B1.keeps _ _ h1 fun b o' e => e) q
    have q2 : ∀ {A' : Around} {E : Value → Shared → Prop} {Q : Value → Shared → Prop}, Q (.ref (hp.push o1).objs.size) ⟨((hp.push o1).push o2), g, d, tk, os⟩ → wpAny (model prog w) A' (pyIter v2) Q E ⟨(hp.push o1), g, d, tk, os⟩ :=
      fun q => B2.iter prog w _ _ ⟨(hp.push o1), g, d, tk, os⟩ _ (B2.keeps _ _ h2 fun b o' e => (Heap.get?_push_of_some _ e)) q
    have e1 : (Str.ofString "strict" != ("strict" : Str)) = false := by decide +kernel
    wp_walk using q1, q2
    exact ⟨_, rfl, h⟩
section
variable {prog : Program} {w : World} {A : Around} {E : Value → Shared → Prop} {s : Shared}
theorem zip_beginsS {v1 v2 : Value} {o1 o2 : Obj} {H1 H2 : Heap → Prop} {Q : Value → Shared → Prop} (B1 : Begins v1 o1 H1) (B2 : Begins v2 o2 H2) (h1 : H1 s.heap) (h2 : H2 s.heap)
    (h : ∀ h', IsZipS h' (s.heap.objs.size + 4) (s.heap.objs.size + 2) (s.heap.objs.size + 3) .none → IsTupOf2 h' (s.heap.objs.size + 2) (.ref s.heap.objs.size) (.ref (s.heap.objs.size + 1)) →
      IsTupOf2 h' (s.heap.objs.size + 3) .none .none → h'.get? s.heap.objs.size = some o1 → h'.get? (s.heap.objs.size + 1) = some o2 → h'.objs.size = s.heap.objs.size + 5 →
      (∀ c o, s.heap.get? c = some o → h'.get? c = some o) → Q (.ref (s.heap.objs.size + 4)) { s with heap := h' }) :
    wpAny (model prog w) A (call (.type "zip") [v1, v2] [(Str.ofString "strict", .bool true)]) Q E s := by
  refine callType_newKw F.called_zip (by decide) (typeCall_zip_strict _ _) (newCall_zip_strict _ _) (fun obj => args_init_strict obj _ _) F.entry_zip_new (meets_zip_newS B1 B2) ⟨⟨h1, h2⟩, ?_⟩
  have z1 : (s.heap.push o1).objs.size = s.heap.objs.size + 1 := by rw [Heap.size_push]
  have z2 : ((s.heap.push o1).push o2).objs.size = s.heap.objs.size + 2 := by rw [Heap.size_push, z1]
  have zT : (gzT2 s.heap o1 o2).objs.size = s.heap.objs.size + 3 := by rw [Heap.size_push, z2]
  have zO : (gzO2 s.heap o1 o2).objs.size = s.heap.objs.size + 4 := by rw [Heap.size_push, zT]
  have zZ : (gzS s.heap o1 o2).objs.size = s.heap.objs.size + 5 := by rw [Heap.size_push, zO]
  have gZ : (gzS s.heap o1 o2).get? (gzO2 s.heap o1 o2).objs.size = some { cls := .type "zip", data := .fields #[.none, .bool false, .bool true, .ref ((s.heap.push o1).push o2).objs.size, .ref (gzT2 s.heap o1 o2).objs.size] } := Heap.get?_push_size _ rfl
  have gO : (gzS s.heap o1 o2).get? (gzT2 s.heap o1 o2).objs.size = some { cls := .type "tuple", data := .seq #[.none, .none] } := Heap.get?_push_of_some _ (Heap.get?_push_size _ rfl)
  have gT : (gzS s.heap o1 o2).get? ((s.heap.push o1).push o2).objs.size = some { cls := .type "tuple", data := .seq #[.ref s.heap.objs.size, .ref (s.heap.push o1).objs.size] } := Heap.get?_push_of_some _ (Heap.get?_push_of_some _ (Heap.get?_push_size _ rfl))
  have g1 : (gzS s.heap o1 o2).get? s.heap.objs.size = some o1 := Heap.get?_push_of_some _ (Heap.get?_push_of_some _ (Heap.get?_push_of_some _ (Heap.get?_push_of_some _ (Heap.get?_push_size _ B1.free))))
  have g2 : (gzS s.heap o1 o2).get? (s.heap.push o1).objs.size = some o2 := Heap.get?_push_of_some _ (Heap.get?_push_of_some _ (Heap.get?_push_of_some _ (Heap.get?_push_size _ B2.free)))
  rw [zO, zT, z2] at gZ
  rw [zT] at gO
  rw [z2, z1] at gT
  rw [z1] at g2
  show _ ∧ _
  rw [zO]
  exact ⟨⟨_, gZ, rfl⟩, h _ gZ gT gO g1 g2 zZ fun c o e => Heap.get?_push_of_some _ (Heap.get?_push_of_some _ (Heap.get?_push_of_some _ (Heap.get?_push_of_some _ (Heap.get?_push_of_some _ e))))⟩
end
/-! the walk -/
section
variable {M : Model} {A : Around} {E : Value → Shared → Prop} {s : Shared} {env : Env}
theorem callWith_tkw {pos : Pos} {T : String} {e : Expr} {rest : List Expr} {kws : List Keyword} {Q : Value → Shared → Prop}
    (h : wpAny M A (spliced (backTo pos (starEach (e :: rest) env))) (fun vs s₁ => wpAny M A (evalAll ((backToKw pos (keywordEach kws env)).map (·.2)))
      (fun kvs s₂ => wpAny M A (call (.type T) vs (((backToKw pos (keywordEach kws env)).filterMap (·.1)).zip kvs)) Q E s₂) E s₁) E s)
    (he : backTo pos (starEach (e :: rest) env) = (false, eval e env) :: backTo pos (starEach rest env) := by rfl)
    (hplain : (backTo pos (starEach (e :: rest) env)).any (·.1) = false := by rfl)
    (hall : (backToKw pos (keywordEach kws env)).all (·.1.isSome) = true := by rfl)
    (hkw : (backToKw pos (keywordEach kws env)).any (·.1.isNone) = false := by rfl) :
    wpAny M A (callWith pos (.type T) [] (backTo pos (starEach (e :: rest) env)) (backToKw pos (keywordEach kws env))) Q E s := by
  have h' : wpAny M A (evalArgs (.type T) true (backTo pos (starEach (e :: rest) env)) (backToKw pos (keywordEach kws env))) (fun a s₁ => wpAny M A (call (.type T) ([] ++ a.pos) a.kw) Q E s₁) E s := by
    rw [he] at h ⊢
    exact PyProof.Rows.evalArgs_kwB hall h
  unfold callWith
  refine wpAny_bind (wpAny_holding (wpAny_mono h' (fun a s₁ h₁ => wpAny_bind (wpAny_standAt ?_)) fun _ _ x => x))
  simp only [hplain, hkw, Bool.or_false]
  refine wpAny_bind (wpAny_pure ?_)
  exact wpAny_bind (wpAny_mono h₁ (fun r s₂ hr => wpAny_bind (wpAny_holding (wpAny_point (wpAny_pure hr)))) fun _ _ x => x)
end
section
variable {prog : Program} {w : World} {A : Around} {E : Value → Shared → Prop} {s : Shared}
theorem letGo_zipS {elts : List Expr} {x1} {pos : Pos} {z TI TO T : Addr} {Q : Unit → Shared → Prop} (hz : IsZipS s.heap z TI TO (rawInt T))
    (hQ : ∀ h', IsZipS h' z TI TO .none → Heap.SameBut z s.heap h' → Q () { s with heap := h' }) :
    wpAny (model prog w) A (letOwnedTupleGo (.Tuple elts x1 pos) (.ref z) (.ref T)) Q E s := by
  unfold letOwnedTupleGo
  refine wpAny_bind (wpAny_load hz ?_)
  show wpAny _ _ (if (["enumerate", "zip", "dict_itemiterator", "dict_reverseitemiterator", "odict_iterator", "itertools.zip_longest", "itertools.pairwise"].contains "zip" &&
      (#[rawInt T, .bool false, .bool true, .ref TI, .ref TO] : Array Value)[0]? == some (rawInt T)) = true then _ else _) Q E s
  rw [if_pos (by simp)]
  refine wpAny_bind (wpAny_rule ?_)
  show wpAny _ _ (setField (.ref z) 0 .none) Q E s
  exact wpAny_setField_rec hz (by simp) fun h' hz' hs' => hQ h' hz' hs'
theorem pyIter_zipS {z TI TO : Addr} {f0 : Value} {Q : Value → Shared → Prop} (hz : IsZipS s.heap z TI TO f0) (h : Q (.ref z) s) : wpAny (model prog w) A (pyIter (.ref z)) Q E s := by
  have hT : s.TypeIs (.ref z) "zip" := ⟨_, hz, rfl⟩
  refine wpAny_pyIter_slot hT F.slot_zip_iter (wpAny_call_entry F.slot_zip_iter hT F.entry_zip_iter ?_ (F.args_zip_iter_1 _))
  show wpAny _ _ (ret (.ref z)) _ _ s
  exact wpAny_pure ⟨_, rfl, "zip", _, hT, F.slot_zip_next.lookup, h⟩
end
def ItzS (K : PySem.W.Frag) (x : Str) (b : Addr) : It :=
  ⟨fun i H => ∃ (ys : List V) (y : V), SqT K H b ys ∧ ys.length = x.cps.size ∧ ys[i]? = some y,
    fun i H v H' => ∃ T c y, v = .ref T ∧ H T = none ∧ H' = L2.upd H T (.tup [.str ⟨#[c]⟩, y]) ∧ x.cps[i]? = some c ∧ ∀ ys, SqT K H b ys → ys[i]? = some y,
    fun i H => ∃ ys : List V, SqT K H b ys ∧ ys.length = x.cps.size ∧ x.cps.size ≤ i⟩
theorem turn_zipS {P : Program} {w : World} {K : PySem.W.Frag} {elts : List Expr} {kk : Nat} {tpos : Pos} {x : Str} {t : Tok} {b z TI TO i1 i2 : Addr} (D : ZipSep2 z TI TO i1 i2 [i1] [i2, b]) (hne : b ≠ i2) :
    Turn P w K (.Tuple elts kk tpos) (ItzS K x b) [z, TI, TO, i1, i2] z (fun i h => IsZipS h z TI TO .none ∧ IsTupOf2 h TI (.ref i1) (.ref i2) ∧ (∃ u v, IsTupOf2 h TO u v) ∧ h.IsStrIter i1 (strIterType x) x t i ∧ h.IsTupleIter i2 b i ∧ i ≤ x.cps.size) where
  mem := by simp
  obj := fun i h st c hc => by
    obtain ⟨hz, hTI, ⟨u, v, hTO⟩, ⟨o1, e1, _, d1⟩, ⟨o2, e2, _, d2⟩, _⟩ := st
    have e' : c = z ∨ c = TI ∨ c = TO ∨ c = i1 ∨ c = i2 := by simpa using hc
    rcases e' with q | q | q | q | q
    · rw [q]; exact ⟨_, hz, fun v q => nomatch q⟩
    · rw [q]; exact ⟨_, hTI, fun v q => nomatch q⟩
    · rw [q]; exact ⟨_, hTO, fun v q => nomatch q⟩
    · rw [q]; exact ⟨o1, e1, fun v q => by rw [d1] at q; cases q⟩
    · rw [q]; exact ⟨o2, e2, fun v q => by rw [d2] at q; cases q⟩
  keep := fun i h h' st k => by
    obtain ⟨hz, hTI, ⟨u, v, hTO⟩, ⟨o1, e1, r1⟩, h2, hl⟩ := st
    exact ⟨k z (by simp) _ hz, k TI (by simp) _ hTI, ⟨u, v, k TO (by simp) _ hTO⟩, ⟨o1, k i1 (by simp) o1 e1, r1⟩, h2.at fun o q => k i2 (by simp) o q, hl⟩
  item := by
    intro X hP hw hK hc i pins s σ H E I hf st hg
    subst hP hw hK
    obtain ⟨hz, hTI, ⟨u0, v0, hTO⟩, h1, h2, hl⟩ := st
    obtain ⟨ys, y, hqy, hlen, hy⟩ := hg
    obtain ⟨its2, rv2, p2, _⟩ := I.tuple hqy
    obtain ⟨u2, hu2, ru2⟩ := rv2.get hy
    have hzl : z < s.heap.objs.size := Heap.lt_size hz
    have hil : i < x.cps.size := by
      have := (List.getElem?_eq_some_iff.mp hy).1
      omega
    have hh : X.A.in1.handled = none := I.ok.hd hc
    have hsz : its2.toArray.size = x.cps.size := by rw [List.size_toArray, ← rv2.length, hlen]
    have D2 := Draws.tuple (prog := X.prog) (w := X.w) hh i2 b hne its2.toArray
    rw [hsz] at D2
    refine pyNext_zipS_item D (Draws.text hh i1 x t) D2 hz hTI hTO h1 ⟨h2, p2⟩ hil fun w1 w2 h' tk q1 q2 z' TO' h1' h2' hT hsz' hk => ?_
    obtain ⟨c, u, hc', rfl⟩ := q1
    have ew : w2 = u2 := by
      have e : its2.toArray[i]? = some w2 := q2
      rw [List.getElem?_toArray, hu2] at e
      exact (Option.some.inj e).symm
    subst ew
    refine ⟨_, rfl, letGo_zipS (s := { s with heap := h', toks := tk }) z' fun h'' z'' sb => ?_⟩
    have hT2 : h''.get? s.heap.objs.size = some { cls := .type "tuple", data := .seq #[.str ⟨#[c]⟩ u, w2] } := (sb.2 _ (Nat.ne_of_gt hzl)).trans hT
    have new : ObjOk X.prog X.w (L2.upd H s.heap.objs.size (.tup [.str ⟨#[c]⟩, y])) h'' s.heap.objs.size (.tup [.str ⟨#[c]⟩, y]) :=
      ⟨by show 2 ≤ sizeLine; decide, [.str ⟨#[c]⟩ u, w2], .cons ⟨_, rfl⟩ (.cons ru2 .nil), ⟨_, hT2, rfl, _, rfl⟩⟩
    have I1 : Inv X pins σ (L2.upd H s.heap.objs.size (.tup [.str ⟨#[c]⟩, y])) { s with heap := h'', toks := tk } :=
      I.turnedNew (ch := [z, TI, TO, i1, i2]) (fun c o hb q => (sb.2 c (fun q' => hb (by simp [q']))).trans (hk c o (fun q' => hb (by simp [q'])) (fun q' => hb (by simp [q'])) (fun q' => hb (by simp [q'])) (fun q' => hb (by simp [q'])) q)) hf (Nat.le_refl _) new
    refine ⟨.ref s.heap.objs.size, _, I1, rfl, ⟨_, c, y, rfl, I.hok.fresh (Nat.le_refl _), rfl, hc', fun l hl => by rw [I.tuple_inj hl hqy]; exact hy⟩, ⟨z'', ?_, ⟨.str ⟨#[c]⟩ u, w2, ?_⟩, ?_, ?_, hil⟩, fun c hcm => ?_⟩
    · exact (sb.2 _ D.TIz).trans (hk _ _ D.TIz D.TITO D.TIi1 D.TIi2 hTI)
    · exact (sb.2 _ D.TOz).trans TO'
    · obtain ⟨o1, e1, r1⟩ := h1'
      exact ⟨o1, (sb.2 _ (Ne.symm D.zi1)).trans e1, r1⟩
    · exact h2'.1.at fun o q => (sb.2 _ (Ne.symm D.zi2)).trans q
    · have hlt : c < s.heap.objs.size := by
        have e' : c = z ∨ c = TI ∨ c = TO ∨ c = i1 ∨ c = i2 := by simpa using hcm
        rcases e' with q | q | q | q | q
        · rw [q]; exact hzl
        · rw [q]; exact Heap.lt_size hTI
        · rw [q]; exact Heap.lt_size hTO
        · rw [q]; obtain ⟨_, e1, _⟩ := h1; exact Heap.lt_size e1
        · rw [q]; obtain ⟨_, e2, _⟩ := h2; exact Heap.lt_size e2
      rw [upd_ne (Nat.ne_of_lt hlt)]
      exact (hf c hcm).1
  done := by
    intro X hP hw hK hc i pins s σ H E I hf st hg
    subst hP hw hK
    obtain ⟨hz, hTI, ⟨u0, v0, hTO⟩, h1, h2, hl⟩ := st
    obtain ⟨ys, hqy, hlen, hend⟩ := hg
    obtain ⟨its2, rv2, p2, _⟩ := I.tuple hqy
    have ei : i = x.cps.size := by omega
    subst ei
    have hh : X.A.in1.handled = none := I.ok.hd hc
    have hsz : its2.toArray.size = x.cps.size := by rw [List.size_toArray, ← rv2.length, hlen]
    have D2 := Draws.tuple (prog := X.prog) (w := X.w) hh i2 b hne its2.toArray
    rw [hsz] at D2
    exact pyNext_zipS_end (I.ok.hd hc) D (Draws.text hh i1 x t) D2 hz hTI hTO h1 ⟨h2, p2⟩ fun h' tk hk => ⟨rfl, I.turnedL (t' := tk) (ch := [z, TI, TO, i1, i2]) (fun c o hb q =>
      hk c o (fun q' => hb (by simp [q'])) (fun q' => hb (by simp [q'])) (fun q' => hb (by simp [q'])) (fun q' => hb (by simp [q'])) q) hf⟩
  self := fun A i s Q E st h => pyIter_zipS st.1 h
def iZipS (K : PySem.W.Frag) (ta : TA) : TI := fun σ H R => ta σ H fun vs H1 => ∃ x b ys, vs = [.str x, .ref b] ∧ SqT K H1 b ys ∧ ys.length = x.cps.size ∧ R (ItzS K x b) H1
theorem pi_zipS {X : Cx} {e e2 : Expr} {ta : TA} {p pos tpos kp kp2 : Pos} {k2 : Nat} {elts : List Expr} {kk : Nat} (hg : Gl X "zip") (hm : X.mg "zip" = none) (ha : PA X [e, e2] ta)
    (he : backTo pos (starEach [e, e2] X.env) = (false, eval e X.env) :: backTo pos (starEach [e2] X.env) := by rfl) (hpl : (backTo pos (starEach [e, e2] X.env)).any (·.1) = false := by rfl) :
    PI X (.Tuple elts kk tpos) (.Call (.Name "zip" p) [e, e2] [⟨some "strict", .Constant (.bool true) k2 kp2, kp⟩] pos) (iZipS X.K ta) := by
  refine ⟨fun pins s σ H R I h => ?_⟩
  refine wpAny_Call_Name_kw (ld_blt I hg hm PyProof.Rows.boot_zip (callWith_tkw (thn (ha.run pos pins s σ H _ I h) fun us s1 ⟨vs, H1, I1, r1, q1⟩ => PyProof.Rows.kws_cons ?_) he hpl rfl rfl))
  obtain ⟨x, b, ys, ex, hq, hlen, q⟩ := q1
  subst ex
  cases r1 with
  | cons r rr =>
    cases rr with
    | cons r' rr =>
      cases rr
      obtain ⟨t, rfl⟩ := r
      cases r'
      have fresh5 : ∀ c, c ∈ [s1.heap.objs.size + 4, s1.heap.objs.size + 2, s1.heap.objs.size + 3, s1.heap.objs.size, s1.heap.objs.size + 1] → FpOk X pins H1 c := fun c hcm => by
        have e' : c = s1.heap.objs.size + 4 ∨ c = s1.heap.objs.size + 2 ∨ c = s1.heap.objs.size + 3 ∨ c = s1.heap.objs.size ∨ c = s1.heap.objs.size + 1 := by simpa using hcm
        have hle : s1.heap.objs.size ≤ c := by
          rcases e' with z | z | z | z | z
          · rw [z]; exact Nat.le_add_right _ _
          · rw [z]; exact Nat.le_add_right _ _
          · rw [z]; exact Nat.le_add_right _ _
          · rw [z]; exact Nat.le_refl _
          · rw [z]; exact Nat.le_add_right _ _
        exact I1.fpOk hle (I1.hok.fresh hle)
      obtain ⟨its2, rv2, p2, _⟩ := I1.tuple hq
      obtain ⟨o2, ho2, _⟩ := id p2
      have hbl : b < s1.heap.objs.size := Heap.lt_size ho2
      refine PyProof.Rows.Constant_bool ?_
      refine PyProof.Rows.kws_nil ?_
      refine zip_beginsS (begins_text x t) (begins_tuple b its2.toArray) trivial (show s1.heap.IsTuple b its2.toArray from p2) fun h' hz hTI hTO g1 g2 hsz hk => pyIter_zipS hz ?_
      have I2 : Inv X pins σ H1 { s1 with heap := h' } := I1.kept (t' := s1.toks) hk
      have sep : ZipSep2 (s1.heap.objs.size + 4) (s1.heap.objs.size + 2) (s1.heap.objs.size + 3) s1.heap.objs.size (s1.heap.objs.size + 1) [s1.heap.objs.size] [s1.heap.objs.size + 1, b] := by
        have k : ∀ {a b : Nat}, a ≠ b → s1.heap.objs.size + a ≠ s1.heap.objs.size + b := fun h e => h (Nat.add_left_cancel e)
        have k0 : ∀ {a : Nat}, 0 < a → s1.heap.objs.size + a ≠ s1.heap.objs.size := fun {a} h e => by
          have e : s1.heap.objs.size + a = s1.heap.objs.size + 0 := e
          have := Nat.add_left_cancel e
          omega
        have kb : ∀ {a : Nat}, s1.heap.objs.size + a ≠ b := fun {a} e => Nat.lt_irrefl b (Nat.lt_of_lt_of_le hbl (by rw [← e]; exact Nat.le_add_right _ _))
        exact ⟨k (by decide), k (by decide), k (by decide), k0 (by decide), by simp, by simpa using k0 (by decide), by simpa using k0 (by decide), k (by decide), by simp, by simpa using kb, by simpa using kb, by simpa using (kb (a := 0)), by simpa using k0 (by decide)⟩
      exact ⟨s1.heap.objs.size + 4, [s1.heap.objs.size + 4, s1.heap.objs.size + 2, s1.heap.objs.size + 3, s1.heap.objs.size, s1.heap.objs.size + 1], _, _, H1, rfl, I2, turn_zipS (x := x) (t := t) sep (Nat.ne_of_lt (Nat.lt_of_lt_of_le hbl (Nat.le_add_right _ _))), ⟨hz, hTI, ⟨_, _, hTO⟩, ⟨_, g1, rfl, rfl⟩, ⟨_, g2, rfl, rfl⟩, Nat.zero_le _⟩, fresh5, q⟩
theorem walk_zipS {K : PySem.W.Frag} {x : Str} {b : Addr} {ys : List V} (hl : ys.length = x.cps.size) : Walk (ItzS K x b) x.cps.size (fun H => SqT K H b ys) (fun i H v H' => ∃ T c y, v = .ref T ∧ H T = none ∧ H' = L2.upd H T (.tup [.str ⟨#[c]⟩, y]) ∧ x.cps[i]? = some c ∧ ys[i]? = some y) := by
  refine ⟨fun i H hi q => ⟨ys, ys[i], q, hl, List.getElem?_eq_getElem (by omega)⟩, fun H q => ⟨ys, q, hl, Nat.le_refl _⟩, fun i H v H' _ q y => ?_⟩
  obtain ⟨T, c, y, h1, h2, h3, h4, h5⟩ := y
  exact ⟨T, c, y, h1, h2, h3, h4, h5 ys q⟩
section
variable {C : Cf} {ca cb : Cat} {ta tb : TE} {da db : DT}
def dZipS (a b : DT) : DI := fun s Q => a s fun d s1 => b s1 fun e s2 => match d, e with
  | .str z, .tuple es => es.length = (signs z).length ∧ Q (prD (signs z) es) s2
  | _, _ => False
theorem simI_zipS (ha : Sim C ca ta da) (hb : Sim C cb tb db) : SimI C true (iZipS C.K (tCons ta (tCons tb tNil))) (dZipS da db) := by
  refine ⟨fun H0 S0 Hs σ H s Q Q' r q k => ha.toE.run H0 S0 Hs σ H s _ _ r q fun Hs1 H1 v d s1 g1 r1 v1 q1 => hb.toE.run H0 S0 Hs1 σ H1 s1 _ _ r1 q1 fun Hs2 H2 w e s2 g2 r2 v2 q2 => ?_⟩
  cases d <;> cases e <;> first | exact q2.elim | skip
  rename_i z es
  have v1' : Rp C.K Hs1 v (.str z) := v1
  have v2' : Rp C.K Hs2 w (.tuple es) := v2
  cases v1'
  cases v2' with
  | @tup y ys _ e3 e4 =>
  obtain ⟨hl, q2⟩ := q2
  have hsl : (signs z).length = z.cps.size := by unfold signs; rw [List.length_map, Array.length_toList]
  have hyl : ys.length = z.cps.size := by rw [e4.len, hl, hsl]
  refine ⟨z, y, ys, rfl, Same.sqT r2.sub e3.sq, hyl, k Hs2 H2 _ _ s2 (g1.trans g2) r2 ?_ q2⟩
  have hpl : (prD (signs z) es).length = z.cps.size := by rw [zip_len, hl, Nat.min_self, hsl]
  refine ⟨_, _, by rw [hpl]; exact walk_zipS hyl, fun H e => Same.sqT e e3.sq, fun i H v H2 H0 S0 Hs σ s hi r e y => ?_⟩
  obtain ⟨T, c, x2, rfl, nT, rfl, f1, f2⟩ := y
  obtain ⟨d', f5, f6⟩ := e4.getV f2
  obtain ⟨Hs2, r2, rp, g⟩ := pair_it r nT (Rp.str ⟨#[c]⟩) (Rp.mono e f6)
  refine ⟨Hs2, _, zip_get ?_ f5, r2, rp, g⟩
  unfold signs
  rw [List.getElem?_map, Array.getElem?_toList, f1]
  rfl
end

/-! ### constants of the module: tuples, tables with texts as keys -/
mutual
def ktIn (K : PySem.W.Frag) : D → Value → Bool
  | .none, .none => true
  | .bool a, .bool b => a == b
  | .int a, .int b _ => decide (a = b)
  | .str a, .str b _ => decide (a = b)
  | .tuple ds, .ref a => (match K.lookup a with
    | some ⟨.type "tuple", none, .seq its _, _⟩ => decide (its.size ≤ 1000) && ktAll K ds its.toList
    | _ => false)
  | _, _ => false
def ktAll (K : PySem.W.Frag) : List D → List Value → Bool
  | [], [] => true
  | d :: ds, u :: us => ktIn K d u && ktAll K ds us
  | _, _ => false
end
mutual
theorem kt_rp {K : PySem.W.Frag} : ∀ (d : D) (u : Value), ktIn K d u = true → ∃ v, RelV v u ∧ ∀ H, Rp K H v d
  | .none, u, h => by
    cases u <;> first | (simp [ktIn] at h; done) | skip
    exact ⟨.non, rfl, fun H => .non⟩
  | .bool a, u, h => by
    cases u <;> first | (simp [ktIn] at h; done) | skip
    simp only [ktIn, beq_iff_eq] at h
    subst h
    exact ⟨.bl _, rfl, fun H => .bl _⟩
  | .int a, u, h => by
    cases u <;> first | (simp [ktIn] at h; done) | skip
    simp only [ktIn, decide_eq_true_eq] at h
    subst h
    exact ⟨.int _, ⟨_, rfl⟩, fun H => .int _⟩
  | .str a, u, h => by
    cases u <;> first | (simp [ktIn] at h; done) | skip
    simp only [ktIn, decide_eq_true_eq] at h
    subst h
    exact ⟨.str _, ⟨_, rfl⟩, fun H => .str _⟩
  | .list ds, u, h => by cases u <;> simp [ktIn] at h
  | .dict ds, u, h => by cases u <;> simp [ktIn] at h
  | .tuple ds, u, h => by
    cases u <;> first | (simp [ktIn] at h; done) | skip
    rename_i a
    unfold ktIn at h
    split at h
    · rename_i its n sl e
      rw [Bool.and_eq_true, decide_eq_true_eq] at h
      obtain ⟨vs, h1, h2⟩ := kt_all ds its.toList h.2
      exact ⟨.ref a, rfl, fun H => .tup (.inr ⟨_, its, n, e, rfl, rfl, rfl, Nat.le_trans h.1 (by decide), h1⟩) (h2 H)⟩
    · cases h
theorem kt_all {K : PySem.W.Frag} : ∀ (ds : List D) (us : List Value), ktAll K ds us = true → ∃ vs, Vals vs us ∧ ∀ H, RpAll K H vs ds
  | [], us, h => by
    cases us with
    | nil => exact ⟨[], .nil, fun H => .nil⟩
    | cons u us => simp [ktAll] at h
  | d :: ds, us, h => by
    cases us with
    | nil => simp [ktAll] at h
    | cons u us =>
      rw [ktAll, Bool.and_eq_true] at h
      obtain ⟨v, h1, h2⟩ := kt_rp d u h.1
      obtain ⟨vs, h3, h4⟩ := kt_all ds us h.2
      exact ⟨v :: vs, .cons h1 h3, fun H => .cons (h2 H) (h4 H)⟩
end
/-- a constant of the module that is a tuple -/
def Gt (K : PySem.W.Frag) (mg : Str → Option Value) (x : Str) (d : D) : Prop := ∃ u, mg x = some u ∧ ktIn K d u = true
theorem Gt.ex {K : PySem.W.Frag} {mg : Str → Option Value} {x : Str} {d : D} (h : Gt K mg x d) : ∃ v u, mg x = some u ∧ RelV v u ∧ ∀ H, Rp K H v d := by
  obtain ⟨u, e, k⟩ := h
  obtain ⟨v, r, q⟩ := kt_rp d u k
  exact ⟨v, u, e, r, q⟩
noncomputable def Gt.v {K : PySem.W.Frag} {mg : Str → Option Value} {x : Str} {d : D} (h : Gt K mg x d) : V := h.ex.choose
theorem Gt.spec {K : PySem.W.Frag} {mg : Str → Option Value} {x : Str} {d : D} (h : Gt K mg x d) : ∃ u, mg x = some u ∧ RelV h.v u ∧ ∀ H, Rp K H h.v d := h.ex.choose_spec
theorem pe_gt {X : Cx} {x : Str} {d : D} {pos : Pos} {K : PySem.W.Frag} {mg : Str → Option Value} (hg : Gl X x) (h : Gt K mg x d) (hm : X.mg = mg := by rfl) (hd : (x == ("__debug__" : Str)) = false := by decide) : PE X (.Name x pos) (tC h.v) := by
  obtain ⟨u, e, r, _⟩ := h.spec
  exact pe_glob hg (by rw [hm]; exact e) r hd
theorem sim_gt {C : Cf} {mg : Str → Option Value} {x : Str} {d : D} (h : Gt C.K mg x d) : Sim C .E (tC h.v) (dC d) := by
  obtain ⟨u, e, r, q⟩ := h.spec
  exact ⟨fun H0 S0 Hs σ H s Q Q' r q' k => k Hs H _ d s Go.refl r (q Hs) q'⟩
/-! tables -/
def findT : List (Str × D) → Str → Option D
  | [], _ => none
  | (k, d) :: r, z => if k = z then some d else findT r z
def tabIn (K : PySem.W.Frag) : List (Str × D) → List DictEntry → Bool
  | [], [] => true
  | (k, d) :: r, e :: es => (match e.key with | .str y _ => decide (k = y) | _ => false) && ktIn K d e.val && tabIn K r es
  | _, _ => false
structure GdAt (w : World) (K : PySem.W.Frag) (mg : Str → Option Value) (x : Str) (tab : List (Str × D)) (a : Addr) : Prop where
  g : mg x = some (.ref a)
  ex : ∃ (es : Array DictEntry) (n : Nat), K.lookup a = some ⟨.type "dict", none, .dict es n, #[]⟩ ∧ PySem.W.KeysLit w.params es.toList ∧ tabIn K tab es.toList = true
  low : (a == sysModules) = false
def Gd (w : World) (K : PySem.W.Frag) (mg : Str → Option Value) (x : Str) (tab : List (Str × D)) : Prop := ∃ a, GdAt w K mg x tab a
theorem tab_find {K : PySem.W.Frag} {z : Str} : ∀ (tab : List (Str × D)) (es : List DictEntry), tabIn K tab es = true → (findT tab z = none ∧ es.find? (·.key.isStr z) = none) ∨ ∃ d e, findT tab z = some d ∧ es.find? (·.key.isStr z) = some e ∧ ktIn K d e.val = true
  | [], [], _ => .inl ⟨rfl, rfl⟩
  | [], _ :: _, h => by simp [tabIn] at h
  | _ :: _, [], h => by simp [tabIn] at h
  | (k, d) :: r, e :: es, h => by
    rw [tabIn, Bool.and_eq_true, Bool.and_eq_true] at h
    obtain ⟨⟨h1, h2⟩, h3⟩ := h
    split at h1
    · rename_i y t ey
      have h1 := of_decide_eq_true h1
      subst h1
      by_cases hz : k = z
      · subst hz
        refine .inr ⟨d, e, if_pos rfl, ?_, h2⟩
        rw [List.find?_cons, ey]
        have : (Value.str k t).isStr k = true := by rw [PySem.W.isStr_of]; simp [Value.isStrOf]
        rw [this]
      · have e1 : findT ((k, d) :: r) z = findT r z := if_neg hz
        have e2 : (e :: es).find? (·.key.isStr z) = es.find? (·.key.isStr z) := by
          rw [List.find?_cons, ey]
          have : (Value.str k t).isStr z = false := by
            rw [PySem.W.isStr_of]
            simp [Value.isStrOf, hz]
            try exact fun q => hz q.symm
          rw [this]
        rw [e1, e2]
        exact tab_find r es h3
    · cases h1
theorem tab_nos {K : PySem.W.Frag} : ∀ (tab : List (Str × D)) (es : List DictEntry), tabIn K tab es = true → es.any (·.refKey) = false
  | [], [], _ => rfl
  | [], _ :: _, h => by simp [tabIn] at h
  | _ :: _, [], h => by simp [tabIn] at h
  | (k, d) :: r, e :: es, h => by
    rw [tabIn, Bool.and_eq_true, Bool.and_eq_true] at h
    obtain ⟨⟨h1, h2⟩, h3⟩ := h
    rw [List.any_cons, tab_nos r es h3, Bool.or_false]
    split at h1
    · rename_i y t ey
      unfold DictEntry.refKey
      rw [ey]
    · cases h1
theorem GdAt.ns {w : World} {K : PySem.W.Frag} {mg : Str → Option Value} {x : Str} {tab : List (Str × D)} {a : Addr} (h : GdAt w K mg x tab a) (z : Str) : (findT tab z = none ∧ PySem.W.nsIn K a z = some none) ∨ ∃ d u, findT tab z = some d ∧ PySem.W.nsIn K a z = some (some u) ∧ ktIn K d u = true := by
  obtain ⟨es, n, l, kl, ti⟩ := h.ex
  unfold PySem.W.nsIn
  rw [l]
  dsimp only
  rcases tab_find (z := z) tab es.toList ti with ⟨h1, h2⟩ | ⟨d, e, h1, h2, h3⟩
  · refine .inl ⟨h1, ?_⟩
    rw [h2]
    dsimp only
    rw [if_neg]
    rw [tab_nos _ _ ti]
    exact Bool.false_ne_true
  · refine .inr ⟨d, e.val, h1, ?_, h3⟩
    rw [h2]
noncomputable def Gd.a {w : World} {K : PySem.W.Frag} {mg : Str → Option Value} {x : Str} {tab : List (Str × D)} (h : Gd w K mg x tab) : Addr := h.choose
theorem Gd.at_ {w : World} {K : PySem.W.Frag} {mg : Str → Option Value} {x : Str} {tab : List (Str × D)} (h : Gd w K mg x tab) : GdAt w K mg x tab h.a := h.choose_spec
section
variable {X : Cx} {w : World} {K : PySem.W.Frag} {mg : Str → Option Value} {x : Str} {tab : List (Str × D)}
theorem pe_tab {pos : Pos} (hg : Gl X x) (h : Gd w K mg x tab) (hm : X.mg = mg := by rfl) (hd : (x == ("__debug__" : Str)) = false := by decide) : PE X (.Name x pos) (tC (.ref h.a)) :=
  pe_glob hg (by rw [hm]; exact h.at_.g) rfl hd
def rTabIn (neg : Bool) (K : PySem.W.Frag) (a : Addr) : R2 := fun x y H Q => ∃ (z : Str) (r : Option Value), x = .str z ∧ y = .ref a ∧ PySem.W.nsIn K a z = some r ∧ Q (.bl (xor neg r.isSome)) H
theorem inTab (h : Gd w K mg x tab) (hK : X.K = K := by rfl) (hw : X.w = w := by rfl) : OpR X (compareOp .In) (rTabIn false K h.a) := by
  subst hK hw
  obtain ⟨es, n, l, kl, ti⟩ := h.at_.ex
  intro pins s σ H x y v u Q I rx ry q
  obtain ⟨z, r, e1, e2, e3, q⟩ := q
  exact op_in_kd ⟨l, kl, h.at_.low⟩ pins s σ H x y v u Q I rx ry ⟨z, r, e1, e2, e3, by simpa using q⟩
theorem ninTab (h : Gd w K mg x tab) (hK : X.K = K := by rfl) (hw : X.w = w := by rfl) : OpR X (compareOp .NotIn) (rTabIn true K h.a) := by
  subst hK hw
  obtain ⟨es, n, l, kl, ti⟩ := h.at_.ex
  intro pins s σ H x y v u Q I rx ry q
  obtain ⟨z, r, e1, e2, e3, q⟩ := q
  exact op_notIn_kd ⟨l, kl, h.at_.low⟩ pins s σ H x y v u Q I rx ry ⟨z, r, e1, e2, e3, by simpa using q⟩
theorem ixTab (hK : X.K = K := by rfl) (hw : X.w = w := by rfl) : IxR X (rIxD K w) := by subst hK hw; exact ix_kdict
end
section
variable {C : Cf} {w : World} {mg : Str → Option Value} {x : Str} {tab : List (Str × D)} {ta : TE} {da : DT} {ca : Cat}
def dTabIn (neg : Bool) (tab : List (Str × D)) (da : DT) : DT := fun s Q => da s fun d s1 => match d with
  | .str z => Q (.bool (xor neg (findT tab z).isSome)) s1
  | _ => False
theorem sim_tabIn (neg : Bool) (h : Gd w C.K mg x tab) (ha : Sim C ca ta da) : Sim C .F (tOp (rTabIn neg C.K h.a) ta (tC (.ref h.a))) (dTabIn neg tab da) := by
  refine ⟨fun H0 S0 Hs σ H s Q Q' r q k => ha.toE.run H0 S0 Hs σ H s _ _ r q fun Hs1 H1 v d s1 g1 r1 v1 q1 => ?_⟩
  cases d <;> first | exact q1.elim | skip
  rename_i z
  have v1' : Rp C.K Hs1 v (.str z) := v1
  cases v1'
  rcases h.at_.ns z with ⟨e1, e2⟩ | ⟨d, u, e1, e2, e3⟩
  · refine ⟨z, none, rfl, rfl, e2, k Hs1 H1 _ (.bool _) s1 g1 r1 (Val.mkP (Rp.bl _) rfl) ?_⟩
    have q1 : Q (.bool (xor neg (findT tab z).isSome)) s1 := q1
    rw [e1] at q1
    exact q1
  · refine ⟨z, some u, rfl, rfl, e2, k Hs1 H1 _ (.bool _) s1 g1 r1 (Val.mkP (Rp.bl _) rfl) ?_⟩
    have q1 : Q (.bool (xor neg (findT tab z).isSome)) s1 := q1
    rw [e1] at q1
    exact q1
def dTabGet (tab : List (Str × D)) (da : DT) : DT := fun s Q => da s fun d s1 => match d with
  | .str z => IxP (findT tab z) fun e => Q e s1
  | _ => False
theorem sim_tabGet (h : Gd w C.K mg x tab) (ha : Sim C ca ta da) : Sim C .E (tOp (rIxD C.K w) (tC (.ref h.a)) ta) (dTabGet tab da) := by
  refine ⟨fun H0 S0 Hs σ H s Q Q' r q k => ha.toE.run H0 S0 Hs σ H s _ _ r q fun Hs1 H1 v d s1 g1 r1 v1 q1 => ?_⟩
  cases d <;> first | exact q1.elim | skip
  rename_i z
  have v1' : Rp C.K Hs1 v (.str z) := v1
  cases v1'
  obtain ⟨⟨e, he, q1⟩⟩ := (show IxP (findT tab z) _ from q1)
  rcases h.at_.ns z with ⟨e1, e2⟩ | ⟨d, u, e1, e2, e3⟩
  · rw [e1] at he; cases he
  · rw [e1] at he
    cases he
    obtain ⟨v, rv, rp⟩ := kt_rp _ u e3
    obtain ⟨es, n, l, kl, ti⟩ := h.at_.ex
    exact ⟨_, z, v, rfl, rfl, ⟨es, n, u, l, kl, e2, rv⟩, k Hs1 H1 v _ s1 g1 r1 (rp Hs1) q1⟩
end
/-! ### keywords in a call -/
def DfK (K : PySem.W.Frag) (mg : Str → Option Value) (x : Str) (st : Stmt) (ps ks : List Str) (n : Nat) : Prop :=
  ∃ (f : Addr) (fd : FuncData), Fun K x x st f fd ∧ KBn K fd ps n ks (fun us ws => us ++ ws) (fun vs zs => vs ++ zs) ∧ mg x = some (.ref f)
def OkK (P : Program) (w : World) (K : PySem.W.Frag) (mg : Str → Option Value) (base : Heap) (k : Nat) (x : Str) (ps ks : List Str) (n : Nat) (sp : Sp) : Prop :=
  ∃ (f : Addr) (fd : FuncData), mg x = some (.ref f) ∧ PySem.W.keepIn K (.ref f) = true ∧ KBn K fd ps n ks (fun us ws => us ++ ws) (fun vs zs => vs ++ zs) ∧ FnG P w K mg base k f fd ps sp
section
variable {P : Program} {w : World} {K : PySem.W.Frag} {mg : Str → Option Value} {base : Heap}
theorem OkK.mono {x : Str} {ps ks : List Str} {n j k : Nat} {sp : Sp} (h : OkK P w K mg base j x ps ks n sp) (l : j ≤ k) : OkK P w K mg base k x ps ks n sp := by
  obtain ⟨f, fd, hm, hk, hb, F⟩ := h
  exact ⟨f, fd, hm, hk, hb, F.mono l⟩
theorem OkK.ofN {x : Str} {st : Stmt} {N ps ks : List Str} {k n m : Nat} {cat : Cat} {M : List Nat} {F : DF} (D' : DfK K mg x st ps ks m) (S' : FnScope N ps (defScope st)) (hn : ps.length = n) (hM : ∀ i ∈ M, n ≤ i ∧ i < N.length)
    (hbody : ∀ (f : Addr) (cdv : Value) (A : Around) (outer : List Env) (s : Shared) (H : Hp) (E : XK), Rm k (A.deeper (envOfC x (defScope st) s.heap.objs.size f cdv)) →
      ∃ t d, PSs (cxOf CX0 P w K mg base N x (defScope st) f cdv A outer s H E).nox (defBody st) t ∧ SimS { K := K, pen := none, ps := 1000, M := M } cat t d ∧ ∀ ds (Q : D → Prop), ds.length = n → F ds Q → d { nx := fun _ => Q .none, rt := fun z _ => Q z } { δ := start' N.length ds, n := 0 }) :
    OkK P w K mg base (k + 1) x ps ks m (spN K n cat F) := by
  obtain ⟨f, fd, F', b, g⟩ := D'
  exact ⟨f, fd, g, F'.kp, b, Fn.ofNE F' S' hn hM fun f cdv A outer s H E hr => by
    obtain ⟨t, d, h1, h2, h3⟩ := hbody f cdv A outer s H E hr
    exact ⟨t, d, h1, h2.e, h3⟩⟩
end
theorem pe_fnK {X : Cx} {k n : Nat} {x : Str} {ps ks : List Str} {sp : Sp} {e : Expr} {es : List Expr} {kws : List Keyword} {t tk : TA} {p pos : Pos} (O : OkK X.prog X.w X.K X.mg X.base k x ps ks n sp) (hr : Rm k X.A) (hg : Gl X x) (ha : PA X (e :: es) t) (hkw : PK X kws tk)
    (hall : (backToKw pos (keywordEach kws X.env)).all (·.1.isSome) = true := by rfl) (hks : (backToKw pos (keywordEach kws X.env)).filterMap (·.1) = ks := by rfl)
    (hdb : (x == ("__debug__" : Str)) = false := by decide) (he : starEach (e :: es) X.env = (false, eval e X.env) :: starEach es X.env := by rfl)
    (hpl : ((backTo pos (starEach (e :: es) X.env)).any (·.1) || (backToKw pos (keywordEach kws X.env)).any (·.1.isNone)) = false := by rfl) :
    PE X (.Call (.Name x p) (e :: es) kws pos) (tCallN n ks.length sp (fun vs zs => vs ++ zs) E0 t tk) := by
  obtain ⟨f, fd, hm, hk, hb, F⟩ := O
  refine ⟨fun pins s σ H Q I h => ?_⟩
  refine wpAny_Call_Name_kw (ld_glob I hg hm ?_ hdb)
  refine PySem.W.callWith_KW (h₀ := X.base) I.ok.mod.kin hk hall (thn (ha.run pos pins s σ H _ I h) fun us s1 ⟨vs, H1, I1, r, q⟩ => ?_) hpl he
  refine thn (hkw.run pos pins s1 σ H1 _ I1 q) fun ws s2 ⟨zs, H2, I2, rz, l1, l2, q2⟩ => ⟨I2.kIn, ?_⟩
  rw [hks]
  have r2 := hb.rel r rz
  refine wpAny_call (codeAny_mono (F.run X.A X.stack s2 H2 ⟨us, ks.zip ws⟩ (us ++ ws) (vs ++ zs) Q E0 hr.toRoom hr.gd I2.env0 (hb.to s2 us ws I2.kIn (r.length.symm.trans l1) (rz.length.symm.trans l2)) r2 q2) fun r s' z => ?_)
  match r, z with
  | .ok (.ret u), z => exact I2.after z
  | .ok .next, z => exact False.elim z
  | .ok .brk, z => exact False.elim z
  | .ok .cont, z => exact False.elim z
  | .error e, z => exact False.elim z
def dApp (a b : DA) : DA := fun s Q => a s fun ds s1 => b s1 fun es s2 => Q (ds ++ es) s2
theorem sim_callK {C : Cf} {n m : Nat} {cat : Cat} {F : DF} {ta tk : TA} {a b : DA} (h : SimA C n ta a) (h' : SimA C m tk b) : Sim C cat (tCallN n m (spN C.K (n + m) cat F) (fun vs zs => vs ++ zs) E0 ta tk) (dCall F (dApp a b)) := by
  refine ⟨fun H0 S0 Hs σ H s Q Q' r q k => h.run H0 S0 Hs σ H s _ _ r q fun Hs1 H1 vs ds s1 g1 r1 v1 l1 q1 => h'.run H0 S0 Hs1 σ H1 s1 _ _ r1 q1 fun Hs2 H2 zs es s2 g2 r2 v2 l2 q2 => ?_⟩
  refine ⟨by rw [v1.len, l1], by rw [v2.len, l2], Hs2, ds ++ es, _, r2.sub, (RpAll.mono g2.st v1).app v2, by rw [List.length_append, l1, l2], q2, fun d Hs' H' v q3 st sb hh nw rv => ?_⟩
  obtain ⟨r3, g3⟩ := r2.step st sb hh nw
  exact k Hs' H' v d s2 (g1.trans (g2.trans g3)) r3 ((rv.val r2).anew fun a e => (g1.trans g2).back a e) q3
/-! ### text.split(text), is of bools -/
section
variable {C : Cf} {ca cb : Cat} {ta tb : TE} {da db : DT}
def dSplit (a b : DT) : DT := fun s Q => a s fun x s1 => match x with
  | .str z => b s1 fun y s2 => (match y with
    | .str c => (c.length == 0) = false ∧ z.length + 2 ≤ sizeLine ∧ Q (.list ((Txt.split z c).map PyData.str)) s2
    | _ => False)
  | _ => False
theorem sim_split (ha : Sim C ca ta da) (hb : Sim C cb tb db) : Sim C .F (tM1 (fun x xs H Q => ∃ a b, x = .str a ∧ xs = [.str b] ∧ (b.length == 0) = false ∧ a.length + 2 ≤ sizeLine ∧ rNewStrs (Txt.split a b) H Q) ta tb) (dSplit da db) := by
  refine ⟨fun H0 S0 Hs σ H s Q Q' r q k => ha.toE.run H0 S0 Hs σ H s _ _ r q fun Hs1 H1 x dx s1 g1 r1 v1 q1 => ?_⟩
  cases dx <;> first | exact q1.elim | skip
  rename_i z
  have v1' : Rp C.K Hs1 x (.str z) := v1
  cases v1'
  refine ⟨⟨_, rfl⟩, hb.toE.run H0 S0 Hs1 σ H1 s1 _ _ r1 q1 fun Hs2 H2 y dy s2 g2 r2 v2 q2 => ?_⟩
  cases dy <;> first | exact q2.elim | skip
  rename_i c
  have v2' : Rp C.K Hs2 y (.str c) := v2
  cases v2'
  refine ⟨z, c, rfl, rfl, q2.1, q2.2.1, fun p np => ?_⟩
  exact k Hs2 _ _ (.list _) s2 ((g1.trans g2).trans (Go.laid np)) (r2.laid np) ((r2.newList np (strs_rp' _)).anew fun a e => (g1.trans g2).back a e) q2.2.2
def isBD : DO := fun x y Q => match x, y with
  | .bool a, .bool b => Q (.bool (decide (a = b)))
  | _, _ => False
theorem opA_isB : OpA C rIsB isBD := by
  intro H0 S0 Hs σ H s x y dx dy Q Q' r hx hy q k
  cases dx <;> cases dy <;> first | exact q.elim | skip
  cases hx; cases hy
  exact ⟨_, _, rfl, rfl, k Hs H _ (.bool _) Go.refl r (Val.mkP (Rp.bl _) rfl) q⟩
end
theorem vals_app : ∀ {vs zs : List V} {us ws : List Value}, Vals vs us → Vals zs ws → Vals (vs ++ zs) (us ++ ws)
  | _, _, _, _, .nil, h => h
  | _, _, _, _, .cons a b, h => .cons a (vals_app b h)

/-! ### methods of a class of one's own: self is the pen -/
/-- a method as it stands behind the top: how its arguments bind -/
def MtB (K : PySem.W.Frag) (B : FuncData → Prop) (C : Addr) (m q : Str) (st : Stmt) : Prop := ∃ (f : Addr) (fd : FuncData) (dvs : List V), FunD K m q (defArgs st) (defBody st) (defScope st) dvs [] f fd ∧ B fd ∧ Meth K C m f
def OkB (P : Program) (w : World) (K : PySem.W.Frag) (mg : Str → Option Value) (base : Heap) (B : FuncData → Prop) (C : Addr) (k : Nat) (m : Str) (ps : List Str) (sp : Sp) : Prop :=
  ∃ (f : Addr) (fd : FuncData), Meth K C m f ∧ B fd ∧ FnG P w K mg base k f fd ps sp
/-- all of them are written -/
abbrev B0 (K : PySem.W.Frag) (ps : List Str) (fd : FuncData) : Prop := Binds K fd ps []
/-- the last ones lack -/
abbrev BD (K : PySem.W.Frag) (ps : List Str) (dvs : List V) (fd : FuncData) : Prop := ∃ ds, Vals dvs ds ∧ Binds K fd ps ds
/-- the last ones by their names -/
abbrev BK (K : PySem.W.Frag) (ps : List Str) (n : Nat) (ks : List Str) (fd : FuncData) : Prop := KBn K fd ps n ks (fun us ws => us ++ ws) (fun vs zs => vs ++ zs)
section
variable {P : Program} {w : World} {K : PySem.W.Frag} {mg : Str → Option Value} {base : Heap} {B B' : FuncData → Prop}
theorem OkB.imp {C : Addr} {k : Nat} {m : Str} {ps : List Str} {sp : Sp} (h : OkB P w K mg base B C k m ps sp) (q : ∀ fd, B fd → B' fd) : OkB P w K mg base B' C k m ps sp := by
  obtain ⟨f, fd, a, b, c⟩ := h
  exact ⟨f, fd, a, q fd b, c⟩
theorem OkB.mono {C : Addr} {j k : Nat} {m : Str} {ps : List Str} {sp : Sp} (h : OkB P w K mg base B C j m ps sp) (l : j ≤ k) : OkB P w K mg base B C k m ps sp := by
  obtain ⟨f, fd, a, b, c⟩ := h
  exact ⟨f, fd, a, b, c.mono l⟩
theorem OkB.ok {C : Addr} {k : Nat} {m : Str} {ps : List Str} {sp : Sp} (h : OkB P w K mg base (B0 K ps) C k m ps sp) : OkM P w K mg base C k m ps sp := h
theorem FunD.okG {x q : Str} {st : Stmt} {f : Addr} {fd : FuncData} {dvs : List V} {kws : List (Str × V)} {N ps : List Str} {k : Nat} {sp : Sp} (F : FunD K x q (defArgs st) (defBody st) (defScope st) dvs kws f fd) (S : FnScope N ps (defScope st)) (len : ∀ vs H Q E, sp vs H Q E → vs.length = ps.length)
    (hbody : ∀ (cdv : Value) (A : Around) (fs : List Env) (s : Shared) (H : Hp) (vs : List V) (Q : VK) (E : XK), Room k (A.deeper (envOfC q (defScope st) s.heap.objs.size f cdv)) → A.guards = some [] → sp vs H Q E →
      ∃ t, PSs (cxOf CX0 P w K mg base N q (defScope st) f cdv A fs s H E).nox (defBody st) t ∧ t { nx := fun _ H' => Q .non H', rt := Q } (start N vs) H) : FnG P w K mg base (k + 1) f fd ps sp := by
  obtain ⟨oc, od, dV, kV, doc, pm, an, cdv, ct, osl, rfl, lk, hcd, _, _⟩ := F.ex
  refine ⟨len, fun A fs s H ar us vs Q E hr hg e0 hb rv hsp => ?_⟩
  have kin : K.In s.heap := e0.mod.kin.keeps fun b o z => (e0.bs b o z).1
  have nl : s.heap.NoLimit := e0.mod.nolimit.keeps fun b o z => (e0.bs b o z).1
  have loc : ∀ y ∈ ps.zip us, (defScope st).names.lookup y.1 = some .local ∨ ((defScope st).names.lookup y.1 = some .cell ∧ ((cellsFrom (s.heap.objs.size + 1) (defScope st).names []).lookup y.1).isSome = true) := by
    rintro ⟨n, v⟩ hy
    exact (S.par n (List.of_mem_zip hy).1).imp_right fun z => ⟨z, PySem.W.cellsFrom_some _ _ _ (.inl z)⟩
  refine codeAny_call_function hr.depth (kin _ _ lk) rfl S.co S.gen rfl (PySem.W.codeRec_of kin hcd) (hb _ _ _ _ (wpAny_newFunctionEnv_cells S.kind loc fun env he s1 x => ?_))
  subst he
  refine ⟨nl.keeps x.toInCall.keep, codeAny_func ?_⟩
  obtain ⟨t, ht, hq⟩ := hbody cdv A fs s H vs Q E (hr.deeper _) hg hsp
  have J0 := inv_start (CX := CX0) (E := E) S hr.hd e0 (len _ _ _ _ hsp) rv x
  refine wpAny_mono (ht.nox.run [] s1 (start N vs) H _ J0 hq) (fun fl s' hs => ?_) (fun _ _ z => z)
  cases fl with
  | ret u =>
    obtain ⟨v, σ', H', J, r', q'⟩ := hs
    exact ⟨v, H', J.os, J.bare, J.base, J.hok, r', q'⟩
  | next =>
    obtain ⟨σ', H', J, q'⟩ := hs
    exact ⟨V.non, H', J.os, J.bare, J.base, J.hok, rfl, q'⟩
  | brk => exact (hs.elim fun _ z => z.elim fun _ z => z.2.elim)
  | cont => exact (hs.elim fun _ z => z.elim fun _ z => z.2.elim)
theorem OkB.mk {m q : Str} {C : Addr} {st : Stmt} {N ps : List Str} {k : Nat} {sp : Sp} (D : MtB K B C m q st) (S : FnScope N ps (defScope st)) (len : ∀ vs H Q E, sp vs H Q E → vs.length = ps.length)
    (hbody : ∀ (f : Addr) (cdv : Value) (A : Around) (outer : List Env) (s : Shared) (H : Hp) (vs : List V) (Q : VK) (E : XK), Rm k (A.deeper (envOfC q (defScope st) s.heap.objs.size f cdv)) → sp vs H Q E →
      ∃ t, PSs (cxOf CX0 P w K mg base N q (defScope st) f cdv A outer s H E).nox (defBody st) t ∧ t { nx := fun _ H' => Q .non H', rt := Q } (start N vs) H) : OkB P w K mg base B C (k + 1) m ps sp := by
  obtain ⟨f, fd, dvs, F, b, g⟩ := D
  exact ⟨f, fd, g, b, FunD.okG F S len fun cdv A outer s H vs Q E hr hg h => hbody f cdv A outer s H vs Q E ⟨hr, hg⟩ h⟩
/-- a method that is never reached -/
theorem OkB.no {m q : Str} {C : Addr} {st : Stmt} {N ps : List Str} {k : Nat} (D : MtB K B C m q st) (S : FnScope N ps (defScope st)) : OkB P w K mg base B C (k + 1) m ps (fun _ _ _ _ => False) := by
  obtain ⟨f, fd, dvs, F, b, g⟩ := D
  obtain ⟨oc, od, dV, kV, doc, pm, an, cdv, ct, osl, rfl, lk, hcd, _, _⟩ := F.ex
  exact ⟨f, _, g, b, ⟨fun vs H Q E h => h.elim, fun A fs s H ar us vs Q E hr hg e0 hb rv hsp => hsp.elim⟩⟩
end
section
variable {X : Cx}
/-- o.m(e, ..) with defaults that fill up -/
theorem pe_mthD {pl : Sem Bool} {C : Addr} {k : Nat} {m : Str} {ps : List Str} {dvs : List V} {sp : Sp} {o e : Expr} {es : List Expr} {ta : TE} {t : TA} {apos pos : Pos} (he : PE X o ta) (c : Cls X.K C) (O : OkB X.prog X.w X.K X.mg X.base (BD X.K ps dvs) C k m ps sp) (hr : Rm k X.A) (ha : PA X (e :: es) t)
    (hst : starEach (e :: es) X.env = (false, eval e X.env) :: starEach es X.env := by rfl) (hpl : (backTo pos (starEach es X.env)).any (·.1) = false := by rfl)
    (ht : eval (.Call (.Attribute o m apos) (e :: es) [] pos) X.env = (do
      let ov ← eval o X.env
      standAt apos.atName
      let (f, first) ← holding [ov] (getMethod ov m pl)
      callWith pos f first (backTo pos (starEach (e :: es) X.env)) (backToKw pos (keywordEach [] X.env))) := by rfl) :
    PE X (.Call (.Attribute o m apos) (e :: es) [] pos) (tMeth C m sp dvs E0 ta t) := by
  obtain ⟨f, fd, hm, ⟨ds, hd, hb⟩, F⟩ := O
  refine ⟨fun pins s σ H Q I h => PySem.W.methodCall_KW (pl := pl) (thn (he.run pins s σ H _ I h) fun u s1 ⟨y, H1, I1, ry, a, dx, fs, ey, ea, l, q⟩ => ?_) ht⟩
  subst ey
  obtain rfl : u = Value.ref a := ry
  refine getmeth_ok I1 ea c hm l (PySem.W.callWith_K (first := [.ref a]) (h₀ := X.base) I.ok.mod.kin hm.kp (thn (ha.run pos pins s1 σ H1 _ I1 q) fun us s2 ⟨vs, H2, I2, r, q2⟩ => ⟨I2.kIn, ?_⟩) hst hpl)
  have r2 : Vals ((V.ref a :: vs) ++ dvs) ((Value.ref a :: us) ++ ds) := vals_app (.cons rfl r) hd
  have hl : ((Value.ref a :: us) ++ ds).length = ps.length := by rw [← r2.length]; exact F.len _ _ _ _ q2
  refine wpAny_call (codeAny_mono (F.run X.A X.stack s2 H2 ⟨.ref a :: us, []⟩ ((.ref a :: us) ++ ds) ((.ref a :: vs) ++ dvs) Q E0 hr.toRoom hr.gd I2.env0 (hb s2 (.ref a :: us) I2.kIn hl) r2 q2) fun r s' z => ?_)
  match r, z with
  | .ok (.ret u), z => exact I2.after z
  | .ok .next, z => exact False.elim z
  | .ok .brk, z => exact False.elim z
  | .ok .cont, z => exact False.elim z
  | .error e, z => exact False.elim z
/-- o.m(e, .., k = v, ..) -/
def tMethK (C : Addr) (m : Str) (n nk : Nat) (sp : Sp) (ta : TE) (t tk : TA) : TE := fun σ H Q => ta σ H fun x H1 => ∃ a dx fs, x = .ref a ∧ H1 a = some (.ins C dx fs) ∧ fs.lookup m = none ∧
  t σ H1 fun vs H2 => tk σ H2 fun zs H3 => vs.length + 1 = n ∧ zs.length = nk ∧ sp (x :: (vs ++ zs)) H3 Q E0
theorem pe_mthK {pl : Sem Bool} {C : Addr} {k n : Nat} {m : Str} {ps ks : List Str} {sp : Sp} {o e : Expr} {es : List Expr} {kws : List Keyword} {ta : TE} {t tk : TA} {apos pos : Pos} (he : PE X o ta) (c : Cls X.K C) (O : OkB X.prog X.w X.K X.mg X.base (BK X.K ps n ks) C k m ps sp) (hr : Rm k X.A) (ha : PA X (e :: es) t) (hkw : PK X kws tk)
    (hall : (backToKw pos (keywordEach kws X.env)).all (·.1.isSome) = true := by rfl) (hks : (backToKw pos (keywordEach kws X.env)).filterMap (·.1) = ks := by rfl)
    (hst : starEach (e :: es) X.env = (false, eval e X.env) :: starEach es X.env := by rfl)
    (hpl : ((backTo pos (starEach (e :: es) X.env)).any (·.1) || (backToKw pos (keywordEach kws X.env)).any (·.1.isNone)) = false := by rfl)
    (ht : eval (.Call (.Attribute o m apos) (e :: es) kws pos) X.env = (do
      let ov ← eval o X.env
      standAt apos.atName
      let (f, first) ← holding [ov] (getMethod ov m pl)
      callWith pos f first (backTo pos (starEach (e :: es) X.env)) (backToKw pos (keywordEach kws X.env))) := by rfl) :
    PE X (.Call (.Attribute o m apos) (e :: es) kws pos) (tMethK C m n ks.length sp ta t tk) := by
  obtain ⟨f, fd, hm, hb, F⟩ := O
  refine ⟨fun pins s σ H Q I h => PySem.W.methodCall_KW (pl := pl) (thn (he.run pins s σ H _ I h) fun u s1 ⟨y, H1, I1, ry, a, dx, fs, ey, ea, l, q⟩ => ?_) ht⟩
  subst ey
  obtain rfl : u = Value.ref a := ry
  refine getmeth_ok I1 ea c hm l (PySem.W.callWith_KW (first := [.ref a]) (h₀ := X.base) I.ok.mod.kin hm.kp hall (thn (ha.run pos pins s1 σ H1 _ I1 q) fun us s2 ⟨vs, H2, I2, r, q2⟩ => ?_) hpl hst)
  refine thn (hkw.run pos pins s2 σ H2 _ I2 q2) fun ws s3 ⟨zs, H3, I3, rz, l1, l2, q3⟩ => ⟨I3.kIn, ?_⟩
  rw [hks]
  have rr : Vals (V.ref a :: vs) (Value.ref a :: us) := .cons rfl r
  have r2 : Vals ((V.ref a :: vs) ++ zs) ((Value.ref a :: us) ++ ws) := vals_app rr rz
  refine wpAny_call (codeAny_mono (F.run X.A X.stack s3 H3 ⟨.ref a :: us, ks.zip ws⟩ ((.ref a :: us) ++ ws) ((.ref a :: vs) ++ zs) Q E0 hr.toRoom hr.gd I3.env0 (hb.to s3 (.ref a :: us) ws I3.kIn (by rw [← rr.length]; exact l1) (rz.length.symm.trans l2)) r2 q3) fun r s' z => ?_)
  match r, z with
  | .ok (.ret u), z => exact I3.after z
  | .ok .next, z => exact False.elim z
  | .ok .brk, z => exact False.elim z
  | .ok .cont, z => exact False.elim z
  | .error e, z => exact False.elim z
end
abbrev DFM := List D → Nat → D → (D → Nat → D → Prop) → Prop
/-- a method's promise: f lays the fields out by those that stay, the number and the other one; F fs: fs the trees of those that stay -/
def spM (K : PySem.W.Frag) (Cc : Addr) (f : List V → V → V → List (Str × V)) (n : Nat) (cat : Cat) (F : List D → DFM) : Sp := fun vs H Q _ => ∃ Hs p c k h ls fs vs' ds Q0, vs = .ref p :: vs' ∧ ls.length = fs.length ∧ PenK K (.obj Cc (f ls) (ls.zip fs)) Hs H p c k h ∧ Hs p = none ∧ Same Hs H ∧ RpAll K Hs vs' ds ∧ ds.length = n ∧ F fs ds k h Q0 ∧
  ∀ d k' h' Hs' H' v, Q0 d k' h' → Same Hs Hs' → Same Hs' H' → But p H H' → (∀ b, Hs b = none → Hs' b ≠ none → H b = none) → Hs' p = none → PenK K (.obj Cc (f ls) (ls.zip fs)) Hs' H' p c k' h' → RV K H Hs' H' cat v d → Q v H'
section
variable {P : Program} {w : World} {K : PySem.W.Frag} {mg : Str → Option Value} {base : Heap} {B : FuncData → Prop}
theorem OkB.ofM {m q : Str} {Cc : Addr} {f : List V → V → V → List (Str × V)} {st : Stmt} {N ps : List Str} {k n : Nat} {cat : Cat} {M : List Nat} {F : List D → DFM} (D' : MtB K B Cc m q st) (S' : FnScope N ps (defScope st)) (hn : ps.length = n + 1) (hM : ∀ i ∈ M, n + 1 ≤ i ∧ i < N.length) (hN : 0 < N.length)
    (hbody : ∀ (f0 : Addr) (cdv : Value) (A : Around) (outer : List Env) (s : Shared) (H : Hp) (E : XK) (p c : Addr) (ls : List V) (fs : List D), ls.length = fs.length → Rm k (A.deeper (envOfC q (defScope st) s.heap.objs.size f0 cdv)) →
      ∃ t d, PSs (cxOf CX0 P w K mg base N q (defScope st) f0 cdv A outer s H E).nox (defBody st) t ∧ SimS { K := K, pen := some (p, c), ps := 0, M := M, pk := .obj Cc (f ls) (ls.zip fs) } cat t d ∧ ∀ ds m h (Q : D → Nat → D → Prop), ds.length = n → F fs ds m h Q → d { nx := fun s => Q .none s.n s.h, rt := fun z s => Q z s.n s.h } { δ := none :: start' (N.length - 1) ds, n := m, h := h }) :
    OkB P w K mg base B Cc (k + 1) m ps (spM K Cc f n cat F) := by
  refine OkB.mk D' S' (fun vs H Q E h => ?_) (fun f0 cdv A outer s H vs Q E hr h => ?_)
  · obtain ⟨Hs, p, c, m, h, ls, fs, vs', ds, Q0, rfl, _, _, _, _, h2, h3, _⟩ := h
    rw [List.length_cons, h2.len, h3, hn]
  obtain ⟨Hs, p, c, m, h, ls, fs, vs', ds, Q0, rfl, hl, pe, hsp, h1, h2, h3, h4, h5⟩ := h
  obtain ⟨t, d, ht, hs, hd⟩ := hbody f0 cdv A outer s H E p c ls fs hl hr
  refine ⟨t, ht, ?_⟩
  obtain ⟨N0, N', rfl⟩ : ∃ a b, N = a :: b := by
    cases N with
    | nil => exact absurd hN (by simp)
    | cons a b => exact ⟨a, b, rfl⟩
  obtain ⟨sl, ss⟩ := start_slot N' h2
  have es : L2.start (N0 :: N') (V.ref p :: vs') = some (.ref p) :: L2.start N' vs' := by
    unfold L2.start
    rw [List.map_cons, List.length_cons, List.length_cons, Nat.add_sub_add_right]
    rfl
  have en : (N0 :: N').length - 1 = N'.length := by rw [List.length_cons]; rfl
  rw [en] at hd
  have nn : ∀ i, i ∈ M → (some (V.ref p) :: L2.start N' vs')[i]? = some none := fun i m => by
    have := hM i m
    rw [List.length_cons] at this
    obtain ⟨j, rfl⟩ : ∃ j, i = j + 1 := ⟨i - 1, by omega⟩
    show (L2.start N' vs')[j]? = some none
    exact start_none N' (by rw [h2.len, h3]; omega) (by omega)
  obtain ⟨_, ep⟩ := pe.at_
  have ec : H c ≠ none := by
    obtain ⟨_, e, _⟩ := pe
    rw [e]
    exact fun z => nomatch z
  rw [es]
  refine hs.e.run H Hs Hs _ H _ { nx := fun s => Q0 .none s.n s.h, rt := fun z s => Q0 z s.n s.h } _ ?_ (hd ds m h Q0 h3 h4) (fun M' Hs' σ' H' s' r q => ?_) (fun M' Hs' σ' H' s' v dd r rv q => ?_) (fun _ _ _ _ _ q => q.elim) (fun _ _ _ _ _ q => q.elim) (fun _ _ _ _ _ _ q => q.elim)
  · refine ⟨by rw [List.length_cons, sl]; rfl, h1, fun i dd e _ => ?_, fun i dd e m => ?_, fun i m e => nn i m, fun i j a m1 m2 e1 e2 => ?_, fun p' c' e => ?_, fun b hb => (nomatch hb), Same.refl _, fun b o _ e => e, fun b e1 e2 => absurd e1 e2, fun y m => (nomatch m), TbS.nil, fun _ m => (nomatch m)⟩
    · cases i with
      | zero => cases e
      | succ j => exact ss j dd e
    · cases i with
      | zero => cases e
      | succ j =>
        obtain ⟨v, e1, _⟩ := ss j dd e
        have := nn (j + 1) m
        have : (L2.start N' vs')[j]? = some none := this
        rw [this] at e1
        cases e1
    · rw [nn i m1] at e1
      cases e1
    · cases e
      exact ⟨rfl, pe, hsp, (by rw [ep]; simp), ec, rfl, fun z => absurd (hM 0 z).1 (by omega), fun z => (nomatch z), fun z => (nomatch z)⟩
  · have ip : ∀ b, ¬ IsPen { K := K, pen := some (p, c), ps := 0, M := M', pk := .obj Cc (f ls) (ls.zip fs) } b ↔ b ≠ p := fun b => ⟨fun h e => h (.inl (.inl ⟨c, by rw [e]⟩)), fun h z => z.elim (fun z => z.elim (fun ⟨c', e⟩ => h (by cases e; rfl)) (fun z => nomatch z)) (fun z => nomatch z)⟩
    obtain ⟨f1, f2, f3, _⟩ := r.pn p c rfl
    exact h5 .none s'.n s'.h Hs' H' .non q r.s0 r.sub (fun b o nb e => r.h0 b o ((ip b).mpr nb) e) r.new f3 f2 (rvNon cat)
  · have ip : ∀ b, ¬ IsPen { K := K, pen := some (p, c), ps := 0, M := M', pk := .obj Cc (f ls) (ls.zip fs) } b ↔ b ≠ p := fun b => ⟨fun h e => h (.inl (.inl ⟨c, by rw [e]⟩)), fun h z => z.elim (fun z => z.elim (fun ⟨c', e⟩ => h (by cases e; rfl)) (fun z => nomatch z)) (fun z => nomatch z)⟩
    obtain ⟨f1, f2, f3, _⟩ := r.pn p c rfl
    exact h5 dd s'.n s'.h Hs' H' v q r.s0 r.sub (fun b o nb e => r.h0 b o ((ip b).mpr nb) e) r.new f3 f2 rv
end
/-- the state behind a call: where self is -/
structure Slf (C : Cf) (Cc : Addr) (f : List V → V → V → List (Str × V)) (ls : List V) (fs : List D) : Prop where
  pen : C.pen ≠ none
  ps : C.ps = 0
  len : ls.length = fs.length
  pk : C.pk = .obj Cc (f ls) (ls.zip fs)
section
variable {C : Cf} {Cc : Addr} {f : List V → V → V → List (Str × V)} {ls : List V} {fs : List D} {cat ca : Cat} {te ta tk : TE} {t : DT}
theorem Slf.at_ (L : Slf C Cc f ls fs) {H0 S0 Hs : Hp} {σ : L2.St} {H : Hp} {s : S} (r : R C H0 S0 Hs σ H s) : ∃ p c, C.pen = some (p, c) ∧ σ[0]? = some (some (.ref p)) ∧ PenK C.K (.obj Cc (f ls) (ls.zip fs)) Hs H p c s.n s.h ∧ Hs p = none := by
  obtain ⟨⟨p, c⟩, ep⟩ : ∃ pc, C.pen = some pc := by
    cases e : C.pen with
    | none => exact absurd e L.pen
    | some pc => exact ⟨pc, rfl⟩
  obtain ⟨e1, e2, e3, _⟩ := r.pn p c ep
  rw [L.ps] at e1
  rw [L.pk] at e2
  exact ⟨p, c, ep, e1, e2, e3⟩
def dCallM (F : List D → DFM) (fs : List D) (a : DA) : DT := fun s Q => a s fun ds s1 => F fs ds s1.n s1.h fun d k h => Q d { s1 with n := k, h := h }
theorem meth_run {n : Nat} {F : List D → DFM} (L : Slf C Cc f ls fs) {H0 S0 Hs1 : Hp} {σ : L2.St} {H1 : Hp} {s1 : S} {p c : Addr} {vs : List V} {ds : List D} {Q : D → S → Prop} {Q' : VK} (ep : C.pen = some (p, c)) (r1 : R C H0 S0 Hs1 σ H1 s1) (v1 : RpAll C.K Hs1 vs ds) (l1 : ds.length = n) (q1 : F fs ds s1.n s1.h fun d k h => Q d { s1 with n := k, h := h })
    (k : ∀ Hs' H' v d s', Go C σ Hs1 H1 Hs' H' → R C H0 S0 Hs' σ H' s' → Val C H0 H1 Hs' σ H' cat v d → Q d s' → Q' v H') : spM C.K Cc f n cat F (V.ref p :: vs) H1 Q' E0 := by
  obtain ⟨p', c', ep', e1, e2, e3⟩ := L.at_ r1
  rw [ep] at ep'
  cases ep'
  refine ⟨Hs1, p, c, s1.n, s1.h, ls, fs, vs, ds, _, rfl, L.len, e2, e3, r1.sub, v1, l1, q1, fun d k' h' Hs' H' v q2 st sb hh nw np pe rv => ?_⟩
  obtain ⟨r2, g2⟩ := r1.stepP (y := h') ep st sb hh nw np (by rw [L.pk]; exact pe)
  exact k Hs' H' v d _ g2 r2 (rv.val r1) q2
theorem sim_callM {n : Nat} {F : List D → DFM} {m : Str} {ta : TA} {a : DA} (L : Slf C Cc f ls fs) (hm : ∀ x y, (f ls x y).lookup m = none) (h : SimA C n ta a) : Sim C cat (tMeth Cc m (spM C.K Cc f n cat F) [] E0 (tVar 0) ta) (dCallM F fs a) := by
  refine ⟨fun H0 S0 Hs σ H s Q Q' r q k => ?_⟩
  obtain ⟨p, c, ep, e1, e2, e3⟩ := L.at_ r
  obtain ⟨⟨hv, _, ei⟩, _⟩ := e2
  refine ⟨.ref p, e1, p, c, _, rfl, ei, hm _ _, h.run H0 S0 Hs σ H s _ _ r q fun Hs1 H1 vs ds s1 g1 r1 v1 l1 q1 => ?_⟩
  rw [List.append_nil]
  exact meth_run L ep r1 v1 l1 q1 fun Hs' H' v d s' g2 r2 v2 q2 => k Hs' H' v d s' (g1.trans g2) r2 (v2.anew fun a e => g1.back a e) q2
/-- the last argument by default: None -/
def dNone1 : DA := fun s Q => Q [.none] s
theorem sim_callMD {n : Nat} {F : List D → DFM} {m : Str} {ta : TA} {a : DA} (L : Slf C Cc f ls fs) (hm : ∀ x y, (f ls x y).lookup m = none) (h : SimA C n ta a) : Sim C cat (tMeth Cc m (spM C.K Cc f (n + 1) cat F) [.non] E0 (tVar 0) ta) (dCallM F fs (dApp a dNone1)) := by
  refine ⟨fun H0 S0 Hs σ H s Q Q' r q k => ?_⟩
  obtain ⟨p, c, ep, e1, e2, e3⟩ := L.at_ r
  obtain ⟨⟨hv, _, ei⟩, _⟩ := e2
  refine ⟨.ref p, e1, p, c, _, rfl, ei, hm _ _, h.run H0 S0 Hs σ H s _ _ r q fun Hs1 H1 vs ds s1 g1 r1 v1 l1 q1 => ?_⟩
  exact meth_run L ep r1 (v1.app (.cons .non .nil)) (by rw [List.length_append, l1]; rfl) q1 fun Hs' H' v d s' g2 r2 v2 q2 => k Hs' H' v d s' (g1.trans g2) r2 (v2.anew fun a e => g1.back a e) q2
theorem sim_callMK {n nk : Nat} {F : List D → DFM} {m : Str} {ta tk : TA} {a b : DA} (L : Slf C Cc f ls fs) (hm : ∀ x y, (f ls x y).lookup m = none) (h : SimA C n ta a) (h' : SimA C nk tk b) : Sim C cat (tMethK Cc m (n + 1) nk (spM C.K Cc f (n + nk) cat F) (tVar 0) ta tk) (dCallM F fs (dApp a b)) := by
  refine ⟨fun H0 S0 Hs σ H s Q Q' r q k => ?_⟩
  obtain ⟨p, c, ep, e1, e2, e3⟩ := L.at_ r
  obtain ⟨⟨hv, _, ei⟩, _⟩ := e2
  refine ⟨.ref p, e1, p, c, _, rfl, ei, hm _ _, h.run H0 S0 Hs σ H s _ _ r q fun Hs1 H1 vs ds s1 g1 r1 v1 l1 q1 => h'.run H0 S0 Hs1 σ H1 s1 _ _ r1 q1 fun Hs2 H2 zs es s2 g2 r2 v2 l2 q2 => ⟨by rw [v1.len, l1], by rw [v2.len, l2], ?_⟩⟩
  exact meth_run L ep r2 ((RpAll.mono g2.st v1).app v2) (by rw [List.length_append, l1, l2]) q2 fun Hs' H' v d s' g3 r3 v3 q3 => k Hs' H' v d s' (g1.trans (g2.trans g3)) r3 (v3.anew fun a e => (g1.trans g2).back a e) q3
/-! fields -/
def dFd (fs : List D) (j : Nat) : DT := fun s Q => match fs[j]? with
  | some d => Q d s
  | none => False
theorem sim_fld {x : Str} (j : Nat) (L : Slf C Cc f ls fs) (c : Cls C.K Cc) (n : NoAttr C.K Cc x) (hf : ∀ a b, (f ls a b).lookup x = some (ls.getD j .non)) : Sim C .E (tFld C.K (tVar 0) x) (dFd fs j) := by
  refine ⟨fun H0 S0 Hs σ H s Q Q' r q k => ?_⟩
  obtain ⟨p, c', ep, e1, e2, e3⟩ := L.at_ r
  obtain ⟨⟨hv, _, ei⟩, _, _, z⟩ := e2
  unfold dFd at q
  split at q
  · rename_i d e
    have hj : j < fs.length := (List.getElem?_eq_some_iff.mp e).1
    have hj' : j < ls.length := by rw [L.len]; exact hj
    have ev : ls.getD j .non = ls[j] := by rw [List.getD_eq_getElem?_getD, List.getElem?_eq_getElem hj']; rfl
    have ed : d = fs[j] := by rw [List.getElem?_eq_getElem hj] at e; exact (Option.some.inj e).symm
    have m : (ls[j], fs[j]) ∈ ls.zip fs := by
      have hz : j < (ls.zip fs).length := by rw [List.length_zip]; omega
      have := List.getElem_mem hz
      rwa [List.getElem_zip] at this
    refine ⟨.ref p, e1, p, Cc, c', _, _, rfl, ei, c, n, hf _ _, k Hs H _ d s Go.refl r ?_ q⟩
    rw [ev, ed]
    exact z _ m
  · exact q.elim
def dCnt : DT := fun s Q => Q (.int (s.n : Nat)) s
theorem sim_cnt {x : Str} (L : Slf C Cc f ls fs) (c : Cls C.K Cc) (n : NoAttr C.K Cc x) (hf : ∀ a b, (f ls a b).lookup x = some a) : Sim C .F (tFld C.K (tVar 0) x) dCnt := by
  refine ⟨fun H0 S0 Hs σ H s Q Q' r q k => ?_⟩
  obtain ⟨p, c', ep, e1, e2, e3⟩ := L.at_ r
  obtain ⟨⟨hv, _, ei⟩, _, _, z⟩ := e2
  exact ⟨.ref p, e1, p, Cc, c', _, _, rfl, ei, c, n, hf _ _, k Hs H _ (.int (s.n : Nat)) s Go.refl r (Val.mkP (Rp.int _) rfl) q⟩
def dOth : DT := fun s Q => Q s.h s
theorem sim_oth {x : Str} (L : Slf C Cc f ls fs) (c : Cls C.K Cc) (n : NoAttr C.K Cc x) (hf : ∀ a b, (f ls a b).lookup x = some b) : Sim C .E (tFld C.K (tVar 0) x) dOth := by
  refine ⟨fun H0 S0 Hs σ H s Q Q' r q k => ?_⟩
  obtain ⟨p, c', ep, e1, e2, e3⟩ := L.at_ r
  obtain ⟨⟨hv, hr, ei⟩, _, _, z⟩ := e2
  exact ⟨.ref p, e1, p, Cc, c', _, _, rfl, ei, c, n, hf _ _, k Hs H _ s.h s Go.refl r hr q⟩
/-- self's object is laid anew -/
theorem R.putSelf (L : Slf C Cc f ls fs) {H0 S0 Hs : Hp} {σ : L2.St} {H : Hp} {s : S} {p c : Addr} {k : Nat} {y : V} {h : D} (r : R C H0 S0 Hs σ H s) (ep : C.pen = some (p, c)) (hy : Rp C.K Hs y h) :
    R C H0 S0 Hs σ (L2.upd H p (.ins Cc c (f ls (.int (k : Int)) y))) { s with n := k, h := h } ∧ Go C σ Hs H Hs (L2.upd H p (.ins Cc c (f ls (.int (k : Int)) y))) := by
  obtain ⟨p', c', ep', e1, ⟨_, e2, ne, z⟩, e3⟩ := L.at_ r
  rw [ep] at ep'
  cases ep'
  have bt : But p H (L2.upd H p (.ins Cc c (f ls (.int (k : Int)) y))) := fun b o n e => by rw [upd_ne n]; exact e
  refine r.stepP ep (Same.refl _) (fun b o e => ?_) bt (fun b h1 h2 => absurd h1 h2) e3 ?_
  · rw [upd_ne (fun z => by subst z; rw [e3] at e; cases e)]
    exact r.sub _ _ e
  · rw [L.pk]
    exact ⟨⟨y, hy, upd_same⟩, by rw [upd_ne ne]; exact e2, ne, z⟩
def dInc (j : Nat) : DSt := fun E s => E.nx { s with n := s.n + j }
theorem simS_inc {x : Str} {j : Nat} (L : Slf C Cc f ls fs) (c : Cls C.K Cc) (n : NoAttr C.K Cc x) (hf : ∀ a b, (f ls a b).lookup x = some a) (hp : ∀ a b z, putF x z (f ls a b) = f ls z b) (hl : ∀ a b, (f ls a b).length < 1000) :
    SimS C cat (sFldAug C.K (tVar 0) (tC (.int (j : Nat))) rAdd x) (dInc j) := by
  refine ⟨fun H0 S0 Hs σ H s E D' r q k => ?_⟩
  obtain ⟨p, c', ep, e1, e2, e3⟩ := L.at_ r
  obtain ⟨⟨hv, hr, ei⟩, _, _, z⟩ := e2
  obtain ⟨r2, g2⟩ := r.putSelf L (k := s.n + j) ep hr
  refine ⟨.ref p, e1, p, Cc, c', _, _, rfl, ei, c, n, hf _ _, _, _, rfl, rfl, c', _, ei, hl _ _, ?_⟩
  rw [hp, show ((s.n : Int) + (j : Nat)) = ((s.n + j : Nat) : Int) by omega]
  exact k.nx Hs σ _ _ r2 q
/-- self.x = e, the other thing -/
def dSetO (a : DT) : DSt := fun E s => a s fun d s1 => E.nx { s1 with h := d }
theorem simS_setO {x : Str} (L : Slf C Cc f ls fs) (c : Cls C.K Cc) (n : NoAttr C.K Cc x) (hp : ∀ a b z, putF x z (f ls a b) = f ls a z) (hl : ∀ a b, (f ls a b).length < 1000) (h : Sim C ca te t) : SimS C cat (sFld C.K (tVar 0) te x) (dSetO t) := by
  refine ⟨fun H0 S0 Hs σ H s E D' r q k => h.toE.run H0 S0 Hs σ H s _ _ r q fun Hs1 H1 v d s1 g1 r1 v1 q1 => ?_⟩
  obtain ⟨p, c', ep, e1, e2, e3⟩ := L.at_ r1
  obtain ⟨⟨hv, hr, ei⟩, _, _, z⟩ := e2
  obtain ⟨r2, g2⟩ := r1.putSelf L (k := s1.n) ep (show Rp C.K Hs1 v d from v1)
  refine ⟨.ref p, e1, p, Cc, c', _, rfl, ei, c, n, hl _ _, ?_⟩
  rw [hp]
  exact k.nx Hs1 σ _ _ r2 q1
end
/-! lookups in written-out fields -/
theorem lk_hit {x : Str} {v : V} {r : List (Str × V)} : ((x, v) :: r).lookup x = some v := by rw [List.lookup_cons, beq_self_eq_true]
theorem lk_skip {x y : Str} {v : V} {r : List (Str × V)} (h : (x == y) = false) : ((y, v) :: r).lookup x = r.lookup x := by rw [List.lookup_cons, h]
theorem pf_hit {x : Str} {v z : V} {r : List (Str × V)} : putF x z ((x, v) :: r) = (x, z) :: r := by
  show (if x = x then _ else _) = _
  rw [if_pos rfl]
theorem pf_skip {x y : Str} {v z : V} {r : List (Str × V)} (h : ¬ y = x) : putF x z ((y, v) :: r) = (y, v) :: putF x z r := by
  show (if y = x then _ else _) = _
  rw [if_neg h]
/-! a, b, c = a list -/
theorem pgU {X : Cx} {es : List Expr} {k : Nat} {t : TGs} (K : PySem.W.Frag) (eK : X.K = K) (n : Nat) {pos : Pos} (hc : X.calm = true) (h : PGs X es t) (hn : (assignEach es X.env).length = n := by rfl) (hst : (assignEach es X.env).findIdx? (·.1) = none := by rfl) : PG X (.Tuple es k pos) (gUnl K n t) := by
  subst eK
  exact pg_unl hc h hn hst
def sUnl (n : Nat) (a : List D → S → (S → Prop) → Prop) : D → S → (S → Prop) → Prop := fun d s Q => match d with
  | .list ds => ds.length = n ∧ a ds s Q
  | _ => False
theorem simG_unl {C : Cf} {ts : List Nat} {n : Nat} {gs : TGs} {x : List D → S → (S → Prop) → Prop} (h : SimGs C ts gs x) : SimG C false ts (gUnl C.K n gs) (sUnl n x) := by
  refine ⟨fun H0 S0 Hs σ H s v d Q Q' r hv q k => ?_⟩
  cases d <;> first | exact q.elim | skip
  cases (show Rp C.K Hs v _ from hv) with
  | @lst p xs _ e1 e2 =>
  exact ⟨p, xs, rfl, SqL.of (r.sub _ _ e1), by rw [e2.len]; exact q.1, h.run H0 S0 Hs σ H s _ _ _ _ r e2 q.2 k⟩
/-! a method by what K holds -/
section
variable {K : PySem.W.Frag} {x q : Str} {st : Stmt} {f : Addr} {oc : Value} {od an : Option Addr} {osl : Array (Option Value)} {kV doc pm cdv ct : Value}
theorem funD_mk (l : K.lookup f = some ⟨oc, od, .func (PySem.W.fnOf x q (defArgs st) (defBody st) (defScope st) .none kV doc pm an cdv ct), osl⟩) (c : PySem.W.codeIn K cdv q = true) (k : PySem.W.keepIn K (.ref f) = true) :
    FunD K x q (defArgs st) (defBody st) (defScope st) [] [] f (PySem.W.fnOf x q (defArgs st) (defBody st) (defScope st) .none kV doc pm an cdv ct) :=
  ⟨⟨oc, od, .none, kV, doc, pm, an, cdv, ct, osl, rfl, l, c, .inl ⟨rfl, rfl⟩, .inl rfl⟩, k⟩
theorem funD_mk1 {T : Addr} {ocT : Value} {odT : Option Addr} {nT : Nat} {slT : Array (Option Value)} (l : K.lookup f = some ⟨oc, od, .func (PySem.W.fnOf x q (defArgs st) (defBody st) (defScope st) (.ref T) kV doc pm an cdv ct), osl⟩) (c : PySem.W.codeIn K cdv q = true) (k : PySem.W.keepIn K (.ref f) = true)
    (lT : K.lookup T = some ⟨ocT, odT, .seq #[.none] nT, slT⟩) :
    FunD K x q (defArgs st) (defBody st) (defScope st) [.non] [] f (PySem.W.fnOf x q (defArgs st) (defBody st) (defScope st) (.ref T) kV doc pm an cdv ct) :=
  ⟨⟨oc, od, .ref T, kV, doc, pm, an, cdv, ct, osl, rfl, l, c, .inr ⟨by simp, T, _, [.none], nT, rfl, lT, rfl, .cons rfl .nil⟩, .inl rfl⟩, k⟩
theorem vals_nil' {ds : List Value} (h : Vals [] ds) : ds = [] := by cases h; rfl
end

/-! ### sorted(d.items()), d from ints to ints -/
open L2.DX (itemsO pget)
def tItems (td : TE) : TE := fun σ H Q => td σ H fun x H1 => ∃ a kvs, x = .ref a ∧ Rd H1 a (.dK kvs) ∧ ∀ p, H1 p = none → Q (.ref p) (L2.upd H1 p (itemsO p a))
theorem rd_raw {X : Cx} {pins : List (Addr × Obj)} {σ : L2.St} {H : Hp} {s : Shared} (I : Inv X pins σ H s) {a : Addr} {kvs : List (Key × V)} (hd : Rd H a (.dK kvs)) :
    (a == sysModules) = false ∧ ∃ (o : Obj) (es : Array DictEntry) (ep : Nat) (vs : List (Key × Value)), s.heap.get? a = some o ∧ o.ExactDict ∧ o.data = .dict es ep ∧ KV kvs vs ∧ Pairs (mixKind X.prog X.w) es.toList vs ∧ kvs.length ≤ sizeLine := by
  obtain ⟨z, lo, vs, rel, dd⟩ := dk_rd I.hok hd
  obtain ⟨o, es, ep, h1, h2, h3, _, h5, _⟩ := dd
  exact ⟨lo, o, es, ep, vs, h1, h2, h3, rel, h5, z⟩
theorem pe_itemsV {X : Cx} {o : Expr} {apos cpos : Pos} {td : TE} (ho : PE X o td) (hbase : attributeBase o "items" X.env (eval o X.env) = eval o X.env := by rfl) (hline : (apos.endLine == cpos.line) = true := by rfl) :
    PE X (.Call (.Attribute o "items" apos) [] [] cpos) (tItems td) := by
  refine ⟨fun pins s σ H Q I h => ?_⟩
  refine wpAny_Call_method (T := "dict") (id := "dict.items") hbase rfl hline PySem.F.plainAttrs_dict PySem.F.slot_dict_items PySem.F.type_dict_items (thn (ho.run pins s σ H _ I h) fun u s1 ⟨x, H1, I1, rx, a, kvs, ex, hd, q⟩ => ?_)
  subst ex
  obtain rfl : u = Value.ref a := rx
  obtain ⟨t1, t2, _⟩ := isD_at I1 (.inl ⟨kvs, hd⟩)
  refine ⟨t1, t2, ?_⟩
  obtain ⟨lo, o, es, ep, vs, h1, h2, h3, _⟩ := rd_raw I1 hd
  show wpAny _ _ (callWith cpos (.builtin "dict.items") [.ref a] [] []) _ X.xe s1
  refine Calls.callWith_builtin rfl (PySem.evalArgs_none (DT.callItems (es := es) (ep := ep) lo ⟨o, h1, h2, h3⟩ ?_))
  have hf : H1 s1.heap.objs.size = none := I1.hok.fresh (Nat.le_refl _)
  exact ⟨.ref s1.heap.objs.size, _, I1.laid (t' := s1.toks) (fun b u e => Heap.get?_push_of_some _ e) (Nat.le_refl _) (L2.DX.itemsO_ok (Heap.get?_push_size _ rfl)), rfl, q _ hf⟩
def ipO (q : Int × Int) : Key × V := (.inl q.1, .int q.2)
theorem pairs_ix {K : Type} [DecidableEq K] {P : Program} {w : World} {knd : KeyKind P w K} : ∀ {es : List DictEntry} {kvs : List (K × Value)} {j : Nat} {e : DictEntry}, Pairs knd es kvs → es[j]? = some e → ∃ kv, kvs[j]? = some kv ∧ knd.is kv.1 e.key = true ∧ e.val = kv.2
  | _, _, j, e, .nil, h => by simp at h
  | _, _, 0, e, .cons a b _, h => by
    simp only [List.getElem?_cons_zero] at h
    cases h
    exact ⟨_, rfl, a, b⟩
  | _, _, j + 1, e, .cons _ _ t, h => by
    simp only [List.getElem?_cons_succ] at h
    obtain ⟨kv, h1, h2⟩ := pairs_ix t h
    exact ⟨kv, by rw [List.getElem?_cons_succ]; exact h1, h2⟩
theorem pairs_len {K : Type} [DecidableEq K] {P : Program} {w : World} {knd : KeyKind P w K} : ∀ {es : List DictEntry} {kvs : List (K × Value)}, Pairs knd es kvs → es.length = kvs.length
  | _, _, .nil => rfl
  | _, _, .cons _ _ t => by rw [List.length_cons, List.length_cons, pairs_len t]
def adrOf : Value → Addr
  | .ref b => b
  | _ => 0
def pairOf (h : Heap) (v : Value) : Int × Int := match h.get? (adrOf v) with
  | some o => (match o.data with
    | .seq its _ => (match its.toList with
      | [.int a _, .int b _] => (a, b)
      | _ => (0, 0))
    | _ => (0, 0))
  | none => (0, 0)
theorem takeZ {X : Cx} {pins : List (Addr × Obj)} {σ : L2.St} {H0 : Hp} {s : Shared} {h' : Heap} {tk : Nat} {P : Addr → HO → Prop} (I0 : Inv X pins σ H0 s) : ∀ (L : List Addr) (H1 : Hp), Inv X pins σ H1 { s with heap := h', toks := tk } → L.Nodup →
    (∀ a ∈ L, s.heap.objs.size ≤ a ∧ H1 a = none ∧ ∃ o, P a o ∧ ∀ H2, ObjOk X.prog X.w H2 h' a o) →
    ∃ H2, Inv X pins σ H2 { s with heap := h', toks := tk } ∧ (∀ b o, H1 b = some o → H2 b = some o) ∧ ∀ a ∈ L, ∃ o, P a o ∧ H2 a = some o
  | [], H1, I1, _, _ => ⟨H1, I1, fun _ _ e => e, fun _ h => nomatch h⟩
  | a :: L, H1, I1, hn, h => by
    obtain ⟨hb, hnone, o, hP, ok⟩ := h a (List.mem_cons_self ..)
    have I2 : Inv X pins σ (L2.upd H1 a o) { s with heap := h', toks := tk } := I1.take (h' := h') (t' := tk) (fun b ob _ e => e) (I0.fpOk hb hnone) (ok _)
    rw [List.nodup_cons] at hn
    obtain ⟨H2, I3, g, q⟩ := takeZ I0 L (L2.upd H1 a o) I2 hn.2 fun c hc => by
      obtain ⟨c1, c2, c3⟩ := h c (List.mem_cons_of_mem _ hc)
      exact ⟨c1, by rw [upd_ne (fun z => hn.1 (by rw [← z]; exact hc))]; exact c2, c3⟩
    refine ⟨H2, I3, fun b o e => g b o (by rw [upd_ne (ne_of_none e hnone)]; exact e), fun c hc => ?_⟩
    rcases List.mem_cons.mp hc with rfl | hc
    · exact ⟨o, hP, g _ _ upd_same⟩
    · exact q c hc
def rSortII : List V → Hp → VK → Prop := fun xs H Q => ∃ (p a : Addr) (ps : List (Int × Int)), xs = [.ref p] ∧ H p = some (itemsO p a) ∧ Rd H a (.dK (ps.map ipO)) ∧
  ∀ (H' : Hp) (l : Addr) (zs : List (Addr × (Int × Int))), Same H H' → H l = none → H' l = some (.lst (zs.map fun z => V.ref z.1)) → (zs.map (·.2)).Perm ps → SrtO.Srtd SrtO.lexB (zs.map (·.2)) →
    (∀ z ∈ zs, H z.1 = none ∧ z.1 ≠ l ∧ ∃ o, H' z.1 = some (.frz o (.tup [.int z.2.1, .int z.2.2])) ∧ o.dict = none) → Q (.ref l) H'
theorem cr_sortII {X : Cx} (hc : X.calm = true) : CallR X (.builtin "sorted") rSortII := by
  intro pins s σ H xs us Q I r h
  obtain ⟨p, a, ps, rfl, hp, ha, q⟩ := h
  obtain rfl := Vals.ref1 r
  have view : s.heap.IsItemsView p a := (show ObjOk X.prog X.w H s.heap p (itemsO p a) from I.hok p _ hp).1
  obtain ⟨lo, o, es, ep, vs, ho, hx, hdat, rel, hpr, hz⟩ := rd_raw I ha
  rw [List.length_map] at hz
  have l1 : ps.length = vs.length := by
    have := Paired.length rel
    rwa [List.length_map] at this
  have l2 : es.size = vs.length := by
    rw [← Array.length_toList]
    exact pairs_len hpr
  refine DT.sortedI (es := es) (ep := ep) (I.ok.hd hc) view ⟨o, ho, hx, hdat⟩ (by omega) fun h' tk as hk hlt hl hG => ?_
  have lap : as.length = ps.length := by omega
  have nd : as.Nodup := List.Pairwise.imp (fun h => Nat.ne_of_lt h) hG.rise
  have pr : ∀ (j : Nat) (b : Addr), as[j]? = some b → ∃ (e : Int × Int) (t t' : Tok), ps[j]? = some e ∧ h'.get? b = some (tupObj [Value.int e.1 t, Value.int e.2 t']) := by
    intro j b hj
    obtain ⟨en, he, hg⟩ := hG.pairs j b hj
    obtain ⟨kv, e1, e2, e3⟩ := pairs_ix hpr (by rw [Array.getElem?_toList]; exact he)
    obtain ⟨y, f1, f2, f3⟩ := pget rel e1
    rw [List.getElem?_map] at f1
    cases hq : ps[j]? with
    | none => rw [hq] at f1; cases f1
    | some e =>
      rw [hq] at f1
      have f1' : ipO e = y := Option.some.inj f1
      subst f1'
      have f2' : (Sum.inl e.1 : Key) = kv.1 := f2
      obtain ⟨t', f3'⟩ := (show ∃ t', kv.2 = Value.int e.2 t' from f3)
      rw [← f2'] at e2
      rcases keyIs_shape (show L2.keyIs (Sum.inl e.1) en.key = true from e2) with ⟨i, t, ek, ev⟩ | ⟨z, t, ek, ev⟩
      · cases ek
        refine ⟨e, t, t', rfl, ?_⟩
        rw [hg, ev, e3, f3']
        rfl
      · cases ek
  have kp : ∀ (j : Nat) (b : Addr) (e : Int × Int), as[j]? = some b → ps[j]? = some e → pairOf h' (.ref b) = e := by
    intro j b e hj he
    obtain ⟨e', t, t', h1, h2⟩ := pr j b hj
    rw [he] at h1
    cases h1
    unfold pairOf adrOf
    rw [h2]
    rfl
  have hob : (h'.push { cls := .type "list", data := .seq (as.map Value.ref).toArray }).get? h'.objs.size = some (seqObj "list" (as.map Value.ref).toArray 0) := Heap.get?_push_size _ rfl
  have kb : ∀ b o, s.heap.get? b = some o → (h'.push { cls := .type "list", data := .seq (as.map Value.ref).toArray }).get? b = some o := fun b o e => Heap.get?_push_of_some _ (hk b o e)
  have ne0 : ∀ b o, h'.get? b = some o → b ≠ h'.objs.size := fun b o e => Nat.ne_of_lt (Heap.lt_size e)
  generalize hh2 : h'.push { cls := .type "list", data := .seq (as.map Value.ref).toArray } = h2 at hob kb ⊢
  have ka : ∀ b o, h'.get? b = some o → h2.get? b = some o := fun b o e => by rw [← hh2]; exact Heap.get?_push_of_some _ e
  have at_ : ∀ v ∈ as.map Value.ref, ∃ (j : Nat) (b : Addr) (e : Int × Int) (t t' : Tok), v = .ref b ∧ as[j]? = some b ∧ ps[j]? = some e ∧ h'.get? b = some (tupObj [Value.int e.1 t, Value.int e.2 t']) ∧ pairOf h' v = e := by
    intro v hv'
    obtain ⟨b, hb, rfl⟩ := List.mem_map.mp hv'
    obtain ⟨j, hj⟩ := List.mem_iff_getElem?.mp hb
    obtain ⟨e, t, t', he, hg⟩ := pr j b hj
    exact ⟨j, b, e, t, t', rfl, hj, he, hg, kp j b e hj he⟩
  have mp : (as.map Value.ref).map (pairOf h') = ps := by
    apply List.ext_getElem?
    intro j
    rw [List.getElem?_map, List.getElem?_map]
    cases hj : as[j]? with
    | none =>
      have : ps[j]? = none := by rw [List.getElem?_eq_none_iff] at hj ⊢; omega
      rw [this]
      rfl
    | some b =>
      obtain ⟨e, _, _, he, _⟩ := pr j b hj
      rw [he]
      show some (pairOf h' (.ref b)) = some e
      rw [kp j b e hj he]
  refine wpAny_call_entry PyProof.Rows.slot_list_sort ⟨_, hob, rfl⟩ PyProof.Rows.entry_list_sort
    (SrtO.list_sort_ord (s := { s with heap := h2, toks := tk }) (ltv := fun v u => SrtO.lexB (pairOf h' v) (pairOf h' u)) (SrtO.swo_lex (pairOf h')) hob (by rw [List.length_map]; omega) (fun h2' => SrtO.pairs_sortableO (by omega) (fun v hv => ?_) fun o e => ?_) fun out o1 o2 => ⟨.none, rfl, ?_⟩) (PyProof.Rows.args_list_sort _)
  · obtain ⟨j, b, e, t, t', rfl, hj, he, hg, hk'⟩ := at_ v hv
    rw [hk']
    exact ⟨b, _, t, t', 0, rfl, ka _ _ hg, rfl, rfl⟩
  · have e' : some o = some (seqObj "list" (as.map Value.ref).toArray 0) := e.symm.trans hob
    cases e'
    intro c
    exact absurd (Value.type.inj c) (by decide)
  · show EP X pins σ Q (.ref h'.objs.size) { s with heap := sortedHeap h2 h'.objs.size (as.map Value.ref) out.toArray, toks := tk }
    have perm : out.Perm (as.map Value.ref) := o2.perm
    have ato : ∀ v ∈ out, ∃ (b : Addr) (e : Int × Int) (t t' : Tok), v = .ref b ∧ b ∈ as ∧ h'.get? b = some (tupObj [Value.int e.1 t, Value.int e.2 t']) ∧ pairOf h' v = e := by
      intro v hv
      obtain ⟨j, b, e, t, t', h1, h2, h3, h4, h5⟩ := at_ v (perm.mem_iff.mp hv)
      exact ⟨b, e, t, t', h1, List.mem_of_getElem? h2, h4, h5⟩
    have kF : ∀ b o, b ≠ h'.objs.size → h2.get? b = some o → (sortedHeap h2 h'.objs.size (as.map Value.ref) out.toArray).get? b = some o := fun b o hb e => (PyProof.Rows.sortedHeap_old hb (Heap.lt_size e)).trans e
    have kS : ∀ b o, s.heap.get? b = some o → (sortedHeap h2 h'.objs.size (as.map Value.ref) out.toArray).get? b = some o := fun b o e => kF b o (ne0 _ _ (hk b o e)) (kb b o e)
    obtain ⟨eF, heF⟩ := PyProof.Rows.sortedHeap_at (vs := as.map Value.ref) (out := out.toArray) hob
    have I1 : Inv X pins σ H { s with heap := sortedHeap h2 h'.objs.size (as.map Value.ref) out.toArray, toks := tk } := I.kept (t' := tk) kS
    have hn0 : H h'.objs.size = none := I.hok.fresh (Nat.le_of_lt hlt)
    have rv : Vals (out.map fun v => V.ref (adrOf v)) out := by
      have := vals_maps (fun v => V.ref (adrOf v)) (fun v => v) out fun v hv => by
        obtain ⟨b, e, t, t', rfl, _⟩ := ato v hv
        exact (show RelV (V.ref b) (Value.ref b) from rfl)
      rwa [List.map_id'] at this
    have hlen : (out.map fun v => V.ref (adrOf v)).length ≤ sizeLine := by
      rw [List.length_map, perm.length_eq, List.length_map]
      omega
    have I2 : Inv X pins σ (L2.upd H h'.objs.size (.lst (out.map fun v => V.ref (adrOf v)))) { s with heap := sortedHeap h2 h'.objs.size (as.map Value.ref) out.toArray, toks := tk } :=
      I1.take (h' := sortedHeap h2 h'.objs.size (as.map Value.ref) out.toArray) (t' := tk) (fun b ob _ e => e) (I.fpOk (Nat.le_of_lt hlt) hn0) ⟨hlen, out, eF, rv, heF⟩
    have abv : ∀ b ∈ as, s.heap.objs.size ≤ b ∧ b ≠ h'.objs.size ∧ H b = none := fun b hb => by
      have g1 := hG.above b hb
      obtain ⟨j, hj⟩ := List.mem_iff_getElem?.mp hb
      obtain ⟨_, _, _, _, hg⟩ := pr j b hj
      exact ⟨Nat.le_of_lt g1, ne0 _ _ hg, I.hok.fresh (Nat.le_of_lt g1)⟩
    obtain ⟨H2, I3, g, qt⟩ := takeZ (P := fun b u => ∃ o, u = .frz o (.tup [.int (pairOf h' (.ref b)).1, .int (pairOf h' (.ref b)).2]) ∧ o.dict = none) I as _ I2 nd fun b hb => by
      obtain ⟨j, hj⟩ := List.mem_iff_getElem?.mp hb
      obtain ⟨e, t, t', he, hg⟩ := pr j b hj
      obtain ⟨a1, a2, a3⟩ := abv b hb
      refine ⟨a1, by rw [upd_ne a2]; exact a3, _, ⟨tupObj [Value.int e.1 t, Value.int e.2 t'], rfl, rfl⟩, fun H2 => ?_⟩
      rw [kp j b e hj he]
      have hF := kF b _ a2 (ka _ _ hg)
      exact ⟨hF, (by show 2 ≤ sizeLine; rw [sizeLine_eq]; omega), [Value.int e.1 t, Value.int e.2 t'], .cons ⟨t, rfl⟩ (.cons ⟨t', rfl⟩ .nil), _, hF, rfl, _, rfl⟩
    refine ⟨.ref h'.objs.size, H2, I3, rfl, q H2 h'.objs.size (out.map fun v => (adrOf v, pairOf h' v)) (fun b o e => g b o (by rw [upd_ne (ne_of_none e hn0)]; exact e)) hn0 ?_ ?_ ?_ fun z hz => ?_⟩
    · rw [List.map_map]
      exact g _ _ upd_same
    · rw [List.map_map]
      show (out.map (pairOf h')).Perm ps
      rw [← mp]
      exact perm.map _
    · rw [List.map_map]
      show SrtO.Srtd SrtO.lexB (out.map (pairOf h'))
      unfold SrtO.Srtd at o1 ⊢
      rw [List.pairwise_map]
      exact o1
    · obtain ⟨v, hv, rfl⟩ := List.mem_map.mp hz
      obtain ⟨b, e, t, t', rfl, hb, hg, he⟩ := ato v hv
      obtain ⟨a1, a2, a3⟩ := abv b hb
      obtain ⟨u, ⟨o, rfl, od⟩, hu⟩ := qt b hb
      exact ⟨a3, a2, o, hu, od⟩
def intPairs : List (D × D) → Option (List (Int × Int))
  | [] => some []
  | (.int i, .int j) :: r => (intPairs r).map ((i, j) :: ·)
  | _ => none
theorem intPairs_rp {K : PySem.W.Frag} {H : Hp} : ∀ {kvs : List (Key × V)} {ds : List (D × D)} {ps : List (Int × Int)}, RpKV K H kvs ds → intPairs ds = some ps → kvs = ps.map ipO
  | _, _, _, .nil, e => by cases e; rfl
  | _, _, _, .cons (k := k) (d := d) (ds := ds) a b, e => by
    cases k with
    | inr z => exfalso; have e' : (none : Option (List (Int × Int))) = some _ := e; cases e'
    | inl i =>
      cases d <;> first | (exfalso; have e' : (none : Option (List (Int × Int))) = some _ := e; cases e'; done) | skip
      rename_i j
      cases a
      have e' : (intPairs ds).map ((i, j) :: ·) = some _ := e
      rw [Option.map_eq_some_iff] at e'
      obtain ⟨ms, e1, rfl⟩ := e'
      rw [intPairs_rp b e1]
      rfl
def ipT (q : Int × Int) : D := .tuple [.int q.1, .int q.2]
def dSortIt (a : DT) : DT := fun s Q => a s fun d s1 => match d with
  | .dict kvs => ∃ ps, intPairs kvs = some ps ∧ ∀ qs, qs.Perm ps → SrtO.Srtd SrtO.lexB qs → Q (.list (qs.map ipT)) s1
  | _ => False
theorem sim_sortIt {C : Cf} {ca : Cat} {te : TE} {t : DT} (h : Sim C ca te t) : Sim C .F (tCB rSortII (tCons (tItems te) tNil)) (dSortIt t) := by
  classical
  refine ⟨fun H0 S0 Hs σ H s Q Q' r q k => h.run H0 S0 Hs σ H s _ _ r q fun Hs1 H1 v d s1 g1 r1 v1 q1 => ?_⟩
  have rd := v1.rd r1.sub
  cases d <;> first | exact q1.elim | skip
  rename_i kvs
  obtain ⟨a, ls, rfl, e1, e2⟩ := Rd'.dict rd
  obtain ⟨ps, e3, q1⟩ := q1
  obtain rfl := intPairs_rp e2 e3
  refine ⟨a, _, rfl, e1, fun p np => ?_⟩
  have np' : Same H1 (L2.upd H1 p (itemsO p a)) := same_upd np
  refine ⟨p, a, ps, rfl, upd_same, rd_same np' e1, fun H' l zs sm nl hl hp hs hz => ?_⟩
  have up : ∀ b, L2.upd H1 p (itemsO p a) b = none → H1 b = none := fun b e => by
    cases q : H1 b with
    | none => rfl
    | some o => rw [np' _ _ q] at e; cases e
  let Hs' : Hp := fun b => if (∃ z ∈ zs, z.1 = b) then H' b else Hs1 b
  have hh : Same H1 H' := np'.trans sm
  have n1 : ∀ b, H1 b = none → Hs1 b = none := fun b e => by
    cases q : Hs1 b with
    | none => rfl
    | some o => rw [r1.sub _ _ q] at e; cases e
  have st : Same Hs1 Hs' := fun b o e => by
    show (if (∃ z ∈ zs, z.1 = b) then H' b else Hs1 b) = some o
    rw [if_neg]
    · exact e
    · rintro ⟨z, hm, rfl⟩
      rw [n1 _ (up _ (hz z hm).1)] at e
      cases e
  have sb : Same Hs' H' := fun b o e => by
    have e : (if (∃ z ∈ zs, z.1 = b) then H' b else Hs1 b) = some o := e
    by_cases c : ∃ z ∈ zs, z.1 = b
    · rw [if_pos c] at e; exact e
    · rw [if_neg c] at e; exact hh _ _ (r1.sub _ _ e)
  have nw : ∀ b, Hs1 b = none → Hs' b ≠ none → H1 b = none := fun b e1 e2 => by
    by_cases c : ∃ z ∈ zs, z.1 = b
    · obtain ⟨z, hm, rfl⟩ := c
      exact up _ (hz z hm).1
    · exact absurd ((show Hs' b = Hs1 b from if_neg c).trans e1) e2
  obtain ⟨r2, g2⟩ := r1.step st sb hh nw
  have hl0 : H1 l = none := up l nl
  have hsl : Hs' l = none := by
    show (if (∃ z ∈ zs, z.1 = l) then H' l else Hs1 l) = none
    rw [if_neg]
    · exact n1 _ hl0
    · rintro ⟨z, hm, e⟩
      exact (hz z hm).2.1 e
  have rp : ∀ ys : List (Addr × (Int × Int)), (∀ z ∈ ys, z ∈ zs) → RpAll C.K Hs' (ys.map fun z => V.ref z.1) ((ys.map (·.2)).map ipT) := fun ys => by
    induction ys with
    | nil => exact fun _ => .nil
    | cons y ys ih =>
      intro hy
      obtain ⟨_, _, o, ho, od⟩ := hz y (hy y (List.mem_cons_self ..))
      have hs' : Hs' y.1 = some (.frz o (.tup [.int y.2.1, .int y.2.2])) := by
        show (if (∃ z ∈ zs, z.1 = y.1) then H' y.1 else Hs1 y.1) = _
        rw [if_pos ⟨y, hy y (List.mem_cons_self ..), rfl⟩]
        exact ho
      exact .cons (Rp.tup (TqT.of hs' od) (.cons (.int _) (.cons (.int _) .nil))) (ih fun z hm => hy z (List.mem_cons_of_mem _ hm))
  refine k Hs' H' _ (.list _) s1 (g1.trans g2) r2 ((RV.val (H := H1) ?_ r1).anew fun a e => g1.back a e) (q1 _ hp hs)
  exact ⟨l, _, rfl, hl, hsl, hl0, .lst (rp zs fun _ m => m)⟩
/-! ### sorted(d), d's keys ints -/
def sortID : DF := fun ds Q => match ds with
  | [d] => (match d with
    | .dict kvs => ∃ ks : List Int, kvs.map Prod.fst = ks.map PyData.int ∧ ks.length < 64 ∧ ∀ ys : List Int, ys.Perm ks → ys.Pairwise (· ≤ ·) → Q (.list (ys.map PyData.int))
    | _ => False)
  | _ => False
theorem keysI_map {K : PySem.W.Frag} {H : Hp} : ∀ {kvs : List (Key × V)} {ds : List (D × D)} {ks : List Int}, RpKV K H kvs ds → ds.map Prod.fst = ks.map PyData.int → kvs.map (·.1) = ks.map Sum.inl
  | _, _, [], .nil, _ => rfl
  | _, _, k :: ks, .nil, e => by cases e
  | _, _, [], .cons a b, e => by cases e
  | _, _, k :: ks, .cons (k := kk) a b, e => by
    rw [List.map_cons, List.map_cons] at e
    injection e with e1 e2
    rw [List.map_cons, List.map_cons, keysI_map b e2]
    cases kk with
    | inr i => cases e1
    | inl z => cases e1; rfl
theorem ints_rp' {K : PySem.W.Frag} {H : Hp} : ∀ ys : List Int, RpAll K H (ys.map V.int) (ys.map PyData.int)
  | [] => .nil
  | y :: ys => .cons (.int y) (ints_rp' ys)
theorem caA_sortI {C : Cf} : CaA C (fun xs H Q => ∃ (a : Addr) (kvs : List (Key × V)) (ks : List Int), xs = [.ref a] ∧ Rd H a (.dK kvs) ∧ kvs.map (·.1) = ks.map Sum.inl ∧ ks.length < 64 ∧
    ∀ (ys : List Int) (p : Addr), ys.Perm ks → ys.Pairwise (· ≤ ·) → H p = none → Q (.ref p) (upd H p (.lst (ys.map V.int)))) sortID := by
  intro H0 S0 Hs σ H s vs ds Q Q' r hd q k
  match vs, ds, hd with
  | [v], [d], ⟨h, _⟩ =>
    cases d <;> first | exact q.elim | skip
    obtain ⟨a, ls, rfl, e1, e2⟩ := Rd'.dict h
    obtain ⟨ks, e3, hl, q⟩ := q
    exact ⟨a, ls, ks, rfl, e1, keysI_map e2 e3, hl, fun ys p hp hs np => k Hs _ _ (.list _) (Go.laid np) (r.laid np) (r.newList np (ints_rp' ys)) (q ys hp hs)⟩
  | [], [], _ => exact q.elim
  | _ :: _ :: _, _ :: _ :: _, _ => exact q.elim

/-! ### list.insert; a comprehension with two fors -/
section
variable {C : Cf}
theorem RpAll.ins {K : PySem.W.Frag} {H : Hp} {xs : List V} {ds : List D} {v : V} {d : D} (n : Nat) (h : RpAll K H xs ds) (hv : Rp K H v d) : RpAll K H (xs.take n ++ [v] ++ xs.drop n) (ds.take n ++ [d] ++ ds.drop n) :=
  ((h.take n).app (.cons hv .nil)).app (h.drop n)
def insL (ds : List D) (n : Nat) (d : D) : List D := ds.take n ++ [d] ++ ds.drop n
def insM : DM := fun ds es Q => match es with
  | [i, e] => (match i with
    | .int i => ds.length < sizeLine ∧ 0 ≤ i ∧ i < 2 ^ 63 ∧ Q .none (insL ds i.toNat e)
    | _ => False)
  | _ => False
theorem mtA_ins : MtA C (fun x vs H Q => ∃ (l : Addr) (xs : List V) (i : Int) (y : V), x = .ref l ∧ vs = [.int i, y] ∧ H l = some (.lst xs) ∧ xs.length < sizeLine ∧ 0 ≤ i ∧ i < 2 ^ 63 ∧
    Q .non (upd H l (.lst (xs.take i.toNat ++ [y] ++ xs.drop i.toNat)))) insM := by
  intro Hs H a xs ds vs es Q Q' sub h1 h2 h3 q k
  match vs, es, h3 with
  | [v, u], [d, e], .cons h4 (.cons h5 .nil) =>
    cases d <;> first | exact q.elim | skip
    cases h4
    rename_i i
    obtain ⟨hl, h0, h6, q⟩ := q
    exact ⟨a, xs, i, u, rfl, rfl, h1, by rw [h2.len]; exact hl, h0, h6, k _ .none _ _ (h2.ins i.toNat h5) .non q⟩
  | [], [], _ => exact q.elim
  | [_], [_], _ => exact q.elim
  | _ :: _ :: _ :: _, _ :: _ :: _ :: _, _ => exact q.elim
end
section
variable {C : Cf} {te : TE} {t : DT} {ca : Cat}
def lcD2 (g : D → S → (S → Prop) → Prop) (c : DB) (it1 : DI) (g1 : D → S → (S → Prop) → Prop) (c1 : DB) (e : DT) (vs vs1 : List Nat) (Q : List D → S → Prop) : List D → List D → S → Prop
  | [], acc, s => Q acc s
  | d :: ds, acc, s => g d s fun s1 => c s1 fun k s2 => if k = true then it1 s2 fun items1 s3 => acc.length + items1.length ≤ sizeLine ∧ lcD g1 c1 e vs1 (fun acc' s4 => lcD2 g c it1 g1 c1 e vs vs1 Q ds acc' (wipeS s4 vs)) items1 acc (wipeS s3 vs1) else lcD2 g c it1 g1 c1 e vs vs1 Q ds acc (wipeS s2 vs)
def dLc2 (it : DI) (g : D → S → (S → Prop) → Prop) (c : DB) (it1 : DI) (g1 : D → S → (S → Prop) → Prop) (c1 : DB) (e : DT) (vs vs1 : List Nat) : DT := fun s Q => it s fun items s1 => lcD2 g c it1 g1 c1 e vs vs1 (fun acc s2 => Q (.list acc) s2) items [] (wipeS s1 vs)
theorem sim_lc2 {bw bw1 : Bool} {wi wi1 : TI} {it it1 : DI} {tl tl1 vs vs1 : List Nat} {g g1 : TG} {x x1 : D → S → (S → Prop) → Prop} {tt tt1 : TT} {c c1 : DB} (hi : SimI C bw wi it) (hg : SimG C bw tl g x) (ht : SimT C tt c) (hi1 : SimI C bw1 wi1 it1) (hg1 : SimG C bw1 tl1 g1 x1) (ht1 : SimT C tt1 c1)
    (he : Sim C ca te t) (hv : ∀ j, j ∈ tl → j ∈ vs) (hv1 : ∀ j, j ∈ tl1 → j ∈ vs1) (h11 : ∀ j, j ∈ vs1 → j ∈ vs) (hM : ∀ v ∈ vs, v ∉ C.M) (hp : ∀ v ∈ vs, C.Nf v) :
    Sim C .F (tLc2 wi g tt wi1 g1 tt1 te vs vs1) (dLc2 it x c it1 x1 c1 t vs vs1) := by
  refine ⟨fun H0 S0 Hs σ H s Q Q' r q k => hi.run H0 S0 Hs σ H s _ _ r q fun Hs1 H1 J items s1 ga r1 io q1 => fun L nL => ?_⟩
  obtain ⟨G, Y, W, hG, hY⟩ := io
  obtain ⟨l0, l1, l2, l3⟩ := r1.free0 nL
  have hM1 : ∀ v ∈ vs1, v ∉ C.M := fun v m => hM v (h11 v m)
  have hp1 : ∀ v ∈ vs1, C.Nf v := fun v m => hp v (h11 v m)
  have ow : ∀ b, Own C (L2.wipe σ vs) b → Own C σ b := own_of hM fun j h => wipe_out h
  have lw : ¬ Own C (L2.wipe σ vs) L := fun z => l2 (ow L z)
  let Pv : Nat → Hp → Prop := fun i H => ∃ Hs s accV accD, R C H0 Hs1 Hs (L2.wipe σ vs) H s ∧ H L = some (.lst accV) ∧ Hs L = none ∧ RpAll C.K Hs accV accD ∧ Go C σ Hs1 H1 Hs H ∧ (∀ v ∈ vs, ∀ d, s.δ[v]? ≠ some (some d)) ∧ lcD2 x c it1 x1 c1 t vs vs1 (fun acc s2 => Q (.list acc) s2) (items.drop i) accD s
  refine ⟨fun i m H => m = items.length - i ∧ i ≤ items.length ∧ Pv i H, ⟨items.length, rfl, Nat.zero_le _, Hs1, wipeS s1 vs, [], [], ((r1.laid nL).wipe hM hp).base, upd_same, l1, .nil, Go.laid nL, fun v m d => wipeL_in m d, q1⟩, ?_⟩
  rintro i m H ⟨rfl, hle, pv⟩
  have gG : G H := by
    obtain ⟨Hs, s, _, _, r, _⟩ := pv
    exact hG H (r.s0.trans r.sub)
  by_cases hlt : i < items.length
  · refine .inr ⟨W.goes i H hlt gG, Pv (i + 1), fun H' p' => ⟨items.length - (i + 1), by omega, rfl, hlt, p'⟩, fun v H' yy => ?_⟩
    have y := W.yields i H v H' hlt gG yy
    obtain ⟨Hs, s, accV, accD, r, hL, hsL, ra, gb, _, q⟩ := pv
    obtain ⟨Hs2, d, e1, r2, rp, g2⟩ := hY i H v H' H0 Hs1 Hs (L2.wipe σ vs) s hlt r r.s0 y
    rw [List.drop_eq_getElem_cons hlt] at q
    have ed : items[i] = d := by
      rw [List.getElem?_eq_getElem hlt] at e1
      exact Option.some.inj e1
    rw [ed] at q
    have hL2 := g2.kp L _ hL lw l3
    have hsL2 := none_of_new g2.nw hsL hL
    refine hg.run H0 Hs1 Hs2 (L2.wipe σ vs) H' s v d _ _ r2 rp q fun σ3 s3 r3 len3 out3 q3 => ?_
    have out3' : ∀ j, j ∉ vs → σ3[j]? = σ[j]? := fun j h => (out3 j (fun z => h (hv j z))).trans (wipe_out h)
    have wq : L2.wipe σ3 vs = L2.wipe σ vs := wipe_eq (by rw [len3, wipe_length]) out3'
    have ow3 : ∀ b, Own C σ3 b → Own C σ b := own_of hM out3'
    have lw3 : ¬ Own C σ3 L := fun z => l2 (ow3 L z)
    refine ⟨wq, ht.run H0 Hs1 Hs2 σ3 H' s3 _ _ r3 q3 fun Hs4 H4 b4 s4 g4 r4 q4 => ?_⟩
    have hL4 := g4.kp L _ hL2 lw3 l3
    have hsL4 := none_of_new g4.nw hsL2 hL2
    have gb4 : Go C σ Hs1 H1 Hs4 H4 := gb.trans ((g2.own ow).trans (g4.own ow3))
    cases b4 with
    | false =>
      refine ifn Bool.false_ne_true ⟨Hs4, wipeS s4 vs, accV, accD, ?_, hL4, hsL4, RpAll.mono (g2.st.trans g4.st) ra, gb4, fun v m d => wipeL_in m d, by simpa using q4⟩
      rw [← wq]
      exact r4.wipe hM hp
    | true =>
      refine ifp rfl (hi1.run H0 Hs1 Hs4 σ3 H4 s4 _ _ r4 (by simpa using q4) fun Hs5 H5 J1 items1 s5 g5 r5 io1 q5 => ?_)
      obtain ⟨hz, q5⟩ := q5
      obtain ⟨G1, Y1, W1, hG1, hY1⟩ := io1
      have hL5 := g5.kp L _ hL4 lw3 l3
      have hsL5 := none_of_new g5.nw hsL4 hL4
      have ra5 := RpAll.mono (g2.st.trans (g4.st.trans g5.st)) ra
      have gb5 : Go C σ Hs1 H1 Hs5 H5 := gb4.trans (g5.own ow3)
      have ow4 : ∀ b, Own C (L2.wipe σ3 vs1) b → Own C σ b := fun b z => ow3 b (own_of hM1 (fun j h => wipe_out h) b z)
      have lw4 : ¬ Own C (L2.wipe σ3 vs1) L := fun z => l2 (ow4 L z)
      let N : List D → S → Prop := fun acc' s4 => lcD2 x c it1 x1 c1 t vs vs1 (fun acc s2 => Q (.list acc) s2) (items.drop (i + 1)) acc' (wipeS s4 vs)
      let Pv1 : Nat → Hp → Prop := fun j H => ∃ Hs s accV accD, R C H0 Hs5 Hs (L2.wipe σ3 vs1) H s ∧ H L = some (.lst accV) ∧ Hs L = none ∧ RpAll C.K Hs accV accD ∧ accD.length + (items1.length - j) ≤ sizeLine ∧ Go C σ Hs1 H1 Hs H ∧ (∀ v ∈ vs1, ∀ d, s.δ[v]? ≠ some (some d)) ∧ lcD x1 c1 t vs1 N (items1.drop j) accD s
      refine ⟨fun j k H => k = items1.length - j ∧ j ≤ items1.length ∧ Pv1 j H, ⟨items1.length, rfl, Nat.zero_le _, Hs5, wipeS s5 vs1, accV, accD, (r5.wipe hM1 hp1).base, hL5, hsL5, ra5, by omega, gb5, fun v m d => wipeL_in m d, q5⟩, ?_⟩
      rintro j k' H6 ⟨rfl, hle1, pv1⟩
      have gG1 : G1 H6 := by
        obtain ⟨Hs, s, _, _, r, _⟩ := pv1
        exact hG1 H6 (r.s0.trans r.sub)
      by_cases hlt1 : j < items1.length
      · refine .inr ⟨W1.goes j H6 hlt1 gG1, Pv1 (j + 1), fun H' p' => ⟨items1.length - (j + 1), by omega, rfl, hlt1, p'⟩, fun v6 H7 yy1 => ?_⟩
        have y1 := W1.yields j H6 v6 H7 hlt1 gG1 yy1
        obtain ⟨Hs6, s6, accV6, accD6, r6, hL6, hsL6, ra6, la6, ga6, _, q6⟩ := pv1
        obtain ⟨Hs7, d7, e7, r7, rp7, g7⟩ := hY1 j H6 v6 H7 H0 Hs5 Hs6 (L2.wipe σ3 vs1) s6 hlt1 r6 r6.s0 y1
        rw [List.drop_eq_getElem_cons hlt1] at q6
        have ed7 : items1[j] = d7 := by
          rw [List.getElem?_eq_getElem hlt1] at e7
          exact Option.some.inj e7
        rw [ed7] at q6
        have hL7 := g7.kp L _ hL6 lw4 l3
        have hsL7 := none_of_new g7.nw hsL6 hL6
        refine hg1.run H0 Hs5 Hs7 (L2.wipe σ3 vs1) H7 s6 v6 d7 _ _ r7 rp7 q6 fun σ8 s8 r8 len8 out8 q8 => ?_
        have out8' : ∀ l, l ∉ vs1 → σ8[l]? = σ3[l]? := fun l h => (out8 l (fun z => h (hv1 l z))).trans (wipe_out h)
        have wq8 : L2.wipe σ8 vs1 = L2.wipe σ3 vs1 := wipe_eq (by rw [len8, wipe_length]) out8'
        have ow8 : ∀ b, Own C σ8 b → Own C σ b := fun b z => ow3 b (own_of hM1 out8' b z)
        have lw8 : ¬ Own C σ8 L := fun z => l2 (ow8 L z)
        refine ⟨wq8, ht1.run H0 Hs5 Hs7 σ8 H7 s8 _ _ r8 q8 fun Hs9 H9 b9 s9 g9 r9 q9 => ?_⟩
        have hL9 := g9.kp L _ hL7 lw8 l3
        have hsL9 := none_of_new g9.nw hsL7 hL7
        have ga9 : Go C σ Hs1 H1 Hs9 H9 := ga6.trans ((g7.own ow4).trans (g9.own ow8))
        cases b9 with
        | true =>
          refine ifp rfl (he.toE.run H0 Hs5 Hs9 σ8 H9 s9 _ _ r9 (by simpa using q9) fun Hs10 H10 w dw s10 g10 r10 v10 q10 => ?_)
          have hL10 := g10.kp L _ hL9 lw8 l3
          have hsL10 := none_of_new g10.nw hsL9 hL9
          have ra10 := RpAll.mono (g7.st.trans (g9.st.trans g10.st)) ra6
          refine ⟨accV6, hL10, by rw [ra10.len]; omega, Hs10, wipeS s10 vs1, _, accD6 ++ [dw], ?_, upd_same, hsL10, ra10.app (.cons v10 .nil), by rw [List.length_append]; show accD6.length + 1 + (items1.length - (j + 1)) ≤ sizeLine; omega, (ga9.trans (g10.own ow8)).updF nL, fun v m d => wipeL_in m d, q10⟩
          rw [← wq8]
          exact (r10.updF hsL10 l0 lw8).wipe hM1 hp1
        | false =>
          refine ifn Bool.false_ne_true ⟨Hs9, wipeS s9 vs1, accV6, accD6, ?_, hL9, hsL9, RpAll.mono (g7.st.trans g9.st) ra6, by omega, ga9, fun v m d => wipeL_in m d, by simpa using q9⟩
          rw [← wq8]
          exact r9.wipe hM1 hp1
      · have ej : j = items1.length := by omega
        subst ej
        obtain ⟨Hs6, s6, accV6, accD6, r6, hL6, hsL6, ra6, la6, ga6, hn6, q6⟩ := pv1
        rw [List.drop_length] at q6
        refine .inl ⟨W1.stops H6 gG1, Hs6, wipeS s6 vs, accV6, accD6, ?_, hL6, hsL6, ra6, ga6, fun v m d => wipeL_in m d, q6⟩
        rw [← wq]
        exact (r5.back (r6.unwipe hM1 hp1 hn6)).wipe hM hp
  · have ei : i = items.length := by omega
    subst ei
    obtain ⟨Hs, s, accV, accD, r, hL, hsL, ra, gb, hn, q⟩ := pv
    rw [List.drop_length] at q
    exact .inl ⟨W.stops H gG, k Hs H _ (.list accD) s (ga.trans gb) (r1.back (r.unwipe hM hp hn)) (Val.mkC ⟨_, hL, hsL, l0, ga.back L nL, .lst ra, l2⟩) q⟩
end

/-! ### x = a new dict; x["k"] = e: then it is still -/
section
variable {C : Cf} {cat ca cb : Cat} {ta tb : TE} {da db : DT} {us : TS} {b : DSt}
theorem R.setN {H0 S0 Hs : Hp} {σ : L2.St} {H : Hp} {s : S} {i : Nat} {v : V} (r : R C H0 S0 Hs σ H s) (hi : i ∉ C.M) (hp : C.Nf i) : R C H0 S0 Hs (σ.set i (some v)) H { s with δ := s.δ.set i none } := by
  have ne : ∀ j, j ∈ C.M → j ≠ i := fun j m z => hi (z ▸ m)
  refine ⟨by simpa using r.len, r.sub, fun j d' q m => ?_, fun j d' q m => ?_, fun j m q => ?_, fun j l x m1 m2 q1 q2 => ?_, fun p c q => ?_, fun b hb => ?_, r.s0, r.h0, r.new, fun y m => ⟨by rw [List.getElem?_set_ne (Ne.symm (hp.2 y m))]; exact (r.fx y m).1, (r.fx y m).2⟩, r.tb⟩
  · by_cases hj : j = i
    · subst hj
      have il : j < s.δ.length := by
        have := (List.getElem?_eq_some_iff.mp q).1
        simpa using this
      rw [List.getElem?_set_self il] at q
      cases q
    · rw [List.getElem?_set_ne (Ne.symm hj)] at q ⊢
      exact r.slot j d' q m
  · rw [List.getElem?_set_ne (Ne.symm (ne j m))] at q ⊢
    exact r.mt j d' q m
  · rw [List.getElem?_set_ne (Ne.symm (ne j m))] at q ⊢
    exact r.dead j m q
  · rw [List.getElem?_set_ne (Ne.symm (ne j m1))] at q1
    rw [List.getElem?_set_ne (Ne.symm (ne l m2))] at q2
    exact r.sep j l x m1 m2 q1 q2
  · obtain ⟨f1, f2, f3, f4, f5, f6, f7⟩ := r.pn p c q
    exact ⟨by rw [List.getElem?_set_ne hp.1]; exact f1, f2, f3, f4, f5, by rw [List.getElem?_set_ne hp.1]; exact f6, f7⟩
  · obtain ⟨⟨j, b1, b2, b3⟩, b4⟩ := r.br b hb
    exact ⟨⟨j, b1, b2, by rw [List.getElem?_set_ne (Ne.symm (ne j b2))]; exact b3⟩, b4⟩
def dSetPut (i : Nat) (da : DT) (key : Str) (db : DT) (b : DSt) : DSt := fun E s => da s fun d s1 => match d with
  | .dict kvs => db { s1 with δ := s1.δ.set i none } fun v s2 => kvs.length < sizeLine ∧ b E { s2 with δ := s2.δ.set i (some (.dict (putD kvs (.str key) v))) }
  | _ => False
theorem simS_putSeq {key : Str} (i : Nat) (hi : i ∉ C.M) (hp : C.Nf i) (h1 : Sim C .F ta da) (h2 : Sim C cb tb db) (hb : SimS C cat us b) :
    SimS C cat (tSeq (tAsg ta (gName i)) (tSeq (sDPut (tVar i) (tC (.str key)) tb) us)) (fun E s => i < s.δ.length ∧ dSetPut i da key db b E s) := by
  refine ⟨fun H0 S0 Hs σ H s E D' r ⟨hil, q⟩ k => h1.run H0 S0 Hs σ H s _ _ r q fun Hs1 H1 v d s1 g1 r1 v1 q1 => ?_⟩
  cases d <;> first | exact q1.elim | skip
  rename_i kvs
  obtain ⟨a, rfl, o, f1, f2, f3, f4, f5, f6⟩ := v1.c rfl
  have hiσ : i < σ.length := by rw [r.len]; exact hil
  have own' : ∀ {x : Addr}, Own C (σ.set i (some (.ref a))) x → Own C σ x := fun {x} ⟨j, m, e⟩ => ⟨j, m, by
    rw [List.getElem?_set_ne (fun z => hi (by rw [z]; exact m))] at e
    exact e⟩
  have r2 := r1.setN (v := .ref a) hi hp
  have v1' : Val C H0 H Hs1 (σ.set i (some (.ref a))) H1 .F (.ref a) (.dict kvs) := Val.mkC ⟨o, f1, f2, f3, f4, f5, fun z => f6 (own' z)⟩
  refine h2.toE.run H0 S0 Hs1 (σ.set i (some (.ref a))) H1 _ _ _ r2 q1 fun Hs2 H2 y dy s2 g2 r3 v2 q2 => ?_
  have v3 := v1'.go r2 g2
  obtain ⟨a', e, o2, z1, z2, z3, z4, cn, no⟩ := v3.c rfl
  cases e
  cases cn with
  | dic rp =>
    rename_i xs
    have v2' : Rp C.K Hs2 y dy := v2
    refine ⟨.ref a, List.getElem?_set_self hiσ, a, _, rfl, DPut.k (k := .inr key) z1 (by rw [rp.len]; exact q2.1), ?_⟩
    have r4 := r3.updF (o := .dK (putK xs (.inr key) y)) z2 z3 no
    obtain ⟨Hs3, sm, r5, rp5, _⟩ := r4.freeze (Hst := H) (a := a) (d := .dict (putD kvs (.str key) dy)) ⟨_, upd_same, z2, z3, z4, .dic (rp.put (k := .inr key) v2'), no⟩
    have r6 := r5.setE hi hp rp5
    rw [List.set_set] at r6
    exact hb.run H0 S0 Hs3 _ _ _ E D' r6 q2.2 k
end
/-! ### x = a new list; x is changed; then it is still -/
section
variable {C : Cf} {cat ca cb : Cat} {ta tb : TE} {da db : DT} {ts us : TS} {a b : DSt}
theorem R.toM {H0 S0 Hs : Hp} {σ : L2.St} {H : Hp} {s : S} {i : Nat} {x : Addr} {d : D} {Hst : Hp} (r : R C H0 S0 Hs σ H s) (hi : i ∉ C.M) (hp : C.Nf i) (hil : i < s.δ.length) (f : Fresh C H0 Hst Hs σ H x d) :
    R { C with M := i :: C.M } H0 S0 Hs (σ.set i (some (.ref x))) H { s with δ := s.δ.set i (some d) } := by
  obtain ⟨o, h1, h2, h3, _, h4, h5⟩ := f
  have ne : ∀ j, j ∈ C.M → j ≠ i := fun j m z => hi (z ▸ m)
  have hiσ : i < σ.length := by rw [r.len]; exact hil
  refine ⟨by simpa using r.len, r.sub, fun j d' q m => ?_, fun j d' q m => ?_, fun j m q => ?_, fun j l y m1 m2 q1 q2 => ?_, fun p c q => ?_, fun b hb' => ?_, r.s0, r.h0, r.new, fun y m => ⟨by rw [List.getElem?_set_ne (Ne.symm (hp.2 y m))]; exact (r.fx y m).1, fun z => (List.mem_cons.mp z).elim (hp.2 y m) (r.fx y m).2.1, (r.fx y m).2.2⟩, r.tb⟩
  · have hj : j ≠ i := fun z => m (by rw [z]; exact List.mem_cons_self ..)
    have hm : j ∉ C.M := fun z => m (List.mem_cons_of_mem _ z)
    rw [List.getElem?_set_ne (Ne.symm hj)] at q ⊢
    exact r.slot j d' q hm
  · by_cases hj : j = i
    · subst hj
      rw [List.getElem?_set_self hil] at q
      cases q
      exact ⟨x, o, List.getElem?_set_self hiσ, h1, h2, h4, .inl h3⟩
    · have hm : j ∈ C.M := (List.mem_cons.mp m).resolve_left hj
      rw [List.getElem?_set_ne (Ne.symm hj)] at q ⊢
      exact r.mt j d' q hm
  · by_cases hj : j = i
    · subst hj
      rw [List.getElem?_set_self hil] at q
      cases q
    · have hm : j ∈ C.M := (List.mem_cons.mp m).resolve_left hj
      rw [List.getElem?_set_ne (Ne.symm hj)] at q ⊢
      exact r.dead j hm q
  · by_cases hj : j = i
    · by_cases hl : l = i
      · rw [hj, hl]
      · subst hj
        rw [List.getElem?_set_self hiσ] at q1
        cases q1
        rw [List.getElem?_set_ne (Ne.symm hl)] at q2
        exact absurd ⟨l, (List.mem_cons.mp m2).resolve_left hl, q2⟩ h5
    · by_cases hl : l = i
      · subst hl
        rw [List.getElem?_set_self hiσ] at q2
        cases q2
        rw [List.getElem?_set_ne (Ne.symm hj)] at q1
        exact absurd ⟨j, (List.mem_cons.mp m1).resolve_left hj, q1⟩ h5
      · rw [List.getElem?_set_ne (Ne.symm hj)] at q1
        rw [List.getElem?_set_ne (Ne.symm hl)] at q2
        exact r.sep j l y ((List.mem_cons.mp m1).resolve_left hj) ((List.mem_cons.mp m2).resolve_left hl) q1 q2
  · obtain ⟨f1, f2, f3, f4, f5, f6, f7⟩ := r.pn p c q
    exact ⟨by rw [List.getElem?_set_ne hp.1]; exact f1, f2, f3, f4, f5, by rw [List.getElem?_set_ne hp.1]; exact f6, fun z => (List.mem_cons.mp z).elim (fun z => hp.1 z.symm) f7.1, f7.2⟩
  · obtain ⟨⟨j, b1, b2, b3⟩, b4⟩ := r.br b hb'
    exact ⟨⟨j, b1, List.mem_cons_of_mem _ b2, by rw [List.getElem?_set_ne (Ne.symm (ne j b2))]; exact b3⟩, b4⟩
def dPhase (i : Nat) (da : DT) (a b : DSt) : DSt := fun E s => da s fun d s1 => isC d = true ∧ i < s1.δ.length ∧ a { nx := fun s' => b E s', rt := fun _ _ => False } { s1 with δ := s1.δ.set i (some d) }
theorem simS_phase (i : Nat) (hi : i ∉ C.M) (hp : C.Nf i) (hb' : i ∉ C.bs) (h1 : Sim C .F ta da) (hA : SimS { C with M := i :: C.M } cat ts a) (hB : SimS C cat us b) : SimS C cat (tSeq (tAsg ta (gName i)) (tSeq ts us)) (dPhase i da a b) := by
  refine ⟨fun H0 S0 Hs σ H s E D' r q k => h1.run H0 S0 Hs σ H s _ _ r q fun Hs1 H1 v d s1 g1 r1 v1 q1 => ?_⟩
  obtain ⟨qc, hil, q1⟩ := q1
  obtain ⟨x, rfl, f⟩ := v1.c qc
  have r2 := r1.toM hi hp hil f
  refine hA.run H0 S0 Hs1 _ H1 _ _ _ r2 q1 ⟨fun Hs2 σ2 H2 s2 r3 q2 => ?_, fun _ _ _ _ _ _ _ _ z => z.elim, fun _ _ _ _ _ z => z.elim, fun _ _ _ _ _ z => z.elim, fun _ _ _ _ _ z => z.elim⟩
  obtain ⟨Hs3, r4⟩ := r3.still (M' := C.M) (i := i) (fun j => List.mem_cons) hi hb'
  exact hB.run H0 S0 Hs3 σ2 H2 s2 E D' r4 q2 k
end
/-! ### powers of big bases -/
def powWD : DO := fun x y Q => match x, y with
  | .int i, .int j => CPowW i j ∧ Q (.int (i ^ j.toNat))
  | _, _ => False
theorem opA_powW {C : Cf} : OpA C (rI CPowW fun i j => .int (i ^ j.toNat)) powWD := by
  intro H0 S0 Hs σ H s x y dx dy Q Q' r hx hy q k
  cases dx <;> cases dy <;> first | exact q.elim | skip
  case int.int i j => cases hx; cases hy; exact ⟨i, j, rfl, rfl, q.1, k Hs H _ (.int (i ^ j.toNat)) Go.refl r (Val.mkP (Rp.int _) rfl) q.2⟩

/-! ### slots whose value is told: the script, a def; defs handed as arguments -/
section
variable {C : Cf}
def dAnyInt : DT := fun s Q => ∀ i : Int, Q (.int i) s
theorem sim_lenSc (i : Nat) (h : (C.fx.any fun x => x.1 == i && x.2.2.isSome) = true) : Sim C .F (tCB (rLenG C.K) (tCons (tVar i) tNil)) dAnyInt := by
  refine ⟨fun H0 S0 Hs σ H s Q Q' r q k => ?_⟩
  obtain ⟨x, m, hx⟩ := List.any_eq_true.mp h
  simp only [Bool.and_eq_true, beq_iff_eq] at hx
  obtain ⟨rfl, hx⟩ := hx
  obtain ⟨xs, ex⟩ := Option.isSome_iff_exists.mp hx
  obtain ⟨e1, _, e3⟩ := r.fx x m
  obtain ⟨a, e4, e5, e6⟩ := e3 xs ex
  have hS : SqL C.K H a xs := by
    rcases e5 with e5 | e5
    · have np := e6 e5
      rcases e5 with e5 | ⟨o, e5⟩
      · exact .inl (.inl (r.h0 a _ np e5))
      · exact .inl (.inr ⟨o, r.h0 a _ np e5⟩)
    · exact .inr e5
  rw [e4] at e1
  exact ⟨_, e1, .inl ⟨a, xs, rfl, .inl hS, k Hs H _ (.int (xs.length : Nat)) s Go.refl r (Val.mkP (Rp.int _) rfl) (q _)⟩⟩
theorem sim_penAt {i : Nat} (hp : C.pen ≠ none) (hi : C.ps = i) (hk : C.pk = .draw := by rfl) : Sim C .F (tOp (rIxG C.K) (tVar i) (tC (.int 1))) dAnyInt := by
  refine ⟨fun H0 S0 Hs σ H s Q Q' r q k => ?_⟩
  obtain ⟨⟨p, c⟩, ep⟩ : ∃ pc, C.pen = some pc := by
    cases e : C.pen with
    | none => exact absurd e hp
    | some pc => exact ⟨pc, rfl⟩
  subst hi
  obtain ⟨e1, e2, _⟩ := r.pn p c ep
  rw [hk] at e2
  obtain ⟨a, b, e3, _⟩ := Pen.pen e2
  exact ⟨.ref p, e1, .inl ⟨p, _, 1, .int a, rfl, rfl, SqL.of e3, rfl, k Hs H _ (.int a) s Go.refl r (Val.mkP (Rp.int _) rfl) (q _)⟩⟩
theorem sim_callF {n : Nat} {cat : Cat} {F : DF} {ta : TA} {a : DA} {i : Nat} {f : Addr} (hf : (i, V.ref f, none) ∈ C.fx) (h : SimA C n ta a) : Sim C cat (tCallL i f (spN C.K n cat F) [] E0 ta) (dCall F a) :=
  ⟨fun H0 S0 Hs σ H s Q Q' r q k => ⟨(r.fx _ hf).1, (sim_call h).run H0 S0 Hs σ H s Q Q' r q k⟩⟩
end
section
variable {X : Cx} {k i : Nat} {f : Addr} {fd : FuncData} {ps : List Str} {sp : Sp} {x : Str} {p pos : Pos} {e : Expr} {es : List Expr} {t : TA}
theorem pe_callLG (F : FnG X.prog X.w X.K X.mg X.base k f fd ps sp) (hr : Rm k X.A) (hN : X.N[i]? = some x) (hv : Vis X.env.scope x) (hk : PySem.W.keepIn X.K (.ref f) = true) (hb : Binds X.K fd ps []) (ha : PA X (e :: es) t)
    (hdb : (x == ("__debug__" : Str)) = false := by decide) (hcd : (x == ("__classdict__" : Str)) = false := by decide)
    (he : starEach (e :: es) X.env = (false, eval e X.env) :: starEach es X.env := by rfl) (hpl : (backTo pos (starEach es X.env)).any (·.1) = false := by rfl) : PE X (.Call (.Name x p) (e :: es) [] pos) (tCallL i f sp [] E0 t) := by
  refine ⟨fun pins s σ H Q I h => ?_⟩
  obtain ⟨hs, ht⟩ := h
  refine wpAny_Call_Name_kw (thn ((pe_var (pos := p) hN hv hdb hcd).run pins s σ H (fun v H1 => v = .ref f ∧ H1 = H) I ⟨.ref f, hs, rfl, rfl⟩) fun u s1 ⟨v, H1, I1, r1, q1⟩ => ?_)
  obtain ⟨rfl, rfl⟩ := q1
  cases r1
  exact PySem.W.callWith_K (h₀ := X.base) I.ok.mod.kin hk (thn (ha.run pos pins s1 σ _ _ I1 ht) fun us s2 ⟨vs, H2, I2, r, q⟩ => ⟨I2.kIn, runG F hr.toRoom hr.gd hb I2 r (by have q' : sp (vs ++ []) H2 Q E0 := q; rwa [List.append_nil] at q')⟩) he hpl
end
/-- the promise of a def whose last place is handed the def at a -/
def spW (a : Addr) (sp : Sp) : Sp := fun vs H Q E => ∃ us, vs = us ++ [V.ref a] ∧ sp us H Q E
def OkF (P : Program) (w : World) (K : PySem.W.Frag) (mg : Str → Option Value) (base : Heap) (k : Nat) (x g : Str) (ps : List Str) (sp : Sp) : Prop :=
  ∃ (f a : Addr) (fd : FuncData), mg x = some (.ref f) ∧ mg g = some (.ref a) ∧ PySem.W.keepIn K (.ref f) = true ∧ Binds K fd ps [] ∧ FnG P w K mg base k f fd ps (spW a sp)
theorem OkF.mono {P : Program} {w : World} {K : PySem.W.Frag} {mg : Str → Option Value} {base : Heap} {x g : Str} {ps : List Str} {j k : Nat} {sp : Sp} (h : OkF P w K mg base j x g ps sp) (l : j ≤ k) : OkF P w K mg base k x g ps sp := by
  obtain ⟨f, a, fd, h1, h2, h3, h4, F⟩ := h
  exact ⟨f, a, fd, h1, h2, h3, h4, F.mono l⟩
theorem tCall_fn2 {a : Addr} {sp : Sp} {t1 t2 : TE} : tCall (spW a sp) [] E0 (tCons t1 (tCons t2 (tCons (tC (.ref a)) tNil))) = tCall sp [] E0 (tCons t1 (tCons t2 tNil)) := by
  funext σ H Q
  show (t1 σ H fun x H1 => t2 σ H1 fun y H2 => spW a sp ([x, y, V.ref a] ++ []) H2 Q E0) = (t1 σ H fun x H1 => t2 σ H1 fun y H2 => sp ([x, y] ++ []) H2 Q E0)
  have e : ∀ x y H2, spW a sp ([x, y, V.ref a] ++ []) H2 Q E0 = sp ([x, y] ++ []) H2 Q E0 := fun x y H2 => propext ⟨fun ⟨us, e, q⟩ => by
    have e : [x, y] ++ [V.ref a] = us ++ [V.ref a] := e
    rw [← List.append_cancel_right e] at q
    exact q, fun q => ⟨[x, y], rfl, q⟩⟩
  simp only [e]
theorem pe_fnF {X : Cx} {k : Nat} {x g : Str} {ps : List Str} {sp : Sp} {e1 e2 : Expr} {t1 t2 : TE} {p p' pos : Pos} (O : OkF X.prog X.w X.K X.mg X.base k x g ps sp) (hr : Rm k X.A) (hg : Gl X x) (ha : ∀ a, X.mg g = some (.ref a) → PA X [e1, e2, .Name g p'] (tCons t1 (tCons t2 (tCons (tC (.ref a)) tNil))))
    (hdb : (x == ("__debug__" : Str)) = false := by decide) (he : starEach (e1 :: [e2, .Name g p']) X.env = (false, eval e1 X.env) :: starEach [e2, .Name g p'] X.env := by rfl) (hpl : (backTo pos (starEach [e2, .Name g p'] X.env)).any (·.1) = false := by rfl) :
    PE X (.Call (.Name x p) [e1, e2, .Name g p'] [] pos) (tCall sp [] E0 (tCons t1 (tCons t2 tNil))) := by
  obtain ⟨f, a, fd, hm, hmg, hk, hb, F⟩ := O
  rw [← tCall_fn2 (a := a)]
  exact pe_callG F hr.toRoom hr.gd hg hm hk hb (ha a hmg) hdb he hpl
section
variable {P : Program} {w : World} {K : PySem.W.Frag} {mg : Str → Option Value} {base : Heap}
theorem start_app {N : List Str} {us : List V} {a : V} {ds : List D} {H : Hp} (h : RpAll K H us ds) (hn : ds.length < N.length) :
    (L2.start N (us ++ [a])).length = (start' N.length ds).length ∧ (∀ (i : Nat) (d : D), (start' N.length ds)[i]? = some (some d) → ∃ v, (L2.start N (us ++ [a]))[i]? = some (some v) ∧ Rp K H v d) ∧ (L2.start N (us ++ [a]))[ds.length]? = some (some a) ∧
    ∀ i, ds.length < i → i < N.length → (L2.start N (us ++ [a]))[i]? = some none := by
  have hl := h.len
  refine ⟨?_, fun i d e => ?_, ?_, fun i h1 h2 => ?_⟩
  · simp only [L2.start, start', List.length_append, List.length_map, List.length_replicate, List.length_singleton, hl]
    omega
  · unfold start' at e
    by_cases hi : i < ds.length
    · rw [List.getElem?_append_left (by simpa using hi), List.getElem?_map] at e
      cases q : ds[i]? with
      | none => rw [q] at e; cases e
      | some d' =>
        rw [q] at e
        cases e
        obtain ⟨v, e1, e2⟩ := h.get q
        refine ⟨v, ?_, e2⟩
        unfold L2.start
        rw [List.getElem?_append_left (by rw [List.length_map, List.length_append, hl]; omega), List.getElem?_map, List.getElem?_append_left (by rw [hl]; exact hi), e1]
        rfl
    · rw [List.getElem?_append_right (by simpa using hi)] at e
      rw [List.getElem?_replicate] at e
      split at e
      · cases e
      · cases e
  · unfold L2.start
    rw [List.getElem?_append_left (by rw [List.length_map, List.length_append, hl, List.length_singleton]; omega), List.getElem?_map, ← hl, List.getElem?_append_right (Nat.le_refl _), Nat.sub_self]
    rfl
  · exact start_none N (by rw [List.length_append, hl, List.length_singleton]; omega) h2
/-- a def whose last place is a def -/
theorem OkF.ofN {x g : Str} {st : Stmt} {N ps : List Str} {k n : Nat} {cat : Cat} {M : List Nat} {F : DF} {a : Addr} (D' : Df K mg x st ps) (hgm : mg g = some (.ref a)) (S' : FnScope N ps (defScope st)) (hn : ps.length = n + 1) (hN : n < N.length) (hM : ∀ i ∈ M, n + 1 ≤ i ∧ i < N.length)
    (hbody : ∀ (f : Addr) (cdv : Value) (A : Around) (outer : List Env) (s : Shared) (H : Hp) (E : XK), Rm k (A.deeper (envOfC x (defScope st) s.heap.objs.size f cdv)) →
      ∃ t d, PSs (cxOf CX0 P w K mg base N x (defScope st) f cdv A outer s H E).nox (defBody st) t ∧ SimS { K := K, pen := none, ps := 1000, M := M, fx := [(n, .ref a, none)] } cat t d ∧ ∀ ds (Q : D → Prop), ds.length = n → F ds Q → d { nx := fun _ => Q .none, rt := fun z _ => Q z } { δ := start' N.length ds, n := 0 }) :
    OkF P w K mg base (k + 1) x g ps (spN K n cat F) := by
  obtain ⟨f0, fd0, F', b, gg⟩ := D'
  refine ⟨f0, a, fd0, gg, hgm, F'.kp, b, ?_⟩
  refine Fn.mk F' S' (fun vs H Q E h => ?_) (fun f cdv A outer s H vs Q E hr h => ?_)
  · obtain ⟨us, rfl, Hs, ds, Q0, _, h2, h3, _⟩ := h
    rw [List.length_append, h2.len, h3, hn]
    rfl
  obtain ⟨us, rfl, Hs, ds, Q0, h1, h2, h3, h4, h5⟩ := h
  obtain ⟨t, d, ht, hs, hd⟩ := hbody f cdv A outer s H E hr
  refine ⟨t, ht, ?_⟩
  obtain ⟨sl, ss, sa, sn⟩ := start_app (N := N) (a := V.ref a) h2 (by rw [h3]; exact hN)
  have nn : ∀ i, i ∈ M → (L2.start N (us ++ [V.ref a]))[i]? = some none := fun i m => sn i (by have := hM i m; omega) (hM i m).2
  refine hs.e.run H Hs Hs (L2.start N (us ++ [V.ref a])) H _ { nx := fun _ => Q0 .none, rt := fun z _ => Q0 z } _ ?_ (hd ds Q0 h3 h4) (fun M' Hs' σ' H' s' r q => ?_) (fun M' Hs' σ' H' s' v dd r rv q => ?_) (fun _ _ _ _ _ q => q.elim) (fun _ _ _ _ _ q => q.elim) (fun _ _ _ _ _ _ q => q.elim)
  · refine ⟨sl, h1, fun i dd e m => ss i dd e, fun i dd e m => ?_, fun i m e => nn i m, fun i j a m1 m2 e1 e2 => ?_, fun p c e => (nomatch e), fun b hb => (nomatch hb), Same.refl _, fun b o _ e => e, fun b e1 e2 => absurd e1 e2, fun y m => ?_, TbS.nil, fun _ m => (nomatch m)⟩
    · obtain ⟨v, e1, _⟩ := ss i dd e
      rw [nn i m] at e1
      cases e1
    · rw [nn i m1] at e1
      cases e1
    · obtain rfl := List.mem_singleton.mp m
      refine ⟨by rw [← h3]; exact sa, fun z => ?_, fun xs e => nomatch e⟩
      have := (hM _ z).1
      omega
  · exact h5 .none Hs' H' .non q r.s0 r.sub (fun b o e => r.h0 b o (fun z => z.elim (fun z => z.elim (fun ⟨_, z⟩ => nomatch z) (fun z => nomatch z)) (fun z => nomatch z)) e) r.new (rvNon cat)
  · exact h5 dd Hs' H' v q r.s0 r.sub (fun b o e => r.h0 b o (fun z => z.elim (fun z => z.elim (fun ⟨_, z⟩ => nomatch z) (fun z => nomatch z)) (fun z => nomatch z)) e) r.new rv
/-- the law, its script's length told -/
theorem Ok.ofLawS {st : Stmt} {fa : Addr} {fda : FuncData} {N0 N1 : Str} {N' : List Str} {k : Nat} {M : List Nat} (F : Fun K "law" "law" st fa fda) (S' : FnScope (N0 :: N1 :: N') ["_law_script"] (defScope st)) (hM : ∀ i ∈ M, 2 ≤ i ∧ i < N'.length + 2)
    (hbody : ∀ (f : Addr) (cdv : Value) (A : Around) (outer : List Env) (s : Shared) (H : Hp) (E : XK), Rm k (A.deeper (envOfC "law" (defScope st) s.heap.objs.size f cdv)) →
      ∃ t, PSs (cxOf CX0 P w K mg base (N0 :: N1 :: N') "law" (defScope st) f cdv A outer s H E).nox (defBody st) (tSeq (tAsg (tCall (spOpen K) [] E0 (tCons (tVar 0) tNil)) (gName 1)) t) ∧
        ∀ p c a xs, ∃ d, SimS { K := K, pen := some (p, c), ps := 1, M := M, fx := [(0, .ref a, some xs)] } .E t d ∧ d { nx := fun _ => False, rt := fun z _ => z = .bool true } { δ := none :: none :: List.replicate N'.length none, n := 0 }) :
    FnG P w K mg base (k + 1) fa fda ["_law_script"] (spLaw K) := by
  refine Fun.okG F S' (fun vs H Q E h => ?_) (fun cdv A outer s H vs Q E hr hg h => ?_)
  · obtain ⟨a, ns, rfl, _⟩ := h; rfl
  obtain ⟨a, ns, rfl, hS, hl, q⟩ := h
  obtain ⟨t, ht, hs⟩ := hbody fa cdv A outer s H E ⟨hr, hg⟩
  refine ⟨_, ht, ?_⟩
  refine ⟨_, rfl, a, ns, rfl, hS, hl, fun p c H1 sm np nc pe => ?_⟩
  obtain ⟨d, sd, hd⟩ := hs p c a (ns.map V.int)
  obtain ⟨a0, r0, ep, _⟩ := pe.pen
  obtain ⟨nn, ec⟩ := pe.cells
  have es : (L2.start (N0 :: N1 :: N') [V.ref a]).set 1 (some (.ref p)) = some (.ref a) :: some (.ref p) :: List.replicate N'.length none := by
    unfold L2.start
    rfl
  show t _ ((L2.start (N0 :: N1 :: N') [V.ref a]).set 1 (some (.ref p))) H1
  rw [es]
  have gn : ∀ i, i ∈ M → (some (V.ref a) :: some (V.ref p) :: List.replicate N'.length (none : Option V))[i]? = some none := fun i m => by
    have := hM i m
    obtain ⟨j, rfl⟩ : ∃ j, i = j + 2 := ⟨i - 2, by omega⟩
    show (List.replicate N'.length none)[j]? = some none
    rw [List.getElem?_replicate, if_pos (by omega)]
  refine sd.run H1 (fun _ => none) (fun _ => none) _ H1 _ _ _ ?_ hd ⟨fun Hs' σ' H' s' r q => q.elim, fun Hs' σ' H' s' v dd r rv e => ?_, fun _ _ _ _ _ q => q.elim, fun _ _ _ _ _ q => q.elim, fun _ _ _ _ _ q => q.elim⟩
  · refine ⟨(by simp), (fun b o e => nomatch e), fun i dd e _ => ?_, fun i dd e m => ?_, fun i m e => gn i m, fun i j x m1 m2 e1 e2 => ?_, fun p' c' e => ?_, fun b hb => (nomatch hb), Same.refl _, fun b o _ e => e, fun b e1 e2 => absurd e1 e2, fun y m => ?_, TbS.nil, fun _ m => (nomatch m)⟩
    · exfalso
      match i, e with
      | j + 2, e =>
        have e : (List.replicate N'.length (none : Option D))[j]? = some (some dd) := e
        rw [List.getElem?_replicate] at e
        split at e <;> cases e
    · exfalso
      match i, e with
      | j + 2, e =>
        have e : (List.replicate N'.length (none : Option D))[j]? = some (some dd) := e
        rw [List.getElem?_replicate] at e
        split at e <;> cases e
    · rw [gn i m1] at e1
      cases e1
    · cases e
      exact ⟨rfl, pe, rfl, (by rw [ep]; simp), (by rw [ec]; simp), rfl, fun z => absurd (hM 1 z).1 (by omega), fun z => (nomatch z), fun z => (nomatch z)⟩
    · obtain rfl := List.mem_singleton.mp m
      refine ⟨rfl, fun z => absurd (hM 0 z).1 (by omega), fun xs e => ⟨a, rfl, ?_, fun h => ?_⟩⟩
      · cases e
        rcases hS with h | h
        · exact .inl (rd_same sm h)
        · exact .inr h
      · cases e
        rintro ((⟨c', z⟩ | z) | z)
        · have z : some (p, c) = some (a, c') := z
          cases z
          rcases h with h | ⟨o, h⟩
          · rw [ep] at h
            cases ns <;> cases h
          · rw [ep] at h
            cases h
        · cases z
        · cases z
  · have e' : dd = .bool true := e
    subst e'
    have rv' : Rp K Hs' v (.bool true) := rv
    cases rv'
    exact q H'
end
/-! ### a place's name goes over to a list or dict of the def's own; an own list lent to an expression -/
section
variable {C : Cf} {cat ca : Cat} {te : TE} {t : DT} {us : TS} {b : DSt}
def dToM (i : Nat) (a : DT) (b : DSt) : DSt := fun E s => a s fun d s1 => isC d = true ∧ i < s1.δ.length ∧ b { E with bk := fun _ => False, ct := fun _ => False } { s1 with δ := s1.δ.set i (some d) }
theorem simE_toM (i : Nat) (hi : i ∉ C.M) (hp : C.Nf i) (h : Sim C .F te t) (hb : SimE { C with M := i :: C.M } cat us b) : SimE C cat (tSeq (tAsg te (gName i)) us) (dToM i t b) := by
  refine ⟨fun H0 S0 Hs σ H s E D' r q k1 k2 k3 k4 k5 => h.run H0 S0 Hs σ H s _ _ r q fun Hs1 H1 v d s1 g1 r1 v1 q1 => ?_⟩
  obtain ⟨hc, hil, q1⟩ := q1
  obtain ⟨x, rfl, f⟩ := v1.c hc
  exact hb.run H0 S0 Hs1 _ H1 _ _ D' (r1.toM hi hp hil f) q1 (fun M2 Hs σ H s r q => k1 M2 Hs σ H s r q) (fun M2 Hs σ H s v d r rv q => k2 M2 Hs σ H s v d r rv q) (fun _ _ _ _ _ z => z.elim) (fun _ _ _ _ _ z => z.elim) (fun M2 Hs σ H s r q => k5 M2 Hs σ H s r q)
def dLend (t : DT) : DT := fun s Q => t s fun d s' => flatD d = true ∧ s' = s ∧ Q d s
theorem sim_lend (i : Nat) (hM : C.M = [i]) (hb : i ∉ C.bs) (hk : C.pk = .draw) (h : Sim { C with M := [] } ca te t) (ht : C.tb = [] := by rfl) : Sim C .F te (dLend t) := by
  refine ⟨fun H0 S0 Hs σ H s Q Q' r q k => ?_⟩
  obtain ⟨Hs', r'⟩ := r.base.still (M' := []) (by intro j; rw [hM]; simp) (by simp) hb
  refine h.toE.run H0 Hs Hs' σ H s _ _ r' q fun Hs2 H2 v d s2 g2 r2 v2 ⟨fl, es, q2⟩ => ?_
  subst es
  have sH : Same Hs H2 := (r2.s0).trans r2.sub
  have rr : R C H0 S0 Hs σ H2 s2 := by
    refine ⟨r.len, sH, r.slot, fun j d e m => ?_, r.dead, r.sep, fun p c e => ?_, r.br, r.s0, fun b o n e => r2.h0 b o n e, r.new, r.fx, TbS.non ht, r.tb.2⟩
    · obtain ⟨a, o, e1, e2, e3, e4, e5⟩ := r.mt j d e m
      refine ⟨a, o, e1, g2.kp a o e2 (fun ⟨_, z, _⟩ => nomatch z) (fun z => ?_), e3, e4, e5⟩
      have z : IsPen C a := z
      rcases z with (⟨c, z⟩ | z) | z
      · rcases e5 with e5 | e5
        · exact (r.pn a c z).2.2.2.1 e5
        · exact (r.pn a c z).2.2.2.2.2.2.2.1 e5
      · have z : a ∈ C.tb.map Prod.fst := z
        rw [ht] at z; cases z
      · obtain ⟨⟨l, l1, l2, _⟩, _⟩ := r.br a z
        rw [hM] at l2
        obtain rfl := List.mem_singleton.mp l2
        exact hb l1
    · obtain ⟨f1, f2, f3⟩ := r.pn p c e
      obtain ⟨f4, f5, f6⟩ := r2.pn p c e
      have f5 : PenK C.K C.pk Hs2 H2 p c s2.n s2.h := f5
      rw [hk] at f5
      exact ⟨f1, by rw [hk]; exact f5, f3⟩
  refine k Hs H2 v d s2 ⟨Same.refl _, fun b o e n1 n2 => g2.kp b o e (fun ⟨_, z, _⟩ => nomatch z) n2, g2.th, fun b e1 e2 => absurd e1 e2⟩ rr ?_ q2
  have v2 : Rp C.K Hs2 v d := v2
  cases d <;> first | (exfalso; have f' : false = true := fl; cases f'; done) | (cases v2; exact Val.mkP (by constructor) rfl)
end

/-! ### trees of bounded depth and size: what == and repr may see -/
mutual
def bd : D → Bool
  | .none => true
  | .bool _ => true
  | .int i => decide (i.natAbs < 10 ^ 420)
  | .str x => PyData.strOk x
  | .list ds => bdAll ds
  | .tuple ds => bdAll ds
  | .dict _ => false
def bdAll : List D → Bool
  | [] => true
  | d :: ds => bd d && bdAll ds
end
mutual
def sz : D → Nat
  | .none => 4
  | .bool _ => 5
  | .int i => if i.natAbs < 10 ^ 250 then 251 else 421
  | .str x => 10 * x.length + 2
  | .list ds => szAll ds + 3
  | .tuple ds => szAll ds + 3
  | .dict _ => 0
def szAll : List D → Nat
  | [] => 0
  | d :: ds => sz d + 2 + szAll ds
end
theorem strLen_app (a b : Str) : (a ++ b).length = a.length + b.length := by
  rw [TL.len_tl, TL.len_tl, TL.len_tl, TL.tl_append, List.length_append]
theorem log1920 {n : Nat} (h : n < 10 ^ 420) : n.log2 < 1920 := by
  by_cases h0 : n = 0
  · subst h0; decide
  · exact (Nat.log2_lt h0).mpr (Nat.lt_of_lt_of_le h (by decide +kernel))
mutual
theorem bd_lay : ∀ d : D, bd d = true → PyData.canLay0 d = true ∧ d.showable = true
  | .none, _ => ⟨rfl, rfl⟩
  | .bool _, _ => ⟨rfl, rfl⟩
  | .int i, h => ⟨rfl, by simp only [bd, decide_eq_true_eq] at h; simp only [PyData.showable]; exact decide_eq_true (log1920 h)⟩
  | .str x, h => ⟨by simpa [PyData.canLay0, bd] using h, rfl⟩
  | .list ds, h => by
    have := bd_layL ds (by simpa [bd] using h)
    exact ⟨by simpa [PyData.canLay0] using this.1, by simpa [PyData.showable] using this.2⟩
  | .tuple ds, h => by
    have := bd_layL ds (by simpa [bd] using h)
    exact ⟨by simpa [PyData.canLay0] using this.1, by simpa [PyData.showable] using this.2⟩
  | .dict _, h => by simp [bd] at h
theorem bd_layL : ∀ ds : List D, bdAll ds = true → PyData.canLayAll0 ds = true ∧ PyData.showableAll ds = true
  | [], _ => ⟨rfl, rfl⟩
  | d :: ds, h => by
    simp only [bdAll, Bool.and_eq_true] at h
    have h1 := bd_lay d h.1
    have h2 := bd_layL ds h.2
    exact ⟨by simp [PyData.canLayAll0, h1.1, h2.1], by simp [PyData.showableAll, h1.2, h2.2]⟩
end
theorem join_le (ts : List Str) : (Str.join ", " ts).length ≤ piled ts := by
  cases ts with
  | nil => decide +kernel
  | cons t r =>
    have := join_length_add (t :: r) (by simp)
    omega
theorem textFrom_le : ∀ (ts : List Str) (k : Nat) (acc : Str), (textFrom k acc ts).length ≤ acc.length + piled ts
  | [], k, acc => by show acc.length ≤ acc.length + piled []; omega
  | t :: r, k, acc => by
    by_cases hk : 0 < k
    · rw [textFrom_length_pos _ k acc hk]; exact Nat.le_refl _
    · have ih := textFrom_length_pos r (k + 1) (acc ++ (if k > 0 then ", " else "" : String) ++ t) (by omega)
      have e : (textFrom k acc (t :: r)) = textFrom (k + 1) (acc ++ (if k > 0 then ", " else "" : String) ++ t) r := rfl
      rw [e, ih, piled_cons, if_neg hk, strLen_app, strLen_app]
      have : ((("" : String) : Str)).length = 0 := by decide +kernel
      rw [this]
      omega
mutual
theorem shown_le : ∀ d : D, bd d = true → d.shown.length ≤ sz d
  | .none, _ => by simp only [PyData.shown, sz]; decide +kernel
  | .bool b, _ => by cases b <;> (simp only [PyData.shown, sz]; decide +kernel)
  | .int i, h => by
    simp only [bd, decide_eq_true_eq] at h
    simp only [PyData.shown, sz]
    have h2 : (Str.ofString (toString i)).length = (toString i).length := by
      exact PySem.ofString_length _
    by_cases hb : i.natAbs < 10 ^ 250
    · rw [if_pos hb]
      have h1 := int_text_length_le10 (a := i) (k := 250) (by decide) hb
      omega
    · rw [if_neg hb]
      have h1 := int_text_length_le10 (a := i) (k := 420) (by decide) h
      omega
  | .str x, h => by
    simp only [bd] at h
    simp only [PyData.shown, sz]
    refine PySem.StrLaws.reprText_len x fun c hc => ?_
    unfold PyData.strOk at h
    rw [Array.all_eq_true'] at h
    have := h c (by simpa using hc)
    simp at this
    omega
  | .list ds, h => by
    have := shownL_le ds (by simpa [bd] using h)
    have e := textFrom_le (PyData.shownAll ds) 0 "["
    simp only [PyData.shown, sz, listText]
    rw [strLen_app]
    have e1 : ((("[" : String) : Str)).length = 1 := by decide +kernel
    have e2 : ((("]" : String) : Str)).length = 1 := by decide +kernel
    omega
  | .tuple ds, h => by
    have := shownL_le ds (by simpa [bd] using h)
    have e := join_le (PyData.shownAll ds)
    simp only [PyData.shown, sz, tupleText]
    rw [strLen_app, strLen_app]
    have e1 : ((("(" : String) : Str)).length = 1 := by decide +kernel
    have e2 : (((if (PyData.shownAll ds).length == 1 then ",)" else ")" : String) : Str)).length ≤ 2 := by
      split <;> decide +kernel
    omega
  | .dict _, h => by simp [bd] at h
theorem shownL_le : ∀ ds : List D, bdAll ds = true → piled (PyData.shownAll ds) ≤ szAll ds
  | [], _ => by simp only [PyData.shownAll, szAll]; exact Nat.le_refl _
  | d :: ds, h => by
    simp only [bdAll, Bool.and_eq_true] at h
    have h1 := shown_le d h.1
    have h2 := shownL_le ds h.2
    simp only [PyData.shownAll, szAll, piled_cons]
    omega
end
/-- a tree of depth at most h, written with at most t signs -/
structure Bt (h t : Nat) (d : D) : Prop where
  b : bd d = true
  h : PyData.depth d ≤ h
  t : sz d ≤ t
structure BtL (h t : Nat) (ds : List D) : Prop where
  b : bdAll ds = true
  h : PyData.depthAll ds ≤ h
  t : szAll ds ≤ t
section
variable {h h' t t' a b : Nat} {d : D} {ds es : List D}
theorem Bt.to (x : Bt h t d) (l : h ≤ h') (m : t ≤ t') : Bt h' t' d := ⟨x.b, Nat.le_trans x.h l, Nat.le_trans x.t m⟩
theorem BtL.to (x : BtL h t ds) (l : h ≤ h') (m : t ≤ t') : BtL h' t' ds := ⟨x.b, Nat.le_trans x.h l, Nat.le_trans x.t m⟩
theorem Bt.lit (e : (bd d && decide (PyData.depth d ≤ h) && decide (sz d ≤ t)) = true) : Bt h t d := by
  simp only [Bool.and_eq_true, decide_eq_true_eq] at e
  exact ⟨e.1.1, e.1.2, e.2⟩
theorem BtL.nil : BtL h t [] := ⟨rfl, Nat.zero_le _, Nat.zero_le _⟩
theorem BtL.cons (x : Bt h a d) (y : BtL h b ds) : BtL h (a + b + 2) (d :: ds) := by
  refine ⟨by rw [bdAll, x.b, y.b]; rfl, ?_, ?_⟩
  · have := x.h; have := y.h; simp only [PyData.depthAll]; omega
  · have := x.t; have := y.t; simp only [szAll]; omega
theorem Bt.tup (x : BtL h t ds) : Bt (h + 1) (t + 3) (.tuple ds) := by
  refine ⟨by rw [bd, x.b], ?_, ?_⟩
  · have := x.h; simp only [PyData.depth]; omega
  · have := x.t; simp only [sz]; omega
theorem Bt.lst (x : BtL h t ds) : Bt (h + 1) (t + 3) (.list ds) := by
  refine ⟨by rw [bd, x.b], ?_, ?_⟩
  · have := x.h; simp only [PyData.depth]; omega
  · have := x.t; simp only [sz]; omega
theorem Bt.ofTup (x : Bt h t (.tuple ds)) : BtL (h - 1) t ds := by
  obtain ⟨x1, x2, x3⟩ := x
  rw [bd] at x1
  simp only [PyData.depth] at x2
  simp only [sz] at x3
  exact ⟨x1, by omega, by omega⟩
theorem Bt.ofLst (x : Bt h t (.list ds)) : BtL (h - 1) t ds := by
  obtain ⟨x1, x2, x3⟩ := x
  rw [bd] at x1
  simp only [PyData.depth] at x2
  simp only [sz] at x3
  exact ⟨x1, by omega, by omega⟩
theorem Bt.pos (x : Bt h t (.tuple ds)) : 1 ≤ h := by
  have := x.h
  simp only [PyData.depth] at this
  omega
theorem BtL.head (x : BtL h t (d :: ds)) : Bt h t d ∧ BtL h t ds := by
  obtain ⟨x1, x2, x3⟩ := x
  rw [bdAll, Bool.and_eq_true] at x1
  simp only [PyData.depthAll] at x2
  simp only [szAll] at x3
  exact ⟨⟨x1.1, by omega, by omega⟩, ⟨x1.2, by omega, by omega⟩⟩
theorem BtL.mem : ∀ {ds : List D}, BtL h t ds → ∀ d ∈ ds, Bt h t d
  | [], _, d, m => nomatch m
  | e :: ds, x, d, m => by
    obtain ⟨x1, x2⟩ := x.head
    rcases List.mem_cons.mp m with rfl | m
    · exact x1
    · exact BtL.mem x2 d m
theorem BtL.app : ∀ {ds es : List D} {a b : Nat}, BtL h a ds → BtL h b es → BtL h (a + b) (ds ++ es)
  | [], es, a, b, _, y => y.to (Nat.le_refl _) (by omega)
  | d :: ds, es, a, b, x, y => by
    obtain ⟨x1, x2, x3⟩ := x
    rw [bdAll, Bool.and_eq_true] at x1
    simp only [PyData.depthAll] at x2
    simp only [szAll] at x3
    have r := BtL.app (ds := ds) (a := a - sz d - 2) ⟨x1.2, by omega, by omega⟩ y
    refine ⟨by rw [List.cons_append, bdAll, x1.1, r.b]; rfl, ?_, ?_⟩
    · have := r.h; rw [List.cons_append]; simp only [PyData.depthAll]; omega
    · have := r.t; rw [List.cons_append]; simp only [szAll]; omega
theorem BtL.all : ∀ {ds : List D}, (∀ d ∈ ds, Bt h t d) → BtL h (ds.length * (t + 2)) ds
  | [], _ => ⟨rfl, Nat.zero_le _, Nat.zero_le _⟩
  | d :: ds, x => by
    have r := BtL.cons (x d (List.mem_cons_self ..)) (BtL.all fun e m => x e (List.mem_cons_of_mem _ m))
    refine r.to (Nat.le_refl _) ?_
    rw [List.length_cons, Nat.succ_mul]
    omega
theorem BtL.take (n : Nat) (x : BtL h t ds) : BtL h t (ds.take n) := by
  induction n generalizing ds t with
  | zero => rw [List.take_zero]; exact ⟨rfl, Nat.zero_le _, Nat.zero_le _⟩
  | succ n ih =>
    cases ds with
    | nil => exact x
    | cons d ds =>
      obtain ⟨x1, x2, x3⟩ := x
      rw [bdAll, Bool.and_eq_true] at x1
      simp only [PyData.depthAll] at x2
      simp only [szAll] at x3
      have r := ih (ds := ds) (t := t - sz d - 2) ⟨x1.2, by omega, by omega⟩
      refine ⟨by rw [List.take_succ_cons, bdAll, x1.1, r.b]; rfl, ?_, ?_⟩
      · have := r.h; rw [List.take_succ_cons]; simp only [PyData.depthAll]; omega
      · have := r.t; rw [List.take_succ_cons]; simp only [szAll]; omega
theorem BtL.drop (n : Nat) (x : BtL h t ds) : BtL h t (ds.drop n) := by
  induction n generalizing ds with
  | zero => exact x
  | succ n ih =>
    cases ds with
    | nil => exact x
    | cons d ds => exact ih x.head.2
theorem Bt.sh (x : Bt h t d) (l : h ≤ 64) : Sh d := by
  show (PyData.canLay0 _ && decide (PyData.depth _ ≤ 64)) = true
  rw [Bool.and_eq_true, decide_eq_true_eq]
  exact ⟨(bd_lay d x.b).1, Nat.le_trans x.h l⟩
theorem Bt.repr (x : Bt h t d) (l : h ≤ 64) (m : t ≤ 16000000) {Q : D → Prop} (q : Q (.str d.shown)) : reprD [d] Q :=
  ⟨x.sh l, (bd_lay d x.b).2, Nat.le_trans (shown_le d x.b) (Nat.le_trans x.t (Nat.le_trans m (by decide))), q⟩
theorem Bt.int {i : Int} (hi : i.natAbs < 10 ^ 250) : Bt h 251 (.int i) := ⟨by simp only [bd]; exact decide_eq_true (Nat.lt_of_lt_of_le hi (Nat.pow_le_pow_right (by decide) (by decide))), Nat.zero_le _, by simp only [sz]; rw [if_pos hi]; exact Nat.le_refl _⟩
theorem Bt.bigInt {i : Int} (hi : i.natAbs < 10 ^ 420) : Bt h 421 (.int i) := ⟨by simp only [bd]; exact decide_eq_true hi, Nat.zero_le _, by simp only [sz]; split <;> decide⟩
theorem Bt.str {x : Str} (hx : PyData.strOk x = true) {n : Nat} (hn : x.length ≤ n) : Bt h (10 * n + 2) (.str x) := ⟨by simp only [bd]; exact hx, Nat.zero_le _, by simp only [sz]; omega⟩
theorem i250 {i : Int} {k : Nat} (h : i.natAbs < 10 ^ 40) : i.natAbs < 10 ^ 250 := Nat.lt_of_lt_of_le h (Nat.pow_le_pow_right (by decide) (by decide))
end

/-! ### repr of a tree that may hold dicts -/
section
variable {X : Cx} {pins : List (Addr × Obj)} {σ : L2.St} {H : Hp} {s : Shared}
mutual
theorem Rp.rk (I : Inv X pins σ H s) : ∀ (d : D) (v : V) (u : Value), Rp X.K H v d → RelV v u → d.showable = true → d.shown.length ≤ sizeLine → ∃ as bs, Reads s.heap u d as ∧ ReadAtMost s.heap d.depth bs ∧ ReprK X.prog X.w bs s.heap d.depth u d.shown
  | .none, _, _, h, r, hs, hz => by
    cases h; cases r
    obtain ⟨bs, h1, h2⟩ := ReprK.of_reads (prog := X.prog) (w := X.w) (h₀ := s.heap) Reads.none hs (fun z => by cases z) hz
    exact ⟨_, bs, Reads.none, h1, h2⟩
  | .bool b, _, _, h, r, hs, hz => by
    cases h; cases r
    obtain ⟨bs, h1, h2⟩ := ReprK.of_reads (prog := X.prog) (w := X.w) (h₀ := s.heap) (Reads.bool b) hs (fun z => by cases z) hz
    exact ⟨_, bs, Reads.bool b, h1, h2⟩
  | .int i, _, _, h, r, hs, hz => by
    cases h; obtain ⟨t, rfl⟩ := r
    obtain ⟨bs, h1, h2⟩ := ReprK.of_reads (prog := X.prog) (w := X.w) (h₀ := s.heap) (Reads.int i t) hs (fun z => by cases z) hz
    exact ⟨_, bs, Reads.int i t, h1, h2⟩
  | .str x, _, _, h, r, hs, hz => by
    cases h; obtain ⟨t, rfl⟩ := r
    obtain ⟨bs, h1, h2⟩ := ReprK.of_reads (prog := X.prog) (w := X.w) (h₀ := s.heap) (Reads.str x t) hs (fun z => by cases z) hz
    exact ⟨_, bs, Reads.str x t, h1, h2⟩
  | .list ds, _, _, h, r, hs, hz => by
    cases h with
    | lst hq ha =>
      cases r
      obtain ⟨its, rv, ⟨o, n, ho, hc, _, hd⟩, _⟩ := I.list (SqL.of hq)
      have hz' : (listText (PyData.shownAll ds)).length ≤ sizeLine := by simpa only [PyData.shown] using hz
      obtain ⟨as, bs, h4, hb, hk⟩ := Rp.rkAll I ds _ its ha rv (by simpa [PyData.showable] using hs) (fun t ht => Nat.le_trans (listText_mem_le ht) hz')
      have rr : Reads s.heap (.ref _) (.list ds) _ := .list ho hc hd h4
      have hna := not_mem_of_deeper rr (by simp only [PyData.depth]; omega) hb
      refine ⟨_, _, rr, ReadAtMost.cons rr (by simp only [PyData.depth]; omega) hb, ?_⟩
      simp only [PyData.depth, PyData.shown]
      cases its with
      | nil =>
        cases h4
        simp only [PyData.shownAll, listText_nil]
        exact ReprK.listEmpty ho hc hd
      | cons x l => exact ReprK.list ho hc hd hna (by simpa using hk.length_eq) (fun i y e => hk.item i y (by simpa using e))
  | .tuple ds, _, _, h, r, hs, hz => by
    cases h with
    | tup hq ha =>
      cases r
      obtain ⟨its, rv, ⟨o, ho, hc, n, hd⟩, _⟩ := I.tuple hq.sq
      have hz' : (tupleText (PyData.shownAll ds)).length ≤ sizeLine := by simpa only [PyData.shown] using hz
      obtain ⟨as, bs, h4, hb, hk⟩ := Rp.rkAll I ds _ its ha rv (by simpa [PyData.showable] using hs) (fun t ht => Nat.le_trans (tupleText_mem_le ht) hz')
      have rr : Reads s.heap (.ref _) (.tuple ds) _ := .tuple ho hc hd h4
      have hna := not_mem_of_deeper rr (by simp only [PyData.depth]; omega) hb
      refine ⟨_, _, rr, ReadAtMost.cons rr (by simp only [PyData.depth]; omega) hb, ?_⟩
      simp only [PyData.depth, PyData.shown]
      exact ReprK.tuple ho hc hd hna hk
  | .dict ds, _, _, h, r, hs, hz => by
    cases h with
    | dic hq ha =>
      cases r
      obtain ⟨_, hsm, vs, kv, o, es, ep, ho, hx, hd, _, hp, _⟩ := dk_rd I.hok hq
      have hz' : (dictText (PyData.shownKv ds)).length ≤ sizeLine := by simpa only [PyData.shown] using hz
      obtain ⟨hs1, hs2⟩ := PyData.showableKv_split ds (by simpa [PyData.showable] using hs)
      obtain ⟨as, bs, b1, b2, h1, h2, hb1, hb2, k1, k2⟩ := Rp.rkKV I ds _ vs es.toList ha kv hp hs1 hs2 (fun t ht => let ⟨p, hp, hl⟩ := PyData.shownKv_key_le ds t ht; Nat.le_trans hl (Nat.le_trans (dictText_mem_le hp) hz')) (fun t ht => let ⟨p, hp, hl⟩ := PyData.shownKv_val_le ds t ht; Nat.le_trans hl (Nat.le_trans (dictText_mem_le hp) hz'))
      have rr : Reads s.heap (.ref _) (.dict ds) _ := .dict ho hx.1 hd h1 h2
      have hb : ReadAtMost s.heap (PyData.depthKv ds) (b1 ++ b2) := (hb1.mono (PyData.depthAll_keys_le ds)).append (hb2.mono (PyData.depthAll_vals_le ds))
      have hna := not_mem_of_deeper rr (by simp only [PyData.depth]; omega) hb
      refine ⟨_, _, rr, ReadAtMost.cons rr (by simp only [PyData.depth]; omega) hb, ?_⟩
      simp only [PyData.depth, PyData.shown, PyData.shownKv_eq]
      exact ReprK.dict ho hx.1 hd hsm hna (ReprEntriesK.of_two es.toList _ _ (k1.more_le (fun b hb => List.mem_append_left _ hb) (PyData.depthAll_keys_le ds)) (k2.more_le (fun b hb => List.mem_append_right _ hb) (PyData.depthAll_vals_le ds)))
theorem Rp.rkAll (I : Inv X pins σ H s) : ∀ (ds : List D) (vs : List V) (us : List Value), RpAll X.K H vs ds → Vals vs us → PyData.showableAll ds = true → (∀ t ∈ PyData.shownAll ds, t.length ≤ sizeLine) →
    ∃ as bs, ReadsAll s.heap us ds as ∧ ReadAtMost s.heap (PyData.depthAll ds) bs ∧ ReprAllK X.prog X.w bs s.heap (PyData.depthAll ds) us (PyData.shownAll ds)
  | [], _, _, h, r, _, _ => by cases h; cases r; exact ⟨_, [], ReadsAll.nil, (fun _ h => nomatch h), by simp only [PyData.shownAll]; exact .nil⟩
  | d :: ds, _, _, h, r, hs, hz => by
    have hs' : d.showable = true ∧ PyData.showableAll ds = true := by simpa [PyData.showableAll] using hs
    cases h with
    | cons h1 h2 =>
      cases r with
      | cons r1 r2 =>
        obtain ⟨as, b1, q1, hb1, k1⟩ := Rp.rk I d _ _ h1 r1 hs'.1 (hz _ (by simp only [PyData.shownAll]; exact List.mem_cons_self ..))
        obtain ⟨bs, b2, q2, hb2, k2⟩ := Rp.rkAll I ds _ _ h2 r2 hs'.2 (fun t ht => hz t (by simp only [PyData.shownAll]; exact List.mem_cons_of_mem _ ht))
        refine ⟨_, b1 ++ b2, ReadsAll.cons q1 q2, ?_, ?_⟩
        · simp only [PyData.depthAll]
          exact (hb1.mono (Nat.le_max_left _ _)).append (hb2.mono (Nat.le_max_right _ _))
        · simp only [PyData.depthAll, PyData.shownAll]
          exact .cons ((k1.more fun b hb => List.mem_append_left _ hb).level_le (Nat.le_max_left _ _)) (k2.more_le (fun b hb => List.mem_append_right _ hb) (Nat.le_max_right _ _))
theorem Rp.rkKV (I : Inv X pins σ H s) : ∀ (ds : List (D × D)) (kvs : List (Key × V)) (vs : List (Key × Value)) (es : List DictEntry), RpKV X.K H kvs ds → KV kvs vs → Pairs (mixKind X.prog X.w) es vs →
    PyData.showableAll (ds.map (·.1)) = true → PyData.showableAll (ds.map (·.2)) = true → (∀ t ∈ PyData.shownAll (ds.map (·.1)), t.length ≤ sizeLine) → (∀ t ∈ PyData.shownAll (ds.map (·.2)), t.length ≤ sizeLine) →
    ∃ as bs b1 b2, ReadsAll s.heap (es.map (·.key)) (ds.map (·.1)) as ∧ ReadsAll s.heap (es.map (·.val)) (ds.map (·.2)) bs ∧ ReadAtMost s.heap (PyData.depthAll (ds.map (·.1))) b1 ∧ ReadAtMost s.heap (PyData.depthAll (ds.map (·.2))) b2 ∧
      ReprAllK X.prog X.w b1 s.heap (PyData.depthAll (ds.map (·.1))) (es.map (·.key)) (PyData.shownAll (ds.map (·.1))) ∧ ReprAllK X.prog X.w b2 s.heap (PyData.depthAll (ds.map (·.2))) (es.map (·.val)) (PyData.shownAll (ds.map (·.2)))
  | [], _, _, _, h, r, p, _, _, _, _ => by
    cases h; cases r; cases p
    exact ⟨_, _, [], [], ReadsAll.nil, ReadsAll.nil, (fun _ h => nomatch h), (fun _ h => nomatch h), by simp only [List.map_nil, PyData.shownAll]; exact .nil, by simp only [List.map_nil, PyData.shownAll]; exact .nil⟩
  | (k0, d) :: ds, _, _, _, h, r, p, s1, s2, z1, z2 => by
    cases h with
    | cons h1 h2 =>
      cases r with
      | cons r1 r2 =>
        cases p with
        | cons p1 p2 p3 =>
          rename_i kk _ _ _ _ ee _
          simp only [List.map_cons] at s1 s2 z1 z2 ⊢
          have s1' : PyData.showable (keyD kk) = true ∧ PyData.showableAll (ds.map (·.1)) = true := by simpa [PyData.showableAll] using s1
          have s2' : PyData.showable d = true ∧ PyData.showableAll (ds.map (·.2)) = true := by simpa [PyData.showableAll] using s2
          obtain ⟨as, bs, c1, c2, q1, q2, hb1, hb2, k1, k2⟩ := Rp.rkKV I ds _ _ _ h2 r2 p3 s1'.2 s2'.2 (fun t ht => z1 t (by simp only [PyData.shownAll]; exact List.mem_cons_of_mem _ ht)) (fun t ht => z2 t (by simp only [PyData.shownAll]; exact List.mem_cons_of_mem _ ht))
          obtain ⟨xs, e2, q3, hb3, k3⟩ := Rp.rk I d _ _ h1 r1.2 s2'.1 (z2 _ (by simp only [PyData.shownAll]; exact List.mem_cons_self ..))
          rw [← p2] at q3 k3
          have hk : Reads s.heap ee.key (keyD kk) [] := by
            rw [← r1.1] at p1
            rcases keyIs_shape p1 with ⟨i, t, e1, e2⟩ | ⟨x, t, e1, e2⟩
            · rw [show kk = Sum.inl i from e1, e2]; exact Reads.int i t
            · rw [show kk = Sum.inr x from e1, e2]; exact Reads.str x t
          have hnd : (keyD kk).hasDict = true → sysModules ∉ ([] : List Addr) := fun _ => List.not_mem_nil
          obtain ⟨e1, hb4, k4⟩ := ReprK.of_reads (prog := X.prog) (w := X.w) hk s1'.1 hnd (z1 _ (by simp only [PyData.shownAll]; exact List.mem_cons_self ..))
          refine ⟨_, _, e1 ++ c1, e2 ++ c2, ReadsAll.cons hk q1, ReadsAll.cons q3 q2, ?_, ?_, ?_, ?_⟩
          · simp only [PyData.depthAll]
            exact (hb4.mono (Nat.le_max_left _ _)).append (hb1.mono (Nat.le_max_right _ _))
          · simp only [PyData.depthAll]
            exact (hb3.mono (Nat.le_max_left _ _)).append (hb2.mono (Nat.le_max_right _ _))
          · simp only [PyData.depthAll, PyData.shownAll]
            exact .cons ((k4.more fun b hb => List.mem_append_left _ hb).level_le (Nat.le_max_left _ _)) (k1.more_le (fun b hb => List.mem_append_right _ hb) (Nat.le_max_right _ _))
          · simp only [PyData.depthAll, PyData.shownAll]
            exact .cons ((k3.more fun b hb => List.mem_append_left _ hb).level_le (Nat.le_max_left _ _)) (k2.more_le (fun b hb => List.mem_append_right _ hb) (Nat.le_max_right _ _))
end
end
def rReprT (K : PySem.W.Frag) : List V → Hp → VK → Prop := fun xs H Q => ∃ x d, xs = [x] ∧ Rp K H x d ∧ d.depth ≤ 64 ∧ d.showable = true ∧ d.shown.length ≤ sizeLine ∧ Q (.str d.shown) H
theorem reprT {X : Cx} (K : PySem.W.Frag) (eK : X.K = K) (hg : X.A.guards = some []) (hu : X.A.units + 65 < cLine) : CallR X (.builtin "repr") (rReprT K) := by
  subst eK
  intro pins s σ H xs us Q I rv h
  obtain ⟨x, d, rfl, hd, sd, hw, hz, q⟩ := h
  obtain ⟨u, rfl, ru⟩ := vals1 rv
  cases d with
  | none => cases hd; cases ru; exact PySem.P.repr_of_none ⟨.str _, H, I.tok _, ⟨_, rfl⟩, q⟩
  | bool b => cases hd; cases ru; exact PySem.P.repr_of_bool ⟨.str _, H, I.tok _, ⟨_, rfl⟩, q⟩
  | int i => cases hd; obtain ⟨t, rfl⟩ := ru; exact PySem.P.repr_of_int (by simpa [PyData.showable] using hw) ⟨.str _, H, I.tok _, ⟨_, rfl⟩, q⟩
  | str z => cases hd; obtain ⟨t, rfl⟩ := ru; exact PySem.P.repr_of_str ⟨.str _, H, I.tok _, ⟨_, rfl⟩, q⟩ hz
  | list ds =>
    cases hd with
    | lst hq ha =>
      cases ru
      obtain ⟨its, rv, ⟨o, n, ho, hc, _, hd⟩, _⟩ := I.list (SqL.of hq)
      have hz' : (listText (PyData.shownAll ds)).length ≤ sizeLine := by simpa only [PyData.shown] using hz
      obtain ⟨as, bs, h4, hb, hk⟩ := Rp.rkAll I ds _ its ha rv (by simpa [PyData.showable] using hw) (fun t ht => Nat.le_trans (listText_mem_le ht) hz')
      have rr : Reads s.heap (.ref _) (.list ds) _ := .list ho hc hd h4
      have hna := not_mem_of_deeper rr (by simp only [PyData.depth]; omega) hb
      simp only [PyData.depth] at sd
      simp only [PyData.shown] at q
      refine call_repr_slot (by omega) ⟨o, ho, hc⟩ F.slot_list_repr.toG ?_
      cases its with
      | nil =>
        cases h4
        simp only [PyData.shownAll, listText_nil] at q
        exact call_list_repr_empty ⟨o, ho, hc⟩ ho hd ⟨_, _, rfl, .str _, H, I.kept (fun _ _ e => e), ⟨_, rfl⟩, q⟩
      | cons x l => exact call_list_reprK ho hc hd hna (by simpa using hk.length_eq) (fun i y e => hk.item i y (by simpa using e)) hg (fun b _ => Clear.nil b) (by show X.A.units + 1 + _ < cLine; omega) (fun _ _ e => e) (fun h' u tk kp => ⟨_, _, rfl, .str _, H, I.kept kp, ⟨_, rfl⟩, q⟩) hz'
  | tuple ds =>
    cases hd with
    | tup hq ha =>
      cases ru
      obtain ⟨its, rv, ⟨o, ho, hc, n, hd⟩, _⟩ := I.tuple hq.sq
      have hz' : (tupleText (PyData.shownAll ds)).length ≤ sizeLine := by simpa only [PyData.shown] using hz
      obtain ⟨as, bs, h4, hb, hk⟩ := Rp.rkAll I ds _ its ha rv (by simpa [PyData.showable] using hw) (fun t ht => Nat.le_trans (tupleText_mem_le ht) hz')
      have rr : Reads s.heap (.ref _) (.tuple ds) _ := .tuple ho hc hd h4
      have hna := not_mem_of_deeper rr (by simp only [PyData.depth]; omega) hb
      simp only [PyData.depth] at sd
      simp only [PyData.shown] at q
      refine call_repr_slot (by omega) ⟨o, ho, hc⟩ F.slot_tuple_repr ?_
      exact call_tuple_reprK ho hc hd hna hk hg (fun b _ => Clear.nil b) (by show X.A.units + 1 + _ < cLine; omega) (fun _ _ e => e) (fun h' u tk kp => ⟨_, _, rfl, .str _, H, I.kept kp, ⟨_, rfl⟩, q⟩) hz'
  | dict ds =>
    cases hd with
    | dic hq ha =>
      cases ru
      obtain ⟨_, hsm, vs, kv, o, es, ep, ho, hx, hd, _, hp, _⟩ := dk_rd I.hok hq
      have hz' : (dictText (PyData.shownKv ds)).length ≤ sizeLine := by simpa only [PyData.shown] using hz
      obtain ⟨hs1, hs2⟩ := PyData.showableKv_split ds (by simpa [PyData.showable] using hw)
      obtain ⟨as, bs, b1, b2, h1, h2, hb1, hb2, k1, k2⟩ := Rp.rkKV I ds _ vs es.toList ha kv hp hs1 hs2 (fun t ht => let ⟨p, hp, hl⟩ := PyData.shownKv_key_le ds t ht; Nat.le_trans hl (Nat.le_trans (dictText_mem_le hp) hz')) (fun t ht => let ⟨p, hp, hl⟩ := PyData.shownKv_val_le ds t ht; Nat.le_trans hl (Nat.le_trans (dictText_mem_le hp) hz'))
      have rr : Reads s.heap (.ref _) (.dict ds) _ := .dict ho hx.1 hd h1 h2
      have hb : ReadAtMost s.heap (PyData.depthKv ds) (b1 ++ b2) := (hb1.mono (PyData.depthAll_keys_le ds)).append (hb2.mono (PyData.depthAll_vals_le ds))
      have hna := not_mem_of_deeper rr (by simp only [PyData.depth]; omega) hb
      simp only [PyData.depth] at sd
      simp only [PyData.shown, PyData.shownKv_eq] at q
      refine call_repr_slot (by omega) ⟨o, ho, hx.1⟩ F.slot_dict_repr ?_
      exact call_dict_reprK ho hx.1 hd hsm hna (ReprEntriesK.of_two es.toList _ _ (k1.more_le (fun b hb => List.mem_append_left _ hb) (PyData.depthAll_keys_le ds)) (k2.more_le (fun b hb => List.mem_append_right _ hb) (PyData.depthAll_vals_le ds))) hg (fun b _ => Clear.nil b) (by show X.A.units + 1 + _ < cLine; omega) (fun _ _ e => e) (fun h' u tk kp => ⟨_, _, rfl, .str _, H, I.kept kp, ⟨_, rfl⟩, q⟩) (by rw [← PyData.shownKv_eq]; exact hz')
theorem Rd'.rp {K : PySem.W.Frag} {Hs H : Hp} {v : V} {d : D} (h : Rd' K Hs H v d) (sub : Same Hs H) : Rp K H v d := by
  cases e : isC d with
  | true =>
    cases d <;> first | (exfalso; have e' : false = true := e; cases e'; done) | skip
    case list ds =>
      obtain ⟨a, xs, rfl, h1, h2⟩ := Rd'.list h
      exact .lst h1 (RpAll.mono sub h2)
    case dict ds =>
      obtain ⟨a, xs, rfl, h1, h2⟩ := Rd'.dict h
      exact .dic h1 (RpKV.mono sub h2)
  | false =>
    have h : (if isC d = true then _ else Rp K Hs v d) := h
    rw [if_neg (by rw [e]; exact Bool.false_ne_true)] at h
    exact Rp.mono sub h
def reprTD : DF := fun ds Q => match ds with
  | [d] => PyData.depth d ≤ 64 ∧ d.showable = true ∧ d.shown.length ≤ sizeLine ∧ Q (.str d.shown)
  | _ => False
theorem caA_reprT {C : Cf} : CaA C (rReprT C.K) reprTD := by
  intro H0 S0 Hs σ H s vs ds Q Q' r hd q k
  match vs, ds, hd with
  | [v], [d], ⟨h, _⟩ => exact ⟨v, d, rfl, h.rp r.sub, q.1, q.2.1, q.2.2.1, k Hs H _ (.str _) Go.refl r (Val.mkP (Rp.str _) rfl) q.2.2.2⟩
  | [], [], _ => exact q.elim
  | _ :: _ :: _, _ :: _ :: _, _ => exact q.elim

/-! ### enumerate of a tuple -/
theorem meets_enum1B {v : Value} {o : Obj} {H : Heap → Prop} (B : Begins v o H) :
    Meets (Builtin.«enumerate.__new__» ⟨[.type "enumerate", v], []⟩) (fun _ R s => H s.heap ∧
      R (.ok (.ret (.ref (s.heap.push o).objs.size))) { s with heap := (s.heap.push o).push { cls := .type "enumerate", data := .fields #[.none, .bool false, .ref s.heap.objs.size, rawInt 0, .none, .none] } }) :=
  .of_wp fun prog w A R s h => by
    obtain ⟨hp, g, d, tk, os⟩ := s
    obtain ⟨h1, h⟩ := h
    have hsub := sub_enumerate
    have q1 : ∀ {A' : Around} {E : Value → Shared → Prop} {Q : Value → Shared → Prop}, Q (.ref hp.objs.size) ⟨hp.push o, g, d, tk, os⟩ → wpAny (model prog w) A' (pyIter v) Q E ⟨hp, g, d, tk, os⟩ :=
      fun q => B.iter prog w _ _ ⟨hp, g, d, tk, os⟩ _ h1 q
    wp_walk using q1
    refine wpAny_stack_any fun st => wpAny_pure ?_
    split
    · rename_i c _ _ _ _ _
      cases (c == Value.type "enumerate")
      · wp_walk using q1
        exact ⟨_, rfl, h⟩
      · wp_walk using q1
        exact ⟨_, rfl, h⟩
    · wp_walk using q1
      exact ⟨_, rfl, h⟩
section
variable {prog : Program} {w : World} {A : Around} {E : Value → Shared → Prop} {s : Shared}
theorem enum1_begins {v : Value} {o : Obj} {H : Heap → Prop} {Q : Value → Shared → Prop} (B : Begins v o H) (h1 : H s.heap)
    (h : ∀ h', IsEnum h' (s.heap.objs.size + 1) s.heap.objs.size 0 .none → h'.get? s.heap.objs.size = some o → h'.objs.size = s.heap.objs.size + 2 →
      (∀ b o, s.heap.get? b = some o → h'.get? b = some o) → Q (.ref (s.heap.objs.size + 1)) { s with heap := h' }) :
    wpAny (model prog w) A (call (.type "enumerate") [v]) Q E s := by
  refine callType_new F.called_enumerate (by decide) (F.typeCall_enumerate_1 _) (F.newCall_enumerate_1 _) (fun obj => F.args_object_init_2 obj _) F.entry_enumerate_new (meets_enum1B B) ⟨h1, ?_⟩
  have hz : (s.heap.push o).objs.size = s.heap.objs.size + 1 := Heap.size_push ..
  show _ ∧ _
  rw [hz]
  have he : IsEnum ((s.heap.push o).push { cls := .type "enumerate", data := .fields #[.none, .bool false, .ref s.heap.objs.size, rawInt 0, .none, .none] }) (s.heap.objs.size + 1) s.heap.objs.size 0 .none := by
    have := Heap.get?_push_size (s.heap.push o) (o := { cls := .type "enumerate", data := .fields #[.none, .bool false, .ref s.heap.objs.size, rawInt 0, .none, .none] }) rfl
    rw [hz] at this
    exact this
  exact ⟨⟨_, he, rfl⟩, h _ he (Heap.get?_push_of_some _ (Heap.get?_push_size _ B.free)) (by rw [Heap.size_push, hz]) fun b o x => Heap.get?_push_of_some _ (Heap.get?_push_of_some _ x)⟩
end
def IteT (K : PySem.W.Frag) (b : Addr) (n : Nat) : It :=
  ⟨fun i H => ∃ (ys : List V) (y : V), SqT K H b ys ∧ ys.length = n ∧ ys[i]? = some y,
    fun i H v H' => ∃ T y, v = .ref T ∧ H T = none ∧ H' = L2.upd H T (.tup [.int (i : Nat), y]) ∧ ∀ ys, SqT K H b ys → ys[i]? = some y,
    fun i H => ∃ ys : List V, SqT K H b ys ∧ ys.length = n ∧ n ≤ i⟩
theorem turn_enumT {P : Program} {w : World} {K : PySem.W.Frag} {elts : List Expr} {kk n : Nat} {tpos : Pos} (b e it : Addr) (hne : e ≠ it) (heb : e ≠ b) (hbi : b ≠ it) :
    Turn P w K (.Tuple elts kk tpos) (IteT K b n) [e, it] e (fun i h => (∃ old, IsEnum h e it ((i : Nat) : Int) old) ∧ h.IsTupleIter it b i ∧ i ≤ n) where
  mem := by simp
  obj := fun i h st c hc => by
    obtain ⟨⟨old, he⟩, ⟨o, ho, hcl, hd⟩, _⟩ := st
    have e' : c = e ∨ c = it := by simpa using hc
    rcases e' with z | z
    · rw [z]; exact ⟨_, he, fun v q => nomatch q⟩
    · rw [z]; exact ⟨o, ho, fun v q => by rw [hd] at q; cases q⟩
  keep := fun i h h' st k => by
    obtain ⟨⟨old, he⟩, hi, hl⟩ := st
    exact ⟨⟨old, k e (by simp) _ he⟩, hi.at fun o q => k it (by simp) o q, hl⟩
  item := by
    intro X hP hw hK hc i pins s σ H E I hf st hg
    subst hP hw hK
    obtain ⟨⟨old, he⟩, hit, hl⟩ := st
    obtain ⟨ys, y, hqy, hlen, hy⟩ := hg
    obtain ⟨its, rv, p2, _⟩ := I.tuple hqy
    obtain ⟨u2, hu2, ru2⟩ := rv.get hy
    have hel : e < s.heap.objs.size := Heap.lt_size he
    have hil : it < s.heap.objs.size := by obtain ⟨_, q, _⟩ := hit; exact Heap.lt_size q
    have hin : i < n := by
      have := (List.getElem?_eq_some_iff.mp hy).1
      omega
    have hh : X.A.in1.handled = none := I.ok.hd hc
    have hsz : its.toArray.size = n := by rw [List.size_toArray, ← rv.length, hlen]
    have D := Draws.tuple (prog := X.prog) (w := X.w) hh it b hbi its.toArray
    rw [hsz] at D
    refine wpAny_pyNext_enum_itemD D he ⟨hit, p2⟩ hin hne (by simp [hne, heb]) fun v h' tk hv ho hit' hT hsz' hk => ?_
    have ew : v = u2 := by
      have e : its.toArray[i]? = some v := hv
      rw [List.getElem?_toArray, hu2] at e
      exact (Option.some.inj e).symm
    subst ew
    refine ⟨_, rfl, wpAny_letOwnedTupleGo_enum (s := { s with heap := h', toks := tk + 1 }) ho fun h'' he' sb => ?_⟩
    have hT2 : h''.get? s.heap.objs.size = some { cls := .type "tuple", data := .seq #[.int i tk, v] } := (sb.2 _ (Nat.ne_of_gt hel)).trans hT
    have new : ObjOk X.prog X.w (L2.upd H s.heap.objs.size (.tup [.int (i : Nat), y])) h'' s.heap.objs.size (.tup [.int (i : Nat), y]) :=
      ⟨by show 2 ≤ sizeLine; decide, [.int i tk, v], .cons ⟨_, rfl⟩ (.cons ru2 .nil), ⟨_, hT2, rfl, _, rfl⟩⟩
    have I1 : Inv X pins σ (L2.upd H s.heap.objs.size (.tup [.int (i : Nat), y])) { s with heap := h'', toks := tk + 1 } :=
      I.turnedNew (ch := [e, it]) (fun b ob hb q => (sb.2 b (fun z => hb (by simp [z]))).trans (hk b ob (fun z => hb (by simp [z])) (fun z => hb (by simp [z])) q)) hf (Nat.le_refl _) new
    refine ⟨.ref s.heap.objs.size, _, I1, rfl, ⟨_, y, rfl, I.hok.fresh (Nat.le_refl _), rfl, fun l hl => by rw [I.tuple_inj hl hqy]; exact hy⟩, ⟨⟨v, ?_⟩, hit'.1.at fun o q => (sb.2 it (Ne.symm hne)).trans q, hin⟩, fun b hb => ?_⟩
    · have e1 : ((i + 1 : Nat) : Int) = (i : Int) + 1 := by omega
      rw [e1]; exact he'
    · have hb' : b < s.heap.objs.size := by
        have e' : b = e ∨ b = it := by simpa using hb
        rcases e' with z | z
        · rw [z]; exact hel
        · rw [z]; exact hil
      rw [upd_ne (Nat.ne_of_lt hb')]
      exact (hf b hb).1
  done := by
    intro X hP hw hK hc i pins s σ H E I hf st hg
    subst hP hw hK
    obtain ⟨⟨old, he⟩, hit, hl⟩ := st
    obtain ⟨ys, hqy, hlen, hend⟩ := hg
    obtain ⟨its, rv, p2, _⟩ := I.tuple hqy
    have ei : i = n := by omega
    subst ei
    have hh : X.A.in1.handled = none := I.ok.hd hc
    have hsz : its.toArray.size = i := by rw [List.size_toArray, ← rv.length, hlen]
    have D := Draws.tuple (prog := X.prog) (w := X.w) hh it b hbi its.toArray
    rw [hsz] at D
    obtain ⟨f0, f1, f2, f3, f4, f5⟩ := hf it (by simp)
    exact wpAny_pyNext_enum_endD D he ⟨hit, p2⟩ fun h' eb => ⟨rfl, I.turned (t' := s.toks) (fun b o hb q => eb b o hb q) f0 f1 f3 f4 f5⟩
  self := fun A i s Q E st h => let ⟨⟨_, he⟩, _⟩ := st; wpAny_pyIter_enum he h
def iEnumT (K : PySem.W.Frag) (ta : TA) : TI := fun σ H R => ta σ H fun vs H1 => ∃ b ys, vs = [.ref b] ∧ SqT K H1 b ys ∧ R (IteT K b ys.length) H1
theorem pi_enumT {X : Cx} {e : Expr} {ta : TA} {p pos tpos : Pos} {elts : List Expr} {kk : Nat} (hg : Gl X "enumerate") (hm : X.mg "enumerate" = none) (ha : PA X [e] ta) (hs : starEach [e] X.env = [(false, eval e X.env)] := by rfl) :
    PI X (.Tuple elts kk tpos) (.Call (.Name "enumerate" p) [e] [] pos) (iEnumT X.K ta) := by
  refine ⟨fun pins s σ H R I h => ?_⟩
  refine Call_ (ld_blt I hg hm boot_enumerate (PyProof.Rows.callWith_type1 (thn (ha.run pos pins s σ H _ I h) fun us s1 ⟨vs, H1, I1, r1, q1⟩ => ?_) hs rfl))
  obtain ⟨b, ys, ex, hq, q⟩ := q1
  subst ex
  cases r1 with
  | cons r rr =>
    cases rr
    cases r
    obtain ⟨its, rv, p2, _⟩ := I1.tuple hq
    obtain ⟨o2, ho2, _⟩ := id p2
    have hbl : b < s1.heap.objs.size := Heap.lt_size ho2
    refine enum1_begins (begins_tuple b its.toArray) (show s1.heap.IsTuple b its.toArray from p2) fun h' he g2 hsz hk => wpAny_pyIter_enum he ?_
    have I2 : Inv X pins σ H1 { s1 with heap := h' } := I1.kept (t' := s1.toks) hk
    refine ⟨s1.heap.objs.size + 1, [s1.heap.objs.size + 1, s1.heap.objs.size], _, _, H1, rfl, I2, turn_enumT b (s1.heap.objs.size + 1) s1.heap.objs.size (Nat.succ_ne_self _) (Nat.ne_of_gt (Nat.lt_succ_of_lt hbl)) (Nat.ne_of_lt hbl), ⟨⟨.none, he⟩, ⟨_, g2, rfl, rfl⟩, Nat.zero_le _⟩, fun b hb => ?_, q⟩
    have e' : b = s1.heap.objs.size + 1 ∨ b = s1.heap.objs.size := by simpa using hb
    have hle : s1.heap.objs.size ≤ b := by
      rcases e' with z | z
      · rw [z]; exact Nat.le_add_right _ _
      · rw [z]; exact Nat.le_refl _
    exact I1.fpOk hle (I1.hok.fresh hle)
theorem walk_enumT {K : PySem.W.Frag} {b : Addr} {ys : List V} : Walk (IteT K b ys.length) ys.length (fun H => SqT K H b ys) (fun i H v H' => ∃ T y, v = .ref T ∧ H T = none ∧ H' = L2.upd H T (.tup [.int (i : Nat), y]) ∧ ys[i]? = some y) := by
  refine ⟨fun i H hi q => ⟨ys, ys[i], q, rfl, List.getElem?_eq_getElem hi⟩, fun H q => ⟨ys, q, rfl, Nat.le_refl _⟩, fun i H v H' _ q y => ?_⟩
  obtain ⟨T, y, h1, h2, h3, h4⟩ := y
  exact ⟨T, y, h1, h2, h3, h4 ys q⟩
def dEnumT (a : DT) : DI := fun s Q => a s fun d s1 => match d with
  | .tuple ds => Q (prD (rgD 0 ds.length) ds) s1
  | _ => False
section
variable {C : Cf} {ca : Cat} {te : TE} {t : DT}
theorem simI_enumT (h : Sim C ca te t) : SimI C true (iEnumT C.K (tCons te tNil)) (dEnumT t) := by
  refine ⟨fun H0 S0 Hs σ H s Q Q' r q k => h.toE.run H0 S0 Hs σ H s _ _ r q fun Hs1 H1 v d s1 g1 r1 v1 q1 => ?_⟩
  cases d <;> first | exact q1.elim | skip
  rename_i ds
  have v1' : Rp C.K Hs1 v (.tuple ds) := v1
  cases v1' with
  | @tup y ys _ e3 e4 =>
  refine ⟨y, ys, rfl, Same.sqT r1.sub e3.sq, k Hs1 H1 _ _ s1 g1 r1 ?_ q1⟩
  refine ⟨_, _, by rw [enum_len, ← e4.len]; exact walk_enumT, fun H e => Same.sqT e e3.sq, fun i H v H2 H0 S0 Hs σ s hi r e y => ?_⟩
  obtain ⟨T, x2, rfl, nT, rfl, f2⟩ := y
  obtain ⟨d', f5, f6⟩ := e4.getV f2
  obtain ⟨Hs2, r2, rp, g⟩ := pair_it r nT (Rp.int ((i : Nat) : Int)) (Rp.mono e f6)
  exact ⟨Hs2, _, enum_get f5, r2, rp, g⟩
end

/-! ### a dict that is walked through: locked meanwhile -/
/-- what stands at d is o from now on -/
def sw (d : Addr) (o : HO) (H : Hp) : Hp := fun b => if b = d ∧ H b ≠ none then some o else H b
section
variable {d : Addr} {o o' x : HO} {H H' : Hp} {b : Addr}
theorem sw_ne (h : b ≠ d) : sw d o H b = H b := by unfold sw; rw [if_neg (fun z => h z.1)]
theorem sw_at (h : H d ≠ none) : sw d o H d = some o := by unfold sw; rw [if_pos ⟨rfl, h⟩]
theorem sw_none (h : H b = none) : sw d o H b = none := by unfold sw; rw [if_neg (fun z => z.2 h)]; exact h
theorem sw_none' (h : sw d o H b = none) : H b = none := by
  unfold sw at h
  split at h
  · cases h
  · exact h
theorem sw_nn (h : H b ≠ none) : sw d o H b ≠ none := fun z => h (sw_none' z)
theorem sw_some (h : sw d o H b = some x) : (b = d ∧ x = o ∧ H d ≠ none) ∨ (b ≠ d ∧ H b = some x) := by
  by_cases hb : b = d
  · subst hb
    by_cases hn : H b = none
    · rw [sw_none hn] at h; cases h
    · rw [sw_at hn] at h; cases h; exact .inl ⟨rfl, rfl, hn⟩
  · rw [sw_ne hb] at h; exact .inr ⟨hb, h⟩
theorem sw_of (h : H b = some x) (hx : b = d → x = o) : sw d o H b = some x := by
  by_cases hb : b = d
  · subst hb; rw [sw_at (by rw [h]; simp), hx rfl]
  · rw [sw_ne hb]; exact h
theorem sw_upd (h : H d ≠ none) : sw d o H = upd H d o := by
  funext b
  unfold sw upd
  by_cases hb : b = d
  · subst hb; rw [if_pos ⟨rfl, h⟩, if_pos rfl]
  · rw [if_neg (fun z => hb z.1), if_neg hb]
theorem sw_sw : sw d o (sw d o' H) = sw d o H := by
  funext b
  by_cases hb : b = d
  · subst hb
    by_cases hn : H b = none
    · rw [sw_none (sw_none hn), sw_none hn]
    · rw [sw_at (sw_nn hn), sw_at hn]
  · rw [sw_ne hb, sw_ne hb, sw_ne hb]
theorem sw_id (h : ∀ x, H d = some x → x = o) : sw d o H = H := by
  funext b
  by_cases hb : b = d
  · subst hb
    cases q : H b with
    | none => exact sw_none q
    | some y => rw [sw_at (by rw [q]; simp), h y q]
  · exact sw_ne hb
theorem Same.sw (e : Same H H') : Same (sw d o H) (sw d o H') := fun b x h => by
  rcases sw_some h with ⟨rfl, rfl, hn⟩ | ⟨hb, h⟩
  · refine sw_at fun z => ?_
    cases q : H b with
    | none => exact hn q
    | some y => rw [e b y q] at z; cases z
  · rw [sw_ne hb]; exact e b x h
end
/-- a dict of these pairs, locked or not -/
def DAt' (kvs : List (Key × V)) (x : HO) : Prop := x = .dK kvs ∨ ∃ f, x = .frz f (.dK kvs)
section
variable {K : PySem.W.Frag} {d : Addr} {o : HO} {H : Hp} {kvs : List (Key × V)}
theorem SqT.sw (hd : ∀ x, H d = some x → DAt' kvs x) {a : Addr} {xs : List V} (h : SqT K H a xs) : SqT K (sw d o H) a xs := by
  rcases h with (h | ⟨f, h⟩) | h
  · have hn : a ≠ d := fun z => by
      rw [z] at h
      rcases hd _ h with e | ⟨_, e⟩ <;> cases e
    exact .inl (.inl (by rw [sw_ne hn]; exact h))
  · have hn : a ≠ d := fun z => by
      rw [z] at h
      rcases hd _ h with e | ⟨_, e⟩ <;> cases e
    exact .inl (.inr ⟨f, by rw [sw_ne hn]; exact h⟩)
  · exact .inr h
theorem TqT.sw (hd : ∀ x, H d = some x → DAt' kvs x) {a : Addr} {xs : List V} (h : TqT K H a xs) : TqT K (sw d o H) a xs := by
  rcases h with ⟨f, h, z⟩ | h
  · have hn : a ≠ d := fun z => by
      rw [z] at h
      rcases hd _ h with e | ⟨_, e⟩ <;> cases e
    exact .inl ⟨f, by rw [sw_ne hn]; exact h, z⟩
  · exact .inr h
mutual
theorem Rp.sw (hd : ∀ x, H d = some x → DAt' kvs x) (ho : DAt' kvs o) : ∀ {v : V} {t : D}, Rp K H v t → Rp K (sw d o H) v t
  | _, _, .non => .non
  | _, _, .bl b => .bl b
  | _, _, .int i => .int i
  | _, _, .str z => .str z
  | _, _, .lst (a := a) q r => by
    refine .lst ?_ (RpAll.sw hd ho r)
    rw [sw_ne (fun z => ?_)]
    · exact q
    · rw [z] at q
      rcases hd _ q with e | ⟨_, e⟩ <;> cases e
  | _, _, .tup q r => .tup (TqT.sw hd q) (RpAll.sw hd ho r)
  | _, _, .dic (a := a) (kvs := ks) q r => by
    refine .dic ?_ (RpKV.sw hd ho r)
    by_cases ha : a = d
    · subst ha
      have e : ks = kvs := by
        rcases q with q | ⟨f, q⟩
        · rcases hd _ q with e | ⟨_, e⟩ <;> cases e; rfl
        · rcases hd _ q with e | ⟨_, e⟩ <;> cases e; rfl
      subst e
      have hn : H a ≠ none := by rcases q with q | ⟨f, q⟩ <;> (rw [q]; simp)
      rcases ho with rfl | ⟨f, rfl⟩
      · exact .inl (sw_at hn)
      · exact .inr ⟨f, sw_at hn⟩
    · rcases q with q | ⟨f, q⟩
      · exact .inl (by rw [sw_ne ha]; exact q)
      · exact .inr ⟨f, by rw [sw_ne ha]; exact q⟩
theorem RpAll.sw (hd : ∀ x, H d = some x → DAt' kvs x) (ho : DAt' kvs o) : ∀ {vs : List V} {ts : List D}, RpAll K H vs ts → RpAll K (sw d o H) vs ts
  | _, _, .nil => .nil
  | _, _, .cons a b => .cons (Rp.sw hd ho a) (RpAll.sw hd ho b)
theorem RpKV.sw (hd : ∀ x, H d = some x → DAt' kvs x) (ho : DAt' kvs o) : ∀ {vs : List (Key × V)} {ts : List (D × D)}, RpKV K H vs ts → RpKV K (sw d o H) vs ts
  | _, _, .nil => .nil
  | _, _, .cons a b => .cons (Rp.sw hd ho a) (RpKV.sw hd ho b)
end
theorem Cn.sw (hd : ∀ x, H d = some x → DAt' kvs x) (ho : DAt' kvs o) {u : HO} {t : D} (h : Cn K H u t) : Cn K (sw d o H) u t := by
  cases h with
  | lst a => exact .lst (RpAll.sw hd ho a)
  | dic a => exact .dic (RpKV.sw hd ho a)
end
section
variable {C : Cf} {σ : L2.St} {H0 S0 Hs H Hs' H' Hst : Hp} {s : S} {d : Addr} {o x : HO} {kvs : List (Key × V)}
theorem R.notPenS (r : R C H0 S0 Hs σ H s) (hx : Hs d = some x) : ¬ IsPen C d := fun z => by
  rcases z with (⟨c, z⟩ | z) | z
  · have := (r.pn d c z).2.2.1
    rw [hx] at this; cases this
  · obtain ⟨t, m, rfl⟩ := List.mem_map.mp z
    rw [(r.tb.1 t m).1] at hx; cases hx
  · obtain ⟨⟨i, _, hi, e⟩, _⟩ := r.br d z
    have il : i < s.δ.length := by rw [← r.len]; exact (List.getElem?_eq_some_iff.mp e).1
    cases q : s.δ[i]'il with
    | none =>
      have := r.dead i hi (by rw [List.getElem?_eq_getElem il, q])
      rw [e] at this; cases this
    | some t =>
      obtain ⟨a, u, e1, _, e3, _⟩ := r.mt i t (by rw [List.getElem?_eq_getElem il, q]) hi
      rw [e] at e1; cases e1
      rw [hx] at e3; cases e3
theorem R.sw (r : R C H0 S0 Hs σ H s) (hx : Hs d = some x) (hd : DAt' kvs x) (ho : DAt' kvs o) : R C (sw d o H0) (sw d o S0) (sw d o Hs) σ (sw d o H) s := by
  have hd1 : ∀ y, Hs d = some y → DAt' kvs y := fun y e => by rw [hx] at e; cases e; exact hd
  have hH : H d = some x := r.sub _ _ hx
  have hnl : ∀ ys, x ≠ .lst ys := fun ys e => by rcases hd with z | ⟨_, z⟩ <;> rw [e] at z <;> cases z
  refine ⟨r.len, Same.sw r.sub, fun i t e m => ?_, fun i t e m => ?_, r.dead, r.sep, fun p c e => ?_, fun b hb => ?_, Same.sw r.s0, fun b u n e => ?_, fun b e1 e2 => ?_, fun y m => ⟨(r.fx y m).1, (r.fx y m).2.1, fun xs e => ?_⟩, fun t m => ?_, fun t m => sw_nn (r.tb.2 t m)⟩
  · obtain ⟨v, e1, e2⟩ := r.slot i t e m
    exact ⟨v, e1, Rp.sw hd1 ho e2⟩
  · obtain ⟨a, u, e1, e2, e3, e4, e5⟩ := r.mt i t e m
    have hne : a ≠ d := fun z => by rw [z, hx] at e3; cases e3
    exact ⟨a, u, e1, by rw [sw_ne hne]; exact e2, by rw [sw_ne hne]; exact e3, e4.sw hd1 ho, e5.imp sw_none id⟩
  · obtain ⟨e1, e2, e3, e4, e5, e6⟩ := r.pn p c e
    have hp : p ≠ d := fun z => by rw [z, hx] at e3; cases e3
    refine ⟨e1, ?_, by rw [sw_ne hp]; exact e3, sw_nn e4, sw_nn e5, e6⟩
    generalize C.pk = pk at e2
    cases pk with
    | draw =>
      obtain ⟨⟨at_, rest, p1, p2⟩, ⟨ns, c1⟩, cp⟩ := (show Pen H p c s.n from e2)
      have hc : c ≠ d := fun z => by rw [z, hH] at c1; cases c1; exact hnl _ rfl
      exact (show Pen _ p c s.n from ⟨⟨at_, rest, by rw [sw_ne hp]; exact p1, p2⟩, ⟨ns, by rw [sw_ne hc]; exact c1⟩, cp⟩)
    | obj Cc f fd =>
      obtain ⟨⟨hv, a, z⟩, c1, ne, y⟩ := e2
      have hc : c ≠ d := fun z => by
        rw [z, hH] at c1
        cases c1
        rcases hd with z | ⟨_, z⟩ <;> cases z
      exact ⟨⟨hv, Rp.sw hd1 ho a, by rw [sw_ne hp]; exact z⟩, by rw [sw_ne hc]; exact c1, ne, fun x m => Rp.sw hd1 ho (y x m)⟩
  · obtain ⟨e1, e2⟩ := r.br b hb
    exact ⟨e1, sw_nn e2⟩
  · rcases sw_some e with ⟨rfl, rfl, hn⟩ | ⟨hb, e⟩
    · exact sw_at (by rw [hH]; simp)
    · rw [sw_ne hb]; exact r.h0 b u n e
  · exact sw_none (r.new b (sw_none' e1) fun z => e2 (sw_none z))
  · obtain ⟨a, z1, z2, z3⟩ := (r.fx y m).2.2 xs e
    refine ⟨a, z1, ?_, fun h => ?_⟩
    rotate_left
    · rcases z2 with h2 | ⟨ob, its, n, h2⟩
      · exact z3 h2
      · rcases h with h | ⟨f, h⟩
        · by_cases hn : a = d
          · subst hn
            by_cases hz : H0 a = none
            · unfold LW.sw at h
              rw [if_neg (fun z => z.2 hz), hz] at h
              cases h
            · rw [sw_at hz] at h
              cases h
              rcases ho with z | ⟨_, z⟩ <;> cases z
          · rw [sw_ne hn] at h
            exact z3 (.inl h)
        · by_cases hn : a = d
          · subst hn
            by_cases hz : H0 a = none
            · unfold LW.sw at h
              rw [if_neg (fun z => z.2 hz), hz] at h
              cases h
            · rw [sw_at hz] at h
              cases h
              rcases ho with z | ⟨_, z⟩ <;> cases z
          · rw [sw_ne hn] at h
            exact z3 (.inr ⟨f, h⟩)
    have hd0 : ∀ y, H0 d = some y → DAt' kvs y := fun y e => by
      have := r.h0 d y (r.notPenS hx) e
      rw [hH] at this
      cases this
      exact hd
    rcases z2 with (h | ⟨f, h⟩) | h
    · have hn : a ≠ d := fun z => by
        rw [z] at h
        rcases hd0 _ h with e | ⟨_, e⟩ <;> cases e
      exact .inl (.inl (by rw [sw_ne hn]; exact h))
    · have hn : a ≠ d := fun z => by
        rw [z] at h
        rcases hd0 _ h with e | ⟨_, e⟩ <;> cases e
      exact .inl (.inr ⟨f, by rw [sw_ne hn]; exact h⟩)
    · exact .inr h
  · obtain ⟨n, ps, e1, e2, e3⟩ := r.tb.1 t m
    have hne : t.1 ≠ d := fun z => by rw [z, hx] at n; cases n
    refine ⟨by rw [sw_ne hne]; exact n, ps, by rw [sw_ne hne]; exact e1, e2, fun pos cv hc => ?_⟩
    obtain ⟨c, f1, f2⟩ := e3 pos cv hc
    have hc : c ≠ d := fun z => by
      rw [z, hx] at f2
      cases f2
      rcases hd with z | ⟨_, z⟩ <;> cases z
    exact ⟨c, f1, by rw [sw_ne hc]; exact f2⟩
theorem Go.sw (g : Go C σ Hs H Hs' H') : Go C σ (sw d o Hs) (sw d o H) (sw d o Hs') (sw d o H') := by
  refine ⟨Same.sw g.st, fun b u e n m => ?_, fun b u e => ?_, fun b e1 e2 => sw_none (g.nw b (sw_none' e1) fun z => e2 (sw_none z))⟩
  · rcases sw_some e with ⟨rfl, rfl, hn⟩ | ⟨hb, e⟩
    · refine sw_at fun z => ?_
      cases q : H b with
      | none => exact hn q
      | some y => obtain ⟨y', q'⟩ := g.th b y q; rw [q'] at z; cases z
    · rw [sw_ne hb]; exact g.kp b u e n m
  · cases q : LW.sw d o H' b with
    | some y => exact ⟨y, rfl⟩
    | none =>
      exfalso
      have q' := sw_none' q
      cases q2 : H b with
      | none => rw [sw_none q2] at e; cases e
      | some y => obtain ⟨y', q3⟩ := g.th b y q2; rw [q3] at q'; cases q'
theorem Val.sw {cat : Cat} {v : V} {t : D} (h : Val C H0 Hst Hs σ H cat v t) (hx : Hs d = some x) (hd : DAt' kvs x) (ho : DAt' kvs o) : Val C (sw d o H0) (sw d o Hst) (sw d o Hs) σ (sw d o H) cat v t := by
  have hd1 : ∀ y, Hs d = some y → DAt' kvs y := fun y e => by rw [hx] at e; cases e; exact hd
  cases cat with
  | E => exact Rp.sw hd1 ho h
  | F =>
    cases e : isC t with
    | true =>
      obtain ⟨a, rfl, u, h1, h2, h3, h4, h5, h6⟩ := h.c e
      have hne : a ≠ d := fun z => by rw [z, hx] at h2; cases h2
      exact Val.mkC ⟨u, by rw [sw_ne hne]; exact h1, by rw [sw_ne hne]; exact h2, sw_none h3, sw_none h4, h5.sw hd1 ho, h6⟩
    | false => exact Val.mkP (Rp.sw hd1 ho (h.p e)) e
end
/-- under a lock, where it isn't locked yet -/
def tLk (t : TE) : TE := fun σ H Q => t σ H Q ∨ tLockE t σ H Q
theorem pe_lk {X : Cx} {e : Expr} {t : TE} (h : PE X e t) : PE X e (tLk t) :=
  ⟨fun pins s σ H Q I q => q.elim (fun q => h.run pins s σ H Q I q) fun q => (pe_lock h).run pins s σ H Q I q⟩
/-- te follows from t, where slot j is a locked dict -/
structure SimF (C : Cf) (j : Nat) (cat : Cat) (te : TE) (t : DT) : Prop where
  run : ∀ (H0 S0 Hs : Hp) (σ : L2.St) (H : Hp) (s : S) (Q : D → S → Prop) (Q' : VK) (a : Addr) (f : Obj) (xs : List (Key × V)) (kvs : List (D × D)), R C H0 S0 Hs σ H s → σ[j]? = some (some (.ref a)) → Hs a = some (.frz f (.dK xs)) → RpKV C.K Hs xs kvs → s.δ[j]? = some (some (.dict kvs)) → t s Q →
    (∀ Hs' H' v d s', Go C σ Hs H Hs' H' → R C H0 S0 Hs' σ H' s' → Val C H0 H Hs' σ H' cat v d → Q d s' → Q' v H') → te σ H Q'
def dLk (j : Nat) (t : DT) : DT := fun s Q => (∃ kvs, s.δ[j]? = some (some (.dict kvs))) ∧ t s Q
section
variable {C : Cf} {cat : Cat} {te : TE} {t : DT} {j : Nat}
theorem sim_lk (hj : j ∉ C.M) (h : SimF C j cat te t) : Sim C cat (tLk te) (dLk j t) := by
  refine ⟨fun H0 S0 Hs σ H s Q Q' r ⟨⟨kvs, ej⟩, q⟩ k => ?_⟩
  obtain ⟨v, e1, rp⟩ := r.slot j _ ej hj
  cases rp with
  | @dic a xs _ q0 rk =>
  rcases q0 with q0 | ⟨f, q0⟩
  · refine .inr ⟨a, .dK xs, r.sub _ _ q0, True.intro, fun od => ?_⟩
    have dA : DAt' xs (.dK xs) := .inl rfl
    have dB : DAt' xs (.frz od (.dK xs)) := .inr ⟨od, rfl⟩
    have hH : H a ≠ none := by rw [r.sub _ _ q0]; simp
    have np := r.notPenS q0
    have r1 := r.sw q0 dA dB
    have hs1 : sw a (.frz od (.dK xs)) Hs a = some (.frz od (.dK xs)) := sw_at (by rw [q0]; simp)
    have i0 : ∀ y, H0 a = some y → y = .dK xs := fun y e => by have := r.h0 a y np e; rw [r.sub _ _ q0] at this; cases this; rfl
    have is0 : ∀ y, S0 a = some y → y = .dK xs := fun y e => by have := r.s0 a y e; rw [q0] at this; cases this; rfl
    have iH : ∀ y, H a = some y → y = .dK xs := fun y e => by rw [r.sub _ _ q0] at e; cases e; rfl
    have iHs : ∀ y, Hs a = some y → y = .dK xs := fun y e => by rw [q0] at e; cases e; rfl
    rw [← sw_upd hH]
    refine h.run _ _ _ σ _ s Q _ a od xs kvs r1 e1 hs1 (RpKV.sw (fun y e => by rw [q0] at e; cases e; exact dA) dB rk) ej q fun Hs' H' v' d' s' g' r' v1 q1 => ?_
    have hs2 : Hs' a = some (.frz od (.dK xs)) := g'.st _ _ hs1
    have hh2 : H' a = some (.frz od (.dK xs)) := r'.sub _ _ hs2
    refine ⟨hh2, ?_⟩
    rw [← sw_upd (by rw [hh2]; simp)]
    have r2 := r'.sw hs2 dB dA
    rw [sw_sw, sw_sw, sw_id i0, sw_id is0] at r2
    have g2 := g'.sw (d := a) (o := .dK xs)
    rw [sw_sw, sw_sw, sw_id iH, sw_id iHs] at g2
    have v2 := v1.sw hs2 dB dA
    rw [sw_sw, sw_sw, sw_id i0, sw_id iH] at v2
    exact k _ _ v' d' s' g2 r2 v2 q1
  · exact .inl (h.run H0 S0 Hs σ H s Q Q' a f xs kvs r e1 q0 rk ej q k)
end
/-! comprehensions, told from the walk on -/
section
variable {C : Cf} {cat : Cat} {te : TE} {t : DT} {ca : Cat}
theorem lc_run {bw : Bool} {H0 S0 Hs1 : Hp} {σ : L2.St} {H1 : Hp} {s1 : S} {Q : D → S → Prop} {Q' : VK} {J : It} {items : List D} {tl vs : List Nat} {g : TG} {x : D → S → (S → Prop) → Prop} {tt : TT} {c : DB} (r1 : R C H0 S0 Hs1 σ H1 s1) (io : ItOk bw C Hs1 J items) (hg : SimG C bw tl g x) (ht : SimT C tt c) (he : Sim C ca te t) (hv : ∀ j, j ∈ tl → j ∈ vs) (hM : ∀ v ∈ vs, v ∉ C.M) (hp : ∀ v ∈ vs, C.Nf v)
    (hz : items.length ≤ sizeLine) (q1 : lcD x c t vs (fun acc s2 => Q (.list acc) s2) items [] (wipeS s1 vs))
    (k : ∀ Hs' H' v d s', Go C σ Hs1 H1 Hs' H' → R C H0 S0 Hs' σ H' s' → Val C H0 H1 Hs' σ H' .F v d → Q d s' → Q' v H') : tLc (fun _ H R => R J H) g tt te vs σ H1 Q' := by
  have wi : SimI { C with bor := C.bor } bw (fun _ _ _ => False) (fun _ _ => False) := ⟨fun _ _ _ _ _ _ _ _ _ z _ => z⟩
  intro L nL
  obtain ⟨G, Y, W, hG, hY⟩ := io
  obtain ⟨l0, l1, l2, l3⟩ := r1.free0 nL
  have ow : ∀ b, Own C (L2.wipe σ vs) b → Own C σ b := own_of hM fun j h => wipe_out h
  have lw : ¬ Own C (L2.wipe σ vs) L := fun z => l2 (ow L z)
  refine lc_it W (fun i H => ∃ Hs s accV accD, R C H0 Hs1 Hs (L2.wipe σ vs) H s ∧ H L = some (.lst accV) ∧ Hs L = none ∧ RpAll C.K Hs accV accD ∧ accD.length ≤ i ∧ Go C σ Hs1 H1 Hs H ∧ (∀ v ∈ vs, ∀ d, s.δ[v]? ≠ some (some d)) ∧ lcD x c t vs (fun acc s2 => Q (.list acc) s2) (items.drop i) accD s)
    ⟨Hs1, wipeS s1 vs, [], [], ((r1.laid nL).wipe hM hp).base, upd_same, l1, .nil, Nat.le_refl _, Go.laid nL, fun v m d => wipeL_in m d, q1⟩ (fun i H _ ⟨Hs, s, _, _, r, _⟩ => hG H (r.s0.trans r.sub)) (fun i v H H' hi' ⟨Hs, s, accV, accD, r, hL, hsL, ra, la, ga, _, q⟩ y => ?_) (fun H ⟨Hs, s, accV, accD, r, hL, hsL, ra, la, ga, hn, q⟩ => ?_)
  · obtain ⟨Hs2, d, e1, r2, rp, g2⟩ := hY i H v H' H0 Hs1 Hs (L2.wipe σ vs) s hi' r r.s0 y
    rw [List.drop_eq_getElem_cons hi'] at q
    have ed : items[i] = d := by
      rw [List.getElem?_eq_getElem hi'] at e1
      exact Option.some.inj e1
    rw [ed] at q
    have hL2 := g2.kp L _ hL lw l3
    have hsL2 := none_of_new g2.nw hsL hL
    refine hg.run H0 Hs1 Hs2 (L2.wipe σ vs) H' s v d _ _ r2 rp q fun σ3 s3 r3 len3 out3 q3 => ?_
    have out3' : ∀ j, j ∉ vs → σ3[j]? = σ[j]? := fun j h => (out3 j (fun z => h (hv j z))).trans (wipe_out h)
    have wq : L2.wipe σ3 vs = L2.wipe σ vs := wipe_eq (by rw [len3, wipe_length]) out3'
    have ow3 : ∀ b, Own C σ3 b → Own C σ b := own_of hM out3'
    have lw3 : ¬ Own C σ3 L := fun z => l2 (ow3 L z)
    refine ⟨wq, ht.run H0 Hs1 Hs2 σ3 H' s3 _ _ r3 q3 fun Hs4 H4 b4 s4 g4 r4 q4 => ?_⟩
    have hL4 := g4.kp L _ hL2 lw3 l3
    have hsL4 := none_of_new g4.nw hsL2 hL2
    have ga4 : Go C σ Hs1 H1 Hs4 H4 := ga.trans ((g2.own ow).trans (g4.own ow3))
    cases b4 with
    | true =>
      refine ifp rfl (he.toE.run H0 Hs1 Hs4 σ3 H4 s4 _ _ r4 (by simpa using q4) fun Hs5 H5 w dw s5 g5 r5 v5 q5 => ?_)
      have hL5 := g5.kp L _ hL4 lw3 l3
      have hsL5 := none_of_new g5.nw hsL4 hL4
      have ra5 := RpAll.mono (g2.st.trans (g4.st.trans g5.st)) ra
      refine ⟨accV, hL5, by rw [ra5.len]; omega, Hs5, wipeS s5 vs, _, accD ++ [dw], ?_, upd_same, hsL5, ra5.app (.cons v5 .nil), by rw [List.length_append]; show accD.length + 1 ≤ i + 1; omega, (ga4.trans (g5.own ow3)).updF nL, fun v m d => wipeL_in m d, q5⟩
      rw [← wq]
      exact (r5.updF hsL5 l0 lw3).wipe hM hp
    | false =>
      refine ifn Bool.false_ne_true ⟨Hs4, wipeS s4 vs, accV, accD, ?_, hL4, hsL4, RpAll.mono (g2.st.trans g4.st) ra, by omega, ga4, fun v m d => wipeL_in m d, by simpa using q4⟩
      rw [← wq]
      exact r4.wipe hM hp
  · rw [List.drop_length] at q
    refine k Hs H _ (.list accD) s ga (r1.back (r.unwipe hM hp hn)) (Val.mkC ⟨_, hL, hsL, l0, nL, .lst ra, l2⟩) q
/-- a dict comprehension over it -/
theorem dc_it {J : It} {n : Nat} {G : Hp → Prop} {Y : Nat → Hp → V → Hp → Prop} (w : Walk J n G Y) {g : TG} {tt : TT} {tk tv : TE} {vs : List Nat} {σ : L2.St} {H1 : Hp} {D : Addr} {Qd : Hp → Prop} (Pv : Nat → Hp → Prop) (h0 : Pv 0 (upd H1 D (.dK []))) (hG : ∀ i H, i ≤ n → Pv i H → G H)
    (hs : ∀ i x H H', i < n → Pv i H → Y i H x H' → g x (wipe σ vs) H' fun σ2 H2 => wipe σ2 vs = wipe σ vs ∧ tt σ2 H2 fun b H3 =>
      if b = true then tk σ2 H3 fun y H4 => tv σ2 H4 fun z H5 => ∃ kvs k, y = kV k ∧ H5 D = some (.dK kvs) ∧ kvs.length < sizeLine ∧ Pv (i + 1) (upd H5 D (.dK (putK kvs k z))) else Pv (i + 1) H3) (hd : ∀ H, Pv n H → Qd H) :
    ∃ W : Nat → Nat → Hp → Prop, (∃ m, W 0 m (upd H1 D (.dK []))) ∧ ∀ i m H, W i m H →
      (J.stop i H ∧ Qd H) ∨ (J.go i H ∧ ∃ Nx : Hp → Prop, (∀ H', Nx H' → ∃ m', m' < m ∧ W (i + 1) m' H') ∧ ∀ x H', J.yld i H x H' → g x (wipe σ vs) H' fun σ2 H2 => wipe σ2 vs = wipe σ vs ∧ tt σ2 H2 fun b H3 =>
        if b = true then tk σ2 H3 fun y H4 => tv σ2 H4 fun z H5 => ∃ kvs k, y = kV k ∧ H5 D = some (.dK kvs) ∧ kvs.length < sizeLine ∧ Nx (upd H5 D (.dK (putK kvs k z))) else Nx H3) := by
  refine ⟨fun i m H => m = n - i ∧ i ≤ n ∧ Pv i H, ⟨n, by simp, Nat.zero_le _, h0⟩, ?_⟩
  rintro i m H ⟨rfl, hi, p⟩
  have q := hG i H hi p
  by_cases hlt : i < n
  · refine .inr ⟨w.goes i H hlt q, Pv (i + 1), fun H' p' => ⟨n - (i + 1), by omega, rfl, hlt, p'⟩, fun x H' y => hs i x H H' hlt p (w.yields i H x H' hlt q y)⟩
  · have e : i = n := by omega
    subst e
    exact .inl ⟨w.stops H q, hd H p⟩
def dcD (g : D → S → (S → Prop) → Prop) (c : DB) (kx e : DT) (vs : List Nat) (Q : List (D × D) → S → Prop) : List D → List (D × D) → S → Prop
  | [], acc, s => Q acc s
  | d :: ds, acc, s => g d s fun s1 => c s1 fun k s2 => if k = true then kx s2 fun y s3 => e s3 fun z s4 => isKey y = true ∧ dcD g c kx e vs Q ds (putD acc y z) (wipeS s4 vs) else dcD g c kx e vs Q ds acc (wipeS s2 vs)
theorem putD_len (kvs : List (D × D)) (k v : D) : (putD kvs k v).length ≤ kvs.length + 1 := by
  unfold putD
  split
  · rw [List.length_map]; omega
  · rw [List.length_append]; exact Nat.le_refl _
theorem dc_run {bw : Bool} {H0 S0 Hs1 : Hp} {σ : L2.St} {H1 : Hp} {s1 : S} {Q : D → S → Prop} {Q' : VK} {J : It} {items : List D} {tl vs : List Nat} {g : TG} {x : D → S → (S → Prop) → Prop} {tt : TT} {c : DB} {tk : TE} {kx : DT} {ck : Cat} (r1 : R C H0 S0 Hs1 σ H1 s1) (io : ItOk bw C Hs1 J items) (hg : SimG C bw tl g x) (ht : SimT C tt c) (hk : Sim C ck tk kx) (he : Sim C ca te t) (hv : ∀ j, j ∈ tl → j ∈ vs) (hM : ∀ v ∈ vs, v ∉ C.M) (hp : ∀ v ∈ vs, C.Nf v)
    (hz : items.length ≤ sizeLine) (q1 : dcD x c kx t vs (fun acc s2 => Q (.dict acc) s2) items [] (wipeS s1 vs))
    (k : ∀ Hs' H' v d s', Go C σ Hs1 H1 Hs' H' → R C H0 S0 Hs' σ H' s' → Val C H0 H1 Hs' σ H' .F v d → Q d s' → Q' v H') : tDc (fun _ H R => R J H) g tt tk te vs σ H1 Q' := by
  intro L nL
  obtain ⟨G, Y, W, hG, hY⟩ := io
  obtain ⟨l0, l1, l2, l3⟩ := r1.free0 nL
  have ow : ∀ b, Own C (L2.wipe σ vs) b → Own C σ b := own_of hM fun j h => wipe_out h
  have lw : ¬ Own C (L2.wipe σ vs) L := fun z => l2 (ow L z)
  refine dc_it W (fun i H => ∃ Hs s accV accD, R C H0 Hs1 Hs (L2.wipe σ vs) H s ∧ H L = some (.dK accV) ∧ Hs L = none ∧ RpKV C.K Hs accV accD ∧ accD.length ≤ i ∧ Go C σ Hs1 H1 Hs H ∧ (∀ v ∈ vs, ∀ d, s.δ[v]? ≠ some (some d)) ∧ dcD x c kx t vs (fun acc s2 => Q (.dict acc) s2) (items.drop i) accD s)
    ⟨Hs1, wipeS s1 vs, [], [], ((r1.laid nL).wipe hM hp).base, upd_same, l1, .nil, Nat.le_refl _, Go.laid nL, fun v m d => wipeL_in m d, q1⟩ (fun i H _ ⟨Hs, s, _, _, r, _⟩ => hG H (r.s0.trans r.sub)) (fun i v H H' hi' ⟨Hs, s, accV, accD, r, hL, hsL, ra, la, ga, _, q⟩ y => ?_) (fun H ⟨Hs, s, accV, accD, r, hL, hsL, ra, la, ga, hn, q⟩ => ?_)
  · obtain ⟨Hs2, d, e1, r2, rp, g2⟩ := hY i H v H' H0 Hs1 Hs (L2.wipe σ vs) s hi' r r.s0 y
    rw [List.drop_eq_getElem_cons hi'] at q
    have ed : items[i] = d := by
      rw [List.getElem?_eq_getElem hi'] at e1
      exact Option.some.inj e1
    rw [ed] at q
    have hL2 := g2.kp L _ hL lw l3
    have hsL2 := none_of_new g2.nw hsL hL
    refine hg.run H0 Hs1 Hs2 (L2.wipe σ vs) H' s v d _ _ r2 rp q fun σ3 s3 r3 len3 out3 q3 => ?_
    have out3' : ∀ j, j ∉ vs → σ3[j]? = σ[j]? := fun j h => (out3 j (fun z => h (hv j z))).trans (wipe_out h)
    have wq : L2.wipe σ3 vs = L2.wipe σ vs := wipe_eq (by rw [len3, wipe_length]) out3'
    have ow3 : ∀ b, Own C σ3 b → Own C σ b := own_of hM out3'
    have lw3 : ¬ Own C σ3 L := fun z => l2 (ow3 L z)
    refine ⟨wq, ht.run H0 Hs1 Hs2 σ3 H' s3 _ _ r3 q3 fun Hs4 H4 b4 s4 g4 r4 q4 => ?_⟩
    have hL4 := g4.kp L _ hL2 lw3 l3
    have hsL4 := none_of_new g4.nw hsL2 hL2
    have ga4 : Go C σ Hs1 H1 Hs4 H4 := ga.trans ((g2.own ow).trans (g4.own ow3))
    cases b4 with
    | true =>
      refine ifp rfl (hk.toE.run H0 Hs1 Hs4 σ3 H4 s4 _ _ r4 (by simpa using q4) fun Hs5 H5 w dw s5 g5 r5 v5 q5 => ?_)
      refine he.toE.run H0 Hs1 Hs5 σ3 H5 s5 _ _ r5 q5 fun Hs6 H6 w2 dw2 s6 g6 r6 v6 q6 => ?_
      obtain ⟨hky, q6⟩ := q6
      obtain ⟨kk, rfl⟩ := isKey_of hky
      have v5' : Rp C.K Hs5 w (keyD kk) := v5
      have hL5 := g6.kp L _ (g5.kp L _ hL4 lw3 l3) lw3 l3
      have hsL5 := none_of_new g6.nw (none_of_new g5.nw hsL4 hL4) (g5.kp L _ hL4 lw3 l3)
      have ra5 := RpKV.mono (g2.st.trans (g4.st.trans (g5.st.trans g6.st))) ra
      refine ⟨accV, kk, v5'.key, hL5, by rw [ra5.len]; omega, Hs6, wipeS s6 vs, _, putD accD (keyD kk) dw2, ?_, upd_same, hsL5, ra5.put (k := kk) v6, by have := putD_len accD (keyD kk) dw2; omega, (ga4.trans ((g5.own ow3).trans (g6.own ow3))).updF nL, fun v m d => wipeL_in m d, q6⟩
      rw [← wq]
      exact (r6.updF hsL5 l0 lw3).wipe hM hp
    | false =>
      refine ifn Bool.false_ne_true ⟨Hs4, wipeS s4 vs, accV, accD, ?_, hL4, hsL4, RpKV.mono (g2.st.trans g4.st) ra, by omega, ga4, fun v m d => wipeL_in m d, by simpa using q4⟩
      rw [← wq]
      exact r4.wipe hM hp
  · rw [List.drop_length] at q
    refine k Hs H _ (.dict accD) s ga (r1.back (r.unwipe hM hp hn)) (Val.mkC ⟨_, hL, hsL, l0, nL, .dic ra, l2⟩) q
/-! the walks of a locked dict -/
theorem RpKV.getV {K : PySem.W.Frag} {H : Hp} : ∀ {xs : List (Key × V)} {ds : List (D × D)} {i : Nat} {k : Key} {v : V}, RpKV K H xs ds → xs[i]? = some (k, v) → ∃ d, ds[i]? = some (keyD k, d) ∧ Rp K H v d
  | _, _, 0, _, _, .cons a _, e => by
    cases e
    exact ⟨_, rfl, a⟩
  | _, _, i + 1, k, v, .cons _ b, e => RpKV.getV (i := i) b e
theorem Rp.ofKey {K : PySem.W.Frag} {H : Hp} (k : Key) : Rp K H (kV k) (keyD k) := by cases k with
  | inl i => exact .int i
  | inr z => exact .str z
theorem itOk_keys {Hs1 : Hp} {a : Addr} {f : Obj} {xs : List (Key × V)} {ds : List (D × D)} (h : Hs1 a = some (.frz f (.dK xs))) (hd : RpKV C.K Hs1 xs ds) : ItOk false C Hs1 (Itk a f xs) (ds.map Prod.fst) := by
  refine ⟨_, _, by rw [List.length_map, ← hd.len]; exact walk_keys, fun H e => e _ _ h, fun i H v H2 H0 S0 Hs σ s hi r e y => ?_⟩
  obtain ⟨rfl, k, w, e1, rfl⟩ := y
  obtain ⟨d, e2, _⟩ := hd.getV e1
  exact ⟨Hs, keyD k, by rw [List.getElem?_map, e2]; rfl, r, Rp.ofKey k, Go.refl⟩
def itemsD (kvs : List (D × D)) : List D := kvs.map fun kv => .tuple [kv.1, kv.2]
theorem itOk_items {Hs1 : Hp} {a : Addr} {f : Obj} {xs : List (Key × V)} {ds : List (D × D)} (h : Hs1 a = some (.frz f (.dK xs))) (hd : RpKV C.K Hs1 xs ds) : ItOk true C Hs1 (Iti a f xs) (itemsD ds) := by
  refine ⟨_, _, by unfold itemsD; rw [List.length_map, ← hd.len]; exact walk_items, fun H e => e _ _ h, fun i H v H2 H0 S0 Hs σ s hi r e y => ?_⟩
  obtain ⟨T, x1, x2, rfl, nT, rfl, f1, f2⟩ := y
  dsimp only at f1 f2
  cases q : xs[i]? with
  | none => rw [q] at f1; cases f1
  | some kv =>
    obtain ⟨k, w⟩ := kv
    rw [q] at f1 f2
    cases f1; cases f2
    obtain ⟨d, e2, e3⟩ := hd.getV q
    obtain ⟨Hs2, r2, rp, g⟩ := pair_it r nT (Rp.ofKey k) (Rp.mono e e3)
    exact ⟨Hs2, _, by unfold itemsD; rw [List.getElem?_map, e2]; rfl, r2, rp, g⟩
/-- the keys, the pairs of the dict in slot j -/
def dKeys (j : Nat) : DI := fun s Q => match s.δ[j]? with
  | some (some (.dict kvs)) => Q (kvs.map Prod.fst) s
  | _ => False
def dItems (j : Nat) : DI := fun s Q => match s.δ[j]? with
  | some (some (.dict kvs)) => Q (itemsD kvs) s
  | _ => False
def dDc (it : DI) (g : D → S → (S → Prop) → Prop) (c : DB) (kx e : DT) (vs : List Nat) : DT := fun s Q => it s fun items s1 => items.length ≤ sizeLine ∧ dcD g c kx e vs (fun acc s2 => Q (.dict acc) s2) items [] (wipeS s1 vs)
theorem sim_lcKeys {j : Nat} {tl vs : List Nat} {g : TG} {x : D → S → (S → Prop) → Prop} {tt : TT} {c : DB} (hj : j ∉ C.M) (hg : SimG C false tl g x) (ht : SimT C tt c) (he : Sim C ca te t) (hv : ∀ j, j ∈ tl → j ∈ vs) (hM : ∀ v ∈ vs, v ∉ C.M) (hp : ∀ v ∈ vs, C.Nf v) :
    Sim C .F (tLk (tLc (iKeys (tVar j)) g tt te vs)) (dLk j (dLc (dKeys j) x c t vs)) := by
  refine sim_lk hj ⟨fun H0 S0 Hs σ H s Q Q' a f xs kvs r e1 hs rk ej q k => ?_⟩
  simp only [dLc, dKeys, ej] at q
  exact ⟨_, e1, a, f, rfl, .inl ⟨xs, r.sub _ _ hs, lc_run r (itOk_keys hs rk) hg ht he hv hM hp q.1 q.2 k⟩⟩
theorem sim_dcItems {j : Nat} {tl vs : List Nat} {g : TG} {x : D → S → (S → Prop) → Prop} {tt : TT} {c : DB} {tk : TE} {kx : DT} {ck : Cat} (hj : j ∉ C.M) (hg : SimG C true tl g x) (ht : SimT C tt c) (hk : Sim C ck tk kx) (he : Sim C ca te t) (hv : ∀ j, j ∈ tl → j ∈ vs) (hM : ∀ v ∈ vs, v ∉ C.M) (hp : ∀ v ∈ vs, C.Nf v) :
    Sim C .F (tLk (tDc (iItems (tVar j)) g tt tk te vs)) (dLk j (dDc (dItems j) x c kx t vs)) := by
  refine sim_lk hj ⟨fun H0 S0 Hs σ H s Q Q' a f xs kvs r e1 hs rk ej q k => ?_⟩
  simp only [dDc, dItems, ej] at q
  exact ⟨_, e1, a, f, xs, rfl, r.sub _ _ hs, dc_run r (itOk_items hs rk) hg ht hk he hv hM hp q.1 q.2 k⟩
end
/-! ### t += u, of tuples -/
theorem noI_tuple_add : typeLookup (.type "tuple") (dunderI "add") = pure none := by rw [typeLookup_type, builtinLookup_eq_fast]; kernel_rfl
theorem iop_catA {X : Cx} (K : PySem.W.Frag) (eK : X.K = K) : OpR X (inplaceOp .Add) (rCatZ K) := by
  subst eK
  intro pins s σ H x y v u Q I rx ry h
  obtain ⟨a, b, xs, ys, rfl, rfl, ha, hb, hz, q0, q1, q2⟩ := h
  cases rx
  cases ry
  obtain ⟨its, r1, p1, _⟩ := I.tuple ha
  obtain ⟨its2, r2, p2, _⟩ := I.tuple hb
  obtain ⟨⟨cls, dd, data, sl⟩, ho, hc, n, hd⟩ := id p1
  obtain ⟨⟨cls2, dd2, data2, sl2⟩, ho2, hc2, n2, hd2⟩ := id p2
  simp only at hc hd hc2 hd2
  subst hc hd hc2 hd2
  have e : its.toArray ++ its2.toArray = (its ++ its2).toArray := by simp
  by_cases hx : xs = []
  · subst hx
    cases r1
    exact wpAny_inplaceOp_concat ⟨_, ho, rfl⟩ ⟨_, ho2, rfl⟩ noI_tuple_add noFill_tuple_add seq_tuple_add (call_meets PySem.F.slot_tuple_add ⟨_, ho, rfl⟩ PySem.F.entry_tuple_add (PySem.F.args_tuple_add_2 _ _)
      (tuple_addW0 a b ([] : List Value).toArray its2.toArray n n2 dd dd2 sl sl2 (by simp)) ⟨ho, ho2, ⟨.ref b, H, I, rfl, q0 rfl⟩⟩)
  · have hv : its ≠ [] := fun z => hx (r1.nil_iff.mp z)
    by_cases hw : its2 = []
    · exact wpAny_inplaceOp_concat ⟨_, ho, rfl⟩ ⟨_, ho2, rfl⟩ noI_tuple_add noFill_tuple_add seq_tuple_add (call_meets PySem.F.slot_tuple_add ⟨_, ho, rfl⟩ PySem.F.entry_tuple_add (PySem.F.args_tuple_add_2 _ _)
        (tuple_addW1 a b its.toArray its2.toArray n n2 dd dd2 sl sl2 (by simpa using hv) (by simp [hw])) ⟨ho, ho2, ⟨.ref a, H, I, rfl, q1 hx (r2.nil_iff.mp hw)⟩⟩)
    · refine wpAny_inplaceOp_concat ⟨_, ho, rfl⟩ ⟨_, ho2, rfl⟩ noI_tuple_add noFill_tuple_add seq_tuple_add (call_meets PySem.F.slot_tuple_add ⟨_, ho, rfl⟩ PySem.F.entry_tuple_add (PySem.F.args_tuple_add_2 _ _)
        (tuple_addW2 a b its.toArray its2.toArray n n2 dd dd2 sl sl2 (by simpa using hv) (by simpa using hw) (by rw [List.size_toArray, List.size_toArray, ← r1.length, ← r2.length]; exact hz)) ⟨ho, ho2, ?_⟩)
      rw [e]
      obtain ⟨I2, hf⟩ := frz_new I (r1.append r2) (by rw [List.length_append]; exact hz) (h' := s.heap.push (tupObj (its ++ its2))) (fun b o e => Heap.get?_push_of_some _ e) (Nat.le_refl _) (Heap.get?_push_size _ rfl) (t := s.toks)
      exact ⟨.ref s.heap.objs.size, _, I2, rfl, q2 hx (fun w => hw (r2.nil_iff.mpr w)) _ _ hf rfl⟩
def catTD : DO := fun x y Q => match x, y with
  | .tuple xs, .tuple ys => xs.length + ys.length ≤ sizeLine ∧ Q (.tuple (xs ++ ys))
  | _, _ => False
theorem opA_catT {C : Cf} : OpA C (rCatZ C.K) catTD := by
  intro H0 S0 Hs σ H s x y dx dy Q Q' r hx hy q k
  cases dx <;> cases dy <;> first | exact q.elim | skip
  rename_i ds es
  cases (show Rp C.K Hs x (.tuple ds) from hx) with
  | @tup a xs _ h1 h2 =>
  cases (show Rp C.K Hs y (.tuple es) from hy) with
  | @tup b ys _ h3 h4 =>
    refine ⟨a, b, xs, ys, rfl, rfl, Same.sqT r.sub h1.sq, Same.sqT r.sub h3.sq, by rw [h2.len, h4.len]; exact q.1, fun e => ?_, fun _ e => ?_, fun _ _ p o np hd => ?_⟩
    · subst e
      cases h2
      exact k Hs H _ (.tuple ([] ++ es)) Go.refl r (Val.mkP (Rp.tup h3 h4) rfl) q.2
    · subst e
      cases h4
      exact k Hs H _ (.tuple (ds ++ [])) Go.refl r (Val.mkP (by rw [List.append_nil]; exact Rp.tup h1 h2) rfl) q.2
    · obtain ⟨r', g'⟩ := r.newTup (o := .frz o (.tup (xs ++ ys))) np
      exact k _ _ _ (.tuple (ds ++ es)) g' r' (Val.mkP (Rp.tup (TqT.of upd_same hd) (RpAll.mono g'.st (h2.app h4))) rfl) q.2
/-! ### a call that only reads lists and dicts of the caller's own, and tells a truth, a number, a text or None -/
def isFl : D → Bool
  | .none => true
  | .bool _ => true
  | .int _ => true
  | .str _ => true
  | _ => false
/-- arguments, some of them own slots (told by their place) -/
structure SimO' (C : Cf) (n : Nat) (ta : TA) (t : DA) : Prop where
  run : ∀ (H0 S0 Hs : Hp) (σ : L2.St) (H : Hp) (s : S) (Q : List D → S → Prop) (Q' : List V → Hp → Prop), R C H0 S0 Hs σ H s → t s Q →
    (∀ Hs' H' vs ds s', Go C σ Hs H Hs' H' → R C H0 S0 Hs' σ H' s' → ds.length = n → (∃ Ht, Same Hs' Ht ∧ Same Ht H' ∧ (∀ b o, Ht b = some o → Hs' b = some o ∨ Own C σ b) ∧ RpAll C.K Ht vs ds) → Q ds s' → Q' vs H') → ta σ H Q'
section
variable {C : Cf} {ca : Cat} {te : TE} {dt : DT}
theorem simO'_of {n : Nat} {ta : TA} {t : DA} (h : SimA C n ta t) : SimO' C n ta t :=
  ⟨fun H0 S0 Hs σ H s Q Q' r q k => h.run H0 S0 Hs σ H s _ _ r q fun Hs1 H1 vs ds s1 g1 r1 v1 l1 q1 => k Hs1 H1 vs ds s1 g1 r1 l1 ⟨Hs1, Same.refl _, r1.sub, fun b o e => .inl e, v1⟩ q1⟩
/-- f(xs, ..): xs an own slot, the others still -/
def dOwn (i : Nat) (r : DA) : DA := fun s Q => (∃ d, s.δ[i]? = some (some d)) ∧ r s fun ds s1 => match s1.δ[i]? with
  | some (some d) => Q (d :: ds) s1
  | _ => False
theorem simO'_own {i n : Nat} {ta : TA} {t : DA} (hi : i ∈ C.M) (h : SimA C n ta t) : SimO' C (n + 1) (tCons (tVar i) ta) (dOwn i t) := by
  refine ⟨fun H0 S0 Hs σ H s Q Q' r ⟨⟨d, e⟩, q⟩ k => ?_⟩
  obtain ⟨b, o, e1, _⟩ := r.mt i d e hi
  refine ⟨.ref b, e1, h.run H0 S0 Hs σ H s _ _ r q fun Hs1 H1 vs ds s1 g1 r1 v1 l1 q1 => ?_⟩
  split at q1
  · rename_i d1 ed
    obtain ⟨b', o', f1, f2, f3, f4, _⟩ := r1.mt i d1 ed hi
    rw [e1] at f1
    cases f1
    have sm : Same Hs1 (upd Hs1 b o') := same_upd f3
    refine k Hs1 H1 _ _ s1 g1 r1 (by rw [List.length_cons, l1]) ⟨upd Hs1 b o', sm, fun c u ec => ?_, fun c u ec => ?_, .cons ((f4.mono sm).rp upd_same) (RpAll.mono sm v1)⟩ q1
    · by_cases hc : c = b
      · subst hc; rw [upd_same] at ec; cases ec; exact f2
      · rw [upd_ne hc] at ec; exact r1.sub _ _ ec
    · by_cases hc : c = b
      · exact .inr ⟨i, hi, by rw [hc]; exact e1⟩
      · rw [upd_ne hc] at ec; exact .inl ec
  · exact q1.elim
def dCallO (F : DF) (a : DA) : DT := fun s Q => a s fun ds s1 => F ds fun d => isFl d = true ∧ Q d s1
theorem Rp.flat {K : PySem.W.Frag} {H H' : Hp} {v : V} {d : D} (h : Rp K H v d) (f : isFl d = true) : Rp K H' v d := by
  cases h with
  | non => exact .non
  | bl b => exact .bl b
  | int i => exact .int i
  | str z => exact .str z
  | lst _ _ => cases f
  | tup _ _ => cases f
  | dic _ _ => cases f
theorem sim_callO {n : Nat} {F : DF} {ta : TA} {a : DA} (h : SimO' C n ta a) : Sim C .F (tCall (spN C.K n .E F) [] E0 ta) (dCallO F a) := by
  refine ⟨fun H0 S0 Hs σ H s Q Q' r q k => h.run H0 S0 Hs σ H s _ _ r q fun Hs1 H1 vs ds s1 g1 r1 l1 ⟨Ht, st, sb, ho, v1⟩ q1 => ?_⟩
  rw [List.append_nil]
  refine ⟨Ht, ds, _, sb, v1, l1, q1, fun d Hs' H' v q2 st' sb' hh nw rv => ?_⟩
  obtain ⟨r2, g2⟩ := r1.step (Hs' := Hs1) (H' := H') (Same.refl _) (r1.sub.trans hh) hh (fun b e1 e2 => absurd e1 e2)
  have rp : Rp C.K Hs' v d := rv
  have hc : isC d = false := by cases d <;> first | rfl | (cases q2.1)
  exact k Hs1 H' v d s1 (g1.trans g2) r2 (Val.mkP (rp.flat q2.1) hc) q2.2
end
/-! ### x = a new list; two or three statements on; then it is still -/
section
variable {C : Cf} {cat : Cat} {ta : TE} {da : DT} {t1 t2 t3 us : TS} {a1 a2 a3 b : DSt}
theorem simS_phase2 (i : Nat) (hi : i ∉ C.M) (hp : C.Nf i) (hb' : i ∉ C.bs) (h1 : Sim C .F ta da) (hA : SimS { C with M := i :: C.M } cat (tSeq t1 t2) a1) (hB : SimS C cat us b) : SimS C cat (tSeq (tAsg ta (gName i)) (tSeq t1 (tSeq t2 us))) (dPhase i da a1 b) := by
  have h := simS_phase (ts := tSeq t1 t2) i hi hp hb' h1 hA hB
  exact h
theorem simS_phase3 (i : Nat) (hi : i ∉ C.M) (hp : C.Nf i) (hb' : i ∉ C.bs) (h1 : Sim C .F ta da) (hA : SimS { C with M := i :: C.M } cat (tSeq t1 (tSeq t2 t3)) a1) (hB : SimS C cat us b) : SimS C cat (tSeq (tAsg ta (gName i)) (tSeq t1 (tSeq t2 (tSeq t3 us)))) (dPhase i da a1 b) := by
  have h := simS_phase (ts := tSeq t1 (tSeq t2 t3)) i hi hp hb' h1 hA hB
  exact h
end
/-! ### x = {k: v for ..}; x = [.. for k in d] under a lock -/
section
variable {X : Cx}
theorem ps_lkSet {st : Stmt} {t : TE} {i : Nat} (h : PS X st (tAsg t (gName i))) : PS X st (tAsg (tLk t) (gName i)) :=
  ⟨fun pins s σ H D I q => (show tAsg t (gName i) D σ H ∨ tLock (tAsg t (gName i)) D σ H from q).elim (fun q => h.run pins s σ H D I q) fun q => (ps_lock h).run pins s σ H D I q⟩
theorem ps_setDc {i : Nat} {y : Str} {py : Pos} {kx vx tg iter : Expr} {ifs : List Expr} {scope : Scope} {own : List (Str × Nat)} {pos spos : Pos} {wi : TI} {g : TG} {tt : TT} {tk tv : TE} (hc : X.calm = true) (hN : X.N.Nodup) (hy : X.N[i]? = some y) (hyl : X.env.scope.names.lookup y = some .local)
    (hsw : swapsWith (.DictComp kx vx [⟨tg, iter, ifs, 0⟩] scope pos) (some (.Name y py)) spos.line X.env = pure true) (hi : PI X tg iter wi) (ok : BlkOk X.N X.env.scope scope own)
    (hg : ∀ (s : Shared) (H : Hp) (C : Addr) (cl : List (Str × Addr)) (fp : List Addr), PG (X.blk s H scope (compEnvC scope cl C X.env) fp) tg g) (ht : ∀ (s : Shared) (H : Hp) (C : Addr) (cl : List (Str × Addr)) (fp : List Addr), PTs (X.blk s H scope (compEnvC scope cl C X.env) fp) ifs tt)
    (hk : ∀ (s : Shared) (H : Hp) (C : Addr) (cl : List (Str × Addr)) (fp : List Addr), PE (X.blk s H scope (compEnvC scope cl C X.env) fp) kx tk)
    (he : ∀ (s : Shared) (H : Hp) (C : Addr) (cl : List (Str × Addr)) (fp : List Addr), PE (X.blk s H scope (compEnvC scope cl C X.env) fp) vx tv) (hs : ∀ x, foldedSetIterable iter X.env x = pure x := by intro _; rfl) :
    PS X (.Assign [.Name y py] (.DictComp kx vx [⟨tg, iter, ifs, 0⟩] scope pos) spos) (tAsg (tDc wi g tt tk tv (own.map (·.2))) (gName i)) := by
  refine ⟨fun pins s σ H D I h => ?_⟩
  rw [exec_Assign_Name_used _ _ _ _ hsw]
  refine wpAny_bind (wpAny_standAt (wpAny_bind ?_))
  show wpAny _ X.A (do let _ ← comprehension (.DictComp kx vx [⟨tg, iter, ifs, 0⟩] scope pos) scope X.env (firstIterPos [⟨tg, iter, ifs, 0⟩] pos) newDict false (eval iter X.env) (some (assign (.Name y py) X.env))) _ _ s
  have h : tDc wi g tt tk tv (own.map (·.2)) σ H (fun x H1 => gName i x σ H1 D.nx) := h
  refine wpAny_bind (thn (dc_core (Qf := fun _ s' => SP X pins D .next s') hc hN I hi ok hg ht hk he hs h fun L C s' m H' I' q hn f => ?_) fun _ s' hq => wpAny_pure (wpAny_pure hq))
  show wpAny _ _ (assign (.Name y py) X.env (.ref L)) _ _ _
  refine wpAny_assign_Name (store_ok2 (v := V.ref L) I' hN hy (.inl hyl) rfl (fun s2 I2 ⟨a, sb, ha⟩ => ?_) (.inr hyl))
  obtain ⟨f0, f1, f2, f3, f4, f5⟩ := f
  have haC : C ≠ a := by
    rcases ha with z | z
    · rw [z]; exact f1
    · exact fun e => f4 y a z e.symm
  refine ⟨m, hn.sameBut sb haC, fun h3 sb3 => ?_⟩
  exact ⟨_, H', I2.turned (t' := s2.toks) (fun b o hb e => (sb3.2 b hb).trans e) f0 f1 f3 f4 f5, q⟩
theorem sw_trueD {kx vx : Expr} {gs : List Comprehension} {scope : Scope} {pos py : Pos} {y : Str} {l : Nat} {env : Env} (hk : env.scope.kind = .function) (hy : env.scope.names.lookup y = some .local) (hl : (py.line == pos.line) = true)
    (ha : (scope.names.any fun (n, k) => n == y && (k == .local || k == .cell)) = false) : swapsWith (.DictComp kx vx gs scope pos) (some (.Name y py)) l env = pure true := by
  have ky : env.kindOf y = some .local := hy
  have hb : env.blockKind = .function := by unfold Env.blockKind; rw [hk]; rfl
  unfold swapsWith
  simp only [hb, ky, ha, Expr.pos, hl]
  rfl
end
theorem dcD_ind {g : D → S → (S → Prop) → Prop} {c : DB} {kx e : DT} {vs : List Nat} {Q : List (D × D) → S → Prop} {items : List D} (Inv : Nat → List (D × D) → S → Prop) {s : S} (h0 : Inv 0 [] s)
    (step : ∀ i d acc s (N : List (D × D) → S → Prop), items[i]? = some d → Inv i acc s → (∀ acc' s', Inv (i + 1) acc' s' → N acc' s') → g d s fun s1 => c s1 fun k s2 => if k = true then kx s2 fun y s3 => e s3 fun z s4 => isKey y = true ∧ N (putD acc y z) (wipeS s4 vs) else N acc (wipeS s2 vs))
    (fin : ∀ acc s, Inv items.length acc s → Q acc s) : dcD g c kx e vs Q items [] s := by
  have : ∀ (n i : Nat) (acc : List (D × D)) (s : S), i + n = items.length → Inv i acc s → dcD g c kx e vs Q (items.drop i) acc s := by
    intro n
    induction n with
    | zero =>
      intro i acc s e h
      rw [List.drop_of_length_le (by omega)]
      exact fin acc s (by rw [← e, Nat.add_zero]; exact h)
    | succ n ih =>
      intro i acc s e h
      have hi : i < items.length := by omega
      rw [List.drop_eq_getElem_cons hi]
      exact step i _ acc s (fun acc s => dcD g c kx _ vs Q (items.drop (i + 1)) acc s) (List.getElem?_eq_getElem hi) h fun acc' s' h' => ih (i + 1) acc' s' (by omega) h'
  exact this items.length 0 [] s (by omega) h0
theorem itemsD_get {kvs : List (D × D)} {i : Nat} {d : D} (h : (itemsD kvs)[i]? = some d) : ∃ kv, kvs[i]? = some kv ∧ d = .tuple [kv.1, kv.2] := by
  unfold itemsD at h
  rw [List.getElem?_map] at h
  cases e : kvs[i]? with
  | none => rw [e] at h; cases h
  | some kv => rw [e] at h; exact ⟨kv, rfl, (Option.some.inj h).symm⟩
theorem nd_take {kvs : List (D × D)} {i : Nat} {kv kv' : D × D} (nd : (kvs.map Prod.fst).Nodup) (h : kvs[i]? = some kv) (m : kv' ∈ kvs.take i) : kv'.1 ≠ kv.1 := fun z => by
  obtain ⟨n, hn⟩ := List.getElem?_of_mem m
  rw [List.getElem?_take] at hn
  split at hn
  · rename_i hni
    have h1 : (kvs.map Prod.fst)[n]? = some kv.1 := by rw [List.getElem?_map, hn, ← z]; rfl
    have h2 : (kvs.map Prod.fst)[i]? = some kv.1 := by rw [List.getElem?_map, h]; rfl
    have hil : n < (kvs.map Prod.fst).length := (List.getElem?_eq_some_iff.mp h1).1
    have := (List.getElem?_inj hil nd).mp (h1.trans h2.symm)
    omega
  · cases hn

/-! ### more: own lists handed to readers, d.pop(k), tuple * int -/
section
variable {C : Cf} {ca cb : Cat} {te ta tb : TE} {t da db : DT}
theorem simO'_cons {n : Nat} {tx : TE} {dx : DT} {tr : TA} {a : DA} (h : Sim C ca tx dx) (hr : SimO' C n tr a) : SimO' C (n + 1) (tCons tx tr) (dCons dx a) := by
  refine ⟨fun H0 S0 Hs σ H s Q Q' r q k => h.toE.run H0 S0 Hs σ H s _ _ r q fun Hs1 H1 v d s1 g1 r1 v1 q1 => ?_⟩
  refine hr.run H0 S0 Hs1 σ H1 s1 _ _ r1 q1 fun Hs2 H2 vs ds s2 g2 r2 l2 ⟨Ht, st, sb, ho, va⟩ q2 => ?_
  refine k Hs2 H2 _ _ s2 (g1.trans g2) r2 (by rw [List.length_cons, l2]) ⟨Ht, st, sb, ho, .cons (Rp.mono st (Rp.mono g2.st v1)) va⟩ q2
/-! d.pop(k), of its own -/
def dropD (kvs : List (D × D)) (k : D) : List (D × D) := kvs.filter fun kv => !keyIs kv.1 k
theorem RpKV.drop {K : PySem.W.Frag} {H : Hp} {k : Key} : ∀ {kvs : List (Key × V)} {ds : List (D × D)}, RpKV K H kvs ds → RpKV K H (dropK kvs k) (dropD ds (keyD k))
  | _, _, .nil => .nil
  | _, _, .cons (k := k') a b => by
    have e : keyIs (keyD k') (keyD k) = decide (k' = k) := keyIs_key _ _
    have ih := RpKV.drop (k := k) b
    unfold dropK dropD at ih ⊢
    by_cases h : k' = k
    · rw [List.filter_cons_of_neg (by simp [h]), List.filter_cons_of_neg (by show ¬ (!keyIs (keyD k') (keyD k)) = true; rw [e, decide_eq_true h]; decide)]
      exact ih
    · rw [List.filter_cons_of_pos (by simp [h]), List.filter_cons_of_pos (by show (!keyIs (keyD k') (keyD k)) = true; rw [e, decide_eq_false h]; rfl)]
      exact .cons a ih
def dDPop (i : Nat) (db : DT) : DT := fun s Q => (∃ z, s.δ[i]? = some (some (.dict z))) ∧ db s fun k s1 => isKey k = true ∧ match s1.δ[i]? with
  | some (some (.dict kvs)) => ∃ v, findD kvs k = some v ∧ Q v { s1 with δ := s1.δ.set i (some (.dict (dropD kvs k))) }
  | _ => False
theorem sim_dpop (i : Nat) (hi : i ∈ C.M) (hb : Sim C cb tb db) : Sim C .E (tDPop1 (tVar i) tb) (dDPop i db) := by
  refine ⟨fun H0 S0 Hs σ H s Q Q' r q k => ?_⟩
  obtain ⟨⟨z, ez⟩, q⟩ := q
  obtain ⟨b, o, e1, e2, e3, e4, _⟩ := r.mt i _ ez hi
  cases e4 with
  | dic e4 =>
  refine ⟨_, e1, b, rfl, .inl ⟨_, .inl e2⟩, hb.toE.run H0 S0 Hs σ H s _ _ r q fun Hs2 H2 y dy s2 g2 r2 v2 q2 => ?_⟩
  obtain ⟨hk, q2⟩ := q2
  obtain ⟨kx, rfl⟩ := isKey_of hk
  have v2' : Rp C.K Hs2 y (keyD kx) := v2
  obtain rfl := v2'.key
  split at q2
  · rename_i kvs ex
    obtain ⟨b', o', f1, f2, f3, f4, _⟩ := r2.mt i _ ex hi
    rw [e1] at f1
    cases f1
    cases f4 with
    | dic f4 =>
      rename_i xs
      obtain ⟨dv, fv, q2⟩ := q2
      rcases findD_rp (x := kx) f4 with ⟨f5, f6⟩ | ⟨d, v, f5, f6, f7⟩
      · rw [f5] at fv; cases fv
      · rw [f5] at fv
        cases fv
        obtain ⟨r3, g3⟩ := r2.upd hi ex e1 (.dic (f4.drop (k := kx)))
        exact ⟨xs, kx, v, f2, rfl, f6, k Hs2 _ v _ _ (g2.trans g3) r3 f7 q2⟩
  · exact q2.elim
end

/-! ### a reader of own lists that gives back a tuple of tuples, numbers, texts -/
mutual
def isTF : D → Bool
  | .tuple ds => isTFs ds
  | .list _ => false
  | .dict _ => false
  | _ => true
def isTFs : List D → Bool
  | [] => true
  | d :: ds => isTF d && isTFs ds
end
section
variable {K : PySem.W.Frag} {H H' : Hp}
mutual
theorem Rp.tf (e : ∀ a o xs, H a = some (.frz o (.tup xs)) → H' a = H a) : ∀ {x : V} {d : D}, Rp K H x d → isTF d = true → Rp K H' x d
  | _, _, .non, _ => .non
  | _, _, .bl b, _ => .bl b
  | _, _, .int i, _ => .int i
  | _, _, .str z, _ => .str z
  | _, _, .lst _ _, h => by cases h
  | _, _, .tup q a, h => .tup (by
      rcases q with ⟨o, q, d⟩ | q
      · exact .inl ⟨o, by rw [e _ _ _ q]; exact q, d⟩
      · exact .inr q) (RpAll.tf e a (by simpa only [isTF] using h))
  | _, _, .dic _ _, h => by cases h
theorem RpAll.tf (e : ∀ a o xs, H a = some (.frz o (.tup xs)) → H' a = H a) : ∀ {xs : List V} {ds : List D}, RpAll K H xs ds → isTFs ds = true → RpAll K H' xs ds
  | _, _, .nil, _ => .nil
  | _, _, .cons a b, h => by
    simp only [isTFs, Bool.and_eq_true] at h
    exact .cons (Rp.tf e a h.1) (RpAll.tf e b h.2)
end
end
section
variable {C : Cf}
def dCallT (F : DF) (a : DA) : DT := fun s Q => a s fun ds s1 => F ds fun d => isTF d = true ∧ Q d s1
theorem sim_callT {n : Nat} {F : DF} {ta : TA} {a : DA} (h : SimO' C n ta a) : Sim C .E (tCall (spN C.K n .E F) [] E0 ta) (dCallT F a) := by
  classical
  refine ⟨fun H0 S0 Hs σ H s Q Q' r q k => h.run H0 S0 Hs σ H s _ _ r q fun Hs1 H1 vs ds s1 g1 r1 l1 ⟨Ht, st, sb, ho, v1⟩ q1 => ?_⟩
  rw [List.append_nil]
  refine ⟨Ht, ds, _, sb, v1, l1, q1, fun d Hs' H' v q2 st' sb' hh nw rv => ?_⟩
  let Hn : Hp := fun b => if Ht b ≠ none ∧ Hs1 b = none then none else Hs' b
  have eN : ∀ b, ¬ (Ht b ≠ none ∧ Hs1 b = none) → Hn b = Hs' b := fun b c => if_neg c
  have sN : Same Hs1 Hn := fun b o e => by
    rw [eN b (fun z => by rw [z.2] at e; cases e)]
    exact st' _ _ (st _ _ e)
  have sH : Same Hn H' := fun b o e => by
    by_cases c : Ht b ≠ none ∧ Hs1 b = none
    · have : Hn b = none := if_pos c
      rw [this] at e
      cases e
    · rw [eN b c] at e
      exact sb' _ _ e
  have nN : ∀ b, Hs1 b = none → Hn b ≠ none → H1 b = none := fun b e1 e2 => by
    by_cases c : Ht b ≠ none ∧ Hs1 b = none
    · exact absurd (if_pos c) e2
    · rw [eN b c] at e2
      refine nw b ?_ e2
      cases q : Ht b with
      | none => rfl
      | some o => exact absurd ⟨by rw [q]; exact (fun z => nomatch z), e1⟩ c
  obtain ⟨r2, g2⟩ := r1.step sN sH hh nN
  have rp : Rp C.K Hs' v d := rv
  refine k Hn H' v d s1 (g1.trans g2) r2 ?_ q2.2
  refine Rp.tf (fun b o xs e => eN b fun c => ?_) rp q2.1
  obtain ⟨c1, c2⟩ := c
  cases q : Ht b with
  | none => exact c1 q
  | some u =>
    have e2 := st' _ _ q
    rw [e2] at e
    cases e
    rcases ho b _ q with z | ⟨i, mi, si⟩
    · rw [c2] at z; cases z
    · have il : i < s1.δ.length := by
        rw [← r1.len]
        exact (List.getElem?_eq_some_iff.mp si).1
      cases ed : s1.δ[i]? with
      | none => rw [List.getElem?_eq_none_iff] at ed; omega
      | some od =>
        cases od with
        | none =>
          have := r1.dead i mi ed
          rw [si] at this
          cases this
        | some d1 =>
          obtain ⟨b', o', f1, f2, f3, f4, _⟩ := r1.mt i d1 ed mi
          rw [si] at f1
          cases f1
          rw [sb _ _ q] at f2
          cases f2
          cases f4
end

/-! ### a list of new lists told: changed in place, cleared -/
/-- at bs new lists, their trees lss -/
inductive TB (K : PySem.W.Frag) (Hf Hs H : Hp) : List Addr → List (List D) → Prop
  | nil : TB K Hf Hs H [] []
  | cons {b : Addr} {bs : List Addr} {ys : List V} {ds : List D} {lss : List (List D)} : H b = some (.lst ys) → Hf b = none → Hs b = none → RpAll K Hs ys ds → TB K Hf Hs H bs lss → TB K Hf Hs H (b :: bs) (ds :: lss)
structure ToldA (K : PySem.W.Frag) (Hf Hs H : Hp) (a : Addr) (bs : List Addr) (lss : List (List D)) : Prop where
  top : H a = some (.lst (bs.map V.ref))
  fa : Hf a = none
  fs : Hs a = none
  na : a ∉ bs
  nd : bs.Nodup
  tb : TB K Hf Hs H bs lss
theorem TB.mem {K : PySem.W.Frag} {Hf Hs H : Hp} : ∀ {bs : List Addr} {lss : List (List D)}, TB K Hf Hs H bs lss → ∀ b ∈ bs, Hf b = none ∧ Hs b = none ∧ ∃ o, H b = some o
  | _, _, .nil, b, m => nomatch m
  | _, _, .cons e f g _ t, b, m => by
    rcases List.mem_cons.mp m with rfl | m
    · exact ⟨f, g, _, e⟩
    · exact t.mem b m
theorem TB.memL {K : PySem.W.Frag} {Hf Hs H : Hp} : ∀ {bs : List Addr} {lss : List (List D)}, TB K Hf Hs H bs lss → ∀ b ∈ bs, ∃ ys, H b = some (.lst ys)
  | _, _, .nil, b, m => nomatch m
  | _, _, .cons e f g _ t, b, m => by
    rcases List.mem_cons.mp m with rfl | m
    · exact ⟨_, e⟩
    · exact t.memL b m
theorem TB.to {K : PySem.W.Frag} {Hf Hf' Hs Hs' H H' : Hp} (sm : Same Hs Hs') : ∀ {bs : List Addr} {lss : List (List D)}, TB K Hf Hs H bs lss → (∀ b ∈ bs, ∀ o, H b = some o → H' b = some o) → (∀ b ∈ bs, Hs' b = none) → (∀ b ∈ bs, Hf' b = none) → TB K Hf' Hs' H' bs lss
  | _, _, .nil, _, _, _ => .nil
  | _, _, .cons e f g a t, h1, h2, h3 => .cons (h1 _ (List.mem_cons_self ..) _ e) (h3 _ (List.mem_cons_self ..)) (h2 _ (List.mem_cons_self ..)) (RpAll.mono sm a) (t.to sm (fun b m => h1 b (List.mem_cons_of_mem _ m)) (fun b m => h2 b (List.mem_cons_of_mem _ m)) (fun b m => h3 b (List.mem_cons_of_mem _ m)))
theorem TB.snoc {K : PySem.W.Frag} {Hf Hs H : Hp} {p : Addr} {ys : List V} {ds : List D} (e : H p = some (.lst ys)) (f : Hf p = none) (g : Hs p = none) (a : RpAll K Hs ys ds) : ∀ {bs : List Addr} {lss : List (List D)}, TB K Hf Hs H bs lss → TB K Hf Hs H (bs ++ [p]) (lss ++ [ds])
  | _, _, .nil => .cons e f g a .nil
  | _, _, .cons e' f' g' a' t => .cons e' f' g' a' (t.snoc e f g a)
theorem TB.rp {K : PySem.W.Frag} {Hf Hs H Hs2 : Hp} (sm : Same Hs Hs2) : ∀ {bs : List Addr} {lss : List (List D)}, TB K Hf Hs H bs lss → (∀ b ∈ bs, Hs2 b = H b) → RpAll K Hs2 (bs.map V.ref) (lss.map PyData.list)
  | _, _, .nil, _ => .nil
  | _, _, .cons e _ _ a t, h => .cons (.lst (by rw [h _ (List.mem_cons_self ..)]; exact e) (RpAll.mono sm a)) (t.rp sm fun b m => h b (List.mem_cons_of_mem _ m))
def spTold (K : PySem.W.Frag) (F : List D → (List (List D) → Prop) → Prop) : Sp := fun vs H Q _ => ∃ Hs ds Q0, Same Hs H ∧ RpAll K Hs vs ds ∧ ds.length = 1 ∧ F ds Q0 ∧
  ∀ lss Hs' H' a bs, Q0 lss → Same Hs Hs' → Same Hs' H' → Same H H' → (∀ b, Hs b = none → Hs' b ≠ none → H b = none) → ToldA K H Hs' H' a bs lss → Q (.ref a) H'
section
variable {C : Cf}
theorem told_lc {wi : TI} {it : DI} {i : Nat} (hi : SimI C false wi it) (hiM : i ∉ C.M) (hp : C.Nf i) {H0 S0 Hs : Hp} {σ : L2.St} {H : Hp} {s : S} {Q : List (List D) → S → Prop} {Q' : VK} (r : R C H0 S0 Hs σ H s)
    (q : it s fun items s1 => i < s1.δ.length ∧ items.length < sizeLine ∧ ∃ lss : List (List D), items = lss.map PyData.list ∧ Q lss (wipeS s1 [i]))
    (k : ∀ Hs' H' a bs lss s', Go C σ Hs H Hs' H' → R C H0 S0 Hs' σ H' s' → ToldA C.K H Hs' H' a bs lss → Q lss s' → Q' (.ref a) H') : tLc wi (gName i) tYes (tCB (rListQ C.K) (tCons (tVar i) tNil)) [i] σ H Q' := by
  refine hi.run H0 S0 Hs σ H s _ _ r q fun Hs1 H1 J items s1 g1 r1 io q1 => fun L nL => ?_
  obtain ⟨hil, hz, lss, rfl, q1⟩ := q1
  obtain ⟨G, Y, W, hG, hY⟩ := io
  obtain ⟨l0, l1, l2, l3⟩ := r1.free0 nL
  have hM : ∀ v ∈ [i], v ∉ C.M := fun v m => by rw [List.mem_singleton.mp m]; exact hiM
  have hpv : ∀ v ∈ [i], C.Nf v := fun v m => by rw [List.mem_singleton.mp m]; exact hp
  have ow : ∀ b, Own C (L2.wipe σ [i]) b → Own C σ b := own_of hM fun j h => wipe_out h
  have lw : ¬ Own C (L2.wipe σ [i]) L := fun z => l2 (ow L z)
  have hiσ : i < σ.length := by rw [r1.len]; exact hil
  refine lc_it W (fun n H2 => ∃ Hs2 bs, R C H0 Hs1 Hs2 (L2.wipe σ [i]) H2 (wipeS s1 [i]) ∧ H2 L = some (.lst (bs.map V.ref)) ∧ Hs2 L = none ∧ L ∉ bs ∧ bs.Nodup ∧ bs.length ≤ n ∧ TB C.K H1 Hs2 H2 bs (lss.take n) ∧ Go C σ Hs1 H1 Hs2 H2)
    ⟨Hs1, [], ((r1.laid nL).wipe hM hpv).base, upd_same, l1, by simp, .nil, Nat.le_refl _, .nil, Go.laid nL⟩ (fun n H2 _ ⟨Hs2, _, r2, _⟩ => hG H2 (r2.s0.trans r2.sub)) (fun n v H2 H3 hn ⟨Hs2, bs, r2, hL, hsL, nb, nd, lb, tb, ga⟩ y => ?_) (fun H2 ⟨Hs2, bs, r2, hL, hsL, nb, nd, lb, tb, ga⟩ => ?_)
  · obtain ⟨Hs3, d, e1, r3, rp, g3⟩ := hY n H2 v H3 H0 Hs1 Hs2 (L2.wipe σ [i]) _ hn r2 r2.s0 y
    rw [List.getElem?_map] at e1
    obtain ⟨ds, e2, rfl⟩ := Option.map_eq_some_iff.mp e1
    have rp : Rp C.K Hs3 v (.list ds) := rp
    cases rp with
    | @lst x xs _ ex ea =>
    have hL3 := g3.kp L _ hL lw l3
    have hsL3 := none_of_new g3.nw hsL hL
    have free : ∀ b ∈ bs, Hs3 b = none ∧ (∀ o, H2 b = some o → H3 b = some o) := fun b m => by
      obtain ⟨f1, f2, o, f3⟩ := tb.mem b m
      obtain ⟨z0, z1, z2, z3⟩ := r1.free0 f1
      exact ⟨none_of_new g3.nw f2 f3, fun o h => g3.kp b o h (fun z => z2 (ow b z)) z3⟩
    show wipe ((L2.wipe σ [i]).set i (some (.ref x))) [i] = wipe σ [i] ∧ _
    refine ⟨wipe_eq (by rw [List.length_set, wipe_length]) (fun j h => ?_), ?_⟩
    · rw [List.getElem?_set_ne (fun z => h (by rw [z]; simp))]
      exact wipe_out h
    dsimp only [tYes]
    refine ifp rfl ?_
    refine ⟨.ref x, List.getElem?_set_self (by rw [wipe_length]; exact hiσ), x, xs, rfl, .inl (SqL.of (r3.sub _ _ ex)), fun p np => ?_⟩
    obtain ⟨p0, p1, p2, p3⟩ := r3.free0 np
    have pL : L ≠ p := ne_of_none hL3 np
    have pb : ∀ b ∈ bs, b ≠ p := fun b m z => by
      obtain ⟨_, _, o, f3⟩ := tb.mem b m
      have := (free b m).2 o f3
      rw [z, np] at this
      cases this
    have ga3 : Go C σ Hs1 H1 Hs3 H3 := ga.trans (g3.own ow)
    have gp : Go C σ Hs1 H1 Hs3 (upd H3 p (.lst xs)) := ga3.trans (Go.laid np)
    refine ⟨bs.map V.ref, by rw [upd_ne pL]; exact hL3, by rw [List.length_map]; have := List.length_map (f := PyData.list) (as := lss); omega, Hs3, bs ++ [p], (r3.laid np).updF hsL3 l0 lw, by rw [upd_same, List.map_append]; rfl, hsL3, ?_, ?_, ?_, ?_, gp.updF nL⟩
    · rw [List.mem_append, not_or]
      exact ⟨nb, fun z => pL (List.mem_singleton.mp z)⟩
    · refine List.nodup_append.mpr ⟨nd, by simp, fun b m c mc => ?_⟩
      rw [List.mem_singleton.mp mc]
      exact pb b m
    · rw [List.length_append, List.length_singleton]; omega
    · have e3 : lss.take (n + 1) = lss.take n ++ [ds] := by
        rw [List.take_succ, e2]
        rfl
      rw [e3]
      refine TB.snoc (ys := xs) ?_ (ga3.back p np) p1 ea (tb.to g3.st (fun b m o h => ?_) (fun b m => (free b m).1) (fun b m => (tb.mem b m).1))
      · rw [upd_ne (Ne.symm pL)]
        exact upd_same
      · rw [upd_ne (fun z => nb (by rw [← z]; exact m)), upd_ne (pb b m)]
        exact (free b m).2 o h
  · rw [show (lss.map PyData.list).length = lss.length from List.length_map .., List.take_length] at tb
    refine k Hs2 H2 L bs lss _ (g1.trans ga) (r1.back (r2.unwipe hM hpv (fun v m d => wipeL_in m d))) ⟨hL, g1.back L nL, hsL, nb, nd, tb.to (Same.refl _) (fun _ _ _ h => h) (fun b m => (tb.mem b m).2.1) (fun b m => g1.back b (tb.mem b m).1)⟩ q1
/-- the told list goes into the still part -/
theorem R.told {H0 S0 Hs : Hp} {σ : L2.St} {H : Hp} {s : S} {a : Addr} {bs : List Addr} {lss : List (List D)} (r : R C H0 S0 Hs σ H s) (hM : C.M = []) (t : ToldA C.K H0 Hs H a bs lss) :
    ∃ Hs2, Same Hs Hs2 ∧ R C H0 S0 Hs2 σ H s ∧ Rp C.K Hs2 (.ref a) (.list (lss.map PyData.list)) := by
  classical
  let Hs2 : Hp := fun x => if x = a ∨ x ∈ bs then H x else Hs x
  have e1 : ∀ x, (x = a ∨ x ∈ bs) → Hs2 x = H x := fun x h => if_pos h
  have e2 : ∀ x, ¬ (x = a ∨ x ∈ bs) → Hs2 x = Hs x := fun x h => if_neg h
  have nn : ∀ x, (x = a ∨ x ∈ bs) → Hs x = none ∧ H0 x = none := fun x h => by
    rcases h with rfl | m
    · exact ⟨t.fs, t.fa⟩
    · exact ⟨(t.tb.mem x m).2.1, (t.tb.mem x m).1⟩
  have sm : Same Hs Hs2 := fun x o e => by
    rw [e2 x (fun z => by rw [(nn x z).1] at e; cases e)]
    exact e
  have sb : Same Hs2 H := fun x o e => by
    by_cases c : x = a ∨ x ∈ bs
    · rw [e1 x c] at e; exact e
    · rw [e2 x c] at e; exact r.sub x o e
  refine ⟨Hs2, sm, ⟨r.len, sb, fun i d e m => ?_, fun i d e m => ?_, r.dead, r.sep, fun p c e => ?_, r.br, r.s0.trans sm, r.h0, fun b q1 q2 => ?_, r.fx, ?_, r.tb.2⟩, ?_⟩
  · obtain ⟨v, f1, f2⟩ := r.slot i d e m
    exact ⟨v, f1, Rp.mono sm f2⟩
  · rw [hM] at m; cases m
  · obtain ⟨f1, f2, f3, f4, f5⟩ := r.pn p c e
    refine ⟨f1, f2.mono sm (Same.refl _), ?_, f4, f5⟩
    rw [e2 p (fun z => f4 (nn p z).2)]
    exact f3
  · by_cases c : b = a ∨ b ∈ bs
    · exact (nn b c).2
    · rw [e2 b c] at q2; exact r.new b q1 q2
  · refine r.tb.1.to sm (fun _ _ _ e => e) (fun b q1 q2 ps e => ?_)
    by_cases c : b = a ∨ b ∈ bs
    · rcases c with rfl | c
      · rw [t.top] at e; cases e
      · obtain ⟨ys, e'⟩ := t.tb.memL b c
        rw [e'] at e; cases e
    · rw [e2 b c] at q2; exact q2 q1
  · exact .lst (by rw [e1 a (.inl rfl)]; exact t.top) (t.tb.rp sm fun b m => e1 b (.inr m))
/-- back to what was still before, at a later heap -/
theorem R.less {H0 S0 Hs : Hp} {σ : L2.St} {H H' : Hp} {s : S} (r : R C H0 S0 Hs σ H s) (hM : C.M = []) (hb : C.bor = []) (hk : C.pk = .draw) (sm : Same Hs H') (hp : ∀ p c, C.pen = some (p, c) → Pen H' p c s.n) (h0 : ∀ b o, ¬ IsPen C b → H0 b = some o → H' b = some o) (ht : C.tb = [] := by rfl) : R C H0 S0 Hs σ H' s := by
  refine ⟨r.len, sm, r.slot, fun i d e m => ?_, r.dead, r.sep, fun p c e => ?_, fun b m => ?_, r.s0, h0, r.new, r.fx, TbS.non ht, r.tb.2⟩
  · rw [hM] at m; cases m
  · obtain ⟨f1, f2, f3⟩ := r.pn p c e
    exact ⟨f1, by rw [hk]; exact hp p c e, f3⟩
  · rw [hb] at m; cases m
/-- x = f(y); if ..: return; x[0].append(e); if ..: return; x.clear() -/
def dBlk (F : List D → (List (List D) → Prop) → Prop) (j i : Nat) (c1 : DB) (da : DT) (c2 : DB) : DSt := fun E s => ∃ d, s.δ[j]? = some (some d) ∧ i < s.δ.length ∧ F [d] fun lss => ∃ (l0 : List D) (rl : List (List D)), lss = l0 :: rl ∧ l0.length < sizeLine ∧
  c1 { s with δ := s.δ.set i (some (.list ((l0 :: rl).map PyData.list))) } (fun b s' => b = false ∧ s' = { s with δ := s.δ.set i (some (.list ((l0 :: rl).map PyData.list))) }) ∧
  da { s with δ := s.δ.set i none } (fun e s' => s' = { s with δ := s.δ.set i none } ∧
    c2 { s with δ := s.δ.set i (some (.list (((l0 ++ [e]) :: rl).map PyData.list))) } (fun b s' => b = false ∧ s' = { s with δ := s.δ.set i (some (.list (((l0 ++ [e]) :: rl).map PyData.list))) })) ∧
  E.nx { s with δ := s.δ.set i none }
theorem simS_blk {F : List D → (List (List D) → Prop) → Prop} {i j : Nat} {tt1 tt2 : TT} {c1 c2 : DB} {u1 u2 : TS} {ta : TE} {da : DT} {ca : Cat} (hM : C.M = []) (hb : C.bor = []) (hk : C.pk = .draw) (hi : C.Nf i) (h1 : SimT C tt1 c1) (h2 : SimT C tt2 c2) (he : Sim C ca ta da) (htb : C.tb = [] := by rfl) :
    SimS C .E (tSeq (tAsg (tCall (spTold C.K F) [] E0 (tCons (tVar j) tNil)) (gName i)) (tSeq (tIfS tt1 u1 tNext) (tSeq (tDrop (tBM C.K "list" rAppend (tOp (rIxG C.K) (tVar i) (tC (.int 0))) (tCons ta tNil))) (tSeq (tIfS tt2 u2 tNext) (tDrop (tBM0 C.K "list" rClear (tVar i))))))) (dBlk F j i c1 da c2) := by
  refine ⟨fun H0 S0 Hs σ H s E D' r q k => ?_⟩
  obtain ⟨d, ed, il, q⟩ := q
  have hiM : i ∉ C.M := by rw [hM]; simp
  obtain ⟨v, ev, rv⟩ := r.slot j d ed (by rw [hM]; simp)
  refine ⟨v, ev, Hs, [d], _, r.sub, .cons rv .nil, rfl, q, fun lss Hs1 H1 a bs q1 st sb hh nw tl => ?_⟩
  obtain ⟨l0, rl, rfl, hl0, qc1, qda, qn⟩ := q1
  obtain ⟨r1, g1⟩ := r.step st sb hh nw
  have no : ∀ (τ : L2.St) (b : Addr), ¬ Own C τ b := fun τ b ⟨l, m, _⟩ => by rw [hM] at m; cases m
  have il' : i < σ.length := by rw [r.len]; exact il
  generalize hσ : σ.set i (some (.ref a)) = σ1
  have ei : σ1[i]? = some (some (.ref a)) := by rw [← hσ]; exact List.getElem?_set_self il'
  have ss : σ1.set i (some (.ref a)) = σ1 := by rw [← hσ, List.set_set]
  generalize hs : ({ s with δ := s.δ.set i none } : S) = sN at qda qn
  have rN : R C H0 S0 Hs1 σ1 H1 sN := by rw [← hσ, ← hs]; exact r1.setN hiM hi
  have vis : ∀ {Hx : Hp} {Hy : Hp} {x : D}, R C H0 S0 Hx σ1 Hy sN → Rp C.K Hx (.ref a) x → R C H0 S0 Hx σ1 Hy { s with δ := s.δ.set i (some x) } := fun {Hx Hy x} r rp => by
    have z := r.setE hiM hi rp
    rw [ss, ← hs] at z
    have e : ({ s with δ := (s.δ.set i none).set i (some x) } : S) = { s with δ := s.δ.set i (some x) } := by rw [List.set_set]
    rw [← e]
    exact z
  have nsn : sN.n = s.n := by rw [← hs]
  have t0 : ToldA C.K H0 Hs1 H1 a bs (l0 :: rl) := ⟨tl.top, (r.free0 tl.fa).1, tl.fs, tl.na, tl.nd, tl.tb.to (Same.refl _) (fun _ _ _ h => h) (fun b m => (tl.tb.mem b m).2.1) (fun b m => (r.free0 (tl.tb.mem b m).1).1)⟩
  show (tSeq (tIfS tt1 u1 tNext) _) D' (σ.set i (some (.ref a))) H1
  rw [hσ]
  -- the first test
  obtain ⟨Hs2, sm2, r2, rp2⟩ := rN.told hM t0
  refine h1.run H0 S0 Hs2 σ1 H1 _ _ _ (vis r2 rp2) qc1 fun Hs3 H3 b s3 g3 r3 q3 => ?_
  obtain ⟨rfl, rfl⟩ := q3
  refine ifn Bool.false_ne_true ?_
  have rB : R C H0 S0 Hs1 σ1 H3 sN := rN.less (ht := htb) hM hb hk ((sm2.trans g3.st).trans r3.sub) (fun p c e => by
    have := (r3.pn p c e).2.1
    rw [hk] at this
    rw [nsn]
    exact this) r3.h0
  have kp3 : ∀ b o, H0 b = none → H1 b = some o → H3 b = some o := fun b o n e => g3.kp b o e (no _ _) (rN.notPen n)
  obtain ⟨b0, bs', ys0, rfl, e0, f0, f1, a0, tb'⟩ : ∃ b0 bs' ys0, bs = b0 :: bs' ∧ H1 b0 = some (.lst ys0) ∧ H0 b0 = none ∧ Hs1 b0 = none ∧ RpAll C.K Hs1 ys0 l0 ∧ TB C.K H0 Hs1 H1 bs' rl := by
    cases t0.tb with
    | cons e f g h t => exact ⟨_, _, _, rfl, e, f, g, h, t⟩
  have nab : a ≠ b0 := fun z => t0.na (by rw [z]; exact List.mem_cons_self ..)
  have nd' : b0 ∉ bs' ∧ bs'.Nodup := List.nodup_cons.mp t0.nd
  have top3 := kp3 a _ t0.fa t0.top
  have e3 := kp3 b0 _ f0 e0
  -- append
  refine ⟨.ref a, ei, .inl ⟨a, _, 0, .ref b0, rfl, rfl, SqL.of top3, atI_of 0 rfl rfl, ⟨.inl ⟨rfl, ys0, SqL.of e3⟩, ?_⟩⟩⟩
  refine he.toE.run H0 S0 Hs1 σ1 H3 sN _ _ rB qda fun Hs4 H4 w dw s4 g4 r4 v4 q4 => ?_
  obtain ⟨rfl, qc2⟩ := q4
  have kp4 : ∀ b o, H0 b = none → H3 b = some o → H4 b = some o := fun b o n e => g4.kp b o e (no _ _) (rN.notPen n)
  have hs4 : ∀ b o, Hs1 b = none → H3 b = some o → Hs4 b = none := fun b o n e => none_of_new g4.nw n e
  refine ⟨b0, ys0, w, rfl, rfl, kp4 b0 _ f0 e3, by rw [a0.len]; exact hl0, ?_⟩
  have v4 : Rp C.K Hs4 w dw := v4
  have r5 : R C H0 S0 Hs4 σ1 (L2.upd H4 b0 (.lst (ys0 ++ [w]))) s4 := r4.updF (hs4 b0 _ f1 e3) f0 (no _ _)
  have t5 : ToldA C.K H0 Hs4 (L2.upd H4 b0 (.lst (ys0 ++ [w]))) a (b0 :: bs') ((l0 ++ [dw]) :: rl) := by
    refine ⟨?_, t0.fa, hs4 a _ t0.fs top3, t0.na, t0.nd, .cons upd_same f0 (hs4 b0 _ f1 e3) ((RpAll.mono g4.st a0).app (.cons v4 .nil)) (tb'.to g4.st (fun b m o e => ?_) (fun b m => ?_) (fun b m => (tb'.mem b m).1))⟩
    · rw [upd_ne nab]
      exact kp4 a _ t0.fa top3
    · have hf := (tb'.mem b m).1
      rw [upd_ne (fun z => nd'.1 (by rw [← z]; exact m))]
      exact kp4 b _ hf (kp3 b _ hf e)
    · obtain ⟨z1, z2, o, z3⟩ := tb'.mem b m
      exact hs4 b o z2 (kp3 b o z1 z3)
  -- the second test
  obtain ⟨Hs6, sm6, r6, rp6⟩ := r5.told hM t5
  refine h2.run H0 S0 Hs6 σ1 _ _ _ _ (vis r6 rp6) qc2 fun Hs7 H7 b s7 g7 r7 q7 => ?_
  obtain ⟨rfl, rfl⟩ := q7
  refine ifn Bool.false_ne_true ?_
  have rB2 : R C H0 S0 Hs4 σ1 H7 s4 := r5.less (ht := htb) hM hb hk ((sm6.trans g7.st).trans r7.sub) (fun p c e => by
    have := (r7.pn p c e).2.1
    rw [hk] at this
    rw [nsn]
    exact this) r7.h0
  have top7 : H7 a = some (.lst ((b0 :: bs').map V.ref)) := g7.kp a _ t5.top (no _ _) (rN.notPen t0.fa)
  -- clear
  refine ⟨.ref a, ei, .inl ⟨rfl, _, SqL.of top7⟩, a, _, rfl, rfl, top7, ?_⟩
  exact k.nx Hs4 σ1 _ s4 (rB2.updF t5.fs t0.fa (no _ _)) qn
end

/-! ### self.m(xs, ..): xs own lists or dicts; the result and the other thing hold no address -/
section
variable {C : Cf} {Cc : Addr} {f : List V → V → V → List (Str × V)} {ls : List V} {fs : List D}
def dCallMO (F : List D → DFM) (fs : List D) (a : DA) : DT := fun s Q => a s fun ds s1 => F fs ds s1.n s1.h fun d k h => isFl d = true ∧ isFl h = true ∧ Q d { s1 with n := k, h := h }
theorem sim_callMO {n : Nat} {F : List D → DFM} {m : Str} {ta : TA} {a : DA} (L : Slf C Cc f ls fs) (hm : ∀ x y, (f ls x y).lookup m = none) (h : SimO' C n ta a) : Sim C .F (tMeth Cc m (spM C.K Cc f n .E F) [] E0 (tVar 0) ta) (dCallMO F fs a) := by
  refine ⟨fun H0 S0 Hs σ H s Q Q' r q k => ?_⟩
  obtain ⟨p, c, ep, e1, e2, e3⟩ := L.at_ r
  obtain ⟨⟨hv, _, ei⟩, _⟩ := e2
  refine ⟨.ref p, e1, p, c, _, rfl, ei, hm _ _, h.run H0 S0 Hs σ H s _ _ r q fun Hs1 H1 vs ds s1 g1 r1 l1 ⟨Ht, st, sb, ho, v1⟩ q1 => ?_⟩
  rw [List.append_nil]
  obtain ⟨p', c', ep', _, f2, f3⟩ := L.at_ r1
  rw [ep] at ep'
  cases ep'
  have np0 : Ht p = none := by
    cases q0 : Ht p with
    | none => rfl
    | some o =>
      rcases ho p o q0 with z | ⟨i, mi, si⟩
      · rw [f3] at z; cases z
      · have il : i < s1.δ.length := by
          rw [← r1.len]
          exact (List.getElem?_eq_some_iff.mp si).1
        cases ed : s1.δ[i]? with
        | none => rw [List.getElem?_eq_none_iff] at ed; omega
        | some od =>
          cases od with
          | none =>
            have := r1.dead i mi ed
            rw [si] at this
            cases this
          | some d1 =>
            obtain ⟨b', o', g1', g2', g3', g4', g5'⟩ := r1.mt i d1 ed mi
            rw [si] at g1'
            cases g1'
            obtain ⟨_, _, _, h4, _, _, _, h8, _⟩ := r1.pn _ _ ep
            rcases g5' with z | z
            · exact absurd z h4
            · exact absurd z h8
  refine ⟨Ht, p, c, s1.n, s1.h, ls, fs, vs, ds, _, rfl, L.len, f2.mono st (Same.refl _), np0, sb, v1, l1, q1, fun d k' h' Hs' H' v q2 st' sb' hh nw np pe rv => ?_⟩
  obtain ⟨qa, qb, q2⟩ := q2
  have pe' : PenK C.K C.pk Hs1 H' p c k' h' := by
    rw [L.pk]
    obtain ⟨⟨hv', rh, ei'⟩, x2, x3, x4⟩ := pe
    obtain ⟨_, _, _, y4⟩ := f2
    exact ⟨⟨hv', rh.flat qb, ei'⟩, x2, x3, y4⟩
  have sub1 : Same Hs1 H' := fun b o e => hh b o (fun z => by subst z; rw [f3] at e; cases e) (r1.sub _ _ e)
  obtain ⟨r2, g2⟩ := r1.stepP (y := h') ep (Same.refl _) sub1 hh (fun b e1 e2 => absurd e1 e2) f3 pe'
  have rp : Rp C.K Hs' v d := rv
  have hc : isC d = false := by cases d <;> first | rfl | (cases qa)
  exact k Hs1 H' v d _ (g1.trans g2) r2 (Val.mkP (rp.flat qa) hc) q2
end
/-! ### a test that is a truth or None -/
section
variable {C : Cf} {ca : Cat} {te : TE} {t : DT}
theorem ptTru {X : Cx} {a : Expr} {ta : TE} (K : PySem.W.Frag) (eK : X.K = K) (ha : PE X a ta) (he : ∀ whole, isTrue a X.env whole = (do let v ← whole; standAt a.pos; holding [v] (truthy v)) := by intro _; rfl) : PT X a (fun σ H Q => ta σ H fun x H' => ∃ k, TruV K x H' k ∧ Q k H') := by
  subst eK
  exact pt_truth ha he
def dTru (a : DT) : DB := fun s Q => a s fun d s1 => match d with
  | .bool b => Q b s1
  | .none => Q false s1
  | _ => False
theorem simT_tru (h : Sim C ca te t) : SimT C (fun σ H Q => te σ H fun x H' => ∃ k, TruV C.K x H' k ∧ Q k H') (dTru t) := by
  refine ⟨fun H0 S0 Hs σ H s Q Q' r q k => h.run H0 S0 Hs σ H s _ _ r q fun Hs1 H1 v d s1 g1 r1 v1 q1 => ?_⟩
  cases d <;> first | exact q1.elim | skip
  case none =>
    have e : v = .non := by
      cases ca with
      | E => cases (show Rp C.K Hs1 v .none from v1); rfl
      | F => cases v1.p rfl; rfl
    subst e
    exact ⟨false, rfl, k Hs1 H1 false s1 g1 r1 q1⟩
  case bool b =>
    cases v1.bool
    exact ⟨b, rfl, k Hs1 H1 b s1 g1 r1 q1⟩
end
/-! ### is of a truth or None, and a truth -/
def rIsBN : R2 := fun x y H Q => ∃ b : Bool, y = .bl b ∧ ((x = .non ∧ Q (.bl false) H) ∨ ∃ a : Bool, x = .bl a ∧ Q (.bl (decide (a = b))) H)
theorem op_isBN {X : Cx} : OpR X (compareOp .Is) rIsBN := by
  intro pins s σ H x y v u Q I rx ry h
  obtain ⟨b, rfl, ⟨rfl, q⟩ | ⟨a, rfl, q⟩⟩ := h
  · cases (show v = Value.none from rx)
    cases (show u = Value.bool b from ry)
    exact wpAny_is_other rfl (fun z => by cases z) ⟨.bl false, H, I, rfl, q⟩
  · exact op_isBl pins s σ H _ _ v u Q I rx ry ⟨a, b, rfl, rfl, q⟩
def isBND : DO := fun x y Q => match y with
  | .bool b => (match x with
    | .none => Q (.bool false)
    | .bool a => Q (.bool (decide (a = b)))
    | _ => False)
  | _ => False
theorem opA_isBN {C : Cf} : OpA C rIsBN isBND := by
  intro H0 S0 Hs σ H s x y dx dy Q Q' r hx hy q k
  cases dy <;> first | exact q.elim | skip
  cases dx <;> first | exact q.elim | skip
  case bool.none b => cases hx; cases hy; exact ⟨b, rfl, .inl ⟨rfl, k Hs H _ (.bool _) Go.refl r (Val.mkP (Rp.bl _) rfl) q⟩⟩
  case bool.bool b a => cases hx; cases hy; exact ⟨b, rfl, .inr ⟨a, rfl, k Hs H _ (.bool _) Go.refl r (Val.mkP (Rp.bl _) rfl) q⟩⟩

/-! ### sorted(xs, key=lambda x: repr(x)) -/
section
variable {prog : Program} {w : World} {A : Around} {s : Shared}
/-- the lambda called: the text of its thing, the heap stays -/
theorem lam_repr {f c' : Addr} {q x : Str} {params : Arguments} {p1 p2 p3 : Pos} {scope : Scope} {pm ctv v : Value} {d : D} {as : List Addr} {mg mb : Str → Option Value}
    (hx : ∀ (s : Shared) (u : Value), BindsTo s (PySem.W.kla_fn "<lambda>" q params (.Call (.Name "repr" p1) [.Name x p2] [] p3) scope [] pm (.ref c') ctv) ⟨[u], []⟩ [(x, u)])
    (hs : scope.names = [(x, .local), (Str.ofString "repr", .globalImplicit)]) (hk : scope.kind = .function) (h1 : scope.isCoroutine = false) (h2 : scope.isGenerator = false) (hxr : (Str.ofString "repr" == x) = false) (hxd : (x == ("__debug__" : Str)) = false)
    (hd : A.depth < recursionLimit) (hg : A.guards = some []) (hu : A.units + 100 < cLine)
    (g1 : s.heap.Ns mainGlobals mg) (gm : mg "repr" = none) (g2 : s.heap.Ns builtinsNs mb) (g3 : mb "repr" = some (.builtin "repr")) (g4 : s.heap.NoLimit)
    (hf : s.heap.get? f = some (PySem.W.kla_obj "<lambda>" q params (.Call (.Name "repr" p1) [.Name x p2] [] p3) scope [] pm c' ctv)) (hcd : s.heap.CodeRec (.ref c') q)
    (rd : Reads s.heap v d as) (sh : Sh d) (hw : d.showable = true) (hz : d.shown.length ≤ sizeLine) :
    wpAny (model prog w) A (call (.ref f) [v]) (PySem.W.KeyPure (.str d.shown) s) (fun _ _ => False) s := by
  have hsh : d.canLay0 = true ∧ d.depth ≤ 64 := by
    have : (d.canLay0 && decide (d.depth ≤ 64)) = true := sh
    simpa using this
  have lx : scope.names.lookup x = some .local := by rw [hs]; simp
  have lr : scope.names.lookup (Str.ofString "repr") = some .globalImplicit := by rw [hs, List.lookup_cons, hxr]; simp
  refine wpAny_call (PySem.W.kla_callFunE hd hf rfl h1 h2 rfl hcd (hx _ _ _ _ _ _ (wpAny_newFunctionEnv_cells hk (fun y hy => ?_) fun env he s1 X => ⟨g4.keeps X.toInCall.keep, PySem.W.kla_codeExpr ?_⟩)))
  · rw [List.mem_singleton.mp hy]
    exact .inl lx
  subst he
  have kp := X.toInCall.keep
  refine wpAny_Call_Name_kw (Calls.Name_function_global hk lr (Calls.loadGlobal_builtin (g1.keeps kp) gm (g2.keeps kp) g3 ?_) (by decide))
  have hm : bindL (fun n => scope.names.lookup n) [(x, v)] (fun _ => none) x = some v := by
    simp only [bindL, lx, if_pos]
  refine PyProof.Rows.callWith_builtin1 (Calls.spliced_cons (wpAny_Name (wpAny_loadName_local (v := v) hk lx X.toInCall.ns hm (Calls.spliced_nil ?_)) hxd)) rfl rfl
  obtain ⟨h1', tk1, e1⟩ := X.toInCall.same
  have fin : ∀ (h' : Heap) (tk t : Nat), (∀ b o, s1.heap.get? b = some o → h'.get? b = some o) → PySem.W.KeyPure (.str d.shown) s (.str d.shown t) { s1 with heap := h', toks := tk } := fun h' tk t k2 => ⟨h', tk, by rw [e1], fun b o e => k2 b o (kp b o e), .str _ t⟩
  have nd : d.hasDict = false := PyData.hasDict_of_canLay d hsh.1
  have no : ∀ as : List Addr, d.hasDict = true → sysModules ∉ as := fun as z => by rw [nd] at z; cases z
  have rd' := PyProof.Rows.Reads.keeps kp rd
  cases rd' with
  | none => exact PySem.P.repr_of_none (fin _ _ _ fun _ _ e => e)
  | bool b => exact PySem.P.repr_of_bool (fin _ _ _ fun _ _ e => e)
  | int i t => exact PySem.P.repr_of_int (by simpa [PyData.showable] using hw) (fin _ _ _ fun _ _ e => e)
  | str z t => exact PySem.P.repr_of_str (fin _ _ _ fun _ _ e => e) hz
  | list a b c r => exact repr_of_reads' (.list a b c r) hw (no _) hg (by show A.units + 3 + (_ + 1) < cLine; omega) (fun _ _ z => z) (fun h' t tk k2 => fin _ _ _ k2) hz
  | tuple a b c r => exact repr_of_reads' (.tuple a b c r) hw (no _) hg (by show A.units + 3 + (_ + 1) < cLine; omega) (fun _ _ z => z) (fun h' t tk k2 => fin _ _ _ k2) hz
  | dict a b c r1 r2 => exact absurd nd (by simp [PyData.hasDict])
end
open LamX (CodeO TabB)
section
variable {X : Cx} {pins : List (Addr × Obj)} {σ : L2.St} {H : Hp} {s : Shared}
/-- what a table holds of the lambda -/
def TabP (H : Hp) (q : Str) (ps : Array Value) : Prop := TriplesOk ps.toList ∧ ∀ (pos : Pos) (cv : Value), codeAmong pos ps.toList = some cv → ∃ c, cv = .ref c ∧ H c = some (CodeO c q)
/-- the heap behind the making of a lambda: as it was, or a code object more -/
def Lamd (H : Hp) (P : Addr) (q : Str) (ps : Array Value) (H1 : Hp) : Prop := H1 = H ∨ ∃ (c' : Addr) (ps' : Array Value), H c' = none ∧ c' ≠ P ∧ H1 = L2.upd (L2.upd H P (.tbl ps')) c' (CodeO c' q) ∧ TriplesOk ps'.toList ∧ ∀ (pos : Pos) (cv : Value), codeAmong pos ps'.toList = some cv → codeAmong pos ps.toList = some cv ∨ cv = .ref c'
theorem lam_mk {c P : Addr} {q : Str} {ps : Array Value} {params : Arguments} {body : Expr} {scope : Scope} {pos : Pos} {E : Value → Shared → Prop} {Q : Value → Shared → Prop} (I : Inv X pins σ H s) (TB : TabB X.base X.mg c P) (hcode : X.env.code = .ref c) (hq : X.env.qual ++ "<lambda>" = q)
    (hP : H P = some (.tbl ps)) (hT : TabP H q ps) (hdef : defaultsOf params X.env = ([], [])) (hcl : closureFor scope X.env = pure [])
    (k : ∀ (f c' : Addr) (pm ctv : Value) (H1 : Hp) (s' : Shared), Inv X pins σ H1 s' → Lamd H P q ps H1 → s'.heap.get? f = some (PySem.W.kla_obj "<lambda>" q params body scope [] pm c' ctv) → s'.heap.CodeRec (.ref c') q → Q (.ref f) s') :
    wpAny (model X.prog X.w) X.A (eval (.Lambda params body scope pos) X.env) Q E s := by
  obtain ⟨ht, ha⟩ := hT
  have oP := I.hok P _ hP
  have bP := TB.bm.keeps I.bk
  have kC := TB.code.keeps I.bk
  have kG := I.mod.glob.keeps I.bk
  refine PySem.W.kla_eval hdef ?_
  rw [hq]
  rcases hc : codeAmong pos ps.toList with _ | cv
  · refine PySem.W.kla_makeFunction hcl I.ok.glob kG hcode kC oP ht hc TB.gP bP fun c' ctv h' tk hx hge hlt hrec htb => ?_
    obtain ⟨c2, oc, vs, t, e2, hoc, hd, hv⟩ := id hrec
    cases e2
    have nC : H c' = none := I.hok.fresh hge
    have nP : c' ≠ P := fun z => by rw [z, hP] at nC; cases nC
    have up : ∀ (ob : Obj) (b : Addr) (o : Obj), h'.get? b = some o → (h'.push ob).get? b = some o := fun ob b o e => Heap.get?_push_of_some _ e
    have I1 := LamX.inv_table (t' := tk) (more := #[rawInt pos.line, rawInt pos.col, .ref c']) (c := c') (q := q) (h' := h'.push (PySem.W.kla_obj "<lambda>" q params body scope [] ((X.mg "__name__").getD .none) c' ctv)) I hP (fun b o hb e => up _ b o (hx b o hb e)) (up _ _ _ htb) hge ⟨oc, vs, t, up _ _ _ hoc, hd, hv⟩
    refine k _ c' _ ctv _ _ I1 (.inr ⟨c', _, nC, nP, rfl, ?_, fun p' cv hcv => ?_⟩) (Heap.get?_push_size _ rfl) ⟨c', oc, vs, t, rfl, up _ _ _ hoc, hd, hv⟩
    · have el : (ps ++ #[rawInt pos.line, rawInt pos.col, Value.ref c']).toList = ps.toList ++ [rawInt pos.line, rawInt pos.col, .ref c'] := by simp
      rw [el]
      exact PySem.TriplesOk_snoc _ _ _ _ ht
    · have el : (ps ++ #[rawInt pos.line, rawInt pos.col, Value.ref c']).toList = ps.toList ++ [rawInt pos.line, rawInt pos.col, .ref c'] := by simp
      rw [el] at hcv
      exact LamX.among_app _ ht hcv
  · obtain ⟨c', e, hco⟩ := ha pos cv hc
    subst e
    refine PySem.W.kla_makeFunctionHit (mg := X.mg) hcl I.ok.glob kG hcode kC oP ht hc bP fun ctv h' tk hx hsz => ?_
    have hr : s.heap.CodeRec (.ref c') q := by
      obtain ⟨⟨oc, vs, t, e1, e2, e3⟩, _⟩ := I.hok c' _ hco
      exact ⟨c', oc, vs, t, rfl, e1, e2, e3⟩
    refine k _ c' _ ctv H _ (I.kept fun b o e => Heap.get?_push_of_some _ (hx b o e)) (.inl rfl) (Heap.get?_push_size _ rfl) ?_
    obtain ⟨c2, oc, vs, t, e2, hoc, r⟩ := hr
    exact ⟨c2, oc, vs, t, e2, Heap.get?_push_of_some _ (hx _ _ hoc), r⟩
end

/-- the order that sorted goes by, by the things' texts -/
def keyLe (a b : D) : Bool := PySem.W.dataLe false (fun d : D => PyData.str d.shown) a b
def tSortK (K : PySem.W.Frag) (P : Addr) (q : Str) (te : TE) : TE := fun σ H Q => tCons te tNil σ H fun xs H1 => ∃ x, xs = [x] ∧ ∃ ps : Array Value, H1 P = some (.tbl ps) ∧ TabP H1 q ps ∧ ∀ H2 : Hp, Lamd H1 P q ps H2 →
  ∃ (a : Addr) (vs : List V) (ds : List D), x = .ref a ∧ SqL K H2 a vs ∧ DpAll K H2 vs ds ∧ (∀ d ∈ ds, Sh d ∧ d.showable = true ∧ d.shown.length ≤ sizeLine) ∧
    ∀ p : Addr, H2 p = none → Q (.ref p) (L2.upd H2 p (.lst (((vs.zip ds).mergeSort fun a b => keyLe a.2 b.2).map Prod.fst)))
theorem each_vals : ∀ {out : List Value} {bs : List (V × D)}, PySem.W.EachIs (fun u b => RelV b.1 u) out bs → Vals (bs.map Prod.fst) out
  | _, _, .nil => .nil
  | _, _, .cons h t => .cons h (each_vals t)
theorem DpAll.len {K : PySem.W.Frag} {H : Hp} : ∀ {vs : List V} {ds : List D}, DpAll K H vs ds → vs.length = ds.length
  | _, _, .nil => rfl
  | _, _, .cons _ t => by rw [List.length_cons, List.length_cons, DpAll.len t]
theorem each_zip {X : Cx} {pins : List (Addr × Obj)} {σ : L2.St} {H : Hp} {s : Shared} (I : Inv X pins σ H s) : ∀ (vs : List V) (ds : List D) (its : List Value), DpAll X.K H vs ds → Vals vs its → PySem.W.EachIs (fun (u : Value) (b : V × D) => RelV b.1 u ∧ ∃ as, Reads s.heap u b.2 as) its (vs.zip ds)
  | _, _, _, .nil, .nil => .nil
  | _, _, _, .cons h t, .cons r rs => .cons ⟨r, Dp.reads I _ _ _ h r⟩ (each_zip I _ _ _ t rs)
section
variable {X : Cx}
theorem pe_sortK {c P : Addr} {q x y : Str} {p0 : Pos} {k : Nat} {te : TE} {params : Arguments} {p p1 p2 p3 pos lpos kpos : Pos} {scope : Scope} (ha : PE X (.Name y p0) te) (TB : TabB X.base X.mg c P) (hcode : X.env.code = .ref c) (hq : X.env.qual ++ "<lambda>" = q)
    (hr : Rm k X.A) (hgl : Gl X "sorted") (hm : X.mg "sorted" = none) (hm2 : X.mg "repr" = none) (hdef : defaultsOf params X.env = ([], []))
    (hx : ∀ (pm ctv : Value) (c' : Addr) (s : Shared) (u : Value), BindsTo s (PySem.W.kla_fn "<lambda>" q params (.Call (.Name "repr" p1) [.Name x p2] [] p3) scope [] pm (.ref c') ctv) ⟨[u], []⟩ [(x, u)])
    (hs : scope.names = [(x, .local), (Str.ofString "repr", .globalImplicit)]) (hk : scope.kind = .function) (h1 : scope.isCoroutine = false) (h2 : scope.isGenerator = false) (hxr : (Str.ofString "repr" == x) = false) (hxd : (x == ("__debug__" : Str)) = false) :
    PE X (.Call (.Name "sorted" p) [.Name y p0] [⟨some "key", .Lambda params (.Call (.Name "repr" p1) [.Name x p2] [] p3) scope lpos, kpos⟩] pos) (tSortK X.K P q te) := by
  refine ⟨fun pins s σ H Q I h => ?_⟩
  refine wpAny_Call_Name_kw (ld_blt I hgl hm rfl ?_)
  refine PyProof.Rows.callWith_kw (thn ((pa_cons ha pa_nil).run pos pins s σ H (fun xs H1 => ∃ x, xs = [x] ∧ ∃ ps : Array Value, H1 P = some (.tbl ps) ∧ TabP H1 q ps ∧ ∀ H2 : Hp, Lamd H1 P q ps H2 →
    ∃ (a : Addr) (vs : List V) (ds : List D), x = .ref a ∧ SqL X.K H2 a vs ∧ DpAll X.K H2 vs ds ∧ (∀ d ∈ ds, Sh d ∧ d.showable = true ∧ d.shown.length ≤ sizeLine) ∧
      ∀ p : Addr, H2 p = none → Q (.ref p) (L2.upd H2 p (.lst (((vs.zip ds).mergeSort fun a b => keyLe a.2 b.2).map Prod.fst)))) I ?_) fun us s1 ⟨xs, H1, I1, r1, z, exs, ps, hP, hT, q1⟩ => ?_) rfl rfl rfl rfl
  · exact h
  subst exs
  obtain ⟨u, rfl, ru⟩ := vals1 r1
  have hcl : closureFor scope X.env = pure [] := by
    rw [closure_ok (fun y hy z => by rw [hs] at hy; simp only [List.mem_cons, List.not_mem_nil, or_false] at hy; rcases hy with rfl | rfl <;> cases z), hs]
    rfl
  show wpAny _ _ (evalAll [do let v ← eval (.Lambda params (.Call (.Name "repr" p1) [.Name x p2] [] p3) scope lpos) X.env; standAt pos; pure v]) _ _ _
  refine wpAny_evalAll_cons (wpAny_bind (lam_mk I1 TB hcode hq hP hT hdef hcl fun f c' pm ctv H2 s2 I2 hL hf hcd => wpAny_bind (wpAny_standAt (wpAny_pure (wpAny_evalAll_nil ?_)))))
  obtain ⟨a, vs, ds, rfl, hsq, hdp, hds, q2⟩ := q1 H2 hL
  obtain rfl : u = Value.ref a := ru
  obtain ⟨its, rv, hl, hz⟩ := I2.list hsq
  have kk := I2.kIn
  obtain ⟨mb, b1, b2⟩ := I2.mod.blt
  have hdl : ds.length = vs.length := (DpAll.len hdp).symm
  have each : PySem.W.EachIs (fun (u : Value) (b : V × D) => RelV b.1 u ∧ ∃ as, Reads s2.heap u b.2 as) its (vs.zip ds) := each_zip I2 vs ds its hdp rv
  have mem : ∀ b ∈ vs.zip ds, b.2 ∈ ds := fun b hb => (List.of_mem_zip hb).2
  have un : X.A.units + 16 * k + 200 < cLine := hr.un
  have dp : X.A.depth + 3 * k + 5 < recursionLimit := hr.dp
  refine PySem.W.sorted_key_data (b := false) (f := .ref f) (fun b : V × D => PyData.str b.2.shown) hl.isList each (PySem.W.AllAlike.of fun _ _ => rfl) (PySem.W.Sortable.others fun b => ⟨by simp, by simp⟩) ?_ (fun b _ => ?_) (ksk_s1 _ _) (fun _ => ksk_l1 _ _) (fun _ => ksk_t1 _ _) (fun v b ⟨_, as, rd⟩ hb h' tk kp => ?_) (fun out ce h' tk kp fr hD ho eo => ?_)
  · rw [List.length_zip, hdl, Nat.min_self]
    exact hz
  · show X.A.units + 2 + 0 < cLine
    omega
  · obtain ⟨e1, e2, e3⟩ := hds b.2 (mem b hb)
    have kN : (X.mg "repr") = none := hm2
    exact lam_repr (s := { s2 with heap := h', toks := tk }) (A := X.A.in1.in1) (hx pm ctv c') hs hk h1 h2 hxr hxd (by show X.A.depth < _; omega) (show X.A.guards = some [] from hr.gd) (by show X.A.units + 1 + 1 + 100 < cLine; omega)
      ((I2.mod.glob.keeps I2.bk).keeps kp) hm2 ((b1.keeps I2.bk).keeps kp) ((b2 "repr" (by decide)).trans rfl) (I2.nolimit.keeps kp) (kp _ _ hf) (hcd.keeps kp) (Reads.keeps kp rd) e1 e2 e3
  · have rv2 := each_vals (eo.mono fun _ _ z => z.1)
    refine ⟨.ref _, _, I2.laid (t' := tk) (o := .lst (((vs.zip ds).mergeSort fun a b => keyLe a.2 b.2).map Prod.fst)) kp (Nat.le_succ _) ⟨?_, out, ce, rv2, hD⟩, rfl, q2 _ (I2.hok.fresh (Nat.le_succ _))⟩
    rw [List.length_map, List.length_mergeSort, List.length_zip, hdl, Nat.min_self]
    exact hz
end

/-! ### promises of defs that may lay a code object down -/
def ButT (T : List (Addr × Str)) (H H' : Hp) : Prop := ∀ b o, b ∉ T.map Prod.fst → H b = some o → H' b = some o
theorem ButT.of {T : List (Addr × Str)} {H H' : Hp} (h : Same H H') : ButT T H H' := fun b o _ e => h b o e
theorem TbS.not {T : List (Addr × Str)} {Hs H : Hp} (x : TbS T Hs H) {b : Addr} {o : HO} (e : H b = some o) (n : ∀ ps, o ≠ .tbl ps) : b ∉ T.map Prod.fst := fun z => by
  obtain ⟨t, m, rfl⟩ := List.mem_map.mp z
  obtain ⟨_, ps, e1, _⟩ := x t m
  rw [e1] at e
  cases e
  exact n ps rfl
theorem PenK.kp {K : PySem.W.Frag} {k : PKind} {Hs Hs' H H' : Hp} {p c : Addr} {n : Nat} {h : D} (x : PenK K k Hs H p c n h) (st : Same Hs Hs') (hh : ∀ b o, H b = some o → (∀ ps, o ≠ .tbl ps) → H' b = some o) : PenK K k Hs' H' p c n h := by
  cases k with
  | draw =>
    obtain ⟨⟨a, r, e1, z⟩, ⟨ns, e2⟩, ne⟩ := (show Pen H p c n from x)
    exact (show Pen H' p c n from ⟨⟨a, r, hh _ _ e1 (fun ps => by simp), z⟩, ⟨ns, hh _ _ e2 (fun ps => by simp)⟩, ne⟩)
  | obj Cc f fd =>
    obtain ⟨⟨hv, a, z⟩, e, ne, y⟩ := x
    exact ⟨⟨hv, Rp.mono st a, hh _ _ z (fun ps => by simp)⟩, hh _ _ e (fun ps => by simp), ne, fun y' m => Rp.mono st (y y' m)⟩
section
variable {C : Cf} {σ : L2.St} {H0 S0 Hs H Hs' H' : Hp} {s : S}
theorem R.stepT (r : R C H0 S0 Hs σ H s) (st : Same Hs Hs') (sb : Same Hs' H') (hh : ButT C.tb H H') (nw : ∀ b, Hs b = none → Hs' b ≠ none → H b = none) (tb : TbS C.tb Hs' H') : R C H0 S0 Hs' σ H' s ∧ Go C σ Hs H Hs' H' := by
  have kp : ∀ b o, H b = some o → (∀ ps, o ≠ .tbl ps) → H' b = some o := fun b o e n => hh b o (r.tb.1.not e n) e
  have nT : ∀ b, ¬ IsPen C b → b ∉ C.tb.map Prod.fst := fun b n z => n (.inl (.inr z))
  refine ⟨⟨r.len, sb, fun i d e m => ?_, fun i d e m => ?_, r.dead, r.sep, fun p c e => ?_, r.br, r.s0.trans st, fun b o n e => hh _ _ (nT b n) (r.h0 b o n e), fun b e1 e2 => ?_, r.fx, tb, r.tb.2⟩, st, fun b o e _ n => hh _ _ (nT b n) e, fun b o e => ?_, nw⟩
  · obtain ⟨v, e1, e2⟩ := r.slot i d e m
    exact ⟨v, e1, Rp.mono st e2⟩
  · obtain ⟨a, u, e2, e3, e4, e5, e6⟩ := r.mt i d e m
    exact ⟨a, u, e2, kp _ _ e3 (fun ps z => by rw [z] at e5; cases e5), none_of_new nw e4 e3, e5.mono st, e6⟩
  · obtain ⟨e1, e2, e3, e4⟩ := r.pn p c e
    obtain ⟨_, e5⟩ := e2.at_
    exact ⟨e1, e2.kp st kp, none_of_new nw e3 e5, e4⟩
  · cases q : Hs b with
    | some o => exact r.new b e1 (by rw [q]; exact fun z => nomatch z)
    | none => exact (r.free0 (nw b q e2)).1
  · by_cases z : b ∈ C.tb.map Prod.fst
    · obtain ⟨t, m, rfl⟩ := List.mem_map.mp z
      obtain ⟨_, ps, e1, _⟩ := tb t m
      exact ⟨_, e1⟩
    · exact ⟨o, hh b o z e⟩
def spNt (T : List (Addr × Str)) (K : PySem.W.Frag) (n : Nat) (cat : Cat) (F : DF) : Sp := fun vs H Q _ => ∃ Hs ds Q0, Same Hs H ∧ RpAll K Hs vs ds ∧ ds.length = n ∧ TbS T Hs H ∧ F ds Q0 ∧
  ∀ d Hs' H' v, Q0 d → Same Hs Hs' → Same Hs' H' → ButT T H H' → (∀ b, Hs b = none → Hs' b ≠ none → H b = none) → TbS T Hs' H' → RV K H Hs' H' cat v d → Q v H'
theorem sim_callNt {n : Nat} {cat : Cat} {F : DF} {ta : TA} {a : DA} (h : SimA C n ta a) : Sim C cat (tCall (spNt C.tb C.K n cat F) [] E0 ta) (dCall F a) := by
  refine ⟨fun H0 S0 Hs σ H s Q Q' r q k => h.run H0 S0 Hs σ H s _ _ r q fun Hs1 H1 vs ds s1 g1 r1 v1 l1 q1 => ?_⟩
  rw [List.append_nil]
  refine ⟨Hs1, ds, _, r1.sub, v1, l1, r1.tb.1, q1, fun d Hs' H' v q2 st sb hh nw tb rv => ?_⟩
  obtain ⟨r2, g2⟩ := r1.stepT st sb hh nw tb
  exact k Hs' H' v d s1 (g1.trans g2) r2 ((rv.val r1).anew fun a e => g1.back a e) q2
/-- a list or dict handed in to be changed, the tables too -/
def spBt (T : List (Addr × Str)) (K : PySem.W.Frag) (j n : Nat) (F : List D → (D → D → Prop) → Prop) : Sp := fun vs H Q _ => ∃ (Hs : Hp) (ds : List D) (Q0 : D → D → Prop) (p : Addr) (o : HO) (dj : D), Same Hs H ∧ vs[j]? = some (.ref p) ∧ H p = some o ∧ Hs p = none ∧ Cn K Hs o dj ∧ vs.length = n ∧ ds.length = n ∧ ds[j]? = some dj ∧
  (∀ i v d, i ≠ j → vs[i]? = some v → ds[i]? = some d → Rp K Hs v d) ∧ TbS T Hs H ∧ F ds Q0 ∧
  ∀ d dj' Hs' H' v o', Q0 d dj' → Same Hs Hs' → Same Hs' H' → (∀ b o, b ≠ p → b ∉ T.map Prod.fst → H b = some o → H' b = some o) → (∀ b, Hs b = none → Hs' b ≠ none → H b = none) → Hs' p = none → H' p = some o' → Cn K Hs' o' dj' → TbS T Hs' H' → Rp K Hs' v d → Q v H'
theorem R.stepBt {i : Nat} {b : Addr} {dj dj' : D} {o' : HO} (r : R C H0 S0 Hs σ H s) (hi : i ∈ C.M) (es : σ[i]? = some (some (.ref b))) (hd : s.δ[i]? = some (some dj)) (st : Same Hs Hs') (sb : Same Hs' H') (hh : ∀ a o, a ≠ b → a ∉ C.tb.map Prod.fst → H a = some o → H' a = some o) (nw : ∀ b, Hs b = none → Hs' b ≠ none → H b = none) (nb : Hs' b = none) (ho : H' b = some o') (c : Cn C.K Hs' o' dj') (tb : TbS C.tb Hs' H') :
    R C H0 S0 Hs' σ H' { s with δ := s.δ.set i (some dj') } ∧ Go C σ Hs H Hs' H' := by
  classical
  obtain ⟨b0, o0, e1, e2, e3, e4, e5⟩ := r.mt i dj hd hi
  rw [es] at e1
  obtain rfl : b = b0 := by cases e1; rfl
  have bT : b ∉ C.tb.map Prod.fst := r.tb.1.not e2 (fun ps z => by rw [z] at e4; cases e4)
  -- first the tables, then the thing
  let H1 : Hp := fun a => if a = b then H b else H' a
  have h1b : H1 b = H b := if_pos rfl
  have h1n : ∀ a, a ≠ b → H1 a = H' a := fun a n => if_neg n
  have t1 : TbS C.tb Hs' H1 := fun t m => by
    have nb' : t.1 ≠ b := fun z => bT (by rw [← z]; exact List.mem_map_of_mem m)
    obtain ⟨f1, ps, f2, f3⟩ := tb t m
    exact ⟨f1, ps, by rw [h1n _ nb']; exact f2, f3⟩
  have s1 : Same Hs' H1 := fun a o e => by
    have n : a ≠ b := fun z => by rw [z, nb] at e; cases e
    rw [h1n a n]
    exact sb a o e
  obtain ⟨r1, g1⟩ := r.stepT (H' := H1) st s1 (fun a o n e => by
    by_cases z : a = b
    · rw [z, h1b, ← z]; exact e
    · rw [h1n a z]; exact hh a o z n e) nw t1
  obtain ⟨r2, g2⟩ := r1.stepB (Hs' := Hs') (H' := H') hi es hd (Same.refl _) sb (fun a o n e => by rw [h1n a n] at e; exact e) (fun a e1 e2 => absurd e1 e2) nb ho c
  exact ⟨r2, g1.trans g2⟩
theorem sim_callBt {i j n : Nat} {F : List D → (D → D → Prop) → Prop} {ta : TA} {a : DA} (hi : i ∈ C.M) (hj : j < n) (h : SimB C i j n ta a) : Sim C .E (tCall (spBt C.tb C.K j n F) [] E0 ta) (dCallB F i j a) := by
  refine ⟨fun H0 S0 Hs σ H s Q Q' r q k => h.run H0 S0 Hs σ H s _ _ r q fun Hs1 H1 vs ds s1 g1 r1 ⟨b, eb, ev⟩ l1 l2 ap q1 => ?_⟩
  rw [List.append_nil]
  split at q1
  · rename_i dj ej
    obtain ⟨b', o, e1, e2, e3, e4, e5⟩ := r1.mt i dj ej hi
    rw [eb] at e1
    cases e1
    refine ⟨Hs1, ds.set j dj, _, b, o, dj, r1.sub, ev, e2, e3, e4, l1, by rw [List.length_set]; exact l2, by rw [List.getElem?_set_self (by omega)], fun m v d hm e1 e2 => ?_, r1.tb.1, q1, fun d dj' Hs' H' v o' q2 st sb hh nw np ho cn tb rp => ?_⟩
    · rw [List.getElem?_set_ne (Ne.symm hm)] at e2
      exact ap m v d hm e1 e2
    · obtain ⟨r2, g2⟩ := r1.stepBt hi eb ej st sb hh nw np ho cn tb
      exact k Hs' H' v d _ (g1.trans g2) r2 rp q2
  · exact q1.elim
end

/-! ### a list sorted by the texts -/
def sortK (ds : List D) : List D := ds.mergeSort keyLe
def dSortK (t : DT) : DT := fun s Q => t s fun d s1 => match d with
  | .list ds => (∀ d ∈ ds, Sh d ∧ d.showable = true ∧ d.shown.length ≤ sizeLine) ∧ Q (.list (sortK ds)) s1
  | _ => False
theorem zip_snd {α β : Type} : ∀ {xs : List α} {ys : List β}, xs.length = ys.length → (xs.zip ys).map Prod.snd = ys
  | [], [], _ => rfl
  | x :: xs, y :: ys, h => by rw [List.zip_cons_cons, List.map_cons, zip_snd (by simpa using h)]
theorem rp_zip {K : PySem.W.Frag} {H : Hp} : ∀ {xs : List V} {ds : List D}, RpAll K H xs ds → ∀ z ∈ xs.zip ds, Rp K H z.1 z.2
  | _, _, .nil, z, m => nomatch m
  | _, _, .cons a b, z, m => by
    rw [List.zip_cons_cons] at m
    rcases List.mem_cons.mp m with rfl | m
    · exact a
    · exact rp_zip b z m
theorem rp_unzip {K : PySem.W.Frag} {H : Hp} : ∀ {zs : List (V × D)}, (∀ z ∈ zs, Rp K H z.1 z.2) → RpAll K H (zs.map Prod.fst) (zs.map Prod.snd)
  | [], _ => .nil
  | z :: zs, h => .cons (h z (List.mem_cons_self ..)) (rp_unzip fun y m => h y (List.mem_cons_of_mem _ m))
theorem lay_of {ds : List D} (h : ∀ d ∈ ds, Sh d) : PyData.canLayAll0 ds = true := by
  induction ds with
  | nil => rfl
  | cons d ds ih =>
    rw [PyData.canLayAll0, SeqAt.canLay_of_shaped (h d (List.mem_cons_self ..)), ih fun e m => h e (List.mem_cons_of_mem _ m)]
    rfl
section
variable {C : Cf}
theorem R.lamd {σ : L2.St} {H0 S0 Hs H H2 : Hp} {s : S} {P : Addr} {q : Str} {ps : Array Value} (r : R C H0 S0 Hs σ H s) (hT : C.tb = [(P, q)]) (hP : H P = some (.tbl ps)) (hc : ∀ (pos : Pos) (cv : Value), codeAmong pos ps.toList = some cv → ∃ c, cv = .ref c ∧ Hs c = some (CodeO c q)) (hL : Lamd H P q ps H2) :
    ∃ Hs2, R C H0 S0 Hs2 σ H2 s ∧ Go C σ Hs H Hs2 H2 := by
  rcases hL with rfl | ⟨c', ps', nC, nP, rfl, ht, hw⟩
  · exact ⟨Hs, r, Go.refl⟩
  obtain ⟨f0, f1, _, _⟩ := r.free0 nC
  have nHs : Hs P = none := (r.tb.1 (P, q) (by rw [hT]; simp)).1
  have sm : Same Hs (L2.upd Hs c' (CodeO c' q)) := same_upd f1
  have hb : ∀ b o, b ≠ P → H b = some o → L2.upd (L2.upd H P (.tbl ps')) c' (CodeO c' q) b = some o := fun b o n e => by
    rw [upd_ne (ne_of_none e nC), upd_ne n]
    exact e
  refine ⟨_, r.stepT sm (fun b o e => ?_) (fun b o n e => hb b o (fun z => n (by rw [hT, z]; simp)) e) (fun b e1 e2 => ?_) ?_⟩
  · by_cases z : b = c'
    · rw [z, upd_same] at e ⊢
      exact e
    · rw [upd_ne z] at e
      exact hb b o (fun z => by rw [z, nHs] at e; cases e) (r.sub _ _ e)
  · by_cases z : b = c'
    · rw [z]; exact nC
    · rw [upd_ne z] at e2
      exact absurd e1 e2
  · rw [hT]
    intro t m
    rw [List.mem_singleton.mp m]
    refine ⟨by rw [upd_ne (Ne.symm nP)]; exact nHs, ps', by rw [upd_ne (Ne.symm nP), upd_same], ht, fun pos cv h => ?_⟩
    rcases hw pos cv h with h | h
    · obtain ⟨c, e1, e2⟩ := hc pos cv h
      exact ⟨c, e1, sm _ _ e2⟩
    · exact ⟨c', h, upd_same⟩
theorem sim_sortK {P : Addr} {qn : Str} {ca : Cat} {te : TE} {t : DT} (hT : C.tb = [(P, qn)]) (h : Sim C ca te t) : Sim C .F (tSortK C.K P qn te) (dSortK t) := by
  refine ⟨fun H0 S0 Hs σ H s Q Q' r q k => h.run H0 S0 Hs σ H s _ _ r q fun Hs1 H1 v d s1 g1 r1 v1 q1 => ?_⟩
  cases d <;> first | exact q1.elim | skip
  rename_i ds
  obtain ⟨hds, q1⟩ := q1
  obtain ⟨nP, ps, e1, e2, e3⟩ := r1.tb.1 (P, qn) (by rw [hT]; simp)
  refine ⟨v, rfl, ps, e1, ⟨e2, fun pos cv hc => ?_⟩, fun H2 hL => ?_⟩
  · obtain ⟨c, f1, f2⟩ := e3 pos cv hc
    exact ⟨c, f1, r1.sub _ _ f2⟩
  obtain ⟨Hs2, r2, g2⟩ := r1.lamd hT e1 e3 hL
  obtain ⟨a, xs, rfl, ea, rx⟩ := Rd'.list ((v1.go r1 g2).rd r2.sub)
  refine ⟨a, xs, ds, rfl, SqL.of ea, DpAll_same r2.sub (RpAll.dp ds rx (lay_of fun d m => (hds d m).1)), hds, fun p np => ?_⟩
  have es : ((xs.zip ds).mergeSort fun a b => keyLe a.2 b.2).map Prod.snd = sortK ds := by
    rw [List.map_mergeSort (s := keyLe) (fun a _ b _ => rfl), zip_snd rx.len]
    rfl
  have rz : RpAll C.K Hs2 (((xs.zip ds).mergeSort fun a b => keyLe a.2 b.2).map Prod.fst) (sortK ds) := by
    rw [← es]
    exact rp_unzip fun z m => rp_zip rx z ((List.mergeSort_perm ..).mem_iff.mp m)
  exact k Hs2 _ _ (.list (sortK ds)) s1 (g1.trans (g2.trans (Go.laid np))) (r2.laid np) ((r2.newList np rz).anew fun a e => (g1.trans g2).back a e) q1
end

/-! ### such promises are made by the body -/
section
variable {P : Program} {w : World} {K : PySem.W.Frag} {mg : Str → Option Value} {base : Heap}
/-- a def whose code object is known -/
def DfT (K : PySem.W.Frag) (mg : Str → Option Value) (x : Str) (st : Stmt) (ps : List Str) (c : Addr) : Prop := ∃ (f : Addr) (fd : FuncData), Fun K x x st f fd ∧ Binds K fd ps [] ∧ mg x = some (.ref f) ∧ fd.code = .ref c
theorem DfT.of {h : Heap} {x : Str} {st : Stmt} {ps : List Str} {c Q : Addr} (X : K.In h) (G : h.Ns mainGlobals mg) (D' : Df K mg x st ps) (ht : PySem.W.tabIn K x = some (c, Q)) : DfT K mg x st ps c := by
  obtain ⟨f, fd, F, b, g⟩ := D'
  refine ⟨f, fd, F, b, g, ?_⟩
  obtain ⟨oc, od, kV, doc, pm, an, cdv, ct, osl, rfl, lk, hcd⟩ := F.ex
  unfold PySem.W.tabIn at ht
  split at ht
  · rename_i f' hf
    have e1 := PySem.W.mg_of X G hf
    rw [g] at e1
    cases e1
    rw [lk] at ht
    dsimp only at ht
    split at ht
    · split at ht
      · split at ht
        · cases ht
          rfl
        · cases ht
      · cases ht
    · cases ht
  · cases ht
/-- a def by its body, its code object known -/
theorem Fun.okC {x q : Str} {st : Stmt} {f : Addr} {fd : FuncData} {N ps : List Str} {k : Nat} {sp : Sp} (F : Fun K x q st f fd) (S : FnScope N ps (defScope st)) (len : ∀ vs H Q E, sp vs H Q E → vs.length = ps.length)
    (hbody : ∀ (cdv : Value) (A : Around) (fs : List Env) (s : Shared) (H : Hp) (vs : List V) (Q : VK) (E : XK), fd.code = cdv → Rm k (A.deeper (envOfC q (defScope st) s.heap.objs.size f cdv)) → sp vs H Q E →
      ∃ t, PSs (cxOf CX0 P w K mg base N q (defScope st) f cdv A fs s H E).nox (defBody st) t ∧ t { nx := fun _ H' => Q .non H', rt := Q } (L2.start N vs) H) : FnG P w K mg base (k + 1) f fd ps sp := by
  obtain ⟨oc, od, kV, doc, pm, an, cdv, ct, osl, rfl, lk, hcd⟩ := F.ex
  refine ⟨len, fun A fs s H ar us vs Q E hr hg e0 hb rv hsp => ?_⟩
  have inB : ∀ b o, base.get? b = some o → s.heap.get? b = some o := fun b o z => (e0.bs b o z).1
  have kin : K.In s.heap := e0.mod.kin.keeps inB
  refine codeAny_call_function hr.depth (kin _ _ lk) rfl S.co S.gen rfl (PySem.W.codeRec_of kin hcd) (hb _ _ _ _ (wpAny_newFunctionEnv_cells S.kind (fun y hy => ?_) fun env he s1 x => ?_))
  · exact (S.par y.1 (List.of_mem_zip (a := y.1) (b := y.2) hy).1).imp_right fun z => ⟨z, PySem.W.cellsFrom_some _ _ _ (.inl z)⟩
  subst he
  refine ⟨(e0.mod.nolimit.keeps inB).keeps x.toInCall.keep, codeAny_func ?_⟩
  obtain ⟨t, ht, hq⟩ := hbody cdv A fs s H vs Q E rfl ⟨hr.deeper _, hg⟩ hsp
  refine wpAny_mono (ht.nox.run [] s1 (L2.start N vs) H _ (inv_start (CX := CX0) (E := E) S hr.hd e0 (len _ _ _ _ hsp) rv x) hq) (fun fl s' hs => ?_) (fun _ _ z => z)
  match fl, hs with
  | .ret u, ⟨v, σ', H', J, r', q'⟩ => exact ⟨v, H', J.os, J.bare, J.base, J.hok, r', q'⟩
  | .next, ⟨σ', H', J, q'⟩ => exact ⟨V.non, H', J.os, J.bare, J.base, J.hok, rfl, q'⟩
  | .brk, hs => exact (hs.elim fun _ z => z.elim fun _ z => z.2.elim)
  | .cont, hs => exact (hs.elim fun _ z => z.elim fun _ z => z.2.elim)
/-- how R begins in a def without a pen -/
theorem R.beginT {T : List (Addr × Str)} {N : List Str} {n : Nat} {M : List Nat} {Hs H : Hp} {vs : List V} {ds : List D} (h1 : Same Hs H) (h2 : RpAll K Hs vs ds) (h3 : ds.length = n) (hM : ∀ i ∈ M, n ≤ i ∧ i < N.length) (hT : TbS T Hs H) :
    R { K := K, pen := none, ps := 1000, M := M, tb := T } H Hs Hs (L2.start N vs) H { δ := start' N.length ds, n := 0 } := by
  obtain ⟨sl, ss⟩ := start_slot N h2
  have nn : ∀ i, i ∈ M → (L2.start N vs)[i]? = some none := fun i m => start_none N (by rw [h2.len, h3]; exact (hM i m).1) (hM i m).2
  refine ⟨sl, h1, fun i dd e m => ss i dd e, fun i dd e m => ?_, fun i m e => nn i m, fun i j a m1 m2 e1 e2 => ?_, fun p c e => (nomatch e), fun b hb => (nomatch hb), Same.refl _, fun b o _ e => e, fun b e1 e2 => absurd e1 e2, fun y m => (nomatch m), hT, fun t m => ?_⟩
  · obtain ⟨v, e1, _⟩ := ss i dd e
    rw [nn i m] at e1
    cases e1
  · rw [nn i m1] at e1
    cases e1
  · obtain ⟨_, ps, e, _⟩ := hT t m
    rw [e]
    simp
theorem notPenT {T : List (Addr × Str)} {M : List Nat} {b : Addr} (h : b ∉ T.map Prod.fst) : ¬ IsPen { K := K, pen := none, ps := 1000, M := M, tb := T } b := fun z => z.elim (fun z => z.elim (fun ⟨_, z⟩ => nomatch z) h) (fun z => nomatch z)
theorem Fn.ofNtCE {T : List (Addr × Str)} {x : Str} {st : Stmt} {f0 : Addr} {fd0 : FuncData} {N ps : List Str} {k n : Nat} {cat : Cat} {M : List Nat} {F : DF} (D' : Fun K x x st f0 fd0) (S' : FnScope N ps (defScope st)) (hn : ps.length = n) (hM : ∀ i ∈ M, n ≤ i ∧ i < N.length)
    (hbody : ∀ (f : Addr) (cdv : Value) (A : Around) (outer : List Env) (s : Shared) (H : Hp) (E : XK), fd0.code = cdv → Rm k (A.deeper (envOfC x (defScope st) s.heap.objs.size f cdv)) →
      ∃ t d, PSs (cxOf CX0 P w K mg base N x (defScope st) f cdv A outer s H E).nox (defBody st) t ∧ SimE { K := K, pen := none, ps := 1000, M := M, tb := T } cat t d ∧ ∀ ds (Q : D → Prop), ds.length = n → F ds Q → d { nx := fun _ => Q .none, rt := fun z _ => Q z } { δ := start' N.length ds, n := 0 }) :
    FnG P w K mg base (k + 1) f0 fd0 ps (spNt T K n cat F) := by
  refine Fun.okC D' S' (fun vs H Q E h => ?_) (fun cdv A outer s H vs Q E hc hr h => ?_)
  · obtain ⟨Hs, ds, Q0, _, h2, h3, _⟩ := h
    rw [h2.len, h3, hn]
  obtain ⟨Hs, ds, Q0, h1, h2, h3, hT, h4, h5⟩ := h
  obtain ⟨t, d, ht, hs, hd⟩ := hbody f0 cdv A outer s H E hc hr
  refine ⟨t, ht, ?_⟩
  refine hs.run H Hs Hs (L2.start N vs) H _ { nx := fun _ => Q0 .none, rt := fun z _ => Q0 z } _ (R.beginT h1 h2 h3 hM hT) (hd ds Q0 h3 h4) (fun M' Hs' σ' H' s' r q => ?_) (fun M' Hs' σ' H' s' v dd r rv q => ?_) (fun _ _ _ _ _ q => q.elim) (fun _ _ _ _ _ q => q.elim) (fun _ _ _ _ _ _ q => q.elim)
  · exact h5 .none Hs' H' .non q r.s0 r.sub (fun b o nb e => r.h0 b o (notPenT nb) e) r.new r.tb.1 (rvNon cat)
  · exact h5 dd Hs' H' v q r.s0 r.sub (fun b o nb e => r.h0 b o (notPenT nb) e) r.new r.tb.1 rv
theorem Ok.ofNtE {T : List (Addr × Str)} {x : Str} {st : Stmt} {N ps : List Str} {k n : Nat} {cat : Cat} {M : List Nat} {F : DF} (D' : Df K mg x st ps) (S' : FnScope N ps (defScope st)) (hn : ps.length = n) (hM : ∀ i ∈ M, n ≤ i ∧ i < N.length)
    (hbody : ∀ (f : Addr) (cdv : Value) (A : Around) (outer : List Env) (s : Shared) (H : Hp) (E : XK), Rm k (A.deeper (envOfC x (defScope st) s.heap.objs.size f cdv)) →
      ∃ t d, PSs (cxOf CX0 P w K mg base N x (defScope st) f cdv A outer s H E).nox (defBody st) t ∧ SimE { K := K, pen := none, ps := 1000, M := M, tb := T } cat t d ∧ ∀ ds (Q : D → Prop), ds.length = n → F ds Q → d { nx := fun _ => Q .none, rt := fun z _ => Q z } { δ := start' N.length ds, n := 0 }) :
    Ok P w K mg base (k + 1) x ps (spNt T K n cat F) := by
  obtain ⟨f, fd, F', b, g⟩ := D'
  exact ⟨f, fd, g, F'.kp, b, Fn.ofNtCE F' S' hn hM fun f cdv A outer s H E _ hr => hbody f cdv A outer s H E hr⟩
theorem Ok.ofNtCE {T : List (Addr × Str)} {x : Str} {st : Stmt} {c : Addr} {N ps : List Str} {k n : Nat} {cat : Cat} {M : List Nat} {F : DF} (D' : DfT K mg x st ps c) (S' : FnScope N ps (defScope st)) (hn : ps.length = n) (hM : ∀ i ∈ M, n ≤ i ∧ i < N.length)
    (hbody : ∀ (f : Addr) (A : Around) (outer : List Env) (s : Shared) (H : Hp) (E : XK), Rm k (A.deeper (envOfC x (defScope st) s.heap.objs.size f (.ref c))) →
      ∃ t d, PSs (cxOf CX0 P w K mg base N x (defScope st) f (.ref c) A outer s H E).nox (defBody st) t ∧ SimE { K := K, pen := none, ps := 1000, M := M, tb := T } cat t d ∧ ∀ ds (Q : D → Prop), ds.length = n → F ds Q → d { nx := fun _ => Q .none, rt := fun z _ => Q z } { δ := start' N.length ds, n := 0 }) :
    Ok P w K mg base (k + 1) x ps (spNt T K n cat F) := by
  obtain ⟨f, fd, F', b, g, hc⟩ := D'
  exact ⟨f, fd, g, F'.kp, b, Fn.ofNtCE F' S' hn hM fun f cdv A outer s H E e hr => by
    rw [hc] at e
    subst e
    exact hbody f A outer s H E hr⟩
theorem Ok.ofNt {T : List (Addr × Str)} {x : Str} {st : Stmt} {N ps : List Str} {k n : Nat} {cat : Cat} {M : List Nat} {F : DF} (D' : Df K mg x st ps) (S' : FnScope N ps (defScope st)) (hn : ps.length = n) (hM : ∀ i ∈ M, n ≤ i ∧ i < N.length)
    (hbody : ∀ (f : Addr) (cdv : Value) (A : Around) (outer : List Env) (s : Shared) (H : Hp) (E : XK), Rm k (A.deeper (envOfC x (defScope st) s.heap.objs.size f cdv)) →
      ∃ t d, PSs (cxOf CX0 P w K mg base N x (defScope st) f cdv A outer s H E).nox (defBody st) t ∧ SimS { K := K, pen := none, ps := 1000, M := M, tb := T } cat t d ∧ ∀ ds (Q : D → Prop), ds.length = n → F ds Q → d { nx := fun _ => Q .none, rt := fun z _ => Q z } { δ := start' N.length ds, n := 0 }) :
    Ok P w K mg base (k + 1) x ps (spNt T K n cat F) :=
  Ok.ofNtE D' S' hn hM fun f cdv A outer s H E hr => by
    obtain ⟨t, d, h1, h2, h3⟩ := hbody f cdv A outer s H E hr
    exact ⟨t, d, h1, h2.e, h3⟩
theorem spNt_no {T : List (Addr × Str)} {n : Nat} {cat : Cat} {F : DF} (h : ∀ ds Q, F ds Q → False) : ∀ vs H Q E, spNt T K n cat F vs H Q E → False := fun vs H Q E ⟨_, _, _, _, _, _, _, f, _⟩ => h _ _ f
theorem spBt_no {T : List (Addr × Str)} {j n : Nat} {F : List D → (D → D → Prop) → Prop} (h : ∀ ds Q, F ds Q → False) : ∀ vs H Q E, spBt T K j n F vs H Q E → False := fun vs H Q E ⟨_, _, _, _, _, _, _, _, _, _, _, _, _, _, _, _, f, _⟩ => h _ _ f
/-- a def that changes the list or dict handed in at j, and the tables -/
theorem Ok.ofBt {T : List (Addr × Str)} {x : Str} {st : Stmt} {N ps : List Str} {k j n : Nat} {M : List Nat} {F : List D → (D → D → Prop) → Prop} (D' : Df K mg x st ps) (S' : FnScope N ps (defScope st)) (hn : ps.length = n) (hj : j < n) (hM : ∀ i ∈ M, n ≤ i ∧ i < N.length)
    (hbody : ∀ (f : Addr) (cdv : Value) (A : Around) (outer : List Env) (s : Shared) (H : Hp) (E : XK) (p : Addr), Rm k (A.deeper (envOfC x (defScope st) s.heap.objs.size f cdv)) →
      ∃ t d, PSs (cxOf CX0 P w K mg base N x (defScope st) f cdv A outer s H E).nox (defBody st) t ∧ SimS { K := K, pen := none, ps := 1000, M := j :: M, bor := [p], bs := [j], tb := T } .E t d ∧ ∀ ds (Q : D → D → Prop), ds.length = n → F ds Q →
        d { nx := fun s => ∀ dj, s.δ[j]? = some (some dj) → Q .none dj, rt := fun z s => ∀ dj, s.δ[j]? = some (some dj) → Q z dj } { δ := start' N.length ds, n := 0 }) :
    Ok P w K mg base (k + 1) x ps (spBt T K j n F) := by
  obtain ⟨f0, fd0, F', b0, g0⟩ := D'
  refine ⟨f0, fd0, g0, F'.kp, b0, Fun.okC F' S' (fun vs H Q E h => ?_) (fun cdv A outer s H vs Q E _ hr h => ?_)⟩
  · obtain ⟨Hs, ds, Q0, p, o, dj, _, _, _, _, _, h2, _⟩ := h
    rw [h2, hn]
  obtain ⟨Hs, ds, Q0, p, o, dj, h1, ep, eo, np, cn, l1, l2, ej, rp, hT, hF, h5⟩ := h
  obtain ⟨t, d, ht, hs, hd⟩ := hbody f0 cdv A outer s H E p hr
  refine ⟨t, ht, ?_⟩
  obtain ⟨sl, ss⟩ := RpSlots (K := K) (H := Hs) (p := p) N j (by rw [l1, l2]) rp
  have sj : (L2.start N vs)[j]? = some (some (.ref p)) := by
    unfold L2.start
    rw [List.getElem?_append_left (by rw [List.length_map, l1]; exact hj), List.getElem?_map, ep]
    rfl
  have dj0 : (start' N.length ds)[j]? = some (some dj) := by
    unfold start'
    rw [List.getElem?_append_left (by rw [List.length_map, l2]; exact hj), List.getElem?_map, ej]
    rfl
  have nn : ∀ i, i ∈ M → (L2.start N vs)[i]? = some none := fun i m => start_none N (by rw [l1]; exact (hM i m).1) (hM i m).2
  have fin : ∀ (Hs' : Hp) (σ' : L2.St) (H' : Hp) (s' : S) (v : V) (z : D), R { K := K, pen := none, ps := 1000, M := j :: M, bor := [p], bs := [j], tb := T } H Hs Hs' σ' H' s' → Rp K Hs' v z → (∀ dj, s'.δ[j]? = some (some dj) → Q0 z dj) → Q v H' := by
    intro Hs' σ' H' s' v z r rz q
    obtain ⟨⟨i, hib, him, hip⟩, _⟩ := r.br p (List.mem_singleton.mpr rfl)
    obtain rfl : i = j := List.mem_singleton.mp hib
    have il : i < s'.δ.length := by rw [← r.len]; exact (List.getElem?_eq_some_iff.mp hip).1
    rcases e : s'.δ[i]'il with _ | dj'
    · have := r.dead i him (by rw [List.getElem?_eq_getElem il, e])
      rw [hip] at this
      cases this
    · have e' : s'.δ[i]? = some (some dj') := by rw [List.getElem?_eq_getElem il, e]
      obtain ⟨a, o', f1, f2, f3, f4, _⟩ := r.mt i dj' e' him
      rw [hip] at f1
      cases f1
      refine h5 z dj' Hs' H' v o' (q dj' e') r.s0 r.sub (fun b u nb nt eb => r.h0 b u (fun z => ?_) eb) r.new f3 f2 f4 r.tb.1 rz
      rcases z with (⟨c, z⟩ | z) | z
      · cases z
      · exact nt z
      · exact nb (List.mem_singleton.mp z)
  refine hs.run H Hs Hs (L2.start N vs) H _ { nx := fun s => ∀ dj, s.δ[j]? = some (some dj) → Q0 .none dj, rt := fun z s => ∀ dj, s.δ[j]? = some (some dj) → Q0 z dj } _ ?_ (hd ds Q0 l2 hF) ⟨fun Hs' σ' H' s' r q => fin Hs' σ' H' s' .non .none r .non q, fun Hs' σ' H' s' v z r rv q => fin Hs' σ' H' s' v z r rv q, fun _ _ _ _ _ q => q.elim, fun _ _ _ _ _ q => q.elim, fun _ _ _ _ _ q => q.elim⟩
  refine ⟨sl, h1, fun i dd e m => ss i dd (fun z => m (by rw [z]; exact List.mem_cons_self ..)) e, fun i dd e m => ?_, fun i m e => ?_, fun i i2 a m1 m2 e1 e2 => ?_, fun p c e => (nomatch e), fun b hb => ?_, Same.refl _, fun b o _ e => e, fun b e1 e2 => absurd e1 e2, fun y m => (nomatch m), hT, fun t m => ?_⟩
  · rcases List.mem_cons.mp m with rfl | m
    · rw [dj0] at e
      cases e
      exact ⟨p, o, sj, eo, np, cn, .inr (List.mem_singleton.mpr rfl)⟩
    · exfalso
      have hh := (hM i m)
      have : (start' N.length ds)[i]? = some none := by
        unfold start'
        rw [List.getElem?_append_right (by rw [List.length_map, l2]; exact hh.1), List.getElem?_replicate, if_pos (by rw [List.length_map]; omega)]
      rw [this] at e
      cases e
  · rcases List.mem_cons.mp m with rfl | m
    · rw [dj0] at e
      cases e
    · exact nn i m
  · rcases List.mem_cons.mp m1 with rfl | m1
    · rcases List.mem_cons.mp m2 with rfl | m2
      · rfl
      · rw [nn i2 m2] at e2; cases e2
    · rw [nn i m1] at e1; cases e1
  · obtain rfl : b = p := List.mem_singleton.mp hb
    exact ⟨⟨j, List.mem_singleton.mpr rfl, List.mem_cons_self .., sj⟩, by rw [eo]; simp⟩
  · obtain ⟨_, ps, e, _⟩ := hT t m
    rw [e]
    simp
/-! ### the law -/
def spLawT (T : List (Addr × Str)) (K : PySem.W.Frag) : Sp := fun vs H Q _ => ∃ (a : Addr) (ns : List Int), vs = [.ref a] ∧ SqL K H a (ns.map V.int) ∧ ns.length ≤ 63 ∧ (∀ t ∈ T, H t.1 = some (.tbl #[])) ∧ ∀ H', Q (.bl true) H'
theorem Ok.ofLawT {T : List (Addr × Str)} {st : Stmt} {fa : Addr} {fda : FuncData} {N0 N1 : Str} {N' : List Str} {k : Nat} {M : List Nat} (F : Fun K "law" "law" st fa fda) (S' : FnScope (N0 :: N1 :: N') ["_law_script"] (defScope st)) (hM : ∀ i ∈ M, 2 ≤ i ∧ i < N'.length + 2)
    (hbody : ∀ (f : Addr) (cdv : Value) (A : Around) (outer : List Env) (s : Shared) (H : Hp) (E : XK), Rm k (A.deeper (envOfC "law" (defScope st) s.heap.objs.size f cdv)) →
      ∃ t, PSs (cxOf CX0 P w K mg base (N0 :: N1 :: N') "law" (defScope st) f cdv A outer s H E).nox (defBody st) (tSeq (tAsg (tCall (spOpen K) [] E0 (tCons (tVar 0) tNil)) (gName 1)) t) ∧
        ∀ p c a xs, ∃ d, SimS { K := K, pen := some (p, c), ps := 1, M := M, fx := [(0, .ref a, some xs)], tb := T } .E t d ∧ d { nx := fun _ => False, rt := fun z _ => z = .bool true } { δ := none :: none :: List.replicate N'.length none, n := 0 }) :
    FnG P w K mg base (k + 1) fa fda ["_law_script"] (spLawT T K) := by
  refine Fun.okC F S' (fun vs H Q E h => ?_) (fun cdv A outer s H vs Q E _ hr h => ?_)
  · obtain ⟨a, ns, rfl, _⟩ := h; rfl
  obtain ⟨a, ns, rfl, hS, hl, hT, q⟩ := h
  obtain ⟨t, ht, hs⟩ := hbody fa cdv A outer s H E hr
  refine ⟨_, ht, ?_⟩
  refine ⟨_, rfl, a, ns, rfl, hS, hl, fun p c H1 sm np nc pe => ?_⟩
  obtain ⟨d, sd, hd⟩ := hs p c a (ns.map V.int)
  obtain ⟨a0, r0, ep, _⟩ := pe.pen
  obtain ⟨nn, ec⟩ := pe.cells
  have es : (L2.start (N0 :: N1 :: N') [V.ref a]).set 1 (some (.ref p)) = some (.ref a) :: some (.ref p) :: List.replicate N'.length none := by
    unfold L2.start
    rfl
  show t _ ((L2.start (N0 :: N1 :: N') [V.ref a]).set 1 (some (.ref p))) H1
  rw [es]
  have gn : ∀ i, i ∈ M → (some (V.ref a) :: some (V.ref p) :: List.replicate N'.length (none : Option V))[i]? = some none := fun i m => by
    have := hM i m
    obtain ⟨j, rfl⟩ : ∃ j, i = j + 2 := ⟨i - 2, by omega⟩
    show (List.replicate N'.length none)[j]? = some none
    rw [List.getElem?_replicate, if_pos (by omega)]
  have none' : ∀ (i : Nat) (dd : D), (none :: none :: List.replicate N'.length (none : Option D))[i]? = some (some dd) → False := fun i dd e => by
    match i, e with
    | j + 2, e =>
      have e : (List.replicate N'.length (none : Option D))[j]? = some (some dd) := e
      rw [List.getElem?_replicate] at e
      split at e <;> cases e
  refine sd.run H1 (fun _ => none) (fun _ => none) _ H1 _ _ _ ?_ hd ⟨fun Hs' σ' H' s' r q => q.elim, fun Hs' σ' H' s' v dd r rv e => ?_, fun _ _ _ _ _ q => q.elim, fun _ _ _ _ _ q => q.elim, fun _ _ _ _ _ q => q.elim⟩
  · refine ⟨(by simp), (fun b o e => nomatch e), fun i dd e _ => (none' i dd e).elim, fun i dd e m => (none' i dd e).elim, fun i m e => gn i m, fun i j x m1 m2 e1 e2 => ?_, fun p' c' e => ?_, fun b hb => (nomatch hb), Same.refl _, fun b o _ e => e, fun b e1 e2 => absurd e1 e2, fun y m => ?_, fun t m => ?_, fun t m => ?_⟩
    · rw [gn i m1] at e1
      cases e1
    · cases e
      exact ⟨rfl, pe, rfl, (by rw [ep]; simp), (by rw [ec]; simp), rfl, fun z => absurd (hM 1 z).1 (by omega), fun z => (nomatch z), fun z => (nomatch z)⟩
    · obtain rfl := List.mem_singleton.mp m
      refine ⟨rfl, fun z => absurd (hM 0 z).1 (by omega), fun xs e => ⟨a, rfl, ?_, fun h => ?_⟩⟩
      · cases e
        rcases hS with h | h
        · exact .inl (rd_same sm h)
        · exact .inr h
      · cases e
        rintro ((⟨c', z⟩ | z) | z)
        · have z : some (p, c) = some (a, c') := z
          cases z
          rcases h with h | ⟨o, h⟩
          · rw [ep] at h
            cases ns <;> cases h
          · rw [ep] at h
            cases h
        · obtain ⟨t, m', e⟩ := List.mem_map.mp z
          have e1 := sm _ _ (hT t m')
          rw [e] at e1
          rcases h with h | ⟨o, h⟩ <;> · rw [e1] at h; cases h
        · cases z
    · refine ⟨rfl, #[], sm _ _ (hT t m), True.intro, fun pos cv z => ?_⟩
      have z : codeAmong pos [] = some cv := z
      simp [codeAmong] at z
    · rw [sm _ _ (hT t m)]
      simp
  · have e' : dd = .bool true := e
    subst e'
    have rv' : Rp K Hs' v (.bool true) := rv
    cases rv'
    exact q H'
end

/-! ### the law's call, a table of code objects told -/
theorem lawGT {P : Program} {w : World} {K : PySem.W.Frag} {mg mb : Str → Option Value} {k : Nat} {fa a c Q : Addr} {fd : FuncData} {x : Str} {sp : Sp} {s1 : Shared} {vs : List Value} {ns : List Int}
    (KX : K.In s1.heap) (g1 : s1.heap.Ns mainGlobals mg) (g2 : s1.heap.Ns builtinsNs mb) (g3 : ∀ x : Str, x ≠ "__name__" → mb x = bootBuiltins x) (g4 : s1.heap.NoLimit) (g5 : s1.gens = #[])
    (tQ : s1.heap.get? Q = some (PySem.W.tabObj #[])) (nQ : K.lookup Q = none) (cQ : PySem.W.CodeHd s1.heap c Q)
    (hbm : ∃ (bm : Addr) (ob : Obj), mg "__builtins__" = some (.ref bm) ∧ bm ≠ builtinsNs ∧ s1.heap.get? bm = some ob ∧ ob.cls = .type "module" ∧ ob.dict = some builtinsNs ∧ ob.data = .plain)
    (ha : s1.heap.get? a = some { cls := .type "list", data := .seq vs.toArray }) (hi : IntsAre vs ns) (hl : ns.length ≤ sizeLine) (hr : Room k callerA)
    (F : ∀ base : Heap, K.In base → base.Ns mainGlobals mg → LamX.TabB base mg c Q → FnG P w K mg base k fa fd [x] sp) (bi : ∀ (s : Shared) (u : Value), BindsTo s fd ⟨[u], []⟩ [(x, u)])
    (hsp : ∀ H : Hp, H Q = some (.tbl #[]) → SqL K H a (ns.map V.int) → sp [.ref a] H (fun v _ => v = .bl true) fun _ _ _ => False) :
    codeAny (model P w) callerA (.call (.ref fa) ⟨[.ref a], []⟩) (fun r s' => r = .ok (.ret (.bool true)) ∧ OldK s1.heap s'.heap ∧ s'.os = s1.os ∧ AllBare s'.gens) s1 := by
  have rv := vals_ints hi
  have lv := hi.length
  have aQ : a ≠ Q := fun z => by
    rw [z, tQ] at ha
    have z' : Data.fields #[] = Data.seq vs.toArray _ := congrArg Obj.data (Option.some.inj ha)
    cases z'
  suffices core : ∀ H : Hp, H Q = some (.tbl #[]) → (∀ b, b ≠ Q → H b = none ∨ ∃ o xs, H b = some (.frz o (.lst xs))) → SqL K H a (ns.map V.int) → HOk P w H s1.heap → (∀ b, H b ≠ none → b = a ∨ b = Q) → (H a ≠ none → K.lookup a = none) →
      codeAny (model P w) callerA (.call (.ref fa) ⟨[.ref a], []⟩) (fun r s' => r = .ok (.ret (.bool true)) ∧ OldK s1.heap s'.heap ∧ s'.os = s1.os ∧ AllBare s'.gens) s1 by
    rcases hk : K.lookup a with _ | o
    · let H1 : Hp := fun b => if b = a then some (.frz { cls := .type "list", data := .seq vs.toArray } (.lst (ns.map V.int))) else if b = Q then some (.tbl #[]) else none
      have ha1 : H1 a = some (.frz { cls := .type "list", data := .seq vs.toArray } (.lst (ns.map V.int))) := if_pos rfl
      have hQ1 : H1 Q = some (.tbl #[]) := (if_neg (Ne.symm aQ)).trans (if_pos rfl)
      have hn : ∀ b, b ≠ a → b ≠ Q → H1 b = none := fun b n1 n2 => (if_neg n1).trans (if_neg n2)
      refine core H1 hQ1 (fun b n => ?_) (.inl (.inr ⟨_, ha1⟩)) (fun b u z => ?_) (fun b z => ?_) (fun _ => hk)
      · rcases Classical.em (b = a) with rfl | n1
        · exact .inr ⟨_, _, ha1⟩
        · exact .inl (hn b n1 n)
      · rcases Classical.em (b = a) with rfl | n1
        · rw [ha1] at z
          cases z
          exact ⟨ha, by rw [List.length_map]; exact hl, vs, _, rv, ha⟩
        · rcases Classical.em (b = Q) with rfl | n2
          · rw [hQ1] at z
            cases z
            exact tQ
          · rw [hn b n1 n2] at z
            cases z
      · exact Classical.byContradiction fun n => z (hn b (fun z => n (.inl z)) (fun z => n (.inr z)))
    · have e := KX a o hk
      rw [ha] at e
      cases e
      let H1 : Hp := fun b => if b = Q then some (.tbl #[]) else none
      have hQ1 : H1 Q = some (.tbl #[]) := if_pos rfl
      have hn : ∀ b, b ≠ Q → H1 b = none := fun b n => if_neg n
      refine core H1 hQ1 (fun b n => .inl (hn b n)) (.inr ⟨_, vs.toArray, _, hk, rfl, rfl, rfl, by rw [List.size_toArray, lv]; exact hl, by simpa using rv⟩) (fun b u z => ?_) (fun b z => .inr (Classical.byContradiction fun n => z (hn b n))) (fun z => absurd (hn a aQ) z)
      rcases Classical.em (b = Q) with rfl | n2
      · rw [hQ1] at z
        cases z
        exact tQ
      · rw [hn b n2] at z
        cases z
  intro H hQ hO hS hok hA hK
  have free : ∀ {b : Addr}, b ≠ a → b ≠ Q → H b = none := fun {b} n1 n2 => Classical.byContradiction fun z => (hA b z).elim n1 n2
  -- what is neither a list nor a table's object is not tracked
  have other : ∀ {b : Addr} {o : Obj}, s1.heap.get? b = some o → (∀ vs n, o.data ≠ .seq vs n) → o ≠ PySem.W.tabObj #[] → H b = none := fun {b o} z d1 d2 => free (fun y => by
    subst y
    rw [ha] at z
    cases z
    exact d1 _ _ rfl) (fun y => by
    subst y
    rw [tQ] at z
    cases z
    exact d2 rfl)
  have nodict : ∀ {b : Addr} {o : Obj} {es : Array DictEntry} {ep : Nat}, s1.heap.get? b = some o → o.data = .dict es ep → H b = none := fun {b o es ep} z d => other z (fun vs n y => by rw [d] at y; cases y) (fun y => by rw [y] at d; cases d)
  have ns' : ∀ {b : Addr} {m : Str → Option Value}, s1.heap.Ns b m → (hidT s1.heap H).Ns b m := fun ⟨o, es, ep, z, d, r⟩ => ⟨o, es, ep, hidT_get z (nodict z d), d, r⟩
  have kin : K.In (hidT s1.heap H) := fun b o z => hidT_get (KX b o z) (Classical.byContradiction fun y => by
    rcases hA b y with e | e
    · subst e
      rw [hK y] at z
      cases z
    · subst e
      rw [nQ] at z
      cases z)
  have tb : LamX.TabB (hidT s1.heap H) mg c Q := by
    refine ⟨?_, ?_, fun z => ?_⟩
    · obtain ⟨o, us, file, tf, flags, tg, inF, text, tt, e1, r1, r2, r⟩ := cQ
      refine ⟨o, us, file, tf, flags, tg, inF, text, tt, hidT_get e1 (other e1 (fun vs n z => ?_) fun z => ?_), r1, r2, r⟩
      · rw [r2] at z; cases z
      · rw [z] at r1; cases r1
    · obtain ⟨bm, ob, b1, b2, b3, b4, b5, b6⟩ := hbm
      refine ⟨bm, ob, b1, b2, fun z => ?_, fun z => ?_, hidT_get b3 (other b3 (fun vs n z => ?_) fun z => ?_), b4, b5, b6⟩
      · obtain ⟨o, es, ep, e, hd, _⟩ := g1
        rw [z, e] at b3
        cases b3
        rw [hd] at b6
        cases b6
      · rw [z, tQ] at b3
        cases b3
        cases b6
      · rw [b6] at z; cases z
      · rw [z] at b4; cases b4
    · obtain ⟨o, es, ep, e, hd, _⟩ := g1
      rw [z, tQ] at e
      cases e
      cases hd
  have e0 : Env0 P w K mg (hidT s1.heap H) callerA [] s1 H := ⟨rfl, ⟨kin, ns' g1, ⟨mb, ns' g2, g3⟩, let ⟨mc, z1, z2⟩ := g4; ⟨mc, ns' z1, z2⟩⟩, (fun b o z => of_hidT z), Nat.le_of_eq (hidT_size _ _), trivial, (fun b z => nomatch (show b ∈ ([] : List Addr) from z)), hok, .of_eq g5⟩
  refine codeAny_mono ((F _ kin (ns' g1) tb).run callerA [] s1 H ⟨[.ref a], []⟩ [.ref a] [.ref a] _ _ hr rfl e0 (bi s1 (.ref a)) (.cons rfl .nil) (hsp H hQ hS)) fun r s' z => ?_
  match r, z with
  | .ok .next, z => exact False.elim z
  | .ok .brk, z => exact False.elim z
  | .ok .cont, z => exact False.elim z
  | .error e, z => exact False.elim z
  | .ok (.ret u), z =>
    obtain ⟨v, H', os, bare, un, hok', r', q⟩ := z
    have q : v = .bl true := q
    subst q
    obtain rfl : u = Value.bool true := r'
    have key : ∀ b o, b ≠ Q → s1.heap.get? b = some o → s'.heap.get? b = some o := fun b o n z => by
      rcases hO b n with y | ⟨ob, xs, y⟩
      · exact un.keep b o z y (fun y => nomatch (show b ∈ ([] : List Addr) from y)) (by simp)
      · obtain ⟨z1, _⟩ := hok b _ y
        obtain ⟨z2, _⟩ := hok' b _ (un.frzs b ob _ y)
        rw [z] at z1
        cases z1
        exact z2
    obtain ⟨more, hm⟩ := un.tbls Q #[] hQ
    have hm : s'.heap.get? Q = _ := hok' Q _ hm
    rw [Array.empty_append] at hm
    refine ⟨rfl, ⟨fun b o z => ?_, fun b o z => ?_⟩, os, bare⟩
    · rcases Classical.em (b = Q) with rfl | n
      · rw [tQ] at z
        cases z
        exact .inr (.inl ⟨(cQ.tab tQ).isCodeTable, rfl, #[], more, rfl, by rw [Array.empty_append]; exact hm⟩)
      · exact .inl (key b o n z)
    · rcases Classical.em (b = Q) with rfl | n
      · exact ⟨_, hm⟩
      · exact ⟨o, key b o n z⟩
theorem walkGT {l : PySem.W.OpenLaw} {n k : Nat} {q : Program} {loose : List Str} {XP : (Str → Option Value) → Heap → Prop} {YP : World → Heap → Prop} {d e : DefRec} {K : Params → PySem.W.Frag} {sp : World → Addr → Sp} {x y : Str}
    (hn : l.most = some n) (hn2 : n ≤ sizeLine) (hdf : d.params.defaults = []) (hr : Room k callerA) (hY : ∀ (w : World) (h : Heap), YP w h → (K w.params).In h) (he : (recsOf q).find? (fun e => e.name == y) = some e)
    (F : ∀ (w : World) (mg : Str → Option Value) (fa : Addr) (h : Heap), (K w.params).In h → h.Ns mainGlobals mg → mg d.name = some (.ref fa) →
      ∃ (c Q : Addr) (fd : FuncData), PySem.W.tabIn (K w.params) y = some (c, Q) ∧ (K w.params).lookup Q = none ∧ (∀ (s : Shared) (u : Value), BindsTo s fd ⟨[u], []⟩ [(x, u)]) ∧
        (∀ base : Heap, (K w.params).In base → base.Ns mainGlobals mg → LamX.TabB base mg c Q → FnG l.prog w (K w.params) mg base k fa fd [x] (sp w Q)))
    (hsp : ∀ (w : World) (Q : Addr) (H : Hp) (a : Addr) (ns : List Int), ns.length ≤ n → H Q = some (.tbl #[]) → SqL (K w.params) H a (ns.map V.int) → sp w Q [.ref a] H (fun v _ => v = .bl true) fun _ _ _ => False) :
    PySem.W.WalkO q loose XP YP l.row.toRowW d [] (fun f vs => PySem.call f vs) :=
  Att.attach_call hn hdf fun w s0 s1 mg mb fa o pm cd doc a vs ns G Y ho hd hcd hmg hobj hints hlen hg => by
    obtain ⟨c, Q, fd, ht, nQ, hb, hF⟩ := F w mg fa _ (hY w _ Y) G.T.g hmg
    obtain ⟨cQ, tQ⟩ := PySem.W.tab_of G.T (hY w _ Y) he ht
    exact lawGT (hY w _ Y) G.T.g G.T.b G.T.builtins G.T.nolimit hg tQ nQ cQ G.T.bmain hobj hints (Nat.le_trans hlen hn2) hr hF hb fun H hQ hS => hsp w Q H a ns hlen hQ hS

/-! ### a dict's values walked through; .get of a dict of the def's own -/
section
variable {C : Cf} {te tb tc : TE} {t db dc : DT} {ca cb cc : Cat}
theorem itOk_vals {Hs1 : Hp} {a : Addr} {f : Obj} {xs : List (Key × V)} {ds : List (D × D)} (h : Hs1 a = some (.frz f (.dK xs))) (hd : RpKV C.K Hs1 xs ds) : ItOk false C Hs1 (Itd a f xs) (ds.map Prod.snd) := by
  refine ⟨_, _, by rw [List.length_map, ← hd.len]; exact walk_values, fun H e => e _ _ h, fun i H v H2 H0 S0 Hs σ s hi r e y => ?_⟩
  obtain ⟨rfl, k, e1⟩ := y
  obtain ⟨d, e2, e3⟩ := hd.getV e1
  exact ⟨Hs, d, by rw [List.getElem?_map, e2]; rfl, r, Rp.mono e e3, Go.refl⟩
def dVals (j : Nat) : DI := fun s Q => match s.δ[j]? with
  | some (some (.dict kvs)) => Q (kvs.map Prod.snd) s
  | _ => False
theorem sim_lcValues {j : Nat} {tl vs : List Nat} {g : TG} {x : D → S → (S → Prop) → Prop} {tt : TT} {c : DB} (hj : j ∉ C.M) (hg : SimG C false tl g x) (ht : SimT C tt c) (he : Sim C ca te t) (hv : ∀ j, j ∈ tl → j ∈ vs) (hM : ∀ v ∈ vs, v ∉ C.M) (hp : ∀ v ∈ vs, C.Nf v) :
    Sim C .F (tLk (tLc (iVals (tVar j)) g tt te vs)) (dLk j (dLc (dVals j) x c t vs)) := by
  refine sim_lk hj ⟨fun H0 S0 Hs σ H s Q Q' a f xs kvs r e1 hs rk ej q k => ?_⟩
  simp only [dLc, dVals, ej] at q
  exact ⟨_, e1, a, f, xs, rfl, r.sub _ _ hs, lc_run r (itOk_vals hs rk) hg ht he hv hM hp q.1 q.2 k⟩
def dGet2M (i : Nat) (b c : DT) : DT := fun s Q => (∃ kvs, s.δ[i]? = some (some (.dict kvs))) ∧ b s fun k s2 => c s2 fun z s3 => match s3.δ[i]? with
  | some (some (.dict kvs)) => isKey k = true ∧ Q ((findD kvs k).getD z) s3
  | _ => False
theorem sim_dget2M (i : Nat) (hi : i ∈ C.M) (hb : Sim C cb tb db) (hc : Sim C cc tc dc) : Sim C .E (tDGet2 (tVar i) tb tc) (dGet2M i db dc) := by
  refine ⟨fun H0 S0 Hs σ H s Q Q' r ⟨⟨kvs, ek⟩, q⟩ k => ?_⟩
  obtain ⟨a, o, e1, e2, e3, e4, _⟩ := r.mt i _ ek hi
  cases e4
  rename_i xs e4
  refine ⟨.ref a, e1, a, rfl, .inl ⟨_, .inl e2⟩, ?_⟩
  refine hb.toE.run H0 S0 Hs σ H s _ _ r q fun Hs2 H2 y dy s2 g2 r2 v2 q2 => ?_
  refine hc.toE.run H0 S0 Hs2 σ H2 s2 _ _ r2 q2 fun Hs3 H3 z dz s3 g3 r3 v3 q3 => ?_
  split at q3
  · rename_i kvs3 ek3
    obtain ⟨hk, q3⟩ := q3
    obtain ⟨a', o', f1, f2, f3, f4, _⟩ := r3.mt i _ ek3 hi
    rw [e1] at f1
    cases f1
    cases f4
    rename_i xs3 f4
    obtain ⟨kx, rfl⟩ := isKey_of hk
    have v2' : Rp C.K Hs2 y (keyD kx) := v2
    obtain rfl := v2'.key
    refine ⟨_, .inl ⟨_, kx, .inl f2, rfl, rfl⟩, ?_⟩
    rcases findD_rp (x := kx) f4 with ⟨h1, h2⟩ | ⟨d, v, h1, h2, h3⟩
    · rw [h2]
      rw [h1] at q3
      exact k Hs3 H3 z dz s3 (g2.trans g3) r3 v3 q3
    · rw [h2]
      rw [h1] at q3
      exact k Hs3 H3 v d s3 (g2.trans g3) r3 h3 q3
  · exact q3.elim
end

/-! ### sorted(pairs of a text and data), unlike by their texts -/
section
variable {prog : Program} {w : World} {A : Around} {s : Shared}
def fstS : D → Str
  | .tuple (.str a :: _) => a
  | _ => Str.ofString ""
def IsPr (d : D) : Prop := ∃ a e, d = .tuple [.str a, e]
/-- the order that such pairs go by -/
def prLe (a b : D) : Bool := PySem.W.dataLe false (fun d : D => PyData.str (fstS d)) a b
noncomputable def prK (h : Heap) (ds : List D) : PyProof.Rows.KeyKind where
  toKeyOrd := PyProof.Rows.listOrd PyProof.Rows.itemOrd
  keyOf v := open Classical in if q : ∃ d, d ∈ ds ∧ ∃ as, Reads h v d as then some (PySem.W.keyToks (.str (fstS q.choose))) else none
  dflt := ([] : List (Int ⊕ List Nat))
theorem pr_uniq {h : Heap} {v : Value} {d e : D} {as bs : List Addr} (hd : IsPr d) (he : IsPr e) (r1 : Reads h v d as) (r2 : Reads h v e bs) : fstS d = fstS e := by
  obtain ⟨a, x, rfl⟩ := hd
  obtain ⟨b, y, rfl⟩ := he
  cases r1 with
  | @tuple l o xs n _ _ h1 h2 h3 h4 =>
    cases r2 with
    | @tuple l' o' xs' n' _ _ k1 k2 k3 k4 =>
      rw [h1] at k1
      cases k1
      rw [h3] at k3
      cases k3
      generalize xs.toList = us at h4 k4
      cases h4 with
      | cons p1 p2 =>
        cases k4 with
        | cons q1 q2 =>
          cases p1
          cases q1
          rfl
theorem prK_some {h : Heap} {ds : List D} (hp : ∀ d ∈ ds, IsPr d) {v : Value} {d : D} {as : List Addr} (hd : d ∈ ds) (r : Reads h v d as) : (prK h ds).keyOf v = some (PySem.W.keyToks (.str (fstS d))) := by
  have q : ∃ d, d ∈ ds ∧ ∃ as, Reads h v d as := ⟨d, hd, as, r⟩
  have e : (prK h ds).keyOf v = some (PySem.W.keyToks (.str (fstS q.choose))) := by
    show (open Classical in if q : ∃ d, d ∈ ds ∧ ∃ as, Reads h v d as then some (PySem.W.keyToks (.str (fstS q.choose))) else none) = _
    rw [dif_pos q]
  obtain ⟨h1, as', h2⟩ := q.choose_spec
  rw [e, pr_uniq (hp _ h1) (hp _ hd) h2 r]
theorem prK_inv {h : Heap} {ds : List D} {v : Value} {k : List (Int ⊕ List Nat)} (e : (prK h ds).keyOf v = some k) : ∃ d as, d ∈ ds ∧ Reads h v d as ∧ k = PySem.W.keyToks (.str (fstS d)) := by
  by_cases q : ∃ d, d ∈ ds ∧ ∃ as, Reads h v d as
  · have e' : (prK h ds).keyOf v = some (PySem.W.keyToks (.str (fstS q.choose))) := by
      show (open Classical in if q : ∃ d, d ∈ ds ∧ ∃ as, Reads h v d as then some (PySem.W.keyToks (.str (fstS q.choose))) else none) = _
      rw [dif_pos q]
    obtain ⟨h1, as', h2⟩ := q.choose_spec
    rw [e'] at e
    exact ⟨_, as', h1, h2, (Option.some.inj e).symm⟩
  · have e' : (prK h ds).keyOf v = none := by
      show (open Classical in if q : ∃ d, d ∈ ds ∧ ∃ as, Reads h v d as then some (PySem.W.keyToks (.str (fstS q.choose))) else none) = _
      rw [dif_neg q]
      rfl
    rw [e'] at e
    exact absurd e (by simp)
theorem katP {b : Bool} {Q : Bool → Shared → Prop} {x y : Str} {d e : D} {vs ws : List Value} {as bs : List Addr} (ra : ReadsAll s.heap vs [.str x, d] as) (rb : ReadsAll s.heap ws [.str y, e] bs) (hf : x = y → d = e) (hc : d.canLay0 = true) (hu : A.units + d.depth < cLine)
    (hq : Q (PySem.W.dataLt (.str x) (.str y)) s) : PySem.W.KatLex prog w A b false Q (vs.zip ws) 0 s := by
  cases ra with
  | cons r rs =>
    cases rs with
    | cons r2 rs2 =>
      cases rs2
      cases rb with
      | cons r' rs' =>
        cases rs' with
        | cons r2' rs2' =>
          cases rs2'
          rw [List.zip_cons_cons, List.zip_cons_cons]
          have u0 : A.units + 0 < cLine := by omega
          refine PySem.W.kat_cons (PySem.W.eqAt_alike (.str x) (.str y) A s _ _ _ _ r r' rfl u0 prog w _ _ ?_)
          by_cases h : x = y
          · subst h
            obtain rfl := hf rfl
            have e1 : PyData.eqv (.str x) (.str x) = true := by simp [PyData.eqv]
            rw [e1]
            refine PySem.W.kat_yes (PySem.W.kat_cons (SeqAt.eqAt_reads d d A s _ _ _ _ r2 r2' hc hc (by rw [Nat.min_self]; exact hu) prog w _ _ ?_))
            rw [SeqAt.eqv_refl d hc]
            refine PySem.W.kat_yes (PySem.W.kat_nil ?_)
            have : PySem.W.dataLt (.str x) (.str x) = false := by rw [PySem.W.dataLt_str]; simp
            rw [this] at hq
            exact hq
          · have e1 : PyData.eqv (.str x) (.str y) = false := by simp [PyData.eqv, h]
            rw [e1]
            exact PySem.W.kat_no (PySem.W.oneLt_alike (fun _ t z => PyData.noConfusion z) r r' rfl (fun z => PyData.noConfusion z) u0 hq)
theorem prSorts {vs : List Value} {ds : List D} (e : PySem.W.EachIs (fun v d => ∃ as, Reads s.heap v d as) vs ds) (hp : ∀ d ∈ ds, IsPr d ∧ d.canLay0 = true) (hf : ∀ d ∈ ds, ∀ e ∈ ds, fstS d = fstS e → d = e) (hu : ∀ d ∈ ds, A.units + d.depth < cLine) : PySem.W.SortsAt prog w A s (prK s.heap ds) vs := by
  refine ⟨fun v hv => ?_, ?_⟩
  · obtain ⟨d, hd, as, r⟩ := e.left v hv
    exact ⟨_, prK_some (fun d m => (hp d m).1) hd r⟩
  · refine ⟨tuples' (Value.type "str" != Value.type "tuple"), ?_, fun h2 E Q hq => ?_⟩
    · intro E x y a b Q ha hb hq
      obtain ⟨d, as, hd, ra, rfl⟩ := prK_inv ha
      obtain ⟨d', as', hd', rb, rfl⟩ := prK_inv hb
      obtain ⟨⟨x1, r1, e1⟩, c1⟩ := hp d hd
      obtain ⟨⟨x2, r2, e2⟩, c2⟩ := hp d' hd'
      have uu := hu d hd
      have ff := hf d hd d' hd'
      subst e1 e2
      cases ra with
      | @tuple l o xs n _ _ h1 h2 h3 h4 =>
        cases rb with
        | @tuple l' o' xs' n' _ _ k1 k2 k3 k4 =>
          have n1 : xs.size = 2 := by simpa using SeqAt.ReadsAll.length _ _ _ h4
          have n2 : xs'.size = 2 := by simpa using SeqAt.ReadsAll.length _ _ _ k4
          refine PySem.W.kat_lt h1 h3 k1 k3 ?_
          have fin : decide (xs.size < xs'.size) = false := by rw [n1, n2]; rfl
          rw [fin]
          refine katP h4 k4 (fun z => ?_) ?_ ?_ hq
          · have := ff z
            cases this
            rfl
          · have : PyData.strOk x1 = true ∧ r1.canLay0 = true := by simpa [PyData.canLay0, PyData.canLayAll0] using c1
            exact this.2
          · have : r1.depth ≤ (PyData.tuple [.str x1, r1]).depth := by
              simp only [PyData.depth, PyData.depthAll]
              omega
            omega
    · obtain ⟨fs, t1, t2, t3⟩ := PySem.W.each_katTups e fun d hd => by
        obtain ⟨⟨a, x, rfl⟩, _⟩ := hp d hd
        exact ⟨_, _, rfl⟩
      refine PySem.W.kat_kind (T := Value.type "str") t1 (by omega) (fun f hf => ?_) (beq_self_eq_true _) hq
      obtain ⟨x, r, as, m1, m2⟩ := t3 f hf
      obtain ⟨⟨a, y, e1⟩, _⟩ := hp _ m1
      cases e1
      exact PySem.W.looks_reads m2
theorem sorted_prs {E : Value → Shared → Prop} {β : Type} {enc : β → D} {bs : List β} {R : Value → β → Prop} {l : Addr} {vs : List Value} {Q : Value → Shared → Prop} (hl : s.heap.IsList l vs.toArray) (e : PySem.W.EachIs R vs bs) (er : PySem.W.EachIs (fun v b => ∃ as, Reads s.heap v (enc b) as) vs bs)
    (hp : ∀ d ∈ bs.map enc, IsPr d ∧ d.canLay0 = true) (hf : ∀ d ∈ bs.map enc, ∀ e ∈ bs.map enc, fstS d = fstS e → d = e) (hL : bs.length ≤ sizeLine)
    (hu : ∀ d ∈ bs.map enc, A.units + 2 + d.depth < cLine) (h : ∀ out, out.length = bs.length → PySem.W.EachIs R out (bs.mergeSort fun a b => prLe (enc a) (enc b)) → Q (.ref (s.heap.objs.size + 1)) { s with heap := PyProof.Rows.sortedAll s.heap vs (List.toArray out) }) :
    wpAny (model prog w) A (call (.builtin "sorted") [.ref l]) Q E s := by
  have er' : PySem.W.EachIs (fun v b => ∃ as, Reads (PySem.W.sortingHeap (PySem.W.copyHeap s.heap vs) (s.heap.objs.size + 1) vs) v (enc b) as) vs bs := er.mono fun _ _ ⟨as, r⟩ => ⟨as, PyProof.Rows.Reads.keeps (fun _ _ => PySem.W.sorting_copy_old) r⟩
  have er2 : PySem.W.EachIs (fun v d => ∃ as, Reads (PySem.W.sortingHeap (PySem.W.copyHeap s.heap vs) (s.heap.objs.size + 1) vs) v d as) vs (bs.map enc) := PySem.W.each_map (R := fun v d => ∃ as, Reads (PySem.W.sortingHeap (PySem.W.copyHeap s.heap vs) (s.heap.objs.size + 1) vs) v d as) enc er'
  refine PySem.W.sorted_vals hl (prSorts (s := { s with heap := PySem.W.sortingHeap (PySem.W.copyHeap s.heap vs) (s.heap.objs.size + 1) vs }) er2 hp hf hu) (by rw [e.length]; exact hL) (h _ (by rw [PySem.W.sortVals_length false rfl]; exact e.length) ?_)
  refine PySem.W.sortVals_each (κ := prK (PySem.W.sortingHeap (PySem.W.copyHeap s.heap vs) (s.heap.objs.size + 1) vs) (bs.map enc)) (fun b => PySem.W.keyToks (.str (fstS (enc b)))) e ?_
  exact (PySem.W.each_mem er').mono fun v b ⟨⟨as, r⟩, m⟩ => prK_some (fun d m => (hp d m).1) (List.mem_map_of_mem m) r
end
def rSortPr (K : PySem.W.Frag) : List V → Hp → VK → Prop := fun xs H Q => ∃ (a : Addr) (vs : List V) (ds : List D), xs = [.ref a] ∧ SqL K H a vs ∧ DpAll K H vs ds ∧ (∀ d ∈ ds, IsPr d ∧ Sh d) ∧ (∀ d ∈ ds, ∀ e ∈ ds, fstS d = fstS e → d = e) ∧
  ∀ p : Addr, H p = none → Q (.ref p) (L2.upd H p (.lst (((vs.zip ds).mergeSort fun a b => prLe a.2 b.2).map Prod.fst)))
theorem u66 {A : Around} {k : Nat} (hr : Room k A) : A.units + 66 < cLine := by
  have := hr.un
  omega
theorem cr_sortPr {X : Cx} (K : PySem.W.Frag) (eK : X.K = K) (hu : X.A.units + 66 < cLine) : CallR X (.builtin "sorted") (rSortPr K) := by
  subst eK
  intro pins s σ H xs us Q I r h
  obtain ⟨a, vs, ds, rfl, hsq, hdp, hds, hff, q⟩ := h
  obtain ⟨its, rv, hl, hz⟩ := I.list hsq
  obtain ⟨u, rfl, ru⟩ := vals1 r
  obtain rfl : u = Value.ref a := ru
  have hdl : ds.length = vs.length := (DpAll.len hdp).symm
  have each : PySem.W.EachIs (fun (u : Value) (b : V × D) => RelV b.1 u ∧ ∃ as, Reads s.heap u b.2 as) its (vs.zip ds) := each_zip I vs ds its hdp rv
  have em : (vs.zip ds).map Prod.snd = ds := zip_snd (by rw [hdl])
  refine sorted_prs (enc := Prod.snd) hl.isList each (each.mono fun _ _ z => z.2) ?_ ?_ ?_ ?_ fun out ho eo => ?_
  · rw [em]
    exact fun d m => ⟨(hds d m).1, SeqAt.canLay_of_shaped (hds d m).2⟩
  · rw [em]
    exact hff
  · rw [List.length_zip, hdl, Nat.min_self]
    exact hz
  · rw [em]
    intro d m
    have := SeqAt.depth_of_shaped (hds d m).2
    omega
  · have rv2 := each_vals (eo.mono fun _ _ z => z.1)
    obtain ⟨c, hc⟩ := PyProof.Rows.sortedAll_at s.heap its out.toArray
    refine ⟨.ref _, _, I.laid (t' := s.toks) (o := .lst (((vs.zip ds).mergeSort fun a b => prLe a.2 b.2).map Prod.fst)) (fun _ _ => PyProof.Rows.sortedAll_old) (Nat.le_succ _) ⟨?_, out, c, rv2, hc⟩, rfl, q _ (I.hok.fresh (Nat.le_succ _))⟩
    rw [List.length_map, List.length_mergeSort, List.length_zip, hdl, Nat.min_self]
    exact hz
section
variable {C : Cf}
def sortP (ds : List D) : List D := ds.mergeSort prLe
def sortPD : DF := fun ds Q => match ds with
  | [d] => (match d with
    | .list xs => (∀ d ∈ xs, IsPr d ∧ Sh d) ∧ (∀ d ∈ xs, ∀ e ∈ xs, fstS d = fstS e → d = e) ∧ Q (.list (sortP xs))
    | _ => False)
  | _ => False
theorem caA_sortPr : CaA C (rSortPr C.K) sortPD := by
  intro H0 S0 Hs σ H s vs ds Q Q' r hd q k
  match vs, ds, hd with
  | [v], [d], ⟨h, _⟩ =>
    cases d <;> first | exact q.elim | skip
    case list xs =>
      obtain ⟨a, ls, rfl, e1, e2⟩ := Rd'.list h
      obtain ⟨q1, q2, q⟩ := q
      refine ⟨a, ls, xs, rfl, SqL.of e1, DpAll_same r.sub (RpAll.dp xs e2 (lay_of fun d m => (q1 d m).2)), q1, q2, fun p np => ?_⟩
      have es : ((ls.zip xs).mergeSort fun a b => prLe a.2 b.2).map Prod.snd = sortP xs := by
        rw [List.map_mergeSort (s := prLe) (fun a _ b _ => rfl), zip_snd e2.len]
        rfl
      have rz : RpAll C.K Hs (((ls.zip xs).mergeSort fun a b => prLe a.2 b.2).map Prod.fst) (sortP xs) := by
        rw [← es]
        exact rp_unzip fun z m => rp_zip e2 z ((List.mergeSort_perm ..).mem_iff.mp m)
      exact k Hs _ _ (.list (sortP xs)) (Go.laid np) (r.laid np) (r.newList np rz) q
  | [], [], _ => exact q.elim
  | _ :: _ :: _, _ :: _ :: _, _ => exact q.elim
end
/-! ### x == [] -/
def rEqNil (K : PySem.W.Frag) : R2 := fun x y H Q => ∃ a b xs, x = .ref a ∧ y = .ref b ∧ SqL K H a xs ∧ SqL K H b [] ∧ Q (.bl xs.isEmpty) H
theorem eqNilG {X : Cx} (K : PySem.W.Frag) (eK : X.K = K) (hu : X.A.units + 64 < cLine) : OpR X (compareOp .Eq) (rEqNil K) := by
  subst eK
  intro pins s σ H x y v u Q I rx ry h
  obtain ⟨a, b, xs, rfl, rfl, h1, h2, q⟩ := h
  obtain rfl : v = Value.ref a := rx
  obtain rfl : u = Value.ref b := ry
  obtain ⟨its, rv, hl, _⟩ := I.list h1
  obtain ⟨its2, rv2, hl2, _⟩ := I.list h2
  have e2 : its2 = [] := by
    cases rv2
    rfl
  subst e2
  cases xs with
  | nil =>
    have e1 : its = [] := by
      cases rv
      rfl
    subst e1
    exact SeqAt.RcAt.lists (e := fun _ => true) hl.isList hl2.isList rfl (by omega) (fun j h1 _ => by simp at h1) X.prog X.w X.xe _ ⟨.bl true, H, I, rfl, q⟩
  | cons z xs =>
    have hz : its.length = xs.length + 1 := by
      have := rv.length
      rw [List.length_cons] at this
      exact this.symm
    exact SeqAt.RcAt.lists_lengths hl.isList hl2.isList (by simp; intro z; rw [z] at hz; simp at hz) (by omega) X.prog X.w X.xe _ ⟨.bl false, H, I, rfl, q⟩
def eqNilD : DO := fun x y Q => match x, y with
  | .list ds, .list [] => Q (.bool ds.isEmpty)
  | _, _ => False
theorem opA_eqNil {C : Cf} : OpA C (rEqNil C.K) eqNilD := by
  intro H0 S0 Hs σ H s x y dx dy Q Q' r hx hy q k
  cases dx <;> first | exact q.elim | skip
  rename_i ds
  cases dy <;> first | exact q.elim | skip
  rename_i es
  cases es with
  | cons _ _ => exact q.elim
  | nil =>
    obtain ⟨a, xs, rfl, h1, h2⟩ := Rd'.list hx
    obtain ⟨b, ys, rfl, h3, h4⟩ := Rd'.list hy
    cases h4
    have e : xs.isEmpty = ds.isEmpty := by cases h2 <;> rfl
    exact ⟨a, b, xs, rfl, rfl, SqL.of h1, SqL.of h3, k Hs H _ (.bool ds.isEmpty) Go.refl r (Val.mkP (by rw [e]; exact Rp.bl _) rfl) q⟩

def topS (i : Nat) : Stmt := PySem.Challenge.pw_leapwork_k11_sums_of_terms.main.body.getD i (.Pass ⟨0, 0, 0, 0⟩)
abbrev s_inner_form : Stmt := topS 2
theorem sc_inner_form : FnScope ["thing", "word", "place", "part"] ["thing"] (defScope s_inner_form) := ⟨rfl, rfl, rfl, by decide +kernel, rfl, by decide +kernel, by decide +kernel⟩
abbrev s_form_of : Stmt := topS 3
theorem sc_form_of : FnScope ["thing", "atoms", "number", "forms", "atom", "weight", "form"] ["thing"] (defScope s_form_of) := ⟨rfl, rfl, rfl, by decide +kernel, rfl, by decide +kernel, by decide +kernel⟩
abbrev s_put_pair : Stmt := topS 4
theorem sc_put_pair : FnScope ["atoms", "atom", "weight", "form", "mark", "first", "had", "known"] ["atoms", "atom", "weight"] (defScope s_put_pair) := ⟨rfl, rfl, rfl, by decide +kernel, rfl, by decide +kernel, by decide +kernel⟩
abbrev s_gather : Stmt := topS 5
theorem sc_gather : FnScope ["atoms", "term", "often", "word", "number"] ["atoms", "term", "often"] (defScope s_gather) := ⟨rfl, rfl, rfl, by decide +kernel, rfl, by decide +kernel, by decide +kernel⟩
abbrev s_pairs_left : Stmt := topS 6
theorem sc_pairs_left : FnScope ["atoms", "atom", "weight", "form"] ["atoms"] (defScope s_pairs_left) := ⟨rfl, rfl, rfl, by decide +kernel, rfl, by decide +kernel, by decide +kernel⟩
abbrev s_sum_of : Stmt := topS 7
theorem sc_sum_of : FnScope ["term", "atoms", "number"] ["term"] (defScope s_sum_of) := ⟨rfl, rfl, rfl, by decide +kernel, rfl, by decide +kernel, by decide +kernel⟩
abbrev s__law_spread : Stmt := topS 9
theorem sc__law_spread : FnScope ["_law_cell", "_law_at", "_law_primes", "_law_one", "_law_two", "_law_three"] ["_law_cell", "_law_at"] (defScope s__law_spread) := ⟨rfl, rfl, rfl, by decide +kernel, rfl, by decide +kernel, by decide +kernel⟩
abbrev s__law_open : Stmt := topS 10
theorem sc__law_open : FnScope ["_law_script", "_law_cells", "_law_k", "_law_cell"] ["_law_script"] (defScope s__law_open) := ⟨rfl, rfl, rfl, by decide +kernel, rfl, by decide +kernel, by decide +kernel⟩
abbrev s__law_take : Stmt := topS 11
theorem sc__law_take : FnScope ["_law_pen", "_law_many", "_law_at", "_law_cell", "_law_found"] ["_law_pen", "_law_many"] (defScope s__law_take) := ⟨rfl, rfl, rfl, by decide +kernel, rfl, by decide +kernel, by decide +kernel⟩
abbrev s__law_same : Stmt := topS 12
theorem sc__law_same : FnScope ["_law_found", "_law_due", "_law_one", "_law_other"] ["_law_found", "_law_due"] (defScope s__law_same) := ⟨rfl, rfl, rfl, by decide +kernel, rfl, by decide +kernel, by decide +kernel⟩
abbrev s__law_s_names : Stmt := topS 13
theorem sc__law_s_names : FnScope ["_law_pen", "_law_many", "_law_letters", "_law_stem", "_law_k", "_law_at", "_law_first", "_law_found", "_law_name"] ["_law_pen", "_law_many"] (defScope s__law_s_names) := ⟨rfl, rfl, rfl, by decide +kernel, rfl, by decide +kernel, by decide +kernel⟩
abbrev s__law_s_number : Stmt := topS 14
theorem sc__law_s_number : FnScope ["_law_pen", "_law_way"] ["_law_pen"] (defScope s__law_s_number) := ⟨rfl, rfl, rfl, by decide +kernel, rfl, by decide +kernel, by decide +kernel⟩
abbrev s__law_s_weight : Stmt := topS 15
theorem sc__law_s_weight : FnScope ["_law_pen", "_law_way", "_law_found"] ["_law_pen"] (defScope s__law_s_weight) := ⟨rfl, rfl, rfl, by decide +kernel, rfl, by decide +kernel, by decide +kernel⟩
abbrev s__law_s_sum : Stmt := topS 16
theorem sc__law_s_sum : FnScope ["_law_pen", "_law_many", "_law_most", "_law_some", "_law_found", "_law_turn"] ["_law_pen", "_law_many", "_law_most"] (defScope s__law_s_sum) := ⟨rfl, rfl, rfl, by decide +kernel, rfl, by decide +kernel, by decide +kernel⟩
abbrev s__law_s_row : Stmt := topS 17
theorem sc__law_s_row : FnScope ["_law_pen", "_law_many", "_law_rows", "_law_way", "_law_row", "_law_place"] ["_law_pen", "_law_many", "_law_rows"] (defScope s__law_s_row) := ⟨rfl, rfl, rfl, by decide +kernel, rfl, by decide +kernel, by decide +kernel⟩
abbrev s__law_s_entry : Stmt := topS 18
theorem sc__law_s_entry : FnScope ["_law_pen", "_law_many", "_law_rows", "_law_most", "_law_way", "_law_row", "_law_one", "_law_places", "_law_turn"] ["_law_pen", "_law_many", "_law_rows", "_law_most"] (defScope s__law_s_entry) := ⟨rfl, rfl, rfl, by decide +kernel, rfl, by decide +kernel, by decide +kernel⟩
abbrev s__law_s_pool : Stmt := topS 19
theorem sc__law_s_pool : FnScope ["_law_pen", "_law_names", "_law_more", "_law_most", "_law_rows", "_law_pool", "_law_turn", "_law_one", "_law_other"] ["_law_pen", "_law_names", "_law_more", "_law_most"] (defScope s__law_s_pool) := ⟨rfl, rfl, rfl, by decide +kernel, rfl, by decide +kernel, by decide +kernel⟩
abbrev s__law_s_form : Stmt := topS 20
theorem sc__law_s_form : FnScope ["_law_pool", "_law_thing", "_law_some", "_law_k", "_law_weight", "_law_mark", "_law_pair", "_law_part"] ["_law_pool", "_law_thing"] (defScope s__law_s_form) := ⟨rfl, rfl, rfl, by decide +kernel, rfl, by decide +kernel, by decide +kernel⟩
abbrev s__law_s_spelt : Stmt := topS 21
theorem sc__law_s_spelt : FnScope ["_law_pen", "_law_pool", "_law_thing", "_law_part"] ["_law_pen", "_law_pool", "_law_thing"] (defScope s__law_s_spelt) := ⟨rfl, rfl, rfl, by decide +kernel, rfl, by decide +kernel, by decide +kernel⟩
abbrev s__law_s_leaves : Stmt := topS 22
theorem sc__law_s_leaves : FnScope ["_law_pen", "_law_pool", "_law_made_of", "_law_found", "_law_k", "_law_weight", "_law_part", "_law_often", "_law_spare", "_law_number", "_law_sign"] ["_law_pen", "_law_pool", "_law_made_of"] (defScope s__law_s_leaves) := ⟨rfl, rfl, rfl, by decide +kernel, rfl, by decide +kernel, by decide +kernel⟩
abbrev s__law_s_tree : Stmt := topS 23
theorem sc__law_s_tree : FnScope ["_law_pen", "_law_leaves", "_law_k", "_law_thing", "_law_weight", "_law_way", "_law_sign", "_law_some", "_law_at", "_law_one", "_law_found"] ["_law_pen", "_law_leaves"] (defScope s__law_s_tree) := ⟨rfl, rfl, rfl, by decide +kernel, rfl, by decide +kernel, by decide +kernel⟩
abbrev s__law_s_due : Stmt := topS 24
theorem sc__law_s_due : FnScope ["_law_leaves", "_law_met", "_law_k", "_law_thing", "_law_weight", "_law_found", "_law_j", "_law_often"] ["_law_leaves"] (defScope s__law_s_due) := ⟨rfl, rfl, rfl, by decide +kernel, rfl, by decide +kernel, by decide +kernel⟩
abbrev s_law : Stmt := topS 25
theorem sc_law : FnScope ["_law_script", "_law_pen", "_law_turn", "_law_pool", "_law_leaves", "_law_term", "_law_way", "_law_idle", "_law_none", "_law_gone", "_law_k", "_law_thing", "_law_weight", "_law_due"] ["_law_script"] (defScope s_law) := ⟨rfl, rfl, rfl, by decide +kernel, rfl, by decide +kernel, by decide +kernel⟩
structure Tx (K : PySem.W.Frag) (mg : Str → Option Value) : Prop where
  d_inner_form : Df K mg "inner_form" s_inner_form ["thing"]
  d_form_of : Df K mg "form_of" s_form_of ["thing"]
  d_put_pair : Df K mg "put_pair" s_put_pair ["atoms", "atom", "weight"]
  d_gather : Df K mg "gather" s_gather ["atoms", "term", "often"]
  d_pairs_left : Df K mg "pairs_left" s_pairs_left ["atoms"]
  d_sum_of : Df K mg "sum_of" s_sum_of ["term"]
  d__law_spread : Df K mg "_law_spread" s__law_spread ["_law_cell", "_law_at"]
  d__law_open : Df K mg "_law_open" s__law_open ["_law_script"]
  d__law_take : Df K mg "_law_take" s__law_take ["_law_pen", "_law_many"]
  d__law_same : Df K mg "_law_same" s__law_same ["_law_found", "_law_due"]
  d__law_s_names : Df K mg "_law_s_names" s__law_s_names ["_law_pen", "_law_many"]
  d__law_s_number : Df K mg "_law_s_number" s__law_s_number ["_law_pen"]
  d__law_s_weight : Df K mg "_law_s_weight" s__law_s_weight ["_law_pen"]
  d__law_s_sum : Df K mg "_law_s_sum" s__law_s_sum ["_law_pen", "_law_many", "_law_most"]
  d__law_s_row : Df K mg "_law_s_row" s__law_s_row ["_law_pen", "_law_many", "_law_rows"]
  d__law_s_entry : Df K mg "_law_s_entry" s__law_s_entry ["_law_pen", "_law_many", "_law_rows", "_law_most"]
  d__law_s_pool : Df K mg "_law_s_pool" s__law_s_pool ["_law_pen", "_law_names", "_law_more", "_law_most"]
  d__law_s_form : Df K mg "_law_s_form" s__law_s_form ["_law_pool", "_law_thing"]
  d__law_s_spelt : Df K mg "_law_s_spelt" s__law_s_spelt ["_law_pen", "_law_pool", "_law_thing"]
  d__law_s_leaves : Df K mg "_law_s_leaves" s__law_s_leaves ["_law_pen", "_law_pool", "_law_made_of"]
  d__law_s_tree : Df K mg "_law_s_tree" s__law_s_tree ["_law_pen", "_law_leaves"]
  d__law_s_due : Df K mg "_law_s_due" s__law_s_due ["_law_leaves"]
  d_law : Df K mg "law" s_law ["_law_script"]
  z_bool : mg "bool" = none
  z_enumerate : mg "enumerate" = none
  z_int : mg "int" = none
  z_isinstance : mg "isinstance" = none
  z_len : mg "len" = none
  z_list : mg "list" = none
  z_min : mg "min" = none
  z_range : mg "range" = none
  z_repr : mg "repr" = none
  z_sorted : mg "sorted" = none
  z_str : mg "str" = none
  z_sum : mg "sum" = none
  z_tuple : mg "tuple" = none
  z_zip : mg "zip" = none
  g_ROW_WORDS : Gt K mg "ROW_WORDS" (.tuple [.str "row", .str "with", .str "room"])
/-! ### the draws: _law_spread, _law_open, _law_take -/
section
variable {P : Program} {w : World} {K : PySem.W.Frag} {mg : Str → Option Value} {base : Heap}
theorem pw_lt {x : Int} {n : Nat} (h0 : 0 ≤ x) (h : x < 2 ^ 64) : x.natAbs < 2 ^ 64 := by omega
theorem ok__law_spread (T : Tx K mg) : Ok P w K mg base 1 "_law_spread" ["_law_cell", "_law_at"] spSpread := by
  refine Ok.mk T.d__law_spread sc__law_spread (fun vs H Q E h => ?_) (fun f cdv A outer s H vs Q E hr h => ?_)
  · obtain ⟨c, a, rfl, _⟩ := h
    rfl
  obtain ⟨c, a, rfl, h0, h1, q⟩ := h
  have hL : (2 : Int) ^ 100 ≤ (penLim : Int) := by have := pen100; omega
  generalize hLL : (penLim : Int) = L at h1 hL
  have ls : ∀ {x : Int}, 0 ≤ x → x ≤ 2 ^ 60 * L → x.natAbs < 2 ^ 9000 := fun a b => lim_small a (by rw [hLL]; exact b)
  refine ⟨_, (pss_cons (ps_if (pt_cmpR op_ge (pv 0) (pe_op op_powW (pe_int) (pe_int)) (nomark _))
 (pss_one (ps_ret (pv 0)))
 (pss_nil))
 (pss_cons (ps_set (i := 2) sc__law_spread.nd rfl (Or.inl rfl) (pe_lst (pa_cons (pe_int) (pa_cons (pe_int) (pa_cons (pe_int) (pa_cons (pe_int) (pa_cons (pe_int) (pa_cons (pe_int) (pa_cons (pe_int) (pa_cons (pe_int) (pa_nil)))))))))))
 (pss_cons (ps_set (i := 2) sc__law_spread.nd rfl (Or.inl rfl) (pe_op op_cat (pv 2) (pe_lst (pa_cons (pe_int) (pa_cons (pe_int) (pa_cons (pe_int) (pa_cons (pe_int) (pa_cons (pe_int) (pa_nil)))))))))
 (pss_cons (ps_set (i := 3) sc__law_spread.nd rfl (Or.inl rfl) (pe_op op_mod (pe_op op_powW (pe_op op_add (pe_op op_add (pe_op op_mul (pe_op op_mod (pv 0) (pe_int)) (pe_op op_add (pe_op op_mul (pe_int) (pv 1)) (pe_int))) (pe_op op_mul (pv 1) (pe_int))) (pe_int)) (pe_int)) (pe_ix (ixL K rfl) (pv 2) (pe_op op_mod (pv 1) (pe_int)) (fun _ _ => rfl))))
 (pss_cons (ps_set (i := 4) sc__law_spread.nd rfl (Or.inl rfl) (pe_op op_mod (pe_op op_powW (pe_op op_add (pe_op op_add (pe_op op_mul (pv 3) (pe_op op_add (pv 1) (pe_int))) (pe_op op_mod (pv 0) (pe_int))) (pe_int)) (pe_int)) (pe_ix (ixL K rfl) (pv 2) (pe_op op_mod (pe_op op_add (pv 1) (pe_int)) (pe_int)) (fun _ _ => rfl))))
 (pss_cons (ps_set (i := 5) sc__law_spread.nd rfl (Or.inl rfl) (pe_op op_mod (pe_op op_powW (pe_op op_add (pe_op op_add (pv 4) (pe_op op_mod (pv 3) (pe_int))) (pv 1)) (pe_int)) (pe_ix (ixL K rfl) (pv 2) (pe_op op_mod (pe_op op_add (pv 1) (pe_int)) (pe_int)) (fun _ _ => rfl))))
 (pss_one (ps_ret (pe_op op_add (pe_op op_mul (pe_op op_add (pe_op op_mul (pv 3) (pe_int)) (pv 4)) (pe_int)) (pv 5)))))))))), ?_⟩
  refine ⟨_, rfl, _, _, rfl, rfl, ⟨by decide, by decide, ls (by decide) (by omega)⟩, _, _, rfl, rfl, _, rfl, ite2 (fun e => ?_) (fun e => ?_)⟩
  · have e := of_decide_eq_true e
    refine ⟨_, rfl, ?_⟩
    refine q c H (Int.le_trans (by decide) e) (Same.refl H)
  · refine ⟨by show 8 ≤ sizeLine; decide, fun p1 n1 => ?_⟩
    have s1 := same_upd (o := .lst [V.int 2147483629, .int 2147483587, .int 2147483579, .int 2147483563, .int 2147483549, .int 2147483543, .int 2147483497, .int 2147483489]) n1
    refine ⟨_, rfl, ?_⟩
    refine ⟨by show 5 ≤ sizeLine; decide, fun p2 n2 => ?_⟩
    have s2 := same_upd (o := .lst [V.int 2147483477, .int 2147483423, .int 2147483399, .int 2147483353, .int 2147483323]) n2
    have n12 : p1 ≠ p2 := fun z => by rw [← z, upd_same] at n2; cases n2
    refine ⟨p1, p2, _, _, rfl, rfl, by rw [upd_ne n12]; exact upd_same, upd_same, by show 8 + 5 ≤ sizeLine; decide, fun p3 n3 => ?_⟩
    have s3 := same_upd (o := .lst ([V.int 2147483629, .int 2147483587, .int 2147483579, .int 2147483563, .int 2147483549, .int 2147483543, .int 2147483497, .int 2147483489] ++ [V.int 2147483477, .int 2147483423, .int 2147483399, .int 2147483353, .int 2147483323])) n3
    have hL : SqL K (upd (upd (upd H p1 (.lst [V.int 2147483629, .int 2147483587, .int 2147483579, .int 2147483563, .int 2147483549, .int 2147483543, .int 2147483497, .int 2147483489])) p2 (.lst [V.int 2147483477, .int 2147483423, .int 2147483399, .int 2147483353, .int 2147483323])) p3 (.lst ([V.int 2147483629, .int 2147483587, .int 2147483579, .int 2147483563, .int 2147483549, .int 2147483543, .int 2147483497, .int 2147483489] ++ [V.int 2147483477, .int 2147483423, .int 2147483399, .int 2147483353, .int 2147483323]))) p3 ([2147483629, 2147483587, 2147483579, 2147483563, 2147483549, 2147483543, 2147483497, 2147483489, 2147483477, 2147483423, 2147483399, 2147483353, 2147483323].map V.int) := SqL.of upd_same
    have sH := s1.trans (s2.trans s3)
    generalize (upd (upd (upd H p1 (.lst [V.int 2147483629, .int 2147483587, .int 2147483579, .int 2147483563, .int 2147483549, .int 2147483543, .int 2147483497, .int 2147483489])) p2 (.lst [V.int 2147483477, .int 2147483423, .int 2147483399, .int 2147483353, .int 2147483323])) p3 (.lst ([V.int 2147483629, .int 2147483587, .int 2147483579, .int 2147483563, .int 2147483549, .int 2147483543, .int 2147483497, .int 2147483489] ++ [V.int 2147483477, .int 2147483423, .int 2147483399, .int 2147483353, .int 2147483323]))) = H3 at hL sH ⊢
    have prime : ∀ i : Int, 0 ≤ i → ∃ pr : Int, atI ([2147483629, 2147483587, 2147483579, 2147483563, 2147483549, 2147483543, 2147483497, 2147483489, 2147483477, 2147483423, 2147483399, 2147483353, 2147483323].map V.int) (i % 13) = some (.int pr) ∧ 0 < pr ∧ pr < 2147483647 := fun i hi => by
      have h1 : 0 ≤ i % 13 := Int.emod_nonneg _ (by decide)
      have h2 : i % 13 < 13 := Int.emod_lt_of_pos _ (by decide)
      generalize i % 13 = k at h1 h2
      have hk : k = 0 ∨ k = 1 ∨ k = 2 ∨ k = 3 ∨ k = 4 ∨ k = 5 ∨ k = 6 ∨ k = 7 ∨ k = 8 ∨ k = 9 ∨ k = 10 ∨ k = 11 ∨ k = 12 := by omega
      rcases hk with rfl | rfl | rfl | rfl | rfl | rfl | rfl | rfl | rfl | rfl | rfl | rfl | rfl <;> exact ⟨_, rfl, by decide, by decide⟩
    obtain ⟨q1, a1, b1, c1⟩ := prime a h0
    obtain ⟨q2, a2, b2, c2⟩ := prime (a + 5) (by omega)
    obtain ⟨q3, a3, b3, c3⟩ := prime (a + 7) (by omega)
    have u0 : 0 ≤ c % 1000000007 := Int.emod_nonneg _ (by decide)
    have u1 : c % 1000000007 < 1000000007 := Int.emod_lt_of_pos _ (by decide)
    have v0 : 0 ≤ c % 65537 := Int.emod_nonneg _ (by decide)
    have v1 : c % 65537 < 65537 := Int.emod_lt_of_pos _ (by decide)
    have e1 : 0 ≤ c % 1000000007 * (2 * a + 69069) := Int.mul_nonneg u0 (by omega)
    have e2 : c % 1000000007 * (2 * a + 69069) ≤ 1000000007 * (2 * L + 69069) := Int.mul_le_mul (by omega) (by omega) (by omega) (by omega)
    -- one
    refine ⟨_, rfl, _, _, rfl, rfl, (by show (0 : Int) < _; decide), _, rfl, _, _, rfl, rfl, .inl ⟨by decide, by decide⟩, _, _, rfl, rfl, _, _, rfl, rfl, .inl ⟨by omega, by omega⟩, _, rfl, _, _, rfl, rfl, .inr ⟨by decide, by decide⟩, _, _, rfl, rfl, _, _, rfl, rfl, _, _, rfl, rfl, ⟨by decide, by decide, ls (by omega) (by omega)⟩,
      _, rfl, _, rfl, _, _, rfl, rfl, (by show (0 : Int) < _; decide), _, _, _, _, rfl, rfl, hL, a1, _, _, rfl, rfl, b1, ?_⟩
    have w0 : 0 ≤ (c % 1000000007 * (2 * a + 69069) + a * 40503 + 977) ^ 3 % q1 := Int.emod_nonneg _ (by omega)
    have w1 : (c % 1000000007 * (2 * a + 69069) + a * 40503 + 977) ^ 3 % q1 < q1 := Int.emod_lt_of_pos _ b1
    dsimp only [Int.reduceToNat]
    generalize (c % 1000000007 * (2 * a + 69069) + a * 40503 + 977) ^ 3 % q1 = o1 at w0 w1 ⊢
    have e3 : 0 ≤ o1 * (a + 3) := Int.mul_nonneg w0 (by omega)
    have e4 : o1 * (a + 3) ≤ 2147483647 * (L + 3) := Int.mul_le_mul (by omega) (by omega) (by omega) (by omega)
    -- two
    refine ⟨_, rfl, _, rfl, _, _, rfl, rfl, _, _, rfl, rfl, .inl ⟨by omega, by omega⟩, _, rfl, _, _, rfl, rfl, (by show (0 : Int) < _; decide), _, _, rfl, rfl, _, _, rfl, rfl, _, _, rfl, rfl, ⟨by decide, by decide, ls (by omega) (by omega)⟩,
      _, rfl, _, rfl, _, _, rfl, rfl, _, _, rfl, rfl, (by show (0 : Int) < _; decide), _, _, _, _, rfl, rfl, hL, a2, _, _, rfl, rfl, b2, ?_⟩
    have w2 : 0 ≤ (o1 * (a + 3) + c % 65537 + 5) ^ 5 % q2 := Int.emod_nonneg _ (by omega)
    have w3 : (o1 * (a + 3) + c % 65537 + 5) ^ 5 % q2 < q2 := Int.emod_lt_of_pos _ b2
    dsimp only [Int.reduceToNat]
    generalize (o1 * (a + 3) + c % 65537 + 5) ^ 5 % q2 = o2 at w2 w3 ⊢
    have x0 : 0 ≤ o1 % 1009 := Int.emod_nonneg _ (by decide)
    have x1 : o1 % 1009 < 1009 := Int.emod_lt_of_pos _ (by decide)
    -- three
    refine ⟨_, rfl, _, rfl, _, _, rfl, rfl, (by show (0 : Int) < _; decide), _, _, rfl, rfl, _, rfl, _, _, rfl, rfl, _, _, rfl, rfl, ⟨by decide, by decide, ls (by omega) (by omega)⟩,
      _, rfl, _, rfl, _, _, rfl, rfl, _, _, rfl, rfl, (by show (0 : Int) < _; decide), _, _, _, _, rfl, rfl, hL, a3, _, _, rfl, rfl, b3, ?_⟩
    have w4 : 0 ≤ (o2 + o1 % 1009 + a) ^ 3 % q3 := Int.emod_nonneg _ (by omega)
    dsimp only [Int.reduceToNat]
    generalize (o2 + o1 % 1009 + a) ^ 3 % q3 = o3 at w4 ⊢
    -- the answer
    refine ⟨_, rfl, _, _, rfl, rfl, .inr ⟨by decide, by decide⟩, _, rfl, _, _, rfl, rfl, _, _, rfl, rfl, .inr ⟨by decide, by decide⟩, _, rfl, _, _, rfl, rfl, ?_⟩
    exact q _ H3 (by omega) sH
theorem ok__law_open (T : Tx K mg) : Ok P w K mg base 1 "_law_open" ["_law_script"] (spOpen K) := by
  refine Ok.mk T.d__law_open sc__law_open (fun vs H Q E h => ?_) (fun f cdv A outer s H vs Q E hr h => ?_)
  · obtain ⟨a, ns, rfl, _⟩ := h
    rfl
  obtain ⟨a, ns, rfl, hS, hl, q⟩ := h
  refine ⟨_, (pss_cons (ps_set (i := 1) sc__law_open.nd rfl (Or.inl rfl) (pe_callTy (listQ K rfl) (by rfl) T.z_list (by decide +kernel) (pa_cons (pe_slice (slL K rfl) (pv 0) po_none (po_some (pe_int))) (pa_nil))))
 (pss_cons (ps_for PassesOwn.never rfl (piE K rfl (by rfl) T.z_enumerate (pa_cons (pe_slice (slL K rfl) (pv 0) (po_some (pe_int)) (po_some (pe_int))) (pa_nil))) (pgT K rfl 2 rfl (pgs_cons (pg_nameL (i := 2) sc__law_open.nd rfl rfl) (pgs_cons (pg_nameL (i := 3) sc__law_open.nd rfl rfl) (pgs_nil))))
 (pss_one (ps_asg (pe_op op_add (pe_ix (ixL K rfl) (pv 1) (pe_op op_mod (pv 2) (pe_int)) (fun _ _ => rfl)) (pv 3)) (pg_sub (pv 1) (pe_op op_mod (pv 2) (pe_int)) set_list))))
 (pss_one (ps_ret (pe_lst (pa_cons (pv 1) (pa_cons (pe_int) (pa_cons (pe_int) (pa_nil))))))))), ?_⟩
  -- cells = list(script[:12])
  refine ⟨.ref a, rfl, _, rfl, a, ns.map V.int, rfl, hS, fun t1 n1 => ?_⟩
  have s1 := same_upd (o := .lst (cutV (ns.map V.int) none (some 12))) n1
  refine ⟨t1, _, rfl, .inl (SqL.of upd_same), fun c n2 => ?_⟩
  have s2 := same_upd (o := .lst (cutV (ns.map V.int) none (some 12))) n2
  have e12 : cutV (ns.map V.int) none (some 12) = (ns.take 12).map V.int := by
    rw [show (12 : Int) = ((12 : Nat) : Int) from rfl, cut_take, List.map_take]
  have sH := s1.trans s2
  have hc : upd (upd H t1 (.lst (cutV (ns.map V.int) none (some 12)))) c (.lst (cutV (ns.map V.int) none (some 12))) c = some (.lst ((ns.take 12).map V.int)) := by rw [upd_same, e12]
  have nc : H c = none := s1.free n2
  generalize upd (upd H t1 (.lst (cutV (ns.map V.int) none (some 12)))) c (.lst (cutV (ns.map V.int) none (some 12))) = H2 at sH hc ⊢
  -- the loop
  refine ⟨.ref a, rfl, _, rfl, _, rfl, a, ns.map V.int, rfl, sH.seq hS, fun t2 n3 => ?_⟩
  have e63 : cutV (ns.map V.int) (some 12) (some 63) = (ns.drop 12).map V.int := by
    rw [show (12 : Int) = ((12 : Nat) : Int) from rfl, show (63 : Int) = ((63 : Nat) : Int) from rfl, cut_drop _ _ _ (by decide), List.take_of_length_le (by rw [List.length_map]; exact hl), List.map_drop]
  rw [e63]
  have s3 := same_upd (o := .lst ((ns.drop 12).map V.int)) n3
  refine ⟨t2, (ns.drop 12).map V.int, rfl, SqL.of upd_same, for_it (walk_enum (K := K) (a := t2) (xs := (ns.drop 12).map V.int)) (fun i σ H3 => ∃ y2 y3 cs, σ = [some (.ref a), some (.ref c), y2, y3] ∧ But c H2 H3 ∧ H3 t2 = some (.lst ((ns.drop 12).map V.int)) ∧ H3 c = some (.lst (cs.map V.int)) ∧ (cs : List Int).length = (ns.take 12).length) ?_ ?_ ?_ ?_⟩
  · exact ⟨none, none, ns.take 12, rfl, But.of s3, upd_same, s3 _ _ hc, rfl⟩
  · rintro i σ H3 _ ⟨y2, y3, cs, _, _, h2, _⟩
    exact SqL.of h2
  · rintro i x σ H3 H4 hi ⟨y2, y3, cs, rfl, bt, h2, h3, hlc⟩ ⟨t, x1, x2, rfl, nt, rfl, z1, z2⟩
    cases z1
    have z2 : ((ns.drop 12).map V.int)[i]? = some x2 := z2
    have hx : ∃ m : Int, x2 = .int m := by
      rw [List.getElem?_map] at z2
      cases z3 : (ns.drop 12)[i]? with
      | none => rw [z3] at z2; cases z2
      | some m => rw [z3] at z2; exact ⟨m, (Option.some.inj z2).symm⟩
    obtain ⟨m, rfl⟩ := hx
    have hlen : cs.length = 12 := by
      rw [hlc, List.length_take]
      rw [List.length_map, List.length_drop] at hi
      omega
    have k0 : (i : Int) % 12 = ((i % 12 : Nat) : Int) := by omega
    have k1 : i % 12 < cs.length := by omega
    have ntc : c ≠ t := ne_of_none h3 nt
    have h3t : upd H3 t (.tup [V.int (i : Nat), .int m]) c = some (.lst (cs.map V.int)) := by rw [upd_ne ntc]; exact h3
    have g1 : (cs.map V.int)[i % 12]? = some (.int cs[i % 12]) := by rw [List.getElem?_map, List.getElem?_eq_getElem k1]; rfl
    refine ⟨t, _, rfl, SqT.of upd_same, rfl, _, _, rfl, _, _, rfl, rfl, ?_⟩
    refine ⟨_, rfl, _, rfl, _, _, rfl, rfl, (by show (0 : Int) < _; decide), c, _, _, _, rfl, rfl, SqL.of h3t, atI_of _ k0 g1, _, rfl, _, _, rfl, rfl, _, rfl, _, rfl, _, _, rfl, rfl, (by show (0 : Int) < _; decide), c, _, _, _, rfl, rfl, h3t, ixN_of _ k0 (by rw [List.length_map]; exact k1), ?_⟩
    have nct2 : t2 ≠ c := (ne_of_none hc n3).symm
    refine ⟨some (.int (i : Nat)), some (.int m), cs.set (i % 12) (cs[i % 12] + m), rfl, bt.trans ((But.new nt).trans But.upd), ?_, ?_, ?_⟩
    · rw [upd_ne nct2, upd_ne (ne_of_none h2 nt)]; exact h2
    · rw [upd_same, List.map_set]
    · rw [List.length_set]; exact hlc
  · rintro σ H3 ⟨y2, y3, cs, rfl, bt, h2, h3, hlc⟩
    refine ⟨_, rfl, by show 3 ≤ sizeLine; decide, fun p np => ?_⟩
    have ncp : c ≠ p := ne_of_none h3 np
    have npH : H p = none := (show Same H H2 from sH).free ((bt.free (Ne.symm ncp) np))
    refine q p c _ (fun b o e => ?_) npH nc ⟨⟨0, 0, upd_same, by decide, by decide, by decide⟩, ⟨cs, by rw [upd_ne ncp]; exact h3⟩, ncp⟩
    rw [upd_ne (ne_of_none e npH)]
    exact bt _ _ (ne_of_none e nc) (sH _ _ e)
theorem ok__law_take (T : Tx K mg) (O__law_spread : Ok P w K mg base 1 "_law_spread" ["_law_cell", "_law_at"] spSpread) : Ok P w K mg base 2 "_law_take" ["_law_pen", "_law_many"] spTake := by
  refine Ok.mk T.d__law_take sc__law_take (fun vs H Q E h => ?_) (fun f cdv A outer s H vs Q E hr h => ?_)
  · obtain ⟨p, c, n, m, rfl, _⟩ := h
    rfl
  obtain ⟨p, c, n, m, rfl, pe, hn, hm, hw, q⟩ := h
  obtain ⟨⟨a, r, ep, a0, a1, r0⟩, ⟨ns, ec⟩, ncp⟩ := pe
  refine ⟨_, (pss_cons (ps_if (pt_cmpR op_lt (pe_ix (ixL K rfl) (pv 0) (pe_int) (fun _ _ => rfl)) (pv 1) (nomark _))
 (pss_cons (ps_set (i := 2) sc__law_take.nd rfl (Or.inl rfl) (pe_ix (ixL K rfl) (pv 0) (pe_int) (fun _ _ => rfl)))
 (pss_cons (ps_set (i := 3) sc__law_take.nd rfl (Or.inl rfl) (pe_int))
 (pss_cons (ps_if (pt_cmpR op_lt (pv 2) (pe_callB (lenQ K rfl) (by rfl) T.z_len PySem.boot_len (pa_cons (pe_ix (ixL K rfl) (pv 0) (pe_int) (fun _ _ => rfl)) (pa_nil))) (nomark _))
 (pss_one (ps_set (i := 3) sc__law_take.nd rfl (Or.inl rfl) (pe_ix (ixL K rfl) (pe_ix (ixL K rfl) (pv 0) (pe_int) (fun _ _ => rfl)) (pv 2) (fun _ _ => rfl))))
 (pss_one (ps_if (pt_cmpR op_gt (pe_callB (lenQ K rfl) (by rfl) T.z_len PySem.boot_len (pa_cons (pe_ix (ixL K rfl) (pv 0) (pe_int) (fun _ _ => rfl)) (pa_nil))) (pe_int) (nomark _))
 (pss_one (ps_set (i := 3) sc__law_take.nd rfl (Or.inl rfl) (pe_op op_mod (pe_ix (ixL K rfl) (pe_ix (ixL K rfl) (pv 0) (pe_int) (fun _ _ => rfl)) (pe_op op_mod (pe_op op_add (pe_op op_mul (pv 2) (pe_int)) (pe_int)) (pe_callB (lenQ K rfl) (by rfl) T.z_len PySem.boot_len (pa_cons (pe_ix (ixL K rfl) (pv 0) (pe_int) (fun _ _ => rfl)) (pa_nil)))) (fun _ _ => rfl)) (pe_op op_add (pe_op op_powW (pe_int) (pe_int)) (pv 2)))))
 (pss_nil))))
 (pss_cons (ps_asg (pe_op op_add (pv 2) (pe_int)) (pg_sub (pv 0) (pe_int) set_list))
 (pss_one (ps_asg (pe_fn O__law_spread (hr.mono (by omega)) (by rfl) (pa_cons (pv 3) (pa_cons (pv 2) (pa_nil)))) (pg_sub (pv 0) (pe_int) set_list)))))))
 (pss_nil))
 (pss_cons (ps_set (i := 4) sc__law_take.nd rfl (Or.inl rfl) (pe_op op_mod (pe_ix (ixL K rfl) (pv 0) (pe_int) (fun _ _ => rfl)) (pv 1)))
 (pss_cons (ps_asg (pe_op op_fdivW (pe_ix (ixL K rfl) (pv 0) (pe_int) (fun _ _ => rfl)) (pv 1)) (pg_sub (pv 0) (pe_int) set_list))
 (pss_one (ps_ret (pv 4)))))), ?_⟩
  have fin : ∀ (σ2 σ3 : Option V) (H1 : Hp) (a' r' : Int), But p H H1 → H1 p = some (.lst [.ref c, .int a', .int r']) → 0 ≤ a' → a' ≤ ((n + 1 : Nat) : Int) → 0 ≤ r' →
      (tSeq (tAsg (tOp (rI (fun _ j => 0 < j) fun i j => .int (i % j)) (tOp (rIxL K) (tVar 0) (tC (.int 2))) (tVar 1)) (gName 4)) (tSeq (tAsg (tOp (rI CDivW fun i j => .int (i / j)) (tOp (rIxL K) (tVar 0) (tC (.int 2))) (tVar 1)) (gSub (tVar 0) (tC (.int 2)) rSetL)) (tRet (tVar 4))) { nx := fun _ H' => Q .non H', rt := Q } [some (.ref p), some (.int m), σ2, σ3, none] H1) := by
    intro σ2 σ3 H1 a' r' bt e1 z0 z1 z2
    refine ⟨_, rfl, p, _, _, _, rfl, rfl, SqL.of e1, atI_of 2 rfl rfl, _, rfl, _, _, rfl, rfl, hm, ?_⟩
    refine ⟨_, rfl, p, _, _, _, rfl, rfl, SqL.of e1, atI_of 2 rfl rfl, _, rfl, _, _, rfl, rfl, wide_div hm hw (by decide) (by decide), _, rfl, p, _, _, _, rfl, rfl, e1, ixN_of 2 rfl (by show 2 < 3; decide), ?_⟩
    refine ⟨_, rfl, q _ _ (Int.emod_nonneg _ (by omega)) (Int.emod_lt_of_pos _ hm) (bt.trans But.upd) ⟨⟨a', r' / m, upd_same, z0, z1, Int.ediv_nonneg z2 (by omega)⟩, ⟨ns, ?_⟩, ncp⟩⟩
    rw [upd_ne ncp]
    exact bt _ _ ncp ec
  refine ⟨_, rfl, p, _, _, _, rfl, rfl, SqL.of ep, atI_of 2 rfl rfl, _, rfl, _, _, rfl, rfl, _, rfl, ite2 (fun e => ?_) (fun e => ?_)⟩
  · refine ⟨_, rfl, p, _, _, _, rfl, rfl, SqL.of ep, atI_of 1 rfl rfl, ?_⟩
    have fin2 : ∀ (cell : Int), (tSeq (tAsg (tOp (rI0 fun i j => .int (i + j)) (tVar 2) (tC (.int 1))) (gSub (tVar 0) (tC (.int 1)) rSetL)) (tAsg (tCall spSpread [] E0 (tCons (tVar 3) (tCons (tVar 2) tNil))) (gSub (tVar 0) (tC (.int 2)) rSetL)) { nx := fun σ1 H1 => (tSeq (tAsg (tOp (rI (fun _ j => 0 < j) fun i j => .int (i % j)) (tOp (rIxL K) (tVar 0) (tC (.int 2))) (tVar 1)) (gName 4)) (tSeq (tAsg (tOp (rI CDivW fun i j => .int (i / j)) (tOp (rIxL K) (tVar 0) (tC (.int 2))) (tVar 1)) (gSub (tVar 0) (tC (.int 2)) rSetL)) (tRet (tVar 4))) { nx := fun _ H' => Q .non H', rt := Q } σ1 H1), rt := Q } [some (.ref p), some (.int m), some (.int a), some (.int cell), none] H) := by
      intro cell
      refine ⟨_, rfl, _, _, rfl, rfl, _, rfl, p, _, _, _, rfl, rfl, ep, ixN_of 1 rfl (by show 1 < 3; decide), ?_⟩
      refine ⟨_, rfl, _, rfl, cell, a, rfl, a0, by omega, fun r' H2 hr0 sm => ?_⟩
      refine ⟨_, rfl, p, _, _, _, rfl, rfl, sm _ _ upd_same, ixN_of 2 rfl (by show 2 < 3; decide), ?_⟩
      exact fin _ _ _ (a + 1) r' (But.upd.trans ((But.of sm).trans But.upd)) upd_same (by omega) (by omega) hr0
    refine ⟨_, rfl, _, rfl, p, _, _, _, rfl, rfl, SqL.of ep, atI_of 0 rfl rfl, c, _, rfl, .inl (SqL.of ec), _, _, rfl, rfl, _, rfl, ite2 (fun e1 => ?_) (fun e1 => ?_)⟩
    · have e1 := of_decide_eq_true e1
      rw [List.length_map] at e1
      have k1 : a.toNat < ns.length := by omega
      have g1 : (ns.map V.int)[a.toNat]? = some (.int ns[a.toNat]) := by rw [List.getElem?_map, List.getElem?_eq_getElem k1]; rfl
      refine ⟨_, rfl, p, _, _, _, rfl, rfl, SqL.of ep, atI_of 0 rfl rfl, _, rfl, c, _, _, _, rfl, rfl, SqL.of ec, atI_of a.toNat (by omega) g1, ?_⟩
      exact fin2 _
    · refine ⟨_, rfl, p, _, _, _, rfl, rfl, SqL.of ep, atI_of 0 rfl rfl, c, _, rfl, .inl (SqL.of ec), _, _, rfl, rfl, _, rfl, ite2 (fun e2 => ?_) (fun e2 => ?_)⟩
      · have e2 := of_decide_eq_true e2
        rw [List.length_map] at e2
        have k0 : 0 ≤ (a * 5 + 3) % (ns.length : Int) := Int.emod_nonneg _ (by omega)
        have k1 : (a * 5 + 3) % (ns.length : Int) < ns.length := Int.emod_lt_of_pos _ e2
        have k2 : ((a * 5 + 3) % (ns.length : Int)).toNat < ns.length := by omega
        have g1 : (ns.map V.int)[((a * 5 + 3) % (ns.length : Int)).toNat]? = some (.int ns[((a * 5 + 3) % (ns.length : Int)).toNat]) := by rw [List.getElem?_map, List.getElem?_eq_getElem k2]; rfl
        refine ⟨_, rfl, p, _, _, _, rfl, rfl, SqL.of ep, atI_of 0 rfl rfl, _, rfl, _, _, rfl, rfl, .inr ⟨by decide, by decide⟩, _, _, rfl, rfl, _, rfl, p, _, _, _, rfl, rfl, SqL.of ep, atI_of 0 rfl rfl, c, _, rfl, .inl (SqL.of ec), _, _, rfl, rfl, by rw [List.length_map]; exact e2, c, _, _, _, rfl, rfl, SqL.of ec, atI_of _ (by rw [List.length_map]; omega) g1, _, _, rfl, rfl, ⟨by decide, by decide, lim_small (by decide) (by have := pen100; omega)⟩, _, rfl, _, _, rfl, rfl, _, _, rfl, rfl, ?_, ?_⟩
        · show (0 : Int) < 10 ^ (17 : Int).toNat + a
          have : (0 : Int) < 10 ^ (17 : Int).toNat := by decide
          omega
        · exact fin2 _
      · exact fin2 _
  · exact fin none none H a r (But.refl p H) ep a0 (by omega) r0
end

/-! ### texts and tests -/
open TL (tl)
open TL (numL joinL)
abbrev Sg (l : List Nat) : Str := ⟨l.toArray⟩
theorem tl_e : tl (Str.ofString "") = [] := by decide +kernel
theorem tl_small : tl (Str.ofString "abcdefghijklmnopqrstuvwxyz") = (List.range 26).map (97 + ·) := by decide +kernel
def ones (cs : List Nat) : List D := cs.map fun c => .str ⟨#[c]⟩
theorem strs_ones : ∀ cs : List Nat, strsOf (ones cs) = some (cs.map fun c => ⟨#[c]⟩)
  | [] => rfl
  | c :: cs => by
    show (strsOf (ones cs)).map _ = _
    rw [strs_ones cs]
    rfl
theorem joinL_nil : ∀ xs : List (List Nat), joinL [] xs = xs.flatten
  | [] => rfl
  | [x] => by simp [joinL]
  | x :: y :: r => by
    show x ++ ([] ++ joinL [] (y :: r)) = _
    rw [joinL_nil (y :: r)]
    simp
theorem join_ones (cs : List Nat) : Txt.join (Str.ofString "") (cs.map fun c => ⟨#[c]⟩) = Sg cs := by
  have h := SX.join_S [] (cs.map fun c => [c])
  rw [List.map_map, joinL_nil] at h
  have e : ∀ cs : List Nat, (cs.map fun c => [c]).flatten = cs := by
    intro cs
    induction cs with
    | nil => rfl
    | cons c cs ih => rw [List.map_cons, List.flatten_cons, ih]; rfl
  rw [e] at h
  have e2 : (Str.ofString "") = SX.S [] := TL.ext_tl tl_e
  rw [e2]
  exact h
theorem ones_sum (cs : List Nat) : ((cs.map fun c => (⟨#[c]⟩ : Str)).map (·.length)).sum = cs.length := by
  have e : (cs.map fun c => (⟨#[c]⟩ : Str)).map (·.length) = cs.map fun _ => 1 := by rw [List.map_map]; rfl
  rw [e]
  induction cs with
  | nil => rfl
  | cons c cs ih =>
    rw [List.map_cons, List.sum_cons, List.length_cons]
    have := ih (by rw [List.map_map]; rfl)
    omega
theorem in_textD {x : Str} {c : Nat} {Q : Bool → Prop} (h : Q (decide (c ∈ tl x))) : Q (xor false (!(Builtin.Str.occurrences x ⟨#[c]⟩ 0 x.length 1).isEmpty)) := by
  rw [Bool.false_xor, StrLaws.found_one]
  exact h
theorem cutS_to (l : List Nat) (j : Nat) : cutS (Sg l) none (some (j : Int)) = Sg (l.take j) := by
  unfold cutS
  rw [HT.sIx_none, HT.sIx_nat, TL.len_tl]
  refine congrArg Sg ?_
  show List.take _ (List.drop 0 l) = _
  rw [List.drop_zero, Nat.sub_zero]
  show List.take (min j l.length) l = _
  rcases Nat.le_total j l.length with h | h
  · rw [Nat.min_eq_left h]
  · rw [Nat.min_eq_right h, List.take_of_length_le (Nat.le_refl _), List.take_of_length_le h]
theorem cutS_from (l : List Nat) (j : Nat) (h : j ≤ l.length) : cutS (Sg l) (some (j : Int)) none = Sg (l.drop j) := by
  unfold cutS
  rw [HT.sIx_none, HT.sIx_nat, TL.len_tl]
  refine congrArg Sg ?_
  show List.take (l.length - min j l.length) (List.drop (min j l.length) l) = _
  rw [Nat.min_eq_left h]
  exact List.take_of_length_le (by rw [List.length_drop]; omega)
theorem sg_app (a b : List Nat) : (Sg a ++ Sg b : Str) = Sg (a ++ b) := by
  refine TL.ext_tl ?_
  rw [TL.tl_append]
theorem sg_len (a : List Nat) : (Sg a : Str).length = a.length := TL.len_tl _
theorem sg_tl (z : Str) : Sg (tl z) = z := TL.ext_tl rfl
theorem ite_either {b : Bool} {A B : Prop} (h1 : b = true → A) (h2 : b = false → B) : if b = true then A else B := by
  cases b with
  | true => exact h1 rfl
  | false => exact h2 rfl
/-! a test's worth, an expression's -/
def Tst (t : DB) (s : S) (b : Bool) : Prop := ∀ Q : Bool → S → Prop, Q b s → t s Q
def Exv (t : DT) (s : S) (d : D) : Prop := ∀ Q : D → S → Prop, Q d s → t s Q
theorem tst_and {a b : DB} {s : S} {x y : Bool} (h1 : Tst a s x) (h2 : x = true → Tst b s y) : Tst (dAnd a b) s (x && y) := fun Q q => h1 _ (by
  cases x with
  | true => exact ifp rfl (h2 rfl _ q)
  | false => exact ifn Bool.false_ne_true q)
theorem tst_or {a b : DB} {s : S} {x y : Bool} (h1 : Tst a s x) (h2 : x = false → Tst b s y) : Tst (dOr a b) s (x || y) := fun Q q => h1 _ (by
  cases x with
  | true => exact ifp rfl q
  | false => exact ifn Bool.false_ne_true (h2 rfl _ q))
theorem tst_not {a : DB} {s : S} {x : Bool} (h1 : Tst a s x) : Tst (dNot a) s (!x) := fun Q q => h1 _ q
theorem tst_ex {t : DT} {s : S} {b : Bool} (h : Exv t s (.bool b)) : Tst (dBl t) s b := fun Q q => h _ q
theorem exv_and {a b : DT} {s : S} {x y : Bool} (h1 : Exv a s (.bool x)) (h2 : x = true → Exv b s (.bool y)) : Exv (dAndV a b) s (.bool (x && y)) := fun Q q => h1 _ (by
  cases x with
  | true => exact h2 rfl _ q
  | false => exact q)
theorem exv_or {a b : DT} {s : S} {x y : Bool} (h1 : Exv a s (.bool x)) (h2 : x = false → Exv b s (.bool y)) : Exv (dOrV a b) s (.bool (x || y)) := fun Q q => h1 _ (by
  cases x with
  | true => exact q
  | false => exact h2 rfl _ q)
theorem exv_not {a : DT} {s : S} {x : Bool} (h1 : Exv a s (.bool x)) : Exv (dNotV a) s (.bool (!x)) := fun Q q => h1 _ q
theorem exv_if {c : DB} {a b : DT} {s : S} {k : Bool} {d : D} (h : Tst c s k) (h1 : k = true → Exv a s d) (h2 : k = false → Exv b s d) : Exv (dIf c a b) s d := fun Q q => h _ (by
  cases k with
  | true => exact ifp rfl (h1 rfl _ q)
  | false => exact ifn Bool.false_ne_true (h2 rfl _ q))
theorem exv_chain {a b c : DT} {f g : Int → Int → Bool} {s : S} {i j k : Int} (ha : Exv a s (.int i)) (hb : Exv b s (.int j)) (hc : Exv c s (.int k)) : Exv (dChain (cmpD f) (cmpD g) a b c) s (.bool (f i j && g j k)) := fun Q q => ha _ (hb _ (by
  show (cmpD f (.int i) (.int j) _)
  simp only [cmpD]
  cases h : f i j with
  | true => rw [h] at q; exact hc _ (by simp only [cmpD]; exact q)
  | false => rw [h] at q; exact q))
/-- if t: a (which leaves), then the rest -/
theorem seqIf {t : DB} {a r : DSt} {E : DEnds} {s : S} {b : Bool} (h : Tst t s b) (h1 : b = true → a { E with nx := r E } s) (h2 : b = false → r E s) : dSeq (dIfS t a dNext) r E s := h _ (by
  cases b with
  | true => exact ifp rfl (h1 rfl)
  | false => exact ifn Bool.false_ne_true (h2 rfl))
theorem ifS {t : DB} {a r : DSt} {E : DEnds} {s : S} {b : Bool} (h : Tst t s b) (h1 : b = true → a E s) (h2 : b = false → r E s) : dIfS t a r E s := h _ (by
  cases b with
  | true => exact ifp rfl (h1 rfl)
  | false => exact ifn Bool.false_ne_true (h2 rfl))
theorem retS {t : DT} {E : DEnds} {s : S} {d : D} (h : Exv t s d) (q : E.rt d s) : dRet t E s := h _ q
theorem boolsOf_map : ∀ bs : List Bool, boolsOf (bs.map PyData.bool) = some bs
  | [] => rfl
  | b :: bs => by
    show (boolsOf (bs.map PyData.bool)).map _ = _
    rw [boolsOf_map bs]
    rfl
theorem all_ok {bs : List Bool} {Q : D → Prop} (q : Q (.bool (bs.all id))) : allD [.list (bs.map PyData.bool)] Q := by
  exact ⟨bs, boolsOf_map bs, q⟩
/-! comprehensions with one name -/
theorem lc1 {i : Nat} {e : DT} {vs : List Nat} {Q : List D → S → Prop} {items : List D} (Inv : Nat → List D → S → Prop) {s : S} (h0 : Inv 0 [] s)
    (step : ∀ j d acc s (N : List D → S → Prop), items[j]? = some d → Inv j acc s → (∀ acc' s', Inv (j + 1) acc' s' → N acc' s') → e { s with δ := s.δ.set i (some d) } fun y s3 => N (acc ++ [y]) (wipeS s3 vs))
    (fin : ∀ acc s, Inv items.length acc s → Q acc s) : lcD (sName i) dYes e vs Q items [] s :=
  lcD_ind Inv h0 (fun j d acc s N hd hi hN => step j d acc s N hd hi hN) fin
theorem lc1if {i : Nat} {c : DB} {e : DT} {vs : List Nat} {Q : List D → S → Prop} {items : List D} (Inv : Nat → List D → S → Prop) {s : S} (h0 : Inv 0 [] s)
    (step : ∀ j d acc s (N : List D → S → Prop), items[j]? = some d → Inv j acc s → (∀ acc' s', Inv (j + 1) acc' s' → N acc' s') → c { s with δ := s.δ.set i (some d) } fun k s2 => if k = true then e s2 fun y s3 => N (acc ++ [y]) (wipeS s3 vs) else N acc (wipeS s2 vs))
    (fin : ∀ acc s, Inv items.length acc s → Q acc s) : lcD (sName i) c e vs Q items [] s :=
  lcD_ind Inv h0 (fun j d acc s N hd hi hN => step j d acc s N hd hi hN) fin
theorem orV_ok {a b : DT} {s : S} {x y : Bool} {Q : D → S → Prop} (h1 : Exv a s (.bool x)) (h2 : x = false → Exv b s (.bool y)) (q : Q (.bool (x || y)) s) : dOrV a b s Q := exv_or h1 h2 Q q
theorem andV_ok {a b : DT} {s : S} {x y : Bool} {Q : D → S → Prop} (h1 : Exv a s (.bool x)) (h2 : x = true → Exv b s (.bool y)) (q : Q (.bool (x && y)) s) : dAndV a b s Q := exv_and h1 h2 Q q
theorem seqPar {i j : Nat} {a : DA} {r : DSt} {E : DEnds} {s : S} {d e : D} (h : ∀ Q : List D → S → Prop, Q [d, e] s → a s Q) (k : r E { s with δ := (s.δ.set i (some d)).set j (some e) }) : dSeq (dPar i j a) r E s := h _ k
theorem seqSet {i : Nat} {a : DT} {r : DSt} {E : DEnds} {s : S} {d : D} (h : Exv a s d) (k : r E { s with δ := s.δ.set i (some d) }) : dSeq (dSet i a) r E s := h _ k

/-! ### one test known, one putting in (as in K02d, K02j) -/
theorem seqY {t : DB} {a r : DSt} {E : DEnds} {s : S} (h : Tst t s true) (k : a { E with nx := r E } s) : dSeq (dIfS t a dNext) r E s := seqIf (b := true) h (fun _ => k) (fun z => nomatch z)
theorem seqN {t : DB} {a r : DSt} {E : DEnds} {s : S} (h : Tst t s false) (k : r E s) : dSeq (dIfS t a dNext) r E s := seqIf (b := false) h (fun z => nomatch z) (fun _ => k)
theorem seqSetX {i : Nat} {a : DT} {d : D} {r : DSt} {E : DEnds} {s : S} (h : Exv a s d) (k : r E { s with δ := s.δ.set i (some d) }) : dSeq (dSet i a) r E s := h _ k
theorem seqSetMX {i : Nat} {a : DT} {d : D} {r : DSt} {E : DEnds} {s : S} (h : Exv a s d) (hc : isC d = true) (k : r E { s with δ := s.δ.set i (some d) }) : dSeq (dSetM i a) r E s := h _ ⟨hc, k⟩
theorem retY {c : DB} {a b : DT} {E : DEnds} {s : S} (h : Tst c s true) (k : dRet a E s) : dRet (dIf c a b) E s := h _ (ifp rfl k)
theorem retN {c : DB} {a b : DT} {E : DEnds} {s : S} (h : Tst c s false) (k : dRet b E s) : dRet (dIf c a b) E s := h _ (ifn Bool.false_ne_true k)
theorem retOrY {a b : DT} {E : DEnds} {s : S} (h : Exv a s (.bool true)) (k : E.rt (.bool true) s) : dRet (dOrV a b) E s := h _ k
theorem retOrN {a b : DT} {E : DEnds} {s : S} (h : Exv a s (.bool false)) (k : dRet b E s) : dRet (dOrV a b) E s := h _ k
theorem cutSetX {i : Nat} {a : DT} {d : D} {r : DSt} {E : DEnds} {s : S} (h : Exv a s d) (k : r E { s with δ := s.δ.set i (some d) }) : dCut (dSet i a) r E s := ⟨fun s' => s' = { s with δ := s.δ.set i (some d) }, h _ rfl, fun s' e => by rw [e]; exact k⟩
theorem exIfY {c : DB} {a b : DT} {s : S} {d : D} (h : Tst c s true) (k : Exv a s d) : Exv (dIf c a b) s d := fun Q q => h _ (ifp rfl (k Q q))
theorem exIfN {c : DB} {a b : DT} {s : S} {d : D} (h : Tst c s false) (k : Exv b s d) : Exv (dIf c a b) s d := fun Q q => h _ (ifn Bool.false_ne_true (k Q q))
theorem tBl {a : DT} {s : S} {b : Bool} (h : Exv a s (.bool b)) : Tst (dBl a) s b := fun Q q => h _ q
theorem exIx {i j : Nat} {ds : List D} {d : D} {s : S} (hs : s.δ[i]? = some (some (.tuple ds))) (hd : ds[j]? = some d) : Exv (dOp ixD (dV i) (dC (.int (j : Nat)))) s d := fun Q q => by
  unfold dOp dV
  simp only [hs]
  exact ix_ok j rfl hd q
theorem cutThru {a b : DSt} {E : DEnds} {s : S} (h : a { E with nx := fun s' => b E s' } s) : dCut a b E s := ⟨fun s' => b E s', h, fun _ z => z⟩
theorem ifS_either {c : DB} {a b : DSt} {E : DEnds} {s : S} {k : Bool} (h : Tst c s k) (h1 : k = true → a E s) (h2 : k = false → b E s) : dIfS c a b E s := h _ (by
  cases k with
  | true => exact ifp rfl (h1 rfl)
  | false => exact ifn Bool.false_ne_true (h2 rfl))

/-! ### terms, their forms and sums -/
abbrev wT (x : String) : D := .str (Str.ofString x)
inductive Th
  | num (i : Int)
  | name (x : D)
  | add (a b : Th)
  | mul (i : Int) (a : Th)
  | size (r : Th)
  | read (r a : Th)
  | div (a : Th) (k : Int)
  | mod (a : Th) (k : Int)
  | ntn (f : D) (ps : Th)
  | row (x : D)
  | wth (r a b : Th)
  | room (a : Th)
  | pnil
  | pcons (p ps : Th)
def consD (x : D) : D → D
  | .tuple l => .tuple (x :: l)
  | y => y
def Th.d : Th → D
  | .num i => .tuple [wT "num", .int i]
  | .name x => .tuple [wT "name", x]
  | .add a b => .tuple [wT "add", a.d, b.d]
  | .mul i a => .tuple [wT "mul", .int i, a.d]
  | .size r => .tuple [wT "size", r.d]
  | .read r a => .tuple [wT "read", r.d, a.d]
  | .div a k => .tuple [wT "div", a.d, .int k]
  | .mod a k => .tuple [wT "mod", a.d, .int k]
  | .ntn f ps => .tuple [wT "notion", f, ps.d]
  | .row x => .tuple [wT "row", x]
  | .wth r a b => .tuple [wT "with", r.d, a.d, b.d]
  | .room a => .tuple [wT "room", a.d]
  | .pnil => .tuple []
  | .pcons p ps => consD p.d ps.d
def Th.isRow : Th → Bool
  | .row _ => true
  | .wth _ _ _ => true
  | .room _ => true
  | _ => false
/-- a row of places -/
def Th.isPl : Th → Bool
  | .pnil => true
  | .pcons _ ps => ps.isPl
  | _ => false
def Th.plen : Th → Nat
  | .pcons _ ps => ps.plen + 1
  | _ => 0
/-- an atom or a row -/
def Th.at : Th → Bool
  | .num _ => false
  | .add _ _ => false
  | .mul _ _ => false
  | .pnil => false
  | .pcons _ _ => false
  | _ => true
/-- what a dict of atoms holds -/
structure En where
  ky : Str
  at_ : D
  w : Int
  fm : D
def insE : List En → D → Int → D → List En
  | [], a, w, f => [⟨PyData.shown f, a, w, f⟩]
  | e :: es, a, w, f => if e.ky = PyData.shown f then ⟨e.ky, e.at_, e.w + w, e.fm⟩ :: es else e :: insE es a w f
def insA (es : List En) (ps : List (D × Int × D)) : List En := ps.foldl (fun es p => insE es p.1 p.2.1 p.2.2) es
def live (es : List En) : List En := es.filter fun e => !decide (e.w = 0)
def fpair (e : En) : D := .tuple [e.fm, .int e.w]
def apair (e : En) : D := .tuple [e.at_, .int e.w]
def enD (e : En) : D := .tuple [e.at_, .int e.w, e.fm]
def esD (es : List En) : List (D × D) := es.map fun e => (.str e.ky, enD e)
def Sml (i : Int) : Prop := i.natAbs < 2 ^ 1900
def RpOk (d : D) : Prop := Sh d ∧ PyData.showable d = true ∧ (PyData.shown d).length ≤ sizeLine
/-- what a term comes to: what it puts into a dict, so often; its number; the form of an atom; how deep the calls go; whether all is within bounds -/
structure Sm where
  pu : Int → List (D × Int × D)
  nu : Int → Int
  fi : D
  ci : Nat
  cg : Nat
  okI : Prop
  okG : Int → Prop
def forms (s : Sm) : List D := (live (insA [] (s.pu 1))).map fpair
def sumF (s : Sm) : D := .tuple [wT "sum", .tuple (sortK (forms s)), .int (s.nu 1)]
def foS (r : Bool) (s : Sm) : D := if r = true then s.fi else sumF s
def okF (r : Bool) (s : Sm) : Prop := if r = true then s.okI else s.okG 1 ∧ (s.pu 1).length ≤ 1000 ∧ ∀ d ∈ forms s, RpOk d
def cfS (r : Bool) (s : Sm) : Nat := 1 + if r = true then s.ci else s.cg
def atomS (d fi : D) (ci : Nat) (okI : Prop) : Sm := ⟨fun o => [(d, o, fi)], fun _ => 0, fi, ci, ci + 2, okI, fun _ => okI ∧ RpOk fi⟩
def Th.sm : Th → Sm
  | .num i => ⟨fun _ => [], fun o => o * i, .none, 0, 1, False, fun o => Sml o ∧ Sml i⟩
  | .add a b => ⟨fun o => a.sm.pu o ++ b.sm.pu o, fun o => a.sm.nu o + b.sm.nu o, .none, 0, 1 + max a.sm.cg b.sm.cg, False, fun o => a.sm.okG o ∧ b.sm.okG o⟩
  | .mul i a => ⟨fun o => a.sm.pu (o * i), fun o => a.sm.nu (o * i), .none, 0, 1 + a.sm.cg, False, fun o => Sml o ∧ Sml i ∧ a.sm.okG (o * i)⟩
  | .name x => atomS (.tuple [wT "name", x]) (.tuple [wT "name", x]) 1 True
  | .row x => atomS (.tuple [wT "row", x]) (.tuple [wT "row", x]) 1 True
  | .size r => atomS (.tuple [wT "size", r.d]) (.tuple [wT "size", foS r.isRow r.sm]) (1 + cfS r.isRow r.sm) (okF r.isRow r.sm)
  | .read r a => atomS (.tuple [wT "read", r.d, a.d]) (.tuple [wT "read", foS r.isRow r.sm, foS a.isRow a.sm]) (1 + max (cfS r.isRow r.sm) (cfS a.isRow a.sm)) (okF r.isRow r.sm ∧ okF a.isRow a.sm)
  | .div a k => atomS (.tuple [wT "div", a.d, .int k]) (.tuple [wT "div", foS a.isRow a.sm, .int k]) (1 + cfS a.isRow a.sm) (okF a.isRow a.sm)
  | .mod a k => atomS (.tuple [wT "mod", a.d, .int k]) (.tuple [wT "mod", foS a.isRow a.sm, .int k]) (1 + cfS a.isRow a.sm) (okF a.isRow a.sm)
  | .ntn f ps => atomS (.tuple [wT "notion", f, ps.d]) (.tuple [wT "notion", f, ps.sm.fi]) (1 + ps.sm.ci) (ps.isPl = true ∧ ps.plen ≤ 1000 ∧ ps.sm.okI)
  | .wth r a b => atomS (.tuple [wT "with", r.d, a.d, b.d]) (.tuple [wT "with", foS r.isRow r.sm, foS a.isRow a.sm, foS b.isRow b.sm]) (1 + max (cfS r.isRow r.sm) (max (cfS a.isRow a.sm) (cfS b.isRow b.sm))) (okF r.isRow r.sm ∧ okF a.isRow a.sm ∧ okF b.isRow b.sm)
  | .room a => atomS (.tuple [wT "room", a.d]) (.tuple [wT "room", foS a.isRow a.sm]) (1 + cfS a.isRow a.sm) (okF a.isRow a.sm)
  | .pnil => ⟨fun _ => [], fun _ => 0, .tuple [], 0, 0, True, fun _ => False⟩
  | .pcons p ps => ⟨fun _ => [], fun _ => 0, consD (foS p.isRow p.sm) ps.sm.fi, max (cfS p.isRow p.sm) ps.sm.ci, 0, okF p.isRow p.sm ∧ ps.sm.okI, fun _ => False⟩
def Th.fo (t : Th) : D := foS t.isRow t.sm
def inF (k : Nat) : DF := fun ds Q => ∃ t : Th, ds = [t.d] ∧ t.at = true ∧ t.sm.ci ≤ k ∧ t.sm.okI ∧ Q t.sm.fi
def foF (k : Nat) : DF := fun ds Q => ∃ t : Th, ds = [t.d] ∧ cfS t.isRow t.sm ≤ k ∧ okF t.isRow t.sm ∧ Q t.fo
def gaF (k : Nat) : List D → (D → D → Prop) → Prop := fun ds Q => ∃ (es : List En) (t : Th) (o : Int), ds = [.dict (esD es), t.d, .int o] ∧ t.sm.cg ≤ k ∧ t.sm.okG o ∧ (es.map En.ky).Nodup ∧ es.length + (t.sm.pu o).length ≤ 2000 ∧ Q (.int (t.sm.nu o)) (.dict (esD (insA es (t.sm.pu o))))
def ppF (k : Nat) : List D → (D → D → Prop) → Prop := fun ds Q => ∃ (es : List En) (t : Th) (o : Int), ds = [.dict (esD es), t.d, .int o] ∧ t.at = true ∧ 1 + t.sm.ci ≤ k ∧ t.sm.okI ∧ RpOk t.sm.fi ∧ (es.map En.ky).Nodup ∧ es.length ≤ 2000 ∧ Q .none (.dict (esD (insE es t.d o t.sm.fi)))
/-! the dict -/
theorem findE {es : List En} {m : Str} : findD (esD es) (.str m) = (es.find? fun e => decide (e.ky = m)).map enD := by
  induction es with
  | nil => rfl
  | cons e es ih =>
    show findD ((PyData.str e.ky, enD e) :: esD es) (.str m) = _
    unfold findD
    rw [List.find?_cons]
    by_cases h : e.ky = m
    · rw [if_pos (by simp [keyIs, h])]
      simp [h]
    · rw [if_neg (by simp [keyIs, h]), ih]
      simp [h]
theorem insE_len (es : List En) (a : D) (w : Int) (f : D) : (insE es a w f).length ≤ es.length + 1 := by
  induction es with
  | nil => simp [insE]
  | cons e es ih =>
    unfold insE
    split
    · simp
    · simp only [List.length_cons]; omega
theorem insA_len : ∀ (ps : List (D × Int × D)) (es : List En), (insA es ps).length ≤ es.length + ps.length
  | [], es => Nat.le_refl _
  | p :: ps, es => by
    have h1 := insA_len ps (insE es p.1 p.2.1 p.2.2)
    have h2 := insE_len es p.1 p.2.1 p.2.2
    show (insA (insE es p.1 p.2.1 p.2.2) ps).length ≤ _
    rw [List.length_cons]
    omega
theorem insA_app (es : List En) (ps qs : List (D × Int × D)) : insA es (ps ++ qs) = insA (insA es ps) qs := by unfold insA; rw [List.foldl_append]
theorem insE_ky (es : List En) (a : D) (w : Int) (f : D) : (insE es a w f).map En.ky = if PyData.shown f ∈ es.map En.ky then es.map En.ky else es.map En.ky ++ [PyData.shown f] := by
  induction es with
  | nil => rfl
  | cons e es ih =>
    unfold insE
    by_cases h : e.ky = PyData.shown f
    · rw [if_pos h, List.map_cons, List.map_cons, if_pos (by rw [← h]; exact List.mem_cons_self ..)]
    · rw [if_neg h, List.map_cons, List.map_cons, ih]
      have hm : (PyData.shown f ∈ e.ky :: es.map En.ky) ↔ PyData.shown f ∈ es.map En.ky := by
        rw [List.mem_cons]
        exact ⟨fun z => z.resolve_left (fun z => h z.symm), .inr⟩
      by_cases h2 : PyData.shown f ∈ es.map En.ky
      · rw [if_pos h2, if_pos (hm.mpr h2)]
      · rw [if_neg h2, if_neg (fun z => h2 (hm.mp z))]
        rfl
theorem insE_nd {es : List En} (a : D) (w : Int) (f : D) (h : (es.map En.ky).Nodup) : ((insE es a w f).map En.ky).Nodup := by
  rw [insE_ky]
  split
  · exact h
  · rename_i n
    exact List.nodup_append.mpr ⟨h, by simp, fun x hx y hy => by
      rw [List.mem_singleton.mp hy]
      exact fun z => n (z ▸ hx)⟩
theorem insA_nd : ∀ (ps : List (D × Int × D)) {es : List En}, (es.map En.ky).Nodup → ((insA es ps).map En.ky).Nodup
  | [], _, h => h
  | p :: ps, es, h => insA_nd ps (insE_nd p.1 p.2.1 p.2.2 h)
theorem find_ky {es : List En} {m : Str} : (es.find? fun e => decide (e.ky = m)) = none ↔ m ∉ es.map En.ky := by
  rw [List.find?_eq_none]
  constructor
  · rintro h z
    obtain ⟨e, me, rfl⟩ := List.mem_map.mp z
    exact h e me (by simp)
  · intro h e me z
    exact h (List.mem_map.mpr ⟨e, me, of_decide_eq_true z⟩)
/-- putting in what was got, added to -/
theorem putE {es : List En} {a f : D} {w : Int} (nd : (es.map En.ky).Nodup) : putD (esD es) (.str (PyData.shown f)) (match es.find? fun e => decide (e.ky = PyData.shown f) with
    | some e => .tuple [e.at_, .int (e.w + w), e.fm]
    | none => .tuple [a, .int (0 + w), f]) = esD (insE es a w f) := by
  have go : ∀ es : List En, (es.map En.ky).Nodup → (∀ e, (es.find? fun e => decide (e.ky = PyData.shown f)) = some e → ((esD es).map fun kv => if keyIs kv.1 (.str (PyData.shown f)) = true then (kv.1, PyData.tuple [e.at_, .int (e.w + w), e.fm]) else kv) = esD (insE es a w f)) := by
    intro es
    induction es with
    | nil => intro _ e h; cases h
    | cons x es ih =>
      intro nd e h
      rw [List.map_cons, List.nodup_cons] at nd
      rw [List.find?_cons] at h
      unfold insE
      by_cases hx : x.ky = PyData.shown f
      · rw [decide_eq_true hx] at h
        cases h
        rw [if_pos hx]
        show (if keyIs (.str x.ky) (.str (PyData.shown f)) = true then _ else _) :: _ = _ :: esD es
        rw [if_pos (by simp [keyIs, hx])]
        congr 1
        unfold esD
        rw [List.map_map]
        refine List.map_congr_left fun y hy => ?_
        show (if keyIs (.str y.ky) (.str (PyData.shown f)) = true then _ else _) = _
        rw [if_neg]
        intro z
        have : y.ky = PyData.shown f := by simpa [keyIs] using z
        exact nd.1 (by rw [hx, ← this]; exact List.mem_map_of_mem hy)
      · rw [decide_eq_false hx] at h
        rw [if_neg hx]
        show (if keyIs (.str x.ky) (.str (PyData.shown f)) = true then _ else _) :: _ = _ :: esD _
        rw [if_neg (by simp [keyIs, hx])]
        congr 1
        exact ih nd.2 e h
  unfold putD
  rw [findE]
  cases q : es.find? fun e => decide (e.ky = PyData.shown f) with
  | some e =>
    rw [if_pos (show (Option.map enD (some e)).isSome = true from rfl)]
    exact go es nd e q
  | none =>
    rw [if_neg (by simp)]
    have n := find_ky.mp q
    have h2 : insE es a w f = es ++ [⟨PyData.shown f, a, w, f⟩] := by
      clear q nd go
      induction es with
      | nil => rfl
      | cons x es ih =>
        rw [List.map_cons, List.mem_cons, not_or] at n
        unfold insE
        rw [if_neg (Ne.symm n.1), ih n.2]
        rfl
    rw [h2, Int.zero_add]
    unfold esD
    rw [List.map_append]
    rfl

/-! ### the program's forms and sums -/
theorem set_back {α : Type} {l : List (Option α)} {i : Nat} {a : Option α} (h : l[i]? = some none) : (l.set i a).set i none = l := by
  rw [List.set_set]
  apply List.ext_getElem?
  intro j
  by_cases e : j = i
  · subst e
    rw [List.getElem?_set_self (List.getElem?_eq_some_iff.mp h).1, h]
  · rw [List.getElem?_set_ne (Ne.symm e)]
/-- a comprehension whose items come to what is told, one by one, the state as it was -/
theorem lcEach {i : Nat} {e : DT} {Q : List D → S → Prop} : ∀ (ps gs acc : List D) (s : S), s.δ[i]? = some none → ps.length = gs.length → (∀ (j : Nat) (p g : D), ps[j]? = some p → gs[j]? = some g → ∀ Q : D → S → Prop, Q g { s with δ := s.δ.set i (some p) } → e { s with δ := s.δ.set i (some p) } Q) → Q (acc ++ gs) s → lcD (sName i) dYes e [i] Q ps acc s
  | [], [], acc, s, _, _, _, q => by
    rw [List.append_nil] at q
    exact q
  | p :: ps, g :: gs, acc, s, hs, hl, h, q => by
    show e { s with δ := s.δ.set i (some p) } fun y s3 => lcD (sName i) dYes e [i] Q ps (acc ++ [y]) (wipeS s3 [i])
    refine h 0 p g rfl rfl _ ?_
    have e1 : wipeS { s with δ := s.δ.set i (some p) } [i] = s := by
      show ({ s with δ := (s.δ.set i (some p)).set i none } : S) = s
      rw [set_back hs]
    rw [e1]
    exact lcEach ps gs (acc ++ [g]) s hs (by simpa using hl) (fun j p' g' h1 h2 => h (j + 1) p' g' h1 h2) (by rw [List.append_assoc]; exact q)
  | [], _ :: _, _, _, _, hl, _, _ => by simp at hl
  | _ :: _, [], _, _, _, hl, _, _ => by simp at hl
theorem pl_facts : ∀ (t : Th), t.isPl = true → ∃ L : List Th, L.length = t.plen ∧ t.d = .tuple (L.map Th.d) ∧ t.sm.fi = .tuple (L.map Th.fo) ∧ (t.sm.okI → ∀ p ∈ L, okF p.isRow p.sm) ∧ ∀ p ∈ L, cfS p.isRow p.sm ≤ t.sm.ci
  | .pnil, _ => ⟨[], rfl, rfl, rfl, fun _ _ m => (nomatch m), fun _ m => (nomatch m)⟩
  | .pcons p ps, h => by
    obtain ⟨L, h0, h1, h2, h3, h4⟩ := pl_facts ps h
    refine ⟨p :: L, by rw [List.length_cons, h0]; rfl, ?_, ?_, fun ho q m => ?_, fun q m => ?_⟩
    · show consD p.d ps.d = _
      rw [h1]
      rfl
    · show consD (foS p.isRow p.sm) ps.sm.fi = _
      rw [h2]
      rfl
    · rcases List.mem_cons.mp m with rfl | m
      · exact ho.1
      · exact h3 ho.2 q m
    · show _ ≤ max _ _
      rcases List.mem_cons.mp m with rfl | m
      · exact Nat.le_max_left _ _
      · exact Nat.le_trans (h4 q m) (Nat.le_max_right _ _)
theorem tIn2 {i : Nat} {x y1 y2 : Str} {s : S} {b : Bool} (hs : s.δ[i]? = some (some (.str x))) (hb : (decide (y1 = x) || decide (y2 = x)) = b) : Tst (dBl (dOp (inD false) (dV i) (dTup (dCons (dC (.str y1)) (dCons (dC (.str y2)) dNil))))) s b := by
  subst hb
  intro Q q
  unfold dBl dOp dV
  simp only [hs]
  refine ⟨rfl, rfl, ?_⟩
  show Q (xor false ((decide (y1 = x)) || ((decide (y2 = x)) || false))) s
  rw [Bool.false_xor, Bool.or_false]
  exact q
theorem tw {i : Nat} {x y : Str} {s : S} {b : Bool} (hs : s.δ[i]? = some (some (.str x))) (hb : decide (x = y) = b) : Tst (dBl (dOp eqD (dV i) (dC (.str y)))) s b := by
  subst hb
  intro Q q
  unfold dBl dOp dV
  simp only [hs]
  exact q
/-- a part within: a term or row, or a number -/
inductive Pt (k : Nat) : D → D → Prop
  | th (t : Th) : cfS t.isRow t.sm ≤ k → okF t.isRow t.sm → Pt k t.d t.fo
  | int (i : Int) : Pt k (.int i) (.int i)
theorem Th.d_tup : ∀ t : Th, isB .tuple t.d = true
  | .num _ => rfl
  | .name _ => rfl
  | .add _ _ => rfl
  | .mul _ _ => rfl
  | .size _ => rfl
  | .read _ _ => rfl
  | .div _ _ => rfl
  | .mod _ _ => rfl
  | .ntn _ _ => rfl
  | .row _ => rfl
  | .wth _ _ _ => rfl
  | .room _ => rfl
  | .pnil => rfl
  | .pcons p ps => by
    show isB .tuple (consD p.d ps.d) = true
    have := Th.d_tup ps
    cases e : ps.d <;> rw [e] at this <;> first | rfl | cases this
theorem cut_one (x : D) (r : List D) : cutD (x :: r) (some 1) none = r := by
  unfold cutD
  have h1 : HT.sIx (x :: r).length 0 (some 1) = 1 := by
    have := HT.sIx_nat (x :: r).length 0 1
    rw [show ((1 : Nat) : Int) = 1 from rfl] at this
    rw [this]
    simp
  rw [h1, HT.sIx_none]
  simp
theorem in_gen {k : Nat} {E : DEnds} {x : Str} {ps gs : List D} (h3 : ps.length ≤ 3) (hl : ps.length = gs.length) (hp : ∀ (j : Nat) (p g : D), ps[j]? = some p → gs[j]? = some g → Pt k p g) (q : E.rt (.tuple (.str x :: gs)) { δ := [some (.tuple (.str x :: ps)), some (.str x), none, none], n := 0 }) :
    dRet (dOp addD (dTup (dCons (dV 1) dNil)) (dCB tupD (dCons (dLc (fun s Q => dSl (dV 0) (dPart (dC (PyData.int 1))) dNoPart s fun d s1 => match d with | PyData.tuple ds => Q ds s1 | _ => False) (sName 3) dYes (dIf (dBl (dIsi Cl.tuple (dV 3))) (dCall (foF k) (dCons (dV 3) dNil)) (dV 3)) [3]) dNil)))
      E { δ := [some (.tuple (.str x :: ps)), some (.str x), none, none], n := 0 } := by
  have key : ∀ l : List D, l = ps → (l.length ≤ sizeLine ∧ lcD (sName 3) dYes (dIf (dBl (dIsi Cl.tuple (dV 3))) (dCall (foF k) (dCons (dV 3) dNil)) (dV 3)) [3] (fun acc s2 => tupD [.list acc] fun z => addD (.tuple [.str x]) z fun z => E.rt z s2) l [] { δ := [some (.tuple (.str x :: ps)), some (.str x), none, none], n := 0 }) := by
    rintro l rfl
    refine ⟨Nat.le_trans h3 (show 3 ≤ sizeLine by decide), lcEach l gs [] _ rfl hl (fun j p g h1 h2 Q q => ?_) ?_⟩
    · have := hp j p g h1 h2
      cases this with
      | th t hc ho =>
        show (if isB .tuple t.d = true then _ else _)
        rw [if_pos (Th.d_tup t)]
        exact ⟨t, rfl, hc, ho, q⟩
      | int i => exact q
    · show 1 + gs.length ≤ sizeLine ∧ _
      exact ⟨Nat.le_trans (show 1 + gs.length ≤ 4 by omega) (by decide), q⟩
  exact key _ (cut_one _ _)
theorem pt1 {k : Nat} {p g : D} (h : Pt k p g) : ∀ (j : Nat) (p' g' : D), [p][j]? = some p' → [g][j]? = some g' → Pt k p' g'
  | 0, _, _, h1, h2 => by cases h1; cases h2; exact h
  | _ + 1, _, _, h1, _ => by simp at h1
theorem ptc {k : Nat} {p g : D} {ps gs : List D} (h : Pt k p g) (hr : ∀ (j : Nat) (p' g' : D), ps[j]? = some p' → gs[j]? = some g' → Pt k p' g') : ∀ (j : Nat) (p' g' : D), (p :: ps)[j]? = some p' → (g :: gs)[j]? = some g' → Pt k p' g'
  | 0, _, _, h1, h2 => by cases h1; cases h2; exact h
  | j + 1, p', g', h1, h2 => hr j p' g' h1 h2
section
variable {P : Program} {w : World} {K : PySem.W.Frag} {mg : Str → Option Value} {base : Heap}
theorem lam_qual : (Str.ofString "form_of" ++ Str.ofString ".<locals>." ++ Str.ofString "<lambda>" : Str) = Str.ofString "form_of.<locals>.<lambda>" := by decide +kernel
abbrev qL : Str := Str.ofString "form_of" ++ ".<locals>." ++ "<lambda>"
theorem ok_inner_form {Q : Addr} (T : Tx K mg) (k : Nat) (O_form_of : Ok P w K mg base (k + 1) "form_of" ["thing"] (spNt [(Q, qL)] K 1 .E (foF k))) : Ok P w K mg base (k + 2) "inner_form" ["thing"] (spNt [(Q, qL)] K 1 .E (inF (k + 1))) := by
  refine Ok.ofNt (M := []) T.d_inner_form sc_inner_form rfl (by decide) fun f cdv A outer s H E hr => ⟨_, _, (pss_cons (ps_set (i := 1) sc_inner_form.nd rfl (Or.inl rfl) (pe_ix (ixG K rfl (u65 hr.toRoom)) (pv 0) (pe_int) (fun _ _ => rfl)))
 (pss_cons (ps_if (pt_cmpR (inG K rfl (u65 hr.toRoom)) (pv 1) (pe_tupZ (pa_cons (pe_str) (pa_cons (pe_str) (pa_nil)))) (by rfl))
 (pss_one (ps_ret (pv 0)))
 (pss_nil))
 (pss_cons (ps_if (pt_cmpR (eqG K rfl hr.units) (pv 1) (pe_str) (nomark _))
 (pss_one (ps_ret (pe_tupZ (pa_cons (pv 1) (pa_cons (pe_ix (ixG K rfl (u65 hr.toRoom)) (pv 0) (pe_int) (fun _ _ => rfl)) (pa_cons (pe_callTy (tupQ K rfl) (by rfl) T.z_tuple boot_tuple (pa_cons (pe_lc (own := [("place", 2)]) rfl sc_inner_form.nd (piT K rfl (pe_ix (ixG K rfl (u65 hr.toRoom)) (pv 0) (pe_int) (fun _ _ => rfl))) (blkOk_by (own := [("place", 2)]) (N := ["thing", "word", "place", "part"]) (sc := defScope s_inner_form) (by decide +kernel)) (fun _ _ _ _ _ => pg_nameL (i := 2) sc_inner_form.nd rfl rfl) (fun _ _ _ _ _ => pts_nil) (fun _ _ _ _ _ => pe_fn O_form_of (hr.mono (by omega)) (by rfl) (pa_cons (pv 2) (pa_nil)))) (pa_nil))) (pa_nil)))))))
 (pss_nil))
 (pss_one (ps_ret (pe_op (addG K rfl) (pe_tupZ (pa_cons (pv 1) (pa_nil))) (pe_callTy (tupQ K rfl) (by rfl) T.z_tuple boot_tuple (pa_cons (pe_lc (own := [("part", 3)]) rfl sc_inner_form.nd (piT K rfl (pe_slice (slG K rfl) (pv 0) (po_some (pe_int)) po_none)) (blkOk_by (own := [("part", 3)]) (N := ["thing", "word", "place", "part"]) (sc := defScope s_inner_form) (by decide +kernel)) (fun _ _ _ _ _ => pg_nameL (i := 3) sc_inner_form.nd rfl rfl) (fun _ _ _ _ _ => pts_nil) (fun _ _ _ _ _ => pe_ifExp (pt_val (pe_callB (isiK K rfl) (by rfl) T.z_isinstance boot_isi (pa_cons (pv 3) (pa_cons (pe_bltn (v := .ty "tuple") (by rfl) T.z_tuple boot_tuple rfl) pa_nil)))) (pe_fn O_form_of (hr.mono (by omega)) (by rfl) (pa_cons (pv 3) (pa_nil))) (pv 3))) (pa_nil))))))))),
 (simS_seq (simS_set 1 (nm rfl) (np rfl) (opA_ix (sim_var 0 (nm rfl)) (sim_int _)))
 (simS_seq (simS_if (simT_test (sim_op opA_in (sim_var 1 (nm rfl)) (sim_tup (by decide) (simA_cons (sim_str _) (simA_cons (sim_str _) (simA_nil))))))
 (simS_ret (Sim.toE (sim_var 0 (nm rfl))))
 (simS_next))
 (simS_seq (simS_if (simT_test (sim_op opA_eq (sim_var 1 (nm rfl)) (sim_str _)))
 (simS_ret (Sim.toE (sim_tup (by decide) (simA_cons (sim_var 1 (nm rfl)) (simA_cons (opA_ix (sim_var 0 (nm rfl)) (sim_int _)) (simA_cons (sim_cb caA_tup (simA_cons (sim_lc (simI_tup (opA_ix (sim_var 0 (nm rfl)) (sim_int _))) (simG_name 2 (nm rfl) (np rfl)) (simT_yes) (sim_callNt (simA_cons (sim_var 2 (nm rfl)) (simA_nil))) (inv' rfl) (nmv rfl) (npv rfl)) (simA_nil))) (simA_nil)))))))
 (simS_next))
 (simS_ret (Sim.toE (sim_op opA_add (sim_tup (by decide) (simA_cons (sim_var 1 (nm rfl)) (simA_nil))) (sim_cb caA_tup (simA_cons (sim_lc (simI_tup (sim_sl (sim_var 0 (nm rfl)) (simO_some (sim_int _)) simO_none)) (simG_name 3 (nm rfl) (np rfl)) (simT_yes) (sim_if (simT_B (sim_isi .tuple (sim_var 3 (nm rfl)))) (Sim.toE (sim_callNt (simA_cons (sim_var 3 (nm rfl)) (simA_nil)))) (Sim.toE (sim_var 3 (nm rfl)))) (inv' rfl) (nmv rfl) (npv rfl)) (simA_nil))))))))), ?_⟩
  rintro ds Q hl ⟨t, rfl, ht, hc, ho, q⟩
  have mx : ∀ {a b : Nat}, 1 + max a b ≤ k + 1 → a ≤ k ∧ b ≤ k := fun {a b} h => ⟨by have := Nat.le_max_left a b; omega, by have := Nat.le_max_right a b; omega⟩
  cases t with
  | num i => cases ht
  | add a b => cases ht
  | mul i a => cases ht
  | pnil => cases ht
  | pcons p ps => cases ht
  | name x => exact seqSetX (d := wT "name") (exIx (j := 0) rfl rfl) (seqY (tIn2 rfl (by decide +kernel)) q)
  | row x => exact seqSetX (d := wT "row") (exIx (j := 0) rfl rfl) (seqY (tIn2 rfl (by decide +kernel)) q)
  | size r =>
    refine seqSetX (d := wT "size") (exIx (j := 0) rfl rfl) (seqN (tIn2 rfl (by decide +kernel)) (seqN (tw rfl (by decide +kernel)) ?_))
    exact in_gen (ps := [r.d]) (gs := [r.fo]) (by simp) rfl (pt1 (.th r (by have : 1 + cfS r.isRow r.sm ≤ k + 1 := hc; omega) ho)) q
  | room r =>
    refine seqSetX (d := wT "room") (exIx (j := 0) rfl rfl) (seqN (tIn2 rfl (by decide +kernel)) (seqN (tw rfl (by decide +kernel)) ?_))
    exact in_gen (ps := [r.d]) (gs := [r.fo]) (by simp) rfl (pt1 (.th r (by have : 1 + cfS r.isRow r.sm ≤ k + 1 := hc; omega) ho)) q
  | div r i =>
    refine seqSetX (d := wT "div") (exIx (j := 0) rfl rfl) (seqN (tIn2 rfl (by decide +kernel)) (seqN (tw rfl (by decide +kernel)) ?_))
    exact in_gen (ps := [r.d, .int i]) (gs := [r.fo, .int i]) (by simp) rfl (ptc (.th r (by have : 1 + cfS r.isRow r.sm ≤ k + 1 := hc; omega) ho) (pt1 (.int i))) q
  | mod r i =>
    refine seqSetX (d := wT "mod") (exIx (j := 0) rfl rfl) (seqN (tIn2 rfl (by decide +kernel)) (seqN (tw rfl (by decide +kernel)) ?_))
    exact in_gen (ps := [r.d, .int i]) (gs := [r.fo, .int i]) (by simp) rfl (ptc (.th r (by have : 1 + cfS r.isRow r.sm ≤ k + 1 := hc; omega) ho) (pt1 (.int i))) q
  | read r a =>
    refine seqSetX (d := wT "read") (exIx (j := 0) rfl rfl) (seqN (tIn2 rfl (by decide +kernel)) (seqN (tw rfl (by decide +kernel)) ?_))
    obtain ⟨c1, c2⟩ := mx hc
    exact in_gen (ps := [r.d, a.d]) (gs := [r.fo, a.fo]) (by simp) rfl (ptc (.th r c1 ho.1) (pt1 (.th a c2 ho.2))) q
  | wth r a b =>
    refine seqSetX (d := wT "with") (exIx (j := 0) rfl rfl) (seqN (tIn2 rfl (by decide +kernel)) (seqN (tw rfl (by decide +kernel)) ?_))
    obtain ⟨c1, c2⟩ := mx hc
    have c3 : cfS a.isRow a.sm ≤ k := Nat.le_trans (Nat.le_max_left _ _) c2
    have c4 : cfS b.isRow b.sm ≤ k := Nat.le_trans (Nat.le_max_right _ _) c2
    exact in_gen (ps := [r.d, a.d, b.d]) (gs := [r.fo, a.fo, b.fo]) (by simp) rfl (ptc (.th r c1 ho.1) (ptc (.th a c3 ho.2.1) (pt1 (.th b c4 ho.2.2)))) q
  | ntn f ps =>
    obtain ⟨hpl, hle, hoi⟩ := ho
    obtain ⟨L, h0, h1, h2, h3, h4⟩ := pl_facts ps hpl
    have c1 : ps.sm.ci ≤ k := by have : 1 + ps.sm.ci ≤ k + 1 := hc; omega
    have e1 : (Th.ntn f ps).d = .tuple [wT "notion", f, .tuple (L.map Th.d)] := by
      show PyData.tuple [_, f, ps.d] = _
      rw [h1]
    have e2 : (Th.ntn f ps).sm.fi = .tuple [wT "notion", f, .tuple (L.map Th.fo)] := by
      show PyData.tuple [_, f, ps.sm.fi] = _
      rw [h2]
    rw [e2] at q
    rw [e1]
    refine seqSetX (d := wT "notion") (exIx (j := 0) rfl rfl) (seqN (tIn2 rfl (by decide +kernel)) (seqY (tw rfl (by decide +kernel)) ?_))
    refine ix_ok 1 rfl rfl ?_
    refine ix_ok 2 rfl rfl ?_
    refine ⟨Nat.le_trans (show (L.map Th.d).length ≤ 1000 by rw [List.length_map, h0]; exact hle) (by decide), lcEach (L.map Th.d) (L.map Th.fo) [] _ rfl (by rw [List.length_map, List.length_map]) (fun j p g g1 g2 Q q => ?_) q⟩
    rw [List.getElem?_map] at g1 g2
    cases el : L[j]? with
    | none => rw [el] at g1; cases g1
    | some t =>
      rw [el] at g1 g2
      cases g1
      cases g2
      exact ⟨t, rfl, Nat.le_trans (h4 t (List.mem_of_getElem? el)) c1, h3 hoi t (List.mem_of_getElem? el), q⟩
theorem ok_put_pair {Q : Addr} (T : Tx K mg) (k : Nat) (O_inner_form : Ok P w K mg base (k + 1) "inner_form" ["thing"] (spNt [(Q, qL)] K 1 .E (inF k))) : Ok P w K mg base (k + 2) "put_pair" ["atoms", "atom", "weight"] (spBt [(Q, qL)] K 0 3 (ppF (k + 1))) := by
  refine Ok.ofBt (M := []) T.d_put_pair sc_put_pair rfl (by decide) (by decide) fun f cdv A outer s H E p hr => ⟨_, _, (pss_cons (ps_set (i := 3) sc_put_pair.nd rfl (Or.inl rfl) (pe_fn O_inner_form (hr.mono (by omega)) (by rfl) (pa_cons (pv 1) (pa_nil))))
 (pss_cons (ps_set (i := 4) sc_put_pair.nd rfl (Or.inl rfl) (pe_callB (reprK K rfl hr.gd (u65 hr.toRoom)) (by rfl) T.z_repr boot_repr (pa_cons (pv 3) (pa_nil))))
 (pss_cons (ps_asg (pe_dget2 (lt_u1 (u65 hr.toRoom)) (pv 0) (pv 4) (pe_tupZ (pa_cons (pv 1) (pa_cons (pe_int) (pa_cons (pv 3) (pa_nil))))) ⟨by rfl, by rfl, by rfl, by rfl⟩) (pgT K rfl 3 rfl (pgs_cons (pg_nameL (i := 5) sc_put_pair.nd rfl rfl) (pgs_cons (pg_nameL (i := 6) sc_put_pair.nd rfl rfl) (pgs_cons (pg_nameL (i := 7) sc_put_pair.nd rfl rfl) (pgs_nil))))))
 (pss_one (ps_dput (lt_u1 (u65 hr.toRoom)) (pv 0) (pv 4) (pe_tupZ (pa_cons (pv 5) (pa_cons (pe_op (addG K rfl) (pv 6) (pv 2)) (pa_cons (pv 7) (pa_nil))))) rfl))))),
 (simS_seq (simS_set 3 (nm rfl) (np rfl) (sim_callNt (simA_cons (sim_var 1 (nm rfl)) (simA_nil))))
 (simS_seq (simS_set 4 (nm rfl) (np rfl) (sim_cb caA_repr (simA_cons (sim_var 3 (nm rfl)) (simA_nil))))
 (simS_seq (simS_asg (sim_dget2M 0 (ym rfl) (sim_var 4 (nm rfl)) (sim_tup (by decide) (simA_cons (sim_var 1 (nm rfl)) (simA_cons (sim_int _) (simA_cons (sim_var 3 (nm rfl)) (simA_nil)))))) (simG_tup (simGs_cons (simG_name 5 (nm rfl) (np rfl)) (simGs_cons (simG_name 6 (nm rfl) (np rfl)) (simGs_cons (simG_name 7 (nm rfl) (np rfl)) (simGs_nil))))))
 (simS_setK 0 (ym rfl) (sim_tup (by decide) (simA_cons (sim_var 5 (nm rfl)) (simA_cons (sim_op opA_add (sim_var 6 (nm rfl)) (sim_var 2 (nm rfl))) (simA_cons (sim_var 7 (nm rfl)) (simA_nil))))) (sim_var 4 (nm rfl)))))), ?_⟩
  rintro ds Q hl ⟨es, t, o, rfl, ht, hc, ho, ⟨hr1, hr2, hr3⟩, hn, hlen, q⟩
  refine ⟨t, rfl, ht, by omega, ho, ?_⟩
  dsimp only [List.set]
  refine ⟨hr1, hr2, hr3, ?_⟩
  dsimp only [List.set]
  refine ⟨⟨_, rfl⟩, rfl, ?_⟩
  rw [findE]
  have hlim : (esD es).length < sizeLine := Nat.lt_of_le_of_lt (show (esD es).length ≤ 2000 by unfold esD; rw [List.length_map]; exact hlen) (by decide)
  have put := putE (a := t.d) (f := t.sm.fi) (w := o) hn
  cases e : es.find? fun e => decide (e.ky = PyData.shown t.sm.fi) with
  | some x =>
    rw [e] at put
    refine ⟨rfl, ?_⟩
    dsimp only [sCons, sName, sNil, List.set]
    refine ⟨⟨_, rfl⟩, rfl, hlim, ?_⟩
    intro dj hd
    have hd' : some (some (PyData.dict (putD (esD es) (.str (PyData.shown t.sm.fi)) (.tuple [x.at_, .int (x.w + o), x.fm])))) = some (some dj) := hd
    rw [put] at hd'
    cases hd'
    exact q
  | none =>
    rw [e] at put
    refine ⟨rfl, ?_⟩
    dsimp only [sCons, sName, sNil, List.set]
    refine ⟨⟨_, rfl⟩, rfl, hlim, ?_⟩
    intro dj hd
    have hd' : some (some (PyData.dict (putD (esD es) (.str (PyData.shown t.sm.fi)) (.tuple [t.d, .int (0 + o), t.sm.fi])))) = some (some dj) := hd
    rw [put] at hd'
    cases hd'
    exact q
theorem ok_gather {Q : Addr} (T : Tx K mg) (k : Nat) (O_gather : Ok P w K mg base (k + 1) "gather" ["atoms", "term", "often"] (spBt [(Q, qL)] K 0 3 (gaF k))) (O_put_pair : Ok P w K mg base (k + 1) "put_pair" ["atoms", "atom", "weight"] (spBt [(Q, qL)] K 0 3 (ppF k))) : Ok P w K mg base (k + 2) "gather" ["atoms", "term", "often"] (spBt [(Q, qL)] K 0 3 (gaF (k + 1))) := by
  refine Ok.ofBt (M := []) T.d_gather sc_gather rfl (by decide) (by decide) fun f cdv A outer s H E p hr => ⟨_, _, (pss_cons (ps_set (i := 3) sc_gather.nd rfl (Or.inl rfl) (pe_ix (ixG K rfl (u65 hr.toRoom)) (pv 1) (pe_int) (fun _ _ => rfl)))
 (pss_cons (ps_if (pt_cmpR (eqG K rfl hr.units) (pv 3) (pe_str) (nomark _))
 (pss_one (ps_ret (pe_op mulG (pv 2) (pe_ix (ixG K rfl (u65 hr.toRoom)) (pv 1) (pe_int) (fun _ _ => rfl)))))
 (pss_nil))
 (pss_cons (ps_if (pt_cmpR (eqG K rfl hr.units) (pv 3) (pe_str) (nomark _))
 (pss_cons (ps_set (i := 4) sc_gather.nd rfl (Or.inl rfl) (pe_fn O_gather (hr.mono (by omega)) (by rfl) (pa_cons (pv 0) (pa_cons (pe_ix (ixG K rfl (u65 hr.toRoom)) (pv 1) (pe_int) (fun _ _ => rfl)) (pa_cons (pv 2) (pa_nil))))))
 (pss_one (ps_ret (pe_op (addG K rfl) (pv 4) (pe_fn O_gather (hr.mono (by omega)) (by rfl) (pa_cons (pv 0) (pa_cons (pe_ix (ixG K rfl (u65 hr.toRoom)) (pv 1) (pe_int) (fun _ _ => rfl)) (pa_cons (pv 2) (pa_nil)))))))))
 (pss_nil))
 (pss_cons (ps_if (pt_cmpR (eqG K rfl hr.units) (pv 3) (pe_str) (nomark _))
 (pss_one (ps_ret (pe_fn O_gather (hr.mono (by omega)) (by rfl) (pa_cons (pv 0) (pa_cons (pe_ix (ixG K rfl (u65 hr.toRoom)) (pv 1) (pe_int) (fun _ _ => rfl)) (pa_cons (pe_op mulG (pv 2) (pe_ix (ixG K rfl (u65 hr.toRoom)) (pv 1) (pe_int) (fun _ _ => rfl))) (pa_nil)))))))
 (pss_nil))
 (pss_cons (ps_expr (pe_fn O_put_pair (hr.mono (by omega)) (by rfl) (pa_cons (pv 0) (pa_cons (pv 1) (pa_cons (pv 2) (pa_nil))))))
 (pss_one (ps_ret (pe_int)))))))),
 (simS_seq (simS_set 3 (nm rfl) (np rfl) (opA_ix (sim_var 1 (nm rfl)) (sim_int _)))
 (simS_seq (simS_if (simT_test (sim_op opA_eq (sim_var 3 (nm rfl)) (sim_str _)))
 (simS_ret (Sim.toE (sim_op opA_mul (sim_var 2 (nm rfl)) (opA_ix (sim_var 1 (nm rfl)) (sim_int _)))))
 (simS_next))
 (simS_seq (simS_if (simT_test (sim_op opA_eq (sim_var 3 (nm rfl)) (sim_str _)))
 (simS_seq (simS_set 4 (nm rfl) (np rfl) (sim_callBt (ym rfl) (by decide) (simB_here (ym rfl) (simA_cons (opA_ix (sim_var 1 (nm rfl)) (sim_int _)) (simA_cons (sim_var 2 (nm rfl)) (simA_nil))))))
 (simS_ret (Sim.toE (sim_op opA_add (sim_var 4 (nm rfl)) (sim_callBt (ym rfl) (by decide) (simB_here (ym rfl) (simA_cons (opA_ix (sim_var 1 (nm rfl)) (sim_int _)) (simA_cons (sim_var 2 (nm rfl)) (simA_nil)))))))))
 (simS_next))
 (simS_seq (simS_if (simT_test (sim_op opA_eq (sim_var 3 (nm rfl)) (sim_str _)))
 (simS_ret (Sim.toE (sim_callBt (ym rfl) (by decide) (simB_here (ym rfl) (simA_cons (opA_ix (sim_var 1 (nm rfl)) (sim_int _)) (simA_cons (sim_op opA_mul (sim_var 2 (nm rfl)) (opA_ix (sim_var 1 (nm rfl)) (sim_int _))) (simA_nil)))))))
 (simS_next))
 (simS_seq (simS_drop (sim_callBt (ym rfl) (by decide) (simB_here (ym rfl) (simA_cons (sim_var 1 (nm rfl)) (simA_cons (sim_var 2 (nm rfl)) (simA_nil))))))
 (simS_ret (Sim.toE (sim_int _)))))))), ?_⟩
  rintro ds Q hl ⟨es, t, o, rfl, hc, ho, hn, hlen, q⟩
  have fin : ∀ {z : D} {d : D} {st : Option (Option D)}, st = some (some d) → Q z d → ∀ dj, st = some (some dj) → Q z dj := fun e q dj h => by
    rw [e] at h
    cases h
    exact q
  by_cases hat : t.at = true
  · obtain ⟨x, r, e, n1, n2, n3⟩ : ∃ (x : Str) (r : List D), t.d = .tuple (.str x :: r) ∧ decide (x = Str.ofString "num") = false ∧ decide (x = Str.ofString "add") = false ∧ decide (x = Str.ofString "mul") = false := by
      cases t <;> first | (cases hat; done) | exact ⟨_, _, rfl, by decide +kernel, by decide +kernel, by decide +kernel⟩
    obtain ⟨h1, h2, h3, h4, h5⟩ : t.sm.okI ∧ RpOk t.sm.fi ∧ t.sm.cg = t.sm.ci + 2 ∧ t.sm.pu o = [(t.d, o, t.sm.fi)] ∧ t.sm.nu o = 0 := by
      cases t <;> first | (cases hat; done) | exact ⟨ho.1, ho.2, rfl, rfl, rfl⟩
    rw [h4, h5] at q
    rw [h4] at hlen
    have hlen : es.length + 1 ≤ 2000 := hlen
    rw [e]
    refine seqSetX (d := .str x) (exIx (j := 0) rfl rfl) (seqN (tw rfl n1) (seqN (tw rfl n2) (seqN (tw rfl n3) ?_)))
    refine ⟨⟨_, rfl⟩, es, t, o, by rw [e]; rfl, hat, by omega, h1, h2, hn, by omega, ?_⟩
    exact fin rfl q
  cases t with
  | num i =>
    refine seqSetX (d := wT "num") (exIx (j := 0) rfl rfl) (seqY (tw rfl (by decide +kernel)) ?_)
    refine ix_ok 1 rfl rfl ⟨mulOk (Nat.lt_of_lt_of_le ho.1 (Nat.pow_le_pow_right (by decide) (by decide))) (Nat.lt_of_lt_of_le ho.2 (Nat.pow_le_pow_right (by decide) (by decide))), ?_⟩
    exact fin rfl q
  | add a b =>
    have hc1 : 1 + max a.sm.cg b.sm.cg ≤ k + 1 := hc
    have ca := Nat.le_max_left a.sm.cg b.sm.cg
    have cb := Nat.le_max_right a.sm.cg b.sm.cg
    have hlen : es.length + (a.sm.pu o ++ b.sm.pu o).length ≤ 2000 := hlen
    rw [List.length_append] at hlen
    refine seqSetX (d := wT "add") (exIx (j := 0) rfl rfl) (seqN (tw rfl (by decide +kernel)) (seqY (tw rfl (by decide +kernel)) ?_))
    refine ⟨⟨_, rfl⟩, ix_ok 1 rfl rfl ⟨es, a, o, rfl, by omega, ho.1, hn, by omega, ?_⟩⟩
    refine ⟨⟨_, rfl⟩, ix_ok 2 rfl rfl ⟨insA es (a.sm.pu o), b, o, rfl, by omega, ho.2, insA_nd _ hn, ?_, ?_⟩⟩
    · have := insA_len (a.sm.pu o) es
      omega
    · rw [← insA_app]
      exact fin rfl q
  | mul i a =>
    have hc1 : 1 + a.sm.cg ≤ k + 1 := hc
    refine seqSetX (d := wT "mul") (exIx (j := 0) rfl rfl) (seqN (tw rfl (by decide +kernel)) (seqN (tw rfl (by decide +kernel)) (seqY (tw rfl (by decide +kernel)) ?_)))
    refine ⟨⟨_, rfl⟩, ix_ok 2 rfl rfl (ix_ok 1 rfl rfl ⟨mulOk (Nat.lt_of_lt_of_le ho.1 (Nat.pow_le_pow_right (by decide) (by decide))) (Nat.lt_of_lt_of_le ho.2.1 (Nat.pow_le_pow_right (by decide) (by decide))), ?_⟩)⟩
    refine ⟨es, a, o * i, rfl, by omega, ho.2.2, hn, hlen, ?_⟩
    exact fin rfl q
  | pnil => exact ho.elim
  | pcons _ _ => exact ho.elim
  | _ => exact absurd rfl hat
theorem lcForms {a b c d : Option D} {Q : List D → S → Prop} : ∀ (es : List En) (acc : List D), Q (acc ++ (live es).map fpair) { δ := [a, b, c, d, none, none, none], n := 0 } → lcD (sTup 3 (sCons (sName 4) (sCons (sName 5) (sCons (sName 6) sNil)))) (dBl (dOp neD (dV 5) (dC (PyData.int 0)))) (dTup (dCons (dV 6) (dCons (dV 5) dNil))) [4, 5, 6] Q (es.map enD) acc { δ := [a, b, c, d, none, none, none], n := 0 }
  | [], acc, q => by
    rw [show (live []).map fpair = [] from rfl, List.append_nil] at q
    exact q
  | e :: es, acc, q => by
    show _ ∧ _
    refine ⟨rfl, ?_⟩
    have ih := lcForms (a := a) (b := b) (c := c) (d := d) (Q := Q) es
    by_cases h : e.w = 0
    · have e1 : live (e :: es) = live es := by simp [live, h]
      rw [e1] at q
      show (if (!decide (e.w = 0)) = true then _ else _)
      rw [decide_eq_true h]
      exact ih acc q
    · have e1 : live (e :: es) = e :: live es := by simp [live, h]
      rw [e1, List.map_cons] at q
      show (if (!decide (e.w = 0)) = true then _ else _)
      rw [decide_eq_false h]
      refine ih (acc ++ [fpair e]) ?_
      rw [List.append_assoc]
      exact q
theorem ok_form_of {c Q : Addr} (T : Tx K mg) (TB : TabB base mg c Q) (DT : DfT K mg "form_of" s_form_of ["thing"] c) (k : Nat) (O_inner_form : Ok P w K mg base (k + 1) "inner_form" ["thing"] (spNt [(Q, qL)] K 1 .E (inF k))) (O_gather : Ok P w K mg base (k + 1) "gather" ["atoms", "term", "often"] (spBt [(Q, qL)] K 0 3 (gaF k))) : Ok P w K mg base (k + 2) "form_of" ["thing"] (spNt [(Q, qL)] K 1 .E (foF (k + 1))) := by
  refine Ok.ofNtCE (M := [1]) DT sc_form_of rfl (by decide) fun f A outer s H E hr => ⟨_, _, (pss_cons (ps_if (pt_cmpR (inG K rfl (u65 hr.toRoom)) (pe_ix (ixG K rfl (u65 hr.toRoom)) (pv 0) (pe_int) (fun _ _ => rfl)) (pe_gt (by rfl) T.g_ROW_WORDS) (by rfl))
 (pss_one (ps_ret (pe_fn O_inner_form (hr.mono (by omega)) (by rfl) (pa_cons (pv 0) (pa_nil)))))
 (pss_nil))
 (pss_cons (ps_set (i := 1) sc_form_of.nd rfl (Or.inl rfl) (pe_dnewK))
 (pss_cons (ps_set (i := 2) sc_form_of.nd rfl (Or.inl rfl) (pe_fn O_gather (hr.mono (by omega)) (by rfl) (pa_cons (pv 1) (pa_cons (pv 0) (pa_cons (pe_int) (pa_nil))))))
 (pss_cons (ps_lkSet (ps_setLc (i := 3) (own := [("atom", 4), ("weight", 5), ("form", 6)]) rfl sc_form_of.nd rfl rfl (sw_true rfl rfl rfl (by decide +kernel)) (pi_values (pv 1)) (blkOk_by (own := [("atom", 4), ("weight", 5), ("form", 6)]) (N := ["thing", "atoms", "number", "forms", "atom", "weight", "form"]) (sc := defScope s_form_of) (by decide +kernel)) (fun _ _ _ _ _ => pgT K rfl 3 rfl (pgs_cons (pg_nameL (i := 4) sc_form_of.nd rfl rfl) (pgs_cons (pg_nameL (i := 5) sc_form_of.nd rfl rfl) (pgs_cons (pg_nameL (i := 6) sc_form_of.nd rfl rfl) (pgs_nil))))) (fun _ _ _ _ _ => pts_one (pt_cmpR (neG K rfl hr.units) (pv 5) (pe_int) (nomark _))) (fun _ _ _ _ _ => pe_tupZ (pa_cons (pv 6) (pa_cons (pv 5) (pa_nil))))))
 (pss_one (ps_ret (pe_tupZ (pa_cons (pe_str) (pa_cons (pe_callTy (tupQ K rfl) (by rfl) T.z_tuple boot_tuple (pa_cons (pe_sortK (x := "pair") (pv 3) TB rfl rfl hr (by rfl) T.z_sorted T.z_repr rfl (fun _ _ _ _ _ => .of_eq rfl) rfl rfl rfl rfl (by decide) (by decide)) (pa_nil))) (pa_cons (pv 2) (pa_nil))))))))))),
 (simE_seq (simS_if (simT_test (sim_op opA_in (opA_ix (sim_var 0 (nm rfl)) (sim_int _)) (sim_gt T.g_ROW_WORDS)))
 (simS_ret (Sim.toE (sim_callNt (simA_cons (sim_var 0 (nm rfl)) (simA_nil)))))
 (simS_next))
 (simE_seq (simS_setM 1 (ym rfl) (nb rfl) (sim_dnew))
 (simE_seq (simS_set 2 (nm rfl) (np rfl) (sim_callBt (ym rfl) (by decide) (simB_here (ym rfl) (simA_cons (sim_var 0 (nm rfl)) (simA_cons (sim_int _) (simA_nil))))))
 (simE_still 1 [] (by intro j; first | (simp; done) | (simp only [List.mem_cons, List.not_mem_nil, or_false]; omega)) (by simp) (by simp) (simE_seq (simS_set 3 (nm rfl) (np rfl) (sim_lcValues (nm rfl) (simG_tup (simGs_cons (simG_name 4 (nm rfl) (np rfl)) (simGs_cons (simG_name 5 (nm rfl) (np rfl)) (simGs_cons (simG_name 6 (nm rfl) (np rfl)) (simGs_nil))))) (simT_test (sim_op opA_ne (sim_var 5 (nm rfl)) (sim_int _))) (sim_tup (by decide) (simA_cons (sim_var 6 (nm rfl)) (simA_cons (sim_var 5 (nm rfl)) (simA_nil)))) (inv' rfl) (nmv rfl) (npv rfl)))
 (SimS.e (simS_ret (Sim.toE (sim_tup (by decide) (simA_cons (sim_str _) (simA_cons (sim_cb caA_tup (simA_cons (sim_sortK rfl (sim_var 3 (nm rfl))) (simA_nil))) (simA_cons (sim_var 2 (nm rfl)) (simA_nil))))))))))))), ?_⟩
  rintro ds Q hl ⟨t, rfl, hc, ho, q⟩
  have hd : ∃ (x : Str) (r : List D), t.d = .tuple (.str x :: r) ∧ (decide (Str.ofString "row" = x) || (decide (Str.ofString "with" = x) || decide (Str.ofString "room" = x))) = t.isRow := by
    cases t <;> first | exact ⟨_, _, rfl, (by show _ = false; decide +kernel)⟩ | exact ⟨_, _, rfl, (by show _ = true; decide +kernel)⟩ | exact (show False from ho.1).elim
  obtain ⟨x, r, e, hx⟩ := hd
  refine seqIf (b := t.isRow) (fun Q q => ?_) (fun hr => ?_) (fun hr => ?_)
  · rw [e]
    refine ix_ok 0 rfl rfl ⟨rfl, rfl, ?_⟩
    show Q (xor false (decide (Str.ofString "row" = x) || (decide (Str.ofString "with" = x) || (decide (Str.ofString "room" = x) || false)))) _
    rw [Bool.or_false, Bool.false_xor, hx, ← e]
    exact q
  · refine ⟨t, rfl, ?_⟩
    have h1 : t.at = true := by cases t <;> first | rfl | cases hr
    unfold okF cfS at *
    unfold Th.fo foS at q
    rw [if_pos hr] at hc ho q
    exact ⟨h1, by omega, ho, q⟩
  · have hr : ¬ t.isRow = true := by rw [hr]; decide
    unfold okF cfS at *
    unfold Th.fo foS at q
    rw [if_neg hr] at hc ho q
    refine ⟨rfl, ⟨_, rfl⟩, [], t, 1, rfl, by omega, ho.1, List.nodup_nil, ?_, ?_⟩
    · have := ho.2.1
      simp only [List.length_nil]
      omega
    have hl2 : ((esD (insA [] (t.sm.pu 1))).map Prod.snd).length ≤ sizeLine := by
      have := insA_len (t.sm.pu 1) []
      have := ho.2.1
      refine Nat.le_trans (show _ ≤ 1000 from ?_) (by decide)
      unfold esD
      simp only [List.length_map, List.length_nil] at *
      omega
    refine ⟨⟨_, rfl⟩, hl2, ?_⟩
    have e1 : (esD (insA [] (t.sm.pu 1))).map Prod.snd = (insA [] (t.sm.pu 1)).map enD := by
      unfold esD
      rw [List.map_map]
      rfl
    rw [e1]
    refine lcForms _ _ ?_
    refine ⟨ho.2.2, ?_⟩
    exact q
end

/-! ### the program's forms and sums, all -/
section
variable {P : Program} {w : World} {K : PySem.W.Frag} {mg : Str → Option Value} {base : Heap}
structure FgO (P : Program) (w : World) (K : PySem.W.Frag) (mg : Str → Option Value) (base : Heap) (Q : Addr) (k : Nat) : Prop where
  inn : Ok P w K mg base (k + 1) "inner_form" ["thing"] (spNt [(Q, qL)] K 1 .E (inF k))
  fo : Ok P w K mg base (k + 1) "form_of" ["thing"] (spNt [(Q, qL)] K 1 .E (foF k))
  pp : Ok P w K mg base (k + 1) "put_pair" ["atoms", "atom", "weight"] (spBt [(Q, qL)] K 0 3 (ppF k))
  ga : Ok P w K mg base (k + 1) "gather" ["atoms", "term", "often"] (spBt [(Q, qL)] K 0 3 (gaF k))
theorem Th.ci_pos : ∀ t : Th, t.at = true → 1 ≤ t.sm.ci := by
  intro t h
  cases t <;> first | (cases h; done) | exact Nat.le_refl 1 | exact Nat.le_add_right 1 _
theorem Th.cg_pos : ∀ (t : Th) (o : Int), t.sm.okG o → 1 ≤ t.sm.cg := by
  intro t o h
  cases t <;> first | exact (show False from h).elim | exact Nat.le_refl 1 | exact Nat.le_add_right 1 _ | exact Nat.le_add_left 1 _
theorem fg_ok {c Q : Addr} (T : Tx K mg) (TB : TabB base mg c Q) (DT : DfT K mg "form_of" s_form_of ["thing"] c) : ∀ k, FgO P w K mg base Q k
  | 0 => by
    refine ⟨Ok.no T.d_inner_form sc_inner_form (spNt_no ?_), Ok.no T.d_form_of sc_form_of (spNt_no ?_), Ok.no T.d_put_pair sc_put_pair (spBt_no ?_), Ok.no T.d_gather sc_gather (spBt_no ?_)⟩
    · rintro ds Q ⟨t, _, h, hc, _⟩
      have := t.ci_pos h
      omega
    · rintro ds Q ⟨t, _, h, _⟩
      unfold cfS at h
      omega
    · rintro ds Q ⟨es, t, o, _, _, h, _⟩
      omega
    · rintro ds Q ⟨es, t, o, _, h, ho, _⟩
      have := t.cg_pos o ho
      omega
  | k + 1 => by
    have ih := fg_ok T TB DT k
    exact ⟨ok_inner_form T k ih.fo, ok_form_of T TB DT k ih.inn ih.ga, ok_put_pair T k ih.inn, ok_gather T k ih.ga ih.pp⟩
def plF : DF := fun ds Q => ∃ es : List En, ds = [.dict (esD es)] ∧ es.length ≤ 2000 ∧ Q (.tuple ((live es).map apair))
theorem lcPairs {a : Option D} {Q : List D → S → Prop} : ∀ (es : List En) (acc : List D), Q (acc ++ (live es).map apair) { δ := [a, none, none, none], n := 0 } → lcD (sTup 3 (sCons (sName 1) (sCons (sName 2) (sCons (sName 3) sNil)))) (dBl (dOp neD (dV 2) (dC (PyData.int 0)))) (dTup (dCons (dV 1) (dCons (dV 2) dNil))) [1, 2, 3] Q (es.map enD) acc { δ := [a, none, none, none], n := 0 }
  | [], acc, q => by
    rw [show (live []).map apair = [] from rfl, List.append_nil] at q
    exact q
  | e :: es, acc, q => by
    show _ ∧ _
    refine ⟨rfl, ?_⟩
    have ih := lcPairs (a := a) (Q := Q) es
    by_cases h : e.w = 0
    · have e1 : live (e :: es) = live es := by simp [live, h]
      rw [e1] at q
      show (if (!decide (e.w = 0)) = true then _ else _)
      rw [decide_eq_true h]
      exact ih acc q
    · have e1 : live (e :: es) = e :: live es := by simp [live, h]
      rw [e1, List.map_cons] at q
      show (if (!decide (e.w = 0)) = true then _ else _)
      rw [decide_eq_false h]
      refine ih (acc ++ [apair e]) ?_
      rw [List.append_assoc]
      exact q
theorem ok_pairs_left (T : Tx K mg) : Ok P w K mg base 1 "pairs_left" ["atoms"] (spN K 1 .E plF) := by
  refine Ok.ofN (M := []) T.d_pairs_left sc_pairs_left rfl (by decide) fun f cdv A outer s H E hr => ⟨_, _, (pss_one (ps_ret (pe_callTy (tupQ K rfl) (by rfl) T.z_tuple boot_tuple (pa_cons (pe_lk (pe_lc (own := [("atom", 1), ("weight", 2), ("form", 3)]) rfl sc_pairs_left.nd (pi_values (pv 0)) (blkOk_by (own := [("atom", 1), ("weight", 2), ("form", 3)]) (N := ["atoms", "atom", "weight", "form"]) (sc := defScope s_pairs_left) (by decide +kernel)) (fun _ _ _ _ _ => pgT K rfl 3 rfl (pgs_cons (pg_nameL (i := 1) sc_pairs_left.nd rfl rfl) (pgs_cons (pg_nameL (i := 2) sc_pairs_left.nd rfl rfl) (pgs_cons (pg_nameL (i := 3) sc_pairs_left.nd rfl rfl) (pgs_nil))))) (fun _ _ _ _ _ => pts_one (pt_cmpR (neG K rfl hr.units) (pv 2) (pe_int) (nomark _))) (fun _ _ _ _ _ => pe_tupZ (pa_cons (pv 1) (pa_cons (pv 2) (pa_nil)))))) (pa_nil))))),
 (simS_ret (Sim.toE (sim_cb caA_tup (simA_cons (sim_lcValues (nm rfl) (simG_tup (simGs_cons (simG_name 1 (nm rfl) (np rfl)) (simGs_cons (simG_name 2 (nm rfl) (np rfl)) (simGs_cons (simG_name 3 (nm rfl) (np rfl)) (simGs_nil))))) (simT_test (sim_op opA_ne (sim_var 2 (nm rfl)) (sim_int _))) (sim_tup (by decide) (simA_cons (sim_var 1 (nm rfl)) (simA_cons (sim_var 2 (nm rfl)) (simA_nil)))) (inv' rfl) (nmv rfl) (npv rfl)) (simA_nil))))), ?_⟩
  rintro ds Q hl ⟨es, rfl, hle, q⟩
  refine ⟨⟨_, rfl⟩, Nat.le_trans (show _ ≤ 2000 from ?_) (by decide), ?_⟩
  · unfold esD
    simp only [List.length_map]
    exact hle
  have e1 : (esD es).map Prod.snd = es.map enD := by
    unfold esD
    rw [List.map_map]
    rfl
  rw [e1]
  exact lcPairs _ _ q
def suF (k : Nat) : DF := fun ds Q => ∃ t : Th, ds = [t.d] ∧ t.sm.cg ≤ k ∧ t.sm.okG 1 ∧ (t.sm.pu 1).length ≤ 2000 ∧ Q (.tuple [.tuple ((live (insA [] (t.sm.pu 1))).map apair), .int (t.sm.nu 1)])
theorem ok_sum_of {Q : Addr} (T : Tx K mg) (k : Nat) (O_gather : Ok P w K mg base (k + 1) "gather" ["atoms", "term", "often"] (spBt [(Q, qL)] K 0 3 (gaF k))) (O_pairs_left : Ok P w K mg base 1 "pairs_left" ["atoms"] (spN K 1 .E plF)) : Ok P w K mg base (k + 2) "sum_of" ["term"] (spNt [(Q, qL)] K 1 .E (suF k)) := by
  refine Ok.ofNtE (M := [1]) T.d_sum_of sc_sum_of rfl (by decide) fun f cdv A outer s H E hr => ⟨_, _, (pss_cons (ps_set (i := 1) sc_sum_of.nd rfl (Or.inl rfl) (pe_dnewK))
 (pss_cons (ps_set (i := 2) sc_sum_of.nd rfl (Or.inl rfl) (pe_fn O_gather (hr.mono (by omega)) (by rfl) (pa_cons (pv 1) (pa_cons (pv 0) (pa_cons (pe_int) (pa_nil))))))
 (pss_one (ps_ret (pe_tupZ (pa_cons (pe_fn O_pairs_left (hr.mono (by omega)) (by rfl) (pa_cons (pv 1) (pa_nil))) (pa_cons (pv 2) (pa_nil)))))))),
 (simE_seq (simS_setM 1 (ym rfl) (nb rfl) (sim_dnew))
 (simE_seq (simS_set 2 (nm rfl) (np rfl) (sim_callBt (ym rfl) (by decide) (simB_here (ym rfl) (simA_cons (sim_var 0 (nm rfl)) (simA_cons (sim_int _) (simA_nil))))))
 (simE_still 1 [] (by intro j; first | (simp; done) | (simp only [List.mem_cons, List.not_mem_nil, or_false]; omega)) (by simp) (by simp) (SimS.e (simS_ret (Sim.toE (sim_tup (by decide) (simA_cons (sim_call (simA_cons (sim_var 1 (nm rfl)) (simA_nil))) (simA_cons (sim_var 2 (nm rfl)) (simA_nil)))))))))), ?_⟩
  rintro ds Q hl ⟨t, rfl, hc, ho, hlen, q⟩
  refine ⟨rfl, ⟨_, rfl⟩, [], t, 1, rfl, hc, ho, List.nodup_nil, by simp only [List.length_nil]; omega, ?_⟩
  have := insA_len (t.sm.pu 1) []
  exact ⟨insA [] (t.sm.pu 1), rfl, by simp only [List.length_nil] at this; omega, q⟩
end

/-! ### what is written tells what it is -/
open TL (tl numL joinL)
/-- a tree of tuples, whole numbers and texts of small letters -/
inductive Gf : D → Prop
  | int (i : Int) : Gf (.int i)
  | str (x : Str) : (∀ c ∈ tl x, 97 ≤ c ∧ c ≤ 122) → Gf (.str x)
  | tup (ds : List D) : (∀ d ∈ ds, Gf d) → Gf (.tuple ds)
theorem pr_small : ∀ c, c < 123 → 97 ≤ c → Unicode.isPrintable c = true := by decide +kernel
theorem reprChar_small {c : Nat} (h1 : 97 ≤ c) (h2 : c ≤ 122) : Builtin.Str.reprChar 39 c = [c] := by
  unfold Builtin.Str.reprChar
  rw [if_neg (by simp; omega), if_neg (by simp; omega), if_neg (by simp; omega), if_neg (by simp; omega), if_pos (pr_small c (by omega) h1)]
theorem fold_small : ∀ (l : List Nat) (acc : Array Nat), (∀ c ∈ l, 97 ≤ c ∧ c ≤ 122) → (l.foldl (fun out c => out ++ (Builtin.Str.reprChar 39 c).toArray) acc).toList = acc.toList ++ l
  | [], acc, _ => by simp
  | c :: l, acc, h => by
    obtain ⟨h1, h2⟩ := h c (List.mem_cons_self ..)
    rw [List.foldl_cons, fold_small l _ fun d m => h d (List.mem_cons_of_mem _ m), reprChar_small h1 h2]
    simp
theorem tl_repr {x : Str} (h : ∀ c ∈ tl x, 97 ≤ c ∧ c ≤ 122) : tl (PyData.shown (.str x)) = 39 :: (tl x ++ [39]) := by
  have hq : reprQuote x = 39 := by
    unfold reprQuote
    rw [if_neg]
    intro z
    rw [Bool.and_eq_true] at z
    have z1 := z.1
    have : (39 : Nat) ∈ tl x := by
      have := Array.contains_iff.mp z1
      simpa using this
    have := h _ this
    omega
  simp only [PyData.shown]
  show (((x.cps.foldl (fun out c => out ++ (Builtin.Str.reprChar (reprQuote x) c).toArray) #[reprQuote x]).push (reprQuote x)).toList) = _
  rw [hq, Array.toList_push, ← Array.foldl_toList, fold_small _ _ h]
  rfl
/-- a rest that begins with no digit -/
def Fr (r : List Nat) : Prop := ∀ c t, r = c :: t → c < 48 ∨ 57 < c
def Dig (l : List Nat) : Prop := ∀ c ∈ l, 48 ≤ c ∧ c ≤ 57
theorem dig_inj : ∀ {a b r s : List Nat}, Dig a → Dig b → Fr r → Fr s → a ++ r = b ++ s → a = b ∧ r = s
  | [], [], _, _, _, _, _, _, h => ⟨rfl, h⟩
  | [], y :: b, r, s, _, hb, hr, _, h => by
    have := hr y (b ++ s) h
    have := hb y (List.mem_cons_self ..)
    omega
  | x :: a, [], r, s, ha, _, _, hs, h => by
    have := hs x (a ++ r) h.symm
    have := ha x (List.mem_cons_self ..)
    omega
  | x :: a, y :: b, r, s, ha, hb, hr, hs, h => by
    rw [List.cons_append, List.cons_append] at h
    obtain ⟨h1, h2⟩ := List.cons.inj h
    obtain ⟨h3, h4⟩ := dig_inj (fun c m => ha c (List.mem_cons_of_mem _ m)) (fun c m => hb c (List.mem_cons_of_mem _ m)) hr hs h2
    exact ⟨by rw [h1, h3], h4⟩
theorem small_inj : ∀ {a b r s : List Nat}, (∀ c ∈ a, 97 ≤ c ∧ c ≤ 122) → (∀ c ∈ b, 97 ≤ c ∧ c ≤ 122) → a ++ (39 :: r) = b ++ (39 :: s) → a = b ∧ r = s
  | [], [], _, _, _, _, h => ⟨rfl, (List.cons.inj h).2⟩
  | [], y :: b, r, s, _, hb, h => by
    have h1 := (List.cons.inj h).1
    have := hb y (List.mem_cons_self ..)
    omega
  | x :: a, [], r, s, ha, _, h => by
    have h1 := (List.cons.inj h).1
    have := ha x (List.mem_cons_self ..)
    omega
  | x :: a, y :: b, r, s, ha, hb, h => by
    rw [List.cons_append, List.cons_append] at h
    obtain ⟨h1, h2⟩ := List.cons.inj h
    obtain ⟨h3, h4⟩ := small_inj (fun c m => ha c (List.mem_cons_of_mem _ m)) (fun c m => hb c (List.mem_cons_of_mem _ m)) h2
    exact ⟨by rw [h1, h3], h4⟩
def intL (i : Int) : List Nat := if i < 0 then 45 :: numL i.natAbs else numL i.natAbs
theorem w_int (i : Int) : tl (PyData.shown (.int i)) = intL i := by
  simp only [PyData.shown]
  unfold intL
  by_cases h : i < 0
  · rw [if_pos h]
    have e : toString i = "-" ++ toString (0 - i) := PyProof.Rows.toString_neg h
    have e2 : (0 - i) = ((i.natAbs : Nat) : Int) := by omega
    rw [e, e2]
    have := TL.tl_num i.natAbs
    rw [TL.tl_ofString] at this ⊢
    rw [String.toList_append, List.map_append, this]
    rfl
  · rw [if_neg h]
    have e2 : i = ((i.natAbs : Nat) : Int) := by omega
    have := TL.tl_num i.natAbs
    rw [← e2] at this
    exact this
theorem num_dig (n : Nat) : Dig (numL n) := fun c m => by
  have := TL.numL_digits n c m
  omega
theorem int_inj {i j : Int} {r s : List Nat} (hr : Fr r) (hs : Fr s) (h : intL i ++ r = intL j ++ s) : i = j ∧ r = s := by
  unfold intL at h
  have hd : ∀ {n : Nat} {r s : List Nat}, numL n ++ r = 45 :: s → False := fun {n r s} h => by
    cases e : numL n with
    | nil => exact TL.numL_ne n e
    | cons c l =>
      rw [e] at h
      have h1 := (List.cons.inj h).1
      have := num_dig n c (by rw [e]; exact List.mem_cons_self ..)
      omega
  by_cases h1 : i < 0 <;> by_cases h2 : j < 0
  · rw [if_pos h1, if_pos h2] at h
    obtain ⟨e, f⟩ := dig_inj (num_dig _) (num_dig _) hr hs (List.cons.inj h).2
    have := TL.numL_inj e
    exact ⟨by omega, f⟩
  · rw [if_pos h1, if_neg h2] at h
    exact (hd h.symm).elim
  · rw [if_neg h1, if_pos h2] at h
    exact (hd h).elim
  · rw [if_neg h1, if_neg h2] at h
    obtain ⟨e, f⟩ := dig_inj (num_dig _) (num_dig _) hr hs h
    have := TL.numL_inj e
    exact ⟨by omega, f⟩
abbrev wD (d : D) : List Nat := tl (PyData.shown d)
def tailL : List D → List Nat
  | [] => [41]
  | d :: ds => 44 :: 32 :: (wD d ++ tailL ds)
def bodyL : List D → List Nat
  | [] => [41]
  | [d] => wD d ++ [44, 41]
  | d :: e :: ds => wD d ++ tailL (e :: ds)
theorem join_tail : ∀ (d : D) (ds : List D), joinL [44, 32] ((PyData.shownAll (d :: ds)).map tl) ++ [41] = wD d ++ tailL ds
  | d, [] => rfl
  | d, e :: ds => by
    have ih := join_tail e ds
    show (wD d ++ ([44, 32] ++ joinL [44, 32] ((PyData.shownAll (e :: ds)).map tl))) ++ [41] = wD d ++ (44 :: 32 :: (wD e ++ tailL ds))
    rw [← ih, List.append_assoc]
    rfl
theorem w_tup (ds : List D) : wD (.tuple ds) = 40 :: bodyL ds := by
  show tl (PyData.shown (.tuple ds)) = _
  simp only [PyData.shown]
  unfold tupleText
  rw [TL.tl_append, TL.tl_append, TL.tl_join]
  have e0 : tl ("(" : Str) = [40] := by decide +kernel
  have e1 : tl (", " : Str) = [44, 32] := by decide +kernel
  rw [e0, e1]
  match ds with
  | [] => 
    show [40] ++ [] ++ tl _ = _
    decide +kernel
  | [d] =>
    show [40] ++ wD d ++ tl ((if ([PyData.shown d].length == 1) = true then ",)" else ")" : String) : Str) = 40 :: (wD d ++ [44, 41])
    rw [if_pos (show ([PyData.shown d].length == 1) = true from rfl)]
    have : tl ((",)" : String) : Str) = [44, 41] := by decide +kernel
    rw [this]
    rfl
  | d :: e :: ds =>
    have : tl ((if ((PyData.shownAll (d :: e :: ds)).length == 1) = true then ",)" else ")" : String) : Str) = [41] := by
      rw [if_neg (by simp [PyData.shownAll])]
      decide +kernel
    rw [this, List.append_assoc, join_tail]
    rfl
theorem tail_fr (ds : List D) (r : List Nat) : Fr (tailL ds ++ r) := fun c t h => by
  cases ds with
  | nil => have := (List.cons.inj h).1; omega
  | cons d ds => have := (List.cons.inj h).1; omega
/-- the first sign -/
theorem w_head {d : D} (h : Gf d) : ∃ c t, wD d = c :: t ∧ ((48 ≤ c ∧ c ≤ 57 ∨ c = 45) ∧ (∃ i, d = .int i) ∨ c = 39 ∧ (∃ x, d = .str x) ∨ c = 40 ∧ ∃ ds, d = .tuple ds) := by
  cases h with
  | int i =>
    rw [wD, w_int]
    unfold intL
    split
    · exact ⟨_, _, rfl, .inl ⟨.inr rfl, _, rfl⟩⟩
    · cases e : numL i.natAbs with
      | nil => exact (TL.numL_ne _ e).elim
      | cons c l => exact ⟨c, l, rfl, .inl ⟨.inl (num_dig _ c (by rw [e]; exact List.mem_cons_self ..)), _, rfl⟩⟩
  | str x hx => exact ⟨_, _, tl_repr hx, .inr (.inl ⟨rfl, _, rfl⟩)⟩
  | tup ds _ => exact ⟨_, _, w_tup ds, .inr (.inr ⟨rfl, _, rfl⟩)⟩
theorem Gf.ofTup {ds : List D} (h : Gf (.tuple ds)) : ∀ d ∈ ds, Gf d := by
  cases h with
  | tup _ h => exact h
mutual
theorem sh_inj : ∀ (d : D), Gf d → ∀ e, Gf e → ∀ r s, Fr r → Fr s → wD d ++ r = wD e ++ s → d = e ∧ r = s
  | .int i, hd, e, he, r, s, hr, hs, h => by
    obtain ⟨c, t, e1, q⟩ := w_head he
    cases he with
    | int j =>
      rw [wD, wD, w_int, w_int] at h
      obtain ⟨h1, h2⟩ := int_inj hr hs h
      exact ⟨by rw [h1], h2⟩
    | str x hx =>
      obtain ⟨c', t', e1', q'⟩ := w_head hd
      rw [e1, e1'] at h
      have := (List.cons.inj h).1
      rcases q with ⟨_, z, w⟩ | ⟨q, _⟩ | ⟨_, z, w⟩ <;> first | cases w | skip
      rcases q' with ⟨q', _⟩ | ⟨_, z, w⟩ | ⟨_, z, w⟩ <;> first | cases w | omega
    | tup es hx =>
      obtain ⟨c', t', e1', q'⟩ := w_head hd
      rw [e1, e1'] at h
      have := (List.cons.inj h).1
      rcases q with ⟨_, z, w⟩ | ⟨_, z, w⟩ | ⟨q, _⟩ <;> first | cases w | skip
      rcases q' with ⟨q', _⟩ | ⟨_, z, w⟩ | ⟨_, z, w⟩ <;> first | cases w | omega
  | .str x, hd, e, he, r, s, hr, hs, h => by
    obtain ⟨c, t, e1, q⟩ := w_head he
    have hx : ∀ c ∈ tl x, 97 ≤ c ∧ c ≤ 122 := by
      cases hd
      assumption
    rw [wD, tl_repr hx] at h
    cases he with
    | str y hy =>
      rw [wD, tl_repr hy, List.cons_append, List.cons_append, List.append_assoc, List.append_assoc] at h
      obtain ⟨h1, h2⟩ := small_inj hx hy (List.cons.inj h).2
      have : x = y := by
        cases x
        cases y
        simp only [tl, Str.mk.injEq] at h1 ⊢
        exact Array.toList_inj.mp h1
      exact ⟨by rw [this], h2⟩
    | int j =>
      rw [e1] at h
      have := (List.cons.inj h).1
      rcases q with ⟨q, _⟩ | ⟨_, z, w⟩ | ⟨_, z, w⟩ <;> first | cases w | omega
    | tup es hx =>
      rw [e1] at h
      have := (List.cons.inj h).1
      rcases q with ⟨_, z, w⟩ | ⟨_, z, w⟩ | ⟨q, _⟩ <;> first | cases w | omega
  | .tuple ds, hd, e, he, r, s, hr, hs, h => by
    obtain ⟨c, t, e1, q⟩ := w_head he
    rw [w_tup] at h
    cases he with
    | int j =>
      rw [e1] at h
      have := (List.cons.inj h).1
      rcases q with ⟨q, _⟩ | ⟨_, z, w⟩ | ⟨_, z, w⟩ <;> first | cases w | omega
    | str y hy =>
      rw [e1] at h
      have := (List.cons.inj h).1
      rcases q with ⟨_, z, w⟩ | ⟨q, _⟩ | ⟨_, z, w⟩ <;> first | cases w | omega
    | tup es hx =>
      rw [w_tup] at h
      have h := (List.cons.inj h).2
      have no41 : ∀ {d : D} {u v : List Nat}, Gf d → wD d ++ u = 41 :: v → False := fun {d u v} g z => by
        obtain ⟨c, t, e1, q⟩ := w_head g
        rw [e1] at z
        have := (List.cons.inj z).1
        rcases q with ⟨q, _⟩ | ⟨q, _⟩ | ⟨q, _⟩ <;> omega
      have f44 : ∀ u, Fr (44 :: u) := fun u c t z => by
        have := (List.cons.inj z).1
        omega
      match ds, es, Gf.ofTup hd, hx, h with
      | [], [], _, _, h => exact ⟨rfl, (List.cons.inj h).2⟩
      | [], [b], _, hx, h => 
        have h : 41 :: r = (wD b ++ [44, 41]) ++ s := h
        rw [List.append_assoc] at h
        exact (no41 (hx b (List.mem_cons_self ..)) h.symm).elim
      | [], b :: b2 :: es, _, hx, h =>
        have h : 41 :: r = (wD b ++ tailL (b2 :: es)) ++ s := h
        rw [List.append_assoc] at h
        exact (no41 (hx b (List.mem_cons_self ..)) h.symm).elim
      | [a], [], hd, _, h =>
        have h : (wD a ++ [44, 41]) ++ r = 41 :: s := h
        rw [List.append_assoc] at h
        exact (no41 (hd a (List.mem_cons_self ..)) h).elim
      | a :: a2 :: ds, [], hd, _, h =>
        have h : (wD a ++ tailL (a2 :: ds)) ++ r = 41 :: s := h
        rw [List.append_assoc] at h
        exact (no41 (hd a (List.mem_cons_self ..)) h).elim
      | [a], [b], hd, hx, h =>
        have h : (wD a ++ [44, 41]) ++ r = (wD b ++ [44, 41]) ++ s := h
        rw [List.append_assoc, List.append_assoc] at h
        obtain ⟨h1, h2⟩ := sh_inj a (hd a (List.mem_cons_self ..)) b (hx b (List.mem_cons_self ..)) _ _ (f44 _) (f44 _) h
        exact ⟨by rw [h1], (List.cons.inj (List.cons.inj h2).2).2⟩
      | [a], b :: b2 :: es, hd, hx, h =>
        have h : (wD a ++ [44, 41]) ++ r = (wD b ++ tailL (b2 :: es)) ++ s := h
        rw [List.append_assoc, List.append_assoc] at h
        obtain ⟨h1, h2⟩ := sh_inj a (hd a (List.mem_cons_self ..)) b (hx b (List.mem_cons_self ..)) _ _ (f44 _) (tail_fr _ _) h
        have := (List.cons.inj (List.cons.inj h2).2).1
        omega
      | a :: a2 :: ds, [b], hd, hx, h =>
        have h : (wD a ++ tailL (a2 :: ds)) ++ r = (wD b ++ [44, 41]) ++ s := h
        rw [List.append_assoc, List.append_assoc] at h
        obtain ⟨h1, h2⟩ := sh_inj a (hd a (List.mem_cons_self ..)) b (hx b (List.mem_cons_self ..)) _ _ (tail_fr _ _) (f44 _) h
        have := (List.cons.inj (List.cons.inj h2).2).1
        omega
      | a :: a2 :: ds, b :: b2 :: es, hd, hx, h =>
        have h : (wD a ++ tailL (a2 :: ds)) ++ r = (wD b ++ tailL (b2 :: es)) ++ s := h
        rw [List.append_assoc, List.append_assoc] at h
        obtain ⟨h1, h2⟩ := sh_inj a (hd a (List.mem_cons_self ..)) b (hx b (List.mem_cons_self ..)) _ _ (tail_fr _ _) (tail_fr _ _) h
        obtain ⟨h3, h4⟩ := tail_inj (a2 :: ds) (fun d m => hd d (List.mem_cons_of_mem _ m)) (b2 :: es) (fun d m => hx d (List.mem_cons_of_mem _ m)) _ _ h2
        exact ⟨by rw [h1, h3], h4⟩
  | .none, hd, _, _, _, _, _, _, _ => by cases hd
  | .bool _, hd, _, _, _, _, _, _, _ => by cases hd
  | .list _, hd, _, _, _, _, _, _, _ => by cases hd
  | .dict _, hd, _, _, _, _, _, _, _ => by cases hd
theorem tail_inj : ∀ (ds : List D), (∀ d ∈ ds, Gf d) → ∀ es, (∀ e ∈ es, Gf e) → ∀ r s, tailL ds ++ r = tailL es ++ s → ds = es ∧ r = s
  | [], _, [], _, r, s, h => ⟨rfl, (List.cons.inj h).2⟩
  | [], _, e :: es, _, r, s, h => by
    have := (List.cons.inj h).1
    omega
  | d :: ds, _, [], _, r, s, h => by
    have := (List.cons.inj h).1
    omega
  | d :: ds, hd, e :: es, he, r, s, h => by
    have h : (wD d ++ tailL ds) ++ r = (wD e ++ tailL es) ++ s := (List.cons.inj (List.cons.inj h).2).2
    rw [List.append_assoc, List.append_assoc] at h
    obtain ⟨h1, h2⟩ := sh_inj d (hd d (List.mem_cons_self ..)) e (he e (List.mem_cons_self ..)) _ _ (tail_fr _ _) (tail_fr _ _) h
    obtain ⟨h3, h4⟩ := tail_inj ds (fun d m => hd d (List.mem_cons_of_mem _ m)) es (fun d m => he d (List.mem_cons_of_mem _ m)) _ _ h2
    exact ⟨by rw [h1, h3], h4⟩
end
theorem shown_inj {d e : D} (hd : Gf d) (he : Gf e) (h : PyData.shown d = PyData.shown e) : d = e := by
  have n : Fr [] := fun c t z => nomatch z
  refine (sh_inj d hd e he [] [] n n ?_).1
  rw [wD, wD, h]

/-! ### sorted by what is written; a dict of atoms by their numbers -/
open TL (tl)
theorem snocInd {α : Type} {p : List α → Prop} (h0 : p []) (h1 : ∀ l a, p l → p (l ++ [a])) (l : List α) : p l := by
  have : ∀ m : List α, p m.reverse := by
    intro m
    induction m with
    | nil => exact h0
    | cons a m ih =>
      rw [List.reverse_cons]
      exact h1 _ _ ih
  have := this l.reverse
  rwa [List.reverse_reverse] at this
theorem keyLe_eq (a b : D) : keyLe a b = decide (wD a ≤ wD b) := by
  unfold keyLe
  rw [PySem.W.dataLe_str]
theorem keyLe_tr (a b c : D) (h1 : keyLe a b = true) (h2 : keyLe b c = true) : keyLe a c = true := by
  rw [keyLe_eq, decide_eq_true_eq] at *
  exact List.le_trans h1 h2
theorem keyLe_tot (a b : D) : (keyLe a b || keyLe b a) = true := by
  rw [keyLe_eq, keyLe_eq, Bool.or_eq_true, decide_eq_true_eq, decide_eq_true_eq]
  exact List.le_total _ _
theorem sorted_uniq {α : Type} {le : α → α → Prop} : ∀ {l m : List α}, l.Perm m → l.Pairwise le → m.Pairwise le → (∀ a ∈ l, ∀ b ∈ l, le a b → le b a → a = b) → l = m
  | [], m, p, _, _, _ => p.symm.eq_nil.symm
  | a :: l, [], p, _, _, _ => p.eq_nil
  | a :: l, b :: m, p, h1, h2, an => by
    rw [List.pairwise_cons] at h1 h2
    have e : a = b := by
      have ma : a ∈ b :: m := p.mem_iff.mp (List.mem_cons_self ..)
      have mb : b ∈ a :: l := p.mem_iff.mpr (List.mem_cons_self ..)
      rcases List.mem_cons.mp ma with e | ma
      · exact e
      rcases List.mem_cons.mp mb with e | mb
      · exact e.symm
      exact an a (List.mem_cons_self ..) b (List.mem_cons_of_mem _ mb) (h1.1 b mb) (h2.1 a ma)
    subst e
    rw [sorted_uniq (List.Perm.cons_inv p) h1.2 h2.2 fun x hx y hy => an x (List.mem_cons_of_mem _ hx) y (List.mem_cons_of_mem _ hy)]
theorem sortK_perm {l m : List D} (p : l.Perm m) (g : ∀ d ∈ l, Gf d) : sortK l = sortK m := by
  unfold sortK
  have s1 := List.pairwise_mergeSort (le := keyLe) keyLe_tr keyLe_tot l
  have s2 := List.pairwise_mergeSort (le := keyLe) keyLe_tr keyLe_tot m
  refine sorted_uniq (le := fun a b => keyLe a b = true) ((List.mergeSort_perm l keyLe).trans (p.trans (List.mergeSort_perm m keyLe).symm)) s1 s2 fun a ha b hb h1 h2 => ?_
  rw [keyLe_eq, decide_eq_true_eq] at h1 h2
  have ha := g a ((List.mergeSort_perm l keyLe).mem_iff.mp ha)
  have hb := g b ((List.mergeSort_perm l keyLe).mem_iff.mp hb)
  have n : Fr [] := fun c t z => nomatch z
  exact (sh_inj a ha b hb [] [] n n (by rw [List.le_antisymm h1 h2])).1
def encR (d : D) : D := .tuple [.str d.shown, d]
theorem sortP_encR (l : List D) : sortP (l.map encR) = (sortK l).map encR := by
  unfold sortP sortK
  rw [List.map_mergeSort (s := prLe) (f := encR) (r := keyLe) (fun a _ b _ => rfl)]
/-! == on such trees -/
mutual
theorem eqv_gf : ∀ (d : D), Gf d → ∀ e, Gf e → PyData.eqv d e = true → d = e
  | .int i, _, e, he, h => by
    cases he with
    | int j => rw [show i = j by simpa [PyData.eqv] using h]
    | str y _ => simp [PyData.eqv] at h
    | tup _ _ => simp [PyData.eqv] at h
  | .str x, _, e, he, h => by
    cases he with
    | int j => simp [PyData.eqv] at h
    | str y _ => rw [show x = y by simpa [PyData.eqv] using h]
    | tup _ _ => simp [PyData.eqv] at h
  | .tuple ds, hd, e, he, h => by
    cases he with
    | int j => simp [PyData.eqv] at h
    | str y _ => simp [PyData.eqv] at h
    | tup es hx => rw [eqvL_gf ds (Gf.ofTup hd) es hx (by simpa [PyData.eqv] using h)]
  | .none, hd, _, _, _ => by cases hd
  | .bool _, hd, _, _, _ => by cases hd
  | .list _, hd, _, _, _ => by cases hd
  | .dict _, hd, _, _, _ => by cases hd
theorem eqvL_gf : ∀ (ds : List D), (∀ d ∈ ds, Gf d) → ∀ es, (∀ e ∈ es, Gf e) → PyData.eqvAll ds es = true → ds = es
  | [], _, [], _, _ => rfl
  | [], _, _ :: _, _, h => by simp [PyData.eqvAll] at h
  | _ :: _, _, [], _, h => by simp [PyData.eqvAll] at h
  | d :: ds, hd, e :: es, he, h => by
    have h : PyData.eqv d e = true ∧ PyData.eqvAll ds es = true := by simpa [PyData.eqvAll] using h
    rw [eqv_gf d (hd d (List.mem_cons_self ..)) e (he e (List.mem_cons_self ..)) h.1, eqvL_gf ds (fun d m => hd d (List.mem_cons_of_mem _ m)) es (fun d m => he d (List.mem_cons_of_mem _ m)) h.2]
end
/-! all signs are plain -/
mutual
theorem w_ascii : ∀ (d : D), Gf d → ∀ c ∈ wD d, c < 128
  | .int i, _, c, m => by
    rw [wD, w_int] at m
    unfold intL at m
    split at m
    · rcases List.mem_cons.mp m with rfl | m
      · omega
      · have := num_dig _ c m
        omega
    · have := num_dig _ c m
      omega
  | .str x, hd, c, m => by
    have hx : ∀ c ∈ tl x, 97 ≤ c ∧ c ≤ 122 := by
      cases hd
      assumption
    rw [wD, tl_repr hx] at m
    rcases List.mem_cons.mp m with rfl | m
    · omega
    rcases List.mem_append.mp m with m | m
    · have := hx c m
      omega
    · have := List.mem_singleton.mp m
      omega
  | .tuple ds, hd, c, m => by
    rw [w_tup] at m
    rcases List.mem_cons.mp m with rfl | m
    · omega
    · match ds, Gf.ofTup hd, m with
      | [], _, m => have := List.mem_singleton.mp m; omega
      | [d], hd, m =>
        rcases List.mem_append.mp m with m | m
        · exact w_ascii d (hd d (List.mem_cons_self ..)) c m
        · simp only [List.mem_cons, List.not_mem_nil, or_false] at m
          omega
      | d :: e :: ds, hd, m =>
        rcases List.mem_append.mp m with m | m
        · exact w_ascii d (hd d (List.mem_cons_self ..)) c m
        · exact tail_ascii (e :: ds) (fun d m => hd d (List.mem_cons_of_mem _ m)) c m
  | .none, hd, _, _ => by cases hd
  | .bool _, hd, _, _ => by cases hd
  | .list _, hd, _, _ => by cases hd
  | .dict _, hd, _, _ => by cases hd
theorem tail_ascii : ∀ (ds : List D), (∀ d ∈ ds, Gf d) → ∀ c ∈ tailL ds, c < 128
  | [], _, c, m => by have := List.mem_singleton.mp m; omega
  | d :: ds, hd, c, m => by
    rcases List.mem_cons.mp m with rfl | m
    · omega
    rcases List.mem_cons.mp m with rfl | m
    · omega
    rcases List.mem_append.mp m with m | m
    · exact w_ascii d (hd d (List.mem_cons_self ..)) c m
    · exact tail_ascii ds (fun d m => hd d (List.mem_cons_of_mem _ m)) c m
end
theorem strOk_ascii {x : Str} (h : ∀ c ∈ tl x, c < 128) : PyData.strOk x = true := by
  unfold PyData.strOk
  rw [Array.all_eq_true']
  intro c m
  have := h c (Array.mem_toList_iff.mpr m)
  simp
  omega
theorem strOk_gf {d : D} (h : Gf d) : PyData.strOk d.shown = true := strOk_ascii (w_ascii d h)
/-! ### the dict by the atoms' numbers -/
abbrev Pn := Nat × D × Int
def metL (ks : List Nat) : List Nat := ks.foldl (fun acc k => if k ∈ acc then acc else acc ++ [k]) []
def wOf (P : List Pn) (j : Nat) : Int := ((P.filter fun p => decide (p.1 = j)).map fun p => p.2.2).sum
def atO (P : List Pn) (j : Nat) : D := (((P.filter fun p => decide (p.1 = j)).map fun p => p.2.1).head?).getD .none
theorem metL_snoc (ks : List Nat) (k : Nat) : metL (ks ++ [k]) = if k ∈ metL ks then metL ks else metL ks ++ [k] := by
  unfold metL
  rw [List.foldl_append]
  rfl
theorem metL_mem : ∀ (ks : List Nat) (j : Nat), j ∈ metL ks ↔ j ∈ ks := by
  intro ks
  induction ks using snocInd with
  | h0 => intro j; exact Iff.rfl
  | h1 ks k ih =>
    intro j
    rw [metL_snoc]
    split
    · rename_i h
      rw [ih, List.mem_append, List.mem_singleton]
      exact ⟨.inl, fun z => z.elim id fun z => z ▸ (ih k).mp h⟩
    · rw [List.mem_append, List.mem_append, ih]
theorem metL_nd : ∀ ks : List Nat, (metL ks).Nodup := by
  intro ks
  induction ks using snocInd with
  | h0 => exact List.nodup_nil
  | h1 ks k ih =>
    rw [metL_snoc]
    split
    · exact ih
    · rename_i h
      exact List.nodup_append.mpr ⟨ih, by simp, fun x hx y hy => by
        rw [List.mem_singleton.mp hy]
        exact fun z => h (z ▸ hx)⟩
theorem wOf_snoc (P : List Pn) (p : Pn) (j : Nat) : wOf (P ++ [p]) j = wOf P j + if p.1 = j then p.2.2 else 0 := by
  unfold wOf
  rw [List.filter_append, List.map_append, List.sum_append]
  by_cases h : p.1 = j
  · rw [if_pos h]
    simp [h]
  · rw [if_neg h]
    simp [h]
theorem atO_snoc (P : List Pn) (p : Pn) (j : Nat) : atO (P ++ [p]) j = if j ∈ P.map (·.1) then atO P j else if p.1 = j then p.2.1 else .none := by
  unfold atO
  rw [List.filter_append, List.map_append, List.head?_append]
  by_cases h : j ∈ P.map (·.1)
  · rw [if_pos h]
    obtain ⟨q, m, e⟩ := List.mem_map.mp h
    cases hq : P.filter fun p => decide (p.1 = j) with
    | nil =>
      have : q ∈ P.filter fun p => decide (p.1 = j) := List.mem_filter.mpr ⟨m, by simp [e]⟩
      rw [hq] at this
      cases this
    | cons x l => rfl
  · rw [if_neg h]
    have hq : P.filter (fun p => decide (p.1 = j)) = [] := by
      rw [List.filter_eq_nil_iff]
      intro q m z
      exact h (List.mem_map.mpr ⟨q, m, by simpa using z⟩)
    rw [hq]
    by_cases h2 : p.1 = j
    · rw [if_pos h2]
      simp [h2]
    · rw [if_neg h2]
      simp [h2]
theorem insE_map (fm : Nat → D) (f : Nat → En) (j : Nat) (a : D) (w : Int) : ∀ (ks : List Nat), (∀ k ∈ ks, (f k).ky = PyData.shown (fm k)) → ks.Nodup → (∀ k ∈ ks, PyData.shown (fm k) = PyData.shown (fm j) → k = j) →
    insE (ks.map f) a w (fm j) = if j ∈ ks then ks.map (fun k => if k = j then ⟨(f k).ky, (f k).at_, (f k).w + w, (f k).fm⟩ else f k) else ks.map f ++ [⟨PyData.shown (fm j), a, w, fm j⟩]
  | [], _, _, _ => rfl
  | k :: ks, hk, nd, hi => by
    rw [List.nodup_cons] at nd
    have ih := insE_map fm f j a w ks (fun k m => hk k (List.mem_cons_of_mem _ m)) nd.2 fun k m => hi k (List.mem_cons_of_mem _ m)
    rw [List.map_cons]
    unfold insE
    by_cases h : k = j
    · subst h
      rw [if_pos (hk k (List.mem_cons_self ..)), if_pos (List.mem_cons_self ..), List.map_cons, if_pos rfl]
      congr 1
      exact List.map_congr_left fun x hx => by rw [if_neg (fun z : x = k => nd.1 (z ▸ hx))]
    · rw [if_neg (fun z => h (hi k (List.mem_cons_self ..) (by rw [← hk k (List.mem_cons_self ..)]; exact z))), ih]
      by_cases h2 : j ∈ ks
      · rw [if_pos h2, if_pos (List.mem_cons_of_mem _ h2), List.map_cons, if_neg h]
      · rw [if_neg h2, if_neg (fun z => h2 ((List.mem_cons.mp z).resolve_left (fun z => h z.symm)))]
        rfl
def enO (fm : Nat → D) (P : List Pn) (j : Nat) : En := ⟨PyData.shown (fm j), atO P j, wOf P j, fm j⟩
theorem insA_met (fm : Nat → D) : ∀ (P : List Pn), (∀ p ∈ P, ∀ q ∈ P, PyData.shown (fm p.1) = PyData.shown (fm q.1) → p.1 = q.1) → insA [] (P.map fun p => (p.2.1, p.2.2, fm p.1)) = (metL (P.map (·.1))).map (enO fm P) := by
  intro P
  induction P using snocInd with
  | h0 => intro _; rfl
  | h1 P p ih =>
    intro hi
    have ih := ih fun p m q n => hi p (List.mem_append_left _ m) q (List.mem_append_left _ n)
    rw [List.map_append, insA_app, ih]
    show insE _ p.2.1 p.2.2 (fm p.1) = _
    have mem : ∀ k ∈ metL (P.map (·.1)), ∃ q ∈ P, q.1 = k := fun k m => by
      obtain ⟨q, m, e⟩ := List.mem_map.mp ((metL_mem _ _).mp m)
      exact ⟨q, m, e⟩
    rw [insE_map fm (enO fm P) p.1 p.2.1 p.2.2 _ (fun _ _ => rfl) (metL_nd _) fun k m e => by
      obtain ⟨q, mq, rfl⟩ := mem k m
      exact hi q (List.mem_append_left _ mq) p (List.mem_append_right _ (List.mem_singleton.mpr rfl)) e]
    rw [List.map_append, show List.map (fun x : Pn => x.1) [p] = [p.1] from rfl, metL_snoc]
    have same : ∀ k ∈ metL (P.map (·.1)), k ≠ p.1 → enO fm (P ++ [p]) k = enO fm P k := fun k m n => by
      unfold enO
      rw [wOf_snoc, atO_snoc, if_pos ((metL_mem _ _).mp m), if_neg (Ne.symm n), Int.add_zero]
    by_cases h : p.1 ∈ metL (P.map (·.1))
    · rw [if_pos h, if_pos h]
      refine List.map_congr_left fun k m => ?_
      by_cases e : k = p.1
      · subst e
        rw [if_pos rfl]
        unfold enO
        rw [wOf_snoc, atO_snoc, if_pos ((metL_mem _ _).mp m), if_pos rfl]
      · rw [if_neg e, same k m e]
    · rw [if_neg h, if_neg h, List.map_append]
      congr 1
      · exact List.map_congr_left fun k m => (same k m fun z => h (z ▸ m)).symm
      · have n : p.1 ∉ P.map (·.1) := fun z => h ((metL_mem _ _).mpr z)
        have w0 : wOf P p.1 = 0 := by
          unfold wOf
          have : P.filter (fun q => decide (q.1 = p.1)) = [] := by
            rw [List.filter_eq_nil_iff]
            intro q m z
            exact n (List.mem_map.mpr ⟨q, m, by simpa using z⟩)
          rw [this]
          rfl
        show [_] = [enO fm (P ++ [p]) p.1]
        unfold enO
        rw [wOf_snoc, atO_snoc, if_neg n, if_pos rfl, if_pos rfl, w0, Int.zero_add]

/-! ### the law's things, by the numbers of the atoms -/
open TL (tl)
inductive Lg
  | name (x : D)
  | row (x : D)
  | sum (ps : List (Nat × Int)) (n : Int)
  | size (r : Lg)
  | read (r a : Lg)
  | div (a : Lg) (k : Int)
  | mod (a : Lg) (k : Int)
  | ntn (f : D) (ps : Lg)
  | wth (r a b : Lg)
  | room (a : Lg)
  | pnil
  | pcons (p ps : Lg)
def prL (p : Nat × Int) : D := .tuple [.int ((p.1 : Nat) : Int), .int p.2]
def Lg.d : Lg → D
  | .name x => .tuple [wT "name", x]
  | .row x => .tuple [wT "row", x]
  | .sum ps n => .tuple [wT "sum", .list (ps.map prL), .int n]
  | .size r => .tuple [wT "size", r.d]
  | .read r a => .tuple [wT "read", r.d, a.d]
  | .div a k => .tuple [wT "div", a.d, .int k]
  | .mod a k => .tuple [wT "mod", a.d, .int k]
  | .ntn f ps => .tuple [wT "notion", f, ps.d]
  | .wth r a b => .tuple [wT "with", r.d, a.d, b.d]
  | .room a => .tuple [wT "room", a.d]
  | .pnil => .tuple []
  | .pcons p ps => consD p.d ps.d
def Lg.isRw : Lg → Bool
  | .row _ => true
  | .wth _ _ _ => true
  | .room _ => true
  | _ => false
def Lg.isSm : Lg → Bool
  | .sum _ _ => true
  | _ => false
def Lg.isAt : Lg → Bool
  | .name _ => true
  | .size _ => true
  | .read _ _ => true
  | .div _ _ => true
  | .mod _ _ => true
  | .ntn _ _ => true
  | _ => false
def Lg.isPl : Lg → Bool
  | .pnil => true
  | .pcons _ ps => ps.isPl
  | _ => false
def Lg.plen : Lg → Nat
  | .pcons _ ps => ps.plen + 1
  | _ => 0
def prF (fm : Nat → D) (p : Nat × Int) : D := .tuple [fm p.1, .int p.2]
def Lg.fo (fm : Nat → D) : Lg → D
  | .name x => .tuple [wT "name", x]
  | .row x => .tuple [wT "row", x]
  | .sum ps n => .tuple [wT "sum", .tuple (sortK (ps.map (prF fm))), .int n]
  | .size r => .tuple [wT "size", r.fo fm]
  | .read r a => .tuple [wT "read", r.fo fm, a.fo fm]
  | .div a k => .tuple [wT "div", a.fo fm, .int k]
  | .mod a k => .tuple [wT "mod", a.fo fm, .int k]
  | .ntn f ps => .tuple [wT "notion", f, ps.fo fm]
  | .wth r a b => .tuple [wT "with", r.fo fm, a.fo fm, b.fo fm]
  | .room a => .tuple [wT "room", a.fo fm]
  | .pnil => .tuple []
  | .pcons p ps => consD (p.fo fm) (ps.fo fm)
def small (x : Str) : Prop := (∀ c ∈ tl x, 97 ≤ c ∧ c ≤ 122) ∧ x.length ≤ 12
def Nm (x : D) : Prop := (∃ i : Int, x = .int i ∧ i.natAbs < 100) ∨ ∃ s, x = .str s ∧ small s
structure SmOk (m : Nat) (ps : List (Nat × Int)) (n : Int) : Prop where
  nd : (ps.map Prod.fst).Nodup
  ms : ∀ p ∈ ps, p.1 < m ∧ p.2 ≠ 0 ∧ p.2.natAbs ≤ 2 ^ 80
  ln : ps.length ≤ 4
  n : n.natAbs ≤ 2 ^ 80
def Lg.ok (m : Nat) : Lg → Prop
  | .name x => Nm x
  | .row x => Nm x
  | .sum ps n => SmOk m ps n
  | .size r => r.isRw = true ∧ r.ok m
  | .read r a => (r.isRw = true ∧ r.ok m) ∧ a.isSm = true ∧ a.ok m
  | .div a k => (a.isSm = true ∧ a.ok m) ∧ k.natAbs < 2 ^ 80
  | .mod a k => (a.isSm = true ∧ a.ok m) ∧ k.natAbs < 2 ^ 80
  | .ntn f ps => Nm f ∧ ps.isPl = true ∧ ps.plen ≤ 10 ∧ ps.ok m
  | .wth r a b => (r.isRw = true ∧ r.ok m) ∧ (a.isSm = true ∧ a.ok m) ∧ b.isSm = true ∧ b.ok m
  | .room a => a.isSm = true ∧ a.ok m
  | .pnil => True
  | .pcons p ps => (p.isRw = true ∨ p.isSm = true) ∧ p.ok m ∧ ps.isPl = true ∧ ps.ok m
def lmax : List Nat → Nat
  | [] => 0
  | x :: l => max x (lmax l)
theorem lmax_le : ∀ {l : List Nat} {x : Nat}, x ∈ l → x ≤ lmax l
  | y :: l, x, h => by
    show x ≤ max y (lmax l)
    rcases List.mem_cons.mp h with rfl | h
    · exact Nat.le_max_left _ _
    · exact Nat.le_trans (lmax_le h) (Nat.le_max_right _ _)
theorem lmax_of : ∀ {l : List Nat} {b : Nat}, (∀ x ∈ l, x ≤ b) → lmax l ≤ b
  | [], _, _ => Nat.zero_le _
  | y :: l, b, h => Nat.max_le.mpr ⟨h y (List.mem_cons_self ..), lmax_of fun x m => h x (List.mem_cons_of_mem _ m)⟩
/-- how deep the calls go -/
def Lg.mz (ar : Nat → Nat) : Lg → Nat
  | .name _ => 1
  | .row _ => 1
  | .sum ps _ => 40 + lmax (ps.map fun p => ar p.1)
  | .size r => 2 + r.mz ar
  | .read r a => 2 + max (r.mz ar) (a.mz ar)
  | .div a _ => 2 + a.mz ar
  | .mod a _ => 2 + a.mz ar
  | .ntn _ ps => 2 + ps.mz ar
  | .wth r a b => 2 + max (r.mz ar) (max (a.mz ar) (b.mz ar))
  | .room a => 2 + a.mz ar
  | .pnil => 0
  | .pcons p ps => max (p.mz ar + 1) (ps.mz ar)
/-- how deep, how many pairs, how many nodes -/
def Lg.dz : Lg → Nat
  | .name _ => 0
  | .row _ => 0
  | .sum _ _ => 0
  | .size r => 1 + r.dz
  | .read r a => 1 + max r.dz a.dz
  | .div a _ => 1 + a.dz
  | .mod a _ => 1 + a.dz
  | .ntn _ ps => 1 + ps.dz
  | .wth r a b => 1 + max r.dz (max a.dz b.dz)
  | .room a => 1 + a.dz
  | .pnil => 0
  | .pcons p ps => max (1 + p.dz) ps.dz
def Lg.np : Lg → Nat
  | .name _ => 0
  | .row _ => 0
  | .sum ps _ => ps.length
  | .size r => r.np
  | .read r a => r.np + a.np
  | .div a _ => a.np
  | .mod a _ => a.np
  | .ntn _ ps => ps.np
  | .wth r a b => r.np + a.np + b.np
  | .room a => a.np
  | .pnil => 0
  | .pcons p ps => p.np + ps.np
def Lg.nn : Lg → Nat
  | .name _ => 1
  | .row _ => 1
  | .sum _ _ => 1
  | .size r => 1 + r.nn
  | .read r a => 1 + r.nn + a.nn
  | .div a _ => 1 + a.nn
  | .mod a _ => 1 + a.nn
  | .ntn _ ps => 1 + ps.nn
  | .wth r a b => 1 + r.nn + a.nn + b.nn
  | .room a => 1 + a.nn
  | .pnil => 1
  | .pcons p ps => 1 + p.nn + ps.nn
theorem sum_at {l : List Nat} {ps : List (Nat × Int)} {f g : Nat → D} (h : ∀ p ∈ ps, f p.1 = g p.1) : ps.map (prF f) = ps.map (prF g) := List.map_congr_left fun p m => by
  unfold prF
  rw [h p m]
theorem Lg.fo_congr {m : Nat} {f g : Nat → D} (e : ∀ j, j < m → f j = g j) : ∀ t : Lg, t.ok m → t.fo f = t.fo g
  | .name _, _ => rfl
  | .row _, _ => rfl
  | .sum ps n, h => by
    unfold Lg.fo
    rw [sum_at (l := []) fun p q => e _ (h.ms p q).1]
  | .size r, h => by unfold Lg.fo; rw [Lg.fo_congr e r h.2]
  | .read r a, h => by unfold Lg.fo; rw [Lg.fo_congr e r h.1.2, Lg.fo_congr e a h.2.2]
  | .div a k, h => by unfold Lg.fo; rw [Lg.fo_congr e a h.1.2]
  | .mod a k, h => by unfold Lg.fo; rw [Lg.fo_congr e a h.1.2]
  | .ntn f ps, h => by unfold Lg.fo; rw [Lg.fo_congr e ps h.2.2.2]
  | .wth r a b, h => by unfold Lg.fo; rw [Lg.fo_congr e r h.1.2, Lg.fo_congr e a h.2.1.2, Lg.fo_congr e b h.2.2.2]
  | .room a, h => by unfold Lg.fo; rw [Lg.fo_congr e a h.2]
  | .pnil, _ => rfl
  | .pcons p ps, h => by unfold Lg.fo; rw [Lg.fo_congr e p h.2.1, Lg.fo_congr e ps h.2.2.2]
theorem Lg.mz_congr {m : Nat} {f g : Nat → Nat} (e : ∀ j, j < m → f j = g j) : ∀ t : Lg, t.ok m → t.mz f = t.mz g
  | .name _, _ => rfl
  | .row _, _ => rfl
  | .sum ps n, h => by
    unfold Lg.mz
    rw [List.map_congr_left fun p q => e _ (h.ms p q).1]
  | .size r, h => by unfold Lg.mz; rw [Lg.mz_congr e r h.2]
  | .read r a, h => by unfold Lg.mz; rw [Lg.mz_congr e r h.1.2, Lg.mz_congr e a h.2.2]
  | .div a k, h => by unfold Lg.mz; rw [Lg.mz_congr e a h.1.2]
  | .mod a k, h => by unfold Lg.mz; rw [Lg.mz_congr e a h.1.2]
  | .ntn f ps, h => by unfold Lg.mz; rw [Lg.mz_congr e ps h.2.2.2]
  | .wth r a b, h => by unfold Lg.mz; rw [Lg.mz_congr e r h.1.2, Lg.mz_congr e a h.2.1.2, Lg.mz_congr e b h.2.2.2]
  | .room a, h => by unfold Lg.mz; rw [Lg.mz_congr e a h.2]
  | .pnil, _ => rfl
  | .pcons p ps, h => by unfold Lg.mz; rw [Lg.mz_congr e p h.2.1, Lg.mz_congr e ps h.2.2.2]
theorem Lg.ok_mono {m n : Nat} (l : m ≤ n) : ∀ t : Lg, t.ok m → t.ok n
  | .name _, h => h
  | .row _, h => h
  | .sum ps k, h => ⟨h.nd, fun p q => ⟨Nat.lt_of_lt_of_le (h.ms p q).1 l, (h.ms p q).2⟩, h.ln, h.n⟩
  | .size r, h => ⟨h.1, Lg.ok_mono l r h.2⟩
  | .read r a, h => ⟨⟨h.1.1, Lg.ok_mono l r h.1.2⟩, h.2.1, Lg.ok_mono l a h.2.2⟩
  | .div a k, h => ⟨⟨h.1.1, Lg.ok_mono l a h.1.2⟩, h.2⟩
  | .mod a k, h => ⟨⟨h.1.1, Lg.ok_mono l a h.1.2⟩, h.2⟩
  | .ntn f ps, h => ⟨h.1, h.2.1, h.2.2.1, Lg.ok_mono l ps h.2.2.2⟩
  | .wth r a b, h => ⟨⟨h.1.1, Lg.ok_mono l r h.1.2⟩, ⟨h.2.1.1, Lg.ok_mono l a h.2.1.2⟩, h.2.2.1, Lg.ok_mono l b h.2.2.2⟩
  | .room a, h => ⟨h.1, Lg.ok_mono l a h.2⟩
  | .pnil, _ => trivial
  | .pcons p ps, h => ⟨h.1, Lg.ok_mono l p h.2.1, h.2.2.1, Lg.ok_mono l ps h.2.2.2⟩
theorem gf_w (x : String) (h : ∀ c ∈ tl (Str.ofString x), 97 ≤ c ∧ c ≤ 122) : Gf (wT x) := .str _ h
theorem Gf.cons {d : D} {y : D} (hd : Gf d) (hy : Gf y) : Gf (consD d y) := by
  cases hy with
  | int i => exact .int i
  | str x h => exact .str x h
  | tup ds h => exact .tup _ fun e m => (List.mem_cons.mp m).elim (fun z => z ▸ hd) (h e)
theorem Nm.gf {x : D} (h : Nm x) : Gf x := by
  rcases h with ⟨i, rfl, _⟩ | ⟨s, rfl, h⟩
  · exact .int i
  · exact .str s h.1
theorem Gf.t1 {a : D} (ha : Gf a) : ∀ d ∈ [a], Gf d := fun d m => by
  rw [List.mem_singleton.mp m]
  exact ha
theorem Gf.tc {a : D} {l : List D} (ha : Gf a) (hl : ∀ d ∈ l, Gf d) : ∀ d ∈ a :: l, Gf d := fun d m => (List.mem_cons.mp m).elim (fun z => z ▸ ha) (hl d)
theorem prF_gf {fm : Nat → D} {p : Nat × Int} (h : Gf (fm p.1)) : Gf (prF fm p) := .tup _ (Gf.tc h (Gf.t1 (.int _)))
theorem Lg.gf {m : Nat} {fm : Nat → D} (e : ∀ j, j < m → Gf (fm j)) : ∀ t : Lg, t.ok m → Gf (t.fo fm)
  | .name x, h => .tup _ (Gf.tc (gf_w _ (by decide +kernel)) (Gf.t1 h.gf))
  | .row x, h => .tup _ (Gf.tc (gf_w _ (by decide +kernel)) (Gf.t1 h.gf))
  | .sum ps n, h => .tup _ (Gf.tc (gf_w _ (by decide +kernel)) (Gf.tc (.tup _ fun d m => by
      obtain ⟨p, q, rfl⟩ := List.mem_map.mp ((List.mergeSort_perm ..).mem_iff.mp m)
      exact prF_gf (e _ (h.ms p q).1)) (Gf.t1 (.int n))))
  | .size r, h => .tup _ (Gf.tc (gf_w _ (by decide +kernel)) (Gf.t1 (Lg.gf e r h.2)))
  | .read r a, h => .tup _ (Gf.tc (gf_w _ (by decide +kernel)) (Gf.tc (Lg.gf e r h.1.2) (Gf.t1 (Lg.gf e a h.2.2))))
  | .div a k, h => .tup _ (Gf.tc (gf_w _ (by decide +kernel)) (Gf.tc (Lg.gf e a h.1.2) (Gf.t1 (.int k))))
  | .mod a k, h => .tup _ (Gf.tc (gf_w _ (by decide +kernel)) (Gf.tc (Lg.gf e a h.1.2) (Gf.t1 (.int k))))
  | .ntn f ps, h => .tup _ (Gf.tc (gf_w _ (by decide +kernel)) (Gf.tc h.1.gf (Gf.t1 (Lg.gf e ps h.2.2.2))))
  | .wth r a b, h => .tup _ (Gf.tc (gf_w _ (by decide +kernel)) (Gf.tc (Lg.gf e r h.1.2) (Gf.tc (Lg.gf e a h.2.1.2) (Gf.t1 (Lg.gf e b h.2.2.2)))))
  | .room a, h => .tup _ (Gf.tc (gf_w _ (by decide +kernel)) (Gf.t1 (Lg.gf e a h.2)))
  | .pnil, _ => .tup _ fun _ m => nomatch m
  | .pcons p ps, h => Gf.cons (Lg.gf e p h.2.1) (Lg.gf e ps h.2.2.2)
theorem Lg.mz_le {m A : Nat} {ar : Nat → Nat} (e : ∀ j, j < m → ar j ≤ A) : ∀ t : Lg, t.ok m → t.mz ar ≤ 40 + A + 2 * t.dz
  | .name _, _ => by unfold Lg.mz; omega
  | .row _, _ => by unfold Lg.mz; omega
  | .sum ps n, h => by
    unfold Lg.mz
    have : lmax (ps.map fun p => ar p.1) ≤ A := lmax_of fun x q => by
      obtain ⟨p, mp, rfl⟩ := List.mem_map.mp q
      exact e _ (h.ms p mp).1
    omega
  | .size r, h => by have := Lg.mz_le e r h.2; simp only [Lg.mz, Lg.dz]; omega
  | .read r a, h => by have := Lg.mz_le e r h.1.2; have := Lg.mz_le e a h.2.2; simp only [Lg.mz, Lg.dz]; omega
  | .div a k, h => by have := Lg.mz_le e a h.1.2; simp only [Lg.mz, Lg.dz]; omega
  | .mod a k, h => by have := Lg.mz_le e a h.1.2; simp only [Lg.mz, Lg.dz]; omega
  | .ntn f ps, h => by have := Lg.mz_le e ps h.2.2.2; simp only [Lg.mz, Lg.dz]; omega
  | .wth r a b, h => by have := Lg.mz_le e r h.1.2; have := Lg.mz_le e a h.2.1.2; have := Lg.mz_le e b h.2.2.2; simp only [Lg.mz, Lg.dz]; omega
  | .room a, h => by have := Lg.mz_le e a h.2; simp only [Lg.mz, Lg.dz]; omega
  | .pnil, _ => by unfold Lg.mz; omega
  | .pcons p ps, h => by have := Lg.mz_le e p h.2.1; have := Lg.mz_le e ps h.2.2.2; simp only [Lg.mz, Lg.dz]; omega
/-! bounds of the forms -/
theorem Bt.cons {h t1 t2 : Nat} {d y : D} (x : Bt h t1 d) (z : Bt (h + 1) t2 y) : Bt (h + 1) (t1 + t2 + 2) (consD d y) := by
  cases y with
  | tuple l =>
    have z1 := z.ofTup
    have hs : Bt (h + 1) (t1 + (t2 - 3) + 2 + 3) (.tuple (d :: l)) := by
      refine Bt.tup (BtL.cons x (⟨z1.b, z1.h, ?_⟩))
      have := z.t
      simp only [sz] at this
      omega
    refine hs.to (Nat.le_refl _) ?_
    have := z.t
    simp only [sz] at this
    omega
  | _ => exact z.to (Nat.le_refl _) (by omega)
theorem Nm.bt {h : Nat} {x : D} (e : Nm x) : Bt h 251 x := by
  rcases e with ⟨i, rfl, hi⟩ | ⟨s, rfl, hs⟩
  · exact Bt.int (Nat.lt_of_lt_of_le hi (by decide))
  · exact (Bt.str (strOk_ascii fun c m => by have := hs.1 c m; omega) hs.2).to (Nat.le_refl _) (by decide)
theorem bt_w {h : Nat} {x : String} (e : PyData.strOk (Str.ofString x) = true) (l : (Str.ofString x).length ≤ 6) : Bt h 62 (wT x) := Bt.str e l
theorem bt_i {h : Nat} {i : Int} (e : i.natAbs ≤ 2 ^ 80) : Bt h 251 (.int i) := Bt.int (Nat.lt_of_le_of_lt e (by decide))
theorem Lg.bt {m H T : Nat} {fm : Nat → D} (e : ∀ j, j < m → Bt H T (fm j)) : ∀ t : Lg, t.ok m → Bt (H + 3 + t.dz) (t.np * (T + 262) + t.nn * 400) (t.fo fm)
  | .name x, h => (Bt.tup (h := 0) (BtL.cons (bt_w (by decide +kernel) (by decide +kernel)) (BtL.cons h.bt (BtL.nil (t := 0))))).to (by simp only [Lg.dz]; omega) (by simp only [Lg.np, Lg.nn]; omega)
  | .row x, h => (Bt.tup (h := 0) (BtL.cons (bt_w (by decide +kernel) (by decide +kernel)) (BtL.cons h.bt (BtL.nil (t := 0))))).to (by simp only [Lg.dz]; omega) (by simp only [Lg.np, Lg.nn]; omega)
  | .sum ps n, h => by
    have h1 : BtL (H + 1) ((sortK (ps.map (prF fm))).length * (T + 262)) (sortK (ps.map (prF fm))) := BtL.all (t := T + 260) fun d q => by
      obtain ⟨p, mp, rfl⟩ := List.mem_map.mp ((List.mergeSort_perm ..).mem_iff.mp q)
      obtain ⟨q1, q2, q3⟩ := h.ms p mp
      exact (Bt.tup (BtL.cons (e _ q1) (BtL.cons (bt_i q3) (BtL.nil (t := 0))))).to (Nat.le_refl _) (by omega)
    have hl : (sortK (ps.map (prF fm))).length = ps.length := by
      unfold sortK
      rw [List.length_mergeSort, List.length_map]
    rw [hl] at h1
    exact (Bt.tup (BtL.cons (bt_w (by decide +kernel) (by decide +kernel)) (BtL.cons (Bt.tup h1) (BtL.cons (bt_i h.n) (BtL.nil (t := 0)))))).to (by simp only [Lg.dz]; omega) (by simp only [Lg.np, Lg.nn]; omega)
  | .size r, h => (Bt.tup (BtL.cons (bt_w (by decide +kernel) (by decide +kernel)) (BtL.cons (Lg.bt e r h.2) (BtL.nil (t := 0))))).to (by simp only [Lg.dz]; omega) (by simp only [Lg.np, Lg.nn]; omega)
  | .room r, h => (Bt.tup (BtL.cons (bt_w (by decide +kernel) (by decide +kernel)) (BtL.cons (Lg.bt e r h.2) (BtL.nil (t := 0))))).to (by simp only [Lg.dz]; omega) (by simp only [Lg.np, Lg.nn]; omega)
  | .div a k, h => (Bt.tup (BtL.cons (bt_w (by decide +kernel) (by decide +kernel)) (BtL.cons (Lg.bt e a h.1.2) (BtL.cons (bt_i (Nat.le_of_lt h.2)) (BtL.nil (t := 0)))))).to (by simp only [Lg.dz]; omega) (by simp only [Lg.np, Lg.nn]; omega)
  | .mod a k, h => (Bt.tup (BtL.cons (bt_w (by decide +kernel) (by decide +kernel)) (BtL.cons (Lg.bt e a h.1.2) (BtL.cons (bt_i (Nat.le_of_lt h.2)) (BtL.nil (t := 0)))))).to (by simp only [Lg.dz]; omega) (by simp only [Lg.np, Lg.nn]; omega)
  | .read r a, h => by
    have h1 := (Lg.bt e r h.1.2).to (h' := H + 3 + max r.dz a.dz) (by omega) (Nat.le_refl _)
    have h2 := (Lg.bt e a h.2.2).to (h' := H + 3 + max r.dz a.dz) (by omega) (Nat.le_refl _)
    refine (Bt.tup (BtL.cons (bt_w (by decide +kernel) (by decide +kernel)) (BtL.cons h1 (BtL.cons h2 (BtL.nil (t := 0)))))).to (by simp only [Lg.dz]; omega) ?_
    simp only [Lg.np, Lg.nn]
    rw [Nat.add_mul]
    omega
  | .ntn f ps, h => (Bt.tup (BtL.cons (bt_w (by decide +kernel) (by decide +kernel)) (BtL.cons h.1.bt (BtL.cons (Lg.bt e ps h.2.2.2) (BtL.nil (t := 0)))))).to (by simp only [Lg.dz]; omega) (by simp only [Lg.np, Lg.nn]; omega)
  | .wth r a b, h => by
    have h1 := (Lg.bt e r h.1.2).to (h' := H + 3 + max r.dz (max a.dz b.dz)) (by omega) (Nat.le_refl _)
    have h2 := (Lg.bt e a h.2.1.2).to (h' := H + 3 + max r.dz (max a.dz b.dz)) (by omega) (Nat.le_refl _)
    have h3 := (Lg.bt e b h.2.2.2).to (h' := H + 3 + max r.dz (max a.dz b.dz)) (by omega) (Nat.le_refl _)
    refine (Bt.tup (BtL.cons (bt_w (by decide +kernel) (by decide +kernel)) (BtL.cons h1 (BtL.cons h2 (BtL.cons h3 (BtL.nil (t := 0))))))).to (by simp only [Lg.dz]; omega) ?_
    simp only [Lg.np, Lg.nn]
    rw [Nat.add_mul, Nat.add_mul]
    omega
  | .pnil, _ => (Bt.tup (h := 0) (BtL.nil (t := 0))).to (by omega) (by simp only [Lg.np, Lg.nn]; omega)
  | .pcons p ps, h => by
    have h1 := (Lg.bt e p h.2.1).to (h' := H + 3 + max (1 + p.dz) ps.dz - 1) (by omega) (Nat.le_refl _)
    have h2 := (Lg.bt e ps h.2.2.2).to (h' := H + 3 + max (1 + p.dz) ps.dz - 1 + 1) (by omega) (Nat.le_refl _)
    refine (Bt.cons h1 h2).to (by simp only [Lg.dz]; omega) ?_
    simp only [Lg.np, Lg.nn]
    rw [Nat.add_mul]
    omega

/-! ### things spelled: what a written term comes to -/
theorem Dat.le : ∀ {j k : Nat} {d : D}, j ≤ k → dat j d → dat k d
  | _, _, .none, _, _ => by unfold dat; trivial
  | _, _, .bool _, _, _ => by unfold dat; trivial
  | _, _, .int _, _, _ => by unfold dat; trivial
  | _, _, .str _, _, _ => by unfold dat; trivial
  | 0, _, .list _, _, h => by unfold dat at h; exact h.elim
  | 0, _, .tuple _, _, h => by unfold dat at h; exact h.elim
  | 0, _, .dict _, _, h => by unfold dat at h; exact h.elim
  | j + 1, 0, _, l, _ => by omega
  | j + 1, k + 1, .list ds, l, h => by
    unfold dat at h ⊢
    exact ⟨h.1, fun d m => Dat.le (by omega) (h.2 d m)⟩
  | j + 1, k + 1, .tuple ds, l, h => by
    unfold dat at h ⊢
    exact ⟨h.1, fun d m => Dat.le (by omega) (h.2 d m)⟩
  | j + 1, k + 1, .dict ds, l, h => by unfold dat at h; exact h.elim
theorem Dat.str {k : Nat} {x : Str} : dat k (.str x) := by cases k <;> trivial
theorem Dat.int {k : Nat} {x : Int} : dat k (.int x) := by cases k <;> trivial
theorem Dat.tup {k : Nat} {ds : List D} (l : ds.length ≤ 1000) (h : ∀ d ∈ ds, dat k d) : dat (k + 1) (.tuple ds) := ⟨Nat.le_trans l (by decide), h⟩
theorem Dat.t1 {k : Nat} {a : D} (ha : dat k a) : ∀ d ∈ [a], dat k d := fun d m => by
  rw [List.mem_singleton.mp m]
  exact ha
theorem Dat.tc {k : Nat} {a : D} {l : List D} (ha : dat k a) (hl : ∀ d ∈ l, dat k d) : ∀ d ∈ a :: l, dat k d := fun d m => (List.mem_cons.mp m).elim (fun z => z ▸ ha) (hl d)
theorem Nm.dat {k : Nat} {x : D} (h : Nm x) : dat k x := by
  rcases h with ⟨i, rfl, _⟩ | ⟨s, rfl, _⟩
  · exact Dat.int
  · exact Dat.str
/-- an atom, spelled -/
structure SpA (c : Nat) (f : D) (t : Th) : Prop where
  at_ : t.at = true
  rw : t.isRow = false
  fi : t.sm.fi = f
  ok : t.sm.okI
  ci : t.sm.ci ≤ c
  da : dat c t.d
/-- a row term or a term, spelled -/
structure SpP (c : Nat) (f : D) (t : Th) : Prop where
  fo : t.fo = f
  ok : okF t.isRow t.sm
  cf : cfS t.isRow t.sm ≤ c
  da : dat c t.d
structure SpR (c : Nat) (f : D) (t : Th) : Prop where
  at_ : t.at = true
  rw : t.isRow = true
  fi : t.sm.fi = f
  ok : t.sm.okI
  ci : t.sm.ci ≤ c
  da : dat c t.d
theorem SpR.p {c : Nat} {f : D} {t : Th} (h : SpR c f t) : SpP (c + 1) f t := by
  refine ⟨?_, ?_, ?_, Dat.le (Nat.le_succ c) h.da⟩
  · unfold Th.fo foS
    rw [if_pos h.rw, h.fi]
  · unfold okF
    rw [if_pos h.rw]
    exact h.ok
  · unfold cfS
    rw [if_pos h.rw]
    have := h.ci
    omega
structure SpPl (c : Nat) (f : D) (n : Nat) (t : Th) : Prop where
  pl : t.isPl = true
  ln : t.plen = n
  fi : t.sm.fi = f
  ok : t.sm.okI
  ci : t.sm.ci ≤ c
  da : ∃ l, t.d = .tuple l ∧ l.length = n ∧ ∀ d ∈ l, dat c d
section
variable {c : Nat} {f g e : D} {r a b t : Th}
theorem SpA.name {x : D} (h : Nm x) : SpA 1 (.tuple [wT "name", x]) (.name x) := ⟨rfl, rfl, rfl, trivial, Nat.le_refl _, Dat.tup (by simp) (Dat.tc Dat.str (Dat.t1 h.dat))⟩
theorem SpR.row {x : D} (h : Nm x) : SpR 1 (.tuple [wT "row", x]) (.row x) := ⟨rfl, rfl, rfl, trivial, Nat.le_refl _, Dat.tup (by simp) (Dat.tc Dat.str (Dat.t1 h.dat))⟩
theorem SpA.size (h : SpP c f r) : SpA (c + 1) (.tuple [wT "size", f]) (.size r) := ⟨rfl, rfl, by rw [← h.fo]; rfl, h.ok, by have := h.cf; show 1 + _ ≤ _; omega, Dat.tup (by simp) (Dat.tc Dat.str (Dat.t1 h.da))⟩
theorem SpR.room (h : SpP c f r) : SpR (c + 1) (.tuple [wT "room", f]) (.room r) := ⟨rfl, rfl, by rw [← h.fo]; rfl, h.ok, by have := h.cf; show 1 + _ ≤ _; omega, Dat.tup (by simp) (Dat.tc Dat.str (Dat.t1 h.da))⟩
theorem SpA.div {k : Int} (h : SpP c f r) : SpA (c + 1) (.tuple [wT "div", f, .int k]) (.div r k) := ⟨rfl, rfl, by rw [← h.fo]; rfl, h.ok, by have := h.cf; show 1 + _ ≤ _; omega, Dat.tup (by simp) (Dat.tc Dat.str (Dat.tc h.da (Dat.t1 Dat.int)))⟩
theorem SpA.mod {k : Int} (h : SpP c f r) : SpA (c + 1) (.tuple [wT "mod", f, .int k]) (.mod r k) := ⟨rfl, rfl, by rw [← h.fo]; rfl, h.ok, by have := h.cf; show 1 + _ ≤ _; omega, Dat.tup (by simp) (Dat.tc Dat.str (Dat.tc h.da (Dat.t1 Dat.int)))⟩
theorem SpA.read (h : SpP c f r) (k : SpP c g a) : SpA (c + 1) (.tuple [wT "read", f, g]) (.read r a) := ⟨rfl, rfl, by rw [← h.fo, ← k.fo]; rfl, ⟨h.ok, k.ok⟩, by have := h.cf; have := k.cf; show 1 + max _ _ ≤ _; omega, Dat.tup (by simp) (Dat.tc Dat.str (Dat.tc h.da (Dat.t1 k.da)))⟩
theorem SpR.wth (h : SpP c f r) (k : SpP c g a) (l : SpP c e b) : SpR (c + 1) (.tuple [wT "with", f, g, e]) (.wth r a b) := ⟨rfl, rfl, by rw [← h.fo, ← k.fo, ← l.fo]; rfl, ⟨h.ok, k.ok, l.ok⟩, by have := h.cf; have := k.cf; have := l.cf; show 1 + max _ (max _ _) ≤ _; omega, Dat.tup (by simp) (Dat.tc Dat.str (Dat.tc h.da (Dat.tc k.da (Dat.t1 l.da))))⟩
theorem SpPl.nil : SpPl c (.tuple []) 0 .pnil := ⟨rfl, rfl, rfl, trivial, Nat.zero_le _, [], rfl, rfl, fun _ m => nomatch m⟩
theorem SpPl.cons {n : Nat} (h : SpP c f t) (k : SpPl c g n a) : SpPl c (consD f g) (n + 1) (.pcons t a) := by
  obtain ⟨l, e1, e2, e3⟩ := k.da
  refine ⟨k.pl, ?_, ?_, ⟨h.ok, k.ok⟩, ?_, t.d :: l, ?_, by rw [List.length_cons, e2], Dat.tc h.da e3⟩
  · show a.plen + 1 = _
    rw [k.ln]
  · rw [← h.fo, ← k.fi]
    rfl
  · have := h.cf
    have := k.ci
    show max _ _ ≤ _
    omega
  · show consD t.d a.d = _
    rw [e1]
    rfl
theorem SpA.ntn {n : Nat} {x : D} (hx : Nm x) (hn : n ≤ 10) (k : SpPl c g n a) : SpA (c + 2) (.tuple [wT "notion", x, g]) (.ntn x a) := by
  obtain ⟨l, e1, e2, e3⟩ := k.da
  refine ⟨rfl, rfl, by rw [← k.fi]; rfl, ⟨k.pl, by rw [k.ln]; omega, k.ok⟩, by have := k.ci; show 1 + _ ≤ _; omega, Dat.tup (by simp) (Dat.tc Dat.str (Dat.tc hx.dat (Dat.t1 ?_)))⟩
  rw [e1]
  exact Dat.tup (by omega) e3
theorem SpA.le {c' : Nat} (l : c ≤ c') (h : SpA c f t) : SpA c' f t := ⟨h.at_, h.rw, h.fi, h.ok, Nat.le_trans h.ci l, Dat.le l h.da⟩
theorem SpR.le {c' : Nat} (l : c ≤ c') (h : SpR c f t) : SpR c' f t := ⟨h.at_, h.rw, h.fi, h.ok, Nat.le_trans h.ci l, Dat.le l h.da⟩
theorem SpP.le {c' : Nat} (l : c ≤ c') (h : SpP c f t) : SpP c' f t := ⟨h.fo, h.ok, Nat.le_trans h.cf l, Dat.le l h.da⟩
theorem SpPl.le {c' n : Nat} (l : c ≤ c') (h : SpPl c f n t) : SpPl c' f n t := ⟨h.pl, h.ln, h.fi, h.ok, Nat.le_trans h.ci l, let ⟨m, e1, e2, e3⟩ := h.da; ⟨m, e1, e2, fun d q => Dat.le l (e3 d q)⟩⟩
end
/-! leaves and trees -/
structure Lf where
  k : Option Nat
  t : Th
  w : Int
def kD : Option Nat → D
  | some j => .int ((j : Nat) : Int)
  | none => .int (-1)
def Lf.d (l : Lf) : D := .tuple [kD l.k, l.t.d, .int l.w]
structure LfB (c : Nat) (l : Lf) : Prop where
  rw : l.t.isRow = false
  cg : l.t.sm.cg ≤ c
  go : ∀ o, Sml o → l.t.sm.okG o
  da : dat c l.t.d
  w : l.w.natAbs < 2 ^ 90
structure TreeR (c : Nat) (L : List Lf) (t : Th) : Prop where
  rw : t.isRow = false
  pu : ∀ o, t.sm.pu o = L.flatMap fun l => l.t.sm.pu (o * l.w)
  nu : ∀ o, t.sm.nu o = (L.map fun l => l.t.sm.nu (o * l.w)).sum
  cg : t.sm.cg ≤ c
  go : ∀ o, o.natAbs < 2 ^ 1800 → t.sm.okG o
  da : dat c t.d
theorem sml_mul {o w : Int} (h : o.natAbs < 2 ^ 1800) (k : w.natAbs < 2 ^ 90) : Sml (o * w) := by
  unfold Sml
  rw [Int.natAbs_mul]
  refine Nat.lt_of_le_of_lt (Nat.mul_le_mul (Nat.le_of_lt h) (Nat.le_of_lt k)) ?_
  rw [← Nat.pow_add]
  exact Nat.pow_lt_pow_right (by decide) (by decide)
theorem sml_of {o : Int} (h : o.natAbs < 2 ^ 1800) : Sml o := Nat.lt_trans h (Nat.pow_lt_pow_right (by decide) (by decide))
theorem sml_w {o : Int} (h : o.natAbs < 2 ^ 90) : Sml o := Nat.lt_trans h (Nat.pow_lt_pow_right (by decide) (by decide))
section
variable {c : Nat} {l : Lf} {L M : List Lf} {a b t : Th}
theorem TreeR.le {c' : Nat} (q : c ≤ c') (h : TreeR c L t) : TreeR c' L t := ⟨h.rw, h.pu, h.nu, Nat.le_trans h.cg q, h.go, Dat.le q h.da⟩
theorem TreeR.one (h : LfB c l) (w1 : l.w = 1) : TreeR c [l] l.t := by
  refine ⟨h.rw, fun o => ?_, fun o => ?_, h.cg, fun o q => h.go o (sml_of q), h.da⟩
  · rw [List.flatMap_cons, List.flatMap_nil, List.append_nil, w1, Int.mul_one]
  · rw [List.map_cons, List.map_nil, List.sum_cons, List.sum_nil, Int.add_zero, w1, Int.mul_one]
theorem TreeR.mul (h : LfB c l) : TreeR (c + 1) [l] (.mul l.w l.t) := by
  refine ⟨rfl, fun o => ?_, fun o => ?_, ?_, fun o q => ⟨sml_of q, sml_w h.w, h.go _ (sml_mul q h.w)⟩, Dat.tup (by simp) (Dat.tc Dat.str (Dat.tc Dat.int (Dat.t1 h.da)))⟩
  · rw [List.flatMap_cons, List.flatMap_nil, List.append_nil]
    rfl
  · rw [List.map_cons, List.map_nil, List.sum_cons, List.sum_nil, Int.add_zero]
    rfl
  · have := h.cg
    show 1 + _ ≤ _
    omega
theorem neg_abs (o : Int) : (o * -1).natAbs = o.natAbs := by
  rw [Int.mul_neg, Int.mul_one, Int.natAbs_neg]
theorem TreeR.mm (h : LfB c l) : TreeR (c + 2) [l] (.mul (-1) (.mul (0 - l.w) l.t)) := by
  have e : ∀ o : Int, o * -1 * (0 - l.w) = o * l.w := fun o => by
    have : o * -1 = -o := by rw [Int.mul_neg, Int.mul_one]
    rw [Int.zero_sub, this, Int.neg_mul_neg]
  have w' : (0 - l.w).natAbs < 2 ^ 90 := by
    rw [Int.zero_sub, Int.natAbs_neg]
    exact h.w
  refine ⟨rfl, fun o => ?_, fun o => ?_, ?_, fun o q => ⟨sml_of q, sml_w (by decide), sml_of (by rw [neg_abs]; exact q), sml_w w', ?_⟩, Dat.tup (by simp) (Dat.tc Dat.str (Dat.tc Dat.int (Dat.t1 (Dat.tup (by simp) (Dat.tc Dat.str (Dat.tc Dat.int (Dat.t1 h.da)))))))⟩
  · rw [List.flatMap_cons, List.flatMap_nil, List.append_nil, ← e]
    rfl
  · rw [List.map_cons, List.map_nil, List.sum_cons, List.sum_nil, Int.add_zero, ← e]
    rfl
  · have := h.cg
    show 1 + (1 + _) ≤ _
    omega
  · rw [e]
    exact h.go _ (sml_mul q h.w)
theorem TreeR.add (h : TreeR c L a) (k : TreeR c M b) : TreeR (c + 1) (L ++ M) (.add a b) := by
  refine ⟨rfl, fun o => ?_, fun o => ?_, ?_, fun o q => ⟨h.go o q, k.go o q⟩, Dat.tup (by simp) (Dat.tc Dat.str (Dat.tc h.da (Dat.t1 k.da)))⟩
  · rw [List.flatMap_append, ← h.pu, ← k.pu]
    rfl
  · rw [List.map_append, List.sum_append, ← h.nu, ← k.nu]
    rfl
  · have := h.cg
    have := k.cg
    show 1 + max _ _ ≤ _
    omega
def Lf.neg (l : Lf) : Lf := ⟨l.k, l.t, -1 * l.w⟩
theorem TreeR.neg (h : TreeR c (L.map Lf.neg) t) : TreeR (c + 1) L (.mul (-1) t) := by
  have e : ∀ (o : Int) (l : Lf), o * -1 * (Lf.neg l).w = o * l.w := fun o l => by
    show o * -1 * (-1 * l.w) = _
    rw [Int.mul_neg, Int.mul_one, Int.neg_mul (a := 1), Int.one_mul, Int.neg_mul_neg]
  refine ⟨rfl, fun o => ?_, fun o => ?_, ?_, fun o q => ⟨sml_of q, sml_w (by decide), h.go _ (by rw [neg_abs]; exact q)⟩, Dat.tup (by simp) (Dat.tc Dat.str (Dat.tc Dat.int (Dat.t1 h.da)))⟩
  · show t.sm.pu (o * -1) = _
    rw [h.pu, List.flatMap_map]
    congr 1
    funext l
    rw [e]
    rfl
  · show t.sm.nu (o * -1) = _
    rw [h.nu, List.map_map]
    congr 2
    funext l
    show l.t.sm.nu (o * -1 * (Lf.neg l).w) = _
    rw [e]
  · have := h.cg
    show 1 + _ ≤ _
    omega
theorem LfB.neg (h : LfB c l) : LfB c l.neg := ⟨h.rw, h.cg, h.go, h.da, by
  show (-1 * l.w).natAbs < _
  rw [Int.neg_mul (a := 1), Int.one_mul, Int.natAbs_neg]
  exact h.w⟩
end
/-! parts by the atoms' numbers -/
def pL (L : List Lf) : List Pn := L.filterMap fun l => l.k.map fun j => (j, l.t.d, l.w)
structure LfG (m c : Nat) (fm : Nat → D) (l : Lf) : Prop where
  w : l.w.natAbs < 2 ^ 90
  ex : (∃ j, l.k = some j ∧ j < m ∧ SpA c (fm j) l.t) ∨ (∃ i, l.k = none ∧ l.t = .num i ∧ i.natAbs < 2 ^ 90)
theorem LfG.at {m c : Nat} {fm : Nat → D} {l : Lf} {j : Nat} (h : LfG m c fm l) (e : l.k = some j) : j < m ∧ SpA c (fm j) l.t := by
  rcases h.ex with ⟨i, e1, h1, h2⟩ | ⟨i, e1, _⟩
  · rw [e] at e1
    cases e1
    exact ⟨h1, h2⟩
  · rw [e] at e1
    cases e1
theorem at_facts {t : Th} (hat : t.at = true) (o : Int) : t.sm.cg = t.sm.ci + 2 ∧ t.sm.pu o = [(t.d, o, t.sm.fi)] ∧ t.sm.nu o = 0 ∧ (t.sm.okI → RpOk t.sm.fi → t.sm.okG o) := by
  cases t <;> first | (cases hat; done) | exact ⟨rfl, rfl, rfl, fun h1 h2 => ⟨h1, h2⟩⟩
theorem LfG.b {m c : Nat} {fm : Nat → D} {l : Lf} (h : LfG m c fm l) (hr : ∀ j, j < m → RpOk (fm j)) : LfB (c + 2) l := by
  rcases h.ex with ⟨j, e1, h1, h2⟩ | ⟨i, e1, e2, h1⟩
  · have ci := h2.ci
    have cg := (at_facts h2.at_ 0).1
    refine ⟨h2.rw, by omega, fun o _ => (at_facts h2.at_ o).2.2.2 h2.ok ?_, Dat.le (by omega) h2.da, h.w⟩
    rw [h2.fi]
    exact hr j h1
  · obtain ⟨k, t, w⟩ := l
    subst e2
    exact ⟨rfl, by show 1 ≤ _; omega, fun o q => ⟨q, sml_w h1⟩, Dat.le (show 1 ≤ c + 2 by omega) (Dat.tup (by simp) (Dat.tc Dat.str (Dat.t1 Dat.int))), h.w⟩
theorem pu_leaf {m c : Nat} {fm : Nat → D} {l : Lf} (h : LfG m c fm l) (o : Int) : l.t.sm.pu o = match l.k with
    | some j => [(l.t.d, o, fm j)]
    | none => [] := by
  rcases h.ex with ⟨j, e1, h1, h2⟩ | ⟨i, e1, e2, h1⟩
  · rw [e1, (at_facts h2.at_ o).2.1, h2.fi]
  · rw [e1, e2]
    rfl
theorem pu_leaves {m c : Nat} {fm : Nat → D} : ∀ {L : List Lf}, (∀ l ∈ L, LfG m c fm l) → (L.flatMap fun l => l.t.sm.pu l.w) = (pL L).map fun p => (p.2.1, p.2.2, fm p.1)
  | [], _ => rfl
  | l :: L, h => by
    rw [List.flatMap_cons, pu_leaves fun x q => h x (List.mem_cons_of_mem _ q), pu_leaf (h l (List.mem_cons_self ..))]
    unfold pL
    rw [List.filterMap_cons]
    cases l.k with
    | none => rfl
    | some j => rfl
theorem nu_leaf {m c : Nat} {fm : Nat → D} {l : Lf} (h : LfG m c fm l) {j : Nat} (e : l.k = some j) (o : Int) : l.t.sm.nu o = 0 := (at_facts (h.at e).2.at_ o).2.2.1
def nsL (L : List Lf) : Int := (L.map fun l => l.t.sm.nu l.w).sum
theorem pL_mem {m c : Nat} {fm : Nat → D} {L : List Lf} (h : ∀ l ∈ L, LfG m c fm l) : ∀ p ∈ pL L, p.1 < m := fun p q => by
  obtain ⟨l, ml, e⟩ := List.mem_filterMap.mp q
  cases hk : l.k with
  | none => rw [hk] at e; cases e
  | some j =>
    rw [hk] at e
    cases e
    exact ((h l ml).at hk).1
theorem insA_leaves {m c : Nat} {fm : Nat → D} {L : List Lf} (h : ∀ l ∈ L, LfG m c fm l) (hi : ∀ i, i < m → ∀ j, j < m → fm i = fm j → i = j) (hg : ∀ j, j < m → Gf (fm j)) : insA [] (L.flatMap fun l => l.t.sm.pu l.w) = (metL ((pL L).map (·.1))).map (enO fm (pL L)) := by
  rw [pu_leaves h]
  exact insA_met fm _ fun p mp q mq e => hi _ (pL_mem h p mp) _ (pL_mem h q mq) (shown_inj (hg _ (pL_mem h p mp)) (hg _ (pL_mem h q mq)) e)
def psW (ps : List (Nat × Int)) (j : Nat) : Int := ((ps.filter fun p => decide (p.1 = j)).map Prod.snd).sum
/-- a sum's parts -/
structure LeavesR (m c : Nat) (fm : Nat → D) (ps : List (Nat × Int)) (n : Int) (L : List Lf) : Prop where
  ne : L ≠ []
  ln : L.length ≤ 12
  lf : ∀ l ∈ L, LfG m c fm l
  ws : ∀ j, wOf (pL L) j = psW ps j
  ns : nsL L = n
theorem nodup_perm {α : Type} [DecidableEq α] : ∀ {l m : List α}, l.Nodup → m.Nodup → (∀ a, a ∈ l ↔ a ∈ m) → l.Perm m
  | [], m, _, _, h => by
    cases m with
    | nil => exact .nil
    | cons b m => exact absurd ((h b).mpr (List.mem_cons_self ..)) (by simp)
  | a :: l, m, h1, h2, h => by
    rw [List.nodup_cons] at h1
    have ma : a ∈ m := (h a).mp (List.mem_cons_self ..)
    refine (List.Perm.cons a (nodup_perm h1.2 (h2.erase a) fun x => ?_)).trans (List.perm_cons_erase ma).symm
    rw [h2.mem_erase_iff]
    constructor
    · intro q
      exact ⟨fun z => h1.1 (z ▸ q), (h x).mp (List.mem_cons_of_mem _ q)⟩
    · rintro ⟨q1, q2⟩
      exact ((List.mem_cons.mp ((h x).mpr q2)).resolve_left q1)
theorem psW_cons (p : Nat × Int) (ps : List (Nat × Int)) (j : Nat) : psW (p :: ps) j = (if p.1 = j then p.2 else 0) + psW ps j := by
  unfold psW
  by_cases h : p.1 = j
  · rw [if_pos h, List.filter_cons_of_pos (by simpa using h), List.map_cons, List.sum_cons]
  · rw [if_neg h, List.filter_cons_of_neg (by simpa using h), Int.zero_add]
theorem psW_no {ps : List (Nat × Int)} {j : Nat} (h : j ∉ ps.map Prod.fst) : psW ps j = 0 := by
  induction ps with
  | nil => rfl
  | cons p ps ih =>
    rw [List.map_cons, List.mem_cons, not_or] at h
    rw [psW_cons, if_neg (Ne.symm h.1), ih h.2]
    rfl
theorem psW_at : ∀ {ps : List (Nat × Int)}, (ps.map Prod.fst).Nodup → ∀ p ∈ ps, psW ps p.1 = p.2
  | q :: ps, nd, p, h => by
    rw [List.map_cons, List.nodup_cons] at nd
    rw [psW_cons]
    rcases List.mem_cons.mp h with rfl | h
    · rw [if_pos rfl, psW_no nd.1, Int.add_zero]
    · rw [if_neg fun z : q.1 = p.1 => nd.1 (z ▸ List.mem_map_of_mem h), Int.zero_add]
      exact psW_at nd.2 p h
theorem live_map (fm : Nat → D) (P : List Pn) (ks : List Nat) : live (ks.map (enO fm P)) = (ks.filter fun j => !decide (wOf P j = 0)).map (enO fm P) := by
  unfold live
  rw [List.filter_map]
  rfl
theorem forms_leaves {m : Nat} {fm : Nat → D} {ps : List (Nat × Int)} {n : Int} {P : List Pn} (hs : SmOk m ps n) (ws : ∀ j, wOf P j = psW ps j) : ((live ((metL (P.map (·.1))).map (enO fm P))).map fpair).Perm (ps.map (prF fm)) := by
  rw [live_map, List.map_map]
  have hp : ((metL (P.map (·.1))).filter fun j => !decide (wOf P j = 0)).Perm (ps.map Prod.fst) := by
    refine nodup_perm ((metL_nd _).filter _) hs.nd fun j => ?_
    rw [List.mem_filter]
    constructor
    · rintro ⟨_, h⟩
      refine Classical.byContradiction fun z => ?_
      rw [ws, psW_no z] at h
      simp at h
    · intro h
      obtain ⟨p, mp, rfl⟩ := List.mem_map.mp h
      have w0 : wOf P p.1 ≠ 0 := by
        rw [ws, psW_at hs.nd p mp]
        exact (hs.ms p mp).2.1
      refine ⟨(metL_mem _ _).mpr (Classical.byContradiction fun z => w0 ?_), by simpa using w0⟩
      unfold wOf
      have : P.filter (fun q => decide (q.1 = p.1)) = [] := by
        rw [List.filter_eq_nil_iff]
        intro q mq e
        exact z (List.mem_map.mpr ⟨q, mq, by simpa using e⟩)
      rw [this]
      rfl
  have h2 := hp.map (fpair ∘ enO fm P)
  rw [List.map_map] at h2
  have e : List.map ((fpair ∘ enO fm P) ∘ Prod.fst) ps = ps.map (prF fm) := List.map_congr_left fun p mp => by
    show PyData.tuple [fm p.1, .int (wOf P p.1)] = .tuple [fm p.1, .int p.2]
    rw [ws, psW_at hs.nd p mp]
  rw [e] at h2
  exact h2
theorem spS {m c c' : Nat} {fm : Nat → D} {ps : List (Nat × Int)} {n : Int} {L : List Lf} {t : Th} (hs : SmOk m ps n) (h : LeavesR m c fm ps n L) (k : TreeR c' L t) (hi : ∀ i, i < m → ∀ j, j < m → fm i = fm j → i = j) (hg : ∀ j, j < m → Gf (fm j)) (hr : ∀ p ∈ ps, RpOk (prF fm p)) :
    SpP (c' + 1) ((Lg.sum ps n).fo fm) t := by
  have e1 : t.sm.pu 1 = L.flatMap fun l => l.t.sm.pu l.w := by
    rw [k.pu]
    congr 1
    funext l
    rw [Int.one_mul]
  have e2 : t.sm.nu 1 = n := by
    rw [k.nu, ← h.ns]
    unfold nsL
    congr 2
    funext l
    rw [Int.one_mul]
  have pf := forms_leaves (fm := fm) hs h.ws
  rw [← insA_leaves h.lf hi hg, ← e1] at pf
  have hd : ∀ d ∈ forms t.sm, ∃ p ∈ ps, d = prF fm p := fun d m => by
    obtain ⟨p, mp, e⟩ := List.mem_map.mp (pf.mem_iff.mp m)
    exact ⟨p, mp, e.symm⟩
  refine ⟨?_, ?_, ?_, Dat.le (Nat.le_succ _) k.da⟩
  · unfold Th.fo foS
    rw [k.rw, if_neg (by decide)]
    unfold sumF
    rw [e2, show sortK (forms t.sm) = sortK (ps.map (prF fm)) from sortK_perm pf fun d m => by
      obtain ⟨p, mp, rfl⟩ := hd d m
      exact prF_gf (hg _ (hs.ms p mp).1)]
    rfl
  · unfold okF
    rw [k.rw, if_neg (by decide)]
    refine ⟨k.go 1 (by decide +kernel), ?_, fun d m => ?_⟩
    · rw [e1, pu_leaves h.lf, List.length_map]
      have : (pL L).length ≤ L.length := List.length_filterMap_le _ _
      have := h.ln
      omega
    · obtain ⟨p, mp, rfl⟩ := hd d m
      exact hr p mp
  · unfold cfS
    rw [k.rw, if_neg (by decide)]
    have := k.cg
    omega

/-! ### the pool of atoms, and their forms -/
def tB : Nat → Nat
  | 0 => 320
  | e + 1 => 8 * (tB e + 262) + 8000
structure PoolOk (e : Nat) (pool : List Lg) (fm : Nat → D) (ar : Nat → Nat) : Prop where
  l4 : 4 ≤ pool.length
  l9 : pool.length ≤ 6 + e
  nm : ∀ j, j < 4 → ∃ x, pool[j]? = some (.name x)
  ok : ∀ j g, pool[j]? = some g → g.isAt = true ∧ g.ok j ∧ fm j = g.fo fm ∧ ar j = g.mz ar
  inj : ∀ i, i < pool.length → ∀ j, j < pool.length → fm i = fm j → i = j
  bt : ∀ j, j < pool.length → Bt (1 + 7 * e) (tB e) (fm j)
  az : ∀ j, j < pool.length → ar j ≤ 1 + 50 * e
theorem tB_le : ∀ {e : Nat}, e ≤ 3 → tB e ≤ 1000000
  | 0, _ => by decide
  | 1, _ => by decide
  | 2, _ => by decide
  | 3, _ => by decide
  | e + 4, h => by omega
section
variable {e : Nat} {pool : List Lg} {fm : Nat → D} {ar : Nat → Nat}
theorem PoolOk.gf (h : PoolOk e pool fm ar) : ∀ n j, j < n → j < pool.length → Gf (fm j)
  | 0, j, hn, _ => by omega
  | n + 1, j, hn, hj => by
    obtain ⟨_, h2, h3, _⟩ := h.ok j _ (List.getElem?_eq_getElem hj)
    rw [h3]
    exact Lg.gf (m := j) (fun i hi => PoolOk.gf h n i (by omega) (by omega)) _ h2
theorem PoolOk.gf' (h : PoolOk e pool fm ar) : ∀ j, j < pool.length → Gf (fm j) := fun j hj => h.gf (j + 1) j (by omega) hj
theorem PoolOk.pr (h : PoolOk e pool fm ar) (he : e ≤ 3) {p : Nat × Int} (hp : p.1 < pool.length) (hw : p.2.natAbs ≤ 2 ^ 80) : Bt 23 1000258 (prF fm p) := by
  have := tB_le he
  exact (Bt.tup (BtL.cons (h.bt _ hp) (BtL.cons (bt_i hw) (BtL.nil (t := 0))))).to (by omega) (by omega)
theorem RpOk.of {h t : Nat} {d : D} (x : Bt h t d) (l : h ≤ 64) (m : t ≤ 16000000) : RpOk d := ⟨x.sh l, (bd_lay d x.b).2, Nat.le_trans (shown_le d x.b) (Nat.le_trans x.t (Nat.le_trans m (by decide)))⟩
end
def fmF (K : Nat) : DF := fun ds Q => ∃ (e : Nat) (pool : List Lg) (fm : Nat → D) (ar : Nat → Nat) (g : Lg), e ≤ 3 ∧ PoolOk e pool fm ar ∧ ds = [.list (pool.map Lg.d), g.d] ∧ g.isPl = false ∧ g.ok pool.length ∧ g.mz ar ≤ K ∧ Q (g.fo fm)
theorem Lg.plist (fm : Nat → D) : ∀ (g : Lg), g.isPl = true → ∃ L : List Lg, L.length = g.plen ∧ g.d = .tuple (L.map Lg.d) ∧ g.fo fm = .tuple (L.map (Lg.fo fm)) ∧ (∀ m, g.ok m → ∀ p ∈ L, p.ok m ∧ (p.isRw = true ∨ p.isSm = true)) ∧ ∀ ar, ∀ p ∈ L, p.mz ar + 1 ≤ g.mz ar
  | .pnil, _ => ⟨[], rfl, rfl, rfl, fun _ _ _ m => (nomatch m), fun _ _ m => (nomatch m)⟩
  | .pcons p ps, h => by
    obtain ⟨L, h0, h1, h2, h3, h4⟩ := Lg.plist fm ps h
    refine ⟨p :: L, by rw [List.length_cons, h0]; rfl, ?_, ?_, fun m ho q mq => ?_, fun ar q mq => ?_⟩
    · show consD p.d ps.d = _
      rw [h1]
      rfl
    · show consD (p.fo fm) (ps.fo fm) = _
      rw [h2]
      rfl
    · rcases List.mem_cons.mp mq with rfl | mq
      · exact ⟨ho.2.1, ho.1⟩
      · exact h3 m ho.2.2.2 q mq
    · show _ ≤ max _ _
      rcases List.mem_cons.mp mq with rfl | mq
      · exact Nat.le_max_left _ _
      · exact Nat.le_trans (h4 ar q mq) (Nat.le_max_right _ _)
theorem npl {p : Lg} (h : p.isRw = true ∨ p.isSm = true) : p.isPl = false := by
  cases p <;> first | rfl | simp [Lg.isRw, Lg.isSm] at h
theorem tI2 {i : Nat} {x y1 y2 : Str} {r : List D} {s : S} {b : Bool} (hs : s.δ[i]? = some (some (.tuple (.str x :: r)))) (hb : (decide (y1 = x) || decide (y2 = x)) = b) : Tst (dBl (dOp (inD false) (dOp ixD (dV i) (dC (.int 0))) (dTup (dCons (dC (.str y1)) (dCons (dC (.str y2)) dNil))))) s b := by
  subst hb
  intro Q q
  refine exIx (i := i) (j := 0) hs rfl _ ?_
  refine ⟨rfl, rfl, ?_⟩
  show Q (xor false ((decide (y1 = x)) || ((decide (y2 = x)) || false))) s
  rw [Bool.false_xor, Bool.or_false]
  exact q
theorem tI1 {i : Nat} {x y : Str} {r : List D} {s : S} {b : Bool} (hs : s.δ[i]? = some (some (.tuple (.str x :: r)))) (hb : decide (x = y) = b) : Tst (dBl (dOp eqD (dOp ixD (dV i) (dC (.int 0))) (dC (.str y)))) s b := by
  subst hb
  intro Q q
  refine exIx (i := i) (j := 0) hs rfl _ ?_
  exact q
/-- a comprehension, item by item -/
theorem lcAll {g : D → S → (S → Prop) → Prop} {e : DT} {vs : List Nat} {Q : List D → S → Prop} : ∀ (ps gs acc : List D) (s : S), ps.length = gs.length →
    (∀ (j : Nat) (p x : D), ps[j]? = some p → gs[j]? = some x → ∀ N : D → S → Prop, (∀ s', wipeS s' vs = s → N x s') → g p s fun s1 => e s1 N) → Q (acc ++ gs) s → lcD g dYes e vs Q ps acc s
  | [], [], acc, s, _, _, q => by
    rw [List.append_nil] at q
    exact q
  | p :: ps, x :: gs, acc, s, hl, h, q => by
    show g p s fun s1 => e s1 fun y s3 => lcD g dYes e vs Q ps (acc ++ [y]) (wipeS s3 vs)
    refine h 0 p x rfl rfl _ fun s' es => ?_
    rw [es]
    exact lcAll ps gs (acc ++ [x]) s (by simpa using hl) (fun j p' g' h1 h2 => h (j + 1) p' g' h1 h2) (by rw [List.append_assoc]; exact q)
  | [], _ :: _, _, _, hl, _, _ => by simp at hl
  | _ :: _, [], _, _, hl, _, _ => by simp at hl
theorem cut_to2 (a b : D) (r : List D) : cutD (a :: b :: r) none (some 2) = [a, b] := by
  unfold cutD
  have h1 : HT.sIx (a :: b :: r).length (a :: b :: r).length (some 2) = 2 := by
    have := HT.sIx_nat (a :: b :: r).length (a :: b :: r).length 2
    rw [show ((2 : Nat) : Int) = 2 from rfl] at this
    rw [this]
    simp
  rw [h1, HT.sIx_none]
  simp
theorem cut_to1 (a : D) (r : List D) : cutD (a :: r) none (some 1) = [a] := by
  unfold cutD
  have h1 : HT.sIx (a :: r).length (a :: r).length (some 1) = 1 := by
    have := HT.sIx_nat (a :: r).length (a :: r).length 1
    rw [show ((1 : Nat) : Int) = 1 from rfl] at this
    rw [this]
    simp
  rw [h1, HT.sIx_none]
  simp
theorem Lg.d_tup : ∀ t : Lg, isB .tuple t.d = true
  | .name _ => rfl
  | .row _ => rfl
  | .sum _ _ => rfl
  | .size _ => rfl
  | .read _ _ => rfl
  | .div _ _ => rfl
  | .mod _ _ => rfl
  | .ntn _ _ => rfl
  | .wth _ _ _ => rfl
  | .room _ => rfl
  | .pnil => rfl
  | .pcons p ps => by
    show isB .tuple (consD p.d ps.d) = true
    have := Lg.d_tup ps
    cases e : ps.d <;> rw [e] at this <;> first | rfl | cases this
/-- a part within a thing -/
inductive Ptg (pool : List Lg) (fm : Nat → D) (ar : Nat → Nat) (k : Nat) : D → D → Prop
  | th (g : Lg) : g.ok pool.length → (g.isRw = true ∨ g.isSm = true) → g.mz ar ≤ k → Ptg pool fm ar k g.d (g.fo fm)
  | int (i : Int) : Ptg pool fm ar k (.int i) (.int i)
theorem fm_gen {e : Nat} {pool : List Lg} {fm : Nat → D} {ar : Nat → Nat} {k : Nat} {E : DEnds} {x : Str} {ps gs : List D} (he : e ≤ 3) (hk : PoolOk e pool fm ar) (h3 : ps.length ≤ 3) (hl : ps.length = gs.length) (hp : ∀ (j : Nat) (p g : D), ps[j]? = some p → gs[j]? = some g → Ptg pool fm ar k p g) (q : ∀ s, E.rt (.tuple (.str x :: gs)) s) :
    dRet (dOp addD (dSl (dV 1) dNoPart (dPart (dC (PyData.int 1)))) (dCB tupD (dCons (dLc (fun s Q => dSl (dV 1) (dPart (dC (PyData.int 1))) dNoPart s fun d s1 => match d with | PyData.tuple ds => Q ds s1 | _ => False) (sName 7) dYes (dIf (dBl (dIsi Cl.tuple (dV 7))) (dCall (fmF k) (dCons (dV 0) (dCons (dV 7) dNil))) (dV 7)) [7]) dNil)))
      E { δ := [some (.list (pool.map Lg.d)), some (.tuple (.str x :: ps)), none, none, none, none, none, none], n := 0 } := by
  have key : ∀ (h l : List D), h = [.str x] → l = ps → (l.length ≤ sizeLine ∧ lcD (sName 7) dYes (dIf (dBl (dIsi Cl.tuple (dV 7))) (dCall (fmF k) (dCons (dV 0) (dCons (dV 7) dNil))) (dV 7)) [7] (fun acc s2 => tupD [.list acc] fun z => addD (.tuple h) z fun z => E.rt z s2) l [] { δ := [some (.list (pool.map Lg.d)), some (.tuple (.str x :: ps)), none, none, none, none, none, none], n := 0 }) := by
    rintro h l rfl rfl
    refine ⟨Nat.le_trans h3 (show 3 ≤ sizeLine by decide), lcAll l gs [] _ hl (fun j p g h1 h2 N hN => ?_) ?_⟩
    · have := hp j p g h1 h2
      cases this with
      | th t ho hs hm =>
        show (if isB .tuple t.d = true then _ else _)
        rw [if_pos (Lg.d_tup t)]
        exact ⟨e, pool, fm, ar, t, he, hk, rfl, npl hs, ho, hm, hN _ rfl⟩
      | int i => exact hN _ rfl
    · show 1 + gs.length ≤ sizeLine ∧ _
      exact ⟨Nat.le_trans (show 1 + gs.length ≤ 4 by omega) (by decide), q _⟩
  exact key _ _ (cut_to1 _ _) (cut_one _ _)
section
variable {pool : List Lg} {fm : Nat → D} {ar : Nat → Nat} {k : Nat}
theorem pg1 {p g : D} (h : Ptg pool fm ar k p g) : ∀ (j : Nat) (p' g' : D), [p][j]? = some p' → [g][j]? = some g' → Ptg pool fm ar k p' g'
  | 0, _, _, h1, h2 => by cases h1; cases h2; exact h
  | _ + 1, _, _, h1, _ => by simp at h1
theorem pgc {p g : D} {ps gs : List D} (h : Ptg pool fm ar k p g) (hr : ∀ (j : Nat) (p' g' : D), ps[j]? = some p' → gs[j]? = some g' → Ptg pool fm ar k p' g') : ∀ (j : Nat) (p' g' : D), (p :: ps)[j]? = some p' → (g :: gs)[j]? = some g' → Ptg pool fm ar k p' g'
  | 0, _, _, h1, h2 => by cases h1; cases h2; exact h
  | j + 1, p', g', h1, h2 => hr j p' g' h1 h2
end
section
variable {P : Program} {w : World} {K : PySem.W.Frag} {mg : Str → Option Value} {base : Heap}
theorem ok_s_form (T : Tx K mg) : ∀ k : Nat, Ok P w K mg base (k + 1) "_law_s_form" ["_law_pool", "_law_thing"] (spN K 2 .E (fmF k))
  | 0 => Ok.no T.d__law_s_form sc__law_s_form (spN_no fun ds Q ⟨e, pool, fm, ar, g, _, _, _, hp, _, hm, _⟩ => by
      cases g <;> first | (simp only [Lg.mz] at hm; omega) | cases hp)
  | k + 1 => by
    have O__law_s_form : Ok P w K mg base (k + 1) "_law_s_form" ["_law_pool", "_law_thing"] (spN K 2 .E (fmF k)) := ok_s_form T k
    refine Ok.ofN (M := []) T.d__law_s_form sc__law_s_form rfl (by decide) fun f cdv A outer s H E hr => ⟨_, _, (pss_cons (ps_if (pt_cmpR (inG K rfl (u65 hr.toRoom)) (pe_ix (ixG K rfl (u65 hr.toRoom)) (pv 1) (pe_int) (fun _ _ => rfl)) (pe_tupZ (pa_cons (pe_str) (pa_cons (pe_str) (pa_nil)))) (by rfl))
 (pss_one (ps_ret (pv 1)))
 (pss_nil))
 (pss_cons (ps_if (pt_cmpR (eqG K rfl hr.units) (pe_ix (ixG K rfl (u65 hr.toRoom)) (pv 1) (pe_int) (fun _ _ => rfl)) (pe_str) (nomark _))
 (pss_cons (ps_setLc (i := 2) (own := [("_law_k", 3), ("_law_weight", 4)]) rfl sc__law_s_form.nd rfl rfl (sw_true rfl rfl rfl (by decide +kernel)) (piL K rfl (pe_ix (ixG K rfl (u65 hr.toRoom)) (pv 1) (pe_int) (fun _ _ => rfl))) (blkOk_by (own := [("_law_k", 3), ("_law_weight", 4)]) (N := ["_law_pool", "_law_thing", "_law_some", "_law_k", "_law_weight", "_law_mark", "_law_pair", "_law_part"]) (sc := defScope s__law_s_form) (by decide +kernel)) (fun _ _ _ _ _ => pgT K rfl 2 rfl (pgs_cons (pg_nameL (i := 3) sc__law_s_form.nd rfl rfl) (pgs_cons (pg_nameL (i := 4) sc__law_s_form.nd rfl rfl) (pgs_nil)))) (fun _ _ _ _ _ => pts_nil) (fun _ _ _ _ _ => pe_tupZ (pa_cons (pe_fn O__law_s_form (hr.mono (by omega)) (by rfl) (pa_cons (pv 0) (pa_cons (pe_ix (ixG K rfl (u65 hr.toRoom)) (pv 0) (pv 3) (fun _ _ => rfl)) (pa_nil)))) (pa_cons (pv 4) (pa_nil)))))
 (pss_one (ps_ret (pe_tupZ (pa_cons (pe_str) (pa_cons (pe_callTy (tupQ K rfl) (by rfl) T.z_tuple boot_tuple (pa_cons (pe_lc (own := [("_law_mark", 5), ("_law_pair", 6)]) rfl sc__law_s_form.nd (piL K rfl (pe_callB (cr_sortPr K rfl (u66 hr.toRoom)) (by rfl) T.z_sorted boot_sorted (pa_cons (pe_lc (own := [("_law_pair", 6)]) rfl sc__law_s_form.nd (piL K rfl (pv 2)) (blkOk_by (own := [("_law_pair", 6)]) (N := ["_law_pool", "_law_thing", "_law_some", "_law_k", "_law_weight", "_law_mark", "_law_pair", "_law_part"]) (sc := defScope s__law_s_form) (by decide +kernel)) (fun _ _ _ _ _ => pg_nameL (i := 6) sc__law_s_form.nd rfl rfl) (fun _ _ _ _ _ => pts_nil) (fun _ _ _ _ _ => pe_tupZ (pa_cons (pe_callB (reprK K rfl hr.gd (u65 hr.toRoom)) (by rfl) T.z_repr boot_repr (pa_cons (pv 6) (pa_nil))) (pa_cons (pv 6) (pa_nil))))) (pa_nil)))) (blkOk_by (own := [("_law_mark", 5), ("_law_pair", 6)]) (N := ["_law_pool", "_law_thing", "_law_some", "_law_k", "_law_weight", "_law_mark", "_law_pair", "_law_part"]) (sc := defScope s__law_s_form) (by decide +kernel)) (fun _ _ _ _ _ => pgT K rfl 2 rfl (pgs_cons (pg_nameL (i := 5) sc__law_s_form.nd rfl rfl) (pgs_cons (pg_nameL (i := 6) sc__law_s_form.nd rfl rfl) (pgs_nil)))) (fun _ _ _ _ _ => pts_nil) (fun _ _ _ _ _ => pv 6)) (pa_nil))) (pa_cons (pe_ix (ixG K rfl (u65 hr.toRoom)) (pv 1) (pe_int) (fun _ _ => rfl)) (pa_nil))))))))
 (pss_nil))
 (pss_cons (ps_if (pt_cmpR (eqG K rfl hr.units) (pe_ix (ixG K rfl (u65 hr.toRoom)) (pv 1) (pe_int) (fun _ _ => rfl)) (pe_str) (nomark _))
 (pss_one (ps_ret (pe_op (addG K rfl) (pe_slice (slG K rfl) (pv 1) po_none (po_some (pe_int))) (pe_tupZ (pa_cons (pe_callTy (tupQ K rfl) (by rfl) T.z_tuple boot_tuple (pa_cons (pe_lc (own := [("_law_part", 7)]) rfl sc__law_s_form.nd (piT K rfl (pe_ix (ixG K rfl (u65 hr.toRoom)) (pv 1) (pe_int) (fun _ _ => rfl))) (blkOk_by (own := [("_law_part", 7)]) (N := ["_law_pool", "_law_thing", "_law_some", "_law_k", "_law_weight", "_law_mark", "_law_pair", "_law_part"]) (sc := defScope s__law_s_form) (by decide +kernel)) (fun _ _ _ _ _ => pg_nameL (i := 7) sc__law_s_form.nd rfl rfl) (fun _ _ _ _ _ => pts_nil) (fun _ _ _ _ _ => pe_fn O__law_s_form (hr.mono (by omega)) (by rfl) (pa_cons (pv 0) (pa_cons (pv 7) (pa_nil))))) (pa_nil))) (pa_nil))))))
 (pss_nil))
 (pss_one (ps_ret (pe_op (addG K rfl) (pe_slice (slG K rfl) (pv 1) po_none (po_some (pe_int))) (pe_callTy (tupQ K rfl) (by rfl) T.z_tuple boot_tuple (pa_cons (pe_lc (own := [("_law_part", 7)]) rfl sc__law_s_form.nd (piT K rfl (pe_slice (slG K rfl) (pv 1) (po_some (pe_int)) po_none)) (blkOk_by (own := [("_law_part", 7)]) (N := ["_law_pool", "_law_thing", "_law_some", "_law_k", "_law_weight", "_law_mark", "_law_pair", "_law_part"]) (sc := defScope s__law_s_form) (by decide +kernel)) (fun _ _ _ _ _ => pg_nameL (i := 7) sc__law_s_form.nd rfl rfl) (fun _ _ _ _ _ => pts_nil) (fun _ _ _ _ _ => pe_ifExp (pt_val (pe_callB (isiK K rfl) (by rfl) T.z_isinstance boot_isi (pa_cons (pv 7) (pa_cons (pe_bltn (v := .ty "tuple") (by rfl) T.z_tuple boot_tuple rfl) pa_nil)))) (pe_fn O__law_s_form (hr.mono (by omega)) (by rfl) (pa_cons (pv 0) (pa_cons (pv 7) (pa_nil)))) (pv 7))) (pa_nil))))))))),
 (simS_seq (simS_if (simT_test (sim_op opA_in (opA_ix (sim_var 1 (nm rfl)) (sim_int _)) (sim_tup (by decide) (simA_cons (sim_str _) (simA_cons (sim_str _) (simA_nil))))))
 (simS_ret (Sim.toE (sim_var 1 (nm rfl))))
 (simS_next))
 (simS_seq (simS_if (simT_test (sim_op opA_eq (opA_ix (sim_var 1 (nm rfl)) (sim_int _)) (sim_str _)))
 (simS_seq (simS_set 2 (nm rfl) (np rfl) (sim_lc (simI_list (opA_ix (sim_var 1 (nm rfl)) (sim_int _))) (simG_tup (simGs_cons (simG_name 3 (nm rfl) (np rfl)) (simGs_cons (simG_name 4 (nm rfl) (np rfl)) (simGs_nil)))) (simT_yes) (sim_tup (by decide) (simA_cons (sim_call (simA_cons (sim_var 0 (nm rfl)) (simA_cons (opA_ix (sim_var 0 (nm rfl)) (sim_var 3 (nm rfl))) (simA_nil)))) (simA_cons (sim_var 4 (nm rfl)) (simA_nil)))) (inv' rfl) (nmv rfl) (npv rfl)))
 (simS_ret (Sim.toE (sim_tup (by decide) (simA_cons (sim_str _) (simA_cons (sim_cb caA_tup (simA_cons (sim_lc (simI_list (sim_cb caA_sortPr (simA_cons (sim_lc (simI_list (sim_var 2 (nm rfl))) (simG_name 6 (nm rfl) (np rfl)) (simT_yes) (sim_tup (by decide) (simA_cons (sim_cb caA_repr (simA_cons (sim_var 6 (nm rfl)) (simA_nil))) (simA_cons (sim_var 6 (nm rfl)) (simA_nil)))) (inv' rfl) (nmv rfl) (npv rfl)) (simA_nil)))) (simG_tup (simGs_cons (simG_name 5 (nm rfl) (np rfl)) (simGs_cons (simG_name 6 (nm rfl) (np rfl)) (simGs_nil)))) (simT_yes) (sim_var 6 (nm rfl)) (inv' rfl) (nmv rfl) (npv rfl)) (simA_nil))) (simA_cons (opA_ix (sim_var 1 (nm rfl)) (sim_int _)) (simA_nil))))))))
 (simS_next))
 (simS_seq (simS_if (simT_test (sim_op opA_eq (opA_ix (sim_var 1 (nm rfl)) (sim_int _)) (sim_str _)))
 (simS_ret (Sim.toE (sim_op opA_add (sim_sl (sim_var 1 (nm rfl)) simO_none (simO_some (sim_int _))) (sim_tup (by decide) (simA_cons (sim_cb caA_tup (simA_cons (sim_lc (simI_tup (opA_ix (sim_var 1 (nm rfl)) (sim_int _))) (simG_name 7 (nm rfl) (np rfl)) (simT_yes) (sim_call (simA_cons (sim_var 0 (nm rfl)) (simA_cons (sim_var 7 (nm rfl)) (simA_nil)))) (inv' rfl) (nmv rfl) (npv rfl)) (simA_nil))) (simA_nil))))))
 (simS_next))
 (simS_ret (Sim.toE (sim_op opA_add (sim_sl (sim_var 1 (nm rfl)) simO_none (simO_some (sim_int _))) (sim_cb caA_tup (simA_cons (sim_lc (simI_tup (sim_sl (sim_var 1 (nm rfl)) (simO_some (sim_int _)) simO_none)) (simG_name 7 (nm rfl) (np rfl)) (simT_yes) (sim_if (simT_B (sim_isi .tuple (sim_var 7 (nm rfl)))) (Sim.toE (sim_call (simA_cons (sim_var 0 (nm rfl)) (simA_cons (sim_var 7 (nm rfl)) (simA_nil))))) (Sim.toE (sim_var 7 (nm rfl)))) (inv' rfl) (nmv rfl) (npv rfl)) (simA_nil))))))))), ?_⟩
    rintro ds Q hl ⟨e, pool, fm, ar, g, he, hp, rfl, hpl, ho, hm, q⟩
    cases g with
    | pnil => cases hpl
    | pcons _ _ => exact absurd (ho.2.2.1.symm.trans hpl) (by decide)
    | name x => exact seqY (tI2 (x := Str.ofString "name") rfl (by decide +kernel)) q
    | row x => exact seqY (tI2 (x := Str.ofString "row") rfl (by decide +kernel)) q
    | sum ps n =>
      refine seqN (tI2 (x := Str.ofString "sum") rfl (by decide +kernel)) (seqY (tI1 (x := Str.ofString "sum") rfl (by decide +kernel)) ?_)
      have ln := ho.ln
      have l1 : ∀ {α β : Type} (f : α → β) (l : List α), l.length ≤ 4 → (l.map f).length ≤ sizeLine := fun f l h => by
        rw [List.length_map]
        exact Nat.le_trans h (by decide)
      refine ix_ok 1 rfl rfl ⟨l1 _ _ ln, lcAll (ps.map prL) (ps.map (prF fm)) [] _ (by rw [List.length_map, List.length_map]) (fun j p x h1 h2 N hN => ?_) ?_⟩
      · rw [List.getElem?_map] at h1 h2
        cases ej : ps[j]? with
        | none => rw [ej] at h1; cases h1
        | some p =>
          rw [ej] at h1 h2
          cases h1
          cases h2
          have mp := List.mem_of_getElem? ej
          have lt := (ho.ms p mp).1
          obtain ⟨h3, h4, h5, h6⟩ := hp.ok p.1 _ (List.getElem?_eq_getElem lt)
          refine ⟨rfl, ix_ok (d := (pool[p.1]).d) p.1 rfl (by rw [List.getElem?_map, List.getElem?_eq_getElem lt]; rfl) ⟨e, pool, fm, ar, pool[p.1], he, hp, rfl, ?_, Lg.ok_mono (Nat.le_of_lt lt) _ h4, ?_, ?_⟩⟩
          · cases eg : pool[p.1] <;> first | rfl | (rw [eg] at h3; cases h3)
          · rw [← h6]
            have : ar p.1 ≤ lmax (ps.map fun p => ar p.1) := lmax_le (List.mem_map_of_mem mp)
            simp only [Lg.mz] at hm
            omega
          · rw [← h5]
            exact hN _ rfl
      have bt : ∀ p ∈ ps, Bt 23 1000258 (prF fm p) := fun p mp => hp.pr he (ho.ms p mp).1 (ho.ms p mp).2.2
      have gf : ∀ p ∈ ps, Gf (prF fm p) := fun p mp => prF_gf (hp.gf' _ (ho.ms p mp).1)
      dsimp only [List.set]
      refine ⟨l1 _ _ ln, lcAll (ps.map (prF fm)) ((ps.map (prF fm)).map encR) [] _ (by simp) (fun j p x h1 h2 N hN => ?_) ?_⟩
      · rw [List.getElem?_map, h1] at h2
        cases h2
        obtain ⟨p, mp, rfl⟩ := List.mem_map.mp (List.mem_of_getElem? h1)
        refine (bt p mp).repr (Q := fun z => N (.tuple [z, prF fm p]) { δ := [some (.list (pool.map Lg.d)), some (Lg.sum ps n).d, some (.list (ps.map (prF fm))), none, none, none, some (prF fm p), none], n := 0 }) (by decide) (by decide) ?_
        exact hN _ rfl
      rw [List.nil_append]
      have mem : ∀ d ∈ (ps.map (prF fm)).map encR, ∃ p ∈ ps, d = encR (prF fm p) := fun d md => by
        obtain ⟨x, mx, rfl⟩ := List.mem_map.mp md
        obtain ⟨p, mp, rfl⟩ := List.mem_map.mp mx
        exact ⟨p, mp, rfl⟩
      refine ⟨fun d md => ?_, fun d md d' md' ef => ?_, ?_⟩
      · obtain ⟨p, mp, rfl⟩ := mem d md
        have b := bt p mp
        refine ⟨⟨_, _, rfl⟩, ?_⟩
        have h1 := strOk_gf (gf p mp)
        have h2 := (bd_lay _ b.b).1
        show (PyData.canLay0 _ && decide (PyData.depth _ ≤ 64)) = true
        rw [Bool.and_eq_true, decide_eq_true_eq]
        refine ⟨?_, ?_⟩
        · simp only [encR, PyData.canLay0, PyData.canLayAll0, h1, h2, Bool.and_true]
        · have := b.h
          simp only [encR, PyData.depth, PyData.depthAll]
          omega
      · obtain ⟨p, mp, rfl⟩ := mem d md
        obtain ⟨p', mp', rfl⟩ := mem d' md'
        rw [shown_inj (gf p mp) (gf p' mp') ef]
      rw [sortP_encR]
      have ls : (sortK (ps.map (prF fm))).length ≤ 4 := by
        unfold sortK
        rw [List.length_mergeSort, List.length_map]
        exact ln
      refine ⟨l1 _ _ ls, lcAll _ (sortK (ps.map (prF fm))) [] _ (by rw [List.length_map]) (fun j p x h1 h2 N hN => ?_) ?_⟩
      · rw [List.getElem?_map, h2] at h1
        cases h1
        exact ⟨rfl, hN _ rfl⟩
      rw [List.nil_append]
      exact ix_ok 2 rfl rfl q
    | ntn f ps =>
      obtain ⟨hf, hpl2, hn, hok⟩ := ho
      obtain ⟨L, h0, h1, h2, h3, h4⟩ := Lg.plist fm ps hpl2
      refine seqN (tI2 (x := Str.ofString "notion") rfl (by decide +kernel)) (seqN (tI1 (x := Str.ofString "notion") rfl (by decide +kernel)) (seqY (tI1 (x := Str.ofString "notion") rfl (by decide +kernel)) ?_))
      have hz := h4 ar
      have hm2 : 2 + ps.mz ar ≤ k + 1 := hm
      have e1 : (Lg.ntn f ps).d = .tuple [wT "notion", f, .tuple (L.map Lg.d)] := by
        show PyData.tuple [_, f, ps.d] = _
        rw [h1]
      have e2 : (Lg.ntn f ps).fo fm = .tuple [wT "notion", f, .tuple (L.map (Lg.fo fm))] := by
        show PyData.tuple [_, f, ps.fo fm] = _
        rw [h2]
      rw [e2] at q
      rw [e1]
      have key : ∀ h : List D, h = [wT "notion", f] → ((L.map Lg.d).length ≤ sizeLine ∧ lcD (sName 7) dYes (dCall (fmF k) (dCons (dV 0) (dCons (dV 7) dNil))) [7] (fun acc s2 => tupD [.list acc] fun z => addD (.tuple h) (.tuple [z]) fun z => Q z) (L.map Lg.d) [] { δ := [some (.list (pool.map Lg.d)), some (.tuple [wT "notion", f, .tuple (L.map Lg.d)]), none, none, none, none, none, none], n := 0 }) := by
        rintro h rfl
        refine ⟨Nat.le_trans (show (L.map Lg.d).length ≤ 10 by rw [List.length_map, h0]; exact hn) (by decide), lcAll _ (L.map (Lg.fo fm)) [] _ (by simp) (fun j p g g1 g2 N hN => ?_) ?_⟩
        · rw [List.getElem?_map] at g1 g2
          cases el : L[j]? with
          | none => rw [el] at g1; cases g1
          | some t =>
            rw [el] at g1 g2
            cases g1
            cases g2
            have mt := List.mem_of_getElem? el
            obtain ⟨o1, o2⟩ := h3 _ hok t mt
            have := hz t mt
            exact ⟨e, pool, fm, ar, t, he, hp, rfl, npl o2, o1, by omega, hN _ rfl⟩
        · exact ⟨(show 3 ≤ sizeLine by decide), q⟩
      refine ix_ok 2 rfl rfl ?_
      exact key _ (cut_to2 _ _ _)
    | size r =>
      refine seqN (tI2 (x := Str.ofString "size") rfl (by decide +kernel)) (seqN (tI1 (x := Str.ofString "size") rfl (by decide +kernel)) (seqN (tI1 (x := Str.ofString "size") rfl (by decide +kernel)) ?_))
      simp only [Lg.mz] at hm
      exact fm_gen (fm := fm) (ar := ar) (k := k) (ps := [r.d]) (gs := [r.fo fm]) he hp (by simp) rfl (pg1 (.th r ho.2 (.inl ho.1) (by omega))) (fun _ => q)
    | room r =>
      refine seqN (tI2 (x := Str.ofString "room") rfl (by decide +kernel)) (seqN (tI1 (x := Str.ofString "room") rfl (by decide +kernel)) (seqN (tI1 (x := Str.ofString "room") rfl (by decide +kernel)) ?_))
      simp only [Lg.mz] at hm
      exact fm_gen (fm := fm) (ar := ar) (k := k) (ps := [r.d]) (gs := [r.fo fm]) he hp (by simp) rfl (pg1 (.th r ho.2 (.inr ho.1) (by omega))) (fun _ => q)
    | div a i =>
      refine seqN (tI2 (x := Str.ofString "div") rfl (by decide +kernel)) (seqN (tI1 (x := Str.ofString "div") rfl (by decide +kernel)) (seqN (tI1 (x := Str.ofString "div") rfl (by decide +kernel)) ?_))
      simp only [Lg.mz] at hm
      exact fm_gen (fm := fm) (ar := ar) (k := k) (ps := [a.d, .int i]) (gs := [a.fo fm, .int i]) he hp (by simp) rfl (pgc (.th a ho.1.2 (.inr ho.1.1) (by omega)) (pg1 (.int i))) (fun _ => q)
    | mod a i =>
      refine seqN (tI2 (x := Str.ofString "mod") rfl (by decide +kernel)) (seqN (tI1 (x := Str.ofString "mod") rfl (by decide +kernel)) (seqN (tI1 (x := Str.ofString "mod") rfl (by decide +kernel)) ?_))
      simp only [Lg.mz] at hm
      exact fm_gen (fm := fm) (ar := ar) (k := k) (ps := [a.d, .int i]) (gs := [a.fo fm, .int i]) he hp (by simp) rfl (pgc (.th a ho.1.2 (.inr ho.1.1) (by omega)) (pg1 (.int i))) (fun _ => q)
    | read r a =>
      refine seqN (tI2 (x := Str.ofString "read") rfl (by decide +kernel)) (seqN (tI1 (x := Str.ofString "read") rfl (by decide +kernel)) (seqN (tI1 (x := Str.ofString "read") rfl (by decide +kernel)) ?_))
      simp only [Lg.mz] at hm
      exact fm_gen (fm := fm) (ar := ar) (k := k) (ps := [r.d, a.d]) (gs := [r.fo fm, a.fo fm]) he hp (by simp) rfl (pgc (.th r ho.1.2 (.inl ho.1.1) (by omega)) (pg1 (.th a ho.2.2 (.inr ho.2.1) (by omega)))) (fun _ => q)
    | wth r a b =>
      refine seqN (tI2 (x := Str.ofString "with") rfl (by decide +kernel)) (seqN (tI1 (x := Str.ofString "with") rfl (by decide +kernel)) (seqN (tI1 (x := Str.ofString "with") rfl (by decide +kernel)) ?_))
      simp only [Lg.mz] at hm
      exact fm_gen (fm := fm) (ar := ar) (k := k) (ps := [r.d, a.d, b.d]) (gs := [r.fo fm, a.fo fm, b.fo fm]) he hp (by simp) rfl (pgc (.th r ho.1.2 (.inl ho.1.1) (by omega)) (pgc (.th a ho.2.1.2 (.inr ho.2.1.1) (by omega)) (pg1 (.th b ho.2.2.2 (.inr ho.2.2.1) (by omega))))) (fun _ => q)
end

/-! ### a term out of its parts -/
theorem tstT {t : DB} {s : S} {p : Prop} [Decidable p] (h : Tst t s (decide p)) (hp : p) : Tst t s true := by
  rw [decide_eq_true hp] at h
  exact h
theorem tstF {t : DB} {s : S} {p : Prop} [Decidable p] (h : Tst t s (decide p)) (hp : ¬ p) : Tst t s false := by
  rw [decide_eq_false hp] at h
  exact h
def trF (k : Nat) : DFP := fun ds n Q => ∃ (c : Nat) (L : List Lf), ds = [.list (L.map Lf.d)] ∧ L ≠ [] ∧ L.length ≤ k ∧ L.length ≤ 40 ∧ (∀ l ∈ L, LfB c l) ∧ n + 4 * L.length ≤ penLim ∧ ∀ t n', TreeR (c + 2 * L.length) L t → n' + 2 ≤ n + 4 * L.length → Q t.d n'
theorem neg_d (L : List Lf) : (L.map Lf.neg).map Lf.d = L.map fun l => .tuple [kD l.k, l.t.d, .int (-1 * l.w)] := by
  rw [List.map_map]
  rfl
/-- a list cut in two at its middle -/
theorem TreeR.halves {c : Nat} {L : List Lf} {j : Nat} {a b : Th} (h1 : 1 ≤ j) (h2 : j < L.length) (h : TreeR (c + 2 * (L.take j).length) (L.take j) a) (k : TreeR (c + 2 * (L.drop j).length) (L.drop j) b) : TreeR (c + 2 * L.length - 1) L (.add a b) := by
  have e1 : (L.take j).length = j := by rw [List.length_take]; omega
  have e2 : (L.drop j).length = L.length - j := by rw [List.length_drop]
  rw [e1] at h
  rw [e2] at k
  have := (h.le (c' := c + 2 * L.length - 2) (by omega)).add (k.le (c' := c + 2 * L.length - 2) (by omega))
  rw [List.take_append_drop] at this
  exact this.le (by omega)
theorem TreeR.halvesN {c : Nat} {L : List Lf} {j : Nat} {a b : Th} (h1 : 1 ≤ j) (h2 : j < L.length) (h : TreeR (c + 2 * ((L.map Lf.neg).take j).length) ((L.map Lf.neg).take j) a) (k : TreeR (c + 2 * ((L.map Lf.neg).drop j).length) ((L.map Lf.neg).drop j) b) : TreeR (c + 2 * L.length) L (.mul (-1) (.add a b)) := by
  have h3 := TreeR.halves h1 (by rw [List.length_map]; exact h2) h k
  rw [List.length_map] at h3
  exact (h3.neg).le (by omega)
section
variable {P : Program} {w : World} {K : PySem.W.Frag} {mg : Str → Option Value} {base : Heap}
theorem ok_s_tree (T : Tx K mg) (O__law_take : Ok P w K mg base 2 "_law_take" ["_law_pen", "_law_many"] (spP K 1 .E takeF)) : ∀ k : Nat, Ok P w K mg base (k + 2) "_law_s_tree" ["_law_pen", "_law_leaves"] (spP K 1 .E (trF k))
  | 0 => (Ok.no T.d__law_s_tree sc__law_s_tree (spP_no fun ds n Q ⟨c, L, _, hne, hk, _⟩ => hne (List.length_eq_zero_iff.mp (by omega)))).mono (by omega)
  | k + 1 => by
    have O__law_s_tree := ok_s_tree T O__law_take k
    refine Ok.ofP (M := []) T.d__law_s_tree sc__law_s_tree rfl (by decide) (by decide) fun f cdv A outer s H E p c hr => ⟨_, _, (pss_cons (ps_if (pt_cmpR (eqG K rfl hr.units) (pe_callB (lenG K rfl) (by rfl) T.z_len boot_len (pa_cons (pv 1) (pa_nil))) (pe_int) (nomark _))
 (pss_cons (ps_asg (pe_ix (ixG K rfl (u65 hr.toRoom)) (pv 1) (pe_int) (fun _ _ => rfl)) (pgT K rfl 3 rfl (pgs_cons (pg_nameL (i := 2) sc__law_s_tree.nd rfl rfl) (pgs_cons (pg_nameL (i := 3) sc__law_s_tree.nd rfl rfl) (pgs_cons (pg_nameL (i := 4) sc__law_s_tree.nd rfl rfl) (pgs_nil))))))
 (pss_cons (ps_set (i := 5) sc__law_s_tree.nd rfl (Or.inl rfl) (pe_fn O__law_take (hr.mono (by omega)) (by rfl) (pa_cons (pv 0) (pa_cons (pe_int) (pa_nil)))))
 (pss_cons (ps_if (PW.pt (pw_and (pt_cmpR (eqG K rfl hr.units) (pv 4) (pe_int) (nomark _)) (pw_and1 (pt_cmpR op_gt (pv 5) (pe_int) (nomark _)))))
 (pss_one (ps_ret (pv 3)))
 (pss_nil))
 (pss_one (ps_ret (pe_ifExp (pt_cmpR (eqG K rfl hr.units) (pv 5) (pe_int) (nomark _)) (pe_tupZ (pa_cons (pe_str) (pa_cons (pe_un un_neg (pe_int)) (pa_cons (pe_tupZ (pa_cons (pe_str) (pa_cons (pe_op op_sub (pe_int) (pv 4)) (pa_cons (pv 3) (pa_nil))))) (pa_nil))))) (pe_tupZ (pa_cons (pe_str) (pa_cons (pv 4) (pa_cons (pv 3) (pa_nil)))))))))))
 (pss_nil))
 (pss_cons (ps_set (i := 6) sc__law_s_tree.nd rfl (Or.inr rfl) (pe_ix (ixG K rfl (u65 hr.toRoom)) (pe_lst (pa_cons (pe_int) (pa_cons (pe_int) (pa_cons (pe_int) (pa_cons (pe_un un_neg (pe_int)) (pa_nil)))))) (pe_op mulG (pe_fn O__law_take (hr.mono (by omega)) (by rfl) (pa_cons (pv 0) (pa_cons (pe_int) (pa_nil)))) (pe_callTy call_int1 (by rfl) T.z_int boot_int (pa_cons (pe_cmpR op_gt (pe_callB (lenG K rfl) (by rfl) T.z_len boot_len (pa_cons (pv 1) (pa_nil))) (pe_int) (nomark _)) (pa_nil)))) (fun _ _ => rfl)))
 (pss_cons (ps_setLc (i := 7) (own := [("_law_k", 2), ("_law_thing", 3), ("_law_weight", 4)]) rfl sc__law_s_tree.nd rfl rfl (sw_true rfl rfl rfl (by decide +kernel)) (piL K rfl (pv 1)) (blkOk_by (own := [("_law_k", 2), ("_law_thing", 3), ("_law_weight", 4)]) (N := ["_law_pen", "_law_leaves", "_law_k", "_law_thing", "_law_weight", "_law_way", "_law_sign", "_law_some", "_law_at", "_law_one", "_law_found"]) (sc := defScope s__law_s_tree) (by decide +kernel)) (fun _ _ _ _ _ => pgT K rfl 3 rfl (pgs_cons (pg_nameL (i := 2) sc__law_s_tree.nd rfl rfl) (pgs_cons (pg_nameL (i := 3) sc__law_s_tree.nd rfl rfl) (pgs_cons (pg_nameL (i := 4) sc__law_s_tree.nd rfl rfl) (pgs_nil))))) (fun _ _ _ _ _ => pts_nil) (fun _ _ _ _ _ => pe_tupZ (pa_cons (pv 2) (pa_cons (pv 3) (pa_cons (pe_op mulG (pv 6) (pv 4)) (pa_nil))))))
 (pss_cons (ps_set (i := 8) sc__law_s_tree.nd rfl (Or.inl rfl) (pe_op op_fdivW (pe_op (addG K rfl) (pe_callB (lenG K rfl) (by rfl) T.z_len boot_len (pa_cons (pv 7) (pa_nil))) (pe_fn O__law_take (hr.mono (by omega)) (by rfl) (pa_cons (pv 0) (pa_cons (pe_int) (pa_nil))))) (pe_int)))
 (pss_cons (ps_set (i := 9) sc__law_s_tree.nd rfl (Or.inl rfl) (pe_fn O__law_s_tree (hr.mono (by omega)) (by rfl) (pa_cons (pv 0) (pa_cons (pe_slice (slG K rfl) (pv 7) po_none (po_some (pv 8))) (pa_nil)))))
 (pss_cons (ps_set (i := 10) sc__law_s_tree.nd rfl (Or.inl rfl) (pe_tupZ (pa_cons (pe_str) (pa_cons (pv 9) (pa_cons (pe_fn O__law_s_tree (hr.mono (by omega)) (by rfl) (pa_cons (pv 0) (pa_cons (pe_slice (slG K rfl) (pv 7) (po_some (pv 8)) po_none) (pa_nil)))) (pa_nil))))))
 (pss_one (ps_ret (pe_ifExp (pt_cmpR (eqG K rfl hr.units) (pv 6) (pe_int) (nomark _)) (pv 10) (pe_tupZ (pa_cons (pe_str) (pa_cons (pv 6) (pa_cons (pv 10) (pa_nil)))))))))))))),
 (simS_seq (simS_if (simT_test (sim_op opA_eq (sim_cb caA_len (simA_cons (sim_var 1 (nm rfl)) (simA_nil))) (sim_int _)))
 (simS_seq (simS_asg (opA_ix (sim_var 1 (nm rfl)) (sim_int _)) (simG_tup (simGs_cons (simG_name 2 (nm rfl) (np rfl)) (simGs_cons (simG_name 3 (nm rfl) (np rfl)) (simGs_cons (simG_name 4 (nm rfl) (np rfl)) (simGs_nil))))))
 (simS_seq (simS_set 5 (nm rfl) (np rfl) (sim_callP (by simp) rfl (simA_cons (sim_int _) (simA_nil))))
 (simS_seq (simS_if (simT_and (simT_test (sim_op opA_eq (sim_var 4 (nm rfl)) (sim_int _))) (simT_test (sim_op (opA_cmp _) (sim_var 5 (nm rfl)) (sim_int _))))
 (simS_ret (Sim.toE (sim_var 3 (nm rfl))))
 (simS_next))
 (simS_ret (Sim.toE (sim_if (simT_test (sim_op opA_eq (sim_var 5 (nm rfl)) (sim_int _))) (sim_tup (by decide) (simA_cons (sim_str _) (simA_cons (sim_neg (sim_int _)) (simA_cons (sim_tup (by decide) (simA_cons (sim_str _) (simA_cons (sim_op opA_sub (sim_int _) (sim_var 4 (nm rfl))) (simA_cons (sim_var 3 (nm rfl)) (simA_nil))))) (simA_nil))))) (sim_tup (by decide) (simA_cons (sim_str _) (simA_cons (sim_var 4 (nm rfl)) (simA_cons (sim_var 3 (nm rfl)) (simA_nil)))))))))))
 (simS_next))
 (simS_cut (simS_set 6 (nm rfl) (np rfl) (opA_ix (sim_lst (by decide) (simA_cons (sim_int _) (simA_cons (sim_int _) (simA_cons (sim_int _) (simA_cons (sim_neg (sim_int _)) (simA_nil)))))) (sim_op opA_mul (sim_callP (by simp) rfl (simA_cons (sim_int _) (simA_nil))) (sim_cb caA_int (simA_cons (sim_op (opA_cmp _) (sim_cb caA_len (simA_cons (sim_var 1 (nm rfl)) (simA_nil))) (sim_int _)) (simA_nil))))))
 (simS_seq (simS_set 7 (nm rfl) (np rfl) (sim_lc (simI_list (sim_var 1 (nm rfl))) (simG_tup (simGs_cons (simG_name 2 (nm rfl) (np rfl)) (simGs_cons (simG_name 3 (nm rfl) (np rfl)) (simGs_cons (simG_name 4 (nm rfl) (np rfl)) (simGs_nil))))) (simT_yes) (sim_tup (by decide) (simA_cons (sim_var 2 (nm rfl)) (simA_cons (sim_var 3 (nm rfl)) (simA_cons (sim_op opA_mul (sim_var 6 (nm rfl)) (sim_var 4 (nm rfl))) (simA_nil))))) (inv' rfl) (nmv rfl) (npv rfl)))
 (simS_seq (simS_set 8 (nm rfl) (np rfl) (sim_op opA_fdiv (sim_op opA_add (sim_cb caA_len (simA_cons (sim_var 7 (nm rfl)) (simA_nil))) (sim_callP (by simp) rfl (simA_cons (sim_int _) (simA_nil)))) (sim_int _)))
 (simS_seq (simS_set 9 (nm rfl) (np rfl) (sim_callP (by simp) rfl (simA_cons (sim_sl (sim_var 7 (nm rfl)) simO_none (simO_some (sim_var 8 (nm rfl)))) (simA_nil))))
 (simS_seq (simS_set 10 (nm rfl) (np rfl) (sim_tup (by decide) (simA_cons (sim_str _) (simA_cons (sim_var 9 (nm rfl)) (simA_cons (sim_callP (by simp) rfl (simA_cons (sim_sl (sim_var 7 (nm rfl)) (simO_some (sim_var 8 (nm rfl))) simO_none) (simA_nil))) (simA_nil))))))
 (simS_ret (Sim.toE (sim_if (simT_test (sim_op opA_eq (sim_var 6 (nm rfl)) (sim_int _))) (Sim.toE (sim_var 10 (nm rfl))) (Sim.toE (sim_tup (by decide) (simA_cons (sim_str _) (simA_cons (sim_var 6 (nm rfl)) (simA_cons (sim_var 10 (nm rfl)) (simA_nil))))))))))))))), ?_⟩
    rintro ds m Q hl ⟨c, L, rfl, hne, hk, h40, hb, hm, q⟩
    have done : ∀ (t : Th) (n' : Nat), TreeR (c + 2 * L.length) L t → n' + 2 ≤ m + 4 * L.length → Q t.d n' := q
    match L, hne, done, hk, h40, hb, hm with
    | [l], _, done, _, _, hb, hm =>
      have hl := hb l (List.mem_cons_self ..)
      simp only [List.length_cons, List.length_nil] at done hm
      refine seqY (fun Q q => q) ?_
      refine ix_ok 0 rfl rfl ⟨rfl, ?_⟩
      refine tk_ok (by (first | omega | (dsimp only; omega) | (dsimp only at *; omega))) (by decide) (by decide) fun way w0 w1 => ?_
      dsimp only
      refine seqIf (b := decide (l.w = 1) && decide (0 < way)) (tst_and (x := decide (l.w = 1)) (y := decide (0 < way)) (fun Q q => q) (fun _ Q q => q)) (fun h => ?_) (fun h => ?_)
      · have h1 : l.w = 1 := by
          rw [Bool.and_eq_true, decide_eq_true_eq] at h
          exact h.1
        exact done _ _ ((TreeR.one hl h1).le (by omega)) (show m + 1 + 2 ≤ _ by omega)
      · by_cases hw : way = 1
        · refine retY (tstT (p := way = 1) (fun Q q => q) hw) ?_
          exact done _ _ ((TreeR.mm hl).le (by omega)) (show m + 1 + 2 ≤ _ by omega)
        · refine retN (tstF (p := way = 1) (fun Q q => q) hw) ?_
          exact done _ _ ((TreeR.mul hl).le (by omega)) (show m + 1 + 2 ≤ _ by omega)
    | l1 :: l2 :: L, _, done, hk, h40, hb, hm =>
      generalize eM : l1 :: l2 :: L = M at *
      have h2 : 2 ≤ M.length := by rw [← eM]; simp
      refine seqN (tstF (p := ((M.map Lf.d).length : Int) = 1) (fun Q q => q) (by rw [List.length_map]; omega)) ?_
      refine ⟨fun s' => ∃ sg : Int, (sg = 1 ∨ sg = -1) ∧ s' = { δ := [none, some (.list (M.map Lf.d)), none, none, none, none, some (.int sg), none, none, none, none], n := m + 1 }, ?_, ?_⟩
      · refine tk_ok (by (first | omega | (dsimp only; omega) | (dsimp only at *; omega))) (by decide) (by decide) fun r r0 r1 => ?_
        have e1 : r * (if decide ((2 : Int) < ((M.map Lf.d).length : Int)) = true then 1 else 0) = r ∨ r * (if decide ((2 : Int) < ((M.map Lf.d).length : Int)) = true then 1 else 0) = 0 := by
          split
          · left; omega
          · right; omega
        refine ⟨mulOk (lt2000 (Nat.lt_of_le_of_lt (show r.natAbs ≤ 4 by omega) (by decide))) (lt2000 (Nat.lt_of_le_of_lt (show _ ≤ 1 by split <;> decide) (by decide))), ?_⟩
        have hr : r = 0 ∨ r = 1 ∨ r = 2 ∨ r = 3 := by omega
        rcases e1 with e1 | e1
        · rw [e1]
          rcases hr with rfl | rfl | rfl | rfl
          · exact ix_ok 0 rfl rfl ⟨1, .inl rfl, rfl⟩
          · exact ix_ok 1 rfl rfl ⟨1, .inl rfl, rfl⟩
          · exact ix_ok 2 rfl rfl ⟨1, .inl rfl, rfl⟩
          · exact ix_ok 3 rfl rfl ⟨-1, .inr rfl, rfl⟩
        · rw [e1]
          exact ix_ok 0 rfl rfl ⟨1, .inl rfl, rfl⟩
      · rintro s' ⟨sg, hsg, rfl⟩
        obtain ⟨M', eM', lM', bM', fin⟩ : ∃ M' : List Lf, (M.map fun l => PyData.tuple [kD l.k, l.t.d, .int (sg * l.w)]) = M'.map Lf.d ∧ M'.length = M.length ∧ (∀ l ∈ M', LfB c l) ∧ ∀ (j : Nat) (a b : Th), 1 ≤ j → j < M.length → TreeR (c + 2 * (M'.take j).length) (M'.take j) a → TreeR (c + 2 * (M'.drop j).length) (M'.drop j) b → (sg = 1 ∧ TreeR (c + 2 * M.length) M (.add a b)) ∨ (sg = -1 ∧ TreeR (c + 2 * M.length) M (.mul (-1) (.add a b))) := by
          rcases hsg with rfl | rfl
          · refine ⟨M, List.map_congr_left fun l _ => by rw [Int.one_mul]; rfl, rfl, hb, fun j a b h1 h2 h3 h4 => .inl ⟨rfl, ?_⟩⟩
            exact (TreeR.halves h1 h2 h3 h4).le (by omega)
          · refine ⟨M.map Lf.neg, (neg_d M).symm, List.length_map _, fun l ml => ?_, fun j a b h1 h2 h3 h4 => .inr ⟨rfl, TreeR.halvesN h1 h2 h3 h4⟩⟩
            obtain ⟨l, ml', rfl⟩ := List.mem_map.mp ml
            exact (hb l ml').neg
        refine ⟨Nat.le_trans (show (M.map Lf.d).length ≤ 40 by rw [List.length_map]; exact h40) (by decide), lcAll (M.map Lf.d) (M.map fun l => PyData.tuple [kD l.k, l.t.d, .int (sg * l.w)]) [] _ (by simp) (fun j p x h1 h2 N hN => ?_) ?_⟩
        · rw [List.getElem?_map] at h1 h2
          cases ej : M[j]? with
          | none => rw [ej] at h1; cases h1
          | some l =>
            rw [ej] at h1 h2
            cases h1
            cases h2
            have hw := (hb l (List.mem_of_getElem? ej)).w
            refine ⟨rfl, mulOk (lt2000 (Nat.lt_of_le_of_lt (show sg.natAbs ≤ 1 by omega) (by decide))) (Nat.lt_trans hw (show 2 ^ 90 < 2 ^ 2000 from Nat.pow_lt_pow_right (by decide) (by decide))), ?_⟩
            exact hN _ rfl
        rw [List.nil_append, eM']
        dsimp only [List.set]
        refine tk_ok (show m + 1 ≤ penLim by omega) (by decide) (by decide) fun r r0 r1 => ?_
        refine ⟨⟨by decide, by decide⟩, ?_⟩
        rw [List.length_map, lM']
        obtain ⟨j, ej, j1, j2⟩ : ∃ j : Nat, ((M.length : Int) + r) / 2 = (j : Int) ∧ 1 ≤ j ∧ j < M.length := ⟨(((M.length : Int) + r) / 2).toNat, by omega, by omega, by omega⟩
        rw [ej]
        dsimp only [List.set]
        have lt : (M'.take j).length = j := by rw [List.length_take, lM']; omega
        have ld : (M'.drop j).length = M.length - j := by rw [List.length_drop, lM']
        refine ⟨c, M'.take j, by rw [cutD_to, List.map_take], fun z => ?_, by omega, by omega, fun l ml => bM' l (List.mem_of_mem_take ml), ?_, fun a n1 ha hn1 => ?_⟩
        · rw [z] at lt
          simp only [List.length_nil] at lt
          omega
        · rw [lt]
          show m + 1 + 1 + _ ≤ _
          omega
        dsimp only [List.set]
        refine ⟨c, M'.drop j, by rw [cutD_from _ _ (by rw [List.length_map, lM']; omega), List.map_drop], fun z => ?_, by omega, by omega, fun l ml => bM' l (List.mem_of_mem_drop ml), ?_, fun b n2 hb2 hn2 => ?_⟩
        · rw [z] at ld
          simp only [List.length_nil] at ld
          omega
        · rw [lt] at hn1
          rw [ld]
          have hn1 : n1 + 2 ≤ m + 1 + 1 + 4 * j := hn1
          show n1 + 4 * (M.length - j) ≤ penLim
          omega
        rw [lt] at hn1
        rw [ld] at hn2
        have hn1 : n1 + 2 ≤ m + 1 + 1 + 4 * j := hn1
        have hn2 : n2 + 2 ≤ n1 + 4 * (M.length - j) := hn2
        have hn3 : n2 + 2 ≤ m + 4 * M.length := by omega
        rcases fin j a b j1 j2 ha hb2 with ⟨rfl, ht⟩ | ⟨rfl, ht⟩
        · dsimp only [List.set]
          refine retY (fun Q q => q) ?_
          exact done _ _ ht hn3
        · dsimp only [List.set]
          refine retN (fun Q q => q) ?_
          exact done _ _ ht hn3
end

/-! ### a thing spelled, out of its parts -/
def All2 {α β : Type} (R : α → β → Prop) : List α → List β → Prop
  | [], [] => True
  | a :: as, b :: bs => R a b ∧ All2 R as bs
  | _, _ => False
theorem All2.len {α β : Type} {R : α → β → Prop} : ∀ {as : List α} {bs : List β}, All2 R as bs → bs.length = as.length
  | [], [], _ => rfl
  | [], _ :: _, h => h.elim
  | _ :: _, [], h => h.elim
  | a :: as, b :: bs, h => by rw [List.length_cons, List.length_cons, All2.len h.2]
theorem all2_1 {α β : Type} {R : α → β → Prop} {a : α} {bs : List β} (h : All2 R [a] bs) : ∃ b, bs = [b] ∧ R a b := by
  match bs, h with
  | [b], h => exact ⟨b, rfl, h.1⟩
  | [], h => exact h.elim
  | _ :: _ :: _, h => exact h.2.elim
theorem all2_2 {α β : Type} {R : α → β → Prop} {a a' : α} {bs : List β} (h : All2 R [a, a'] bs) : ∃ b b', bs = [b, b'] ∧ R a b ∧ R a' b' := by
  match bs, h with
  | b :: bs, h =>
    obtain ⟨b', rfl, h'⟩ := all2_1 h.2
    exact ⟨b, b', rfl, h.1, h'⟩
  | [], h => exact h.elim
theorem all2_3 {α β : Type} {R : α → β → Prop} {a a' a2 : α} {bs : List β} (h : All2 R [a, a', a2] bs) : ∃ b b' b2, bs = [b, b', b2] ∧ R a b ∧ R a' b' ∧ R a2 b2 := by
  match bs, h with
  | b :: bs, h =>
    obtain ⟨b', b2, rfl, h'⟩ := all2_2 h.2
    exact ⟨b, b', b2, rfl, h.1, h'⟩
  | [], h => exact h.elim
/-- a comprehension that draws -/
theorem lcPen {α : Type} {g : D → S → (S → Prop) → Prop} {e : DT} {vs : List Nat} {Q : List D → S → Prop} (R : α → D → Prop) (f : α → D) (sA : Nat → S) (b lim : Nat) : ∀ (as : List α) (acc : List D) (n : Nat), n + as.length * b ≤ lim →
    (∀ a ∈ as, ∀ n, n + b ≤ lim → ∀ N : D → S → Prop, (∀ r n', R a r → n' ≤ n + b → ∀ s', wipeS s' vs = sA n' → N r s') → g (f a) (sA n) fun s1 => e s1 N) →
    (∀ rs n', All2 R as rs → n' ≤ n + as.length * b → Q (acc ++ rs) (sA n')) → lcD g dYes e vs Q (as.map f) acc (sA n)
  | [], acc, n, _, _, q => by
    have := q [] n trivial (by omega)
    rw [List.append_nil] at this
    exact this
  | a :: as, acc, n, hn, h, q => by
    rw [List.length_cons, Nat.succ_mul] at hn
    show g (f a) (sA n) fun s1 => e s1 fun y s3 => lcD g dYes e vs Q (as.map f) (acc ++ [y]) (wipeS s3 vs)
    refine h a (List.mem_cons_self ..) n (by omega) _ fun r n' hr hn' s' es => ?_
    rw [es]
    refine lcPen R f sA b lim as (acc ++ [r]) n' (by omega) (fun a m => h a (List.mem_cons_of_mem _ m)) fun rs n2 h2 hn2 => ?_
    have := q (r :: rs) n2 ⟨hr, h2⟩ (by rw [List.length_cons, Nat.succ_mul]; omega)
    rw [List.append_assoc]
    exact this
def Lg.pls : Lg → List Lg
  | .pcons p ps => p :: ps.pls
  | _ => []
theorem Lg.pls_d : ∀ g : Lg, g.isPl = true → g.d = .tuple (g.pls.map Lg.d)
  | .pnil, _ => rfl
  | .pcons p ps, h => by
    show consD p.d ps.d = _
    rw [Lg.pls_d ps h]
    rfl
theorem Lg.pls_len : ∀ g : Lg, g.isPl = true → g.pls.length = g.plen
  | .pnil, _ => rfl
  | .pcons p ps, h => by
    show (p :: ps.pls).length = ps.plen + 1
    rw [List.length_cons, Lg.pls_len ps h]
theorem Lg.pls_ok {m : Nat} : ∀ g : Lg, g.isPl = true → g.ok m → ∀ p ∈ g.pls, p.ok m ∧ (p.isRw = true ∨ p.isSm = true)
  | .pnil, _, _, _, h => nomatch h
  | .pcons p ps, h, ho, q, mq => by
    rcases List.mem_cons.mp mq with rfl | mq
    · exact ⟨ho.2.1, ho.1⟩
    · exact Lg.pls_ok ps h ho.2.2.2 q mq
theorem Lg.pls_mz {ar : Nat → Nat} : ∀ g : Lg, g.isPl = true → ∀ p ∈ g.pls, p.mz ar + 1 ≤ g.mz ar
  | .pnil, _, _, h => nomatch h
  | .pcons p ps, h, q, mq => by
    show _ ≤ max _ _
    rcases List.mem_cons.mp mq with rfl | mq
    · exact Nat.le_max_left _ _
    · exact Nat.le_trans (Lg.pls_mz ps h q mq) (Nat.le_max_right _ _)
/-- a part spelled -/
def RelS (fm : Nat → D) (ar : Nat → Nat) : Lg ⊕ Int → D → Prop
  | .inl g, r => ∃ t, r = t.d ∧ SpP (g.mz ar + 1) (g.fo fm) t ∧ (g.isSm = true → SpP (g.mz ar) (g.fo fm) t)
  | .inr i, r => r = .int i
def ptD : Lg ⊕ Int → D
  | .inl g => g.d
  | .inr i => .int i
theorem sp_pl {fm : Nat → D} {ar : Nat → Nat} : ∀ (g : Lg) (rs : List D), g.isPl = true → All2 (RelS fm ar) (g.pls.map Sum.inl) rs → ∃ tp, SpPl (g.mz ar) (g.fo fm) g.plen tp ∧ tp.d = .tuple rs
  | .pnil, [], _, _ => ⟨.pnil, SpPl.nil, rfl⟩
  | .pnil, _ :: _, _, h => h.elim
  | .pcons p ps, [], _, h => h.elim
  | .pcons p ps, r :: rs, hp, h => by
    obtain ⟨⟨t, rfl, h1, _⟩, h2⟩ := h
    obtain ⟨tp, h3, h4⟩ := sp_pl ps rs hp h2
    refine ⟨.pcons t tp, SpPl.cons (h1.le (c' := max (p.mz ar + 1) (ps.mz ar)) (Nat.le_max_left _ _)) (h3.le (Nat.le_max_right _ _)), ?_⟩
    show consD t.d tp.d = _
    rw [h4]
    rfl
/-- a thing spelled -/
structure Spt (c : Nat) (f : D) (g : Lg) (t : Th) : Prop where
  a : g.isAt = true → SpA c f t
  r : g.isRw = true → SpR c f t
  s : g.isSm = true → SpP c f t
def spF (k : Nat) : DFP := fun ds n Q => ∃ (e : Nat) (pool : List Lg) (fm : Nat → D) (ar : Nat → Nat) (g : Lg), e ≤ 3 ∧ PoolOk e pool fm ar ∧ ds = [.list (pool.map Lg.d), g.d] ∧ g.isPl = false ∧ g.ok pool.length ∧ g.mz ar ≤ k ∧ n + 100 ^ k ≤ penLim ∧ ∀ t n', Spt (g.mz ar) (g.fo fm) g t → n' ≤ n + 100 ^ k → Q t.d n'
def lvF (k : Nat) : DFP := fun ds n Q => ∃ (e : Nat) (pool : List Lg) (fm : Nat → D) (ar : Nat → Nat) (ps : List (Nat × Int)) (i : Int), e ≤ 3 ∧ PoolOk e pool fm ar ∧ ds = [.list (pool.map Lg.d), (Lg.sum ps i).d] ∧ SmOk pool.length ps i ∧ lmax (ps.map fun p => ar p.1) + 1 ≤ k ∧ n + 100 ^ k ≤ penLim ∧
  ∀ L n', LeavesR pool.length (lmax (ps.map fun p => ar p.1) + 1) fm ps i L → n' ≤ n + 100 ^ k → Q (.list (L.map Lf.d)) n'
theorem Spt.rel {fm : Nat → D} {ar : Nat → Nat} {g : Lg} {t : Th} (h : Spt (g.mz ar) (g.fo fm) g t) (k : g.isRw = true ∨ g.isSm = true) : RelS fm ar (.inl g) t.d := by
  refine ⟨t, rfl, ?_, h.s⟩
  rcases k with k | k
  · exact (h.r k).p
  · exact (h.s k).le (Nat.le_succ _)
def PrtOk (m : Nat) (ar : Nat → Nat) (k : Nat) : Lg ⊕ Int → Prop
  | .inl g => g.ok m ∧ (g.isRw = true ∨ g.isSm = true) ∧ g.mz ar ≤ k
  | .inr _ => True
theorem sp_gen {e : Nat} {pool : List Lg} {fm : Nat → D} {ar : Nat → Nat} {k m : Nat} {E : DEnds} {x : Str} {as : List (Lg ⊕ Int)} (he : e ≤ 3) (hk : PoolOk e pool fm ar) (h3 : as.length ≤ 3) (ha : ∀ a ∈ as, PrtOk pool.length ar k a) (hn : m + 3 * 100 ^ k ≤ penLim) (q : ∀ rs n' s', All2 (RelS fm ar) as rs → n' ≤ m + 3 * 100 ^ k → s'.n = n' → E.rt (.tuple (.str x :: rs)) s') :
    dRet (dOp addD (dSl (dV 2) dNoPart (dPart (dC (PyData.int 1)))) (dCB tupD (dCons (dLc (fun s Q => dSl (dV 2) (dPart (dC (PyData.int 1))) dNoPart s fun d s1 => match d with | PyData.tuple ds => Q ds s1 | _ => False) (sName 3) dYes (dIf (dBl (dIsi Cl.tuple (dV 3))) (dCallP (spF k) (dCons (dV 1) (dCons (dV 3) dNil))) (dV 3)) [3]) dNil)))
      E { δ := [none, some (.list (pool.map Lg.d)), some (.tuple (.str x :: as.map ptD)), none], n := m } := by
  have hb : as.length * 100 ^ k ≤ 3 * 100 ^ k := Nat.mul_le_mul_right _ h3
  have key : ∀ (h l : List D), h = [.str x] → l = as.map ptD → (l.length ≤ sizeLine ∧ lcD (sName 3) dYes (dIf (dBl (dIsi Cl.tuple (dV 3))) (dCallP (spF k) (dCons (dV 1) (dCons (dV 3) dNil))) (dV 3)) [3] (fun acc s2 => tupD [.list acc] fun z => addD (.tuple h) z fun z => E.rt z s2) l [] { δ := [none, some (.list (pool.map Lg.d)), some (.tuple (.str x :: as.map ptD)), none], n := m }) := by
    rintro h l rfl rfl
    refine ⟨Nat.le_trans (show (as.map ptD).length ≤ 3 by rw [List.length_map]; exact h3) (by decide), lcPen (RelS fm ar) ptD (fun n => { δ := [none, some (.list (pool.map Lg.d)), some (.tuple (.str x :: as.map ptD)), none], n := n }) (100 ^ k) penLim as [] m (by omega) (fun a ma n hna N hN => ?_) fun rs n' hr hn' => ?_⟩
    · have := ha a ma
      cases a with
      | inl g =>
        obtain ⟨h1, h2, h4⟩ := this
        show (if isB .tuple g.d = true then _ else _)
        rw [if_pos (Lg.d_tup g)]
        exact ⟨e, pool, fm, ar, g, he, hk, rfl, npl h2, h1, h4, hna, fun t n' ht hn' => hN _ n' (ht.rel h2) hn' _ rfl⟩
      | inr i => exact hN _ n rfl (by omega) _ rfl
    · have hl : rs.length = as.length := hr.len
      show 1 + ([] ++ rs).length ≤ sizeLine ∧ _
      rw [List.nil_append]
      exact ⟨Nat.le_trans (show 1 + rs.length ≤ 4 by omega) (by decide), q rs n' _ hr (by omega) rfl⟩
  exact key _ _ (cut_to1 _ _) (cut_one _ _)
section
variable {P : Program} {w : World} {K : PySem.W.Frag} {mg : Str → Option Value} {base : Heap}
theorem ok_s_spelt (T : Tx K mg) (k : Nat) (O__law_s_tree : Ok P w K mg base 16 "_law_s_tree" ["_law_pen", "_law_leaves"] (spP K 1 .E (trF 14))) (O__law_s_spelt : Ok P w K mg base (k + 16) "_law_s_spelt" ["_law_pen", "_law_pool", "_law_thing"] (spP K 2 .E (spF k)))
    (O__law_s_leaves : Ok P w K mg base (k + 16) "_law_s_leaves" ["_law_pen", "_law_pool", "_law_made_of"] (spP K 2 .F (lvF k))) : Ok P w K mg base (k + 17) "_law_s_spelt" ["_law_pen", "_law_pool", "_law_thing"] (spP K 2 .E (spF (k + 1))) := by
  refine Ok.ofP (M := []) T.d__law_s_spelt sc__law_s_spelt rfl (by decide) (by decide) fun f cdv A outer s H E p c hr => ⟨_, _, (pss_cons (ps_if (pt_cmpR (inG K rfl (u65 hr.toRoom)) (pe_ix (ixG K rfl (u65 hr.toRoom)) (pv 2) (pe_int) (fun _ _ => rfl)) (pe_tupZ (pa_cons (pe_str) (pa_cons (pe_str) (pa_nil)))) (by rfl))
 (pss_one (ps_ret (pv 2)))
 (pss_nil))
 (pss_cons (ps_if (pt_cmpR (eqG K rfl hr.units) (pe_ix (ixG K rfl (u65 hr.toRoom)) (pv 2) (pe_int) (fun _ _ => rfl)) (pe_str) (nomark _))
 (pss_one (ps_ret (pe_fn O__law_s_tree (hr.mono (by omega)) (by rfl) (pa_cons (pv 0) (pa_cons (pe_fn O__law_s_leaves (hr.mono (by omega)) (by rfl) (pa_cons (pv 0) (pa_cons (pv 1) (pa_cons (pv 2) (pa_nil))))) (pa_nil))))))
 (pss_nil))
 (pss_cons (ps_if (pt_cmpR (eqG K rfl hr.units) (pe_ix (ixG K rfl (u65 hr.toRoom)) (pv 2) (pe_int) (fun _ _ => rfl)) (pe_str) (nomark _))
 (pss_one (ps_ret (pe_op (addG K rfl) (pe_slice (slG K rfl) (pv 2) po_none (po_some (pe_int))) (pe_tupZ (pa_cons (pe_callTy (tupQ K rfl) (by rfl) T.z_tuple boot_tuple (pa_cons (pe_lc (own := [("_law_part", 3)]) rfl sc__law_s_spelt.nd (piT K rfl (pe_ix (ixG K rfl (u65 hr.toRoom)) (pv 2) (pe_int) (fun _ _ => rfl))) (blkOk_by (own := [("_law_part", 3)]) (N := ["_law_pen", "_law_pool", "_law_thing", "_law_part"]) (sc := defScope s__law_s_spelt) (by decide +kernel)) (fun _ _ _ _ _ => pg_nameL (i := 3) sc__law_s_spelt.nd rfl rfl) (fun _ _ _ _ _ => pts_nil) (fun _ _ _ _ _ => pe_fn O__law_s_spelt (hr.mono (by omega)) (by rfl) (pa_cons (pv 0) (pa_cons (pv 1) (pa_cons (pv 3) (pa_nil)))))) (pa_nil))) (pa_nil))))))
 (pss_nil))
 (pss_one (ps_ret (pe_op (addG K rfl) (pe_slice (slG K rfl) (pv 2) po_none (po_some (pe_int))) (pe_callTy (tupQ K rfl) (by rfl) T.z_tuple boot_tuple (pa_cons (pe_lc (own := [("_law_part", 3)]) rfl sc__law_s_spelt.nd (piT K rfl (pe_slice (slG K rfl) (pv 2) (po_some (pe_int)) po_none)) (blkOk_by (own := [("_law_part", 3)]) (N := ["_law_pen", "_law_pool", "_law_thing", "_law_part"]) (sc := defScope s__law_s_spelt) (by decide +kernel)) (fun _ _ _ _ _ => pg_nameL (i := 3) sc__law_s_spelt.nd rfl rfl) (fun _ _ _ _ _ => pts_nil) (fun _ _ _ _ _ => pe_ifExp (pt_val (pe_callB (isiK K rfl) (by rfl) T.z_isinstance boot_isi (pa_cons (pv 3) (pa_cons (pe_bltn (v := .ty "tuple") (by rfl) T.z_tuple boot_tuple rfl) pa_nil)))) (pe_fn O__law_s_spelt (hr.mono (by omega)) (by rfl) (pa_cons (pv 0) (pa_cons (pv 1) (pa_cons (pv 3) (pa_nil))))) (pv 3))) (pa_nil))))))))),
 (simS_seq (simS_if (simT_test (sim_op opA_in (opA_ix (sim_var 2 (nm rfl)) (sim_int _)) (sim_tup (by decide) (simA_cons (sim_str _) (simA_cons (sim_str _) (simA_nil))))))
 (simS_ret (Sim.toE (sim_var 2 (nm rfl))))
 (simS_next))
 (simS_seq (simS_if (simT_test (sim_op opA_eq (opA_ix (sim_var 2 (nm rfl)) (sim_int _)) (sim_str _)))
 (simS_ret (Sim.toE (sim_callP (by simp) rfl (simA_cons (sim_callP (by simp) rfl (simA_cons (sim_var 1 (nm rfl)) (simA_cons (sim_var 2 (nm rfl)) (simA_nil)))) (simA_nil)))))
 (simS_next))
 (simS_seq (simS_if (simT_test (sim_op opA_eq (opA_ix (sim_var 2 (nm rfl)) (sim_int _)) (sim_str _)))
 (simS_ret (Sim.toE (sim_op opA_add (sim_sl (sim_var 2 (nm rfl)) simO_none (simO_some (sim_int _))) (sim_tup (by decide) (simA_cons (sim_cb caA_tup (simA_cons (sim_lc (simI_tup (opA_ix (sim_var 2 (nm rfl)) (sim_int _))) (simG_name 3 (nm rfl) (np rfl)) (simT_yes) (sim_callP (by simp) rfl (simA_cons (sim_var 1 (nm rfl)) (simA_cons (sim_var 3 (nm rfl)) (simA_nil)))) (inv' rfl) (nmv rfl) (npv rfl)) (simA_nil))) (simA_nil))))))
 (simS_next))
 (simS_ret (Sim.toE (sim_op opA_add (sim_sl (sim_var 2 (nm rfl)) simO_none (simO_some (sim_int _))) (sim_cb caA_tup (simA_cons (sim_lc (simI_tup (sim_sl (sim_var 2 (nm rfl)) (simO_some (sim_int _)) simO_none)) (simG_name 3 (nm rfl) (np rfl)) (simT_yes) (sim_if (simT_B (sim_isi .tuple (sim_var 3 (nm rfl)))) (Sim.toE (sim_callP (by simp) rfl (simA_cons (sim_var 1 (nm rfl)) (simA_cons (sim_var 3 (nm rfl)) (simA_nil))))) (Sim.toE (sim_var 3 (nm rfl)))) (inv' rfl) (nmv rfl) (npv rfl)) (simA_nil))))))))), ?_⟩
  rintro ds m Q hl ⟨e, pool, fm, ar, g, he, hp, rfl, hpl, ho, hm, hn, q⟩
  have e100 : 100 ^ (k + 1) = 100 * 100 ^ k := by rw [Nat.pow_succ, Nat.mul_comm]
  have p100 : 1 ≤ 100 ^ k := Nat.one_le_pow _ _ (by decide)
  cases g with
  | pnil => cases hpl
  | pcons _ _ => exact absurd (ho.2.2.1.symm.trans hpl) (by decide)
  | name x =>
    refine seqY (tI2 (x := Str.ofString "name") rfl (by decide +kernel)) ?_
    exact q (.name x) m ⟨fun _ => SpA.name ho, fun z => (nomatch z), fun z => (nomatch z)⟩ (by omega)
  | row x =>
    refine seqY (tI2 (x := Str.ofString "row") rfl (by decide +kernel)) ?_
    exact q (.row x) m ⟨fun z => (nomatch z), fun _ => SpR.row ho, fun z => (nomatch z)⟩ (by omega)
  | sum ps i =>
    refine seqN (tI2 (x := Str.ofString "sum") rfl (by decide +kernel)) (seqY (tI1 (x := Str.ofString "sum") rfl (by decide +kernel)) ?_)
    simp only [Lg.mz] at hm
    have rp : ∀ j, j < pool.length → RpOk (fm j) := fun j hj => RpOk.of (hp.bt j hj) (by omega) (Nat.le_trans (tB_le he) (by decide))
    refine ⟨e, pool, fm, ar, ps, i, he, hp, rfl, ho, by omega, by show m + 100 ^ k ≤ _; omega, fun L n1 hL hn1 => ?_⟩
    have hn1 : n1 ≤ m + 100 ^ k := hn1
    have l12 := hL.ln
    refine ⟨lmax (ps.map fun p => ar p.1) + 1 + 2, L, rfl, hL.ne, by omega, by omega, fun l ml => (hL.lf l ml).b rp, by show n1 + _ ≤ _; omega, fun t n2 ht hn2 => ?_⟩
    have hn2 : n2 + 2 ≤ n1 + 4 * L.length := hn2
    refine q t n2 ⟨fun z => (nomatch z), fun z => (nomatch z), fun _ => ?_⟩ (by omega)
    refine (spS ho hL ht hp.inj hp.gf' fun p mp => RpOk.of (hp.pr he (ho.ms p mp).1 (ho.ms p mp).2.2) (by decide) (by decide)).le ?_
    simp only [Lg.mz]
    omega
  | size r =>
    refine seqN (tI2 (x := Str.ofString "size") rfl (by decide +kernel)) (seqN (tI1 (x := Str.ofString "size") rfl (by decide +kernel)) (seqN (tI1 (x := Str.ofString "size") rfl (by decide +kernel)) ?_))
    simp only [Lg.mz] at hm
    refine sp_gen (fm := fm) (ar := ar) (k := k) (as := [.inl r]) he hp (by simp) (fun a ma => by
      simp only [List.mem_cons, List.not_mem_nil, or_false] at ma
      subst ma
      exact ⟨ho.2, .inl ho.1, by omega⟩) (by omega) fun rs n' s' hr hn' es => ?_
    obtain ⟨r', rfl, t, rfl, h1, h2⟩ := all2_1 hr
    subst es
    exact q (.size t) s'.n ⟨fun _ => (SpA.size h1).le (by simp only [Lg.mz]; omega), fun z => (nomatch z), fun z => (nomatch z)⟩ (by omega)
  | room r =>
    refine seqN (tI2 (x := Str.ofString "room") rfl (by decide +kernel)) (seqN (tI1 (x := Str.ofString "room") rfl (by decide +kernel)) (seqN (tI1 (x := Str.ofString "room") rfl (by decide +kernel)) ?_))
    simp only [Lg.mz] at hm
    refine sp_gen (fm := fm) (ar := ar) (k := k) (as := [.inl r]) he hp (by simp) (fun a ma => by
      simp only [List.mem_cons, List.not_mem_nil, or_false] at ma
      subst ma
      exact ⟨ho.2, .inr ho.1, by omega⟩) (by omega) fun rs n' s' hr hn' es => ?_
    obtain ⟨r', rfl, t, rfl, h1, h2⟩ := all2_1 hr
    subst es
    exact q (.room t) s'.n ⟨fun z => (nomatch z), fun _ => (SpR.room h1).le (by simp only [Lg.mz]; omega), fun z => (nomatch z)⟩ (by omega)
  | div a i =>
    refine seqN (tI2 (x := Str.ofString "div") rfl (by decide +kernel)) (seqN (tI1 (x := Str.ofString "div") rfl (by decide +kernel)) (seqN (tI1 (x := Str.ofString "div") rfl (by decide +kernel)) ?_))
    simp only [Lg.mz] at hm
    refine sp_gen (fm := fm) (ar := ar) (k := k) (as := [.inl a, .inr i]) he hp (by simp) (fun a ma => by
      simp only [List.mem_cons, List.not_mem_nil, or_false] at ma
      rcases ma with rfl | rfl
      · exact ⟨ho.1.2, .inr ho.1.1, by omega⟩
      · exact trivial) (by omega) fun rs n' s' hr hn' es => ?_
    obtain ⟨r', i', rfl, ⟨t, rfl, h1, h2⟩, rfl⟩ := all2_2 hr
    subst es
    exact q (.div t i) s'.n ⟨fun _ => (SpA.div h1).le (by simp only [Lg.mz]; omega), fun z => (nomatch z), fun z => (nomatch z)⟩ (by omega)
  | mod a i =>
    refine seqN (tI2 (x := Str.ofString "mod") rfl (by decide +kernel)) (seqN (tI1 (x := Str.ofString "mod") rfl (by decide +kernel)) (seqN (tI1 (x := Str.ofString "mod") rfl (by decide +kernel)) ?_))
    simp only [Lg.mz] at hm
    refine sp_gen (fm := fm) (ar := ar) (k := k) (as := [.inl a, .inr i]) he hp (by simp) (fun a ma => by
      simp only [List.mem_cons, List.not_mem_nil, or_false] at ma
      rcases ma with rfl | rfl
      · exact ⟨ho.1.2, .inr ho.1.1, by omega⟩
      · exact trivial) (by omega) fun rs n' s' hr hn' es => ?_
    obtain ⟨r', i', rfl, ⟨t, rfl, h1, h2⟩, rfl⟩ := all2_2 hr
    subst es
    exact q (.mod t i) s'.n ⟨fun _ => (SpA.mod h1).le (by simp only [Lg.mz]; omega), fun z => (nomatch z), fun z => (nomatch z)⟩ (by omega)
  | read r a =>
    refine seqN (tI2 (x := Str.ofString "read") rfl (by decide +kernel)) (seqN (tI1 (x := Str.ofString "read") rfl (by decide +kernel)) (seqN (tI1 (x := Str.ofString "read") rfl (by decide +kernel)) ?_))
    simp only [Lg.mz] at hm
    refine sp_gen (fm := fm) (ar := ar) (k := k) (as := [.inl r, .inl a]) he hp (by simp) (fun a ma => by
      simp only [List.mem_cons, List.not_mem_nil, or_false] at ma
      rcases ma with rfl | rfl
      · exact ⟨ho.1.2, .inl ho.1.1, by omega⟩
      · exact ⟨ho.2.2, .inr ho.2.1, by omega⟩) (by omega) fun rs n' s' hr hn' es => ?_
    obtain ⟨r1, r2, rfl, ⟨t, rfl, h1, _⟩, ⟨t2, rfl, h2, _⟩⟩ := all2_2 hr
    subst es
    refine q (.read t t2) s'.n ⟨fun _ => ?_, fun z => (nomatch z), fun z => (nomatch z)⟩ (by omega)
    exact (SpA.read (h1.le (c' := max (r.mz ar) (a.mz ar) + 1) (by omega)) (h2.le (by omega))).le (by simp only [Lg.mz]; omega)
  | wth r a b =>
    refine seqN (tI2 (x := Str.ofString "with") rfl (by decide +kernel)) (seqN (tI1 (x := Str.ofString "with") rfl (by decide +kernel)) (seqN (tI1 (x := Str.ofString "with") rfl (by decide +kernel)) ?_))
    simp only [Lg.mz] at hm
    refine sp_gen (fm := fm) (ar := ar) (k := k) (as := [.inl r, .inl a, .inl b]) he hp (by simp) (fun a ma => by
      simp only [List.mem_cons, List.not_mem_nil, or_false] at ma
      rcases ma with rfl | rfl | rfl
      · exact ⟨ho.1.2, .inl ho.1.1, by omega⟩
      · exact ⟨ho.2.1.2, .inr ho.2.1.1, by omega⟩
      · exact ⟨ho.2.2.2, .inr ho.2.2.1, by omega⟩) (by omega) fun rs n' s' hr hn' es => ?_
    obtain ⟨r1, r2, r3, rfl, ⟨t, rfl, h1, _⟩, ⟨t2, rfl, h2, _⟩, ⟨t3, rfl, h3, _⟩⟩ := all2_3 hr
    subst es
    refine q (.wth t t2 t3) s'.n ⟨fun z => (nomatch z), fun _ => ?_, fun z => (nomatch z)⟩ (by omega)
    exact (SpR.wth (h1.le (c' := max (r.mz ar) (max (a.mz ar) (b.mz ar)) + 1) (by omega)) (h2.le (by omega)) (h3.le (by omega))).le (by simp only [Lg.mz]; omega)
  | ntn f ps =>
    obtain ⟨hf, hpl2, hn10, hok⟩ := ho
    refine seqN (tI2 (x := Str.ofString "notion") rfl (by decide +kernel)) (seqN (tI1 (x := Str.ofString "notion") rfl (by decide +kernel)) (seqY (tI1 (x := Str.ofString "notion") rfl (by decide +kernel)) ?_))
    simp only [Lg.mz] at hm
    have hz := Lg.pls_mz (ar := ar) ps hpl2
    have hok2 := Lg.pls_ok ps hpl2 hok
    have hlen := Lg.pls_len ps hpl2
    have e1 : (Lg.ntn f ps).d = .tuple [wT "notion", f, .tuple (ps.pls.map Lg.d)] := by
      show PyData.tuple [_, f, ps.d] = _
      rw [Lg.pls_d ps hpl2]
    have e3 : (ps.pls.map Sum.inl).map ptD = ps.pls.map Lg.d := by
      rw [List.map_map]
      rfl
    have hb : (ps.pls.map (Sum.inl (β := Int))).length * 100 ^ k ≤ 10 * 100 ^ k := Nat.mul_le_mul_right _ (by rw [List.length_map]; omega)
    rw [e1]
    have key : ∀ h : List D, h = [wT "notion", f] → ((ps.pls.map Lg.d).length ≤ sizeLine ∧ lcD (sName 3) dYes (dCallP (spF k) (dCons (dV 1) (dCons (dV 3) dNil))) [3] (fun acc s2 => tupD [.list acc] fun z => addD (.tuple h) (.tuple [z]) fun z => Q z s2.n) (ps.pls.map Lg.d) [] { δ := [none, some (.list (pool.map Lg.d)), some (.tuple [wT "notion", f, .tuple (ps.pls.map Lg.d)]), none], n := m }) := by
      rintro h rfl
      refine ⟨Nat.le_trans (show (ps.pls.map Lg.d).length ≤ 10 by rw [List.length_map]; omega) (by decide), ?_⟩
      rw [← e3]
      refine lcPen (RelS fm ar) ptD (fun n => { δ := [none, some (.list (pool.map Lg.d)), some (.tuple [wT "notion", f, .tuple ((ps.pls.map Sum.inl).map ptD)]), none], n := n }) (100 ^ k) penLim (ps.pls.map Sum.inl) [] m (by omega) (fun a ma n hna N hN => ?_) fun rs n' hr hn' => ?_
      · obtain ⟨g, mg', rfl⟩ := List.mem_map.mp ma
        obtain ⟨h1, h2⟩ := hok2 g mg'
        have := hz g mg'
        exact ⟨e, pool, fm, ar, g, he, hp, rfl, npl h2, h1, by omega, hna, fun t n' ht hn' => hN _ n' (ht.rel h2) hn' _ rfl⟩
      · obtain ⟨tp, h1, h2⟩ := sp_pl ps rs hpl2 hr
        refine ⟨(show 3 ≤ sizeLine by decide), ?_⟩
        have := q (.ntn f tp) n' ⟨fun _ => (SpA.ntn hf hn10 h1).le (by simp only [Lg.mz]; omega), fun z => (nomatch z), fun z => (nomatch z)⟩ (by omega)
        have e4 : (Th.ntn f tp).d = .tuple [wT "notion", f, .tuple rs] := by
          show PyData.tuple [_, f, tp.d] = _
          rw [h2]
        rw [e4] at this
        exact this
    refine ix_ok 2 rfl rfl ?_
    exact key _ (cut_to2 _ _ _)
end

/-! ### a sum's parts -/
def insF (L : List Lf) (i : Nat) (l : Lf) : List Lf := L.take i ++ [l] ++ L.drop i
theorem wOf_app (P Q : List Pn) (j : Nat) : wOf (P ++ Q) j = wOf P j + wOf Q j := by
  unfold wOf
  rw [List.filter_append, List.map_append, List.sum_append]
theorem pL_app (A B : List Lf) : pL (A ++ B) = pL A ++ pL B := by
  unfold pL
  rw [List.filterMap_append]
theorem wOf_leaf (l : Lf) (j : Nat) : wOf (pL [l]) j = if l.k = some j then l.w else 0 := by
  unfold pL wOf
  cases h : l.k with
  | none => simp [h]
  | some i =>
    by_cases e : i = j
    · subst e
      simp [h]
    · simp [h, e]
/-- parts as they grow -/
structure LvI (m c : Nat) (fm : Nat → D) (L : List Lf) (W : Nat → Int) (N : Int) (b : Nat) : Prop where
  lf : ∀ l ∈ L, LfG m c fm l
  ws : ∀ j, wOf (pL L) j = W j
  ns : nsL L = N
  ln : L.length ≤ b
section
variable {m c : Nat} {fm : Nat → D} {L : List Lf} {W : Nat → Int} {N : Int} {b : Nat}
theorem LvI.to {W' : Nat → Int} {N' : Int} {b' : Nat} (h : LvI m c fm L W N b) (hw : ∀ j, W j = W' j) (hn : N = N') (hb : b ≤ b') : LvI m c fm L W' N' b' := ⟨h.lf, fun j => (h.ws j).trans (hw j), h.ns.trans hn, Nat.le_trans h.ln hb⟩
theorem LvI.ins {l : Lf} (h : LvI m c fm L W N b) (hl : LfG m c fm l) (i : Nat) : LvI m c fm (insF L i l) (fun j => W j + if l.k = some j then l.w else 0) (N + l.t.sm.nu l.w) (b + 1) := by
  have e : L = L.take i ++ L.drop i := (List.take_append_drop i L).symm
  refine ⟨fun x hx => ?_, fun j => ?_, ?_, ?_⟩
  · unfold insF at hx
    rcases List.mem_append.mp hx with hx | hx
    · rcases List.mem_append.mp hx with hx | hx
      · exact h.lf x (List.mem_of_mem_take hx)
      · rw [List.mem_singleton.mp hx]
        exact hl
    · exact h.lf x (List.mem_of_mem_drop hx)
  · have := h.ws j
    rw [e, pL_app, wOf_app] at this
    unfold insF
    rw [pL_app, pL_app, wOf_app, wOf_app, wOf_leaf]
    omega
  · have := h.ns
    unfold nsL at this ⊢
    rw [e, List.map_append, List.sum_append] at this
    unfold insF
    rw [List.map_append, List.map_append, List.sum_append, List.sum_append, List.map_cons, List.map_nil, List.sum_cons, List.sum_nil]
    omega
  · have := h.ln
    unfold insF
    simp only [List.length_append, List.length_take, List.length_drop, List.length_cons, List.length_nil]
    omega
end
theorem insF_d (L : List Lf) (i : Nat) (l : Lf) : insL (L.map Lf.d) i l.d = (insF L i l).map Lf.d := by
  unfold insL insF
  rw [List.map_append, List.map_append, List.map_take, List.map_drop]
  rfl
theorem insF_ne (L : List Lf) (i : Nat) (l : Lf) : insF L i l ≠ [] := by
  unfold insF
  simp
abbrev sv (pd sd : D) (L : List Lf) (a4 a5 a6 a7 a8 a9 a10 : Option D) (n : Nat) : S := { δ := [none, some pd, some sd, some (.list (L.map Lf.d)), a4, a5, a6, a7, a8, a9, a10], n := n }
theorem lvA {e k n : Nat} {pool : List Lg} {fm : Nat → D} {ar : Nat → Nat} {sd : D} {E : DEnds} {L : List Lf} {a5 a6 a8 a9 a10 : Option D} {x : Int} {kk : Nat} (he : e ≤ 3) (hp : PoolOk e pool fm ar) (hk : kk < pool.length) (ha : ar kk ≤ k) (hn : n + 1 + 100 ^ k ≤ penLim) (hL : L.length ≤ 1000)
    (q0 : x = 0 → E.nx (sv (.list (pool.map Lg.d)) sd L (some (.int (kk : Nat))) a5 a6 (some (.int x)) a8 a9 a10 n))
    (q1 : ∀ i t n', SpA (ar kk) (fm kk) t → n' ≤ n + 1 + 100 ^ k → E.nx (sv (.list (pool.map Lg.d)) sd (insF L i ⟨some kk, t, x⟩) (some (.int (kk : Nat))) a5 a6 (some (.int x)) a8 a9 a10 n')) :
    (dIfS (dBl (dOp neD (dV 7) (dC (PyData.int 0)))) (dDrop (dMt insM 3 (dCons (dCallP takeF (dCons (dOp addD (dCBM lenD 3) (dC (PyData.int 1))) dNil)) (dCons (dTup (dCons (dV 4) (dCons (dCallP (spF k) (dCons (dV 1) (dCons (dOp ixD (dV 1) (dV 4)) dNil))) (dCons (dV 7) dNil)))) dNil)))) dNext) E (sv (.list (pool.map Lg.d)) sd L (some (.int (kk : Nat))) a5 a6 (some (.int x)) a8 a9 a10 n) := by
  by_cases hx : x = 0
  · refine ifn ?_ (q0 hx)
    show ¬ (!decide (x = 0)) = true
    rw [decide_eq_true hx]
    decide
  · refine ifp ?_ ?_
    · show (!decide (x = 0)) = true
      rw [decide_eq_false hx]
      rfl
    refine ⟨⟨_, rfl⟩, ?_⟩
    have p100 : 1 ≤ 100 ^ k := Nat.one_le_pow _ _ (by decide)
    refine tk_ok (show n ≤ penLim by omega) (by rw [List.length_map]; omega) (by rw [List.length_map]; omega) fun r r0 r1 => ?_
    obtain ⟨h3, h4, h5, h6⟩ := hp.ok kk _ (List.getElem?_eq_getElem hk)
    refine ix_ok (d := (pool[kk]).d) kk rfl (by rw [List.getElem?_map, List.getElem?_eq_getElem hk]; rfl) ?_
    refine ⟨e, pool, fm, ar, pool[kk], he, hp, rfl, ?_, Lg.ok_mono (Nat.le_of_lt hk) _ h4, by omega, by show n + 1 + _ ≤ _; omega, fun t n' ht hn' => ?_⟩
    · cases eg : pool[kk] <;> first | rfl | (rw [eg] at h3; cases h3)
    have hn' : n' ≤ n + 1 + 100 ^ k := hn'
    refine ⟨by rw [List.length_map]; exact Nat.lt_of_le_of_lt hL (by decide), r0, by rw [List.length_map] at r1; omega, ?_⟩
    have := q1 r.toNat t n' (by rw [h6, h5]; exact ht.a h3) hn'
    have e1 := insF_d L r.toNat ⟨some kk, t, x⟩
    unfold sv at this
    rw [← e1] at this
    exact this
theorem for2n {i : Nat} {it : DI} {b : DSt} {E : DEnds} {s : S} {x y : D} (h : ∀ Q : List D → S → Prop, Q [x, y] s → it s Q)
    (k : b { E with nx := fun s1 => b { E with nx := E.nx, ct := E.nx, bk := E.nx } { s1 with δ := s1.δ.set i (some y) }, ct := fun s1 => b { E with nx := E.nx, ct := E.nx, bk := E.nx } { s1 with δ := s1.δ.set i (some y) }, bk := E.nx } { s with δ := s.δ.set i (some x) }) : dFor it (sName i) b E s := h _ k
theorem ifsT {t : DB} {a b : DSt} {E : DEnds} {s : S} (h : Tst t s true) (k : a E s) : dIfS t a b E s := h _ (ifp rfl k)
theorem ifsF {t : DB} {a b : DSt} {E : DEnds} {s : S} (h : Tst t s false) (k : b E s) : dIfS t a b E s := h _ (ifn Bool.false_ne_true k)
theorem lvB {n : Nat} {pool : List Lg} {sd : D} {E : DEnds} {L : List Lf} {a4 a5 a6 a9 a10 : Option D} {x : Int} {j : Nat} {y : D} (hj : pool[j]? = some (.name y)) (hn : n ≤ penLim) (hL : L.length ≤ 1000)
    (q : ∀ i n', n' ≤ n + 1 → E.nx (sv (.list (pool.map Lg.d)) sd (insF L i ⟨some j, .name y, x⟩) a4 a5 a6 (some (.int x)) (some (.int (j : Nat))) a9 a10 n')) :
    (dDrop (dMt insM 3 (dCons (dCallP takeF (dCons (dOp addD (dCBM lenD 3) (dC (PyData.int 1))) dNil)) (dCons (dTup (dCons (dV 8) (dCons (dOp ixD (dV 1) (dV 8)) (dCons (dV 7) dNil)))) dNil)))) E (sv (.list (pool.map Lg.d)) sd L a4 a5 a6 (some (.int x)) (some (.int (j : Nat))) a9 a10 n) := by
  refine ⟨⟨_, rfl⟩, ?_⟩
  refine tk_ok hn (by rw [List.length_map]; omega) (by rw [List.length_map]; omega) fun r r0 r1 => ?_
  refine ix_ok (d := (Th.name y).d) j rfl (by rw [List.getElem?_map, hj]; rfl) ?_
  refine ⟨by rw [List.length_map]; exact Nat.lt_of_le_of_lt hL (by decide), r0, by rw [List.length_map] at r1; omega, ?_⟩
  have := q r.toNat (n + 1) (Nat.le_refl _)
  have e1 := insF_d L r.toNat ⟨some j, .name y, x⟩
  unfold sv at this
  rw [← e1] at this
  exact this
theorem lvC {n : Nat} {pd sd : D} {E : DEnds} {L : List Lf} {a4 a5 a6 a7 a8 a10 : Option D} {x : Int} (hn : n + 2 ≤ penLim) (hx : x.natAbs < 2 ^ 90) (hL : L.length ≤ 1000)
    (q0 : x = 0 → L ≠ [] → E.nx (sv pd sd L a4 a5 a6 a7 a8 (some (.int x)) a10 n))
    (q1 : ∀ (i : Nat) (sg : Int) n' b10, (sg = 1 ∨ sg = -1) → n' ≤ n + 2 → E.nx (sv pd sd (insF L i ⟨none, .num (sg * x), sg⟩) a4 a5 a6 a7 a8 (some (.int x)) b10 n')) :
    (dIfS (dOr (dBl (dOp neD (dV 9) (dC (PyData.int 0)))) (dBl (dOpM eqNilD 3 (dLst dNil)))) (dCut (dSet 10 (dOp ixD (dLst (dCons (dC (PyData.int 1)) (dCons (dC (PyData.int 1)) (dCons (dC (PyData.int 1)) (dCons (dNeg (dC (PyData.int 1))) dNil))))) (dCallP takeF (dCons (dC (PyData.int 4)) dNil))))
      (dDrop (dMt insM 3 (dCons (dCallP takeF (dCons (dOp addD (dCBM lenD 3) (dC (PyData.int 1))) dNil)) (dCons (dTup (dCons (dNeg (dC (PyData.int 1))) (dCons (dTup (dCons (dC (PyData.str (Str.ofString "num"))) (dCons (dOp mulD (dV 10) (dV 9)) dNil))) (dCons (dV 10) dNil)))) dNil))))) dNext) E (sv pd sd L a4 a5 a6 a7 a8 (some (.int x)) a10 n) := by
  have main : (dCut (dSet 10 (dOp ixD (dLst (dCons (dC (PyData.int 1)) (dCons (dC (PyData.int 1)) (dCons (dC (PyData.int 1)) (dCons (dNeg (dC (PyData.int 1))) dNil))))) (dCallP takeF (dCons (dC (PyData.int 4)) dNil))))
      (dDrop (dMt insM 3 (dCons (dCallP takeF (dCons (dOp addD (dCBM lenD 3) (dC (PyData.int 1))) dNil)) (dCons (dTup (dCons (dNeg (dC (PyData.int 1))) (dCons (dTup (dCons (dC (PyData.str (Str.ofString "num"))) (dCons (dOp mulD (dV 10) (dV 9)) dNil))) (dCons (dV 10) dNil)))) dNil))))) E (sv pd sd L a4 a5 a6 a7 a8 (some (.int x)) a10 n) := by
    refine ⟨fun s' => ∃ sg : Int, (sg = 1 ∨ sg = -1) ∧ s' = sv pd sd L a4 a5 a6 a7 a8 (some (.int x)) (some (.int sg)) (n + 1), ?_, ?_⟩
    · refine tk_ok (show n ≤ penLim by omega) (by decide) (by decide) fun r r0 r1 => ?_
      have hr : r = 0 ∨ r = 1 ∨ r = 2 ∨ r = 3 := by omega
      rcases hr with rfl | rfl | rfl | rfl
      · exact ix_ok 0 rfl rfl ⟨1, .inl rfl, rfl⟩
      · exact ix_ok 1 rfl rfl ⟨1, .inl rfl, rfl⟩
      · exact ix_ok 2 rfl rfl ⟨1, .inl rfl, rfl⟩
      · exact ix_ok 3 rfl rfl ⟨-1, .inr rfl, rfl⟩
    · rintro s' ⟨sg, hsg, rfl⟩
      refine ⟨⟨_, rfl⟩, ?_⟩
      refine tk_ok (show n + 1 ≤ penLim by omega) (by rw [List.length_map]; omega) (by rw [List.length_map]; omega) fun r r0 r1 => ?_
      refine ⟨mulOk (lt2000 (Nat.lt_of_le_of_lt (show sg.natAbs ≤ 1 by omega) (by decide))) (Nat.lt_trans hx (show 2 ^ 90 < 2 ^ 2000 from Nat.pow_lt_pow_right (by decide) (by decide))), ?_⟩
      refine ⟨by rw [List.length_map]; exact Nat.lt_of_le_of_lt hL (by decide), r0, by rw [List.length_map] at r1; omega, ?_⟩
      have := q1 r.toNat sg (n + 1 + 1) (some (.int sg)) hsg (by omega)
      have e1 := insF_d L r.toNat ⟨none, .num (sg * x), sg⟩
      unfold sv at this
      rw [← e1] at this
      exact this
  by_cases h0 : x = 0
  · by_cases hL0 : L = []
    · refine ifsT (tst_or (x := false) (y := true) (fun Q q => ?_) (fun _ Q q => ?_)) main
      · show Q (!decide (x = 0)) _
        rw [decide_eq_true h0]
        exact q
      · subst hL0
        exact ⟨⟨_, rfl⟩, q⟩
    · refine ifsF (tst_or (x := false) (y := false) (fun Q q => ?_) (fun _ Q q => ?_)) (q0 h0 hL0)
      · show Q (!decide (x = 0)) _
        rw [decide_eq_true h0]
        exact q
      · refine ⟨⟨_, rfl⟩, ?_⟩
        cases L with
        | nil => exact absurd rfl hL0
        | cons _ _ => exact q
  · refine ifsT (tst_or (x := true) (y := true) (fun Q q => ?_) (fun z => nomatch z)) main
    show Q (!decide (x = 0)) _
    rw [decide_eq_false h0]
    exact q
theorem forD1 {i : Nat} {b : DSt} {E : DEnds} {s : S} {x : D} (k : b { E with nx := E.nx, ct := E.nx, bk := E.nx } { s with δ := s.δ.set i (some x) }) : forD (sName i) b E [x] s := k
theorem forD2 {i : Nat} {b : DSt} {E : DEnds} {s : S} {x y : D} (k : b { E with nx := fun s1 => b { E with nx := E.nx, ct := E.nx, bk := E.nx } { s1 with δ := s1.δ.set i (some y) }, ct := fun s1 => b { E with nx := E.nx, ct := E.nx, bk := E.nx } { s1 with δ := s1.δ.set i (some y) }, bk := E.nx } { s with δ := s.δ.set i (some x) }) : forD (sName i) b E [x, y] s := k
theorem psW_snoc (ps : List (Nat × Int)) (p : Nat × Int) (j : Nat) : psW (ps ++ [p]) j = psW ps j + if p.1 = j then p.2 else 0 := by
  unfold psW
  rw [List.filter_append, List.map_append, List.sum_append]
  by_cases h : p.1 = j
  · simp [h]
  · simp [h]
theorem at_word {g : Lg} (h : g.isAt = true) : ∃ w r, g.d = .tuple (.str w :: r) := by
  cases g <;> first | (cases h; done) | exact ⟨_, _, rfl⟩
theorem ok_s_leaves {P : Program} {w : World} {K : PySem.W.Frag} {mg : Str → Option Value} {base : Heap} (T : Tx K mg) (k : Nat) (O__law_take : Ok P w K mg base 2 "_law_take" ["_law_pen", "_law_many"] (spP K 1 .E takeF)) (O__law_s_spelt : Ok P w K mg base (k + 16) "_law_s_spelt" ["_law_pen", "_law_pool", "_law_thing"] (spP K 2 .E (spF k))) :
    Ok P w K mg base (k + 17) "_law_s_leaves" ["_law_pen", "_law_pool", "_law_made_of"] (spP K 2 .F (lvF (k + 1))) := by
  refine Ok.ofP (M := [3]) T.d__law_s_leaves sc__law_s_leaves rfl (by decide) (by decide) fun f cdv A outer s H E p c hr => ⟨_, _, (pss_cons (ps_set (i := 3) sc__law_s_leaves.nd rfl (Or.inl rfl) (pe_lst (pa_nil)))
 (pss_cons (ps_for PassesOwn.never rfl (piL K rfl (pe_ix (ixG K rfl (u65 hr.toRoom)) (pv 2) (pe_int) (fun _ _ => rfl))) (pgT K rfl 2 rfl (pgs_cons (pg_nameL (i := 4) sc__law_s_leaves.nd rfl rfl) (pgs_cons (pg_nameL (i := 5) sc__law_s_leaves.nd rfl rfl) (pgs_nil))))
 (pss_cons (ps_set (i := 6) sc__law_s_leaves.nd rfl (Or.inl rfl) (pe_op mulG (pe_ix (ixG K rfl (u65 hr.toRoom)) (pe_lst (pa_cons (pe_int) (pa_cons (pe_int) (pa_cons (pe_int) (pa_cons (pe_un un_neg (pe_int)) (pa_nil)))))) (pe_fn O__law_take (hr.mono (by omega)) (by rfl) (pa_cons (pv 0) (pa_cons (pe_int) (pa_nil)))) (fun _ _ => rfl)) (pe_callTy call_int1 (by rfl) T.z_int boot_int (pa_cons (pe_cmpR (eqG K rfl hr.units) (pe_ix (ixG K rfl (u65 hr.toRoom)) (pe_ix (ixG K rfl (u65 hr.toRoom)) (pv 1) (pv 4) (fun _ _ => rfl)) (pe_int) (fun _ _ => rfl)) (pe_str) (nomark _)) (pa_nil)))))
 (pss_one (ps_for PassesOwn.never rfl (piL K rfl (pe_lst (pa_cons (pv 6) (pa_cons (pe_op op_sub (pv 5) (pv 6)) (pa_nil))))) (pg_nameL (i := 7) sc__law_s_leaves.nd rfl rfl)
 (pss_one (ps_if (pt_cmpR (neG K rfl hr.units) (pv 7) (pe_int) (nomark _))
 (pss_one (ps_expr (pe_bm PySem.F.plainAttrs_list PySem.F.slot_list_insert PySem.F.type_list_insert mt_insert (pv 3) (pa_cons (pe_fn O__law_take (hr.mono (by omega)) (by rfl) (pa_cons (pv 0) (pa_cons (pe_op (addG K rfl) (pe_callB (lenG K rfl) (by rfl) T.z_len boot_len (pa_cons (pv 3) pa_nil)) (pe_int)) (pa_nil)))) (pa_cons (pe_tupZ (pa_cons (pv 4) (pa_cons (pe_fn O__law_s_spelt (hr.mono (by omega)) (by rfl) (pa_cons (pv 0) (pa_cons (pv 1) (pa_cons (pe_ix (ixG K rfl (u65 hr.toRoom)) (pv 1) (pv 4) (fun _ _ => rfl)) (pa_nil))))) (pa_cons (pv 7) (pa_nil))))) (pa_nil))))))
 (pss_nil)))))))
 (pss_cons (ps_if (pt_cmpR (eqG K rfl hr.units) (pe_fn O__law_take (hr.mono (by omega)) (by rfl) (pa_cons (pv 0) (pa_cons (pe_int) (pa_nil)))) (pe_int) (nomark _))
 (pss_cons (ps_set (i := 8) sc__law_s_leaves.nd rfl (Or.inl rfl) (pe_fn O__law_take (hr.mono (by omega)) (by rfl) (pa_cons (pv 0) (pa_cons (pe_int) (pa_nil)))))
 (pss_one (ps_for PassesOwn.never rfl (piL K rfl (pe_ix (ixG K rfl (u65 hr.toRoom)) (pe_lst (pa_cons (pe_lst (pa_cons (pe_int) (pa_nil))) (pa_cons (pe_lst (pa_cons (pe_int) (pa_cons (pe_un un_neg (pe_int)) (pa_nil)))) (pa_cons (pe_lst (pa_cons (pe_un un_neg (pe_int)) (pa_cons (pe_int) (pa_nil)))) (pa_nil))))) (pe_fn O__law_take (hr.mono (by omega)) (by rfl) (pa_cons (pv 0) (pa_cons (pe_int) (pa_nil)))) (fun _ _ => rfl))) (pg_nameL (i := 7) sc__law_s_leaves.nd rfl rfl)
 (pss_one (ps_expr (pe_bm PySem.F.plainAttrs_list PySem.F.slot_list_insert PySem.F.type_list_insert mt_insert (pv 3) (pa_cons (pe_fn O__law_take (hr.mono (by omega)) (by rfl) (pa_cons (pv 0) (pa_cons (pe_op (addG K rfl) (pe_callB (lenG K rfl) (by rfl) T.z_len boot_len (pa_cons (pv 3) pa_nil)) (pe_int)) (pa_nil)))) (pa_cons (pe_tupZ (pa_cons (pv 8) (pa_cons (pe_ix (ixG K rfl (u65 hr.toRoom)) (pv 1) (pv 8) (fun _ _ => rfl)) (pa_cons (pv 7) (pa_nil))))) (pa_nil)))))))))
 (pss_nil))
 (pss_cons (ps_set (i := 6) sc__law_s_leaves.nd rfl (Or.inl rfl) (pe_ix (ixG K rfl (u65 hr.toRoom)) (pe_lst (pa_cons (pe_int) (pa_cons (pe_int) (pa_cons (pe_int) (pa_cons (pe_int) (pa_nil)))))) (pe_fn O__law_take (hr.mono (by omega)) (by rfl) (pa_cons (pv 0) (pa_cons (pe_int) (pa_nil)))) (fun _ _ => rfl)))
 (pss_cons (ps_for PassesOwn.never rfl (piL K rfl (pe_lst (pa_cons (pv 6) (pa_cons (pe_op op_sub (pe_ix (ixG K rfl (u65 hr.toRoom)) (pv 2) (pe_int) (fun _ _ => rfl)) (pv 6)) (pa_nil))))) (pg_nameL (i := 9) sc__law_s_leaves.nd rfl rfl)
 (pss_one (ps_if (PW.pt (pw_or (pt_cmpR (neG K rfl hr.units) (pv 9) (pe_int) (nomark _)) (pw_or1 (pt_cmpR (eqNilG K rfl hr.units) (pv 3) (pe_lst (pa_nil)) (nomark _)))))
 (pss_cons (ps_set (i := 10) sc__law_s_leaves.nd rfl (Or.inl rfl) (pe_ix (ixG K rfl (u65 hr.toRoom)) (pe_lst (pa_cons (pe_int) (pa_cons (pe_int) (pa_cons (pe_int) (pa_cons (pe_un un_neg (pe_int)) (pa_nil)))))) (pe_fn O__law_take (hr.mono (by omega)) (by rfl) (pa_cons (pv 0) (pa_cons (pe_int) (pa_nil)))) (fun _ _ => rfl)))
 (pss_one (ps_expr (pe_bm PySem.F.plainAttrs_list PySem.F.slot_list_insert PySem.F.type_list_insert mt_insert (pv 3) (pa_cons (pe_fn O__law_take (hr.mono (by omega)) (by rfl) (pa_cons (pv 0) (pa_cons (pe_op (addG K rfl) (pe_callB (lenG K rfl) (by rfl) T.z_len boot_len (pa_cons (pv 3) pa_nil)) (pe_int)) (pa_nil)))) (pa_cons (pe_tupZ (pa_cons (pe_un un_neg (pe_int)) (pa_cons (pe_tupZ (pa_cons (pe_str) (pa_cons (pe_op mulG (pv 10) (pv 9)) (pa_nil)))) (pa_cons (pv 10) (pa_nil))))) (pa_nil)))))))
 (pss_nil))))
 (pss_one (ps_ret (pv 3)))))))),
 (simS_seq (simS_setM 3 (ym rfl) (nb rfl) (sim_lst (by decide) (simA_nil)))
 (simS_cut (simS_for (simI_list (opA_ix (sim_var 2 (nm rfl)) (sim_int _))) (simG_tup (simGs_cons (simG_name 4 (nm rfl) (np rfl)) (simGs_cons (simG_name 5 (nm rfl) (np rfl)) (simGs_nil))))
 (simS_cut (simS_set 6 (nm rfl) (np rfl) (sim_op opA_mul (opA_ix (sim_lst (by decide) (simA_cons (sim_int _) (simA_cons (sim_int _) (simA_cons (sim_int _) (simA_cons (sim_neg (sim_int _)) (simA_nil)))))) (sim_callP (by simp) rfl (simA_cons (sim_int _) (simA_nil)))) (sim_cb caA_int (simA_cons (sim_op opA_eq (opA_ix (opA_ix (sim_var 1 (nm rfl)) (sim_var 4 (nm rfl))) (sim_int _)) (sim_str _)) (simA_nil)))))
 (simS_for (simI_list (sim_lst (by decide) (simA_cons (sim_var 6 (nm rfl)) (simA_cons (sim_op opA_sub (sim_var 5 (nm rfl)) (sim_var 6 (nm rfl))) (simA_nil))))) (simG_name 7 (nm rfl) (np rfl))
 (simS_if (simT_test (sim_op opA_ne (sim_var 7 (nm rfl)) (sim_int _)))
 (simS_drop (sim_mt 3 (ym rfl) mtA_ins (simA_cons (sim_callP (by simp) rfl (simA_cons (sim_op opA_add (sim_cbM 3 (ym rfl) caA_len) (sim_int _)) (simA_nil))) (simA_cons (sim_tup (by decide) (simA_cons (sim_var 4 (nm rfl)) (simA_cons (sim_callP (by simp) rfl (simA_cons (sim_var 1 (nm rfl)) (simA_cons (opA_ix (sim_var 1 (nm rfl)) (sim_var 4 (nm rfl))) (simA_nil)))) (simA_cons (sim_var 7 (nm rfl)) (simA_nil))))) (simA_nil)))))
 (simS_next)))))
 (simS_cut (simS_if (simT_test (sim_op opA_eq (sim_callP (by simp) rfl (simA_cons (sim_int _) (simA_nil))) (sim_int _)))
 (simS_seq (simS_set 8 (nm rfl) (np rfl) (sim_callP (by simp) rfl (simA_cons (sim_int _) (simA_nil))))
 (simS_for (simI_list (opA_ix (sim_lst (by decide) (simA_cons (sim_lst (by decide) (simA_cons (sim_int _) (simA_nil))) (simA_cons (sim_lst (by decide) (simA_cons (sim_int _) (simA_cons (sim_neg (sim_int _)) (simA_nil)))) (simA_cons (sim_lst (by decide) (simA_cons (sim_neg (sim_int _)) (simA_cons (sim_int _) (simA_nil)))) (simA_nil))))) (sim_callP (by simp) rfl (simA_cons (sim_int _) (simA_nil))))) (simG_name 7 (nm rfl) (np rfl))
 (simS_drop (sim_mt 3 (ym rfl) mtA_ins (simA_cons (sim_callP (by simp) rfl (simA_cons (sim_op opA_add (sim_cbM 3 (ym rfl) caA_len) (sim_int _)) (simA_nil))) (simA_cons (sim_tup (by decide) (simA_cons (sim_var 8 (nm rfl)) (simA_cons (opA_ix (sim_var 1 (nm rfl)) (sim_var 8 (nm rfl))) (simA_cons (sim_var 7 (nm rfl)) (simA_nil))))) (simA_nil)))))))
 (simS_next))
 (simS_cut (simS_set 6 (nm rfl) (np rfl) (opA_ix (sim_lst (by decide) (simA_cons (sim_int _) (simA_cons (sim_int _) (simA_cons (sim_int _) (simA_cons (sim_int _) (simA_nil)))))) (sim_callP (by simp) rfl (simA_cons (sim_int _) (simA_nil)))))
 (simS_cut (simS_for (simI_list (sim_lst (by decide) (simA_cons (sim_var 6 (nm rfl)) (simA_cons (sim_op opA_sub (opA_ix (sim_var 2 (nm rfl)) (sim_int _)) (sim_var 6 (nm rfl))) (simA_nil))))) (simG_name 9 (nm rfl) (np rfl))
 (simS_if (simT_or (simT_test (sim_op opA_ne (sim_var 9 (nm rfl)) (sim_int _))) (simT_test (sim_opM 3 (ym rfl) opA_eqNil (sim_lst (by decide) (simA_nil)))))
 (simS_cut (simS_set 10 (nm rfl) (np rfl) (opA_ix (sim_lst (by decide) (simA_cons (sim_int _) (simA_cons (sim_int _) (simA_cons (sim_int _) (simA_cons (sim_neg (sim_int _)) (simA_nil)))))) (sim_callP (by simp) rfl (simA_cons (sim_int _) (simA_nil)))))
 (simS_drop (sim_mt 3 (ym rfl) mtA_ins (simA_cons (sim_callP (by simp) rfl (simA_cons (sim_op opA_add (sim_cbM 3 (ym rfl) caA_len) (sim_int _)) (simA_nil))) (simA_cons (sim_tup (by decide) (simA_cons (sim_neg (sim_int _)) (simA_cons (sim_tup (by decide) (simA_cons (sim_str _) (simA_cons (sim_op opA_mul (sim_var 10 (nm rfl)) (sim_var 9 (nm rfl))) (simA_nil)))) (simA_cons (sim_var 10 (nm rfl)) (simA_nil))))) (simA_nil))))))
 (simS_next)))
 (simS_retM 3 (ym rfl) (nb rfl))))))), ?_⟩
  rintro ds m Q hl ⟨e, pool, fm, ar, ps, i, he, hp, rfl, hs, hm, hn, q⟩
  have e100 : 100 ^ (k + 1) = 100 * 100 ^ k := by rw [Nat.pow_succ, Nat.mul_comm]
  have p100 : 1 ≤ 100 ^ k := Nat.one_le_pow _ _ (by decide)
  generalize ec : lmax (ps.map fun p => ar p.1) + 1 = c at *
  have hln := hs.ln
  have l4 := hp.l4
  have hmul : ∀ idx, idx ≤ 4 → idx * (3 + 2 * 100 ^ k) ≤ 4 * (3 + 2 * 100 ^ k) := fun idx h => Nat.mul_le_mul_right _ h
  have small4 : ∀ {v : Int}, v.natAbs ≤ 5 → v.natAbs < 2 ^ 2000 := fun h => lt2000 (Nat.lt_of_le_of_lt h (by decide))
  have lt90 : ∀ {v : Int}, v.natAbs ≤ 2 ^ 80 + 10 → v.natAbs < 2 ^ 90 := fun h => Nat.lt_of_le_of_lt h (by decide)
  refine ⟨rfl, ⟨fun s' => ∃ L n' a4 a5 a6 a7 a8 a9 a10, s' = sv (.list (pool.map Lg.d)) (Lg.sum ps i).d L a4 a5 a6 a7 a8 a9 a10 n' ∧ LvI pool.length c fm L (psW ps) 0 8 ∧ n' ≤ m + 4 * (3 + 2 * 100 ^ k), ?_, ?_⟩⟩
  · refine ix_ok 1 rfl rfl ?_
    refine forD_ind (fun idx s' => ∃ L n' a4 a5 a6 a7 a8 a9 a10, s' = sv (.list (pool.map Lg.d)) (Lg.sum ps i).d L a4 a5 a6 a7 a8 a9 a10 n' ∧ LvI pool.length c fm L (psW (ps.take idx)) 0 (2 * idx) ∧ n' ≤ m + idx * (3 + 2 * 100 ^ k)) ⟨[], m, _, _, _, _, _, _, _, rfl, ⟨fun _ h => (nomatch h), fun j => rfl, rfl, Nat.zero_le _⟩, by omega⟩ ?_ ?_
    · rintro idx d s' N hd ⟨L, n', a4, a5, a6, a7, a8, a9, a10, rfl, hI, hn'⟩ hN
      rw [List.getElem?_map] at hd
      cases ej : ps[idx]? with
      | none => rw [ej] at hd; cases hd
      | some p =>
        rw [ej] at hd
        cases hd
        have mp := List.mem_of_getElem? ej
        have hidx : idx < ps.length := (List.getElem?_eq_some_iff.mp ej).1
        obtain ⟨q1, q2, q3⟩ := hs.ms p mp
        have har : ar p.1 + 1 ≤ c := by
          have : ar p.1 ≤ lmax (ps.map fun p => ar p.1) := lmax_le (List.mem_map_of_mem mp)
          omega
        have hsn : (idx + 1) * (3 + 2 * 100 ^ k) = idx * (3 + 2 * 100 ^ k) + (3 + 2 * 100 ^ k) := Nat.succ_mul _ _
        have h4 := hmul (idx + 1) (by omega)
        obtain ⟨g1, g2, g3, g4⟩ := hp.ok p.1 _ (List.getElem?_eq_getElem q1)
        obtain ⟨wd, rs, ew⟩ := at_word g1
        refine ⟨rfl, ⟨fun s' => ∃ pt : Int, pt.natAbs ≤ 2 ∧ s' = sv (.list (pool.map Lg.d)) (Lg.sum ps i).d L (some (.int (p.1 : Nat))) (some (.int p.2)) (some (.int pt)) a7 a8 a9 a10 (n' + 1), ?_, ?_⟩⟩
        · refine tk_ok (show n' ≤ penLim by omega) (by decide) (by decide) fun r r0 r1 => ?_
          have step : ∀ v : Int, v.natAbs ≤ 2 → mulD (.int v) (.int (if decide (wd = Str.ofString "name") = true then 1 else 0)) fun z => ∃ pt : Int, pt.natAbs ≤ 2 ∧ ({ δ := [none, some (.list (pool.map Lg.d)), some (Lg.sum ps i).d, some (.list (L.map Lf.d)), some (.int (p.1 : Nat)), some (.int p.2), some z, a7, a8, a9, a10], n := n' + 1 } : S) = sv (.list (pool.map Lg.d)) (Lg.sum ps i).d L (some (.int (p.1 : Nat))) (some (.int p.2)) (some (.int pt)) a7 a8 a9 a10 (n' + 1) := fun v hv => by
            refine ⟨mulOk (small4 (by omega)) (small4 (by split <;> decide)), v * (if decide (wd = Str.ofString "name") = true then 1 else 0), ?_, rfl⟩
            split
            · rw [Int.mul_one]; exact hv
            · rw [Int.mul_zero]; decide
          have tail : ∀ v : Int, v.natAbs ≤ 2 → IxP (atI (pool.map Lg.d) (p.1 : Nat)) fun d => ixD d (.int 0) fun d => eqD d (.str (Str.ofString "name")) fun d => intD [d] fun d => mulD (.int v) d fun z => ∃ pt : Int, pt.natAbs ≤ 2 ∧ ({ δ := [none, some (.list (pool.map Lg.d)), some (Lg.sum ps i).d, some (.list (L.map Lf.d)), some (.int (p.1 : Nat)), some (.int p.2), some z, a7, a8, a9, a10], n := n' + 1 } : S) = sv (.list (pool.map Lg.d)) (Lg.sum ps i).d L (some (.int (p.1 : Nat))) (some (.int p.2)) (some (.int pt)) a7 a8 a9 a10 (n' + 1) := fun v hv => by
            refine ix_ok (d := .tuple (.str wd :: rs)) p.1 rfl (by rw [List.getElem?_map, List.getElem?_eq_getElem q1, ← ew]; rfl) ?_
            exact ix_ok 0 rfl rfl (step v hv)
          have hr : r = 0 ∨ r = 1 ∨ r = 2 ∨ r = 3 := by omega
          rcases hr with rfl | rfl | rfl | rfl
          · exact ix_ok 0 rfl rfl (tail 0 (by decide))
          · exact ix_ok 1 rfl rfl (tail 0 (by decide))
          · exact ix_ok 2 rfl rfl (tail 1 (by decide))
          · exact ix_ok 3 rfl rfl (tail (-2) (by decide))
        · rintro s' ⟨pt, hpt, rfl⟩
          have lf : ∀ {t : Th} {x : Int}, SpA (ar p.1) (fm p.1) t → x.natAbs < 2 ^ 90 → LfG pool.length c fm ⟨some p.1, t, x⟩ := fun ht hx => ⟨hx, .inl ⟨p.1, rfl, q1, ht.le (by omega)⟩⟩
          have nz : ∀ {t : Th} {x : Int}, SpA (ar p.1) (fm p.1) t → t.sm.nu x = 0 := fun {t x} ht => (at_facts ht.at_ x).2.2.1
          have hlen := hI.ln
          -- the second one
          have two : ∀ (M : List Lf) (n1 : Nat) (b7 : Option D), LvI pool.length c fm M (fun j => psW (ps.take idx) j + if p.1 = j then pt else 0) 0 (2 * idx + 1) → n1 ≤ n' + 1 + (1 + 100 ^ k) → ∀ E' : DEnds, E'.nx = N → (dIfS (dBl (dOp neD (dV 7) (dC (PyData.int 0)))) (dDrop (dMt insM 3 (dCons (dCallP takeF (dCons (dOp addD (dCBM lenD 3) (dC (PyData.int 1))) dNil)) (dCons (dTup (dCons (dV 4) (dCons (dCallP (spF k) (dCons (dV 1) (dCons (dOp ixD (dV 1) (dV 4)) dNil))) (dCons (dV 7) dNil)))) dNil)))) dNext) E' (sv (.list (pool.map Lg.d)) (Lg.sum ps i).d M (some (.int (p.1 : Nat))) (some (.int p.2)) (some (.int pt)) (some (.int (p.2 - pt))) a8 a9 a10 n1) := by
            intro M n1 b7 hM hn1 E' eE
            have hMl := hM.ln
            refine lvA he hp q1 (by omega) (by omega) (by omega) (fun x0 => ?_) (fun ii t n2 ht hn2 => ?_)
            · rw [eE]
              refine hN _ ⟨M, n1, _, _, _, _, _, _, _, rfl, hM.to (fun j => ?_) rfl (by omega), by omega⟩
              rw [List.take_add_one, ej]
              show _ = psW (ps.take idx ++ [p]) j
              rw [psW_snoc, show p.2 = pt by omega]
            · rw [eE]
              refine hN _ ⟨_, n2, _, _, _, _, _, _, _, rfl, (hM.ins (lf ht (lt90 (by omega))) ii).to (fun j => ?_) (by rw [nz ht]; rfl) (by omega), by omega⟩
              rw [List.take_add_one, ej]
              show _ = psW (ps.take idx ++ [p]) j
              rw [psW_snoc]
              by_cases e : p.1 = j
              · subst e
                simp
                omega
              · simp [e]
          refine for2n (x := .int pt) (y := .int (p.2 - pt)) (fun Q q => q) ?_
          dsimp only [List.set]
          refine lvA he hp q1 (by omega) (by omega) (by omega) (fun x0 => ?_) (fun ii t n2 ht hn2 => ?_)
          · refine two L (n' + 1) none (hI.to (fun j => by rw [x0]; simp) rfl (by omega)) (by omega) _ rfl
          · refine two _ n2 none ((hI.ins (lf ht (lt90 (by omega))) ii).to (fun j => ?_) (by rw [nz ht]; rfl) (by omega)) (by omega) _ rfl
            simp
    · rintro s' ⟨L, n', a4, a5, a6, a7, a8, a9, a10, rfl, hI, hn'⟩
      have h4 := hmul ps.length hln
      rw [List.length_map] at hI hn'
      rw [List.take_length] at hI
      exact ⟨L, n', a4, a5, a6, a7, a8, a9, a10, rfl, hI.to (fun _ => rfl) rfl (by omega), by omega⟩
  · rintro s' ⟨L, n', a4, a5, a6, a7, a8, a9, a10, rfl, hI, hn'⟩
    have hLl := hI.ln
    refine ⟨fun s' => ∃ L n' a4 a5 a6 a7 a8 a9 a10, s' = sv (.list (pool.map Lg.d)) (Lg.sum ps i).d L a4 a5 a6 a7 a8 a9 a10 n' ∧ LvI pool.length c fm L (psW ps) 0 10 ∧ n' ≤ m + 4 * (3 + 2 * 100 ^ k) + 6, ?_, ?_⟩
    · refine tk_ok (show n' ≤ penLim by omega) (by decide) (by decide) fun r r0 r1 => ?_
      by_cases hr : r = 0
      · refine ifp (decide_eq_true hr) ?_
        refine tk_ok (show n' + 1 ≤ penLim by omega) (by decide) (by decide) fun sp s0 s1 => ?_
        obtain ⟨j, rfl⟩ : ∃ j : Nat, sp = (j : Int) := ⟨sp.toNat, by omega⟩
        have hj4 : j < 4 := by omega
        obtain ⟨y, hy⟩ := hp.nm j hj4
        have hjp : j < pool.length := by omega
        obtain ⟨g1, g2, g3, g4⟩ := hp.ok j _ hy
        have lf : ∀ x : Int, x.natAbs ≤ 2 → LfG pool.length c fm ⟨some j, .name y, x⟩ := fun x hx => ⟨Nat.lt_of_le_of_lt hx (by decide), .inl ⟨j, rfl, hjp, by rw [g3]; exact (SpA.name g2).le (by omega)⟩⟩
        have one : ∀ (x : Int) (M : List Lf) (W : Nat → Int) (b n1 : Nat) (E' : DEnds) (a7 : Option D), x.natAbs ≤ 2 → LvI pool.length c fm M W 0 b → b ≤ 20 → n1 ≤ n' + 5 → (∀ M' n2, LvI pool.length c fm M' (fun jj => W jj + if j = jj then x else 0) 0 (b + 1) → n2 ≤ n1 + 1 → E'.nx (sv (.list (pool.map Lg.d)) (Lg.sum ps i).d M' a4 a5 a6 (some (.int x)) (some (.int (j : Nat))) a9 a10 n2)) →
            (dDrop (dMt insM 3 (dCons (dCallP takeF (dCons (dOp addD (dCBM lenD 3) (dC (PyData.int 1))) dNil)) (dCons (dTup (dCons (dV 8) (dCons (dOp ixD (dV 1) (dV 8)) (dCons (dV 7) dNil)))) dNil)))) E' (sv (.list (pool.map Lg.d)) (Lg.sum ps i).d M a4 a5 a6 (some (.int x)) (some (.int (j : Nat))) a9 a10 n1) := by
          intro x M W b n1 E' a7 hx hM hb hn1 q
          have hMl := hM.ln
          refine lvB hy (by omega) (by omega) fun ii n2 hn2 => q _ n2 ((hM.ins (lf x hx) ii).to (fun jj => ?_) rfl (Nat.le_refl _)) hn2
          by_cases e : j = jj
          · subst e
            simp
          · simp [e]
        refine tk_ok (show n' + 1 + 1 ≤ penLim by omega) (by decide) (by decide) fun r2 t0 t1 => ?_
        have hr2 : r2 = 0 ∨ r2 = 1 ∨ r2 = 2 := by omega
        have two : ∀ (x : Int), x.natAbs ≤ 2 → ∀ E' : DEnds, (E'.nx = fun s' => ∃ L n' a4 a5 a6 a7 a8 a9 a10, s' = sv (.list (pool.map Lg.d)) (Lg.sum ps i).d L a4 a5 a6 a7 a8 a9 a10 n' ∧ LvI pool.length c fm L (psW ps) 0 10 ∧ n' ≤ m + 4 * (3 + 2 * 100 ^ k) + 6) → ∀ s0, s0 = sv (.list (pool.map Lg.d)) (Lg.sum ps i).d L a4 a5 a6 a7 (some (.int (j : Nat))) a9 a10 (n' + 1 + 1 + 1) →
            forD (sName 7) (dDrop (dMt insM 3 (dCons (dCallP takeF (dCons (dOp addD (dCBM lenD 3) (dC (PyData.int 1))) dNil)) (dCons (dTup (dCons (dV 8) (dCons (dOp ixD (dV 1) (dV 8)) (dCons (dV 7) dNil)))) dNil)))) E' [.int x, .int (-x)] s0 := by
          rintro x hx E' eE s0 rfl
          refine forD2 ?_
          dsimp only [List.set]
          refine one x L (psW ps) 8 _ _ none hx hI (by omega) (by omega) fun M n2 hM hn2 => ?_
          dsimp only [List.set]
          refine one (-x) M _ 9 _ _ none (by omega) hM (by omega) (by omega) fun M2 n3 hM2 hn3 => ?_
          show E'.nx _
          rw [eE]
          refine ⟨M2, n3, _, _, _, _, _, _, _, rfl, hM2.to (fun jj => ?_) rfl (by omega), by omega⟩
          split <;> omega
        rcases hr2 with rfl | rfl | rfl
        · refine ix_ok 0 rfl rfl ?_
          show forD (sName 7) _ _ [PyData.int 0] _
          refine forD1 ?_
          dsimp only [List.set]
          refine one 0 L (psW ps) 8 _ _ none (by decide) hI (by omega) (by omega) fun M n2 hM hn2 => ?_
          exact ⟨M, n2, _, _, _, _, _, _, _, rfl, hM.to (fun jj => by simp) rfl (by omega), by omega⟩
        · refine ix_ok 1 rfl rfl ?_
          exact two 2 (by decide) _ rfl _ rfl
        · refine ix_ok 2 rfl rfl ?_
          exact two (-1) (by decide) _ rfl _ rfl
      · refine ifn (by rw [decide_eq_false hr]; decide) ?_
        exact ⟨L, n' + 1, a4, a5, a6, a7, a8, a9, a10, rfl, hI.to (fun _ => rfl) rfl (by omega), by omega⟩
    · rintro s' ⟨L, n', a4, a5, a6, a7, a8, a9, a10, rfl, hI, hn'⟩
      have hLl := hI.ln
      refine ⟨fun s' => ∃ pt : Int, pt.natAbs ≤ 5 ∧ s' = sv (.list (pool.map Lg.d)) (Lg.sum ps i).d L a4 a5 (some (.int pt)) a7 a8 a9 a10 (n' + 1), ?_, ?_⟩
      · refine tk_ok (show n' ≤ penLim by omega) (by decide) (by decide) fun r r0 r1 => ?_
        have hr : r = 0 ∨ r = 1 ∨ r = 2 ∨ r = 3 := by omega
        rcases hr with rfl | rfl | rfl | rfl
        · exact ix_ok 0 rfl rfl ⟨0, by decide, rfl⟩
        · exact ix_ok 1 rfl rfl ⟨0, by decide, rfl⟩
        · exact ix_ok 2 rfl rfl ⟨0, by decide, rfl⟩
        · exact ix_ok 3 rfl rfl ⟨5, by decide, rfl⟩
      rintro s' ⟨pt, hpt, rfl⟩
      refine ⟨fun s' => ∃ L n' a4 a5 a6 a7 a8 a9 a10, s' = sv (.list (pool.map Lg.d)) (Lg.sum ps i).d L a4 a5 a6 a7 a8 a9 a10 n' ∧ LvI pool.length c fm L (psW ps) i 12 ∧ L ≠ [] ∧ n' ≤ m + 4 * (3 + 2 * 100 ^ k) + 11, ?_, ?_⟩
      · have hi80 := hs.n
        have lf : ∀ (sg x : Int), (sg = 1 ∨ sg = -1) → x.natAbs < 2 ^ 90 → LfG pool.length c fm ⟨none, .num (sg * x), sg⟩ := fun sg x hsg hx => ⟨by show sg.natAbs < 2 ^ 90; exact Nat.lt_of_le_of_lt (show sg.natAbs ≤ 1 by omega) (by decide), .inr ⟨_, rfl, rfl, by
          rcases hsg with rfl | rfl
          · rw [Int.one_mul]; exact hx
          · rw [Int.neg_mul, Int.one_mul, Int.natAbs_neg]; exact hx⟩⟩
        have nu : ∀ (sg x : Int), (sg = 1 ∨ sg = -1) → (Th.num (sg * x)).sm.nu sg = x := fun sg x hsg => by
          show sg * (sg * x) = x
          rcases hsg with rfl | rfl
          · rw [Int.one_mul, Int.one_mul]
          · rw [Int.neg_mul, Int.one_mul, Int.neg_mul, Int.one_mul, Int.neg_neg]
        have x1 : pt.natAbs < 2 ^ 90 := lt90 (by omega)
        have x2 : (i - pt).natAbs < 2 ^ 90 := lt90 (by omega)
        refine for2n (x := .int pt) (y := .int (i - pt)) (fun Q q => ix_ok 2 rfl rfl q) ?_
        dsimp only [List.set]
        have two : ∀ (M : List Lf) (n1 : Nat) (b10 : Option D), LvI pool.length c fm M (psW ps) pt 11 → n1 ≤ n' + 3 → ∀ E' : DEnds, (E'.nx = fun s' => ∃ L n' a4 a5 a6 a7 a8 a9 a10, s' = sv (.list (pool.map Lg.d)) (Lg.sum ps i).d L a4 a5 a6 a7 a8 a9 a10 n' ∧ LvI pool.length c fm L (psW ps) i 12 ∧ L ≠ [] ∧ n' ≤ m + 4 * (3 + 2 * 100 ^ k) + 11) →
            (dIfS (dOr (dBl (dOp neD (dV 9) (dC (PyData.int 0)))) (dBl (dOpM eqNilD 3 (dLst dNil)))) (dCut (dSet 10 (dOp ixD (dLst (dCons (dC (PyData.int 1)) (dCons (dC (PyData.int 1)) (dCons (dC (PyData.int 1)) (dCons (dNeg (dC (PyData.int 1))) dNil))))) (dCallP takeF (dCons (dC (PyData.int 4)) dNil))))
              (dDrop (dMt insM 3 (dCons (dCallP takeF (dCons (dOp addD (dCBM lenD 3) (dC (PyData.int 1))) dNil)) (dCons (dTup (dCons (dNeg (dC (PyData.int 1))) (dCons (dTup (dCons (dC (PyData.str (Str.ofString "num"))) (dCons (dOp mulD (dV 10) (dV 9)) dNil))) (dCons (dV 10) dNil)))) dNil))))) dNext) E' (sv (.list (pool.map Lg.d)) (Lg.sum ps i).d M a4 a5 (some (.int pt)) a7 a8 (some (.int (i - pt))) b10 n1) := by
          intro M n1 b10 hM hn1 E' eE
          have hMl := hM.ln
          refine lvC (by omega) x2 (by omega) (fun x0 hne => ?_) (fun ii sg n2 b10 hsg hn2 => ?_)
          · rw [eE]
            exact ⟨M, n1, _, _, _, _, _, _, _, rfl, hM.to (fun _ => rfl) (by omega) (by omega), hne, by omega⟩
          · rw [eE]
            refine ⟨_, n2, _, _, _, _, _, _, _, rfl, (hM.ins (lf sg _ hsg x2) ii).to (fun j => by simp) ?_ (by omega), insF_ne _ _ _, by omega⟩
            show pt + (Th.num (sg * (i - pt))).sm.nu sg = i
            rw [nu sg _ hsg]
            omega
        refine lvC (by omega) x1 (by omega) (fun x0 hne => ?_) (fun ii sg n2 b10 hsg hn2 => ?_)
        · exact two L (n' + 1) _ (hI.to (fun _ => rfl) (by omega) (by omega)) (by omega) _ rfl
        · refine two _ n2 b10 ((hI.ins (lf sg _ hsg x1) ii).to (fun j => by simp) ?_ (by omega)) (by omega) _ rfl
          show 0 + (Th.num (sg * pt)).sm.nu sg = pt
          rw [nu sg _ hsg]
          omega
      · rintro s' ⟨L, n', a4, a5, a6, a7, a8, a9, a10, rfl, hI, hne, hn'⟩
        exact q L n' ⟨hne, hI.ln, hI.lf, hI.ws, hI.ns⟩ (by omega)
theorem ok_spelt_leaves {P : Program} {w : World} {K : PySem.W.Frag} {mg : Str → Option Value} {base : Heap} (T : Tx K mg) (O__law_take : Ok P w K mg base 2 "_law_take" ["_law_pen", "_law_many"] (spP K 1 .E takeF)) (O__law_s_tree : Ok P w K mg base 16 "_law_s_tree" ["_law_pen", "_law_leaves"] (spP K 1 .E (trF 14))) : ∀ k : Nat, Ok P w K mg base (k + 16) "_law_s_spelt" ["_law_pen", "_law_pool", "_law_thing"] (spP K 2 .E (spF k)) ∧ Ok P w K mg base (k + 16) "_law_s_leaves" ["_law_pen", "_law_pool", "_law_made_of"] (spP K 2 .F (lvF k))
  | 0 => ⟨(Ok.no T.d__law_s_spelt sc__law_s_spelt (spP_no fun ds n Q ⟨e, pool, fm, ar, g, _, _, _, hp, _, hm, _⟩ => by
      cases g <;> first | (simp only [Lg.mz] at hm; omega) | cases hp)).mono (by omega), (Ok.no T.d__law_s_leaves sc__law_s_leaves (spP_no fun ds n Q ⟨e, pool, fm, ar, ps, i, _, _, _, _, hm, _⟩ => by omega)).mono (by omega)⟩
  | k + 1 => by
    obtain ⟨h1, h2⟩ := ok_spelt_leaves T O__law_take O__law_s_tree k
    exact ⟨ok_s_spelt T k O__law_s_tree h1 h2, ok_s_leaves T k O__law_take h1⟩

/-! ### drawn names, numbers, weights -/
open TL (tl)
def kept3 : List Str := [Str.ofString "left", Str.ofString "given", Str.ofString "own"]
def fixN (z : Str) : Str := if z ∈ kept3 then z ++ Str.ofString "a" else z
def nmI (cs : List Nat) (j : Nat) (f : Int) (i : Nat) : Str := Sg (cs.take j ++ [97 + ((f + 5 * (0 + (i : Int))) % 26).toNat] ++ cs.drop j)
theorem nmI_len {cs : List Nat} {j : Nat} {f : Int} {i : Nat} (h : j ≤ cs.length) : (nmI cs j f i).length = cs.length + 1 := by
  unfold nmI
  rw [sg_len]
  simp only [List.length_append, List.length_take, List.length_drop, List.length_cons, List.length_nil]
  omega
theorem nmI_inj {cs : List Nat} {j : Nat} {f : Int} {a b : Nat} (ha : a < 26) (hb : b < 26) (h : nmI cs j f a = nmI cs j f b) : a = b := by
  unfold nmI at h
  have h1 : (cs.take j ++ [97 + ((f + 5 * (0 + (a : Int))) % 26).toNat] ++ cs.drop j) = (cs.take j ++ [97 + ((f + 5 * (0 + (b : Int))) % 26).toNat] ++ cs.drop j) := by
    have := congrArg tl h
    simpa [Sg, tl] using this
  have h2 := (List.append_inj (List.append_inj' h1 rfl).1 rfl).2
  have h3 : 97 + ((f + 5 * (0 + (a : Int))) % 26).toNat = 97 + ((f + 5 * (0 + (b : Int))) % 26).toNat := (List.cons.inj h2).1
  have r1 := Int.emod_nonneg (f + 5 * (0 + (a : Int))) (show (26 : Int) ≠ 0 by decide)
  have r2 := Int.emod_nonneg (f + 5 * (0 + (b : Int))) (show (26 : Int) ≠ 0 by decide)
  omega
theorem fixN_not (z : Str) : fixN z ∉ kept3 := by
  unfold fixN
  split
  · rename_i h
    simp only [kept3, List.mem_cons, List.not_mem_nil, or_false] at h
    rcases h with rfl | rfl | rfl <;> decide +kernel
  · assumption
theorem one_a : (Str.ofString "a").length = 1 := by decide +kernel
theorem fixN_inj {x y : Str} (l : x.length = y.length) (h : fixN x = fixN y) : x = y := by
  unfold fixN at h
  split at h <;> split at h
  · have := congrArg tl h
    rw [TL.tl_append, TL.tl_append] at this
    exact TL.ext_tl (List.append_inj' this rfl).1
  · have := congrArg Str.length h
    rw [strLen_app, one_a] at this
    omega
  · have := congrArg Str.length h
    rw [strLen_app, one_a] at this
    omega
  · exact h
theorem fixN_small {z : Str} (h1 : ∀ c ∈ tl z, 97 ≤ c ∧ c ≤ 122) (h2 : z.length ≤ 11) : small (fixN z) := by
  unfold fixN
  split
  · refine ⟨fun c hc => ?_, by rw [strLen_app, one_a]; omega⟩
    rw [TL.tl_append] at hc
    rcases List.mem_append.mp hc with hc | hc
    · exact h1 c hc
    · have e : tl (Str.ofString "a") = [97] := by decide +kernel
      rw [e] at hc
      have := List.mem_singleton.mp hc
      omega
  · exact ⟨h1, by omega⟩
def snF : DFP := fun ds n Q => ∃ m : Nat, ds = [.int (m : Int)] ∧ m ≤ 5 ∧ n + 12 ≤ penLim ∧ ∀ (zs : List Str) (n' : Nat), zs.length = m → zs.Nodup → (∀ z ∈ zs, small z ∧ z ∉ kept3) → n' ≤ n + 12 → Q (.list (zs.map PyData.str)) n'
def nbF : DFP := fun ds n Q => ds = [] ∧ n + 3 ≤ penLim ∧ ∀ (i : Int) (n' : Nat), i.natAbs ≤ 2 ^ 70 → n' ≤ n + 3 → Q (.int i) n'
def wtF : DFP := fun ds n Q => ds = [] ∧ n + 3 ≤ penLim ∧ ∀ (i : Int) (n' : Nat), i ≠ 0 → i.natAbs ≤ 2 ^ 70 → n' ≤ n + 3 → Q (.int i) n'
section
variable {P : Program} {w : World} {K : PySem.W.Frag} {mg : Str → Option Value} {base : Heap}
theorem ok_s_names (T : Tx K mg) (O__law_take : Ok P w K mg base 2 "_law_take" ["_law_pen", "_law_many"] (spP K 1 .E takeF)) : Ok P w K mg base 3 "_law_s_names" ["_law_pen", "_law_many"] (spP K 1 .E snF) := by
  refine Ok.ofP (M := []) T.d__law_s_names sc__law_s_names rfl (by decide) (by decide) fun f cdv A outer s H E p c hr => ⟨_, _, (pss_cons (ps_set (i := 2) sc__law_s_names.nd rfl (Or.inr rfl) (pe_str))
 (pss_cons (ps_set (i := 3) sc__law_s_names.nd rfl (Or.inr rfl) (joinK K rfl (pe_str) (pe_lc (own := [("_law_k", 4)]) rfl sc__law_s_names.nd (pi_range1 (by rfl) T.z_range (pa_cons (pe_fn O__law_take (hr.mono (by omega)) (by rfl) (pa_cons (pv 0) (pa_cons (pe_int) (pa_nil)))) (pa_nil))) (blkOk_by (own := [("_law_k", 4)]) (N := ["_law_pen", "_law_many", "_law_letters", "_law_stem", "_law_k", "_law_at", "_law_first", "_law_found", "_law_name"]) (sc := defScope s__law_s_names) (by decide +kernel)) (fun _ _ _ _ _ => pg_nameL (i := 4) sc__law_s_names.nd rfl rfl) (fun _ _ _ _ _ => pts_nil) (fun _ _ _ _ _ => pe_ix (ixG K rfl (u65 hr.toRoom)) (pv 2) (pe_fn O__law_take (hr.mono (by omega)) (by rfl) (pa_cons (pv 0) (pa_cons (pe_int) (pa_nil)))) (fun _ _ => rfl)))))
 (pss_cons (ps_set (i := 5) sc__law_s_names.nd rfl (Or.inr rfl) (pe_fn O__law_take (hr.mono (by omega)) (by rfl) (pa_cons (pv 0) (pa_cons (pe_op (addG K rfl) (pe_callB (lenG K rfl) (by rfl) T.z_len boot_len (pa_cons (pv 3) (pa_nil))) (pe_int)) (pa_nil)))))
 (pss_cons (ps_set (i := 6) sc__law_s_names.nd rfl (Or.inr rfl) (pe_fn O__law_take (hr.mono (by omega)) (by rfl) (pa_cons (pv 0) (pa_cons (pe_int) (pa_nil)))))
 (pss_cons (ps_setLc (i := 7) (own := [("_law_k", 4)]) rfl sc__law_s_names.nd rfl rfl (sw_true rfl rfl rfl (by decide +kernel)) (pi_range1 (by rfl) T.z_range (pa_cons (pv 1) (pa_nil))) (blkOk_by (own := [("_law_k", 4)]) (N := ["_law_pen", "_law_many", "_law_letters", "_law_stem", "_law_k", "_law_at", "_law_first", "_law_found", "_law_name"]) (sc := defScope s__law_s_names) (by decide +kernel)) (fun _ _ _ _ _ => pg_nameL (i := 4) sc__law_s_names.nd rfl rfl) (fun _ _ _ _ _ => pts_nil) (fun _ _ _ _ _ => pe_op (addG K rfl) (pe_op (addG K rfl) (pe_slice (slG K rfl) (pv 3) po_none (po_some (pv 5))) (pe_ix (ixG K rfl (u65 hr.toRoom)) (pv 2) (pe_op op_mod (pe_op (addG K rfl) (pv 6) (pe_op mulG (pe_int) (pv 4))) (pe_int)) (fun _ _ => rfl))) (pe_slice (slG K rfl) (pv 3) (po_some (pv 5)) po_none)))
 (pss_one (ps_ret (pe_lc (own := [("_law_name", 8)]) rfl sc__law_s_names.nd (piL K rfl (pv 7)) (blkOk_by (own := [("_law_name", 8)]) (N := ["_law_pen", "_law_many", "_law_letters", "_law_stem", "_law_k", "_law_at", "_law_first", "_law_found", "_law_name"]) (sc := defScope s__law_s_names) (by decide +kernel)) (fun _ _ _ _ _ => pg_nameL (i := 8) sc__law_s_names.nd rfl rfl) (fun _ _ _ _ _ => pts_nil) (fun _ _ _ _ _ => pe_op (addG K rfl) (pv 8) (pe_op op_repS (pe_str) (pe_callTy call_int1 (by rfl) T.z_int boot_int (pa_cons (pe_cmpR (inG K rfl (u65 hr.toRoom)) (pv 8) (pe_tupZ (pa_cons (pe_str) (pa_cons (pe_str) (pa_cons (pe_str) (pa_nil))))) (by rfl)) (pa_nil))))))))))))),
 (simS_seq (simS_set 2 (nm rfl) (np rfl) (sim_str _))
 (simS_seq (simS_set 3 (nm rfl) (np rfl) (sim_join (sim_str _) (sim_lc (simI_range1 (sim_callP (by simp) rfl (simA_cons (sim_int _) (simA_nil)))) (simG_name 4 (nm rfl) (np rfl)) (simT_yes) (opA_ix (sim_var 2 (nm rfl)) (sim_callP (by simp) rfl (simA_cons (sim_int _) (simA_nil)))) (inv' rfl) (nmv rfl) (npv rfl))))
 (simS_seq (simS_set 5 (nm rfl) (np rfl) (sim_callP (by simp) rfl (simA_cons (sim_op opA_add (sim_cb caA_len (simA_cons (sim_var 3 (nm rfl)) (simA_nil))) (sim_int _)) (simA_nil))))
 (simS_seq (simS_set 6 (nm rfl) (np rfl) (sim_callP (by simp) rfl (simA_cons (sim_int _) (simA_nil))))
 (simS_seq (simS_set 7 (nm rfl) (np rfl) (sim_lc (simI_range1 (sim_var 1 (nm rfl))) (simG_name 4 (nm rfl) (np rfl)) (simT_yes) (sim_op opA_add (sim_op opA_add (sim_sl (sim_var 3 (nm rfl)) simO_none (simO_some (sim_var 5 (nm rfl)))) (opA_ix (sim_var 2 (nm rfl)) (sim_op opA_mod (sim_op opA_add (sim_var 6 (nm rfl)) (sim_op opA_mul (sim_int _) (sim_var 4 (nm rfl)))) (sim_int _)))) (sim_sl (sim_var 3 (nm rfl)) (simO_some (sim_var 5 (nm rfl))) simO_none)) (inv' rfl) (nmv rfl) (npv rfl)))
 (simS_ret (Sim.toE (sim_lc (simI_list (sim_var 7 (nm rfl))) (simG_name 8 (nm rfl) (np rfl)) (simT_yes) (sim_op opA_add (sim_var 8 (nm rfl)) (sim_op opA_repS (sim_str _) (sim_cb caA_int (simA_cons (sim_op opA_in (sim_var 8 (nm rfl)) (sim_tup (by decide) (simA_cons (sim_str _) (simA_cons (sim_str _) (simA_cons (sim_str _) (simA_nil)))))) (simA_nil))))) (inv' rfl) (nmv rfl) (npv rfl))))))))), ?_⟩
  rintro ds m Q hl ⟨many, rfl, hmany, hm, k⟩
  have zl : (Str.ofString "abcdefghijklmnopqrstuvwxyz").length ≤ sizeLine := by decide +kernel
  have zat : ∀ r : Int, 0 ≤ r → r < 26 → atI (tl (Str.ofString "abcdefghijklmnopqrstuvwxyz")) r = some (97 + r.toNat) := fun r r0 r1 => by
    refine atI_of r.toNat (by (first | omega | (dsimp only; omega) | (dsimp only at *; omega))) ?_
    rw [tl_small, List.getElem?_map, List.getElem?_range (by (first | omega | (dsimp only; omega) | (dsimp only at *; omega)))]
    rfl
  refine tk_ok (by (first | omega | (dsimp only; omega) | (dsimp only at *; omega))) (by decide) (by decide) fun q q0 q1 => ?_
  refine ⟨⟨by (first | omega | (dsimp only; omega) | (dsimp only at *; omega)), by (first | omega | (dsimp only; omega) | (dsimp only at *; omega))⟩, by rw [rgD_len]; exact small_line (by (first | omega | (dsimp only; omega) | (dsimp only at *; omega))), lcD_ind (fun i acc s => ∃ (cs : List Nat) (m' : Nat), acc = ones cs ∧ cs.length = i ∧ i ≤ 7 ∧ (∀ c ∈ cs, 97 ≤ c ∧ c ≤ 122) ∧ s = { δ := [none, some (.int many), some (.str (Str.ofString "abcdefghijklmnopqrstuvwxyz")), none, none, none, none, none, none], n := m' } ∧ m' ≤ m + 1 + i) ⟨[], m + 1, rfl, rfl, by (first | omega | (dsimp only; omega) | (dsimp only at *; omega)), (fun c h => nomatch h), rfl, by (first | omega | (dsimp only; omega) | (dsimp only at *; omega))⟩ ?_ ?_⟩
  · rintro i d acc s N hi ⟨cs, m', rfl, hc, h8, hcs, rfl, hm'⟩ hN
    obtain ⟨hi, rfl⟩ := rgD_get hi
    refine tk_ok (by (first | omega | (dsimp only; omega) | (dsimp only at *; omega))) (by decide) (by decide) fun r r0 r1 => ?_
    refine ixs_ok zl (zat r r0 r1) ?_
    refine hN _ _ ⟨cs ++ [97 + r.toNat], _, by unfold ones; rw [List.map_append]; rfl, by rw [List.length_append, hc]; rfl, by (first | omega | (dsimp only; omega) | (dsimp only at *; omega)), fun c hc => ?_, rfl, by (first | omega | (dsimp only; omega) | (dsimp only at *; omega))⟩
    rcases List.mem_append.mp hc with h | h
    · exact hcs c h
    · rw [List.mem_singleton.mp h]; (first | omega | (dsimp only; omega) | (dsimp only at *; omega))
  rintro acc s ⟨cs, m', rfl, hc, h8, hcs, rfl, hm'⟩
  rw [rgD_len] at hc h8 hm'
  refine ⟨_, strs_ones cs, ?_, ?_⟩
  · rw [ones_sum, TL.len_tl, tl_e]
    simp
    (first | omega | (dsimp only; omega) | (dsimp only at *; omega))
  rw [join_ones]
  have ln : (Sg cs : Str).length = cs.length := sg_len cs
  have hcs7 : cs.length ≤ 7 := by (first | omega | (dsimp only; omega) | (dsimp only at *; omega))
  refine ⟨by rw [ln]; exact small_line (by (first | omega | (dsimp only; omega) | (dsimp only at *; omega))), ?_⟩
  rw [ln]
  refine tk_ok (by (first | omega | (dsimp only; omega) | (dsimp only at *; omega))) (by (first | omega | (dsimp only; omega) | (dsimp only at *; omega))) (by (first | omega | (dsimp only; omega) | (dsimp only at *; omega))) fun at_ a0 a1 => ?_
  refine tk_ok (by (first | omega | (dsimp only; omega) | (dsimp only at *; omega))) (by decide) (by decide) fun fst f0 f1 => ?_
  obtain ⟨j, rfl⟩ : ∃ j : Nat, at_ = (j : Int) := ⟨at_.toNat, by (first | omega | (dsimp only; omega) | (dsimp only at *; omega))⟩
  have hj : j ≤ cs.length := by (first | omega | (dsimp only; omega) | (dsimp only at *; omega))
  have nl : ∀ i, (nmI cs j fst i).length = cs.length + 1 := fun i => nmI_len hj
  refine ⟨⟨by (first | omega | (dsimp only; omega) | (dsimp only at *; omega)), by (first | omega | (dsimp only; omega) | (dsimp only at *; omega))⟩, by rw [rgD_len]; exact small_line (by (first | omega | (dsimp only; omega) | (dsimp only at *; omega))), lcAll _ ((List.range many).map fun i => .str (nmI cs j fst i)) [] _ (by rw [rgD_len, List.length_map, List.length_range]; omega) (fun i d x hi hx N hN => ?_) ?_⟩
  · obtain ⟨hi, rfl⟩ := rgD_get hi
    rw [List.getElem?_map, List.getElem?_range (by omega)] at hx
    cases hx
    refine ⟨by rw [ln]; exact small_line (by (first | omega | (dsimp only; omega) | (dsimp only at *; omega))), ?_⟩
    rw [cutS_to]
    refine ⟨mulOk (lt2000 (by decide)) (lt2000 (Nat.lt_of_le_of_lt (show (0 + (i : Nat) : Int).natAbs ≤ 100 by (first | omega | (dsimp only; omega) | (dsimp only at *; omega))) (by decide))), by decide, ?_⟩
    have hr := Int.emod_nonneg (fst + 5 * (0 + (i : Nat))) (show (26 : Int) ≠ 0 by decide)
    have hr' := Int.emod_lt_of_pos (fst + 5 * (0 + (i : Nat))) (show (0 : Int) < 26 by decide)
    refine ixs_ok zl (zat _ hr hr') ?_
    refine ⟨?_, ?_⟩
    · rw [sg_len]; show (cs.take j).length + 1 ≤ sizeLine; exact small_line (by rw [List.length_take]; (first | omega | (dsimp only; omega) | (dsimp only at *; omega)))
    refine ⟨by rw [ln]; exact small_line (by (first | omega | (dsimp only; omega) | (dsimp only at *; omega))), ?_⟩
    rw [cutS_from cs j hj]
    have e : (Sg (cs.take j) ++ (⟨#[97 + ((fst + 5 * (0 + (i : Nat))) % 26).toNat]⟩ : Str)) = Sg (cs.take j ++ [97 + ((fst + 5 * (0 + (i : Nat))) % 26).toNat]) := sg_app _ _
    refine ⟨?_, ?_⟩
    · rw [e, sg_len, sg_len]; refine small_line ?_; rw [List.length_append, List.length_take, List.length_drop, List.length_singleton]; (first | omega | (dsimp only; omega) | (dsimp only at *; omega))
    rw [e, sg_app]
    exact hN _ rfl
  dsimp only [List.set]
  rw [List.nil_append]
  refine ⟨by rw [List.length_map, List.length_range]; exact small_line (by omega), lcAll _ ((List.range many).map fun i => .str (fixN (nmI cs j fst i))) [] _ (by simp) (fun i d x hi hx N hN => ?_) ?_⟩
  · rw [List.getElem?_map] at hi hx
    cases er : (List.range many)[i]? with
    | none => rw [er] at hi; cases hi
    | some i' =>
      rw [er] at hi hx
      cases hi
      cases hx
      have hzl := nl i'
      refine ⟨rfl, rfl, ?_⟩
      have main : ∀ z : Str, z.length = cs.length + 1 → ∀ s2 : S, N (.str (fixN z)) s2 → repD (.str (Str.ofString "a")) (.int (if (xor false (decide (Str.ofString "left" = z) || (decide (Str.ofString "given" = z) || (decide (Str.ofString "own" = z) || false)))) = true then 1 else 0)) fun y => addD (.str z) y fun r => N r s2 := by
        intro z hz s2 q
        have hb : (xor false (decide (Str.ofString "left" = z) || (decide (Str.ofString "given" = z) || (decide (Str.ofString "own" = z) || false)))) = decide (z ∈ kept3) := by
          rw [Bool.false_xor, Bool.or_false, Bool.eq_iff_iff, Bool.or_eq_true, Bool.or_eq_true, decide_eq_true_eq, decide_eq_true_eq, decide_eq_true_eq, decide_eq_true_eq]
          simp only [kept3, List.mem_cons, List.not_mem_nil, or_false]
          exact ⟨fun h => h.elim (fun e => .inl e.symm) fun h => h.elim (fun e => .inr (.inl e.symm)) fun e => .inr (.inr e.symm), fun h => h.elim (fun e => .inl e.symm) fun h => h.elim (fun e => .inr (.inl e.symm)) fun e => .inr (.inr e.symm)⟩
        rw [hb]
        by_cases h : z ∈ kept3
        · rw [decide_eq_true h, if_pos rfl]
          refine ⟨by decide, by decide, by rw [one_a]; decide, ?_⟩
          have e : repS (Str.ofString "a") (1 : Int).toNat = Str.ofString "a" := by decide +kernel
          show z.length + (repS (Str.ofString "a") (1 : Int).toNat).length ≤ sizeLine ∧ N (.str (z ++ repS (Str.ofString "a") (1 : Int).toNat)) _
          rw [e]
          unfold fixN at q
          rw [if_pos h] at q
          exact ⟨small_line (by rw [one_a]; omega), q⟩
        · rw [decide_eq_false h, if_neg (by decide)]
          refine ⟨by decide, by decide, by rw [one_a]; decide, ?_⟩
          have e : repS (Str.ofString "a") (0 : Int).toNat = Str.ofString "" := by decide +kernel
          show z.length + (repS (Str.ofString "a") (0 : Int).toNat).length ≤ sizeLine ∧ N (.str (z ++ repS (Str.ofString "a") (0 : Int).toNat)) _
          rw [e]
          have h0 : (Str.ofString "").length = 0 := by decide +kernel
          have e3 : z ++ Str.ofString "" = z := TL.ext_tl (by rw [TL.tl_append, tl_e, List.append_nil])
          unfold fixN at q
          rw [if_neg h] at q
          rw [h0, e3]
          exact ⟨small_line (by omega), q⟩
      exact main _ hzl _ (hN _ rfl)
  · rw [List.nil_append]
    have hmap : ((List.range many).map fun i => PyData.str (fixN (nmI cs j fst i))) = ((List.range many).map fun i => fixN (nmI cs j fst i)).map PyData.str := by
      rw [List.map_map]
      rfl
    rw [hmap]
    refine k _ _ (by simp) ?_ (fun z hz => ?_) (by show m' + 1 + 1 ≤ m + 12; omega)
    · have : ∀ n, n ≤ 26 → ((List.range n).map fun i => fixN (nmI cs j fst i)).Nodup := fun n hn => by
        induction n with
        | zero => exact List.nodup_nil
        | succ n ih =>
          rw [List.range_succ, List.map_append]
          refine List.nodup_append.mpr ⟨ih (by omega), by simp, fun x hx y hy => ?_⟩
          obtain ⟨a, ma, rfl⟩ := List.mem_map.mp hx
          rw [List.map_cons, List.map_nil] at hy
          rw [List.mem_singleton.mp hy]
          intro z
          have := nmI_inj (by have := List.mem_range.mp ma; omega) (by omega) (fixN_inj (by rw [nl, nl]) z)
          have := List.mem_range.mp ma
          omega
      exact this many (by omega)
    · obtain ⟨i, mi, rfl⟩ := List.mem_map.mp hz
      refine ⟨fixN_small (fun c hc => ?_) (by rw [nl i]; omega), fixN_not _⟩
      have hc : c ∈ cs.take j ++ [97 + ((fst + 5 * (0 + (i : Int))) % 26).toNat] ++ cs.drop j := hc
      have hr := Int.emod_nonneg (fst + 5 * (0 + (i : Int))) (show (26 : Int) ≠ 0 by decide)
      have hr' := Int.emod_lt_of_pos (fst + 5 * (0 + (i : Int))) (show (0 : Int) < 26 by decide)
      rcases List.mem_append.mp hc with h | h
      · rcases List.mem_append.mp h with h | h
        · exact hcs c (List.mem_of_mem_take h)
        · rw [List.mem_singleton.mp h]; omega
      · exact hcs c (List.mem_of_mem_drop h)
theorem ok_s_number (T : Tx K mg) (O__law_take : Ok P w K mg base 2 "_law_take" ["_law_pen", "_law_many"] (spP K 1 .E takeF)) : Ok P w K mg base 3 "_law_s_number" ["_law_pen"] (spP K 0 .E nbF) := by
  refine Ok.ofP (M := []) T.d__law_s_number sc__law_s_number rfl (by decide) (by decide) fun f cdv A outer s H E p c hr => ⟨_, _, (pss_cons (ps_set (i := 1) sc__law_s_number.nd rfl (Or.inl rfl) (pe_fn O__law_take (hr.mono (by omega)) (by rfl) (pa_cons (pv 0) (pa_cons (pe_int) (pa_nil)))))
 (pss_cons (ps_if (pt_cmpR op_lt (pv 1) (pe_int) (nomark _))
 (pss_one (ps_ret (pe_op op_sub (pe_fn O__law_take (hr.mono (by omega)) (by rfl) (pa_cons (pv 0) (pa_cons (pe_int) (pa_nil)))) (pe_int))))
 (pss_nil))
 (pss_one (ps_ret (pe_op op_sub (pe_fn O__law_take (hr.mono (by omega)) (by rfl) (pa_cons (pv 0) (pa_cons (pe_ix (ixG K rfl (u65 hr.toRoom)) (pe_lst (pa_cons (pe_int) (pa_cons (pe_op (addG K rfl) (pe_op mulG (pe_int) (pe_op op_pow (pe_int) (pe_int))) (pe_int)) (pa_nil)))) (pe_op op_sub (pv 1) (pe_int)) (fun _ _ => rfl)) (pa_nil)))) (pe_ix (ixG K rfl (u65 hr.toRoom)) (pe_lst (pa_cons (pe_int) (pa_cons (pe_op op_pow (pe_int) (pe_int)) (pa_nil)))) (pe_op op_sub (pv 1) (pe_int)) (fun _ _ => rfl))))))),
 (simS_seq (simS_set 1 (nm rfl) (np rfl) (sim_callP (by simp) rfl (simA_cons (sim_int _) (simA_nil))))
 (simS_seq (simS_if (simT_test (sim_op (opA_cmp _) (sim_var 1 (nm rfl)) (sim_int _)))
 (simS_ret (Sim.toE (sim_op opA_sub (sim_callP (by simp) rfl (simA_cons (sim_int _) (simA_nil))) (sim_int _))))
 (simS_next))
 (simS_ret (Sim.toE (sim_op opA_sub (sim_callP (by simp) rfl (simA_cons (opA_ix (sim_lst (by decide) (simA_cons (sim_int _) (simA_cons (sim_op opA_add (sim_op opA_mul (sim_int _) (sim_op opA_pow (sim_int _) (sim_int _))) (sim_int _)) (simA_nil)))) (sim_op opA_sub (sim_var 1 (nm rfl)) (sim_int _))) (simA_nil))) (opA_ix (sim_lst (by decide) (simA_cons (sim_int _) (simA_cons (sim_op opA_pow (sim_int _) (sim_int _)) (simA_nil)))) (sim_op opA_sub (sim_var 1 (nm rfl)) (sim_int _)))))))), ?_⟩
  rintro ds m Q hl ⟨rfl, hm, k⟩
  refine tk_ok (by (first | omega | (dsimp only; omega) | (dsimp only at *; omega))) (by decide) (by decide) fun way w0 w1 => ?_
  dsimp only
  refine seqIf (b := decide (way < 4)) (fun Q q => q) (fun h => ?_) (fun h => ?_)
  · refine tk_ok (by (first | omega | (dsimp only; omega) | (dsimp only at *; omega))) (by decide) (by decide) fun r r0 r1 => ?_
    exact k _ _ (Nat.le_trans (show (r - 4).natAbs ≤ 10 by omega) (by decide)) (by (first | omega | (dsimp only; omega) | (dsimp only at *; omega)))
  · have h : ¬ way < 4 := by simpa using h
    have hw : way = 4 ∨ way = 5 := by omega
    refine ⟨⟨by decide, by decide, by decide⟩, mulOk (lt2000 (by decide)) (lt2000 (by decide)), ?_⟩
    rcases hw with rfl | rfl
    · refine ix_ok 0 rfl rfl ?_
      refine tk_ok (show m + 1 ≤ penLim by omega) (by decide) (by decide) fun r r0 r1 => ?_
      refine ⟨⟨by decide, by decide, by decide⟩, ?_⟩
      refine ix_ok 0 rfl rfl ?_
      exact k _ _ (Nat.le_trans (show (r - 1000).natAbs ≤ 2000 by omega) (by decide)) (show m + 1 + 1 ≤ _ by omega)
    · refine ix_ok 1 rfl rfl ?_
      refine ⟨show m + 1 ≤ penLim by omega, by decide, Nat.lt_of_lt_of_le (show _ < 2 ^ 100 by decide) (Nat.pow_le_pow_right (by decide) (by decide)), fun r r0 r1 => ?_⟩
      refine ⟨⟨by decide, by decide, by decide⟩, ?_⟩
      refine ix_ok 1 rfl rfl ?_
      rw [show (2 : Int) * 10 ^ (20 : Int).toNat + 1 = 200000000000000000001 by decide] at r1
      refine k _ _ ?_ (show m + 1 + 1 ≤ _ by omega)
      rw [show (10 : Int) ^ (20 : Int).toNat = 100000000000000000000 by decide]
      exact Nat.le_trans (show (r - 100000000000000000000).natAbs ≤ 100000000000000000000 by omega) (by decide)
theorem ok_s_weight (T : Tx K mg) (O__law_take : Ok P w K mg base 2 "_law_take" ["_law_pen", "_law_many"] (spP K 1 .E takeF)) : Ok P w K mg base 3 "_law_s_weight" ["_law_pen"] (spP K 0 .E wtF) := by
  refine Ok.ofP (M := []) T.d__law_s_weight sc__law_s_weight rfl (by decide) (by decide) fun f cdv A outer s H E p c hr => ⟨_, _, (pss_cons (ps_set (i := 1) sc__law_s_weight.nd rfl (Or.inl rfl) (pe_fn O__law_take (hr.mono (by omega)) (by rfl) (pa_cons (pv 0) (pa_cons (pe_int) (pa_nil)))))
 (pss_cons (ps_if (pt_cmpR op_lt (pv 1) (pe_int) (nomark _))
 (pss_one (ps_ret (pe_ix (ixG K rfl (u65 hr.toRoom)) (pe_lst (pa_cons (pe_int) (pa_cons (pe_int) (pa_cons (pe_un un_neg (pe_int)) (pa_cons (pe_un un_neg (pe_int)) (pa_cons (pe_int) (pa_cons (pe_un un_neg (pe_int)) (pa_cons (pe_int) (pa_nil))))))))) (pv 1) (fun _ _ => rfl))))
 (pss_nil))
 (pss_cons (ps_set (i := 2) sc__law_s_weight.nd rfl (Or.inl rfl) (pe_op op_sub (pe_fn O__law_take (hr.mono (by omega)) (by rfl) (pa_cons (pv 0) (pa_cons (pe_op mulG (pe_int) (pe_op op_pow (pe_int) (pe_int))) (pa_nil)))) (pe_op op_pow (pe_int) (pe_int))))
 (pss_one (ps_ret (pe_op (addG K rfl) (pv 2) (pe_callTy call_int1 (by rfl) T.z_int boot_int (pa_cons (pe_cmpR op_ge (pv 2) (pe_int) (nomark _)) (pa_nil))))))))),
 (simS_seq (simS_set 1 (nm rfl) (np rfl) (sim_callP (by simp) rfl (simA_cons (sim_int _) (simA_nil))))
 (simS_seq (simS_if (simT_test (sim_op (opA_cmp _) (sim_var 1 (nm rfl)) (sim_int _)))
 (simS_ret (Sim.toE (opA_ix (sim_lst (by decide) (simA_cons (sim_int _) (simA_cons (sim_int _) (simA_cons (sim_neg (sim_int _)) (simA_cons (sim_neg (sim_int _)) (simA_cons (sim_int _) (simA_cons (sim_neg (sim_int _)) (simA_cons (sim_int _) (simA_nil))))))))) (sim_var 1 (nm rfl)))))
 (simS_next))
 (simS_seq (simS_set 2 (nm rfl) (np rfl) (sim_op opA_sub (sim_callP (by simp) rfl (simA_cons (sim_op opA_mul (sim_int _) (sim_op opA_pow (sim_int _) (sim_int _))) (simA_nil))) (sim_op opA_pow (sim_int _) (sim_int _))))
 (simS_ret (Sim.toE (sim_op opA_add (sim_var 2 (nm rfl)) (sim_cb caA_int (simA_cons (sim_op (opA_cmp _) (sim_var 2 (nm rfl)) (sim_int _)) (simA_nil))))))))), ?_⟩
  rintro ds m Q hl ⟨rfl, hm, k⟩
  refine tk_ok (by (first | omega | (dsimp only; omega) | (dsimp only at *; omega))) (by decide) (by decide) fun way w0 w1 => ?_
  dsimp only
  refine seqIf (b := decide (way < 7)) (fun Q q => q) (fun h => ?_) (fun h => ?_)
  · have h : way < 7 := by simpa using h
    have hw : way = 0 ∨ way = 1 ∨ way = 2 ∨ way = 3 ∨ way = 4 ∨ way = 5 ∨ way = 6 := by omega
    rcases hw with rfl | rfl | rfl | rfl | rfl | rfl | rfl
    · exact ix_ok 0 rfl rfl (k 1 _ (by decide) (by decide) (by (first | omega | (dsimp only; omega) | (dsimp only at *; omega))))
    · exact ix_ok 1 rfl rfl (k 1 _ (by decide) (by decide) (by (first | omega | (dsimp only; omega) | (dsimp only at *; omega))))
    · exact ix_ok 2 rfl rfl (k (-1) _ (by decide) (by decide) (by (first | omega | (dsimp only; omega) | (dsimp only at *; omega))))
    · exact ix_ok 3 rfl rfl (k (-1) _ (by decide) (by decide) (by (first | omega | (dsimp only; omega) | (dsimp only at *; omega))))
    · exact ix_ok 4 rfl rfl (k 2 _ (by decide) (by decide) (by (first | omega | (dsimp only; omega) | (dsimp only at *; omega))))
    · exact ix_ok 5 rfl rfl (k (-3) _ (by decide) (by decide) (by (first | omega | (dsimp only; omega) | (dsimp only at *; omega))))
    · exact ix_ok 6 rfl rfl (k 6 _ (by decide) (by decide) (by (first | omega | (dsimp only; omega) | (dsimp only at *; omega))))
  · refine ⟨⟨by decide, by decide, by decide⟩, mulOk (lt2000 (by decide)) (lt2000 (by decide)), ?_⟩
    refine ⟨show m + 1 ≤ penLim by omega, by decide, Nat.lt_of_lt_of_le (show _ < 2 ^ 100 by decide) (Nat.pow_le_pow_right (by decide) (by decide)), fun r r0 r1 => ?_⟩
    refine ⟨⟨by decide, by decide, by decide⟩, ?_⟩
    rw [show (2 : Int) * 10 ^ (20 : Int).toNat = 200000000000000000000 by decide] at r1
    rw [show (10 : Int) ^ (20 : Int).toNat = 100000000000000000000 by decide]
    have key : ∀ x : Int, x.natAbs ≤ 100000000000000000000 → Q (.int (x + if decide ((0 : Int) ≤ x) = true then 1 else 0)) (m + 1 + 1) := fun x hx => by
      by_cases hx0 : 0 ≤ x
      · rw [decide_eq_true hx0, if_pos rfl]
        exact k _ _ (by omega) (Nat.le_trans (show (x + 1).natAbs ≤ 100000000000000000001 by omega) (by decide)) (by omega)
      · rw [decide_eq_false hx0, if_neg (by decide)]
        exact k _ _ (by omega) (Nat.le_trans (show (x + 0).natAbs ≤ 100000000000000000001 by omega) (by decide)) (by omega)
    exact key (r - 100000000000000000000) (by omega)
end

/-! ### drawn sums, rows, atoms -/
def smF : DFP := fun ds n Q => ∃ many most : Nat, ds = [.int (many : Int), .int (most : Int)] ∧ 1 ≤ many ∧ many ≤ 20 ∧ most ≤ 4 ∧ n + 30 ≤ penLim ∧ ∀ ps i n', SmOk many ps i → ps.length ≤ most → n' ≤ n + 30 → Q (Lg.sum ps i).d n'
abbrev kI (j : Nat) : D := .int ((j : Nat) : Int)
theorem rg_k (n : Nat) : rgD 0 n = (List.range n).map kI := by
  unfold rgD
  simp [kI]
abbrev ss (many most : Nat) (ks : List Nat) (ps : List (Nat × Int)) (o : Option D) (n : Nat) : S := { δ := [none, some (.int (many : Int)), some (.int (most : Int)), some (.list (ks.map kI)), some (.list (ps.map prL)), o], n := n }
def rwF : DFP := fun ds n Q => ∃ (many : Nat) (rows : List D), ds = [.int (many : Int), .list rows] ∧ 1 ≤ many ∧ many ≤ 20 ∧ rows.length = 3 ∧ (∀ x ∈ rows, Nm x) ∧ n + 80 ≤ penLim ∧ ∀ g n', Lg.isRw g = true → g.ok many → g.dz ≤ 2 → g.np ≤ 4 → g.nn ≤ 7 → n' ≤ n + 80 → Q g.d n'
def enF : DFP := fun ds n Q => ∃ (many most : Nat) (rows : List D), ds = [.int (many : Int), .list rows, .int (most : Int)] ∧ 1 ≤ many ∧ many ≤ 20 ∧ 1 ≤ most ∧ most ≤ 8 ∧ rows.length = 3 ∧ (∀ x ∈ rows, Nm x) ∧ n + 200 ≤ penLim ∧ ∀ g n', Lg.isAt g = true → g.ok many → g.dz ≤ 4 → g.np ≤ 8 → g.nn ≤ 14 → n' ≤ n + 200 → Q g.d n'
theorem sm_nil {many : Nat} {i : Int} (h : i.natAbs ≤ 2 ^ 80) : SmOk many [] i := ⟨List.nodup_nil, (fun _ z => nomatch z), by decide, h⟩
theorem ixOne {ds : List D} {r : Int} {Q : D → Prop} (h0 : 0 ≤ r) (h1 : r < (ds.length : Int)) (k : ∀ d ∈ ds, Q d) : IxP (atI ds r) Q := by
  have hr : r.toNat < ds.length := by omega
  exact ix_ok r.toNat (by omega) (List.getElem?_eq_getElem hr) (k _ (List.getElem_mem hr))
section
variable {P : Program} {w : World} {K : PySem.W.Frag} {mg : Str → Option Value} {base : Heap}
theorem ok_s_sum (T : Tx K mg) (O__law_take : Ok P w K mg base 2 "_law_take" ["_law_pen", "_law_many"] (spP K 1 .E takeF)) (O__law_s_number : Ok P w K mg base 3 "_law_s_number" ["_law_pen"] (spP K 0 .E nbF)) (O__law_s_weight : Ok P w K mg base 3 "_law_s_weight" ["_law_pen"] (spP K 0 .E wtF)) :
    Ok P w K mg base 4 "_law_s_sum" ["_law_pen", "_law_many", "_law_most"] (spP K 2 .E smF) := by
  refine Ok.ofP (M := [3]) T.d__law_s_sum sc__law_s_sum rfl (by decide) (by decide) fun f cdv A outer s H E p c hr => ⟨_, _, (pss_cons (ps_set (i := 3) sc__law_s_sum.nd rfl (Or.inl rfl) (pe_listRg rfl (by rfl) T.z_list (prg_1 (by rfl) T.z_range (pv 1))))
 (pss_cons (ps_set (i := 4) sc__law_s_sum.nd rfl (Or.inl rfl) (pe_lst (pa_nil)))
 (pss_cons (ps_for PassesOwn.never rfl (pi_range1 (by rfl) T.z_range (pa_cons (pe_callB (call_min2 rfl) (by rfl) T.z_min boot_min (pa_cons (pv 1) (pa_cons (pe_fn O__law_take (hr.mono (by omega)) (by rfl) (pa_cons (pv 0) (pa_cons (pe_op (addG K rfl) (pv 2) (pe_int)) (pa_nil)))) (pa_nil)))) (pa_nil))) (pg_nameL (i := 5) sc__law_s_sum.nd rfl rfl)
 (pss_one (ps_expr (appK K rfl (pv 4) (pe_tupZ (pa_cons (pe_bm PySem.F.plainAttrs_list PySem.F.slot_list_pop PySem.F.type_list_pop mt_popAt (pv 3) (pa_cons (pe_fn O__law_take (hr.mono (by omega)) (by rfl) (pa_cons (pv 0) (pa_cons (pe_callB (lenG K rfl) (by rfl) T.z_len boot_len (pa_cons (pv 3) pa_nil)) (pa_nil)))) (pa_nil))) (pa_cons (pe_fn O__law_s_weight (hr.mono (by omega)) (by rfl) (pa_cons (pv 0) (pa_nil))) (pa_nil))))))))
 (pss_one (ps_ret (pe_tupZ (pa_cons (pe_str) (pa_cons (pv 4) (pa_cons (pe_fn O__law_s_number (hr.mono (by omega)) (by rfl) (pa_cons (pv 0) (pa_nil))) (pa_nil)))))))))),
 (simS_seq (simS_setM 3 (ym rfl) (nb rfl) (sim_listRg1 (sim_var 1 (nm rfl))))
 (simS_phase 4 (nm rfl) (np rfl) (nb rfl) (sim_lst (by decide) (simA_nil)) (simS_for (simI_range1 (sim_cb caA_min (simA_cons (sim_var 1 (nm rfl)) (simA_cons (sim_callP (by simp) rfl (simA_cons (sim_op opA_add (sim_var 2 (nm rfl)) (sim_int _)) (simA_nil))) (simA_nil))))) (simG_name 5 (nm rfl) (np rfl))
 (simS_drop (sim_mt 4 (ym rfl) mtA_app (simA_cons (sim_tup (by decide) (simA_cons (sim_mt 3 (ym rfl) mtA_popAt (simA_cons (sim_callP (by simp) rfl (simA_cons (sim_cbM 3 (ym rfl) caA_len) (simA_nil))) (simA_nil))) (simA_cons (sim_callP (by simp) rfl (simA_nil)) (simA_nil)))) simA_nil))))
 (simS_ret (Sim.toE (sim_tup (by decide) (simA_cons (sim_str _) (simA_cons (sim_var 4 (nm rfl)) (simA_cons (sim_callP (by simp) rfl (simA_nil)) (simA_nil))))))))), ?_⟩
  rintro ds m Q hl ⟨many, most, rfl, h1, h20, h4, hm, q⟩
  refine ⟨⟨by (first | omega | (dsimp only; omega) | (dsimp only at *; omega)), by (first | omega | (dsimp only; omega) | (dsimp only at *; omega))⟩, rfl, rfl, (show 4 < 6 by decide), ?_⟩
  rw [show ((many : Int)).toNat = many by omega, rg_k]
  refine tk_ok (by (first | omega | (dsimp only; omega) | (dsimp only at *; omega))) (by (first | omega | (dsimp only; omega) | (dsimp only at *; omega))) (by (first | omega | (dsimp only; omega) | (dsimp only at *; omega))) fun r r0 r1 => ?_
  obtain ⟨t, ht, t1, t2⟩ : ∃ t : Nat, (if r < (many : Int) then r else (many : Int)) = (t : Int) ∧ t ≤ many ∧ t ≤ most := by
    split
    · exact ⟨r.toNat, by omega, by omega, by omega⟩
    · exact ⟨many, rfl, Nat.le_refl _, by omega⟩
  show (_ ∧ _) ∧ forD _ _ _ (rgD 0 (Int.toNat (if r < (many : Int) then r else (many : Int)))) _
  rw [ht]
  refine ⟨⟨by omega, by omega⟩, ?_⟩
  rw [Int.toNat_natCast]
  refine forD_ind (fun idx s => ∃ (ks : List Nat) (ps : List (Nat × Int)) (o : Option D) (n' : Nat), s = ss many most ks ps o n' ∧ ks.Nodup ∧ (∀ j ∈ ks, j < many) ∧ (ps.map Prod.fst).Nodup ∧ (∀ p ∈ ps, p.1 < many ∧ p.2 ≠ 0 ∧ p.2.natAbs ≤ 2 ^ 80) ∧ (∀ p ∈ ps, p.1 ∉ ks) ∧ ks.length + idx = many ∧ ps.length = idx ∧ n' ≤ m + 1 + 5 * idx) ⟨List.range many, [], none, m + 1, rfl, List.nodup_range, fun j h => List.mem_range.mp h, List.nodup_nil, fun _ h => (nomatch h), fun _ h => (nomatch h), by rw [List.length_range]; omega, rfl, by omega⟩ ?_ ?_
  · rintro idx d s' N hi ⟨ks, ps, o, n', rfl, k1, k2, k3, k4, k5, k6, k7, k8⟩ hN
    obtain ⟨hi, rfl⟩ := rgD_get hi
    have kl : (ks.map kI).length = ks.length := List.length_map _
    refine ⟨⟨_, rfl⟩, ⟨_, rfl⟩, ?_⟩
    refine tk_ok (show n' ≤ penLim by omega) (by rw [kl]; omega) (by rw [kl]; omega) fun a a0 a1 => ?_
    rw [kl] at a1
    obtain ⟨b, rfl⟩ : ∃ b : Nat, a = (b : Int) := ⟨a.toNat, by omega⟩
    have hb : b < ks.length := by omega
    have e1 : (ks.map kI)[((b : Int)).toNat]? = some (kI ks[b]) := by rw [Int.toNat_natCast, List.getElem?_map, List.getElem?_eq_getElem hb]; rfl
    refine ⟨⟨a0, by omega⟩, ?_⟩
    dsimp only [List.set]
    rw [e1]
    refine ⟨rfl, show n' + 1 + 3 ≤ penLim by omega, fun wt n2 w0 w1 hn2 => ?_⟩
    have hn2 : n2 ≤ n' + 1 + 3 := hn2
    refine ⟨by rw [List.length_map, k7]; exact small_line (by omega), ?_⟩
    have mb : ks[b] ∈ ks := List.getElem_mem hb
    have me : ∀ x ∈ ks.eraseIdx b, x ∈ ks := fun x hx => List.mem_of_mem_eraseIdx hx
    have ne : ks[b] ∉ ks.eraseIdx b := fun hx => by
      have h2 := k1
      have e : ks = ks.take b ++ ks[b] :: ks.drop (b + 1) := by rw [List.getElem_cons_drop, List.take_append_drop]
      rw [e] at h2
      rw [List.eraseIdx_eq_take_drop_succ] at hx
      obtain ⟨h3, h4, h5⟩ := List.nodup_append.mp h2
      rcases List.mem_append.mp hx with hx | hx
      · exact h5 _ hx _ (List.mem_cons_self ..) rfl
      · exact (List.nodup_cons.mp h4).1 hx
    refine hN _ ⟨ks.eraseIdx b, ps ++ [(ks[b], wt)], some (.int (0 + (idx : Nat))), n2, ?_, k1.sublist (List.eraseIdx_sublist ..), fun j hj => k2 j (me j hj), ?_, fun p mp => ?_, fun p mp => ?_, ?_, ?_, by omega⟩
    · unfold ss
      rw [List.map_append, Int.toNat_natCast, List.eraseIdx_eq_take_drop_succ, List.eraseIdx_eq_take_drop_succ, List.map_append (l₁ := ks.take b), List.map_take, List.map_drop]
      rfl
    · rw [List.map_append]
      refine List.nodup_append.mpr ⟨k3, by simp, fun x hx y hy => ?_⟩
      rw [List.mem_singleton.mp (show y ∈ [ks[b]] from hy)]
      obtain ⟨p, mp, rfl⟩ := List.mem_map.mp hx
      exact fun z => k5 p mp (z ▸ mb)
    · rcases List.mem_append.mp mp with mp | mp
      · exact k4 p mp
      · rw [List.mem_singleton.mp mp]
        exact ⟨k2 _ mb, w0, Nat.le_trans w1 (by decide)⟩
    · rcases List.mem_append.mp mp with mp | mp
      · exact fun z => k5 p mp (me _ z)
      · rw [List.mem_singleton.mp mp]
        exact ne
    · rw [List.length_eraseIdx, if_pos hb]
      omega
    · rw [List.length_append, k7]
      rfl
  · rintro s' ⟨ks, ps, o, n', rfl, k1, k2, k3, k4, k5, k6, k7, k8⟩
    rw [rgD_len] at k7 k8
    refine ⟨rfl, show n' + 3 ≤ penLim by omega, fun i n2 hi hn2 => ?_⟩
    have hn2 : n2 ≤ n' + 3 := hn2
    exact q ps i n2 ⟨k3, k4, by omega, Nat.le_trans hi (by decide)⟩ (by omega) (by omega)
theorem ok_s_row (T : Tx K mg) (O__law_take : Ok P w K mg base 2 "_law_take" ["_law_pen", "_law_many"] (spP K 1 .E takeF)) (O__law_s_number : Ok P w K mg base 3 "_law_s_number" ["_law_pen"] (spP K 0 .E nbF)) (O__law_s_sum : Ok P w K mg base 4 "_law_s_sum" ["_law_pen", "_law_many", "_law_most"] (spP K 2 .E smF)) :
    Ok P w K mg base 5 "_law_s_row" ["_law_pen", "_law_many", "_law_rows"] (spP K 2 .E rwF) := by
  refine Ok.ofP (M := []) T.d__law_s_row sc__law_s_row rfl (by decide) (by decide) fun f cdv A outer s H E p c hr => ⟨_, _, (pss_cons (ps_set (i := 3) sc__law_s_row.nd rfl (Or.inl rfl) (pe_fn O__law_take (hr.mono (by omega)) (by rfl) (pa_cons (pv 0) (pa_cons (pe_int) (pa_nil)))))
 (pss_cons (ps_if (pt_cmpR (eqG K rfl hr.units) (pv 3) (pe_int) (nomark _))
 (pss_one (ps_ret (pe_tupZ (pa_cons (pe_str) (pa_cons (pe_fn O__law_s_sum (hr.mono (by omega)) (by rfl) (pa_cons (pv 0) (pa_cons (pv 1) (pa_cons (pe_int) (pa_nil))))) (pa_nil))))))
 (pss_nil))
 (pss_cons (ps_set (i := 4) sc__law_s_row.nd rfl (Or.inl rfl) (pe_tupZ (pa_cons (pe_str) (pa_cons (pe_ix (ixG K rfl (u65 hr.toRoom)) (pv 2) (pe_fn O__law_take (hr.mono (by omega)) (by rfl) (pa_cons (pv 0) (pa_cons (pe_callB (lenG K rfl) (by rfl) T.z_len boot_len (pa_cons (pv 2) (pa_nil))) (pa_nil)))) (fun _ _ => rfl)) (pa_nil)))))
 (pss_cons (ps_if (pt_cmpR op_lt (pv 3) (pe_int) (nomark _))
 (pss_one (ps_ret (pv 4)))
 (pss_nil))
 (pss_cons (ps_if (pt_cmpR (eqG K rfl hr.units) (pe_fn O__law_take (hr.mono (by omega)) (by rfl) (pa_cons (pv 0) (pa_cons (pe_int) (pa_nil)))) (pe_int) (nomark _))
 (pss_one (ps_set (i := 4) sc__law_s_row.nd rfl (Or.inl rfl) (pe_tupZ (pa_cons (pe_str) (pa_cons (pv 4) (pa_cons (pe_tupZ (pa_cons (pe_str) (pa_cons (pe_lst (pa_nil)) (pa_cons (pe_fn O__law_take (hr.mono (by omega)) (by rfl) (pa_cons (pv 0) (pa_cons (pe_int) (pa_nil)))) (pa_nil))))) (pa_cons (pe_tupZ (pa_cons (pe_str) (pa_cons (pe_lst (pa_nil)) (pa_cons (pe_fn O__law_s_number (hr.mono (by omega)) (by rfl) (pa_cons (pv 0) (pa_nil))) (pa_nil))))) (pa_nil))))))))
 (pss_nil))
 (pss_cons (ps_set (i := 5) sc__law_s_row.nd rfl (Or.inl rfl) (pe_fn O__law_s_sum (hr.mono (by omega)) (by rfl) (pa_cons (pv 0) (pa_cons (pv 1) (pa_cons (pe_int) (pa_nil))))))
 (pss_one (ps_ret (pe_tupZ (pa_cons (pe_str) (pa_cons (pv 4) (pa_cons (pv 5) (pa_cons (pe_fn O__law_s_sum (hr.mono (by omega)) (by rfl) (pa_cons (pv 0) (pa_cons (pv 1) (pa_cons (pe_int) (pa_nil))))) (pa_nil)))))))))))))),
 (simS_seq (simS_set 3 (nm rfl) (np rfl) (sim_callP (by simp) rfl (simA_cons (sim_int _) (simA_nil))))
 (simS_seq (simS_if (simT_test (sim_op opA_eq (sim_var 3 (nm rfl)) (sim_int _)))
 (simS_ret (Sim.toE (sim_tup (by decide) (simA_cons (sim_str _) (simA_cons (sim_callP (by simp) rfl (simA_cons (sim_var 1 (nm rfl)) (simA_cons (sim_int _) (simA_nil)))) (simA_nil))))))
 (simS_next))
 (simS_seq (simS_set 4 (nm rfl) (np rfl) (sim_tup (by decide) (simA_cons (sim_str _) (simA_cons (opA_ix (sim_var 2 (nm rfl)) (sim_callP (by simp) rfl (simA_cons (sim_cb caA_len (simA_cons (sim_var 2 (nm rfl)) (simA_nil))) (simA_nil)))) (simA_nil)))))
 (simS_seq (simS_if (simT_test (sim_op (opA_cmp _) (sim_var 3 (nm rfl)) (sim_int _)))
 (simS_ret (Sim.toE (sim_var 4 (nm rfl))))
 (simS_next))
 (simS_cut (simS_if (simT_test (sim_op opA_eq (sim_callP (by simp) rfl (simA_cons (sim_int _) (simA_nil))) (sim_int _)))
 (simS_set 4 (nm rfl) (np rfl) (sim_tup (by decide) (simA_cons (sim_str _) (simA_cons (sim_var 4 (nm rfl)) (simA_cons (sim_tup (by decide) (simA_cons (sim_str _) (simA_cons (sim_lst (by decide) (simA_nil)) (simA_cons (sim_callP (by simp) rfl (simA_cons (sim_int _) (simA_nil))) (simA_nil))))) (simA_cons (sim_tup (by decide) (simA_cons (sim_str _) (simA_cons (sim_lst (by decide) (simA_nil)) (simA_cons (sim_callP (by simp) rfl (simA_nil)) (simA_nil))))) (simA_nil)))))))
 (simS_next))
 (simS_seq (simS_set 5 (nm rfl) (np rfl) (sim_callP (by simp) rfl (simA_cons (sim_var 1 (nm rfl)) (simA_cons (sim_int _) (simA_nil)))))
 (simS_ret (Sim.toE (sim_tup (by decide) (simA_cons (sim_str _) (simA_cons (sim_var 4 (nm rfl)) (simA_cons (sim_var 5 (nm rfl)) (simA_cons (sim_callP (by simp) rfl (simA_cons (sim_var 1 (nm rfl)) (simA_cons (sim_int _) (simA_nil)))) (simA_nil)))))))))))))), ?_⟩
  rintro ds m Q hl ⟨many, rows, rfl, h1, h20, h3, hr3, hm, q⟩
  refine tk_ok (by (first | omega | (dsimp only; omega) | (dsimp only at *; omega))) (by decide) (by decide) fun way w0 w1 => ?_
  dsimp only
  refine seqIf (b := decide (way = 3)) (fun Q q => q) (fun h => ?_) (fun h => ?_)
  · refine ⟨many, 2, rfl, h1, h20, by omega, show m + 1 + 30 ≤ penLim by omega, fun ps i n' hs hp hn' => ?_⟩
    have hn' : n' ≤ m + 1 + 30 := hn'
    refine q (.room (.sum ps i)) n' rfl ⟨rfl, hs⟩ ?_ ?_ ?_ (by omega) <;> simp only [Lg.dz, Lg.np, Lg.nn] <;> omega
  · refine tk_ok (show m + 1 ≤ penLim by omega) (by rw [h3]; decide) (by rw [h3]; decide) fun r r0 r1 => ?_
    refine ixOne r0 r1 fun x hx => ?_
    have nx := hr3 x hx
    dsimp only [List.set]
    refine seqIf (b := decide (way < 3)) (fun Q q => q) (fun h => ?_) (fun h => ?_)
    · exact q (.row x) _ rfl nx (by simp only [Lg.dz]; omega) (by simp only [Lg.np]; omega) (by simp only [Lg.nn]; omega) (show m + 1 + 1 ≤ m + 80 by omega)
    · refine ⟨fun s' => ∃ g n', s' = { δ := [none, some (.int (many : Int)), some (.list rows), some (.int way), some (Lg.d g), none], n := n' } ∧ Lg.isRw g = true ∧ g.ok many ∧ g.dz ≤ 1 ∧ g.np = 0 ∧ g.nn ≤ 4 ∧ n' ≤ m + 10, ?_, ?_⟩
      · refine tk_ok (show m + 1 + 1 ≤ penLim by omega) (by decide) (by decide) fun r2 t0 t1 => ?_
        by_cases hz : r2 = 0
        · refine ifp (decide_eq_true hz) ?_
          refine tk_ok (show m + 1 + 1 + 1 ≤ penLim by omega) (by decide) (by decide) fun r3 u0 u1 => ?_
          refine ⟨rfl, show m + 1 + 1 + 1 + 1 + 3 ≤ penLim by omega, fun i n' hi hn' => ?_⟩
          have hn' : n' ≤ m + 1 + 1 + 1 + 1 + 3 := hn'
          refine ⟨.wth (.row x) (.sum [] r3) (.sum [] i), n', rfl, rfl, ⟨⟨rfl, nx⟩, ⟨rfl, sm_nil (Nat.le_trans (show r3.natAbs ≤ 10 by omega) (by decide))⟩, rfl, sm_nil (Nat.le_trans hi (by decide))⟩, ?_, ?_, ?_, by omega⟩ <;> simp [Lg.dz, Lg.np, Lg.nn]
        · refine ifn (by rw [decide_eq_false hz]; decide) ?_
          exact ⟨.row x, m + 1 + 1 + 1, rfl, rfl, nx, Nat.zero_le _, rfl, by simp only [Lg.nn]; omega, by omega⟩
      · rintro s' ⟨g, n', rfl, g1, g2, g3, g4, g5, hn'⟩
        refine ⟨many, 2, rfl, h1, h20, by omega, show n' + 30 ≤ penLim by omega, fun ps i n2 hs hp hn2 => ?_⟩
        have hn2 : n2 ≤ n' + 30 := hn2
        refine ⟨many, 2, rfl, h1, h20, by omega, show n2 + 30 ≤ penLim by omega, fun ps2 i2 n3 hs2 hp2 hn3 => ?_⟩
        have hn3 : n3 ≤ n2 + 30 := hn3
        refine q (.wth g (.sum ps i) (.sum ps2 i2)) n3 rfl ⟨⟨g1, g2⟩, ⟨rfl, hs⟩, rfl, hs2⟩ ?_ ?_ ?_ (by omega) <;> simp only [Lg.dz, Lg.np, Lg.nn] <;> omega
theorem ok_s_entry (T : Tx K mg) (O__law_take : Ok P w K mg base 2 "_law_take" ["_law_pen", "_law_many"] (spP K 1 .E takeF)) (O__law_s_sum : Ok P w K mg base 4 "_law_s_sum" ["_law_pen", "_law_many", "_law_most"] (spP K 2 .E smF)) (O__law_s_row : Ok P w K mg base 5 "_law_s_row" ["_law_pen", "_law_many", "_law_rows"] (spP K 2 .E rwF)) :
    Ok P w K mg base 6 "_law_s_entry" ["_law_pen", "_law_many", "_law_rows", "_law_most"] (spP K 3 .E enF) := by
  refine Ok.ofP (M := []) T.d__law_s_entry sc__law_s_entry rfl (by decide) (by decide) fun f cdv A outer s H E p c hr => ⟨_, _, (pss_cons (ps_set (i := 4) sc__law_s_entry.nd rfl (Or.inl rfl) (pe_fn O__law_take (hr.mono (by omega)) (by rfl) (pa_cons (pv 0) (pa_cons (pv 3) (pa_nil)))))
 (pss_cons (ps_if (pt_cmpR (eqG K rfl hr.units) (pv 4) (pe_int) (nomark _))
 (pss_one (ps_ret (pe_tupZ (pa_cons (pe_str) (pa_cons (pe_fn O__law_s_row (hr.mono (by omega)) (by rfl) (pa_cons (pv 0) (pa_cons (pv 1) (pa_cons (pv 2) (pa_nil))))) (pa_nil))))))
 (pss_nil))
 (pss_cons (ps_if (pt_cmpR op_lt (pv 4) (pe_int) (nomark _))
 (pss_cons (ps_set (i := 5) sc__law_s_entry.nd rfl (Or.inl rfl) (pe_fn O__law_s_row (hr.mono (by omega)) (by rfl) (pa_cons (pv 0) (pa_cons (pv 1) (pa_cons (pv 2) (pa_nil))))))
 (pss_one (ps_ret (pe_tupZ (pa_cons (pe_str) (pa_cons (pv 5) (pa_cons (pe_fn O__law_s_sum (hr.mono (by omega)) (by rfl) (pa_cons (pv 0) (pa_cons (pv 1) (pa_cons (pe_int) (pa_nil))))) (pa_nil))))))))
 (pss_nil))
 (pss_cons (ps_if (pt_cmpR op_lt (pv 4) (pe_int) (nomark _))
 (pss_cons (ps_set (i := 6) sc__law_s_entry.nd rfl (Or.inl rfl) (pe_fn O__law_s_sum (hr.mono (by omega)) (by rfl) (pa_cons (pv 0) (pa_cons (pv 1) (pa_cons (pe_int) (pa_nil))))))
 (pss_one (ps_ret (pe_tupZ (pa_cons (pe_ix (ixG K rfl (u65 hr.toRoom)) (pe_lst (pa_cons (pe_str) (pa_cons (pe_str) (pa_nil)))) (pe_op op_sub (pv 4) (pe_int)) (fun _ _ => rfl)) (pa_cons (pv 6) (pa_cons (pe_ix (ixG K rfl (u65 hr.toRoom)) (pe_lst (pa_cons (pe_int) (pa_cons (pe_int) (pa_cons (pe_int) (pa_cons (pe_int) (pa_cons (pe_op op_pow (pe_int) (pe_int)) (pa_nil))))))) (pe_fn O__law_take (hr.mono (by omega)) (by rfl) (pa_cons (pv 0) (pa_cons (pe_int) (pa_nil)))) (fun _ _ => rfl)) (pa_nil))))))))
 (pss_nil))
 (pss_cons (ps_setLc (i := 7) (own := [("_law_turn", 8)]) rfl sc__law_s_entry.nd rfl rfl (sw_true rfl rfl rfl (by decide +kernel)) (pi_range1 (by rfl) T.z_range (pa_cons (pe_op (addG K rfl) (pe_int) (pe_fn O__law_take (hr.mono (by omega)) (by rfl) (pa_cons (pv 0) (pa_cons (pe_int) (pa_nil))))) (pa_nil))) (blkOk_by (own := [("_law_turn", 8)]) (N := ["_law_pen", "_law_many", "_law_rows", "_law_most", "_law_way", "_law_row", "_law_one", "_law_places", "_law_turn"]) (sc := defScope s__law_s_entry) (by decide +kernel)) (fun _ _ _ _ _ => pg_nameL (i := 8) sc__law_s_entry.nd rfl rfl) (fun _ _ _ _ _ => pts_nil) (fun _ _ _ _ _ => pe_fn O__law_s_sum (hr.mono (by omega)) (by rfl) (pa_cons (pv 0) (pa_cons (pv 1) (pa_cons (pe_int) (pa_nil))))))
 (pss_cons (ps_if (pt_cmpR (eqG K rfl hr.units) (pv 4) (pe_int) (nomark _))
 (pss_one (ps_set (i := 7) sc__law_s_entry.nd rfl (Or.inl rfl) (pe_op (addG K rfl) (pe_lst (pa_cons (pe_fn O__law_s_row (hr.mono (by omega)) (by rfl) (pa_cons (pv 0) (pa_cons (pv 1) (pa_cons (pv 2) (pa_nil))))) (pa_nil))) (pv 7))))
 (pss_nil))
 (pss_one (ps_ret (pe_tupZ (pa_cons (pe_str) (pa_cons (pe_ix (ixG K rfl (u65 hr.toRoom)) (pe_lst (pa_cons (pe_str) (pa_cons (pe_str) (pa_nil)))) (pe_fn O__law_take (hr.mono (by omega)) (by rfl) (pa_cons (pv 0) (pa_cons (pe_int) (pa_nil)))) (fun _ _ => rfl)) (pa_cons (pe_callTy (tupQ K rfl) (by rfl) T.z_tuple boot_tuple (pa_cons (pv 7) (pa_nil))) (pa_nil))))))))))))),
 (simS_seq (simS_set 4 (nm rfl) (np rfl) (sim_callP (by simp) rfl (simA_cons (sim_var 3 (nm rfl)) (simA_nil))))
 (simS_seq (simS_if (simT_test (sim_op opA_eq (sim_var 4 (nm rfl)) (sim_int _)))
 (simS_ret (Sim.toE (sim_tup (by decide) (simA_cons (sim_str _) (simA_cons (sim_callP (by simp) rfl (simA_cons (sim_var 1 (nm rfl)) (simA_cons (sim_var 2 (nm rfl)) (simA_nil)))) (simA_nil))))))
 (simS_next))
 (simS_seq (simS_if (simT_test (sim_op (opA_cmp _) (sim_var 4 (nm rfl)) (sim_int _)))
 (simS_seq (simS_set 5 (nm rfl) (np rfl) (sim_callP (by simp) rfl (simA_cons (sim_var 1 (nm rfl)) (simA_cons (sim_var 2 (nm rfl)) (simA_nil)))))
 (simS_ret (Sim.toE (sim_tup (by decide) (simA_cons (sim_str _) (simA_cons (sim_var 5 (nm rfl)) (simA_cons (sim_callP (by simp) rfl (simA_cons (sim_var 1 (nm rfl)) (simA_cons (sim_int _) (simA_nil)))) (simA_nil))))))))
 (simS_next))
 (simS_seq (simS_if (simT_test (sim_op (opA_cmp _) (sim_var 4 (nm rfl)) (sim_int _)))
 (simS_seq (simS_set 6 (nm rfl) (np rfl) (sim_callP (by simp) rfl (simA_cons (sim_var 1 (nm rfl)) (simA_cons (sim_int _) (simA_nil)))))
 (simS_ret (Sim.toE (sim_tup (by decide) (simA_cons (opA_ix (sim_lst (by decide) (simA_cons (sim_str _) (simA_cons (sim_str _) (simA_nil)))) (sim_op opA_sub (sim_var 4 (nm rfl)) (sim_int _))) (simA_cons (sim_var 6 (nm rfl)) (simA_cons (opA_ix (sim_lst (by decide) (simA_cons (sim_int _) (simA_cons (sim_int _) (simA_cons (sim_int _) (simA_cons (sim_int _) (simA_cons (sim_op opA_pow (sim_int _) (sim_int _)) (simA_nil))))))) (sim_callP (by simp) rfl (simA_cons (sim_int _) (simA_nil)))) (simA_nil))))))))
 (simS_next))
 (simS_seq (simS_set 7 (nm rfl) (np rfl) (sim_lc (simI_range1 (sim_op opA_add (sim_int _) (sim_callP (by simp) rfl (simA_cons (sim_int _) (simA_nil))))) (simG_name 8 (nm rfl) (np rfl)) (simT_yes) (sim_callP (by simp) rfl (simA_cons (sim_var 1 (nm rfl)) (simA_cons (sim_int _) (simA_nil)))) (inv' rfl) (nmv rfl) (npv rfl)))
 (simS_cut (simS_if (simT_test (sim_op opA_eq (sim_var 4 (nm rfl)) (sim_int _)))
 (simS_set 7 (nm rfl) (np rfl) (sim_op opA_add (sim_lst (by decide) (simA_cons (sim_callP (by simp) rfl (simA_cons (sim_var 1 (nm rfl)) (simA_cons (sim_var 2 (nm rfl)) (simA_nil)))) (simA_nil))) (sim_var 7 (nm rfl))))
 (simS_next))
 (simS_ret (Sim.toE (sim_tup (by decide) (simA_cons (sim_str _) (simA_cons (opA_ix (sim_lst (by decide) (simA_cons (sim_str _) (simA_cons (sim_str _) (simA_nil)))) (sim_callP (by simp) rfl (simA_cons (sim_int _) (simA_nil)))) (simA_cons (sim_cb caA_tup (simA_cons (sim_var 7 (nm rfl)) (simA_nil))) (simA_nil))))))))))))), ?_⟩
  rintro ds m Q hl ⟨many, most, rows, rfl, h1, h20, ho, ho8, h3, hr3, hm, q⟩
  refine tk_ok (by (first | omega | (dsimp only; omega) | (dsimp only at *; omega))) (by (first | omega | (dsimp only; omega) | (dsimp only at *; omega))) (by (first | omega | (dsimp only; omega) | (dsimp only at *; omega))) fun way w0 w1 => ?_
  dsimp only
  refine seqIf (b := decide (way = 0)) (fun Q q => q) (fun h => ?_) (fun h => ?_)
  · refine ⟨many, rows, rfl, h1, h20, h3, hr3, show m + 1 + 80 ≤ penLim by omega, fun g n' g1 g2 g3 g4 g5 hn' => ?_⟩
    have hn' : n' ≤ m + 1 + 80 := hn'
    refine q (.size g) n' rfl ⟨g1, g2⟩ ?_ ?_ ?_ (by omega) <;> simp only [Lg.dz, Lg.np, Lg.nn] <;> omega
  refine seqIf (b := decide (way < 4)) (fun Q q => q) (fun h => ?_) (fun h => ?_)
  · refine ⟨many, rows, rfl, h1, h20, h3, hr3, show m + 1 + 80 ≤ penLim by omega, fun g n' g1 g2 g3 g4 g5 hn' => ?_⟩
    have hn' : n' ≤ m + 1 + 80 := hn'
    refine ⟨many, 2, rfl, h1, h20, by omega, show n' + 30 ≤ penLim by omega, fun ps i n2 hs hp hn2 => ?_⟩
    have hn2 : n2 ≤ n' + 30 := hn2
    refine q (.read g (.sum ps i)) n2 rfl ⟨⟨g1, g2⟩, rfl, hs⟩ ?_ ?_ ?_ (by omega) <;> simp only [Lg.dz, Lg.np, Lg.nn] <;> omega
  have h4 : ¬ way < 4 := by simpa using h
  refine seqIf (b := decide (way < 6)) (fun Q q => q) (fun h => ?_) (fun h => ?_)
  · have h6 : way < 6 := by simpa using h
    refine ⟨many, 2, rfl, h1, h20, by omega, show m + 1 + 30 ≤ penLim by omega, fun ps i n2 hs hp hn2 => ?_⟩
    have hn2 : n2 ≤ m + 1 + 30 := hn2
    have hw : way = 4 ∨ way = 5 := by omega
    have fin : ∀ (sg : Str) (mk : Int → Lg), (∀ v : Int, v.natAbs < 2 ^ 80 → (mk v).d = .tuple [.str sg, (Lg.sum ps i).d, .int v] ∧ (mk v).isAt = true ∧ (mk v).ok many ∧ (mk v).dz ≤ 4 ∧ (mk v).np ≤ 8 ∧ (mk v).nn ≤ 14) →
        (CPow 10 9 ∧ TakeP 5 n2 fun d n3 => ixD (.list [.int 1, .int 2, .int 3, .int 10, .int ((10 : Int) ^ (9 : Int).toNat)]) d fun d => Q (.tuple [.str sg, (Lg.sum ps i).d, d]) n3) := by
      intro sg mk hmk
      refine ⟨⟨by decide, by decide, by decide⟩, ?_⟩
      refine tk_ok (show n2 ≤ penLim by omega) (by decide) (by decide) fun r r0 r1 => ?_
      refine ixOne r0 r1 fun d hd => ?_
      have hi : ∃ v : Int, d = .int v ∧ v.natAbs < 2 ^ 80 := by
        simp only [List.mem_cons, List.not_mem_nil, or_false] at hd
        rcases hd with rfl | rfl | rfl | rfl | rfl <;> exact ⟨_, rfl, by decide⟩
      obtain ⟨v, rfl, hv⟩ := hi
      obtain ⟨e1, e2, e3, e4, e5, e6⟩ := hmk v hv
      rw [← e1]
      exact q (mk v) _ e2 e3 e4 e5 e6 (by omega)
    rcases hw with rfl | rfl
    · refine ix_ok 0 rfl rfl ?_
      refine fin (Str.ofString "div") (fun v => .div (.sum ps i) v) fun v hv => ⟨rfl, rfl, ⟨⟨rfl, hs⟩, hv⟩, ?_, ?_, ?_⟩ <;> simp only [Lg.dz, Lg.np, Lg.nn] <;> omega
    · refine ix_ok 1 rfl rfl ?_
      refine fin (Str.ofString "mod") (fun v => .mod (.sum ps i) v) fun v hv => ⟨rfl, rfl, ⟨⟨rfl, hs⟩, hv⟩, ?_, ?_, ?_⟩ <;> simp only [Lg.dz, Lg.np, Lg.nn] <;> omega
  · have body : ∀ (pl : Lg) (xs : List D) (n' : Nat), pl.d = .tuple xs → pl.isPl = true → pl.plen ≤ 2 → xs.length ≤ 2 → pl.ok many → pl.dz ≤ 1 → pl.np ≤ 4 → pl.nn ≤ 5 → n' ≤ m + 62 →
        (dCut (dIfS (dBl (dOp eqD (dV 4) (dC (PyData.int 7)))) (dSet 7 (dOp addD (dLst (dCons (dCallP rwF (dCons (dV 1) (dCons (dV 2) dNil))) dNil)) (dV 7))) dNext)
          (dRet (dTup (dCons (dC (PyData.str (Str.ofString "notion"))) (dCons (dOp ixD (dLst (dCons (dC (PyData.str (Str.ofString "f"))) (dCons (dC (PyData.str (Str.ofString "ff"))) dNil))) (dCallP takeF (dCons (dC (PyData.int 2)) dNil))) (dCons (dCB tupD (dCons (dV 7) dNil)) dNil))))))
          { nx := fun s => Q PyData.none s.n, rt := fun z s => Q z s.n } { δ := [none, some (.int (many : Int)), some (.list rows), some (.int (most : Int)), some (.int way), none, none, some (.list xs), none], n := n' } := by
      intro pl xs n' p1 p2 p3 pxl p4 p5 p6 p7 hn'
      refine ⟨fun s' => ∃ (pl : Lg) (xs : List D) (n' : Nat), s' = { δ := [none, some (.int (many : Int)), some (.list rows), some (.int (most : Int)), some (.int way), none, none, some (.list xs), none], n := n' } ∧ pl.d = .tuple xs ∧ pl.isPl = true ∧ pl.plen ≤ 3 ∧ pl.ok many ∧ pl.dz ≤ 3 ∧ pl.np ≤ 8 ∧ pl.nn ≤ 13 ∧ n' ≤ m + 142, ?_, ?_⟩
      · by_cases h7 : way = 7
        · refine ifsT (tstT (p := way = 7) (fun Q q => q) h7) ?_
          refine ⟨many, rows, rfl, h1, h20, h3, hr3, show n' + 80 ≤ penLim by omega, fun g n2 g1 g2 g3 g4 g5 hn2 => ?_⟩
          have hn2 : n2 ≤ n' + 80 := hn2
          refine ⟨show 1 + xs.length ≤ sizeLine from small_line (by omega), .pcons g pl, g.d :: xs, n2, rfl, ?_, p2, ?_, ⟨.inl g1, g2, p2, p4⟩, ?_, ?_, ?_, by omega⟩
          · show consD g.d pl.d = _
            rw [p1]
            rfl
          · show pl.plen + 1 ≤ 3
            omega
          all_goals simp only [Lg.dz, Lg.np, Lg.nn]
          all_goals omega
        · refine ifsF (tstF (p := way = 7) (fun Q q => q) h7) ?_
          exact ⟨pl, xs, n', rfl, p1, p2, by omega, p4, by omega, by omega, by omega, by omega⟩
      · rintro s' ⟨pl, xs, n', rfl, p1, p2, p3, p4, p5, p6, p7, hn'⟩
        refine tk_ok (show n' ≤ penLim by omega) (by decide) (by decide) fun r r0 r1 => ?_
        refine ixOne r0 r1 fun d hd => ?_
        have hx : Nm d := by
          simp only [List.mem_cons, List.not_mem_nil, or_false] at hd
          rcases hd with rfl | rfl
          · exact .inr ⟨_, rfl, by unfold small; decide +kernel⟩
          · exact .inr ⟨_, rfl, by unfold small; decide +kernel⟩
        have := q (.ntn d pl) (n' + 1) rfl ⟨hx, p2, by omega, p4⟩ (by simp only [Lg.dz]; omega) (by simp only [Lg.np]; omega) (by simp only [Lg.nn]; omega) (by omega)
        have e1 : (Lg.ntn d pl).d = .tuple [wT "notion", d, .tuple xs] := by
          show PyData.tuple [_, d, pl.d] = _
          rw [p1]
        rw [e1] at this
        exact this
    refine tk_ok (show m + 1 ≤ penLim by omega) (by decide) (by decide) fun r r0 r1 => ?_
    let R : Nat → D → Prop := fun _ d => ∃ ps i, d = (Lg.sum ps i).d ∧ SmOk many ps i ∧ ps.length ≤ 2
    have item : ∀ (N : D → S → Prop) (n : Nat) (a : Nat), n + 30 ≤ penLim → (∀ r n', R a r → n' ≤ n + 30 → ∀ s', wipeS s' [8] = ({ δ := [none, some (.int (many : Int)), some (.list rows), some (.int (most : Int)), some (.int way), none, none, none, none], n := n' } : S) → N r s') → (sName 8 (.int (0 + (a : Nat)))) { δ := [none, some (.int (many : Int)), some (.list rows), some (.int (most : Int)), some (.int way), none, none, none, none], n := n } fun s1 => (dCallP smF (dCons (dV 1) (dCons (dC (PyData.int 2)) dNil))) s1 N := by
      intro N n a hn hN
      exact ⟨many, 2, rfl, h1, h20, by omega, hn, fun ps i n2 hs hp hn2 => hN _ n2 ⟨ps, i, rfl, hs, hp⟩ hn2 _ rfl⟩
    have hr : r = 0 ∨ r = 1 := by omega
    rcases hr with rfl | rfl
    · refine ⟨⟨by decide, by decide⟩, by decide, ?_⟩
      refine lcPen (α := Nat) R (fun a => .int (0 + (a : Nat))) (fun n => { δ := [none, some (.int (many : Int)), some (.list rows), some (.int (most : Int)), some (.int way), none, none, none, none], n := n }) 30 penLim [0] [] (m + 1 + 1) (by simp only [List.length_cons, List.length_nil]; omega) (fun a _ n hn N hN => item N n a hn hN) fun rs n' hrs hn' => ?_
      obtain ⟨b, rfl, ps, i, rfl, hs, hp⟩ := all2_1 hrs
      simp only [List.length_cons, List.length_nil] at hn'
      refine body (.pcons (.sum ps i) .pnil) _ n' rfl rfl (by simp [Lg.plen]) (by simp) ⟨.inr rfl, hs, rfl, trivial⟩ ?_ ?_ ?_ (by omega) <;> simp only [Lg.dz, Lg.np, Lg.nn] <;> omega
    · refine ⟨⟨by decide, by decide⟩, by decide, ?_⟩
      refine lcPen (α := Nat) R (fun a => .int (0 + (a : Nat))) (fun n => { δ := [none, some (.int (many : Int)), some (.list rows), some (.int (most : Int)), some (.int way), none, none, none, none], n := n }) 30 penLim [0, 1] [] (m + 1 + 1) (by simp only [List.length_cons, List.length_nil]; omega) (fun a _ n hn N hN => item N n a hn hN) fun rs n' hrs hn' => ?_
      obtain ⟨b, b', rfl, ⟨ps, i, rfl, hs, hp⟩, ⟨ps2, i2, rfl, hs2, hp2⟩⟩ := all2_2 hrs
      simp only [List.length_cons, List.length_nil] at hn'
      refine body (.pcons (.sum ps i) (.pcons (.sum ps2 i2) .pnil)) _ n' rfl rfl (by simp [Lg.plen]) (by simp) ⟨.inr rfl, hs, rfl, .inr rfl, hs2, rfl, trivial⟩ ?_ ?_ ?_ (by omega) <;> simp only [Lg.dz, Lg.np, Lg.nn] <;> omega
end

/-! ### the pool drawn -/
theorem tB_mono (e : Nat) : tB e ≤ tB (e + 1) := by
  show tB e ≤ 8 * (tB e + 262) + 8000
  omega
section
variable {e : Nat} {pool : List Lg} {fm : Nat → D} {ar : Nat → Nat}
theorem PoolOk.mono (h : PoolOk e pool fm ar) : PoolOk (e + 1) pool fm ar := by
  have := h.l9
  exact ⟨h.l4, by omega, h.nm, h.ok, h.inj, fun j hj => (h.bt j hj).to (by omega) (tB_mono e), fun j hj => by have := h.az j hj; omega⟩
theorem PoolOk.add {g : Lg} (h : PoolOk e pool fm ar) (ha : g.isAt = true) (ho : g.ok pool.length) (hd : g.dz ≤ 4) (hp : g.np ≤ 8) (hn : g.nn ≤ 14) (hx : ∀ j, j < pool.length → fm j ≠ g.fo fm) :
    PoolOk (e + 1) (pool ++ [g]) (fun j => if j = pool.length then g.fo fm else fm j) (fun j => if j = pool.length then g.mz ar else ar j) := by
  have l4 := h.l4
  have l9 := h.l9
  have old : ∀ j, j < pool.length → (if j = pool.length then g.fo fm else fm j) = fm j := fun j hj => if_neg (by omega)
  have olda : ∀ j, j < pool.length → (if j = pool.length then g.mz ar else ar j) = ar j := fun j hj => if_neg (by omega)
  have len : (pool ++ [g]).length = pool.length + 1 := by simp
  have hbt := Lg.bt (H := 1 + 7 * e) (T := tB e) h.bt g ho
  have hmz := Lg.mz_le (A := 1 + 50 * e) h.az g ho
  refine ⟨by omega, by omega, fun j hj => ?_, fun j g' hg => ?_, fun i hi j hj hij => ?_, fun j hj => ?_, fun j hj => ?_⟩
  · rw [List.getElem?_append_left (by omega)]
    exact h.nm j hj
  · by_cases hj : j < pool.length
    · rw [List.getElem?_append_left hj] at hg
      obtain ⟨h1, h2, h3, h4⟩ := h.ok j g' hg
      refine ⟨h1, h2, ?_, ?_⟩
      · rw [old j hj, h3]
        exact Lg.fo_congr (m := j) (fun i hi => (old i (by omega)).symm) g' h2
      · rw [olda j hj, h4]
        exact Lg.mz_congr (m := j) (fun i hi => (olda i (by omega)).symm) g' h2
    · have hj2 : j < (pool ++ [g]).length := (List.getElem?_eq_some_iff.mp hg).1
      obtain rfl : j = pool.length := by omega
      rw [List.getElem?_append_right (Nat.le_refl _), Nat.sub_self] at hg
      cases hg
      refine ⟨ha, ho, ?_, ?_⟩
      · rw [if_pos rfl]
        exact Lg.fo_congr (m := pool.length) (fun i hi => (old i hi).symm) g ho
      · rw [if_pos rfl]
        exact Lg.mz_congr (m := pool.length) (fun i hi => (olda i hi).symm) g ho
  · rw [len] at hi hj
    by_cases h1 : i = pool.length <;> by_cases h2 : j = pool.length
    · omega
    · rw [if_pos h1, if_neg h2] at hij
      exact absurd hij.symm (hx j (by omega))
    · rw [if_neg h1, if_pos h2] at hij
      exact absurd hij (hx i (by omega))
    · rw [if_neg h1, if_neg h2] at hij
      exact h.inj i (by omega) j (by omega) hij
  · rw [len] at hj
    have hm : g.np * (tB e + 262) ≤ 8 * (tB e + 262) := Nat.mul_le_mul_right _ hp
    have e1 : tB (e + 1) = 8 * (tB e + 262) + 8000 := rfl
    split
    · exact hbt.to (by omega) (by omega)
    · exact (h.bt j (by omega)).to (by omega) (by omega)
  · rw [len] at hj
    split
    · omega
    · have := h.az j (by omega)
      omega
end
theorem pool0 {xs : List D} (h4 : 4 ≤ xs.length) (h6 : xs.length ≤ 6) (hn : ∀ x ∈ xs, Nm x) (nd : xs.Nodup) : PoolOk 0 (xs.map Lg.name) (fun j => .tuple [wT "name", (xs[j]?).getD .none]) (fun _ => 1) := by
  have len : (xs.map Lg.name).length = xs.length := List.length_map _
  refine ⟨by omega, by omega, fun j hj => ?_, fun j g hg => ?_, fun i hi j hj hij => ?_, fun j hj => ?_, fun j hj => Nat.le_refl _⟩
  · exact ⟨xs[j], by rw [List.getElem?_map, List.getElem?_eq_getElem (by omega)]; rfl⟩
  · rw [List.getElem?_map] at hg
    cases ex : xs[j]? with
    | none => rw [ex] at hg; cases hg
    | some x =>
      rw [ex] at hg
      cases hg
      refine ⟨rfl, hn x (List.mem_of_getElem? ex), ?_, rfl⟩
      first | rfl | (rw [ex]; rfl)
  · rw [len] at hi hj
    rw [List.getElem?_eq_getElem hi, List.getElem?_eq_getElem hj] at hij
    have : xs[i] = xs[j] := by
      injection hij with h1
      injection h1 with _ h2
      injection h2
    exact (List.getElem_inj nd).mp this
  · rw [len] at hj
    rw [List.getElem?_eq_getElem hj]
    exact (Bt.tup (h := 0) (BtL.cons (bt_w (by decide +kernel) (by decide +kernel)) (BtL.cons (hn _ (List.getElem_mem hj)).bt (BtL.nil (t := 0))))).to (by omega) (by decide)
def poF : DFP := fun ds n Q => ∃ (zs : List Str) (more most : Nat), ds = [.list (zs.map PyData.str), .int (more : Int), .int (most : Int)] ∧ zs.length = 3 ∧ zs.Nodup ∧ (∀ z ∈ zs, small z ∧ z ∉ kept3) ∧ more ≤ 3 ∧ 1 ≤ most ∧ most ≤ 8 ∧ n + 1000 ≤ penLim ∧
  ∀ pool fm ar n', PoolOk more pool fm ar → n' ≤ n + 1000 → Q (.list (pool.map Lg.d)) n'
section
variable {P : Program} {w : World} {K : PySem.W.Frag} {mg : Str → Option Value} {base : Heap}
theorem ok_s_pool (T : Tx K mg) (O__law_take : Ok P w K mg base 2 "_law_take" ["_law_pen", "_law_many"] (spP K 1 .E takeF)) (O__law_s_entry : Ok P w K mg base 6 "_law_s_entry" ["_law_pen", "_law_many", "_law_rows", "_law_most"] (spP K 3 .E enF)) (O__law_s_form : Ok P w K mg base 160 "_law_s_form" ["_law_pool", "_law_thing"] (spN K 2 .E (fmF 159))) :
    Ok P w K mg base 161 "_law_s_pool" ["_law_pen", "_law_names", "_law_more", "_law_most"] (spP K 3 .F poF) := by
  refine Ok.ofP (M := [5]) T.d__law_s_pool sc__law_s_pool rfl (by decide) (by decide) fun f cdv A outer s H E p c hr => ⟨_, _, (pss_cons (ps_set (i := 4) sc__law_s_pool.nd rfl (Or.inl rfl) (pe_lst (pa_cons (pe_ix (ixG K rfl (u65 hr.toRoom)) (pv 1) (pe_int) (fun _ _ => rfl)) (pa_cons (pe_int) (pa_cons (pe_str) (pa_nil))))))
 (pss_cons (ps_set (i := 5) sc__law_s_pool.nd rfl (Or.inr rfl) (pe_lst (pa_cons (pe_tupZ (pa_cons (pe_str) (pa_cons (pe_ix (ixG K rfl (u65 hr.toRoom)) (pv 1) (pe_int) (fun _ _ => rfl)) (pa_nil)))) (pa_cons (pe_tupZ (pa_cons (pe_str) (pa_cons (pe_ix (ixG K rfl (u65 hr.toRoom)) (pv 1) (pe_int) (fun _ _ => rfl)) (pa_nil)))) (pa_cons (pe_tupZ (pa_cons (pe_str) (pa_cons (pe_int) (pa_nil)))) (pa_cons (pe_tupZ (pa_cons (pe_str) (pa_cons (pe_op (addG K rfl) (pe_int) (pe_fn O__law_take (hr.mono (by omega)) (by rfl) (pa_cons (pv 0) (pa_cons (pe_int) (pa_nil))))) (pa_nil)))) (pa_nil)))))))
 (pss_cons (ps_set (i := 5) sc__law_s_pool.nd rfl (Or.inr rfl) (pe_op (addG K rfl) (pv 5) (pe_slice (slG K rfl) (pe_lst (pa_cons (pe_tupZ (pa_cons (pe_str) (pa_cons (pe_str) (pa_nil)))) (pa_cons (pe_tupZ (pa_cons (pe_str) (pa_cons (pe_str) (pa_nil)))) (pa_nil)))) po_none (po_some (pe_fn O__law_take (hr.mono (by omega)) (by rfl) (pa_cons (pv 0) (pa_cons (pe_int) (pa_nil))))))))
 (pss_cons (ps_for PassesOwn.never rfl (pi_range1 (by rfl) T.z_range (pa_cons (pv 2) (pa_nil))) (pg_nameL (i := 6) sc__law_s_pool.nd rfl rfl)
 (pss_cons (ps_set (i := 7) sc__law_s_pool.nd rfl (Or.inl rfl) (pe_fn O__law_s_entry (hr.mono (by omega)) (by rfl) (pa_cons (pv 0) (pa_cons (pe_callB (lenG K rfl) (by rfl) T.z_len boot_len (pa_cons (pv 5) pa_nil)) (pa_cons (pv 4) (pa_cons (pv 3) (pa_nil)))))))
 (pss_one (ps_if (pt_cmpR (ninG K rfl (u65 hr.toRoom)) (pe_fn O__law_s_form (hr.mono (by omega)) (by rfl) (pa_cons (pv 5) (pa_cons (pv 7) (pa_nil)))) (pe_lc (own := [("_law_other", 8)]) rfl sc__law_s_pool.nd (piL K rfl (pv 5)) (blkOk_by (own := [("_law_other", 8)]) (N := ["_law_pen", "_law_names", "_law_more", "_law_most", "_law_rows", "_law_pool", "_law_turn", "_law_one", "_law_other"]) (sc := defScope s__law_s_pool) (by decide +kernel)) (fun _ _ _ _ _ => pg_nameL (i := 8) sc__law_s_pool.nd rfl rfl) (fun _ _ _ _ _ => pts_nil) (fun _ _ _ _ _ => pe_fn O__law_s_form (hr.mono (by omega)) (by rfl) (pa_cons (pv 5) (pa_cons (pv 8) (pa_nil))))) (by rfl))
 (pss_one (ps_expr (appK K rfl (pv 5) (pv 7))))
 (pss_nil)))))
 (pss_one (ps_ret (pv 5))))))),
 (simS_seq (simS_set 4 (nm rfl) (np rfl) (sim_lst (by decide) (simA_cons (opA_ix (sim_var 1 (nm rfl)) (sim_int _)) (simA_cons (sim_int _) (simA_cons (sim_str _) (simA_nil))))))
 (simS_seq (simS_setM 5 (ym rfl) (nb rfl) (sim_lst (by decide) (simA_cons (sim_tup (by decide) (simA_cons (sim_str _) (simA_cons (opA_ix (sim_var 1 (nm rfl)) (sim_int _)) (simA_nil)))) (simA_cons (sim_tup (by decide) (simA_cons (sim_str _) (simA_cons (opA_ix (sim_var 1 (nm rfl)) (sim_int _)) (simA_nil)))) (simA_cons (sim_tup (by decide) (simA_cons (sim_str _) (simA_cons (sim_int _) (simA_nil)))) (simA_cons (sim_tup (by decide) (simA_cons (sim_str _) (simA_cons (sim_op opA_add (sim_int _) (sim_callP (by simp) rfl (simA_cons (sim_int _) (simA_nil)))) (simA_nil)))) (simA_nil)))))))
 (simS_cut (simS_setM 5 (ym rfl) (nb rfl) (sim_opM 5 (ym rfl) opA_add (sim_sl (sim_lst (by decide) (simA_cons (sim_tup (by decide) (simA_cons (sim_str _) (simA_cons (sim_str _) (simA_nil)))) (simA_cons (sim_tup (by decide) (simA_cons (sim_str _) (simA_cons (sim_str _) (simA_nil)))) (simA_nil)))) simO_none (simO_some (sim_callP (by simp) rfl (simA_cons (sim_int _) (simA_nil)))))))
 (simS_cut (simS_for (simI_range1 (sim_var 2 (nm rfl))) (simG_name 6 (nm rfl) (np rfl))
 (simS_seq (simS_set 7 (nm rfl) (np rfl) (sim_callP (by simp) rfl (simA_cons (sim_cbM 5 (ym rfl) caA_len) (simA_cons (sim_var 4 (nm rfl)) (simA_cons (sim_var 3 (nm rfl)) (simA_nil))))))
 (simS_if (simT_test (sim_lend 5 rfl (by simp) rfl (sim_op opA_nin (sim_call (simA_cons (sim_var 5 (nm rfl)) (simA_cons (sim_var 7 (nm rfl)) (simA_nil)))) (sim_lc (simI_list (sim_var 5 (nm rfl))) (simG_name 8 (nm rfl) (np rfl)) (simT_yes) (sim_call (simA_cons (sim_var 5 (nm rfl)) (simA_cons (sim_var 8 (nm rfl)) (simA_nil)))) (inv' rfl) (nmv rfl) (npv rfl)))))
 (simS_drop (sim_mt 5 (ym rfl) mtA_app (simA_cons (sim_var 7 (nm rfl)) simA_nil)))
 (simS_next))))
 (simS_retM 5 (ym rfl) (nb rfl)))))), ?_⟩
  rintro ds m Q hl ⟨zs, more, most, rfl, z3, znd, zok, hmore, ho, ho8, hm, q⟩
  obtain ⟨z0, z1, z2, rfl⟩ : ∃ a b c, zs = [a, b, c] := by
    match zs, z3 with
    | [a, b, c], _ => exact ⟨a, b, c, rfl⟩
  obtain ⟨s0, n0⟩ := zok z0 (by simp)
  obtain ⟨s1, n1⟩ := zok z1 (by simp)
  obtain ⟨s2, n2⟩ := zok z2 (by simp)
  have n01 : z0 ≠ z1 := by
    intro e
    rw [e] at znd
    simp at znd
  have kn : ∀ z, z ∉ kept3 → z ≠ Str.ofString "left" ∧ z ≠ Str.ofString "own" := fun z h => ⟨fun e => h (by rw [e]; simp [kept3]), fun e => h (by rw [e]; simp [kept3])⟩
  obtain ⟨a1, a2⟩ := kn z0 n0
  obtain ⟨b1, b2⟩ := kn z1 n1
  refine ix_ok 2 rfl rfl ?_
  refine ix_ok 0 rfl rfl (ix_ok 1 rfl rfl ?_)
  refine tk_ok (by (first | omega | (dsimp only; omega) | (dsimp only at *; omega))) (by decide) (by decide) fun r r0 r1 => ?_
  let rows : List D := [.str z2, .int 1, .str (Str.ofString "given")]
  have hrows : ∀ x ∈ rows, Nm x := fun x hx => by
    simp only [rows, List.mem_cons, List.not_mem_nil, or_false] at hx
    rcases hx with rfl | rfl | rfl
    · exact .inr ⟨_, rfl, s2⟩
    · exact .inl ⟨_, rfl, by decide⟩
    · exact .inr ⟨_, rfl, by unfold small; decide +kernel⟩
  let St : List D → Option D → Option D → Nat → S := fun xs o6 o7 n => { δ := [none, some (.list [.str z0, .str z1, .str z2]), some (.int (more : Int)), some (.int (most : Int)), some (.list rows), some (.list xs), o6, o7, none], n := n }
  refine ⟨rfl, ⟨fun s' => ∃ pool fm ar n', s' = St (pool.map Lg.d) none none n' ∧ PoolOk 0 pool fm ar ∧ n' ≤ m + 2, ?_, ?_⟩⟩
  · refine ⟨⟨_, rfl⟩, ?_⟩
    refine tk_ok (show m + 1 ≤ penLim by omega) (by decide) (by decide) fun k k0 k1 => ?_
    have nmL : Nm (.str (Str.ofString "left")) := .inr ⟨_, rfl, by unfold small; decide +kernel⟩
    have nmO : Nm (.str (Str.ofString "own")) := .inr ⟨_, rfl, by unfold small; decide +kernel⟩
    have base4 : ∀ x ∈ [PyData.str z0, .str z1, .int 0, .int (7 + r)], Nm x := fun x hx => by
      simp only [List.mem_cons, List.not_mem_nil, or_false] at hx
      rcases hx with rfl | rfl | rfl | rfl
      · exact .inr ⟨_, rfl, s0⟩
      · exact .inr ⟨_, rfl, s1⟩
      · exact .inl ⟨_, rfl, by decide⟩
      · exact .inl ⟨_, rfl, by omega⟩
    have lo : Str.ofString "left" ≠ Str.ofString "own" := by decide +kernel
    have r7 : (0 : Int) ≠ 7 + r := by omega
    have hk : k = 0 ∨ k = 1 ∨ k = 2 := by omega
    rcases hk with rfl | rfl | rfl
    · refine ⟨show 4 + 0 ≤ sizeLine by decide, rfl, [.name (.str z0), .name (.str z1), .name (.int 0), .name (.int (7 + r))], _, _, m + 1 + 1, rfl, pool0 (xs := [.str z0, .str z1, .int 0, .int (7 + r)]) (by simp) (by simp) base4 ?_, by omega⟩
      simp [n01, r7]
    · refine ⟨show 4 + 1 ≤ sizeLine by decide, rfl, [.name (.str z0), .name (.str z1), .name (.int 0), .name (.int (7 + r)), .name (.str (Str.ofString "left"))], _, _, m + 1 + 1, rfl, pool0 (xs := [.str z0, .str z1, .int 0, .int (7 + r), .str (Str.ofString "left")]) (by simp) (by simp) (fun x hx => ?_) ?_, by omega⟩
      · rcases List.mem_append.mp (show x ∈ [PyData.str z0, .str z1, .int 0, .int (7 + r)] ++ [.str (Str.ofString "left")] from hx) with hx | hx
        · exact base4 x hx
        · rw [List.mem_singleton.mp hx]; exact nmL
      · simp [n01, r7, a1, b1]
    · refine ⟨show 4 + 2 ≤ sizeLine by decide, rfl, [.name (.str z0), .name (.str z1), .name (.int 0), .name (.int (7 + r)), .name (.str (Str.ofString "left")), .name (.str (Str.ofString "own"))], _, _, m + 1 + 1, rfl, pool0 (xs := [.str z0, .str z1, .int 0, .int (7 + r), .str (Str.ofString "left"), .str (Str.ofString "own")]) (by simp) (by simp) (fun x hx => ?_) ?_, by omega⟩
      · rcases List.mem_append.mp (show x ∈ [PyData.str z0, .str z1, .int 0, .int (7 + r)] ++ [.str (Str.ofString "left"), .str (Str.ofString "own")] from hx) with hx | hx
        · exact base4 x hx
        · simp only [List.mem_cons, List.not_mem_nil, or_false] at hx
          rcases hx with rfl | rfl
          · exact nmL
          · exact nmO
      · simp [n01, r7, a1, b1, a2, b2, lo]
  · rintro s' ⟨pool, fm, ar, n', rfl, hp, hn'⟩
    refine ⟨fun s' => ∃ pool fm ar o6 o7 n', s' = St (pool.map Lg.d) o6 o7 n' ∧ PoolOk more pool fm ar ∧ n' ≤ m + 2 + 200 * more, ?_, ?_⟩
    · refine ⟨⟨by (first | omega | (dsimp only; omega) | (dsimp only at *; omega)), by (first | omega | (dsimp only; omega) | (dsimp only at *; omega))⟩, ?_⟩
      rw [Int.toNat_natCast]
      refine forD_ind (fun idx s' => ∃ pool fm ar o6 o7 n', s' = St (pool.map Lg.d) o6 o7 n' ∧ PoolOk idx pool fm ar ∧ n' ≤ m + 2 + 200 * idx) ⟨pool, fm, ar, none, none, n', rfl, hp, by omega⟩ ?_ ?_
      · rintro idx d s' N hi ⟨pool, fm, ar, o6, o7, n', rfl, hp, hn'⟩ hN
        obtain ⟨hi, rfl⟩ := rgD_get hi
        have l4 := hp.l4
        have l9 := hp.l9
        have lp : (pool.map Lg.d).length = pool.length := List.length_map _
        refine ⟨pool.length, most, rows, by rw [← lp], by omega, by omega, ho, ho8, rfl, hrows, show n' + 200 ≤ penLim by omega, fun g n2 g1 g2 g3 g4 g5 hn2 => ?_⟩
        have hn2 : n2 ≤ n' + 200 := hn2
        have mzl : ∀ g : Lg, g.ok pool.length → g.dz ≤ 4 → g.mz ar ≤ 159 := fun g h1 h2 => by
          have := Lg.mz_le (A := 1 + 50 * idx) hp.az g h1
          omega
        have atpl : ∀ {g : Lg}, g.isAt = true → g.isPl = false := fun {g} h => by cases g <;> first | rfl | cases h
        have gm : ∀ x ∈ pool.map (Lg.fo fm), ∃ j, j < pool.length ∧ x = fm j := fun x hx => by
          obtain ⟨g', mg', rfl⟩ := List.mem_map.mp hx
          obtain ⟨j, hj, ej⟩ := List.getElem_of_mem mg'
          refine ⟨j, hj, ?_⟩
          rw [(hp.ok j g' (by rw [List.getElem?_eq_getElem hj, ej])).2.2.1]
        have bts := Lg.bt (H := 1 + 7 * idx) (T := tB idx) hp.bt g g2
        have t1 : tB idx ≤ 1000000 := tB_le (by omega)
        have hmul : g.np * (tB idx + 262) ≤ 8 * (tB idx + 262) := Nat.mul_le_mul_right _ g4
        have sh1 : Sh (g.fo fm) := bts.sh (by omega)
        have sh2 : Sh (.list (pool.map (Lg.fo fm))) := (Bt.lst (BtL.all (h := 1 + 7 * idx) (t := tB idx) fun x hx => by
          obtain ⟨j, hj, rfl⟩ := gm x hx
          exact hp.bt j hj)).sh (by omega)
        have gfg : Gf (g.fo fm) := Lg.gf hp.gf' g g2
        show (dIfS (dBl (dLend (dOp (inD true) (dCall (fmF 159) (dCons (dV 5) (dCons (dV 7) dNil))) (dLc (fun s Q => dV 5 s fun d s1 => match d with | PyData.list ds => Q ds s1 | _ => False) (sName 8) dYes (dCall (fmF 159) (dCons (dV 5) (dCons (dV 8) dNil))) [8])))) (dDrop (dMt appM 5 (dCons (dV 7) dNil))) dNext) _ (St (pool.map Lg.d) (some (.int (0 + (idx : Nat)))) (some g.d) n2)
        refine ⟨idx, pool, fm, ar, g, by omega, hp, rfl, atpl g1, g2, mzl g g2 g3, ?_⟩
        refine ⟨Nat.le_trans (show (pool.map Lg.d).length ≤ 20 by omega) (by decide), lcAll (pool.map Lg.d) (pool.map (Lg.fo fm)) [] _ (by simp) (fun j p x h1 h2 N hN => ?_) ?_⟩
        · rw [List.getElem?_map] at h1 h2
          cases eg : pool[j]? with
          | none => rw [eg] at h1; cases h1
          | some g' =>
            rw [eg] at h1 h2
            cases h1
            cases h2
            obtain ⟨o1, o2, o3, o4⟩ := hp.ok j g' eg
            have hj : j < pool.length := (List.getElem?_eq_some_iff.mp eg).1
            have := hp.az j hj
            exact ⟨idx, pool, fm, ar, g', by omega, hp, rfl, atpl o1, Lg.ok_mono (Nat.le_of_lt hj) _ o2, by omega, hN _ rfl⟩
        rw [List.nil_append]
        refine .inr ⟨sh1, sh2, rfl, rfl, ?_⟩
        cases ha : (pool.map (Lg.fo fm)).any fun z => PyData.eqv z (g.fo fm) with
        | true =>
          refine ifn (by decide) ?_
          exact hN _ ⟨pool, fm, ar, _, _, n2, rfl, hp.mono, by omega⟩
        | false =>
          refine ifp rfl ?_
          have hx : ∀ j, j < pool.length → fm j ≠ g.fo fm := fun j hj e => by
            rw [List.any_eq_false] at ha
            have mj : fm j ∈ pool.map (Lg.fo fm) := by
              have e1 := (hp.ok j _ (List.getElem?_eq_getElem hj)).2.2.1
              rw [e1]
              exact List.mem_map_of_mem (List.getElem_mem hj)
            have := ha _ mj
            rw [e, SeqAt.eqv_refl _ (SeqAt.canLay_of_shaped sh1)] at this
            exact this rfl
          refine ⟨⟨_, rfl⟩, Nat.lt_of_le_of_lt (show (pool.map Lg.d).length ≤ 20 by omega) (by decide), ?_⟩
          refine hN _ ⟨pool ++ [g], _, _, some (.int (0 + (idx : Nat))), some g.d, n2, ?_, hp.add g1 g2 g3 g4 g5 hx, by omega⟩
          simp only [St, List.map_append]
          rfl
      · rintro s' ⟨pool, fm, ar, o6, o7, n', rfl, hp, hn'⟩
        rw [rgD_len] at hp hn'
        exact ⟨pool, fm, ar, o6, o7, n', rfl, hp, hn'⟩
    · rintro s' ⟨pool, fm, ar, o6, o7, n', rfl, hp, hn'⟩
      exact q pool fm ar n' hp (show n' ≤ m + 1000 by omega)
end

/-! ### what parts come to -/
def entD (P : List Pn) (j : Nat) : D := .tuple [atO P j, .int (wOf P j)]
def dueK (P : List Pn) (ks : List Nat) : List D := (ks.filter fun j => !decide (wOf P j = 0)).map (entD P)
def dueL (P : List Pn) : List D := dueK P (metL (P.map (·.1)))
def duF : DF := fun ds Q => ∃ (m c : Nat) (fm : Nat → D) (L : List Lf), ds = [.list (L.map Lf.d)] ∧ L.length ≤ 60 ∧ (∀ l ∈ L, LfG m c fm l) ∧ Q (.tuple [.tuple (dueL (pL L)), .int (nsL L)])
/-- a comprehension with a test -/
theorem lcSel {g : D → S → (S → Prop) → Prop} {c : DB} {e : DT} {vs : List Nat} {Q : List D → S → Prop} {s : S} (b : Lf → Bool) (out : Lf → D) : ∀ (L : List Lf) (acc : List D),
    (∀ l ∈ L, ∀ (N : D → S → Prop) (M : S → Prop), (b l = true → ∀ s', wipeS s' vs = s → N (out l) s') → (b l = false → ∀ s', wipeS s' vs = s → M s') → g l.d s fun s1 => c s1 fun k s2 => if k = true then e s2 N else M s2) →
    Q (acc ++ (L.filter b).map out) s → lcD g c e vs Q (L.map Lf.d) acc s
  | [], acc, _, q => by
    rw [List.filter_nil, List.map_nil, List.append_nil] at q
    exact q
  | l :: L, acc, h, q => by
    show g l.d s fun s1 => c s1 fun k s2 => if k = true then e s2 fun y s3 => lcD g c e vs Q (L.map Lf.d) (acc ++ [y]) (wipeS s3 vs) else lcD g c e vs Q (L.map Lf.d) acc (wipeS s2 vs)
    refine h l (List.mem_cons_self ..) (fun y s3 => lcD g c e vs Q (L.map Lf.d) (acc ++ [y]) (wipeS s3 vs)) (fun s2 => lcD g c e vs Q (L.map Lf.d) acc (wipeS s2 vs)) (fun hb s' es => ?_) (fun hb s' es => ?_)
    · rw [es]
      refine lcSel b out L _ (fun l m => h l (List.mem_cons_of_mem _ m)) ?_
      rw [List.filter_cons_of_pos hb, List.map_cons] at q
      rw [List.append_assoc]
      exact q
    · rw [es]
      refine lcSel b out L _ (fun l m => h l (List.mem_cons_of_mem _ m)) ?_
      rw [List.filter_cons_of_neg (by rw [hb]; decide)] at q
      exact q
theorem any_kI (ks : List Nat) (j : Nat) : ((ks.map kI).any fun z => eqF z (.int ((j : Nat) : Int))) = decide (j ∈ ks) := by
  rw [Bool.eq_iff_iff, List.any_eq_true, decide_eq_true_eq]
  constructor
  · rintro ⟨z, mz, hz⟩
    obtain ⟨i, mi, rfl⟩ := List.mem_map.mp mz
    have : (((i : Nat) : Int) == ((j : Nat) : Int)) = true := hz
    rw [beq_iff_eq] at this
    have : i = j := by omega
    exact this ▸ mi
  · intro h
    refine ⟨kI j, List.mem_map_of_mem h, ?_⟩
    show (((j : Nat) : Int) == ((j : Nat) : Int)) = true
    simp
def isK (j : Nat) (l : Lf) : Bool := decide (l.k = some j)
theorem pL_sel (L : List Lf) (j : Nat) : ((pL L).filter fun p => decide (p.1 = j)) = (L.filter (isK j)).map fun l => (j, l.t.d, l.w) := by
  induction L with
  | nil => rfl
  | cons l L ih =>
    have e : pL (l :: L) = pL [l] ++ pL L := pL_app [l] L
    rw [e, List.filter_append, ih]
    unfold isK pL
    cases h : l.k with
    | none => simp [h]
    | some i =>
      by_cases hij : i = j
      · subst hij
        simp [h]
      · simp [h, hij]
theorem wOf_sel (L : List Lf) (j : Nat) : wOf (pL L) j = ((L.filter (isK j)).map fun l => l.w).sum := by
  unfold wOf
  rw [pL_sel, List.map_map]
  rfl
theorem atO_sel (L : List Lf) (j : Nat) : atO (pL L) j = (((L.filter (isK j)).map fun l => l.t.d).head?).getD .none := by
  unfold atO
  rw [pL_sel, List.map_map]
  rfl
theorem ks_take {L : List Lf} {i : Nat} {l : Lf} (h : L[i]? = some l) : (pL (L.take (i + 1))).map (·.1) = (pL (L.take i)).map (·.1) ++ (match l.k with | some j => [j] | none => []) := by
  rw [List.take_add_one, h, pL_app, List.map_append]
  congr 1
  unfold pL
  cases e : l.k with
  | none => simp [e]
  | some j => simp [e]
theorem ns_sel {m c : Nat} {fm : Nat → D} : ∀ {L : List Lf}, (∀ l ∈ L, LfG m c fm l) → nsL L = ((L.filter fun l => decide (l.k = none)).map fun l => l.t.sm.nu l.w).sum
  | [], _ => rfl
  | l :: L, h => by
    have ih := ns_sel (L := L) fun x mx => h x (List.mem_cons_of_mem _ mx)
    unfold nsL at ih ⊢
    rw [List.map_cons, List.sum_cons, ih]
    cases e : l.k with
    | none => rw [List.filter_cons_of_pos (by simp [e]), List.map_cons, List.sum_cons]
    | some j => rw [List.filter_cons_of_neg (by simp [e]), nu_leaf (h l (List.mem_cons_self ..)) e, Int.zero_add]
theorem kD_eq (k : Option Nat) (j : Nat) : ∀ (Q : D → Prop), Q (.bool (decide (k = some j))) → eqD (kD k) (.int ((j : Nat) : Int)) Q := by
  intro Q q
  cases k with
  | none =>
    show Q (.bool (decide ((-1 : Int) = ((j : Nat) : Int))))
    rw [decide_eq_false (show ¬ (-1 : Int) = ((j : Nat) : Int) by omega)]
    exact q
  | some i =>
    show Q (.bool (decide (((i : Nat) : Int) = ((j : Nat) : Int))))
    have : decide (((i : Nat) : Int) = ((j : Nat) : Int)) = decide (some i = some j) := by
      rw [decide_eq_decide]
      constructor
      · intro h
        rw [show i = j by omega]
      · intro h
        cases h
        rfl
    rw [this]
    exact q
theorem g3 {i j k : Nat} {x y z : D} {s : S} {Q : S → Prop} (h : Q { s with δ := ((s.δ.set i (some x)).set j (some y)).set k (some z) }) : sTup 3 (sCons (sName i) (sCons (sName j) (sCons (sName k) sNil))) (.tuple [x, y, z]) s Q := ⟨rfl, h⟩
theorem tK {i i' : Nat} {k : Option Nat} {j : Nat} {s : S} (hi : s.δ[i]? = some (some (kD k))) (hj : s.δ[i']? = some (some (.int ((j : Nat) : Int)))) : Tst (dBl (dOp eqD (dV i) (dV i'))) s (decide (k = some j)) := fun Q q => by
  unfold dBl dOp dV
  simp only [hi, hj]
  exact kD_eq k j _ q
theorem tK0 {i : Nat} {k : Option Nat} {s : S} (hi : s.δ[i]? = some (some (kD k))) : Tst (dBl (dOp (cmpD fun i j => decide (i < j)) (dV i) (dC (.int 0)))) s (decide (k = none)) := fun Q q => by
  unfold dBl dOp dV
  simp only [hi]
  cases k with
  | none => exact q
  | some j =>
    show Q (decide (((j : Nat) : Int) < 0)) s
    rw [decide_eq_false (show ¬ ((j : Nat) : Int) < 0 by omega)]
    exact q
theorem ints_is : ∀ ns : List Int, intsOf (ns.map PyData.int) = some ns
  | [] => rfl
  | n :: ns => by
    have ih := ints_is ns
    simp only [List.map_cons, intsOf, ih]
    rfl
theorem metL_len (ks : List Nat) : (metL ks).length ≤ ks.length := by
  induction ks using snocInd with
  | h0 => exact Nat.le_refl _
  | h1 ks k ih =>
    rw [metL_snoc, List.length_append]
    split
    · omega
    · rw [List.length_append]
      simp only [List.length_cons, List.length_nil]
      omega
theorem ks_len (L : List Lf) : ((pL L).map (·.1)).length ≤ L.length := by
  rw [List.length_map]
  exact List.length_filterMap_le _ _
section
variable {P : Program} {w : World} {K : PySem.W.Frag} {mg : Str → Option Value} {base : Heap}
theorem ok_s_due (T : Tx K mg) : Ok P w K mg base 1 "_law_s_due" ["_law_leaves"] (spN K 1 .E duF) := by
  refine Ok.ofN (M := [5]) T.d__law_s_due sc__law_s_due rfl (by decide) fun f cdv A outer s H E hr => ⟨_, _, (pss_cons (ps_set (i := 1) sc__law_s_due.nd rfl (Or.inl rfl) (pe_lst (pa_nil)))
 (pss_cons (ps_for PassesOwn.never rfl (piL K rfl (pv 0)) (pgT K rfl 3 rfl (pgs_cons (pg_name (i := 2) sc__law_s_due.nd rfl (Or.inr rfl)) (pgs_cons (pg_nameL (i := 3) sc__law_s_due.nd rfl rfl) (pgs_cons (pg_nameL (i := 4) sc__law_s_due.nd rfl rfl) (pgs_nil)))))
 (pss_one (ps_if (PW.pt (pw_and (pt_cmpR op_ge (pv 2) (pe_int) (nomark _)) (pw_and1 (pt_cmpR (ninG K rfl (u65 hr.toRoom)) (pv 2) (pv 1) (by rfl)))))
 (pss_one (ps_expr (appK K rfl (pv 1) (pv 2))))
 (pss_nil))))
 (pss_cons (ps_set (i := 5) sc__law_s_due.nd rfl (Or.inl rfl) (pe_lst (pa_nil)))
 (pss_cons (ps_for PassesOwn.never rfl (piL K rfl (pv 1)) (pg_name (i := 2) sc__law_s_due.nd rfl (Or.inr rfl))
 (pss_cons (ps_set (i := 4) sc__law_s_due.nd rfl (Or.inl rfl) (pe_callB (sumG K rfl rfl) (by rfl) T.z_sum boot_sum (pa_cons (pe_lc (own := [("_law_j", 6), ("_law_thing", 3), ("_law_often", 7)]) rfl sc__law_s_due.nd (piL K rfl (pv 0)) (blkOk_by (own := [("_law_j", 6), ("_law_thing", 3), ("_law_often", 7)]) (N := ["_law_leaves", "_law_met", "_law_k", "_law_thing", "_law_weight", "_law_found", "_law_j", "_law_often"]) (sc := defScope s__law_s_due) (by decide +kernel)) (fun _ _ _ _ _ => pgT K rfl 3 rfl (pgs_cons (pg_nameL (i := 6) sc__law_s_due.nd rfl rfl) (pgs_cons (pg_nameL (i := 3) sc__law_s_due.nd rfl rfl) (pgs_cons (pg_nameL (i := 7) sc__law_s_due.nd rfl rfl) (pgs_nil))))) (fun _ _ _ _ _ => pts_one (pt_cmpR (eqG K rfl hr.units) (pv 6) (pv 2) (nomark _))) (fun _ _ _ _ _ => pv 7)) (pa_nil))))
 (pss_one (ps_if (pt_cmpR (neG K rfl hr.units) (pv 4) (pe_int) (nomark _))
 (pss_one (ps_expr (appK K rfl (pv 5) (pe_tupZ (pa_cons (pe_ix (ixG K rfl (u65 hr.toRoom)) (pe_lc (own := [("_law_j", 6), ("_law_thing", 3), ("_law_often", 7)]) rfl sc__law_s_due.nd (piL K rfl (pv 0)) (blkOk_by (own := [("_law_j", 6), ("_law_thing", 3), ("_law_often", 7)]) (N := ["_law_leaves", "_law_met", "_law_k", "_law_thing", "_law_weight", "_law_found", "_law_j", "_law_often"]) (sc := defScope s__law_s_due) (by decide +kernel)) (fun _ _ _ _ _ => pgT K rfl 3 rfl (pgs_cons (pg_nameL (i := 6) sc__law_s_due.nd rfl rfl) (pgs_cons (pg_nameL (i := 3) sc__law_s_due.nd rfl rfl) (pgs_cons (pg_nameL (i := 7) sc__law_s_due.nd rfl rfl) (pgs_nil))))) (fun _ _ _ _ _ => pts_one (pt_cmpR (eqG K rfl hr.units) (pv 6) (pv 2) (nomark _))) (fun _ _ _ _ _ => pv 3)) (pe_int) (fun _ _ => rfl)) (pa_cons (pv 4) (pa_nil)))))))
 (pss_nil)))))
 (pss_one (ps_ret (pe_tupZ (pa_cons (pe_callTy (tupQ K rfl) (by rfl) T.z_tuple boot_tuple (pa_cons (pv 5) pa_nil)) (pa_cons (pe_callB (sumG K rfl rfl) (by rfl) T.z_sum boot_sum (pa_cons (pe_lc (own := [("_law_j", 6), ("_law_thing", 3), ("_law_often", 7)]) rfl sc__law_s_due.nd (piL K rfl (pv 0)) (blkOk_by (own := [("_law_j", 6), ("_law_thing", 3), ("_law_often", 7)]) (N := ["_law_leaves", "_law_met", "_law_k", "_law_thing", "_law_weight", "_law_found", "_law_j", "_law_often"]) (sc := defScope s__law_s_due) (by decide +kernel)) (fun _ _ _ _ _ => pgT K rfl 3 rfl (pgs_cons (pg_nameL (i := 6) sc__law_s_due.nd rfl rfl) (pgs_cons (pg_nameL (i := 3) sc__law_s_due.nd rfl rfl) (pgs_cons (pg_nameL (i := 7) sc__law_s_due.nd rfl rfl) (pgs_nil))))) (fun _ _ _ _ _ => pts_one (pt_cmpR op_lt (pv 6) (pe_int) (nomark _))) (fun _ _ _ _ _ => pe_op mulG (pe_ix (ixG K rfl (u65 hr.toRoom)) (pv 3) (pe_int) (fun _ _ => rfl)) (pv 7))) (pa_nil))) (pa_nil)))))))))),
 (simS_phase 1 (nm rfl) (np rfl) (nb rfl) (sim_lst (by decide) (simA_nil)) (simS_for (simI_list (sim_var 0 (nm rfl))) (simG_tup (simGs_cons (simG_name 2 (nm rfl) (np rfl)) (simGs_cons (simG_name 3 (nm rfl) (np rfl)) (simGs_cons (simG_name 4 (nm rfl) (np rfl)) (simGs_nil)))))
 (simS_if (simT_and (simT_test (sim_op (opA_cmp _) (sim_var 2 (nm rfl)) (sim_int _))) (simT_test (sim_opR 1 (ym rfl) opA_nin (sim_var 2 (nm rfl)))))
 (simS_drop (sim_mt 1 (ym rfl) mtA_app (simA_cons (sim_var 2 (nm rfl)) simA_nil)))
 (simS_next)))
 (simS_seq (simS_setM 5 (ym rfl) (nb rfl) (sim_lst (by decide) (simA_nil)))
 (simS_cut (simS_for (simI_list (sim_var 1 (nm rfl))) (simG_name 2 (nm rfl) (np rfl))
 (simS_seq (simS_set 4 (nm rfl) (np rfl) (sim_cb caA_sumG (simA_cons (sim_lc (simI_list (sim_var 0 (nm rfl))) (simG_tup (simGs_cons (simG_name 6 (nm rfl) (np rfl)) (simGs_cons (simG_name 3 (nm rfl) (np rfl)) (simGs_cons (simG_name 7 (nm rfl) (np rfl)) (simGs_nil))))) (simT_test (sim_op opA_eq (sim_var 6 (nm rfl)) (sim_var 2 (nm rfl)))) (sim_var 7 (nm rfl)) (inv' rfl) (nmv rfl) (npv rfl)) (simA_nil))))
 (simS_if (simT_test (sim_op opA_ne (sim_var 4 (nm rfl)) (sim_int _)))
 (simS_drop (sim_mt 5 (ym rfl) mtA_app (simA_cons (sim_tup (by decide) (simA_cons (opA_ix (sim_lc (simI_list (sim_var 0 (nm rfl))) (simG_tup (simGs_cons (simG_name 6 (nm rfl) (np rfl)) (simGs_cons (simG_name 3 (nm rfl) (np rfl)) (simGs_cons (simG_name 7 (nm rfl) (np rfl)) (simGs_nil))))) (simT_test (sim_op opA_eq (sim_var 6 (nm rfl)) (sim_var 2 (nm rfl)))) (sim_var 3 (nm rfl)) (inv' rfl) (nmv rfl) (npv rfl)) (sim_int _)) (simA_cons (sim_var 4 (nm rfl)) (simA_nil)))) simA_nil)))
 (simS_next))))
 (simS_ret (Sim.toE (sim_tup (by decide) (simA_cons (sim_cbM 5 (ym rfl) caA_tup) (simA_cons (sim_cb caA_sumG (simA_cons (sim_lc (simI_list (sim_var 0 (nm rfl))) (simG_tup (simGs_cons (simG_name 6 (nm rfl) (np rfl)) (simGs_cons (simG_name 3 (nm rfl) (np rfl)) (simGs_cons (simG_name 7 (nm rfl) (np rfl)) (simGs_nil))))) (simT_test (sim_op (opA_cmp _) (sim_var 6 (nm rfl)) (sim_int _))) (sim_op opA_mul (opA_ix (sim_var 3 (nm rfl)) (sim_int _)) (sim_var 7 (nm rfl))) (inv' rfl) (nmv rfl) (npv rfl)) (simA_nil))) (simA_nil))))))))), ?_⟩
  rintro ds Q hl ⟨m, c, fm, L, rfl, h60, hL, q⟩
  have l60 : (L.map Lf.d).length ≤ sizeLine := Nat.le_trans (show _ ≤ 60 by rw [List.length_map]; exact h60) (by decide)
  refine ⟨rfl, (show 1 < 8 by decide), ?_⟩
  refine forD_ind (fun idx s => ∃ o2 o3 o4, s = { δ := [some (.list (L.map Lf.d)), some (.list ((metL ((pL (L.take idx)).map (·.1))).map kI)), o2, o3, o4, none, none, none], n := 0 }) ⟨none, none, none, rfl⟩ ?_ ?_
  · rintro idx d s N hi ⟨o2, o3, o4, rfl⟩ hN
    rw [List.getElem?_map] at hi
    cases el : L[idx]? with
    | none => rw [el] at hi; cases hi
    | some l =>
      rw [el] at hi
      cases hi
      have hk := ks_take el
      have hlen : ((metL ((pL (L.take idx)).map (·.1))).map kI).length ≤ 60 := by
        rw [List.length_map]
        have h1 := metL_len ((pL (L.take idx)).map (·.1))
        have h2 := ks_len (L.take idx)
        have h3 : (L.take idx).length ≤ L.length := by rw [List.length_take]; omega
        omega
      refine g3 (x := kD l.k) (y := l.t.d) (z := .int l.w) ?_
      dsimp only [List.set]
      cases ek : l.k with
      | none =>
        rw [ek] at hk
        refine ifsF (tst_and (x := false) (y := false) (fun Q q => ?_) (fun z => nomatch z)) ?_
        · exact q
        · refine hN _ ⟨some (kD none), some l.t.d, some (.int l.w), ?_⟩
          rw [hk, List.append_nil]
      | some j =>
        rw [ek] at hk
        have e1 := any_kI (metL ((pL (L.take idx)).map (·.1))) j
        have t0 : ∀ (Q : Bool → S → Prop) (s : S), Q true s → Q (decide ((0 : Int) ≤ ((j : Nat) : Int))) s := fun Q s q => by
          rw [decide_eq_true (show (0 : Int) ≤ ((j : Nat) : Int) by omega)]
          exact q
        have t1 : ∀ (b : Bool), decide (j ∈ metL ((pL (L.take idx)).map (·.1))) = b → ∀ (Q : Bool → S → Prop) (s : S), Q (!b) s → inD true (.int ((j : Nat) : Int)) (.list ((metL ((pL (L.take idx)).map (·.1))).map kI)) fun d => match d with | .bool b => Q b s | _ => False := fun b hb Q s q => by
          refine .inl ⟨rfl, ?_, ?_⟩
          · rw [List.all_eq_true]
            intro x hx
            obtain ⟨i, _, rfl⟩ := List.mem_map.mp hx
            rfl
          · rw [e1, hb]
            cases b <;> exact q
        by_cases hj : j ∈ metL ((pL (L.take idx)).map (·.1))
        · refine ifsF (tst_and (x := true) (y := false) (fun Q q => t0 Q _ q) (fun _ Q q => t1 true (decide_eq_true hj) Q _ q)) ?_
          refine hN _ ⟨some (kD (some j)), some l.t.d, some (.int l.w), ?_⟩
          rw [hk, metL_snoc, if_pos hj]
        · refine ifsT (tst_and (x := true) (y := true) (fun Q q => t0 Q _ q) (fun _ Q q => t1 false (decide_eq_false hj) Q _ q)) ?_
          refine ⟨⟨_, rfl⟩, Nat.lt_of_le_of_lt hlen (by decide), ?_⟩
          refine hN _ ⟨some (kD (some j)), some l.t.d, some (.int l.w), ?_⟩
          rw [hk, metL_snoc, if_neg hj, List.map_append]
          rfl
  · rintro s ⟨o2, o3, o4, rfl⟩
    rw [List.length_map, List.take_length]
    generalize eM : metL ((pL L).map (·.1)) = M
    have hM : ∀ j ∈ M, j ∈ (pL L).map (·.1) := fun j hj => (metL_mem _ _).mp (eM ▸ hj)
    have hMl : M.length ≤ 60 := by
      have h1 := metL_len ((pL L).map (·.1))
      have h2 := ks_len L
      rw [eM] at h1
      omega
    refine ⟨rfl, ⟨fun s => ∃ o2 o3 o4, s = { δ := [some (.list (L.map Lf.d)), some (.list (M.map kI)), o2, o3, o4, some (.list (dueK (pL L) M)), none, none], n := 0 }, ?_, ?_⟩⟩
    · refine forD_ind (fun idx s => ∃ o2 o3 o4, s = { δ := [some (.list (L.map Lf.d)), some (.list (M.map kI)), o2, o3, o4, some (.list (dueK (pL L) (M.take idx))), none, none], n := 0 }) ⟨o2, o3, o4, rfl⟩ ?_ ?_
      · rintro idx d s N hi ⟨o2, o3, o4, rfl⟩ hN
        rw [List.getElem?_map] at hi
        cases ej : M[idx]? with
        | none => rw [ej] at hi; cases hi
        | some j =>
          rw [ej] at hi
          cases hi
          have hj := hM j (List.mem_of_getElem? ej)
          have hdl : (dueK (pL L) (M.take idx)).length ≤ 60 := by
            unfold dueK
            rw [List.length_map]
            have h1 := List.length_filter_le (fun j => !decide (wOf (pL L) j = 0)) (M.take idx)
            have h2 : (M.take idx).length ≤ M.length := by rw [List.length_take]; omega
            omega
          -- the weights of this one
          show dSeq _ _ _ { δ := [some (.list (L.map Lf.d)), some (.list (M.map kI)), some (kI j), o3, o4, some (.list (dueK (pL L) (M.take idx))), none, none], n := 0 }
          refine ⟨l60, lcSel (isK j) (fun l => .int l.w) L [] (fun l ml N M h1 h2 => ?_) ?_⟩
          · refine g3 (x := kD l.k) (y := l.t.d) (z := .int l.w) ?_
            refine tK (k := l.k) (j := j) rfl rfl _ ?_
            cases hb : decide (l.k = some j) with
            | true => exact h1 hb _ rfl
            | false => exact h2 hb _ rfl
          rw [List.nil_append]
          have e1 : ((L.filter (isK j)).map fun l => PyData.int l.w) = ((L.filter (isK j)).map fun l => l.w).map PyData.int := by
            rw [List.map_map]
            rfl
          refine ⟨_, by rw [e1]; exact ints_is _, ?_⟩
          rw [← wOf_sel]
          dsimp only [List.set]
          have nxt : dueK (pL L) (M.take (idx + 1)) = dueK (pL L) (M.take idx) ++ if wOf (pL L) j = 0 then [] else [entD (pL L) j] := by
            unfold dueK
            rw [List.take_add_one, ej, List.filter_append, List.map_append]
            congr 1
            by_cases h0 : wOf (pL L) j = 0
            · rw [if_pos h0]
              simp [h0]
            · rw [if_neg h0]
              simp [h0]
          by_cases h0 : wOf (pL L) j = 0
          · refine ifsF (fun Q q => ?_) ?_
            · show Q (!decide (wOf (pL L) j = 0)) _
              rw [decide_eq_true h0]
              exact q
            · refine hN _ ⟨some (kI j), none, some (.int (wOf (pL L) j)), ?_⟩
              rw [nxt, if_pos h0, List.append_nil]
              rfl
          · refine ifsT (fun Q q => ?_) ?_
            · show Q (!decide (wOf (pL L) j = 0)) _
              rw [decide_eq_false h0]
              exact q
            refine ⟨⟨_, rfl⟩, l60, lcSel (isK j) (fun l => l.t.d) L [] (fun l ml N M h1 h2 => ?_) ?_⟩
            · refine g3 (x := kD l.k) (y := l.t.d) (z := .int l.w) ?_
              refine tK (k := l.k) (j := j) rfl rfl _ ?_
              cases hb : decide (l.k = some j) with
              | true => exact h1 hb _ rfl
              | false => exact h2 hb _ rfl
            rw [List.nil_append]
            obtain ⟨p, mp, ep⟩ := List.mem_map.mp hj
            have hf : p ∈ (pL L).filter fun p => decide (p.1 = j) := List.mem_filter.mpr ⟨mp, by simp [ep]⟩
            rw [pL_sel] at hf
            obtain ⟨l, ml, _⟩ := List.mem_map.mp hf
            have ho := atO_sel L j
            cases eF : L.filter (isK j) with
            | nil => rw [eF] at ml; cases ml
            | cons l F =>
              rw [eF] at ho
              refine ix_ok (d := l.t.d) 0 rfl rfl ?_
              refine ⟨Nat.lt_of_le_of_lt hdl (by decide), ?_⟩
              refine hN _ ⟨some (kI j), none, some (.int (wOf (pL L) j)), ?_⟩
              rw [nxt, if_neg h0]
              unfold entD
              rw [ho]
              rfl
      · rintro s ⟨o2, o3, o4, rfl⟩
        rw [List.length_map, List.take_length]
        exact ⟨o2, o3, o4, rfl⟩
    · rintro s ⟨o2, o3, o4, rfl⟩
      refine ⟨l60, lcSel (fun l => decide (l.k = none)) (fun l => .int (l.t.sm.nu l.w)) L [] (fun l ml N M h1 h2 => ?_) ?_⟩
      · refine g3 (x := kD l.k) (y := l.t.d) (z := .int l.w) ?_
        rcases (hL l ml).ex with ⟨j, e1, _⟩ | ⟨i, e1, e2, hi⟩
        · refine tK0 (k := l.k) rfl _ ?_
          rw [e1]
          exact h2 (by rw [e1]; rfl) _ rfl
        · have h1 := h1 (by rw [e1]; rfl)
          rw [e2] at h1
          refine tK0 (k := l.k) rfl _ ?_
          rw [e1, e2]
          refine ix_ok 1 rfl rfl ⟨mulOk (Nat.lt_trans hi (show 2 ^ 90 < 2 ^ 2000 from Nat.pow_lt_pow_right (by decide) (by decide))) (Nat.lt_trans (hL l ml).w (show 2 ^ 90 < 2 ^ 2000 from Nat.pow_lt_pow_right (by decide) (by decide))), ?_⟩
          have e3 : (Th.num i).sm.nu l.w = i * l.w := Int.mul_comm _ _
          rw [e3] at h1
          exact h1 _ rfl
      rw [List.nil_append]
      have e1 : ((L.filter fun l => decide (l.k = none)).map fun l => PyData.int (l.t.sm.nu l.w)) = ((L.filter fun l => decide (l.k = none)).map fun l => l.t.sm.nu l.w).map PyData.int := by
        rw [List.map_map]
        rfl
      refine ⟨_, by rw [e1]; exact ints_is _, ?_⟩
      rw [← ns_sel hL]
      unfold dueL at q
      rw [eM] at q
      exact q
end

/-! ### _law_same, by (int, str) -/
section
variable {P : Program} {w : World} {K : PySem.W.Frag} {mg : Str → Option Value} {base : Heap}
theorem ok__law_same (T : Tx K mg) : ∀ k : Nat, Ok P w K mg base (k + 1) "_law_same" ["_law_found", "_law_due"] (spN K 2 .E (sameF k))
  | 0 => Ok.no T.d__law_same sc__law_same (spN_no fun ds Q h => h)
  | k + 1 => by
    have O__law_same : Ok P w K mg base (k + 1) "_law_same" ["_law_found", "_law_due"] (spN K 2 .E (sameF k)) := ok__law_same T k
    refine Ok.ofN (M := []) T.d__law_same sc__law_same rfl (by decide) fun f cdv A outer s H E hr => ⟨_, _, (pss_cons (ps_if (PW.pt (pw_or (pt_cmpR op_isN (pv 1) (pe_non) (nomark _)) (pw_or1 (pt_cmpR op_isN (pv 0) (pe_non) (nomark _)))))
 (pss_one (ps_ret (pe_and (pe_cmpR op_isN (pv 1) (pe_non) (nomark _)) (pe_one (pe_cmpR op_isN (pv 0) (pe_non) (nomark _))))))
 (pss_nil))
 (pss_cons (ps_if (PW.pt (pw_or (pt_val (pe_callB (isiK K rfl) (by rfl) T.z_isinstance boot_isi (pa_cons (pv 1) (pa_cons (pe_bltn (v := .ty "bool") (by rfl) T.z_bool boot_bool rfl) pa_nil)))) (pw_or1 (pt_val (pe_callB (isiK K rfl) (by rfl) T.z_isinstance boot_isi (pa_cons (pv 0) (pa_cons (pe_bltn (v := .ty "bool") (by rfl) T.z_bool boot_bool rfl) pa_nil)))))))
 (pss_one (ps_ret (pe_and (pe_callB (isiK K rfl) (by rfl) T.z_isinstance boot_isi (pa_cons (pv 1) (pa_cons (pe_bltn (v := .ty "bool") (by rfl) T.z_bool boot_bool rfl) pa_nil))) (pe_and (pe_callB (isiK K rfl) (by rfl) T.z_isinstance boot_isi (pa_cons (pv 0) (pa_cons (pe_bltn (v := .ty "bool") (by rfl) T.z_bool boot_bool rfl) pa_nil))) (pe_one (pe_cmpR (eqG K rfl hr.units) (pv 0) (pv 1) (nomark _)))))))
 (pss_nil))
 (pss_cons (ps_if (pt_val (pe_callB (isiTK K rfl) (by rfl) T.z_isinstance boot_isi (pa_cons (pv 1) (pa_cons (pe_tup (pa_cons (pe_bltn (v := .ty "int") (by rfl) T.z_int boot_int rfl) (pa_cons (pe_bltn (v := .ty "str") (by rfl) T.z_str boot_str rfl) (pa_nil)))) pa_nil))))
 (pss_cons (ps_if (pt_cmpR (neG K rfl hr.units) (pe_callB (isiK K rfl) (by rfl) T.z_isinstance boot_isi (pa_cons (pv 0) (pa_cons (pe_bltn (v := .ty "int") (by rfl) T.z_int boot_int rfl) pa_nil))) (pe_callB (isiK K rfl) (by rfl) T.z_isinstance boot_isi (pa_cons (pv 1) (pa_cons (pe_bltn (v := .ty "int") (by rfl) T.z_int boot_int rfl) pa_nil))) (nomark _))
 (pss_one (ps_ret (pe_bl)))
 (pss_nil))
 (pss_one (ps_ret (pe_and (pe_callB (isiTK K rfl) (by rfl) T.z_isinstance boot_isi (pa_cons (pv 0) (pa_cons (pe_tup (pa_cons (pe_bltn (v := .ty "int") (by rfl) T.z_int boot_int rfl) (pa_cons (pe_bltn (v := .ty "str") (by rfl) T.z_str boot_str rfl) (pa_nil)))) pa_nil))) (pe_one (pe_cmpR (eqG K rfl hr.units) (pv 0) (pv 1) (nomark _)))))))
 (pss_nil))
 (pss_cons (ps_if (PW.pt (pw_or (pt_cmpR (neG K rfl hr.units) (pe_callB (isiK K rfl) (by rfl) T.z_isinstance boot_isi (pa_cons (pv 1) (pa_cons (pe_bltn (v := .ty "tuple") (by rfl) T.z_tuple boot_tuple rfl) pa_nil))) (pe_callB (isiK K rfl) (by rfl) T.z_isinstance boot_isi (pa_cons (pv 0) (pa_cons (pe_bltn (v := .ty "tuple") (by rfl) T.z_tuple boot_tuple rfl) pa_nil))) (nomark _)) (pw_or1 (pt_cmpR (neG K rfl hr.units) (pe_callB (isiK K rfl) (by rfl) T.z_isinstance boot_isi (pa_cons (pv 1) (pa_cons (pe_bltn (v := .ty "list") (by rfl) T.z_list boot_list rfl) pa_nil))) (pe_callB (isiK K rfl) (by rfl) T.z_isinstance boot_isi (pa_cons (pv 0) (pa_cons (pe_bltn (v := .ty "list") (by rfl) T.z_list boot_list rfl) pa_nil))) (nomark _)))))
 (pss_one (ps_ret (pe_bl)))
 (pss_nil))
 (pss_cons (ps_if (pt_cmpR (neG K rfl hr.units) (pe_callB (lenG K rfl) (by rfl) T.z_len boot_len (pa_cons (pv 0) (pa_nil))) (pe_callB (lenG K rfl) (by rfl) T.z_len boot_len (pa_cons (pv 1) (pa_nil))) (nomark _))
 (pss_one (ps_ret (pe_bl)))
 (pss_nil))
 (pss_one (ps_ret (pe_cmpR (ninG K rfl (u65 hr.toRoom)) (pe_bl) (pe_lc (own := [("_law_one", 2), ("_law_other", 3)]) rfl sc__law_same.nd (piZ K rfl (by rfl) T.z_zip (pa_cons (pv 0) (pa_cons (pv 1) pa_nil))) (blkOk_by (own := [("_law_one", 2), ("_law_other", 3)]) (N := ["_law_found", "_law_due", "_law_one", "_law_other"]) (sc := defScope s__law_same) (by decide +kernel)) (fun _ _ _ _ _ => pgT K rfl 2 rfl (pgs_cons (pg_nameL (i := 2) sc__law_same.nd rfl rfl) (pgs_cons (pg_nameL (i := 3) sc__law_same.nd rfl rfl) (pgs_nil)))) (fun _ _ _ _ _ => pts_nil) (fun _ _ _ _ _ => pe_fn O__law_same (hr.mono (by omega)) (by rfl) (pa_cons (pv 2) (pa_cons (pv 3) (pa_nil))))) (by rfl))))))))),
 (simS_seq (simS_if (simT_or (simT_test (sim_op opA_isN (sim_var 1 (nm rfl)) (sim_non))) (simT_test (sim_op opA_isN (sim_var 0 (nm rfl)) (sim_non))))
 (simS_ret (Sim.toE (sim_andV (sim_op opA_isN (sim_var 1 (nm rfl)) (sim_non)) (sim_op opA_isN (sim_var 0 (nm rfl)) (sim_non)))))
 (simS_next))
 (simS_seq (simS_if (simT_or (simT_B (sim_isi .bool (sim_var 1 (nm rfl)))) (simT_B (sim_isi .bool (sim_var 0 (nm rfl)))))
 (simS_ret (Sim.toE (sim_andV (sim_isi .bool (sim_var 1 (nm rfl))) (sim_andV (sim_isi .bool (sim_var 0 (nm rfl))) (sim_op opA_eq (sim_var 0 (nm rfl)) (sim_var 1 (nm rfl)))))))
 (simS_next))
 (simS_seq (simS_if (simT_B (sim_isiT2 .int .str (sim_var 1 (nm rfl))))
 (simS_seq (simS_if (simT_test (sim_op opA_ne (sim_isi .int (sim_var 0 (nm rfl))) (sim_isi .int (sim_var 1 (nm rfl)))))
 (simS_ret (Sim.toE (sim_bl _)))
 (simS_next))
 (simS_ret (Sim.toE (sim_andV (sim_isiT2 .int .str (sim_var 0 (nm rfl))) (sim_op opA_eq (sim_var 0 (nm rfl)) (sim_var 1 (nm rfl)))))))
 (simS_next))
 (simS_seq (simS_if (simT_or (simT_test (sim_op opA_ne (sim_isi .tuple (sim_var 1 (nm rfl))) (sim_isi .tuple (sim_var 0 (nm rfl))))) (simT_test (sim_op opA_ne (sim_isi .list (sim_var 1 (nm rfl))) (sim_isi .list (sim_var 0 (nm rfl))))))
 (simS_ret (Sim.toE (sim_bl _)))
 (simS_next))
 (simS_seq (simS_if (simT_test (sim_op opA_ne (sim_cb caA_len (simA_cons (sim_var 0 (nm rfl)) (simA_nil))) (sim_cb caA_len (simA_cons (sim_var 1 (nm rfl)) (simA_nil)))))
 (simS_ret (Sim.toE (sim_bl _)))
 (simS_next))
 (simS_ret (Sim.toE (sim_op opA_nin (sim_bl _) (sim_lc (simI_zip (sim_var 0 (nm rfl)) (sim_var 1 (nm rfl))) (simG_tup (simGs_cons (simG_name 2 (nm rfl) (np rfl)) (simGs_cons (simG_name 3 (nm rfl) (np rfl)) (simGs_nil)))) (simT_yes) (sim_call (simA_cons (sim_var 2 (nm rfl)) (simA_cons (sim_var 3 (nm rfl)) (simA_nil)))) (inv' rfl) (nmv rfl) (npv rfl)))))))))), ?_⟩
    intro ds Q hl hF
    match ds, hl, hF with
    | [a, b], _, hF =>
    obtain ⟨rfl, hd, q⟩ := hF
    cases a with
    | none => exact q
    | bool x =>
      show Q (.bool (decide (x = x)))
      rw [decide_eq_true rfl]
      exact q
    | int x =>
      show Q (.bool (decide (x = x)))
      rw [decide_eq_true rfl]
      exact q
    | str x =>
      show Q (.bool (decide (x = x)))
      rw [decide_eq_true rfl]
      exact q
    | dict x => cases k <;> exact hd.elim
    | list xs =>
      cases k with
      | zero => exact hd.elim
      | succ k =>
      obtain ⟨hx, hd⟩ := hd
      refine ifn (by simp) ?_
      refine ⟨by rw [zip_len, Nat.min_self]; exact hx, lcD_ind (fun i acc s => acc = List.replicate i (.bool true) ∧ s = { δ := [some (.list xs), some (.list xs), none, none], n := 0 }) ⟨rfl, rfl⟩ ?_ ?_⟩
      · rintro i d acc s N hi ⟨rfl, rfl⟩ hN
        obtain ⟨x, y, e1, e2, rfl⟩ := prD_get hi
        rw [e1] at e2
        cases e2
        refine ⟨rfl, rfl, hd x (List.mem_of_getElem? e1), ?_⟩
        exact hN _ _ ⟨by rw [← List.replicate_succ'], rfl⟩
      · rintro acc s ⟨rfl, rfl⟩
        exact nin_true q
    | tuple xs =>
      cases k with
      | zero => exact hd.elim
      | succ k =>
      obtain ⟨hx, hd⟩ := hd
      refine ifn (by simp) ?_
      refine ⟨by rw [zip_len, Nat.min_self]; exact hx, lcD_ind (fun i acc s => acc = List.replicate i (.bool true) ∧ s = { δ := [some (.tuple xs), some (.tuple xs), none, none], n := 0 }) ⟨rfl, rfl⟩ ?_ ?_⟩
      · rintro i d acc s N hi ⟨rfl, rfl⟩ hN
        obtain ⟨x, y, e1, e2, rfl⟩ := prD_get hi
        rw [e1] at e2
        cases e2
        refine ⟨rfl, rfl, hd x (List.mem_of_getElem? e1), ?_⟩
        exact hN _ _ ⟨by rw [← List.replicate_succ'], rfl⟩
      · rintro acc s ⟨rfl, rfl⟩
        exact nin_true q
end

/-! ### the law -/
theorem brk_any {t1 : DB} {f : Int → Int → Bool} {r : DSt} {E : DEnds} {s : S} {k : Bool} (h : Tst t1 s k) (hb : E.bk s) (hr : r E s) : dSeq (dIfS (dAnd t1 (dBl (dOp (cmpD f) dAnyInt dAnyInt))) dBreak dNext) r E s := h _ (by
  cases k with
  | false => exact ifn Bool.false_ne_true (ifn Bool.false_ne_true hr)
  | true =>
    refine ifp rfl fun i j => ?_
    show (if f i j = true then E.bk s else r E s)
    cases f i j with
    | true => exact hb
    | false => exact hr)
theorem tIntEq {i : Nat} {x y : Int} {s : S} (hs : s.δ[i]? = some (some (.int x))) : Tst (dBl (dOp eqD (dV i) (dC (.int y)))) s (decide (x = y)) := fun Q q => by
  unfold dBl dOp dV
  simp only [hs]
  exact q
theorem setY {i : Nat} {c : DB} {a b : DT} {E : DEnds} {s : S} (h : Tst c s true) (k : a s fun d s1 => E.nx { s1 with δ := s1.δ.set i (some d) }) : dSet i (dIf c a b) E s := h _ (ifp rfl k)
theorem setN {i : Nat} {c : DB} {a b : DT} {E : DEnds} {s : S} (h : Tst c s false) (k : b s fun d s1 => E.nx { s1 with δ := s1.δ.set i (some d) }) : dSet i (dIf c a b) E s := h _ (ifn Bool.false_ne_true k)
/-- a term and the parts that it comes to -/
structure FinR (m c : Nat) (fm : Nat → D) (L : List Lf) (t : Th) : Prop where
  cg : t.sm.cg ≤ 183
  ok : t.sm.okG 1
  pu : t.sm.pu 1 = L.flatMap fun l => l.t.sm.pu l.w
  nu : t.sm.nu 1 = nsL L
  lf : ∀ l ∈ L, LfG m c fm l
  ln : L.length ≤ 40
def Lf.z (l : Lf) : Lf := ⟨l.k, l.t, 0⟩
theorem LfG.z {m c : Nat} {fm : Nat → D} {l : Lf} (h : LfG m c fm l) : LfG m c fm l.z := ⟨by show (0 : Int).natAbs < _; decide, h.ex⟩
section
variable {m c c' : Nat} {fm : Nat → D} {L M : List Lf} {t u : Th}
theorem FinR.of (h : TreeR c' L t) (hc : c' ≤ 180) (hL : ∀ l ∈ L, LfG m c fm l) (hl : L.length ≤ 12) : FinR m c fm L t := by
  refine ⟨Nat.le_trans h.cg (by omega), h.go 1 (by decide +kernel), ?_, ?_, hL, by omega⟩
  · rw [h.pu]
    congr 1
    funext l
    rw [Int.one_mul]
  · rw [h.nu]
    unfold nsL
    congr 2
    funext l
    rw [Int.one_mul]
theorem idle_pu (h : TreeR c' M u) : (Th.mul 0 u).sm.pu 1 = (M.map Lf.z).flatMap fun l => l.t.sm.pu l.w := by
  show u.sm.pu (1 * 0) = _
  rw [h.pu, List.flatMap_map]
  congr 1
  funext l
  rw [Int.mul_zero, Int.zero_mul]
  rfl
theorem idle_nu (h : TreeR c' M u) : (Th.mul 0 u).sm.nu 1 = nsL (M.map Lf.z) := by
  show u.sm.nu (1 * 0) = _
  rw [h.nu]
  unfold nsL
  rw [List.map_map]
  congr 2
  funext l
  show l.t.sm.nu (1 * 0 * l.w) = l.t.sm.nu 0
  rw [Int.mul_zero, Int.zero_mul]
theorem idle_ok (h : TreeR c' M u) : (Th.mul 0 u).sm.okG 1 := ⟨sml_w (by decide), sml_w (by decide), h.go (1 * 0) (by decide +kernel)⟩
theorem mem_z (hM : ∀ l ∈ M, LfG m c fm l) : ∀ l ∈ M.map Lf.z, LfG m c fm l := fun l ml => by
  obtain ⟨x, mx, rfl⟩ := List.mem_map.mp ml
  exact (hM x mx).z
theorem nsL_app (A B : List Lf) : nsL (A ++ B) = nsL A + nsL B := by
  unfold nsL
  rw [List.map_append, List.sum_append]
theorem FinR.right (h : TreeR c' L t) (hc : c' ≤ 180) (hL : ∀ l ∈ L, LfG m c fm l) (hl : L.length ≤ 12) (k : TreeR c' M u) (hM : ∀ l ∈ M, LfG m c fm l) (hm : M.length ≤ 12) : FinR m c fm (L ++ M.map Lf.z) (.add t (.mul 0 u)) := by
  have f := FinR.of h hc hL hl
  refine ⟨?_, ⟨f.ok, idle_ok k⟩, ?_, ?_, fun l ml => (List.mem_append.mp ml).elim (hL l) (mem_z hM l), by rw [List.length_append, List.length_map]; omega⟩
  · have := h.cg
    have := k.cg
    show 1 + max t.sm.cg (1 + u.sm.cg) ≤ _
    omega
  · rw [List.flatMap_append, ← f.pu, ← idle_pu k]
    rfl
  · rw [nsL_app, ← f.nu, ← idle_nu k]
    rfl
theorem FinR.left (h : TreeR c' L t) (hc : c' ≤ 180) (hL : ∀ l ∈ L, LfG m c fm l) (hl : L.length ≤ 12) (k : TreeR c' M u) (hM : ∀ l ∈ M, LfG m c fm l) (hm : M.length ≤ 12) : FinR m c fm (M.map Lf.z ++ L) (.add (.mul 0 u) t) := by
  have f := FinR.of h hc hL hl
  refine ⟨?_, ⟨idle_ok k, f.ok⟩, ?_, ?_, fun l ml => (List.mem_append.mp ml).elim (mem_z hM l) (hL l), by rw [List.length_append, List.length_map]; omega⟩
  · have := h.cg
    have := k.cg
    show 1 + max (1 + u.sm.cg) t.sm.cg ≤ _
    omega
  · rw [List.flatMap_append, ← f.pu, ← idle_pu k]
    rfl
  · rw [nsL_app, ← f.nu, ← idle_nu k]
    rfl
theorem FinR.pairs (h : FinR m c fm L t) (hi : ∀ i, i < m → ∀ j, j < m → fm i = fm j → i = j) (hg : ∀ j, j < m → Gf (fm j)) : (live (insA [] (t.sm.pu 1))).map apair = dueL (pL L) := by
  rw [h.pu, insA_leaves h.lf hi hg, live_map, List.map_map]
  rfl
theorem due_dat (hL : ∀ l ∈ L, LfG m c fm l) (hl : L.length ≤ 40) (hc : c ≤ 155) (n : Int) : dat 169 (.tuple [.tuple (dueL (pL L)), .int n]) := by
  have a : ∀ j, dat 155 (atO (pL L) j) := fun j => by
    rw [atO_sel]
    cases e : L.filter (isK j) with
    | nil =>
      show dat 155 .none
      unfold dat
      trivial
    | cons l F =>
      show dat 155 l.t.d
      have ml : l ∈ L.filter (isK j) := by rw [e]; exact List.mem_cons_self ..
      obtain ⟨m1, m2⟩ := List.mem_filter.mp ml
      have ek : l.k = some j := by simpa [isK] using m2
      exact Dat.le hc ((hL l m1).at ek).2.da
  refine Dat.le (show 158 ≤ 169 by decide) (Dat.tup (by simp) (Dat.tc (Dat.tup ?_ fun d md => ?_) (Dat.t1 Dat.int)))
  · unfold dueL dueK
    rw [List.length_map]
    have h1 := List.length_filter_le (fun j => !decide (wOf (pL L) j = 0)) (metL ((pL L).map (·.1)))
    have h2 := metL_len ((pL L).map (·.1))
    have h3 := ks_len L
    omega
  · obtain ⟨j, _, rfl⟩ := List.mem_map.mp md
    exact Dat.tup (by simp) (Dat.tc (a j) (Dat.t1 Dat.int))
end
section
variable {P : Program} {w : World} {K : PySem.W.Frag} {mg : Str → Option Value} {base : Heap}
theorem ok_law {fa c Q : Addr} {fda : FuncData} (T : Tx K mg) (TB : TabB base mg c Q) (DT : DfT K mg "form_of" s_form_of ["thing"] c) (F : Fun K "law" "law" s_law fa fda) : FnG P w K mg base 200 fa fda ["_law_script"] (spLawT [(Q, qL)] K) := by
  have O__law_open : Ok P w K mg base 1 "_law_open" ["_law_script"] (spOpen K) := ok__law_open T
  have O__law_take : Ok P w K mg base 2 "_law_take" ["_law_pen", "_law_many"] (spP K 1 .E takeF) := ok_takeP (ok__law_take T (ok__law_spread T))
  have O__law_s_names := ok_s_names (P := P) (w := w) (base := base) T O__law_take
  have O__law_s_number := ok_s_number (P := P) (w := w) (base := base) T O__law_take
  have O__law_s_weight := ok_s_weight (P := P) (w := w) (base := base) T O__law_take
  have O__law_s_sum := ok_s_sum (P := P) (w := w) (base := base) T O__law_take O__law_s_number O__law_s_weight
  have O__law_s_row := ok_s_row (P := P) (w := w) (base := base) T O__law_take O__law_s_number O__law_s_sum
  have O__law_s_entry := ok_s_entry (P := P) (w := w) (base := base) T O__law_take O__law_s_sum O__law_s_row
  have O__law_s_form := ok_s_form (P := P) (w := w) (base := base) T 159
  have O__law_s_pool := ok_s_pool (P := P) (w := w) (base := base) T O__law_take O__law_s_entry O__law_s_form
  have O__law_s_tree := ok_s_tree (P := P) (w := w) (base := base) T O__law_take 14
  have O__law_s_leaves := (ok_spelt_leaves (P := P) (w := w) (base := base) T O__law_take O__law_s_tree 155).2
  have O__law_s_due := ok_s_due (P := P) (w := w) (base := base) T
  have O__law_same := ok__law_same (P := P) (w := w) (base := base) T 170
  have FG := fg_ok (P := P) (w := w) T TB DT 185
  have O_sum_of := ok_sum_of T 185 FG.ga (ok_pairs_left T)
  refine Ok.ofLawT (M := []) F sc_law (by decide) fun f cdv A outer s H E hr => ⟨_, (pss_cons (ps_set (i := 1) sc_law.nd rfl (Or.inl rfl) (pe_fn O__law_open (hr.mono (by omega)) (by rfl) (pa_cons (pv 0) pa_nil)))
 (pss_cons (ps_for PassesOwn.never rfl (pi_range1 (by rfl) T.z_range (pa_cons (pe_int) (pa_nil))) (pg_nameL (i := 2) sc_law.nd rfl rfl)
 (pss_cons (ps_if (PW.pt (pw_and (pt_cmpR op_gt (pv 2) (pe_int) (nomark _)) (pw_and1 (pt_cmpR op_ge (pe_ix (ixG K rfl (u65 hr.toRoom)) (pv 1) (pe_int) (fun _ _ => rfl)) (pe_callB (lenG K rfl) (by rfl) T.z_len boot_len (pa_cons (pv 0) pa_nil)) (nomark _)))))
 (pss_one (ps_break))
 (pss_nil))
 (pss_cons (ps_set (i := 3) sc_law.nd rfl (Or.inl rfl) (pe_fn O__law_s_pool (hr.mono (by omega)) (by rfl) (pa_cons (pv 1) (pa_cons (pe_fn O__law_s_names (hr.mono (by omega)) (by rfl) (pa_cons (pv 1) (pa_cons (pe_int) (pa_nil)))) (pa_cons (pe_int) (pa_cons (pe_int) (pa_nil)))))))
 (pss_cons (ps_set (i := 4) sc_law.nd rfl (Or.inl rfl) (pe_fn O__law_s_leaves (hr.mono (by omega)) (by rfl) (pa_cons (pv 1) (pa_cons (pv 3) (pa_cons (pe_fn O__law_s_sum (hr.mono (by omega)) (by rfl) (pa_cons (pv 1) (pa_cons (pe_callB (lenG K rfl) (by rfl) T.z_len boot_len (pa_cons (pv 3) (pa_nil))) (pa_cons (pe_int) (pa_nil))))) (pa_nil))))))
 (pss_cons (ps_set (i := 5) sc_law.nd rfl (Or.inl rfl) (pe_fn O__law_s_tree (hr.mono (by omega)) (by rfl) (pa_cons (pv 1) (pa_cons (pv 4) (pa_nil)))))
 (pss_cons (ps_set (i := 6) sc_law.nd rfl (Or.inl rfl) (pe_fn O__law_take (hr.mono (by omega)) (by rfl) (pa_cons (pv 1) (pa_cons (pe_int) (pa_nil)))))
 (pss_cons (ps_if (pt_cmpR op_gt (pv 6) (pe_int) (nomark _))
 (pss_cons (ps_set (i := 7) sc_law.nd rfl (Or.inl rfl) (pe_fn O__law_s_leaves (hr.mono (by omega)) (by rfl) (pa_cons (pv 1) (pa_cons (pv 3) (pa_cons (pe_fn O__law_s_sum (hr.mono (by omega)) (by rfl) (pa_cons (pv 1) (pa_cons (pe_callB (lenG K rfl) (by rfl) T.z_len boot_len (pa_cons (pv 3) (pa_nil))) (pa_cons (pe_int) (pa_nil))))) (pa_nil))))))
 (pss_cons (ps_set (i := 8) sc_law.nd rfl (Or.inl rfl) (pe_tupZ (pa_cons (pe_str) (pa_cons (pe_int) (pa_cons (pe_fn O__law_s_tree (hr.mono (by omega)) (by rfl) (pa_cons (pv 1) (pa_cons (pv 7) (pa_nil)))) (pa_nil))))))
 (pss_cons (ps_setLc (i := 9) (own := [("_law_k", 10), ("_law_thing", 11), ("_law_weight", 12)]) rfl sc_law.nd rfl rfl (sw_true rfl rfl rfl (by decide +kernel)) (piL K rfl (pv 7)) (blkOk_by (own := [("_law_k", 10), ("_law_thing", 11), ("_law_weight", 12)]) (N := ["_law_script", "_law_pen", "_law_turn", "_law_pool", "_law_leaves", "_law_term", "_law_way", "_law_idle", "_law_none", "_law_gone", "_law_k", "_law_thing", "_law_weight", "_law_due"]) (sc := defScope s_law) (by decide +kernel)) (fun _ _ _ _ _ => pgT K rfl 3 rfl (pgs_cons (pg_nameL (i := 10) sc_law.nd rfl rfl) (pgs_cons (pg_nameL (i := 11) sc_law.nd rfl rfl) (pgs_cons (pg_nameL (i := 12) sc_law.nd rfl rfl) (pgs_nil))))) (fun _ _ _ _ _ => pts_nil) (fun _ _ _ _ _ => pe_tupZ (pa_cons (pv 10) (pa_cons (pv 11) (pa_cons (pe_int) (pa_nil))))))
 (pss_cons (ps_set (i := 5) sc_law.nd rfl (Or.inl rfl) (pe_ifExp (pt_cmpR (eqG K rfl hr.units) (pv 6) (pe_int) (nomark _)) (pe_tupZ (pa_cons (pe_str) (pa_cons (pv 5) (pa_cons (pv 8) (pa_nil))))) (pe_tupZ (pa_cons (pe_str) (pa_cons (pv 8) (pa_cons (pv 5) (pa_nil)))))))
 (pss_one (ps_set (i := 4) sc_law.nd rfl (Or.inl rfl) (pe_ifExp (pt_cmpR (eqG K rfl hr.units) (pv 6) (pe_int) (nomark _)) (pe_op (addG K rfl) (pv 4) (pv 9)) (pe_op (addG K rfl) (pv 9) (pv 4)))))))))
 (pss_nil))
 (pss_cons (ps_set (i := 13) sc_law.nd rfl (Or.inl rfl) (pe_fn O__law_s_due (hr.mono (by omega)) (by rfl) (pa_cons (pv 4) (pa_nil))))
 (pss_one (ps_if (PW.pt (pw_or (pt_not (pt_val (pe_fn O__law_same (hr.mono (by omega)) (by rfl) (pa_cons (pe_fn O_sum_of (hr.mono (by omega)) (by rfl) (pa_cons (pv 5) (pa_nil))) (pa_cons (pv 13) (pa_nil)))))) (pw_or1 (pt_not (pt_val (pe_fn O__law_same (hr.mono (by omega)) (by rfl) (pa_cons (pe_fn O_sum_of (hr.mono (by omega)) (by rfl) (pa_cons (pe_tupZ (pa_cons (pe_str) (pa_cons (pe_un un_neg (pe_int)) (pa_cons (pe_tupZ (pa_cons (pe_str) (pa_cons (pe_un un_neg (pe_int)) (pa_cons (pv 5) (pa_nil))))) (pa_nil))))) (pa_nil))) (pa_cons (pv 13) (pa_nil)))))))))
 (pss_one (ps_ret (pe_bl)))
 (pss_nil)))))))))))
 (pss_one (ps_ret (pe_and (pe_fn O__law_same (hr.mono (by omega)) (by rfl) (pa_cons (pe_fn O_sum_of (hr.mono (by omega)) (by rfl) (pa_cons (pe_tupZ (pa_cons (pe_str) (pa_cons (pe_un un_neg (pe_int)) (pa_nil)))) (pa_nil))) (pa_cons (pe_tupZ (pa_cons (pe_tupZ (pa_nil)) (pa_cons (pe_un un_neg (pe_int)) (pa_nil)))) (pa_nil)))) (pe_one (pe_fn O__law_same (hr.mono (by omega)) (by rfl) (pa_cons (pe_fn O_sum_of (hr.mono (by omega)) (by rfl) (pa_cons (pe_tupZ (pa_cons (pe_str) (pa_cons (pe_int) (pa_nil)))) (pa_nil))) (pa_cons (pe_tupZ (pa_cons (pe_tupZ (pa_cons (pe_tupZ (pa_cons (pe_tupZ (pa_cons (pe_str) (pa_cons (pe_int) (pa_nil)))) (pa_cons (pe_int) (pa_nil)))) (pa_nil))) (pa_cons (pe_int) (pa_nil)))) (pa_nil)))))))))),
 fun p c a xs => ⟨_, (simS_cut (simS_for (simI_range1 (sim_int _)) (simG_name 2 (nm rfl) (np rfl))
 (simS_seq (simS_if (simT_and (simT_test (sim_op (opA_cmp _) (sim_var 2 (nm rfl)) (sim_int _))) (simT_test (sim_op (opA_cmp _) (sim_penAt (by simp) rfl) (sim_lenSc 0 rfl))))
 (simS_break)
 (simS_next))
 (simS_seq (simS_set 3 (nm rfl) (np rfl) (sim_callP (by simp) rfl (simA_cons (sim_callP (by simp) rfl (simA_cons (sim_int _) (simA_nil))) (simA_cons (sim_int _) (simA_cons (sim_int _) (simA_nil))))))
 (simS_seq (simS_set 4 (nm rfl) (np rfl) (sim_callP (by simp) rfl (simA_cons (sim_var 3 (nm rfl)) (simA_cons (sim_callP (by simp) rfl (simA_cons (sim_cb caA_len (simA_cons (sim_var 3 (nm rfl)) (simA_nil))) (simA_cons (sim_int _) (simA_nil)))) (simA_nil)))))
 (simS_seq (simS_set 5 (nm rfl) (np rfl) (sim_callP (by simp) rfl (simA_cons (sim_var 4 (nm rfl)) (simA_nil))))
 (simS_seq (simS_set 6 (nm rfl) (np rfl) (sim_callP (by simp) rfl (simA_cons (sim_int _) (simA_nil))))
 (simS_cut (simS_if (simT_test (sim_op (opA_cmp _) (sim_var 6 (nm rfl)) (sim_int _)))
 (simS_seq (simS_set 7 (nm rfl) (np rfl) (sim_callP (by simp) rfl (simA_cons (sim_var 3 (nm rfl)) (simA_cons (sim_callP (by simp) rfl (simA_cons (sim_cb caA_len (simA_cons (sim_var 3 (nm rfl)) (simA_nil))) (simA_cons (sim_int _) (simA_nil)))) (simA_nil)))))
 (simS_seq (simS_set 8 (nm rfl) (np rfl) (sim_tup (by decide) (simA_cons (sim_str _) (simA_cons (sim_int _) (simA_cons (sim_callP (by simp) rfl (simA_cons (sim_var 7 (nm rfl)) (simA_nil))) (simA_nil))))))
 (simS_seq (simS_set 9 (nm rfl) (np rfl) (sim_lc (simI_list (sim_var 7 (nm rfl))) (simG_tup (simGs_cons (simG_name 10 (nm rfl) (np rfl)) (simGs_cons (simG_name 11 (nm rfl) (np rfl)) (simGs_cons (simG_name 12 (nm rfl) (np rfl)) (simGs_nil))))) (simT_yes) (sim_tup (by decide) (simA_cons (sim_var 10 (nm rfl)) (simA_cons (sim_var 11 (nm rfl)) (simA_cons (sim_int _) (simA_nil))))) (inv' rfl) (nmv rfl) (npv rfl)))
 (simS_cut (simS_set 5 (nm rfl) (np rfl) (sim_if (simT_test (sim_op opA_eq (sim_var 6 (nm rfl)) (sim_int _))) (sim_tup (by decide) (simA_cons (sim_str _) (simA_cons (sim_var 5 (nm rfl)) (simA_cons (sim_var 8 (nm rfl)) (simA_nil))))) (sim_tup (by decide) (simA_cons (sim_str _) (simA_cons (sim_var 8 (nm rfl)) (simA_cons (sim_var 5 (nm rfl)) (simA_nil)))))))
 (simS_set 4 (nm rfl) (np rfl) (sim_if (simT_test (sim_op opA_eq (sim_var 6 (nm rfl)) (sim_int _))) (sim_op opA_add (sim_var 4 (nm rfl)) (sim_var 9 (nm rfl))) (sim_op opA_add (sim_var 9 (nm rfl)) (sim_var 4 (nm rfl)))))))))
 (simS_next))
 (simS_seq (simS_set 13 (nm rfl) (np rfl) (sim_call (simA_cons (sim_var 4 (nm rfl)) (simA_nil))))
 (simS_if (simT_or (simT_not (simT_B (sim_call (simA_cons (sim_callNt (simA_cons (sim_var 5 (nm rfl)) (simA_nil))) (simA_cons (sim_var 13 (nm rfl)) (simA_nil)))))) (simT_not (simT_B (sim_call (simA_cons (sim_callNt (simA_cons (sim_tup (by decide) (simA_cons (sim_str _) (simA_cons (sim_neg (sim_int _)) (simA_cons (sim_tup (by decide) (simA_cons (sim_str _) (simA_cons (sim_neg (sim_int _)) (simA_cons (sim_var 5 (nm rfl)) (simA_nil))))) (simA_nil))))) (simA_nil))) (simA_cons (sim_var 13 (nm rfl)) (simA_nil)))))))
 (simS_ret (Sim.toE (sim_bl _)))
 (simS_next))))))))))
 (simS_ret (Sim.toE (sim_andV (sim_call (simA_cons (sim_callNt (simA_cons (sim_tup (by decide) (simA_cons (sim_str _) (simA_cons (sim_neg (sim_int _)) (simA_nil)))) (simA_nil))) (simA_cons (sim_tup (by decide) (simA_cons (sim_tup (by decide) (simA_nil)) (simA_cons (sim_neg (sim_int _)) (simA_nil)))) (simA_nil)))) (sim_call (simA_cons (sim_callNt (simA_cons (sim_tup (by decide) (simA_cons (sim_str _) (simA_cons (sim_int _) (simA_nil)))) (simA_nil))) (simA_cons (sim_tup (by decide) (simA_cons (sim_tup (by decide) (simA_cons (sim_tup (by decide) (simA_cons (sim_tup (by decide) (simA_cons (sim_str _) (simA_cons (sim_int _) (simA_nil)))) (simA_cons (sim_int _) (simA_nil)))) (simA_nil))) (simA_cons (sim_int _) (simA_nil)))) (simA_nil)))))))), ?_⟩⟩
  have hlim : 100 ^ 160 ≤ penLim := Nat.le_trans (show 100 ^ 160 ≤ 2 ^ 1200 by decide +kernel) (Nat.pow_le_pow_right (by decide) (by decide))
  have h155 : 100000 * 100 ^ 155 ≤ 100 ^ 160 := by decide +kernel
  have hB : 10000 ≤ 100 ^ 155 := by decide +kernel
  obtain ⟨B, eB⟩ : ∃ B, B = 100 ^ 155 := ⟨_, rfl⟩
  rw [← eB] at h155 hB
  refine ⟨fun _ => True, ⟨⟨by decide, by decide⟩, forD_ind (fun v s => ∃ (n : Nat) (a2 a3 a4 a5 a6 a7 a8 a9 a10 a11 a12 a13 : Option D), s = { δ := [none, none, a2, a3, a4, a5, a6, a7, a8, a9, a10, a11, a12, a13], n := n } ∧ n ≤ v * (10 * B)) ⟨0, none, none, none, none, none, none, none, none, none, none, none, none, rfl, by omega⟩ ?_ (fun _ _ => trivial)⟩, fun s' _ => ?_⟩
  · rintro v d0 s N hd ⟨n, a2, a3, a4, a5, a6, a7, a8, a9, a10, a11, a12, a13, rfl, hn⟩ hN
    obtain ⟨hv, rfl⟩ := rgD_get hd
    have hv : v < 3 := by simpa using hv
    have hn2 : n ≤ 20 * B := by
      have : v * (10 * B) ≤ 2 * (10 * B) := Nat.mul_le_mul_right _ (by omega)
      omega
    have hn3 : (v + 1) * (10 * B) = v * (10 * B) + 10 * B := Nat.succ_mul _ _
    dsimp only [sName, List.set]
    refine brk_any (k := decide ((0 : Int) < (0 + (v : Nat)))) (fun Q q => q) ?_ ?_
    · trivial
    refine ⟨3, rfl, by omega, show n + 12 ≤ penLim by omega, fun zs n1 z3 znd zok hn1 => ?_⟩
    have hn1 : n1 ≤ n + 12 := hn1
    refine ⟨zs, 3, 8, rfl, z3, znd, zok, by omega, by omega, by omega, show n1 + 1000 ≤ penLim by omega, fun pool fm ar n2 hp hn2 => ?_⟩
    have hn2 : n2 ≤ n1 + 1000 := hn2
    have l4 := hp.l4
    have l9 := hp.l9
    have lp : ((pool.map Lg.d).length : Int) = (pool.length : Int) := by rw [List.length_map]
    have az : ∀ ps : List (Nat × Int), (∀ i, SmOk pool.length ps i → lmax (ps.map fun p => ar p.1) + 1 ≤ 152) := fun ps i hs => by
      have : lmax (ps.map fun p => ar p.1) ≤ 151 := lmax_of fun x mx => by
        obtain ⟨p, mp, rfl⟩ := List.mem_map.mp mx
        exact hp.az _ (hs.ms p mp).1
      omega
    have rp : ∀ j, j < pool.length → RpOk (fm j) := fun j hj => RpOk.of (hp.bt j hj) (by omega) (Nat.le_trans (tB_le (Nat.le_refl 3)) (by decide))
    dsimp only [List.set]
    refine ⟨pool.length, 4, by rw [lp]; rfl, by omega, by omega, by omega, (show n2 + 30 ≤ penLim by omega), fun ps i na hs hps hna => ?_⟩
    have hna : na ≤ n2 + 30 := hna
    refine ⟨3, pool, fm, ar, ps, i, Nat.le_refl _, hp, rfl, hs, Nat.le_trans (az ps i hs) (by decide), (by rw [← eB]; show na + B ≤ penLim; omega), fun L n3 hR hn3 => ?_⟩
    have hn3 : n3 ≤ na + B := by rw [eB]; exact hn3
    obtain ⟨hne, hl, hL, _, _⟩ := hR
    have hc := az ps i hs
    generalize lmax (ps.map fun p => ar p.1) + 1 = c at *
    dsimp only [List.set]
    refine ⟨c + 2, L, rfl, hne, by omega, by omega, fun l ml => (hL l ml).b rp, (show n3 + 4 * L.length ≤ penLim by omega), fun t n4 ht hn4 => ?_⟩
    have hn4 : n4 + 2 ≤ n3 + 4 * L.length := hn4
    have ht := ht.le (c' := 178) (by omega)
    refine tk_ok (show n4 ≤ penLim by omega) (by decide) (by decide) fun way w0 w1 => ?_
    dsimp only [List.set]
    refine ⟨fun s' => ∃ (L : List Lf) (c : Nat) (t : Th) (n' : Nat) (b7 b8 b9 b10 b11 b12 : Option D), s' = { δ := [none, none, some (.int (0 + (v : Nat))), some (.list (pool.map Lg.d)), some (.list (L.map Lf.d)), some t.d, some (.int way), b7, b8, b9, b10, b11, b12, a13], n := n' } ∧ c ≤ 152 ∧ FinR pool.length c fm L t ∧ n' ≤ n + 2 * B + 2000, ?_, ?_⟩
    · by_cases hw : 0 < way
      · refine ifsT (tstT (p := 0 < way) (fun Q q => q) hw) ?_
        refine ⟨pool.length, 2, by rw [lp]; rfl, by omega, by omega, by omega, (show (n4 + 1) + 30 ≤ penLim by omega), fun ps i na hs hps hna => ?_⟩
        have hna : na ≤ (n4 + 1) + 30 := hna
        refine ⟨3, pool, fm, ar, ps, i, Nat.le_refl _, hp, rfl, hs, Nat.le_trans (az ps i hs) (by decide), (by rw [← eB]; show na + B ≤ penLim; omega), fun M n5 hR hn5 => ?_⟩
        have hn5 : n5 ≤ na + B := by rw [eB]; exact hn5
        obtain ⟨hne2, hl2, hM, _, _⟩ := hR
        have hc2 := az ps i hs
        generalize lmax (ps.map fun p => ar p.1) + 1 = c2 at *
        dsimp only [List.set]
        refine ⟨c2 + 2, M, rfl, hne2, by omega, by omega, fun l ml => (hM l ml).b rp, (show n5 + 4 * M.length ≤ penLim by omega), fun u n6 hu hn6 => ?_⟩
        have hn6 : n6 + 2 ≤ n5 + 4 * M.length := hn6
        have hu := hu.le (c' := 178) (by omega)
        dsimp only [List.set]
        refine ⟨Nat.le_trans (show (M.map Lf.d).length ≤ 12 by rw [List.length_map]; exact hl2) (by decide), lcAll (M.map Lf.d) ((M.map Lf.z).map Lf.d) [] _ (by simp) (fun j p x h1 h2 N hN => ?_) ?_⟩
        · rw [List.getElem?_map] at h1
          rw [List.map_map, List.getElem?_map] at h2
          cases ej : M[j]? with
          | none => rw [ej] at h1; cases h1
          | some l =>
            rw [ej] at h1 h2
            cases h1
            cases h2
            refine g3 (x := kD l.k) (y := l.t.d) (z := .int l.w) ?_
            exact hN _ rfl
        rw [List.nil_append]
        dsimp only [List.set]
        have up : ∀ {c : Nat} {l : Lf}, c ≤ 152 → LfG pool.length c fm l → LfG pool.length 152 fm l := fun hc h => ⟨h.w, h.ex.imp_left fun ⟨j, e1, e2, e3⟩ => ⟨j, e1, e2, e3.le hc⟩⟩
        have lcat : ∀ (A C : List Lf), A.length ≤ 12 → C.length ≤ 12 → (A.map Lf.d).length + (C.map Lf.d).length ≤ sizeLine := fun A C ha hc => by
          rw [List.length_map, List.length_map]
          exact Nat.le_trans (show A.length + C.length ≤ 24 by omega) (by decide)
        have hn7 : n6 ≤ n + 2 * B + 2000 := by omega
        by_cases h1 : way = 1
        · refine ⟨fun s' => s' = { δ := [none, none, some (.int (0 + (v : Nat))), some (.list (pool.map Lg.d)), some (.list (L.map Lf.d)), some (Th.add t (.mul 0 u)).d, some (.int way), some (.list (M.map Lf.d)), some (Th.mul 0 u).d, some (.list ((M.map Lf.z).map Lf.d)), none, none, none, a13], n := n6 }, ?_, ?_⟩
          · exact setY (tstT (tIntEq (i := 6) (x := way) rfl) h1) rfl
          · rintro s' rfl
            refine setY (tstT (tIntEq (i := 6) (x := way) rfl) h1) ?_
            refine ⟨lcat L (M.map Lf.z) hl (by rw [List.length_map]; exact hl2), L ++ M.map Lf.z, 152, _, n6, some (.list (M.map Lf.d)), some (Th.mul 0 u).d, some (.list ((M.map Lf.z).map Lf.d)), none, none, none, ?_, Nat.le_refl _, FinR.right ht (by omega) (fun l ml => up hc (hL l ml)) hl hu (fun l ml => up hc2 (hM l ml)) hl2, hn7⟩
            rw [List.map_append (l₁ := L)]
            rfl
        · refine ⟨fun s' => s' = { δ := [none, none, some (.int (0 + (v : Nat))), some (.list (pool.map Lg.d)), some (.list (L.map Lf.d)), some (Th.add (.mul 0 u) t).d, some (.int way), some (.list (M.map Lf.d)), some (Th.mul 0 u).d, some (.list ((M.map Lf.z).map Lf.d)), none, none, none, a13], n := n6 }, ?_, ?_⟩
          · exact setN (tstF (tIntEq (i := 6) (x := way) rfl) h1) rfl
          · rintro s' rfl
            refine setN (tstF (tIntEq (i := 6) (x := way) rfl) h1) ?_
            refine ⟨lcat (M.map Lf.z) L (by rw [List.length_map]; exact hl2) hl, M.map Lf.z ++ L, 152, _, n6, some (.list (M.map Lf.d)), some (Th.mul 0 u).d, some (.list ((M.map Lf.z).map Lf.d)), none, none, none, ?_, Nat.le_refl _, FinR.left ht (by omega) (fun l ml => up hc (hL l ml)) hl hu (fun l ml => up hc2 (hM l ml)) hl2, hn7⟩
            rw [List.map_append]
            rfl
      · refine ifsF (tstF (p := 0 < way) (fun Q q => q) hw) ?_
        exact ⟨L, c, t, n4 + 1, _, _, _, _, _, _, rfl, hc, FinR.of ht (by omega) hL hl, by omega⟩
    · rintro s' ⟨L, c, t, n5, b7, b8, b9, b10, b11, b12, rfl, hc, hF, hn5⟩
      refine ⟨pool.length, c, fm, L, rfl, Nat.le_trans hF.ln (by decide), hF.lf, ?_⟩
      dsimp only [List.set]
      have hpair := hF.pairs hp.inj hp.gf'
      have hpl : (t.sm.pu 1).length ≤ 2000 := by
        rw [hF.pu, pu_leaves hF.lf, List.length_map]
        have : (pL L).length ≤ L.length := List.length_filterMap_le _ _
        have := hF.ln
        omega
      have hdat := due_dat hF.lf hF.ln (Nat.le_trans hc (by decide)) (nsL L)
      refine ifsF (tst_or (x := false) (y := false) (tst_not (x := true) fun Q q => ?_) (fun _ => tst_not (x := true) fun Q q => ?_)) ?_
      · refine ⟨t, rfl, Nat.le_trans hF.cg (by decide), hF.ok, hpl, ?_⟩
        rw [hpair, hF.nu]
        exact ⟨rfl, hdat, q⟩
      · refine ⟨.mul (-1) (.mul (-1) t), rfl, ?_, ⟨sml_w (by decide), sml_w (by decide), sml_w (by decide), sml_w (by decide), hF.ok⟩, hpl, ?_⟩
        · have := hF.cg
          show 1 + (1 + t.sm.cg) ≤ 185
          omega
        · have e1 : (Th.mul (-1) (Th.mul (-1) t)).sm.pu 1 = t.sm.pu 1 := rfl
          have e2 : (Th.mul (-1) (Th.mul (-1) t)).sm.nu 1 = t.sm.nu 1 := rfl
          rw [e1, e2, hpair, hF.nu]
          exact ⟨rfl, hdat, q⟩
      · refine hN _ ⟨n5, _, _, _, _, _, _, _, _, _, _, _, _, rfl, ?_⟩
        omega
  · refine ⟨.num (-7), rfl, (show 1 ≤ 185 by decide), ⟨sml_w (by decide), sml_w (by decide)⟩, Nat.zero_le _, ?_⟩
    refine ⟨rfl, Dat.le (show 2 ≤ 169 by decide) (Dat.tup (by decide) (Dat.tc (Dat.tup (by decide) fun _ m => nomatch m) (Dat.t1 Dat.int))), ?_⟩
    have r0 : RpOk (.tuple [wT "name", .int 0]) := RpOk.of (h := 1) (t := 1000) (Bt.lit (by decide +kernel)) (by decide) (by decide)
    refine ⟨.name (.int 0), rfl, (show 3 ≤ 185 by decide), ⟨trivial, r0⟩, (show 1 ≤ 2000 by decide), ?_⟩
    refine ⟨rfl, Dat.le (show 5 ≤ 169 by decide) (Dat.tup (by simp) (Dat.tc (Dat.tup (by simp; decide) (Dat.t1 (Dat.tup (by simp) (Dat.tc (Dat.tup (by simp) (Dat.tc Dat.str (Dat.t1 Dat.int))) (Dat.t1 Dat.int))))) (Dat.t1 Dat.int))), rfl⟩
theorem law_end {l : PySem.W.OpenLaw} {w : World} {K : PySem.W.Frag} {mg : Str → Option Value} {fa c Q : Addr} {h : Heap} (X : K.In h) (T : Tx K mg) (hmg : mg "law" = some (.ref fa)) (ht : PySem.W.tabIn K "form_of" = some (c, Q)) (nQ : K.lookup Q = none) :
    ∃ (c Q : Addr) (fd : FuncData), PySem.W.tabIn K "form_of" = some (c, Q) ∧ K.lookup Q = none ∧ (∀ (s : Shared) (v : Value), BindsTo s fd ⟨[v], []⟩ [("_law_script", v)]) ∧ ∀ base : Heap, K.In base → base.Ns mainGlobals mg → LamX.TabB base mg c Q → FnG l.prog w K mg base 200 fa fd ["_law_script"] (spLawT [(Q, qL)] K) := by
  obtain ⟨f, fd, F, b, g⟩ := T.d_law
  rw [hmg] at g
  cases g
  have F' := F
  obtain ⟨oc, od, kV, doc, pm, an, cdv, ct, osl, rfl, lk, hcd⟩ := F.ex
  exact ⟨c, Q, _, ht, nQ, fun s v => .of_eq rfl, fun base kb gb TB => ok_law T TB (DfT.of kb gb T.d_form_of ht) F'⟩
end

theorem all_mk {w : World} {K : PySem.W.Frag} {h : Heap} {mg : Str → Option Value} {f1 f2 f3 f4 f5 f6 f7 f8 f9 f10 f11 f12 f13 f14 f15 f16 f17 f18 f19 f20 f21 f22 f23 : Addr} {tv0 : Value} (X : K.In h) (G : h.Ns mainGlobals mg)
    {od1 an1 od2 an2 od3 an3 od4 an4 od5 an5 od6 an6 od7 an7 od8 an8 od9 an9 od10 an10 od11 an11 od12 an12 od13 an13 od14 an14 od15 an15 od16 an16 od17 an17 od18 an18 od19 an19 od20 an20 od21 an21 od22 an22 od23 an23 : Option Addr} {sl1 sl2 sl3 sl4 sl5 sl6 sl7 sl8 sl9 sl10 sl11 sl12 sl13 sl14 sl15 sl16 sl17 sl18 sl19 sl20 sl21 sl22 sl23 : Array (Option Value)} {oc1 kV1 dc1 pm1 cd1 ct1 oc2 kV2 dc2 pm2 cd2 ct2 oc3 kV3 dc3 pm3 cd3 ct3 oc4 kV4 dc4 pm4 cd4 ct4 oc5 kV5 dc5 pm5 cd5 ct5 oc6 kV6 dc6 pm6 cd6 ct6 oc7 kV7 dc7 pm7 cd7 ct7 oc8 kV8 dc8 pm8 cd8 ct8 oc9 kV9 dc9 pm9 cd9 ct9 oc10 kV10 dc10 pm10 cd10 ct10 oc11 kV11 dc11 pm11 cd11 ct11 oc12 kV12 dc12 pm12 cd12 ct12 oc13 kV13 dc13 pm13 cd13 ct13 oc14 kV14 dc14 pm14 cd14 ct14 oc15 kV15 dc15 pm15 cd15 ct15 oc16 kV16 dc16 pm16 cd16 ct16 oc17 kV17 dc17 pm17 cd17 ct17 oc18 kV18 dc18 pm18 cd18 ct18 oc19 kV19 dc19 pm19 cd19 ct19 oc20 kV20 dc20 pm20 cd20 ct20 oc21 kV21 dc21 pm21 cd21 ct21 oc22 kV22 dc22 pm22 cd22 ct22 oc23 kV23 dc23 pm23 cd23 ct23 : Value}
    (a1 : PySem.W.nsIn K mainGlobals "inner_form" = some (some (.ref f1))) (l1 : K.lookup f1 = some ⟨oc1, od1, .func (PySem.W.fnOf "inner_form" "inner_form" (defArgs s_inner_form) (defBody s_inner_form) (defScope s_inner_form) .none kV1 dc1 pm1 an1 cd1 ct1), sl1⟩) (c1 : PySem.W.codeIn K cd1 "inner_form" = true) (k1 : PySem.W.keepIn K (.ref f1) = true)
    (a2 : PySem.W.nsIn K mainGlobals "form_of" = some (some (.ref f2))) (l2 : K.lookup f2 = some ⟨oc2, od2, .func (PySem.W.fnOf "form_of" "form_of" (defArgs s_form_of) (defBody s_form_of) (defScope s_form_of) .none kV2 dc2 pm2 an2 cd2 ct2), sl2⟩) (c2 : PySem.W.codeIn K cd2 "form_of" = true) (k2 : PySem.W.keepIn K (.ref f2) = true)
    (a3 : PySem.W.nsIn K mainGlobals "put_pair" = some (some (.ref f3))) (l3 : K.lookup f3 = some ⟨oc3, od3, .func (PySem.W.fnOf "put_pair" "put_pair" (defArgs s_put_pair) (defBody s_put_pair) (defScope s_put_pair) .none kV3 dc3 pm3 an3 cd3 ct3), sl3⟩) (c3 : PySem.W.codeIn K cd3 "put_pair" = true) (k3 : PySem.W.keepIn K (.ref f3) = true)
    (a4 : PySem.W.nsIn K mainGlobals "gather" = some (some (.ref f4))) (l4 : K.lookup f4 = some ⟨oc4, od4, .func (PySem.W.fnOf "gather" "gather" (defArgs s_gather) (defBody s_gather) (defScope s_gather) .none kV4 dc4 pm4 an4 cd4 ct4), sl4⟩) (c4 : PySem.W.codeIn K cd4 "gather" = true) (k4 : PySem.W.keepIn K (.ref f4) = true)
    (a5 : PySem.W.nsIn K mainGlobals "pairs_left" = some (some (.ref f5))) (l5 : K.lookup f5 = some ⟨oc5, od5, .func (PySem.W.fnOf "pairs_left" "pairs_left" (defArgs s_pairs_left) (defBody s_pairs_left) (defScope s_pairs_left) .none kV5 dc5 pm5 an5 cd5 ct5), sl5⟩) (c5 : PySem.W.codeIn K cd5 "pairs_left" = true) (k5 : PySem.W.keepIn K (.ref f5) = true)
    (a6 : PySem.W.nsIn K mainGlobals "sum_of" = some (some (.ref f6))) (l6 : K.lookup f6 = some ⟨oc6, od6, .func (PySem.W.fnOf "sum_of" "sum_of" (defArgs s_sum_of) (defBody s_sum_of) (defScope s_sum_of) .none kV6 dc6 pm6 an6 cd6 ct6), sl6⟩) (c6 : PySem.W.codeIn K cd6 "sum_of" = true) (k6 : PySem.W.keepIn K (.ref f6) = true)
    (a7 : PySem.W.nsIn K mainGlobals "_law_spread" = some (some (.ref f7))) (l7 : K.lookup f7 = some ⟨oc7, od7, .func (PySem.W.fnOf "_law_spread" "_law_spread" (defArgs s__law_spread) (defBody s__law_spread) (defScope s__law_spread) .none kV7 dc7 pm7 an7 cd7 ct7), sl7⟩) (c7 : PySem.W.codeIn K cd7 "_law_spread" = true) (k7 : PySem.W.keepIn K (.ref f7) = true)
    (a8 : PySem.W.nsIn K mainGlobals "_law_open" = some (some (.ref f8))) (l8 : K.lookup f8 = some ⟨oc8, od8, .func (PySem.W.fnOf "_law_open" "_law_open" (defArgs s__law_open) (defBody s__law_open) (defScope s__law_open) .none kV8 dc8 pm8 an8 cd8 ct8), sl8⟩) (c8 : PySem.W.codeIn K cd8 "_law_open" = true) (k8 : PySem.W.keepIn K (.ref f8) = true)
    (a9 : PySem.W.nsIn K mainGlobals "_law_take" = some (some (.ref f9))) (l9 : K.lookup f9 = some ⟨oc9, od9, .func (PySem.W.fnOf "_law_take" "_law_take" (defArgs s__law_take) (defBody s__law_take) (defScope s__law_take) .none kV9 dc9 pm9 an9 cd9 ct9), sl9⟩) (c9 : PySem.W.codeIn K cd9 "_law_take" = true) (k9 : PySem.W.keepIn K (.ref f9) = true)
    (a10 : PySem.W.nsIn K mainGlobals "_law_same" = some (some (.ref f10))) (l10 : K.lookup f10 = some ⟨oc10, od10, .func (PySem.W.fnOf "_law_same" "_law_same" (defArgs s__law_same) (defBody s__law_same) (defScope s__law_same) .none kV10 dc10 pm10 an10 cd10 ct10), sl10⟩) (c10 : PySem.W.codeIn K cd10 "_law_same" = true) (k10 : PySem.W.keepIn K (.ref f10) = true)
    (a11 : PySem.W.nsIn K mainGlobals "_law_s_names" = some (some (.ref f11))) (l11 : K.lookup f11 = some ⟨oc11, od11, .func (PySem.W.fnOf "_law_s_names" "_law_s_names" (defArgs s__law_s_names) (defBody s__law_s_names) (defScope s__law_s_names) .none kV11 dc11 pm11 an11 cd11 ct11), sl11⟩) (c11 : PySem.W.codeIn K cd11 "_law_s_names" = true) (k11 : PySem.W.keepIn K (.ref f11) = true)
    (a12 : PySem.W.nsIn K mainGlobals "_law_s_number" = some (some (.ref f12))) (l12 : K.lookup f12 = some ⟨oc12, od12, .func (PySem.W.fnOf "_law_s_number" "_law_s_number" (defArgs s__law_s_number) (defBody s__law_s_number) (defScope s__law_s_number) .none kV12 dc12 pm12 an12 cd12 ct12), sl12⟩) (c12 : PySem.W.codeIn K cd12 "_law_s_number" = true) (k12 : PySem.W.keepIn K (.ref f12) = true)
    (a13 : PySem.W.nsIn K mainGlobals "_law_s_weight" = some (some (.ref f13))) (l13 : K.lookup f13 = some ⟨oc13, od13, .func (PySem.W.fnOf "_law_s_weight" "_law_s_weight" (defArgs s__law_s_weight) (defBody s__law_s_weight) (defScope s__law_s_weight) .none kV13 dc13 pm13 an13 cd13 ct13), sl13⟩) (c13 : PySem.W.codeIn K cd13 "_law_s_weight" = true) (k13 : PySem.W.keepIn K (.ref f13) = true)
    (a14 : PySem.W.nsIn K mainGlobals "_law_s_sum" = some (some (.ref f14))) (l14 : K.lookup f14 = some ⟨oc14, od14, .func (PySem.W.fnOf "_law_s_sum" "_law_s_sum" (defArgs s__law_s_sum) (defBody s__law_s_sum) (defScope s__law_s_sum) .none kV14 dc14 pm14 an14 cd14 ct14), sl14⟩) (c14 : PySem.W.codeIn K cd14 "_law_s_sum" = true) (k14 : PySem.W.keepIn K (.ref f14) = true)
    (a15 : PySem.W.nsIn K mainGlobals "_law_s_row" = some (some (.ref f15))) (l15 : K.lookup f15 = some ⟨oc15, od15, .func (PySem.W.fnOf "_law_s_row" "_law_s_row" (defArgs s__law_s_row) (defBody s__law_s_row) (defScope s__law_s_row) .none kV15 dc15 pm15 an15 cd15 ct15), sl15⟩) (c15 : PySem.W.codeIn K cd15 "_law_s_row" = true) (k15 : PySem.W.keepIn K (.ref f15) = true)
    (a16 : PySem.W.nsIn K mainGlobals "_law_s_entry" = some (some (.ref f16))) (l16 : K.lookup f16 = some ⟨oc16, od16, .func (PySem.W.fnOf "_law_s_entry" "_law_s_entry" (defArgs s__law_s_entry) (defBody s__law_s_entry) (defScope s__law_s_entry) .none kV16 dc16 pm16 an16 cd16 ct16), sl16⟩) (c16 : PySem.W.codeIn K cd16 "_law_s_entry" = true) (k16 : PySem.W.keepIn K (.ref f16) = true)
    (a17 : PySem.W.nsIn K mainGlobals "_law_s_pool" = some (some (.ref f17))) (l17 : K.lookup f17 = some ⟨oc17, od17, .func (PySem.W.fnOf "_law_s_pool" "_law_s_pool" (defArgs s__law_s_pool) (defBody s__law_s_pool) (defScope s__law_s_pool) .none kV17 dc17 pm17 an17 cd17 ct17), sl17⟩) (c17 : PySem.W.codeIn K cd17 "_law_s_pool" = true) (k17 : PySem.W.keepIn K (.ref f17) = true)
    (a18 : PySem.W.nsIn K mainGlobals "_law_s_form" = some (some (.ref f18))) (l18 : K.lookup f18 = some ⟨oc18, od18, .func (PySem.W.fnOf "_law_s_form" "_law_s_form" (defArgs s__law_s_form) (defBody s__law_s_form) (defScope s__law_s_form) .none kV18 dc18 pm18 an18 cd18 ct18), sl18⟩) (c18 : PySem.W.codeIn K cd18 "_law_s_form" = true) (k18 : PySem.W.keepIn K (.ref f18) = true)
    (a19 : PySem.W.nsIn K mainGlobals "_law_s_spelt" = some (some (.ref f19))) (l19 : K.lookup f19 = some ⟨oc19, od19, .func (PySem.W.fnOf "_law_s_spelt" "_law_s_spelt" (defArgs s__law_s_spelt) (defBody s__law_s_spelt) (defScope s__law_s_spelt) .none kV19 dc19 pm19 an19 cd19 ct19), sl19⟩) (c19 : PySem.W.codeIn K cd19 "_law_s_spelt" = true) (k19 : PySem.W.keepIn K (.ref f19) = true)
    (a20 : PySem.W.nsIn K mainGlobals "_law_s_leaves" = some (some (.ref f20))) (l20 : K.lookup f20 = some ⟨oc20, od20, .func (PySem.W.fnOf "_law_s_leaves" "_law_s_leaves" (defArgs s__law_s_leaves) (defBody s__law_s_leaves) (defScope s__law_s_leaves) .none kV20 dc20 pm20 an20 cd20 ct20), sl20⟩) (c20 : PySem.W.codeIn K cd20 "_law_s_leaves" = true) (k20 : PySem.W.keepIn K (.ref f20) = true)
    (a21 : PySem.W.nsIn K mainGlobals "_law_s_tree" = some (some (.ref f21))) (l21 : K.lookup f21 = some ⟨oc21, od21, .func (PySem.W.fnOf "_law_s_tree" "_law_s_tree" (defArgs s__law_s_tree) (defBody s__law_s_tree) (defScope s__law_s_tree) .none kV21 dc21 pm21 an21 cd21 ct21), sl21⟩) (c21 : PySem.W.codeIn K cd21 "_law_s_tree" = true) (k21 : PySem.W.keepIn K (.ref f21) = true)
    (a22 : PySem.W.nsIn K mainGlobals "_law_s_due" = some (some (.ref f22))) (l22 : K.lookup f22 = some ⟨oc22, od22, .func (PySem.W.fnOf "_law_s_due" "_law_s_due" (defArgs s__law_s_due) (defBody s__law_s_due) (defScope s__law_s_due) .none kV22 dc22 pm22 an22 cd22 ct22), sl22⟩) (c22 : PySem.W.codeIn K cd22 "_law_s_due" = true) (k22 : PySem.W.keepIn K (.ref f22) = true)
    (a23 : PySem.W.nsIn K mainGlobals "law" = some (some (.ref f23))) (l23 : K.lookup f23 = some ⟨oc23, od23, .func (PySem.W.fnOf "law" "law" (defArgs s_law) (defBody s_law) (defScope s_law) .none kV23 dc23 pm23 an23 cd23 ct23), sl23⟩) (c23 : PySem.W.codeIn K cd23 "law" = true) (k23 : PySem.W.keepIn K (.ref f23) = true)
    (z1 : PySem.W.nsIn K mainGlobals "bool" = some none)
    (z2 : PySem.W.nsIn K mainGlobals "enumerate" = some none)
    (z3 : PySem.W.nsIn K mainGlobals "int" = some none)
    (z4 : PySem.W.nsIn K mainGlobals "isinstance" = some none)
    (z5 : PySem.W.nsIn K mainGlobals "len" = some none)
    (z6 : PySem.W.nsIn K mainGlobals "list" = some none)
    (z7 : PySem.W.nsIn K mainGlobals "min" = some none)
    (z8 : PySem.W.nsIn K mainGlobals "range" = some none)
    (z9 : PySem.W.nsIn K mainGlobals "repr" = some none)
    (z10 : PySem.W.nsIn K mainGlobals "sorted" = some none)
    (z11 : PySem.W.nsIn K mainGlobals "str" = some none)
    (z12 : PySem.W.nsIn K mainGlobals "sum" = some none)
    (z13 : PySem.W.nsIn K mainGlobals "tuple" = some none)
    (z14 : PySem.W.nsIn K mainGlobals "zip" = some none)
    (tua0 : PySem.W.nsIn K mainGlobals "ROW_WORDS" = some (some tv0)) (tut0 : ktIn K (.tuple [.str "row", .str "with", .str "room"]) tv0 = true)
    : Tx K mg := by
  exact ⟨
    ⟨f1, _, fun_mk (st := s_inner_form) l1 c1 k1, (fun_mk (st := s_inner_form) l1 c1 k1).binds (ps := ["thing"]) (fun _ _ _ _ _ _ us hl => match us, hl with | [_], _ => rfl), PySem.W.mg_of X G a1⟩,
    ⟨f2, _, fun_mk (st := s_form_of) l2 c2 k2, (fun_mk (st := s_form_of) l2 c2 k2).binds (ps := ["thing"]) (fun _ _ _ _ _ _ us hl => match us, hl with | [_], _ => rfl), PySem.W.mg_of X G a2⟩,
    ⟨f3, _, fun_mk (st := s_put_pair) l3 c3 k3, (fun_mk (st := s_put_pair) l3 c3 k3).binds (ps := ["atoms", "atom", "weight"]) (fun _ _ _ _ _ _ us hl => match us, hl with | [_, _, _], _ => rfl), PySem.W.mg_of X G a3⟩,
    ⟨f4, _, fun_mk (st := s_gather) l4 c4 k4, (fun_mk (st := s_gather) l4 c4 k4).binds (ps := ["atoms", "term", "often"]) (fun _ _ _ _ _ _ us hl => match us, hl with | [_, _, _], _ => rfl), PySem.W.mg_of X G a4⟩,
    ⟨f5, _, fun_mk (st := s_pairs_left) l5 c5 k5, (fun_mk (st := s_pairs_left) l5 c5 k5).binds (ps := ["atoms"]) (fun _ _ _ _ _ _ us hl => match us, hl with | [_], _ => rfl), PySem.W.mg_of X G a5⟩,
    ⟨f6, _, fun_mk (st := s_sum_of) l6 c6 k6, (fun_mk (st := s_sum_of) l6 c6 k6).binds (ps := ["term"]) (fun _ _ _ _ _ _ us hl => match us, hl with | [_], _ => rfl), PySem.W.mg_of X G a6⟩,
    ⟨f7, _, fun_mk (st := s__law_spread) l7 c7 k7, (fun_mk (st := s__law_spread) l7 c7 k7).binds (ps := ["_law_cell", "_law_at"]) (fun _ _ _ _ _ _ us hl => match us, hl with | [_, _], _ => rfl), PySem.W.mg_of X G a7⟩,
    ⟨f8, _, fun_mk (st := s__law_open) l8 c8 k8, (fun_mk (st := s__law_open) l8 c8 k8).binds (ps := ["_law_script"]) (fun _ _ _ _ _ _ us hl => match us, hl with | [_], _ => rfl), PySem.W.mg_of X G a8⟩,
    ⟨f9, _, fun_mk (st := s__law_take) l9 c9 k9, (fun_mk (st := s__law_take) l9 c9 k9).binds (ps := ["_law_pen", "_law_many"]) (fun _ _ _ _ _ _ us hl => match us, hl with | [_, _], _ => rfl), PySem.W.mg_of X G a9⟩,
    ⟨f10, _, fun_mk (st := s__law_same) l10 c10 k10, (fun_mk (st := s__law_same) l10 c10 k10).binds (ps := ["_law_found", "_law_due"]) (fun _ _ _ _ _ _ us hl => match us, hl with | [_, _], _ => rfl), PySem.W.mg_of X G a10⟩,
    ⟨f11, _, fun_mk (st := s__law_s_names) l11 c11 k11, (fun_mk (st := s__law_s_names) l11 c11 k11).binds (ps := ["_law_pen", "_law_many"]) (fun _ _ _ _ _ _ us hl => match us, hl with | [_, _], _ => rfl), PySem.W.mg_of X G a11⟩,
    ⟨f12, _, fun_mk (st := s__law_s_number) l12 c12 k12, (fun_mk (st := s__law_s_number) l12 c12 k12).binds (ps := ["_law_pen"]) (fun _ _ _ _ _ _ us hl => match us, hl with | [_], _ => rfl), PySem.W.mg_of X G a12⟩,
    ⟨f13, _, fun_mk (st := s__law_s_weight) l13 c13 k13, (fun_mk (st := s__law_s_weight) l13 c13 k13).binds (ps := ["_law_pen"]) (fun _ _ _ _ _ _ us hl => match us, hl with | [_], _ => rfl), PySem.W.mg_of X G a13⟩,
    ⟨f14, _, fun_mk (st := s__law_s_sum) l14 c14 k14, (fun_mk (st := s__law_s_sum) l14 c14 k14).binds (ps := ["_law_pen", "_law_many", "_law_most"]) (fun _ _ _ _ _ _ us hl => match us, hl with | [_, _, _], _ => rfl), PySem.W.mg_of X G a14⟩,
    ⟨f15, _, fun_mk (st := s__law_s_row) l15 c15 k15, (fun_mk (st := s__law_s_row) l15 c15 k15).binds (ps := ["_law_pen", "_law_many", "_law_rows"]) (fun _ _ _ _ _ _ us hl => match us, hl with | [_, _, _], _ => rfl), PySem.W.mg_of X G a15⟩,
    ⟨f16, _, fun_mk (st := s__law_s_entry) l16 c16 k16, (fun_mk (st := s__law_s_entry) l16 c16 k16).binds (ps := ["_law_pen", "_law_many", "_law_rows", "_law_most"]) (fun _ _ _ _ _ _ us hl => match us, hl with | [_, _, _, _], _ => rfl), PySem.W.mg_of X G a16⟩,
    ⟨f17, _, fun_mk (st := s__law_s_pool) l17 c17 k17, (fun_mk (st := s__law_s_pool) l17 c17 k17).binds (ps := ["_law_pen", "_law_names", "_law_more", "_law_most"]) (fun _ _ _ _ _ _ us hl => match us, hl with | [_, _, _, _], _ => rfl), PySem.W.mg_of X G a17⟩,
    ⟨f18, _, fun_mk (st := s__law_s_form) l18 c18 k18, (fun_mk (st := s__law_s_form) l18 c18 k18).binds (ps := ["_law_pool", "_law_thing"]) (fun _ _ _ _ _ _ us hl => match us, hl with | [_, _], _ => rfl), PySem.W.mg_of X G a18⟩,
    ⟨f19, _, fun_mk (st := s__law_s_spelt) l19 c19 k19, (fun_mk (st := s__law_s_spelt) l19 c19 k19).binds (ps := ["_law_pen", "_law_pool", "_law_thing"]) (fun _ _ _ _ _ _ us hl => match us, hl with | [_, _, _], _ => rfl), PySem.W.mg_of X G a19⟩,
    ⟨f20, _, fun_mk (st := s__law_s_leaves) l20 c20 k20, (fun_mk (st := s__law_s_leaves) l20 c20 k20).binds (ps := ["_law_pen", "_law_pool", "_law_made_of"]) (fun _ _ _ _ _ _ us hl => match us, hl with | [_, _, _], _ => rfl), PySem.W.mg_of X G a20⟩,
    ⟨f21, _, fun_mk (st := s__law_s_tree) l21 c21 k21, (fun_mk (st := s__law_s_tree) l21 c21 k21).binds (ps := ["_law_pen", "_law_leaves"]) (fun _ _ _ _ _ _ us hl => match us, hl with | [_, _], _ => rfl), PySem.W.mg_of X G a21⟩,
    ⟨f22, _, fun_mk (st := s__law_s_due) l22 c22 k22, (fun_mk (st := s__law_s_due) l22 c22 k22).binds (ps := ["_law_leaves"]) (fun _ _ _ _ _ _ us hl => match us, hl with | [_], _ => rfl), PySem.W.mg_of X G a22⟩,
    ⟨f23, _, fun_mk (st := s_law) l23 c23 k23, (fun_mk (st := s_law) l23 c23 k23).binds (ps := ["_law_script"]) (fun _ _ _ _ _ _ us hl => match us, hl with | [_], _ => rfl), PySem.W.mg_of X G a23⟩,
    PySem.W.mg_none_of X G z1,
    PySem.W.mg_none_of X G z2,
    PySem.W.mg_none_of X G z3,
    PySem.W.mg_none_of X G z4,
    PySem.W.mg_none_of X G z5,
    PySem.W.mg_none_of X G z6,
    PySem.W.mg_none_of X G z7,
    PySem.W.mg_none_of X G z8,
    PySem.W.mg_none_of X G z9,
    PySem.W.mg_none_of X G z10,
    PySem.W.mg_none_of X G z11,
    PySem.W.mg_none_of X G z12,
    PySem.W.mg_none_of X G z13,
    PySem.W.mg_none_of X G z14,
    ⟨tv0, PySem.W.mg_of X G tua0, tut0⟩⟩
end LW
open PySem PySem.W PyProof.Rows
set_option maxRecDepth 100000 in
set_option maxHeartbeats 0 in
theorem PySem.Challenge.cw_leapwork_k11_sums_of_terms_holds : PySem.Challenge.rw_leapwork_k11_sums_of_terms.Holds := by
  w_on; o_law; k_head; (case hw => w_witness2)
  k_fill
  refine LW.walkGT (l := PySem.Challenge.rw_leapwork_k11_sums_of_terms) (n := 63) (k := 200) (x := "_law_script") (y := "form_of") (sp := fun w Q => LW.spLawT [(Q, LW.qL)] _) rfl (by decide) rfl ⟨rfl, by decide, by decide⟩ (fun w h Y => PySem.W.km_in_of Y) (Option.some_get (by first | rfl | decide +kernel)).symm ?F (fun _ _ _ a ns hl hQ hS => ⟨a, ns, rfl, hS, hl, (fun t m => by rw [List.mem_singleton.mp m]; exact hQ), fun _ => rfl⟩)
  case F =>
    intro w mg fa h KX G hmg
    refine' LW.law_end KX (LW.all_mk (w := w) KX G ?a1 ?l1 ?c1 ?k1 ?a2 ?l2 ?c2 ?k2 ?a3 ?l3 ?c3 ?k3 ?a4 ?l4 ?c4 ?k4 ?a5 ?l5 ?c5 ?k5 ?a6 ?l6 ?c6 ?k6 ?a7 ?l7 ?c7 ?k7 ?a8 ?l8 ?c8 ?k8 ?a9 ?l9 ?c9 ?k9 ?a10 ?l10 ?c10 ?k10 ?a11 ?l11 ?c11 ?k11 ?a12 ?l12 ?c12 ?k12 ?a13 ?l13 ?c13 ?k13 ?a14 ?l14 ?c14 ?k14 ?a15 ?l15 ?c15 ?k15 ?a16 ?l16 ?c16 ?k16 ?a17 ?l17 ?c17 ?k17 ?a18 ?l18 ?c18 ?k18 ?a19 ?l19 ?c19 ?k19 ?a20 ?l20 ?c20 ?k20 ?a21 ?l21 ?c21 ?k21 ?a22 ?l22 ?c22 ?k22 ?a23 ?l23 ?c23 ?k23 ?z1 ?z2 ?z3 ?z4 ?z5 ?z6 ?z7 ?z8 ?z9 ?z10 ?z11 ?z12 ?z13 ?z14 ?tua0 ?tut0) hmg ?ht ?nQ
    (case ht => first | rfl | decide +kernel); (case nQ => first | k_is | rfl)
    (case a1 => k_is); (case l1 => k_is); (case c1 => k_is); (case k1 => k_is)
    (case a2 => k_is); (case l2 => k_is); (case c2 => k_is); (case k2 => k_is)
    (case a3 => k_is); (case l3 => k_is); (case c3 => k_is); (case k3 => k_is)
    (case a4 => k_is); (case l4 => k_is); (case c4 => k_is); (case k4 => k_is)
    (case a5 => k_is); (case l5 => k_is); (case c5 => k_is); (case k5 => k_is)
    (case a6 => k_is); (case l6 => k_is); (case c6 => k_is); (case k6 => k_is)
    (case a7 => k_is); (case l7 => k_is); (case c7 => k_is); (case k7 => k_is)
    (case a8 => k_is); (case l8 => k_is); (case c8 => k_is); (case k8 => k_is)
    (case a9 => k_is); (case l9 => k_is); (case c9 => k_is); (case k9 => k_is)
    (case a10 => k_is); (case l10 => k_is); (case c10 => k_is); (case k10 => k_is)
    (case a11 => k_is); (case l11 => k_is); (case c11 => k_is); (case k11 => k_is)
    (case a12 => k_is); (case l12 => k_is); (case c12 => k_is); (case k12 => k_is)
    (case a13 => k_is); (case l13 => k_is); (case c13 => k_is); (case k13 => k_is)
    (case a14 => k_is); (case l14 => k_is); (case c14 => k_is); (case k14 => k_is)
    (case a15 => k_is); (case l15 => k_is); (case c15 => k_is); (case k15 => k_is)
    (case a16 => k_is); (case l16 => k_is); (case c16 => k_is); (case k16 => k_is)
    (case a17 => k_is); (case l17 => k_is); (case c17 => k_is); (case k17 => k_is)
    (case a18 => k_is); (case l18 => k_is); (case c18 => k_is); (case k18 => k_is)
    (case a19 => k_is); (case l19 => k_is); (case c19 => k_is); (case k19 => k_is)
    (case a20 => k_is); (case l20 => k_is); (case c20 => k_is); (case k20 => k_is)
    (case a21 => k_is); (case l21 => k_is); (case c21 => k_is); (case k21 => k_is)
    (case a22 => k_is); (case l22 => k_is); (case c22 => k_is); (case k22 => k_is)
    (case a23 => k_is); (case l23 => k_is); (case c23 => k_is); (case k23 => k_is)
    (case z1 => k_is)
    (case z2 => k_is)
    (case z3 => k_is)
    (case z4 => k_is)
    (case z5 => k_is)
    (case z6 => k_is)
    (case z7 => k_is)
    (case z8 => k_is)
    (case z9 => k_is)
    (case z10 => k_is)
    (case z11 => k_is)
    (case z12 => k_is)
    (case z13 => k_is)
    (case z14 => k_is)
    (case tua0 => k_is)
    (case tut0 => first | k_is | rfl | decide +kernel)
#print axioms PySem.Challenge.cw_leapwork_k11_sums_of_terms_holds
