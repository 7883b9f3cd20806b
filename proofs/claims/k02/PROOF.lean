
import PyProof.Rows.All
import Wide.All
import OpenK.AllK
import Wide.FinOn
import HandS.ForMost
import HandS.IsInst
import HandS.Conv
import HandS.Style
import HandS.Wide
import HandS.Walk
import HandS.Zip
import HandS.Deep
import HandS.TupMul
import HandS.RaiseMore
import HandS.TupAny
import HandS.ExcInit
import HandS.Exc
import HandS.ExcOwn
import HandS.ExcIs
import HandS.WordsExc
import HandS.ExcField
import HandS.More
import HandS.DictComp
import HandS.DictEq
import HandS.Small
import HandS.Defaults
import KE.KExcIs
import KE.KDictPairs
import HandS.NoneIn
import HandS.DictTup
import HandS.SortRule
import KE.GoesEnumKw
import HandS.Codes
import PySem.Challenge.RW_leapwork_k02_worths_of_terms_and_rows
set_option Elab.async false
set_option linter.all false
set_option maxRecDepth 100000
set_option maxHeartbeats 4000000
namespace LW
open PySem PySem.Spec PyProof.Rows L2 RZ
/-! ### promises that are asked only where no repr is under way (A.guards = some []) -/
structure FnG (P : Program) (w : World) (K : PySem.W.Frag) (mg : Str → Option Value) (base : Heap) (k : Nat) (f : Addr) (fd : FuncData) (ps : List Str) (sp : Sp) : Prop where
  len : ∀ vs H Q E, sp vs H Q E → vs.length = ps.length
  run : ∀ (A : Around) (fs : List Env) (s : Shared) (H : Hp) (ar : Args) (us : List Value) (vs : List V) (Q : VK) (E : XK), Room k A → A.guards = some [] → Env0 P w K mg base A fs s H → BindsTo s fd ar (ps.zip us) → Vals vs us → sp vs H Q E →
    codeAny (model P w) A (.call (.ref f) ar) (CR CX0 fs P w H s Q E) s
section
variable {P : Program} {w : World} {K : PySem.W.Frag} {mg : Str → Option Value} {base : Heap}
theorem FnG.mono {j k : Nat} {f : Addr} {fd : FuncData} {ps : List Str} {sp : Sp} (F : FnG P w K mg base j f fd ps sp) (h : j ≤ k) : FnG P w K mg base k f fd ps sp :=
  ⟨F.len, fun A fs s H ar us vs Q E hr => F.run A fs s H ar us vs Q E (hr.mono h)⟩
theorem FnG.imp {k : Nat} {f : Addr} {fd : FuncData} {ps : List Str} {sp sp' : Sp} (F : FnG P w K mg base k f fd ps sp) (h : ∀ vs H Q E, sp' vs H Q E → sp vs H Q E) : FnG P w K mg base k f fd ps sp' :=
  ⟨fun vs H Q E q => F.len vs H Q E (h _ _ _ _ q), fun A fs s H ar us vs Q E hr hg he hb hv q => F.run A fs s H ar us vs Q E hr hg he hb hv (h _ _ _ _ q)⟩
theorem FnOk.g {k : Nat} {f : Addr} {fd : FuncData} {ps : List Str} {sp : Sp} (F : FnOk P w K mg base CX0 k f fd ps sp) : FnG P w K mg base k f fd ps sp :=
  ⟨F.len, fun A fs s H ar us vs Q E hr _ => F.run A fs s H ar us vs Q E hr⟩
/-- a def by its body -/
theorem Fun.okG {x q : Str} {st : Stmt} {f : Addr} {fd : FuncData} {N ps : List Str} {k : Nat} {sp : Sp} (F : Fun K x q st f fd) (S : FnScope N ps (defScope st)) (len : ∀ vs H Q E, sp vs H Q E → vs.length = ps.length)
    (hbody : ∀ (cdv : Value) (A : Around) (fs : List Env) (s : Shared) (H : Hp) (vs : List V) (Q : VK) (E : XK), Room k (A.deeper (envOfC q (defScope st) s.heap.objs.size f cdv)) → A.guards = some [] → sp vs H Q E →
      ∃ t, PSs (cxOf CX0 P w K mg base N q (defScope st) f cdv A fs s H E).nox (defBody st) t ∧ t { nx := fun _ H' => Q .non H', rt := Q } (start N vs) H) : FnG P w K mg base (k + 1) f fd ps sp := by
  obtain ⟨oc, od, kV, doc, pm, an, cdv, ct, osl, rfl, lk, hcd⟩ := F.ex
  refine ⟨len, fun A fs s H ar us vs Q E hr hg e0 hb rv hsp => ?_⟩
  have kin : K.In s.heap := e0.mod.kin.keeps fun b o z => (e0.bs b o z).1
  have nl : s.heap.NoLimit := e0.mod.nolimit.keeps fun b o z => (e0.bs b o z).1
  have loc : ∀ y ∈ ps.zip us, (defScope st).names.lookup y.1 = some .local ∨ ((defScope st).names.lookup y.1 = some .cell ∧ ((cellsFrom (s.heap.objs.size + 1) (defScope st).names []).lookup y.1).isSome = true) := by
    rintro ⟨n, v⟩ hy
    exact (S.par n (List.of_mem_zip hy).1).imp_right fun z => ⟨z, PySem.W.cellsFrom_some _ _ _ (.inl z)⟩
  refine codeAny_call_function hr.depth (kin _ _ lk) rfl S.co S.gen rfl (PySem.W.codeRec_of kin hcd) (hb _ _ _ _ (wpAny_newFunctionEnv_cells S.kind loc fun env he s1 x => ?_))
  subst he
  refine ⟨nl.keeps x.toInCall.keep, codeAny_func ?_⟩
  obtain ⟨t, ht, hq⟩ := hbody cdv A fs s H vs Q E (hr.deeper _) hg hsp
  have J0 := inv_start (CX := CX0) (E := E) S hr.hd e0 (len _ _ _ _ hsp) rv x
  refine wpAny_mono (ht.nox.run [] s1 (start N vs) H _ J0 hq) (fun fl s' hs => ?_) (fun _ _ z => z)
  cases fl with
  | ret u =>
    obtain ⟨v, σ', H', J, r', q'⟩ := hs
    exact ⟨v, H', J.os, J.bare, J.base, J.hok, r', q'⟩
  | next =>
    obtain ⟨σ', H', J, q'⟩ := hs
    exact ⟨V.non, H', J.os, J.bare, J.base, J.hok, rfl, q'⟩
  | brk => exact (hs.elim fun _ z => z.elim fun _ z => z.2.elim)
  | cont => exact (hs.elim fun _ z => z.elim fun _ z => z.2.elim)
end
section
variable {X : Cx} {k : Nat} {f : Addr} {fd : FuncData} {ps : List Str} {sp : Sp}
theorem runG {pins : List (Addr × Obj)} {σ : L2.St} {H : Hp} {s : Shared} {Q : VK} {us : List Value} {vs : List V} (F : FnG X.prog X.w X.K X.mg X.base k f fd ps sp) (hr : Room k X.A) (hg : X.A.guards = some []) (hb : Binds X.K fd ps [])
    (I : Inv X pins σ H s) (rv : Vals vs us) (h : sp vs H Q E0) : wpAny (model X.prog X.w) X.A (call (.ref f) us) (EP X pins σ Q) X.xe s := by
  have hl : (us ++ []).length = ps.length := by rw [List.append_nil, ← rv.length]; exact F.len _ _ _ _ h
  have b := hb s us I.kIn hl
  rw [List.append_nil] at b
  refine wpAny_call (codeAny_mono (F.run X.A X.stack s H ⟨us, []⟩ us vs Q E0 hr hg I.env0 b rv h) fun r s' z => ?_)
  match r, z with
  | .ok (.ret u), z => exact I.after z
  | .ok .next, z => exact False.elim z
  | .ok .brk, z => exact False.elim z
  | .ok .cont, z => exact False.elim z
  | .error e, z => exact False.elim z
end
section
variable {X : Cx} {k : Nat} {f : Addr} {fd : FuncData} {ps : List Str} {sp : Sp} {x : Str} {e : Expr} {es : List Expr} {t : TA} {p pos : Pos}
theorem pe_callG (F : FnG X.prog X.w X.K X.mg X.base k f fd ps sp) (hr : Room k X.A) (hg : X.A.guards = some []) (gl : Gl X x) (hm : X.mg x = some (.ref f)) (hk : PySem.W.keepIn X.K (.ref f) = true) (hb : Binds X.K fd ps [])
    (ha : PA X (e :: es) t) (hdb : (x == ("__debug__" : Str)) = false := by decide) (he : starEach (e :: es) X.env = (false, eval e X.env) :: starEach es X.env := by rfl) (hpl : (backTo pos (starEach es X.env)).any (·.1) = false := by rfl) :
    PE X (.Call (.Name x p) (e :: es) [] pos) (tCall sp [] E0 t) :=
  ⟨fun pins s σ H Q I h => wpAny_Call_Name_kw (ld_glob I gl hm (PySem.W.callWith_K (h₀ := X.base) I.ok.mod.kin hk (thn (ha.run pos pins s σ H _ I h) fun us s1 ⟨vs, H1, I1, r, q⟩ => ⟨I1.kIn, runG F hr hg hb I1 r (by have q' : sp (vs ++ []) H1 Q E0 := q; rwa [List.append_nil] at q')⟩) he hpl) hdb)⟩
theorem pe_callG0 (F : FnG X.prog X.w X.K X.mg X.base k f fd ps sp) (hr : Room k X.A) (hg : X.A.guards = some []) (gl : Gl X x) (hm : X.mg x = some (.ref f)) (hk : PySem.W.keepIn X.K (.ref f) = true) (hb : Binds X.K fd ps [])
    (hdb : (x == ("__debug__" : Str)) = false := by decide) : PE X (.Call (.Name x p) [] [] pos) (tCall sp [] E0 tNil) :=
  ⟨fun pins s σ H Q I h => wpAny_Call_Name_kw (ld_glob I gl hm (PySem.W.callWith_K0 I.kIn hk (runG (us := []) (vs := []) F hr hg hb I .nil h)) hdb)⟩
end
/-! ### the law's call -/
theorem lawG {P : Program} {w : World} {K : PySem.W.Frag} {mg mb : Str → Option Value} {k : Nat} {fa a : Addr} {fd : FuncData} {x : Str} {sp : Sp} {s1 : Shared} {vs : List Value} {ns : List Int}
    (KX : K.In s1.heap) (g1 : s1.heap.Ns mainGlobals mg) (g2 : s1.heap.Ns builtinsNs mb) (g3 : ∀ x : Str, x ≠ "__name__" → mb x = bootBuiltins x) (g4 : s1.heap.NoLimit) (g5 : s1.gens = #[])
    (ha : s1.heap.get? a = some { cls := .type "list", data := .seq vs.toArray }) (hi : IntsAre vs ns) (hl : ns.length ≤ sizeLine) (hr : Room k callerA)
    (F : ∀ base : Heap, K.In base → base.Ns mainGlobals mg → FnG P w K mg base k fa fd [x] sp) (bi : ∀ (s : Shared) (u : Value), BindsTo s fd ⟨[u], []⟩ [(x, u)])
    (hsp : ∀ H : Hp, Only H → SqL K H a (ns.map V.int) → sp [.ref a] H (fun v _ => v = .bl true) fun _ _ _ => False) :
    codeAny (model P w) callerA (.call (.ref fa) ⟨[.ref a], []⟩) (fun r s' => r = .ok (.ret (.bool true)) ∧ OldK s1.heap s'.heap ∧ s'.os = s1.os ∧ AllBare s'.gens) s1 := by
  have rv := vals_ints hi
  have lv := hi.length
  suffices core : ∀ H : Hp, Only H → SqL K H a (ns.map V.int) → HOk P w H s1.heap → (∀ b, H b ≠ none → b = a) → (H a ≠ none → K.lookup a = none) →
      codeAny (model P w) callerA (.call (.ref fa) ⟨[.ref a], []⟩) (fun r s' => r = .ok (.ret (.bool true)) ∧ OldK s1.heap s'.heap ∧ s'.os = s1.os ∧ AllBare s'.gens) s1 by
    rcases hk : K.lookup a with _ | o
    · let H1 : Hp := fun b => if b = a then some (.frz { cls := .type "list", data := .seq vs.toArray } (.lst (ns.map V.int))) else none
      have h1 : H1 a = some (.frz { cls := .type "list", data := .seq vs.toArray } (.lst (ns.map V.int))) := if_pos rfl
      have h2 : ∀ b, b ≠ a → H1 b = none := fun b n => if_neg n
      refine core H1 (fun b => ?_) (.inl (.inr ⟨_, h1⟩)) (fun b u z => ?_) (fun b z => Classical.byContradiction fun n => z (h2 b n)) (fun _ => hk)
      · rcases Classical.em (b = a) with rfl | n
        · exact .inr ⟨_, _, h1⟩
        · exact .inl (h2 b n)
      · rcases Classical.em (b = a) with rfl | n
        · rw [h1] at z
          cases z
          exact ⟨ha, by rw [List.length_map]; exact hl, vs, _, rv, ha⟩
        · rw [h2 b n] at z
          cases z
    · have e := KX a o hk
      rw [ha] at e
      cases e
      exact core (fun _ => none) (fun _ => .inl rfl) (.inr ⟨_, vs.toArray, _, hk, rfl, rfl, rfl, by rw [List.size_toArray, lv]; exact hl, by simpa using rv⟩) (fun b u z => by cases (show (none : Option HO) = some u from z)) (fun b z => absurd rfl z) (fun z => absurd rfl z)
  intro H hO hS hok hA hK
  have free : ∀ {b : Addr}, b ≠ a → H b = none := fun {b} n => Classical.byContradiction fun z => n (hA b z)
  have nodict : ∀ {b : Addr} {o : Obj} {es : Array DictEntry} {ep : Nat}, s1.heap.get? b = some o → o.data = .dict es ep → H b = none := fun {b o es ep} z d => free fun y => by
    subst y
    rw [ha] at z
    cases z
    cases (show Data.seq vs.toArray _ = Data.dict es ep from d)
  have ns' : ∀ {b : Addr} {m : Str → Option Value}, s1.heap.Ns b m → (hidT s1.heap H).Ns b m := fun ⟨o, es, ep, z, d, r⟩ => ⟨o, es, ep, hidT_get z (nodict z d), d, r⟩
  have kin : K.In (hidT s1.heap H) := fun b o z => hidT_get (KX b o z) (Classical.byContradiction fun y => by
    have e := hA b y
    subst e
    rw [hK y] at z
    cases z)
  have e0 : Env0 P w K mg (hidT s1.heap H) callerA [] s1 H := ⟨rfl, ⟨kin, ns' g1, ⟨mb, ns' g2, g3⟩, let ⟨mc, z1, z2⟩ := g4; ⟨mc, ns' z1, z2⟩⟩, (fun b o z => of_hidT z), Nat.le_of_eq (hidT_size _ _), trivial, (fun b z => nomatch (show b ∈ ([] : List Addr) from z)), hok, .of_eq g5⟩
  refine codeAny_mono ((F _ kin (ns' g1)).run callerA [] s1 H ⟨[.ref a], []⟩ [.ref a] [.ref a] _ _ hr rfl e0 (bi s1 (.ref a)) (.cons rfl .nil) (hsp H hO hS)) fun r s' z => ?_
  match r, z with
  | .ok .next, z => exact False.elim z
  | .ok .brk, z => exact False.elim z
  | .ok .cont, z => exact False.elim z
  | .error e, z => exact False.elim z
  | .ok (.ret u), z =>
    obtain ⟨v, H', os, bare, un, hok', r', q⟩ := z
    have q : v = .bl true := q
    subst q
    obtain rfl : u = Value.bool true := r'
    refine ⟨rfl, OldK.of_keep fun b o z => ?_, os, bare⟩
    rcases hO b with y | ⟨ob, xs, y⟩
    · exact un.keep b o z y (fun y => nomatch (show b ∈ ([] : List Addr) from y)) (by simp)
    · obtain ⟨z1, _⟩ := hok b _ y
      obtain ⟨z2, _⟩ := hok' b _ (un.frzs b ob _ y)
      rw [z] at z1
      cases z1
      exact z2
theorem walkG {l : PySem.W.OpenLaw} {n k : Nat} {q : Program} {loose : List Str} {XP : (Str → Option Value) → Heap → Prop} {YP : World → Heap → Prop} {d : DefRec} {K : Params → PySem.W.Frag} {sp : World → Sp} {x : Str}
    (hn : l.most = some n) (hn2 : n ≤ sizeLine) (hdf : d.params.defaults = []) (hr : Room k callerA) (hY : ∀ (w : World) (h : Heap), YP w h → (K w.params).In h)
    (F : ∀ (w : World) (mg : Str → Option Value) (fa : Addr) (h : Heap), (K w.params).In h → h.Ns mainGlobals mg → mg d.name = some (.ref fa) →
      ∃ fd : FuncData, (∀ (s : Shared) (u : Value), BindsTo s fd ⟨[u], []⟩ [(x, u)]) ∧ ∀ base : Heap, (K w.params).In base → base.Ns mainGlobals mg → FnG l.prog w (K w.params) mg base k fa fd [x] (sp w))
    (hsp : ∀ (w : World) (H : Hp) (a : Addr) (ns : List Int), ns.length ≤ n → Only H → SqL (K w.params) H a (ns.map V.int) → sp w [.ref a] H (fun v _ => v = .bl true) fun _ _ _ => False) :
    PySem.W.WalkO q loose XP YP l.row.toRowW d [] (fun f vs => PySem.call f vs) :=
  Att.attach_call hn hdf fun w s0 s1 mg mb fa o pm cd doc a vs ns G Y ho hd hcd hmg hobj hints hlen hg => by
    obtain ⟨fd, hb, hF⟩ := F w mg fa _ (hY w _ Y) G.T.g hmg
    exact lawG (hY w _ Y) G.T.g G.T.b G.T.builtins G.T.nolimit hg hobj hints (Nat.le_trans hlen hn2) hr hF hb fun H hO hS => hsp w H a ns hlen hO hS
/-- room, and no repr under way -/
structure Rm (k : Nat) (A : Around) : Prop extends Room k A where
  gd : A.guards = some []
theorem Rm.mono {j k : Nat} {A : Around} (r : Rm k A) (h : j ≤ k) : Rm j A := ⟨r.toRoom.mono h, r.gd⟩

/-! ### shared words: a def of the text, its promise, calls -/
/-- a def of the text as it stands behind the top -/
def Df (K : PySem.W.Frag) (mg : Str → Option Value) (x : Str) (st : Stmt) (ps : List Str) : Prop :=
  ∃ (f : Addr) (fd : FuncData), Fun K x x st f fd ∧ Binds K fd ps [] ∧ mg x = some (.ref f)
/-- a def that keeps a promise -/
def Ok (P : Program) (w : World) (K : PySem.W.Frag) (mg : Str → Option Value) (base : Heap) (k : Nat) (x : Str) (ps : List Str) (sp : Sp) : Prop :=
  ∃ (f : Addr) (fd : FuncData), mg x = some (.ref f) ∧ PySem.W.keepIn K (.ref f) = true ∧ Binds K fd ps [] ∧ FnG P w K mg base k f fd ps sp
section
variable {P : Program} {w : World} {K : PySem.W.Frag} {mg : Str → Option Value} {base : Heap}
theorem Ok.mk {x : Str} {st : Stmt} {N ps : List Str} {k : Nat} {sp : Sp} (D : Df K mg x st ps) (S : FnScope N ps (defScope st)) (len : ∀ vs H Q E, sp vs H Q E → vs.length = ps.length)
    (hbody : ∀ (f : Addr) (cdv : Value) (A : Around) (outer : List Env) (s : Shared) (H : Hp) (vs : List V) (Q : VK) (E : XK), Rm k (A.deeper (envOfC x (defScope st) s.heap.objs.size f cdv)) → sp vs H Q E →
      ∃ t, PSs (cxOf CX0 P w K mg base N x (defScope st) f cdv A outer s H E).nox (defBody st) t ∧ t { nx := fun _ H' => Q .non H', rt := Q } (start N vs) H) : Ok P w K mg base (k + 1) x ps sp := by
  obtain ⟨f, fd, F, b, g⟩ := D
  exact ⟨f, fd, g, F.kp, b, Fun.okG F S len fun cdv A outer s H vs Q E hr hg h => hbody f cdv A outer s H vs Q E ⟨hr, hg⟩ h⟩
theorem Fn.mk {x : Str} {st : Stmt} {f : Addr} {fd : FuncData} {N ps : List Str} {k : Nat} {sp : Sp} (F : Fun K x x st f fd) (S : FnScope N ps (defScope st)) (len : ∀ vs H Q E, sp vs H Q E → vs.length = ps.length)
    (hbody : ∀ (f : Addr) (cdv : Value) (A : Around) (outer : List Env) (s : Shared) (H : Hp) (vs : List V) (Q : VK) (E : XK), Rm k (A.deeper (envOfC x (defScope st) s.heap.objs.size f cdv)) → sp vs H Q E →
      ∃ t, PSs (cxOf CX0 P w K mg base N x (defScope st) f cdv A outer s H E).nox (defBody st) t ∧ t { nx := fun _ H' => Q .non H', rt := Q } (start N vs) H) : FnG P w K mg base (k + 1) f fd ps sp :=
  Fun.okG F S len fun cdv A outer s H vs Q E hr hg h => hbody f cdv A outer s H vs Q E ⟨hr, hg⟩ h
theorem Ok.mono {x : Str} {ps : List Str} {j k : Nat} {sp : Sp} (h : Ok P w K mg base j x ps sp) (l : j ≤ k) : Ok P w K mg base k x ps sp := by
  obtain ⟨f, fd, hm, hk, hb, F⟩ := h
  exact ⟨f, fd, hm, hk, hb, F.mono l⟩
theorem Ok.imp {x : Str} {ps : List Str} {k : Nat} {sp sp' : Sp} (h : Ok P w K mg base k x ps sp) (q : ∀ vs H Q E, sp' vs H Q E → sp vs H Q E) : Ok P w K mg base k x ps sp' := by
  obtain ⟨f, fd, hm, hk, hb, F⟩ := h
  exact ⟨f, fd, hm, hk, hb, F.imp q⟩
end
section
variable {X : Cx}
theorem pe_fn {k : Nat} {x : Str} {ps : List Str} {sp : Sp} {e : Expr} {es : List Expr} {t : TA} {p pos : Pos} (O : Ok X.prog X.w X.K X.mg X.base k x ps sp) (hr : Rm k X.A) (hg : Gl X x) (ha : PA X (e :: es) t)
    (hdb : (x == ("__debug__" : Str)) = false := by decide) (he : starEach (e :: es) X.env = (false, eval e X.env) :: starEach es X.env := by rfl) (hpl : (backTo pos (starEach es X.env)).any (·.1) = false := by rfl) :
    PE X (.Call (.Name x p) (e :: es) [] pos) (tCall sp [] E0 t) := by
  obtain ⟨f, fd, hm, hk, hb, F⟩ := O
  exact pe_callG F hr.toRoom hr.gd hg hm hk hb ha hdb he hpl
theorem pe_fn0 {k : Nat} {x : Str} {ps : List Str} {sp : Sp} {p pos : Pos} (O : Ok X.prog X.w X.K X.mg X.base k x ps sp) (hr : Rm k X.A) (hg : Gl X x) (hdb : (x == ("__debug__" : Str)) = false := by decide) :
    PE X (.Call (.Name x p) [] [] pos) (tCall sp [] E0 tNil) := by
  obtain ⟨f, fd, hm, hk, hb, F⟩ := O
  exact pe_callG0 F hr.toRoom hr.gd hg hm hk hb hdb
/-- a name that is a local -/
theorem pg_nameL {i : Nat} {x : Str} {pos : Pos} (hN : X.N.Nodup) (hi : X.N[i]? = some x) (hx : X.env.scope.names.lookup x = some .local) : PG X (.Name x pos) (gName i) := pg_name hN hi (.inl hx) (.inr hx)
/-- xs[i], for xs[i] op= e -/
theorem get_list : PGet X (rIxL X.K) := by
  intro pins s σ H x y v u Q I rx ry h
  obtain ⟨p, xs, i, z, rfl, rfl, hq, he, q⟩ := h
  cases rx
  obtain ⟨t, rfl⟩ := ry
  obtain ⟨its, r, pl, hz⟩ := I.list hq
  obtain ⟨j, h1, h2, h3, h4, h5⟩ := atI_get he
  obtain ⟨w, ew, rw'⟩ := r.get h2
  have hl := r.length
  have hn := line63
  have fin : EP X pins σ Q w s := ⟨z, H, I, rw', q⟩
  by_cases h0 : 0 ≤ i
  · have hj : i.toNat = j := by
      rw [seqIndex_of h0 h5] at h1
      exact Option.some.inj h1
    exact wpAny_getItem_list pl.isList h0 (by omega) (by rw [hj]; simpa using ew) fin
  · have hj : (i + (its.toArray.size : Int)).toNat = j := by
      rw [seqIndex_neg (by omega) h4] at h1
      rw [List.size_toArray, ← hl]
      exact Option.some.inj h1
    exact wpAny_getItem_list_neg pl.isList (by omega) (by rw [List.size_toArray] <;> omega) (by omega) (by rw [hj]; simpa using ew) fin
end
/-! ### heaps -/
theorem same_upd {H : Hp} {p : Addr} {o : HO} (h : H p = none) : Same H (upd H p o) := fun b x e => by
  rw [upd_ne (ne_of_none e h)]
  exact e
/-- all but p is as it was -/
def But (p : Addr) (H H' : Hp) : Prop := ∀ b o, b ≠ p → H b = some o → H' b = some o
theorem But.refl (p : Addr) (H : Hp) : But p H H := fun _ _ _ h => h
theorem But.of {p : Addr} {H H' : Hp} (h : Same H H') : But p H H' := fun b o _ e => h b o e
theorem But.trans {p : Addr} {H H1 H2 : Hp} (a : But p H H1) (b : But p H1 H2) : But p H H2 := fun c o n h => b c o n (a c o n h)
theorem But.upd {p : Addr} {H : Hp} {o : HO} : But p H (upd H p o) := fun b x n e => by rw [upd_ne n]; exact e
theorem But.new {p q : Addr} {H : Hp} {o : HO} (h : H q = none) : But p H (L2.upd H q o) := But.of (same_upd h)
theorem But.free {p : Addr} {H H' : Hp} (e : But p H H') {l : Addr} (n : l ≠ p) (h : H' l = none) : H l = none := by
  cases q : H l with
  | none => rfl
  | some o => rw [e l o n q] at h; cases h
/-! ### the pen: [cells, at, rest] -/
/-- a pen at p, its cells at c, of which at most n were taken -/
structure Pen (H : Hp) (p c : Addr) (n : Nat) : Prop where
  pen : ∃ (at_ rest : Int), H p = some (.lst [.ref c, .int at_, .int rest]) ∧ 0 ≤ at_ ∧ at_ ≤ (n : Int) ∧ 0 ≤ rest
  cells : ∃ ns : List Int, H c = some (.lst (ns.map V.int))
  ne : c ≠ p
theorem Pen.but {H H' : Hp} {p c q : Addr} {n : Nat} (h : Pen H p c n) (b : But q H H') (n1 : p ≠ q) (n2 : c ≠ q) : Pen H' p c n := by
  obtain ⟨⟨a, r, e, z⟩, ⟨ns, e2⟩, ne⟩ := h
  exact ⟨⟨a, r, b _ _ n1 e, z⟩, ⟨ns, b _ _ n2 e2⟩, ne⟩
theorem Pen.same {H H' : Hp} {p c : Addr} {n : Nat} (h : Pen H p c n) (b : Same H H') : Pen H' p c n := by
  obtain ⟨⟨a, r, e, z⟩, ⟨ns, e2⟩, ne⟩ := h
  exact ⟨⟨a, r, b _ _ e, z⟩, ⟨ns, b _ _ e2⟩, ne⟩
theorem Pen.mono {H : Hp} {p c : Addr} {n m : Nat} (h : Pen H p c n) (l : n ≤ m) : Pen H p c m := by
  obtain ⟨⟨a, r, e, z1, z2, z3⟩, ns, ne⟩ := h
  exact ⟨⟨a, r, e, z1, by omega, z3⟩, ns, ne⟩
theorem Pen.new {H : Hp} {p c q : Addr} {n : Nat} (h : Pen H p c n) (e : H q = none) : p ≠ q ∧ c ≠ q := by
  obtain ⟨⟨a, r, e1, _⟩, ⟨ns, e2⟩, ne⟩ := h
  exact ⟨ne_of_none e1 e, ne_of_none e2 e⟩
theorem Pen.free {H : Hp} {p c q : Addr} {n : Nat} (h : Pen H p c n) (e : H q = none) : q ≠ p ∧ q ≠ c := ⟨(h.new e).1.symm, (h.new e).2.symm⟩
/-- the law's script -/
def spLaw (K : PySem.W.Frag) : Sp := fun vs H Q _ => ∃ (a : Addr) (ns : List Int), vs = [.ref a] ∧ SqL K H a (ns.map V.int) ∧ ns.length ≤ 63 ∧ ∀ H', Q (.bl true) H'
/-- so many draws at most -/
def penLim : Nat := 2 ^ 4000
theorem pen9 : 1000000000 ≤ penLim := Nat.le_trans (show 1000000000 ≤ 2 ^ 100 by decide) (Nat.pow_le_pow_right (by decide) (by decide))
theorem pen100 : 2 ^ 100 ≤ penLim := Nat.pow_le_pow_right (by decide) (by decide)
theorem lim_small {x : Int} (h0 : 0 ≤ x) (h : x ≤ 2 ^ 60 * (penLim : Int)) : x.natAbs < 2 ^ 9000 := by
  have h1 : x.natAbs ≤ 2 ^ 60 * penLim := by omega
  refine Nat.lt_of_le_of_lt h1 ?_
  unfold penLim
  rw [← Nat.pow_add]
  exact Nat.pow_lt_pow_right (by decide) (by decide)
def CPowW (i j : Int) : Prop := 0 ≤ j ∧ j ≤ 1000 ∧ i.natAbs < 2 ^ 9000
theorem powBits {a n : Int} (h : CPowW a n) : (Builtin.Int.intBits a : Int) * n ≤ 2 ^ 27 := by
  obtain ⟨h0, h1, h2⟩ := h
  have hb : Builtin.Int.intBits a ≤ 9000 := intBits_le h2
  have h3 : (Builtin.Int.intBits a : Int) * n ≤ 9000 * n := Int.mul_le_mul_of_nonneg_right (by omega) h0
  omega
theorem op_powW {X : Cx} : OpR X (binaryOp .Pow) (rI CPowW fun i j => .int (i ^ j.toNat)) := opI fun _ _ _ _ _ _ _ hc q => pow_int hc.1 (powBits hc) q
def spSpread : Sp := fun vs H Q _ => ∃ c a : Int, vs = [.int c, .int a] ∧ 0 ≤ a ∧ a ≤ (penLim : Int) ∧ ∀ (r : Int) (H' : Hp), 0 ≤ r → Same H H' → Q (.int r) H'
def spOpen (K : PySem.W.Frag) : Sp := fun vs H Q _ => ∃ (a : Addr) (ns : List Int), vs = [.ref a] ∧ SqL K H a (ns.map V.int) ∧ ns.length ≤ 63 ∧ ∀ p c H', Same H H' → H p = none → H c = none → Pen H' p c 0 → Q (.ref p) H'
def spTake : Sp := fun vs H Q _ => ∃ (p c : Addr) (n : Nat) (m : Int), vs = [.ref p, .int m] ∧ Pen H p c n ∧ n ≤ penLim ∧ 0 < m ∧ m.natAbs < 2 ^ 9000 ∧
  ∀ (r : Int) (H' : Hp), 0 ≤ r → r < m → But p H H' → Pen H' p c (n + 1) → Q (.int r) H'
theorem cut_take (xs : List V) (b : Nat) : cutV xs none (some (b : Int)) = xs.take b := by
  unfold cutV
  rw [HT.sIx_none, HT.sIx_nat, List.drop_zero, Nat.sub_zero]
  rcases Nat.le_total b xs.length with h | h
  · rw [Nat.min_eq_left h]
  · rw [Nat.min_eq_right h, List.take_of_length_le (Nat.le_refl _), List.take_of_length_le h]
theorem cut_drop (xs : List V) (a b : Nat) (h : a ≤ b) : cutV xs (some (a : Int)) (some (b : Int)) = (xs.take b).drop a := by
  unfold cutV
  rw [HT.sIx_nat, HT.sIx_nat]
  apply List.ext_getElem?
  intro i
  rw [List.getElem?_take, List.getElem?_drop, List.getElem?_drop, List.getElem?_take]
  by_cases h1 : a ≤ xs.length
  · rw [Nat.min_eq_left h1]
    by_cases h2 : b ≤ xs.length
    · rw [Nat.min_eq_left h2]
      by_cases h3 : i < b - a
      · rw [if_pos h3, if_pos (by omega)]
      · rw [if_neg h3, if_neg (by omega)]
    · rw [Nat.min_eq_right (by omega)]
      by_cases h3 : a + i < xs.length
      · rw [if_pos (by omega), if_pos (by omega)]
      · rw [List.getElem?_eq_none (by omega)]
        simp
  · rw [Nat.min_eq_right (by omega), List.getElem?_eq_none (by omega), List.getElem?_eq_none (show xs.length ≤ a + i by omega)]
    simp
theorem atI_of {α : Type} {xs : List α} {i : Int} {v : α} (j : Nat) (e : i = (j : Int)) (h : xs[j]? = some v) : atI xs i = some v := by subst e; exact atI_nat h
theorem ixN_of {n : Nat} {i : Int} (j : Nat) (e : i = (j : Int)) (h : j < n) : ixN n i = some j := by
  subst e
  unfold ixN
  rw [if_pos (by omega), if_pos (by omega)]
  simp

/-! ### data: values as trees -/
/-- less than n deep, no list too long -/
def fit : Nat → PyData → Prop
  | 0, _ => False
  | n + 1, .list xs => xs.length < sizeLine ∧ ∀ x ∈ xs, fit n x
  | n + 1, .tuple xs => xs.length < sizeLine ∧ ∀ x ∈ xs, fit n x
  | _ + 1, _ => True
theorem fit_mono : ∀ {n m : Nat} {d : PyData}, fit n d → n ≤ m → fit m d
  | 0, _, _, h, _ => False.elim h
  | n + 1, 0, _, _, l => absurd l (by omega)
  | n + 1, m + 1, .list xs, h, l => ⟨h.1, fun x hx => fit_mono (h.2 x hx) (by omega)⟩
  | n + 1, m + 1, .tuple xs, h, l => ⟨h.1, fun x hx => fit_mono (h.2 x hx) (by omega)⟩
  | n + 1, m + 1, .none, _, _ => True.intro
  | n + 1, m + 1, .bool _, _, _ => True.intro
  | n + 1, m + 1, .int _, _, _ => True.intro
  | n + 1, m + 1, .str _, _, _ => True.intro
  | n + 1, m + 1, .dict _, _, _ => True.intro
theorem ifn {c A B : Prop} [Decidable c] (h : ¬ c) (b : B) : if c then A else B := by rw [if_neg h]; exact b
theorem ifp {c A B : Prop} [Decidable c] (h : c) (a : A) : if c then A else B := by rw [if_pos h]; exact a
theorem yes {σ : L2.St} {H : Hp} {Q : Bool → Hp → Prop} (h : Q true H) : tYes σ H Q := h
inductive Cl where | bool | int | str | tuple | list | dict
def Cl.name : Cl → String
  | .bool => "bool" | .int => "int" | .str => "str" | .tuple => "tuple" | .list => "list" | .dict => "dict"
/-- isinstance of data -/
def isB : Cl → PyData → Bool
  | .bool, .bool _ => true
  | .int, .bool _ => true
  | .int, .int _ => true
  | .str, .str _ => true
  | .tuple, .tuple _ => true
  | .list, .list _ => true
  | .dict, .dict _ => true
  | _, _ => false
def tyD : PyData → String
  | .none => "NoneType" | .bool _ => "bool" | .int _ => "int" | .str _ => "str" | .list _ => "list" | .tuple _ => "tuple" | .dict _ => "dict"
theorem kitB_nn (c : Cl) (d : PyData) : kitB (tyD d) c.name = some (isB c d) := by
  cases c <;> cases d <;> (simp only [tyD, Cl.name, isB]; decide +kernel)
section
variable {K : PySem.W.Frag} {H H' : Hp}
theorem tyX_list {a : Addr} {xs : List V} (h : SqL K H a xs) : TyX K H (.ref a) (.type "list") := by
  rcases h with (h | ⟨o, h⟩) | ⟨o, its, n, h, c, _⟩
  · exact .base (.lst h)
  · exact .base (.frz h)
  · exact .kList h c
theorem tyX_tup {a : Addr} {xs : List V} (h : SqT K H a xs) : TyX K H (.ref a) (.type "tuple") := by
  rcases h with (h | ⟨o, h⟩) | ⟨o, its, n, h, c, _⟩
  · exact .base (.tup h)
  · exact .fTuple h
  · exact .kTuple h c
theorem tyX_of {x : V} {d : PyData} (h : Dp K H x d) : TyX K H x (.type (tyD d)) := by
  cases h with
  | non => exact .base .non
  | bl b => exact .base (.bl b)
  | int i => exact .base (.int i)
  | str z => exact .base (.str z)
  | lst q _ => exact tyX_list q
  | tup q _ => exact tyX_tup q
/-- isinstance(x, T) of data -/
def rIsiD (K : PySem.W.Frag) : List V → Hp → VK → Prop := fun xs H Q => ∃ (c : Cl) (x : V) (d : PyData), xs = [x, .ty c.name] ∧ Dp K H x d ∧ Q (.bl (isB c d)) H
theorem call_isiD {X : Cx} : CallR X (.builtin "isinstance") (rIsiD X.K) := by
  intro pins s σ H xs us Q I r h
  obtain ⟨c, x, d, rfl, hd, q⟩ := h
  exact call_isi pins s σ H _ us Q I r ⟨x, _, _, _, _, rfl, .ty _, tyX_of hd, kit_ty (kitB_nn c d), q⟩
theorem Same.sqT {a : Addr} {xs : List V} (e : Same H H') (h : SqT K H a xs) : SqT K H' a xs := by
  rcases h with (h | ⟨o, h⟩) | h
  · exact .inl (.inl (e _ _ h))
  · exact .inl (.inr ⟨o, e _ _ h⟩)
  · exact .inr h
mutual
theorem Dp_same (e : Same H H') : ∀ {x : V} {d : PyData}, Dp K H x d → Dp K H' x d
  | _, _, .non => .non
  | _, _, .bl b => .bl b
  | _, _, .int i => .int i
  | _, _, .str z => .str z
  | _, _, .lst q a => .lst (e.seq q) (DpAll_same e a)
  | _, _, .tup q a => .tup (Same.sqT e q) (DpAll_same e a)
theorem DpAll_same (e : Same H H') : ∀ {xs : List V} {ds : List PyData}, DpAll K H xs ds → DpAll K H' xs ds
  | _, _, .nil => .nil
  | _, _, .cons a b => .cons (Dp_same e a) (DpAll_same e b)
end
theorem DpAll_len : ∀ {xs : List V} {ds : List PyData}, DpAll K H xs ds → xs.length = ds.length
  | _, _, .nil => rfl
  | _, _, .cons _ b => by rw [List.length_cons, List.length_cons, DpAll_len b]
theorem DpAll_get : ∀ {xs : List V} {ds : List PyData} {i : Nat} {x : V}, DpAll K H xs ds → xs[i]? = some x → ∃ d, ds[i]? = some d ∧ Dp K H x d
  | _, _, 0, _, .cons a _, e => by
    cases e
    exact ⟨_, rfl, a⟩
  | _, _, i + 1, x, .cons _ b, e => DpAll_get (i := i) b e
theorem DpAll_ints : ∀ ns : List Int, DpAll K H (ns.map V.int) (ns.map PyData.int)
  | [] => .nil
  | n :: ns => .cons (.int n) (DpAll_ints ns)
theorem walk_zipT {a b : Addr} {xs ys : List V} {n : Nat} (hn : n = min xs.length ys.length) : Walk (ItzT K a b) n (fun H => SqT K H a xs ∧ SqT K H b ys) (YPair (fun i => xs[i]?) (fun i => ys[i]?)) := by
  subst hn
  refine ⟨fun i _ hi q => ?_, fun _ q => ⟨xs, ys, q.1, q.2, by omega⟩, fun i H v H' _ q y => ?_⟩
  · have h1 : i < xs.length := by omega
    have h2 : i < ys.length := by omega
    exact ⟨xs, ys, xs[i], ys[i], q.1, q.2, by simp [h1], by simp [h2]⟩
  · obtain ⟨T, x, z, h1, h2, h3, h4, h5⟩ := y
    exact ⟨T, x, z, h1, h2, h3, h4 xs q.1, h5 ys q.2⟩
theorem inV_trues (n : Nat) : inV (.bl false) (List.replicate n (V.bl true)) = false := by
  unfold inV
  rw [List.any_eq_false]
  intro x hx
  rw [List.eq_of_mem_replicate hx]
  decide
theorem flat_trues (n : Nat) : (List.replicate n (V.bl true)).all flatV = true := by
  rw [List.all_eq_true]
  intro x hx
  rw [List.eq_of_mem_replicate hx]
  rfl
end
/-- _law_same: equal data are alike -/
def spSame (K : PySem.W.Frag) (n : Nat) : Sp := fun vs H Q _ => ∃ (x y : V) (d : PyData), vs = [x, y] ∧ Dp K H x d ∧ Dp K H y d ∧ fit n d ∧ ∀ H', Same H H' → Q (.bl true) H'

/-! ### rules with the written part told (for comprehensions' blocks) -/
section
variable {X : Cx} (K : PySem.W.Frag) (eK : X.K = K)
include eK
theorem ixL : IxR X (rIxL K) := eK ▸ ix_list
theorem ixT : IxR X (rIxT K) := eK ▸ ix_tup
theorem inQ : OpR X (compareOp .In) (rIn K false) := eK ▸ op_in_seq
theorem ninQ : OpR X (compareOp .NotIn) (rIn K true) := eK ▸ op_notIn_seq
def rLenQ (K : PySem.W.Frag) : List V → Hp → VK → Prop := fun xs H Q => ∃ p ys, xs = [.ref p] ∧ (SqL K H p ys ∨ SqT K H p ys) ∧ Q (.int ys.length) H
theorem lenQ : CallR X (.builtin "len") (rLenQ K) := by subst eK; exact call_len_seq
def rListQ (K : PySem.W.Frag) : List V → Hp → VK → Prop := fun xs H Q => ∃ p ys, xs = [.ref p] ∧ (SqL K H p ys ∨ SqT K H p ys) ∧ ∀ l, H l = none → Q (.ref l) (upd H l (.lst ys))
theorem listQ : CallR X (.type "list") (rListQ K) := by subst eK; exact call_list_of
theorem slL : SlR X (rSlL K) := by subst eK; exact sl_list
theorem isiQ : CallR X (.builtin "isinstance") (rIsiD K) := by subst eK; exact call_isiD
theorem getL : PGet X (rIxL K) := eK ▸ get_list
theorem pgT {es : List Expr} {k : Nat} {t : TGs} (n : Nat) {pos : Pos} (hc : X.calm = true) (h : PGs X es t) (hn : (assignEach es X.env).length = n := by rfl) (hst : (assignEach es X.env).findIdx? (·.1) = none := by rfl) : PG X (.Tuple es k pos) (gTup K n t) := by
  subst eK
  exact pg_tup hc h hn hst
theorem piL {tg l : Expr} {tl : TE} (hl : PE X l tl) : PI X tg l (iList K tl) := eK ▸ pi_list hl
theorem piT {tg l : Expr} {tl : TE} (hl : PE X l tl) : PI X tg l (iTup K tl) := eK ▸ pi_tup hl
theorem piZ {e e2 : Expr} {ta : TA} {p pos tpos : Pos} {elts : List Expr} {kk : Nat} (hg : Gl X "zip") (hm : X.mg "zip" = none) (ha : PA X [e, e2] ta)
    (hs : starEach [e, e2] X.env = (false, eval e X.env) :: starEach [e2] X.env := by rfl) (hpl : (backTo pos (starEach [e2] X.env)).any (·.1) = false := by rfl) :
    PI X (.Tuple elts kk tpos) (.Call (.Name "zip" p) [e, e2] [] pos) (iZipA K ta) := by
  subst eK
  exact pi_zipA hg hm ha hs hpl
theorem piE {e : Expr} {ta : TA} {p pos tpos : Pos} {elts : List Expr} {kk : Nat} (hg : Gl X "enumerate") (hm : X.mg "enumerate" = none) (ha : PA X [e] ta) (hs : starEach [e] X.env = [(false, eval e X.env)] := by rfl) :
    PI X (.Tuple elts kk tpos) (.Call (.Name "enumerate" p) [e] [] pos) (iEnum K ta) := by
  subst eK
  exact pi_enum hg hm ha hs
theorem revL {e : Expr} {te : TE} {k : Nat} {p1 p2 p3 pos : Pos} (he : PE X e te) : PE X (.Subscript e (.Slice none none (some (.UnaryOp .USub (.Constant (.int 1) k p1) p2)) p3) pos) (tRevL K te) := by
  subst eK
  exact pe_revL he
theorem appK {o e : Expr} {to te : TE} {apos cpos : Pos} (ho : PE X o to) (he : PE X e te) (hbase : attributeBase o "append" X.env (eval o X.env) = eval o X.env := by rfl)
    (hfew : ((backTo cpos (starEach [e] X.env)).all (fun x => !x.1) && (backToKw cpos (keywordEach [] X.env)).all (fun x => x.1.isSome)
      && decide ([e].length + ([] : List Keyword).length + (if ([] : List Keyword).isEmpty then 0 else 1) < 30)) = true := by rfl)
    (hline : (apos.endLine == cpos.line) = true := by rfl) (hs : starEach [e] X.env = (false, eval e X.env) :: starEach [] X.env := by rfl) :
    PE X (.Call (.Attribute o "append" apos) [e] [] cpos) (tBM K "list" rAppend to (tCons te tNil)) := by
  subst eK
  exact pe_bm PySem.F.plainAttrs_list PySem.F.slot_list_append PySem.F.type_list_append mt_append ho (pa_cons he pa_nil hs) hbase hfew hline hs rfl
end

/-! ### tuples that keep their object: it is known to have no dict of its own -/
def tupObj (its : List Value) : Obj := { cls := .type "tuple", data := .seq its.toArray }
/-- a tuple, its object known to have no dict -/
def TqT (K : PySem.W.Frag) (H : Hp) (a : Addr) (xs : List V) : Prop :=
  (∃ o, H a = some (.frz o (.tup xs)) ∧ o.dict = none) ∨
    ∃ (o : Obj) (its : Array Value) (n : Nat), K.lookup a = some o ∧ o.cls = .type "tuple" ∧ o.dict = none ∧ o.data = .seq its n ∧ its.size ≤ sizeLine ∧ Vals xs its.toList
theorem TqT.of {K : PySem.W.Frag} {H : Hp} {a : Addr} {xs : List V} {o : Obj} (h : H a = some (.frz o (.tup xs))) (d : o.dict = none) : TqT K H a xs := .inl ⟨o, h, d⟩
theorem TqT.sq {K : PySem.W.Frag} {H : Hp} {a : Addr} {xs : List V} (h : TqT K H a xs) : SqT K H a xs := by
  rcases h with ⟨o, h, _⟩ | ⟨o, its, n, h1, h2, _, h4, h5, h6⟩
  · exact .inl (.inr ⟨o, h⟩)
  · exact .inr ⟨o, its, n, h1, h2, h4, h5, h6⟩
theorem Same.tqT {K : PySem.W.Frag} {H H' : Hp} {a : Addr} {xs : List V} (e : Same H H') (h : TqT K H a xs) : TqT K H' a xs := by
  rcases h with ⟨o, h, d⟩ | h
  · exact .inl ⟨o, e _ _ h, d⟩
  · exact .inr h
section
variable {X : Cx} {pins : List (Addr × Obj)} {σ : L2.St} {H : Hp} {s : Shared}
/-- its object in the heap -/
theorem TqT.obj (I : Inv X pins σ H s) {a : Addr} {xs : List V} (h : TqT X.K H a xs) : ∃ (o : Obj) (its : List Value) (n : Nat), Vals xs its ∧ s.heap.get? a = some o ∧ o.cls = .type "tuple" ∧ o.dict = none ∧ o.data = .seq its.toArray n ∧ xs.length ≤ sizeLine := by
  rcases h with ⟨o, h, d⟩ | ⟨o, its, n, h1, h2, h3, h4, h5, h6⟩
  · obtain ⟨e, z, its, r, o', e', c, n, dat⟩ := I.hok a _ h
    rw [e] at e'
    cases e'
    exact ⟨o, its, n, r, e, c, d, dat, z⟩
  · refine ⟨o, its.toList, n, h6, I.kIn a o h1, h2, h3, by simpa using h4, ?_⟩
    have := h6.length
    simp only [Array.length_toList] at this
    omega
/-- a new tuple laid down -/
theorem frz_new (I : Inv X pins σ H s) {xs : List V} {its : List Value} (r : Vals xs its) (z : xs.length ≤ sizeLine) {h' : Heap} (hk : ∀ b o, s.heap.get? b = some o → h'.get? b = some o) {a : Addr} (ha : s.heap.objs.size ≤ a) (hn : h'.get? a = some (tupObj its)) {t : Nat} :
    Inv X pins σ (L2.upd H a (.frz (tupObj its) (.tup xs))) { s with heap := h', toks := t } ∧ H a = none := by
  have hf := I.hok.fresh ha
  refine ⟨I.laid (t' := t) hk ha ?_, hf⟩
  exact ⟨hn, z, its, r, tupObj its, hn, rfl, _, rfl⟩
end
section
variable {X : Cx}
/-- a display -/
def tTupZ (t : TA) : TE := fun σ H Q => t σ H fun xs H1 => xs.length ≤ sizeLine ∧ ∀ p o, H1 p = none → o.dict = none → Q (.ref p) (L2.upd H1 p (.frz o (.tup xs)))
theorem pe_tupZ {es : List Expr} {t : TA} {k : Nat} {pos : Pos} (h : PA X es t) : PE X (.Tuple es k pos) (tTupZ t) := by
  refine ⟨fun pins s σ H Q I hq => wpAny_Tuple_spliced (thn (h.run pos pins s σ H _ I hq) fun us s1 ⟨xs, H1, I1, r, z, q⟩ => ⟨by rw [← r.length]; exact z, ?_⟩)⟩
  obtain ⟨I2, hf⟩ := frz_new I1 r z (h' := s1.heap.push (tupObj us)) (fun b u e => Heap.get?_push_of_some _ e) (Nat.le_refl _) (Heap.get?_push_size _ rfl) (t := s1.toks)
  exact ⟨.ref s1.heap.objs.size, _, I2, rfl, q _ _ hf rfl⟩
variable (K : PySem.W.Frag) (eK : X.K = K)
/-- tuple(xs) -/
def rTupQ (K : PySem.W.Frag) : List V → Hp → VK → Prop := fun xs H Q => ∃ p ys, xs = [.ref p] ∧ ((SqL K H p ys ∧ ∀ l o, H l = none → o.dict = none → Q (.ref l) (L2.upd H l (.frz o (.tup ys)))) ∨ (SqT K H p ys ∧ Q (.ref p) H))
include eK in
theorem tupQ : CallR X (.type "tuple") (rTupQ K) := by
  subst eK
  intro pins s σ H xs us Q I r h
  obtain ⟨p, ys, rfl, h⟩ := h
  obtain ⟨u, rfl, rx⟩ := vals1 r
  cases rx
  rcases h with ⟨hq, q⟩ | ⟨hq, q⟩
  · obtain ⟨its, rv, pl, hz⟩ := I.list hq
    have hlen := rv.length
    refine call_tuple_list pl.isList (fun h' kp => ?_) (by rw [List.size_toArray, ← hlen]; exact hz)
    have I1 : Inv X pins σ H { s with heap := h' } := I.kept (t' := s.toks) kp
    obtain ⟨I2, hf⟩ := frz_new I1 rv hz (h' := h'.push (tupObj its)) (fun b o e => Heap.get?_push_of_some _ e) (Nat.le_refl _) (Heap.get?_push_size _ rfl) (t := s.toks)
    exact ⟨.ref h'.objs.size, _, I2, rfl, q _ _ hf rfl⟩
  · obtain ⟨its, rv, pl, hz⟩ := I.tuple hq
    exact call_tuple_same pl ⟨.ref p, H, I, rfl, q⟩
/-- t + u -/
def rCatZ (K : PySem.W.Frag) : R2 := fun x y H Q => ∃ a b xs ys, x = .ref a ∧ y = .ref b ∧ SqT K H a xs ∧ SqT K H b ys ∧ xs.length + ys.length ≤ sizeLine ∧
  (xs = [] → Q (.ref b) H) ∧ (xs ≠ [] → ys = [] → Q (.ref a) H) ∧ (xs ≠ [] → ys ≠ [] → ∀ p o, H p = none → o.dict = none → Q (.ref p) (L2.upd H p (.frz o (.tup (xs ++ ys)))))
include eK in
theorem op_catZ : OpR X (binaryOp .Add) (rCatZ K) := by
  subst eK
  intro pins s σ H x y v u Q I rx ry h
  obtain ⟨a, b, xs, ys, rfl, rfl, ha, hb, hz, q0, q1, q2⟩ := h
  by_cases hx : xs = []
  · exact op_catA pins s σ H _ _ v u Q I rx ry ⟨a, b, xs, ys, rfl, rfl, ha, hb, hz, q0, q1, fun n => absurd hx n⟩
  by_cases hy : ys = []
  · exact op_catA pins s σ H _ _ v u Q I rx ry ⟨a, b, xs, ys, rfl, rfl, ha, hb, hz, q0, q1, fun _ n => absurd hy n⟩
  cases rx
  cases ry
  obtain ⟨i1, r1, p1, _⟩ := I.tuple ha
  obtain ⟨i2, r2, p2, _⟩ := I.tuple hb
  refine HT.cat_tup p1 p2 (fun z => hx (r1.nil_iff.mp z)) (fun z => absurd (r2.nil_iff.mp z) hy) (fun _ => ?_) (by rw [← r1.length, ← r2.length]; exact hz)
  obtain ⟨I2, hf⟩ := frz_new I (r1.append r2) (by rw [List.length_append]; exact hz) (h' := s.heap.push (tupObj (i1 ++ i2))) (fun b o e => Heap.get?_push_of_some _ e) (Nat.le_refl _) (Heap.get?_push_size _ rfl) (t := s.toks)
  exact ⟨.ref s.heap.objs.size, _, I2, rfl, q2 hx hy _ _ hf rfl⟩
/-- t[lo:hi] -/
def rSlZ (K : PySem.W.Frag) : V → Option Int → Option Int → Hp → VK → Prop := fun x lo hi H Q => ∃ a xs, x = .ref a ∧ SqT K H a xs ∧
  (HT.sIx xs.length 0 lo = 0 ∧ HT.sIx xs.length xs.length hi = xs.length → Q (.ref a) H) ∧ (¬ (HT.sIx xs.length 0 lo = 0 ∧ HT.sIx xs.length xs.length hi = xs.length) → ∀ p o, H p = none → o.dict = none → Q (.ref p) (L2.upd H p (.frz o (.tup (cutV xs lo hi)))))
include eK in
theorem sl_tupZ : SlR X (rSlZ K) := by
  subst eK
  intro pins s σ H x v vl vu lo hi sl Q I rx hs pl pu h
  obtain ⟨a, xs, rfl, hx, q1, q2⟩ := h
  by_cases hw : HT.sIx xs.length 0 lo = 0 ∧ HT.sIx xs.length xs.length hi = xs.length
  · exact sl_tupA pins s σ H _ v vl vu lo hi sl Q I rx hs pl pu ⟨a, xs, rfl, hx, q1, fun n => absurd hw n⟩
  cases rx
  obtain ⟨its, r, ht, hz⟩ := I.tuple hx
  have el : its.toArray.size = xs.length := by rw [List.size_toArray, r.length]
  refine ⟨"tuple", _, PyProof.Rows.slot_tuple_getitem.lookup, ht.typeIs, HT.getItem_tuple_cut ht hs pl pu (by rw [el]; exact hw) ?_ (by rw [el]; exact hz)⟩
  rw [el]
  have rc : Vals (cutV xs lo hi) ((its.drop (HT.sIx xs.length 0 lo)).take (HT.sIx xs.length xs.length hi - HT.sIx xs.length 0 lo)) := (r.drop (HT.sIx xs.length 0 lo)).take (HT.sIx xs.length xs.length hi - HT.sIx xs.length 0 lo)
  obtain ⟨I2, hf⟩ := frz_new I rc (Nat.le_trans (cutV_length xs lo hi) hz) (h' := s.heap.push (tupObj ((its.drop (HT.sIx xs.length 0 lo)).take (HT.sIx xs.length xs.length hi - HT.sIx xs.length 0 lo)))) (fun b o e => Heap.get?_push_of_some _ e) (Nat.le_refl _) (Heap.get?_push_size _ rfl) (t := s.toks)
  exact ⟨.ref s.heap.objs.size, _, I2, rfl, q2 hw _ _ hf rfl⟩
end

/-! ### the plain layer: values as trees, no heap in sight -/
abbrev D := PyData
def keyD : Key → D
  | .inl i => .int i
  | .inr x => .str x
mutual
inductive Rp (K : PySem.W.Frag) (H : Hp) : V → D → Prop
  | non : Rp K H .non .none
  | bl (b : Bool) : Rp K H (.bl b) (.bool b)
  | int (i : Int) : Rp K H (.int i) (.int i)
  | str (x : Str) : Rp K H (.str x) (.str x)
  | lst {a : Addr} {xs : List V} {ds : List D} : H a = some (.lst xs) → RpAll K H xs ds → Rp K H (.ref a) (.list ds)
  | tup {a : Addr} {xs : List V} {ds : List D} : TqT K H a xs → RpAll K H xs ds → Rp K H (.ref a) (.tuple ds)
  | dic {a : Addr} {kvs : List (Key × V)} {ds : List (D × D)} : Rd H a (.dK kvs) → RpKV K H kvs ds → Rp K H (.ref a) (.dict ds)
inductive RpAll (K : PySem.W.Frag) (H : Hp) : List V → List D → Prop
  | nil : RpAll K H [] []
  | cons {v : V} {vs : List V} {d : D} {ds : List D} : Rp K H v d → RpAll K H vs ds → RpAll K H (v :: vs) (d :: ds)
inductive RpKV (K : PySem.W.Frag) (H : Hp) : List (Key × V) → List (D × D) → Prop
  | nil : RpKV K H [] []
  | cons {k : Key} {v : V} {vs : List (Key × V)} {d : D} {ds : List (D × D)} : Rp K H v d → RpKV K H vs ds → RpKV K H ((k, v) :: vs) ((keyD k, d) :: ds)
end
theorem rd_same {H H' : Hp} {a : Addr} {u : HO} (e : Same H H') (h : Rd H a u) : Rd H' a u := by
  rcases h with h | ⟨o, h⟩
  · exact .inl (e _ _ h)
  · exact .inr ⟨o, e _ _ h⟩
section
variable {K : PySem.W.Frag} {H H' : Hp}
mutual
theorem Rp.mono (e : Same H H') : ∀ {x : V} {d : D}, Rp K H x d → Rp K H' x d
  | _, _, .non => .non
  | _, _, .bl b => .bl b
  | _, _, .int i => .int i
  | _, _, .str z => .str z
  | _, _, .lst q a => .lst (e _ _ q) (RpAll.mono e a)
  | _, _, .tup q a => .tup (Same.tqT e q) (RpAll.mono e a)
  | _, _, .dic q a => .dic (rd_same e q) (RpKV.mono e a)
theorem RpAll.mono (e : Same H H') : ∀ {xs : List V} {ds : List D}, RpAll K H xs ds → RpAll K H' xs ds
  | _, _, .nil => .nil
  | _, _, .cons a b => .cons (Rp.mono e a) (RpAll.mono e b)
theorem RpKV.mono (e : Same H H') : ∀ {xs : List (Key × V)} {ds : List (D × D)}, RpKV K H xs ds → RpKV K H' xs ds
  | _, _, .nil => .nil
  | _, _, .cons a b => .cons (Rp.mono e a) (RpKV.mono e b)
end
/-- the same; true: or a pair that an iterator has made -/
def RqB : Bool → PySem.W.Frag → Hp → V → D → Prop
  | false, K, H, v, d => Rp K H v d
  | true, K, H, v, d => Rp K H v d ∨ ∃ a xs ds, v = .ref a ∧ d = .tuple ds ∧ SqT K H a xs ∧ RpAll K H xs ds
theorem Rp.rq {b : Bool} {v : V} {d : D} (h : Rp K H v d) : RqB b K H v d := by
  cases b with
  | false => exact h
  | true => exact .inl h
theorem RqB.tup {b : Bool} {v : V} {ds : List D} (h : RqB b K H v (.tuple ds)) : ∃ a xs, v = .ref a ∧ SqT K H a xs ∧ RpAll K H xs ds := by
  have main : Rp K H v (.tuple ds) → ∃ a xs, v = .ref a ∧ SqT K H a xs ∧ RpAll K H xs ds := fun h => by
    cases h with
    | tup q a => exact ⟨_, _, rfl, q.sq, a⟩
  cases b with
  | false => exact main h
  | true =>
    rcases h with h | ⟨a, xs, ds', rfl, e, h1, h2⟩
    · exact main h
    · cases e
      exact ⟨a, xs, rfl, h1, h2⟩
theorem RpAll.len : ∀ {xs : List V} {ds : List D}, RpAll K H xs ds → xs.length = ds.length
  | _, _, .nil => rfl
  | _, _, .cons _ b => by rw [List.length_cons, List.length_cons, RpAll.len b]
theorem RpAll.get : ∀ {xs : List V} {ds : List D} {i : Nat} {d : D}, RpAll K H xs ds → ds[i]? = some d → ∃ x, xs[i]? = some x ∧ Rp K H x d
  | _, _, 0, _, .cons a _, e => by
    cases e
    exact ⟨_, rfl, a⟩
  | _, _, i + 1, d, .cons _ b, e => RpAll.get (i := i) b e
theorem RpAll.getV : ∀ {xs : List V} {ds : List D} {i : Nat} {x : V}, RpAll K H xs ds → xs[i]? = some x → ∃ d, ds[i]? = some d ∧ Rp K H x d
  | _, _, 0, _, .cons a _, e => by
    cases e
    exact ⟨_, rfl, a⟩
  | _, _, i + 1, d, .cons _ b, e => RpAll.getV (i := i) b e
theorem RpAll.app : ∀ {xs : List V} {ds : List D} {ys : List V} {es : List D}, RpAll K H xs ds → RpAll K H ys es → RpAll K H (xs ++ ys) (ds ++ es)
  | _, _, _, _, .nil, h => h
  | _, _, _, _, .cons a b, h => .cons a (RpAll.app b h)
theorem RpAll.take : ∀ {xs : List V} {ds : List D} (n : Nat), RpAll K H xs ds → RpAll K H (xs.take n) (ds.take n)
  | _, _, 0, _ => by simp only [List.take_zero]; exact .nil
  | _, _, n + 1, .nil => .nil
  | _, _, n + 1, .cons a b => .cons a (RpAll.take n b)
theorem RpAll.drop : ∀ {xs : List V} {ds : List D} (n : Nat), RpAll K H xs ds → RpAll K H (xs.drop n) (ds.drop n)
  | _, _, 0, h => h
  | _, _, n + 1, .nil => .nil
  | _, _, n + 1, .cons a b => RpAll.drop n b
theorem RpAll.set : ∀ {xs : List V} {ds : List D} {v : V} {d : D} (n : Nat), RpAll K H xs ds → Rp K H v d → RpAll K H (xs.set n v) (ds.set n d)
  | _, _, _, _, _, .nil, _ => .nil
  | _, _, _, _, 0, .cons a b, h => .cons h b
  | _, _, _, _, n + 1, .cons a b, h => .cons a (RpAll.set n b h)
theorem RpAll.rev : ∀ {xs : List V} {ds : List D}, RpAll K H xs ds → RpAll K H xs.reverse ds.reverse
  | _, _, .nil => .nil
  | _, _, .cons a b => by rw [List.reverse_cons, List.reverse_cons]; exact (RpAll.rev b).app (.cons a .nil)
end
/-- the state: each slot's tree, and how many draws at most were taken -/
structure S where
  δ : List (Option D)
  n : Nat
  /-- what an object of one's own holds besides -/
  h : D := .none
/-- a pen of draws, or an object of a class of one's own: its class, its fields by its number and by its other thing, the trees of those fields that stay -/
inductive PKind
  | draw
  | obj (Cc : Addr) (f : V → V → List (Str × V)) (fd : List (V × D))
/-- what stays the same through a def's body: M, the slots of its own lists and dicts (changed in place); the pen and its slot; bor, bs: lists and dicts that were handed in to be changed, and their slots -/
structure Cf where
  K : PySem.W.Frag
  pen : Option (Addr × Addr)
  ps : Nat
  M : List Nat
  bor : List Addr := []
  bs : List Nat := []
  pk : PKind := .draw
def IsPen (C : Cf) (b : Addr) : Prop := (∃ c, C.pen = some (b, c)) ∨ b ∈ C.bor
def Own (C : Cf) (σ : L2.St) (b : Addr) : Prop := ∃ i, i ∈ C.M ∧ σ[i]? = some (some (.ref b))
/-- a list's or a dict's object, and its tree -/
inductive Cn (K : PySem.W.Frag) (Hs : Hp) : HO → D → Prop
  | lst {xs : List V} {ds : List D} : RpAll K Hs xs ds → Cn K Hs (.lst xs) (.list ds)
  | dic {kvs : List (Key × V)} {ds : List (D × D)} : RpKV K Hs kvs ds → Cn K Hs (.dK kvs) (.dict ds)
/-- the same, or a dict that is walked through -/
inductive Cr (K : PySem.W.Frag) (Hs : Hp) : HO → D → Prop
  | lst {xs : List V} {ds : List D} : RpAll K Hs xs ds → Cr K Hs (.lst xs) (.list ds)
  | dic {kvs : List (Key × V)} {ds : List (D × D)} : RpKV K Hs kvs ds → Cr K Hs (.dK kvs) (.dict ds)
  | frz {f : Obj} {kvs : List (Key × V)} {ds : List (D × D)} : RpKV K Hs kvs ds → Cr K Hs (.frz f (.dK kvs)) (.dict ds)
theorem Cn.cr {K : PySem.W.Frag} {Hs : Hp} {o : HO} {d : D} (h : Cn K Hs o d) : Cr K Hs o d := by
  cases h with
  | lst a => exact .lst a
  | dic a => exact .dic a
def isC : D → Bool
  | .list _ => true
  | .dict _ => true
  | _ => false
theorem Cn.mono {K : PySem.W.Frag} {Hs Hs' : Hp} (e : Same Hs Hs') {o : HO} {d : D} (h : Cn K Hs o d) : Cn K Hs' o d := by
  cases h with
  | lst a => exact .lst (RpAll.mono e a)
  | dic a => exact .dic (RpKV.mono e a)
theorem Cn.is {K : PySem.W.Frag} {Hs : Hp} {o : HO} {d : D} (h : Cn K Hs o d) : isC d = true := by cases h <;> rfl
theorem Cn.rp {K : PySem.W.Frag} {Hs : Hp} {o : HO} {d : D} {a : Addr} (h : Cn K Hs o d) (e : Hs a = some o) : Rp K Hs (.ref a) d := by
  cases h with
  | lst q => exact .lst e q
  | dic q => exact .dic (.inl e) q
theorem Cr.is {K : PySem.W.Frag} {Hs : Hp} {o : HO} {d : D} (h : Cr K Hs o d) : isC d = true := by cases h <;> rfl
theorem Rp.cn {K : PySem.W.Frag} {Hs : Hp} {v : V} {d : D} (h : Rp K Hs v d) (c : isC d = true) : ∃ a o, v = .ref a ∧ Hs a = some o ∧ Cr K Hs o d := by
  cases h with
  | lst q a => exact ⟨_, _, rfl, q, .lst a⟩
  | dic q a =>
    rcases q with q | ⟨o, q⟩
    · exact ⟨_, _, rfl, q, .dic a⟩
    · exact ⟨_, _, rfl, q, .frz a⟩
  | non => cases c
  | bl _ => cases c
  | int _ => cases c
  | str _ => cases c
  | tup _ _ => cases c
def PenK (K : PySem.W.Frag) : PKind → Hp → Hp → Addr → Addr → Nat → D → Prop
  | .draw, _, H, p, c, n, _ => Pen H p c n
  | .obj Cc f fd, Hs, H, p, c, n, h => (∃ hv, Rp K Hs hv h ∧ H p = some (.ins Cc c (f (.int (n : Int)) hv))) ∧ H c = some (.own p) ∧ c ≠ p ∧ ∀ x ∈ fd, Rp K Hs x.1 x.2
section
variable {K : PySem.W.Frag} {k : PKind} {Hs Hs' H H' : Hp} {p c q : Addr} {n : Nat} {h : D}
theorem PenK.mono (x : PenK K k Hs H p c n h) (st : Same Hs Hs') (hh : Same H H') : PenK K k Hs' H' p c n h := by
  cases k with
  | draw => exact Pen.same x hh
  | obj Cc f fd =>
    obtain ⟨⟨hv, a, b⟩, e, ne, z⟩ := x
    exact ⟨⟨hv, Rp.mono st a, hh _ _ b⟩, hh _ _ e, ne, fun y m => Rp.mono st (z y m)⟩
theorem PenK.same (x : PenK K k Hs H p c n h) (hh : Same H H') : PenK K k Hs H' p c n h := x.mono (Same.refl _) hh
theorem PenK.but (x : PenK K k Hs H p c n h) (b : But q H H') (n1 : p ≠ q) (n2 : c ≠ q) : PenK K k Hs H' p c n h := by
  cases k with
  | draw => exact Pen.but x b n1 n2
  | obj Cc f fd =>
    obtain ⟨⟨hv, a, z⟩, e, ne, y⟩ := x
    exact ⟨⟨hv, a, b _ _ n1 z⟩, b _ _ n2 e, ne, y⟩
theorem PenK.at_ (x : PenK K k Hs H p c n h) : ∃ o, H p = some o := by
  cases k with
  | draw =>
    obtain ⟨_, _, e, _⟩ := Pen.pen x
    exact ⟨_, e⟩
  | obj Cc f fd =>
    obtain ⟨⟨hv, a, z⟩, e, ne, y⟩ := x
    exact ⟨_, z⟩
end
/-- the slots and the heap bear the state; Hs: the part of the heap that stays -/
structure R (C : Cf) (H0 S0 Hs : Hp) (σ : L2.St) (H : Hp) (s : S) : Prop where
  len : σ.length = s.δ.length
  sub : Same Hs H
  slot : ∀ i d, s.δ[i]? = some (some d) → i ∉ C.M → ∃ v, σ[i]? = some (some v) ∧ Rp C.K Hs v d
  mt : ∀ i d, s.δ[i]? = some (some d) → i ∈ C.M → ∃ a o, σ[i]? = some (some (.ref a)) ∧ H a = some o ∧ Hs a = none ∧ Cn C.K Hs o d ∧ (H0 a = none ∨ a ∈ C.bor)
  dead : ∀ i, i ∈ C.M → s.δ[i]? = some none → σ[i]? = some none
  sep : ∀ i j a, i ∈ C.M → j ∈ C.M → σ[i]? = some (some (.ref a)) → σ[j]? = some (some (.ref a)) → i = j
  pn : ∀ p c, C.pen = some (p, c) → σ[C.ps]? = some (some (.ref p)) ∧ PenK C.K C.pk Hs H p c s.n s.h ∧ Hs p = none ∧ H0 p ≠ none ∧ H0 c ≠ none ∧ s.δ[C.ps]? = some none ∧ C.ps ∉ C.M ∧ p ∉ C.bor ∧ c ∉ C.bor
  br : ∀ b, b ∈ C.bor → (∃ i, i ∈ C.bs ∧ i ∈ C.M ∧ σ[i]? = some (some (.ref b))) ∧ H0 b ≠ none
  s0 : Same S0 Hs
  h0 : ∀ b o, ¬ IsPen C b → H0 b = some o → H b = some o
  new : ∀ b, S0 b = none → Hs b ≠ none → H0 b = none
/-- from one heap to a later one -/
structure Go (C : Cf) (σ : L2.St) (Hs H Hs' H' : Hp) : Prop where
  st : Same Hs Hs'
  kp : ∀ b o, H b = some o → ¬ Own C σ b → ¬ IsPen C b → H' b = some o
  th : ∀ b o, H b = some o → ∃ o', H' b = some o'
  nw : ∀ b, Hs b = none → Hs' b ≠ none → H b = none
section
variable {C : Cf} {σ : L2.St} {H0 S0 Hs H Hs' H' Hs'' H'' : Hp} {s s' : S}
theorem Go.refl : Go C σ Hs H Hs H := ⟨Same.refl _, fun _ _ h _ _ => h, fun _ o h => ⟨o, h⟩, fun _ h h' => absurd h h'⟩
theorem Go.trans (a : Go C σ Hs H Hs' H') (b : Go C σ Hs' H' Hs'' H'') : Go C σ Hs H Hs'' H'' := by
  refine ⟨a.st.trans b.st, fun c o h n1 n2 => b.kp c o (a.kp c o h n1 n2) n1 n2, fun c o h => ?_, fun c h h' => ?_⟩
  · obtain ⟨o', h'⟩ := a.th c o h
    exact b.th c o' h'
  · cases q : Hs' c with
    | some o => exact a.nw c h (by rw [q]; exact fun z => nomatch z)
    | none =>
      have h1 := b.nw c q h'
      cases q2 : H c with
      | none => rfl
      | some o =>
        obtain ⟨o', h2⟩ := a.th c o q2
        rw [h1] at h2
        cases h2
/-- a value's kinds: E: it lies in the still part; F: a list or dict is new and nobody else's -/
inductive Cat where | E | F
def Fresh (C : Cf) (H0 Hst Hs : Hp) (σ : L2.St) (H : Hp) (a : Addr) (d : D) : Prop :=
  ∃ o, H a = some o ∧ Hs a = none ∧ H0 a = none ∧ Hst a = none ∧ Cn C.K Hs o d ∧ ¬ Own C σ a
def Val (C : Cf) (H0 Hst Hs : Hp) (σ : L2.St) (H : Hp) : Cat → V → D → Prop
  | .E, v, d => Rp C.K Hs v d
  | .F, v, d => if isC d = true then ∃ a, v = .ref a ∧ Fresh C H0 Hst Hs σ H a d else Rp C.K Hs v d
theorem Val.c {Hst : Hp} {v : V} {d : D} (h : Val C H0 Hst Hs σ H .F v d) (e : isC d = true) : ∃ a, v = .ref a ∧ Fresh C H0 Hst Hs σ H a d := by
  have h : (if isC d = true then ∃ a, v = .ref a ∧ Fresh C H0 Hst Hs σ H a d else Rp C.K Hs v d) := h
  rw [if_pos e] at h
  exact h
theorem Val.p {Hst : Hp} {v : V} {d : D} (h : Val C H0 Hst Hs σ H .F v d) (e : isC d = false) : Rp C.K Hs v d := by
  have h : (if isC d = true then ∃ a, v = .ref a ∧ Fresh C H0 Hst Hs σ H a d else Rp C.K Hs v d) := h
  rw [if_neg (by rw [e]; exact Bool.false_ne_true)] at h
  exact h
theorem Val.mkC {Hst : Hp} {a : Addr} {d : D} (f : Fresh C H0 Hst Hs σ H a d) : Val C H0 Hst Hs σ H .F (.ref a) d := by
  obtain ⟨o, _, _, _, _, c, _⟩ := id f
  exact ifp c.is ⟨a, rfl, f⟩
theorem Val.mkP {Hst : Hp} {v : V} {d : D} (h : Rp C.K Hs v d) (e : isC d = false) : Val C H0 Hst Hs σ H .F v d := ifn (by rw [e]; exact Bool.false_ne_true) h
/-- what may be read -/
def Rd' (K : PySem.W.Frag) (Hs H : Hp) (v : V) (d : D) : Prop := if isC d = true then ∃ a o, v = .ref a ∧ H a = some o ∧ Cr K Hs o d else Rp K Hs v d
theorem Rd'.list {K : PySem.W.Frag} {v : V} {ds : List D} (h : Rd' K Hs H v (.list ds)) : ∃ a xs, v = .ref a ∧ H a = some (.lst xs) ∧ RpAll K Hs xs ds := by
  obtain ⟨a, o, rfl, e, c⟩ := (show ∃ a o, v = .ref a ∧ H a = some o ∧ Cr K Hs o (.list ds) from h)
  cases c with
  | lst q => exact ⟨a, _, rfl, e, q⟩
theorem Rd'.dict {K : PySem.W.Frag} {v : V} {ds : List (D × D)} (h : Rd' K Hs H v (.dict ds)) : ∃ a xs, v = .ref a ∧ Rd H a (.dK xs) ∧ RpKV K Hs xs ds := by
  obtain ⟨a, o, rfl, e, c⟩ := (show ∃ a o, v = .ref a ∧ H a = some o ∧ Cr K Hs o (.dict ds) from h)
  cases c with
  | dic q => exact ⟨a, _, rfl, .inl e, q⟩
  | frz q => exact ⟨a, _, rfl, .inr ⟨_, e⟩, q⟩
theorem Rd'.mkR {K : PySem.W.Frag} {a : Addr} {o : HO} {d : D} (h : H a = some o) (c : Cr K Hs o d) : Rd' K Hs H (.ref a) d := ifp c.is ⟨a, o, rfl, h, c⟩
theorem Rd'.mkC {K : PySem.W.Frag} {a : Addr} {o : HO} {d : D} (h : H a = some o) (c : Cn K Hs o d) : Rd' K Hs H (.ref a) d := Rd'.mkR h c.cr
theorem Rp.rd {K : PySem.W.Frag} {v : V} {d : D} (h : Rp K Hs v d) (sub : Same Hs H) : Rd' K Hs H v d := by
  cases e : isC d with
  | true =>
    obtain ⟨a, o, rfl, q, c⟩ := h.cn e
    exact Rd'.mkR (sub _ _ q) c
  | false => exact ifn (by rw [e]; exact Bool.false_ne_true) h
theorem Val.rd {Hst : Hp} {cat : Cat} {v : V} {d : D} (h : Val C H0 Hst Hs σ H cat v d) (sub : Same Hs H) : Rd' C.K Hs H v d := by
  cases cat with
  | E => exact Rp.rd h sub
  | F =>
    cases e : isC d with
    | true =>
      obtain ⟨a, rfl, o, h1, _, _, _, c, _⟩ := h.c e
      exact Rd'.mkC h1 c
    | false => exact Rp.rd (h.p e) sub
theorem R.notPen (r : R C H0 S0 Hs σ H s) {a : Addr} (h : H0 a = none) : ¬ IsPen C a := fun z => by
  rcases z with ⟨c, e⟩ | e
  · exact (r.pn a c e).2.2.2.1 h
  · exact (r.br a e).2 h
theorem Val.go {Hst : Hp} {cat : Cat} {v : V} {d : D} (h : Val C H0 Hst Hs σ H cat v d) (r : R C H0 S0 Hs σ H s) (g : Go C σ Hs H Hs' H') : Val C H0 Hst Hs' σ H' cat v d := by
  cases cat with
  | E => exact Rp.mono g.st h
  | F =>
    cases e : isC d with
    | true =>
      obtain ⟨a, rfl, o, h1, h2, h3, h4, h5, h6⟩ := h.c e
      refine Val.mkC ⟨o, g.kp a _ h1 h6 (r.notPen h3), ?_, h3, h4, h5.mono g.st, h6⟩
      cases q : Hs' a with
      | none => rfl
      | some o =>
        have := g.nw a h2 (by rw [q]; exact fun z => nomatch z)
        rw [h1] at this
        cases this
    | false => exact Val.mkP (Rp.mono g.st (h.p e)) e
theorem Val.anew {Hst Hst' : Hp} {cat : Cat} {v : V} {d : D} (h : Val C H0 Hst' Hs σ H cat v d) (e : ∀ a, Hst' a = none → Hst a = none) : Val C H0 Hst Hs σ H cat v d := by
  cases cat with
  | E => exact h
  | F =>
    cases q : isC d with
    | true =>
      obtain ⟨a, rfl, o, h1, h2, h3, h4, h5, h6⟩ := h.c q
      exact Val.mkC ⟨o, h1, h2, h3, e a h4, h5, h6⟩
    | false => exact Val.mkP (h.p q) q
theorem Go.back (g : Go C σ Hs H Hs' H') : ∀ a, H' a = none → H a = none := fun a h => by
  cases q : H a with
  | none => rfl
  | some o => obtain ⟨o', h'⟩ := g.th a o q; rw [h] at h'; cases h'
/-- a new list or dict goes into the still part -/
theorem R.freeze (r : R C H0 S0 Hs σ H s) {a : Addr} {d : D} {Hst : Hp} (f : Fresh C H0 Hst Hs σ H a d) : ∃ Hs', Same Hs Hs' ∧ R C H0 S0 Hs' σ H s ∧ Rp C.K Hs' (.ref a) d ∧ ∀ b, Hs b = none → Hs' b ≠ none → b = a := by
  obtain ⟨o, h1, h2, h3, h4, h5, h6⟩ := f
  have sm : Same Hs (upd Hs a o) := same_upd h2
  refine ⟨upd Hs a o, sm, ⟨r.len, fun b u e => ?_, fun i d e m => ?_, fun i d e m => ?_, r.dead, r.sep, fun p c e => ?_, r.br, r.s0.trans sm, r.h0, fun b e1 e2 => ?_⟩, (h5.mono sm).rp upd_same, fun b e1 e2 => ?_⟩
  · by_cases z : b = a
    · subst z; rw [upd_same] at e; cases e; exact h1
    · rw [upd_ne z] at e; exact r.sub _ _ e
  · obtain ⟨v, e1, e2⟩ := r.slot i d e m
    exact ⟨v, e1, Rp.mono sm e2⟩
  · obtain ⟨b, u, e2, e3, e4, e5, e6⟩ := r.mt i d e m
    refine ⟨b, u, e2, e3, ?_, e5.mono sm, e6⟩
    rw [upd_ne (fun z => h6 ⟨i, m, by rw [← z]; exact e2⟩)]
    exact e4
  · obtain ⟨e1, e2, e3, e4, e5⟩ := r.pn p c e
    refine ⟨e1, e2.mono sm (Same.refl _), ?_, e4, e5⟩
    rw [upd_ne (fun z => e4 (by rw [z]; exact h3))]
    exact e3
  · by_cases z : b = a
    · subst z; exact h3
    · rw [upd_ne z] at e2; exact r.new b e1 e2
  · by_cases z : b = a
    · exact z
    · rw [upd_ne z] at e2; exact absurd e1 e2
end
/-- an expression in the plain layer: from a state to a tree and a state -/
abbrev DT := S → (D → S → Prop) → Prop
/-- te's reading follows from t -/
structure Sim (C : Cf) (cat : Cat) (te : TE) (t : DT) : Prop where
  run : ∀ (H0 S0 Hs : Hp) (σ : L2.St) (H : Hp) (s : S) (Q : D → S → Prop) (Q' : VK), R C H0 S0 Hs σ H s → t s Q →
    (∀ Hs' H' v d s', Go C σ Hs H Hs' H' → R C H0 S0 Hs' σ H' s' → Val C H0 H Hs' σ H' cat v d → Q d s' → Q' v H') → te σ H Q'
section
variable {C : Cf} {te ta tb : TE} {t da db : DT}
/-- a new list laid down -/
theorem Sim.e (h : Sim C .F te t) : Sim C .E te t := by
  refine ⟨fun H0 S0 Hs σ H s Q Q' r q k => h.run H0 S0 Hs σ H s Q Q' r q fun Hs' H' v d s' g r' vl qq => ?_⟩
  cases e : isC d with
  | true =>
    obtain ⟨a, rfl, f⟩ := vl.c e
    obtain ⟨Hs2, s1, r2, rp, nw⟩ := r'.freeze f
    refine k Hs2 H' _ _ s' ⟨g.st.trans s1, g.kp, g.th, fun b e1 e2 => ?_⟩ r2 rp qq
    cases q3 : Hs' b with
    | some o => exact g.nw b e1 (by rw [q3]; exact fun z => nomatch z)
    | none =>
      have := nw b q3 e2
      subst this
      obtain ⟨_, _, _, _, h4, _⟩ := f
      exact h4
  | false => exact k Hs' H' _ _ s' g r' (vl.p e) qq
theorem Sim.toE {cat : Cat} (h : Sim C cat te t) : Sim C .E te t := by
  cases cat with
  | E => exact h
  | F => exact h.e
/-! names and constants -/
def dV (i : Nat) : DT := fun s Q => match s.δ[i]? with
  | some (some d) => Q d s
  | _ => False
theorem sim_var (i : Nat) (hi : i ∉ C.M) : Sim C .E (tVar i) (dV i) := by
  refine ⟨fun H0 S0 Hs σ H s Q Q' r q k => ?_⟩
  unfold dV at q
  split at q
  · rename_i d e
    obtain ⟨v, e1, e2⟩ := r.slot i d e hi
    exact ⟨v, e1, k Hs H v d s Go.refl r e2 q⟩
  · exact q.elim
def dC (d : D) : DT := fun s Q => Q d s
theorem sim_int (i : Int) : Sim C .F (tC (.int i)) (dC (.int i)) := ⟨fun H0 S0 Hs σ H s Q Q' r q k => k Hs H _ (.int i) s Go.refl r (Val.mkP (Rp.int i) rfl) q⟩
theorem sim_bl (b : Bool) : Sim C .F (tC (.bl b)) (dC (.bool b)) := ⟨fun H0 S0 Hs σ H s Q Q' r q k => k Hs H _ (.bool b) s Go.refl r (Val.mkP (Rp.bl b) rfl) q⟩
theorem sim_non : Sim C .F (tC .non) (dC .none) := ⟨fun H0 S0 Hs σ H s Q Q' r q k => k Hs H _ .none s Go.refl r (Val.mkP Rp.non rfl) q⟩
theorem sim_str (x : Str) : Sim C .F (tC (.str x)) (dC (.str x)) := ⟨fun H0 S0 Hs σ H s Q Q' r q k => k Hs H _ (.str x) s Go.refl r (Val.mkP (Rp.str x) rfl) q⟩
/-! operations by values -/
abbrev DO := D → D → (D → Prop) → Prop
/-- r's reading follows from f -/
def OpA (C : Cf) (r : R2) (f : DO) : Prop := ∀ (H0 S0 Hs : Hp) (σ : L2.St) (H : Hp) (s : S) (x y : V) (dx dy : D) (Q : D → Prop) (Q' : VK), R C H0 S0 Hs σ H s → Rd' C.K Hs H x dx → Rd' C.K Hs H y dy → f dx dy Q →
  (∀ Hs' H' v d, Go C σ Hs H Hs' H' → R C H0 S0 Hs' σ H' s → Val C H0 H Hs' σ H' .F v d → Q d → Q' v H') → r x y H Q'
def dOp (f : DO) (da db : DT) : DT := fun s Q => da s fun x s1 => db s1 fun y s2 => f x y fun z => Q z s2
theorem sim_op {r : R2} {f : DO} {ca cb : Cat} (ho : OpA C r f) (ha : Sim C ca ta da) (hb : Sim C cb tb db) : Sim C .F (tOp r ta tb) (dOp f da db) := by
  refine ⟨fun H0 S0 Hs σ H s Q Q' r0 q k => ha.run H0 S0 Hs σ H s _ _ r0 q fun Hs1 H1 x dx s1 g1 r1 v1 q1 => hb.run H0 S0 Hs1 σ H1 s1 _ _ r1 q1 fun Hs2 H2 y dy s2 g2 r2 v2 q2 => ?_⟩
  refine ho H0 S0 Hs2 σ H2 s2 x y dx dy _ _ r2 ((v1.go r1 g2).rd r2.sub) (v2.rd r2.sub) q2 fun Hs3 H3 v d g3 r3 v3 q3 => ?_
  exact k Hs3 H3 v d s2 (g1.trans (g2.trans g3)) r3 (v3.anew (fun a e => (g1.trans g2).back a e)) q3
/-- the left one a list of the def's own: read when the other one is there -/
def dOpM (f : DO) (i : Nat) (db : DT) : DT := fun s Q => (∃ d, s.δ[i]? = some (some d)) ∧ db s fun y s2 => match s2.δ[i]? with
  | some (some x) => f x y fun z => Q z s2
  | _ => False
theorem R.rdM (r : R C H0 S0 Hs σ H s) {i : Nat} {d : D} (hi : i ∈ C.M) (e : s.δ[i]? = some (some d)) : ∃ v, σ[i]? = some (some v) ∧ Rd' C.K Hs H v d := by
  obtain ⟨a, o, e1, e2, _, e3, _⟩ := r.mt i d e hi
  exact ⟨_, e1, Rd'.mkC e2 e3⟩
theorem sim_opM {r : R2} {f : DO} {cb : Cat} (i : Nat) (hi : i ∈ C.M) (ho : OpA C r f) (hb : Sim C cb tb db) : Sim C .F (tOp r (tVar i) tb) (dOpM f i db) := by
  refine ⟨fun H0 S0 Hs σ H s Q Q' r0 q k => ?_⟩
  obtain ⟨⟨d, e⟩, q⟩ := q
  obtain ⟨v, e1, _⟩ := r0.rdM hi e
  refine ⟨v, e1, hb.run H0 S0 Hs σ H s _ _ r0 q fun Hs2 H2 y dy s2 g2 r2 v2 q2 => ?_⟩
  split at q2
  · rename_i x ex
    obtain ⟨v', e2, rd⟩ := r2.rdM hi ex
    rw [e1] at e2
    cases e2
    refine ho H0 S0 Hs2 σ H2 s2 v y x dy _ _ r2 rd (v2.rd r2.sub) q2 fun Hs3 H3 v d g3 r3 v3 q3 => ?_
    exact k Hs3 H3 v d s2 (g2.trans g3) r3 (v3.anew (fun a e => g2.back a e)) q3
  · exact q2.elim
/-- the right one a list of the def's own -/
def dOpR (f : DO) (da : DT) (i : Nat) : DT := fun s Q => da s fun x s2 => match s2.δ[i]? with
  | some (some y) => f x y fun z => Q z s2
  | _ => False
theorem sim_opR {r : R2} {f : DO} {ca : Cat} (i : Nat) (hi : i ∈ C.M) (ho : OpA C r f) (ha : Sim C ca ta da) : Sim C .F (tOp r ta (tVar i)) (dOpR f da i) := by
  refine ⟨fun H0 S0 Hs σ H s Q Q' r0 q k => ha.run H0 S0 Hs σ H s _ _ r0 q fun Hs2 H2 x dx s2 g2 r2 v2 q2 => ?_⟩
  split at q2
  · rename_i y ey
    obtain ⟨v', e2, rd⟩ := r2.rdM hi ey
    refine ⟨v', e2, ho H0 S0 Hs2 σ H2 s2 x v' dx y _ _ r2 (v2.rd r2.sub) rd q2 fun Hs3 H3 v d g3 r3 v3 q3 => ?_⟩
    exact k Hs3 H3 v d s2 (g2.trans g3) r3 (v3.anew (fun a e => g2.back a e)) q3
  · exact q2.elim
def dOpMM (f : DO) (i j : Nat) : DT := fun s Q => match s.δ[i]?, s.δ[j]? with
  | some (some x), some (some y) => f x y fun z => Q z s
  | _, _ => False
theorem sim_opMM {r : R2} {f : DO} (i j : Nat) (hi : i ∈ C.M) (hj : j ∈ C.M) (ho : OpA C r f) : Sim C .F (tOp r (tVar i) (tVar j)) (dOpMM f i j) := by
  refine ⟨fun H0 S0 Hs σ H s Q Q' r0 q k => ?_⟩
  unfold dOpMM at q
  split at q
  · rename_i x y ex ey
    obtain ⟨v, e1, rd1⟩ := r0.rdM hi ex
    obtain ⟨v', e2, rd2⟩ := r0.rdM hj ey
    exact ⟨v, e1, v', e2, ho H0 S0 Hs σ H s v v' x y _ _ r0 rd1 rd2 q fun Hs3 H3 v d g3 r3 v3 q3 => k Hs3 H3 v d s g3 r3 v3 q3⟩
  · exact q.elim
end

/-! ### operations of the plain layer -/
section
variable {K : PySem.W.Frag} {H : Hp}
mutual
theorem Rp.dp : ∀ (d : D) {v : V}, Rp K H v d → d.canLay0 = true → Dp K H v d
  | .none, _, h, _ => by cases h; exact .non
  | .bool b, _, h, _ => by cases h; exact .bl b
  | .int b, _, h, _ => by cases h; exact .int b
  | .str b, _, h, _ => by cases h; exact .str b
  | .list ds, _, h, c => by
    cases h with
    | lst q a => exact .lst (SqL.of q) (RpAll.dp ds a (by simpa [PyData.canLay0] using c))
  | .tuple ds, _, h, c => by
    cases h with
    | tup q a => exact .tup q.sq (RpAll.dp ds a (by simpa [PyData.canLay0] using c))
  | .dict ds, _, _, c => by simp [PyData.canLay0] at c
theorem RpAll.dp : ∀ (ds : List D) {vs : List V}, RpAll K H vs ds → PyData.canLayAll0 ds = true → DpAll K H vs ds
  | [], _, h, _ => by cases h; exact .nil
  | d :: ds, _, h, c => by
    cases h with
    | cons a b =>
      simp only [PyData.canLayAll0, Bool.and_eq_true] at c
      exact .cons (Rp.dp d a c.1) (RpAll.dp ds b c.2)
end
end
/-- data that == may compare -/
def Sh (d : D) : Prop := SeqAt.shaped d = true
theorem Rd'.dp {K : PySem.W.Frag} {Hs H : Hp} {v : V} {d : D} (h : Rd' K Hs H v d) (sub : Same Hs H) (c : Sh d) : Dp K H v d := by
  have c' := SeqAt.canLay_of_shaped c
  cases e : isC d with
  | true =>
    cases d <;> first | (exfalso; have e' : false = true := e; cases e'; done) | skip
    case list ds =>
      obtain ⟨a, xs, rfl, h1, h2⟩ := Rd'.list h
      exact .lst (SqL.of h1) (DpAll_same sub (RpAll.dp ds h2 (by simpa [PyData.canLay0] using c')))
    case dict ds => simp [PyData.canLay0] at c'
  | false =>
    have h : (if isC d = true then _ else Rp K Hs v d) := h
    rw [if_neg (by rw [e]; exact Bool.false_ne_true)] at h
    exact Dp_same sub (Rp.dp _ h c')
section
variable {C : Cf} {σ : L2.St} {H0 S0 Hs H : Hp} {s : S}
/-- a new object in the heap, not of the still part -/
theorem Go.laid {a : Addr} {o : HO} (h : H a = none) : Go C σ Hs H Hs (upd H a o) :=
  ⟨Same.refl _, fun b x e _ _ => by rw [upd_ne (ne_of_none e h)]; exact e, fun b x e => ⟨x, by rw [upd_ne (ne_of_none e h)]; exact e⟩, fun _ h1 h2 => absurd h1 h2⟩
theorem R.laid (r : R C H0 S0 Hs σ H s) {a : Addr} {o : HO} (h : H a = none) : R C H0 S0 Hs σ (upd H a o) s := by
  have sm : Same H (upd H a o) := same_upd h
  refine ⟨r.len, r.sub.trans sm, r.slot, fun i d e m => ?_, r.dead, r.sep, fun p c e => ?_, r.br, r.s0, fun b x n e => sm _ _ (r.h0 b x n e), r.new⟩
  · obtain ⟨b, u, e2, e3, e4⟩ := r.mt i d e m
    exact ⟨b, u, e2, sm _ _ e3, e4⟩
  · obtain ⟨e1, e2, e3⟩ := r.pn p c e
    exact ⟨e1, e2.same sm, e3⟩
theorem R.free0 (r : R C H0 S0 Hs σ H s) {a : Addr} (h : H a = none) : H0 a = none ∧ Hs a = none ∧ ¬ Own C σ a ∧ ¬ IsPen C a := by
  have no : ¬ Own C σ a := fun ⟨i, m, e⟩ => by
    have hi : i < s.δ.length := by rw [← r.len]; exact (List.getElem?_eq_some_iff.mp e).1
    cases q : s.δ[i]'hi with
    | none =>
      have := r.dead i m (by rw [List.getElem?_eq_getElem hi, q])
      rw [e] at this; cases this
    | some d =>
      obtain ⟨b, u, e2, e3, _⟩ := r.mt i d (by rw [List.getElem?_eq_getElem hi, q]) m
      rw [e] at e2; cases e2
      rw [h] at e3; cases e3
  have np : ¬ IsPen C a := fun z => by
    rcases z with ⟨c, e⟩ | e
    · obtain ⟨_, e2⟩ := (r.pn a c e).2.1.at_
      rw [h] at e2; cases e2
    · obtain ⟨i, _, m, z⟩ := (r.br a e).1
      exact no ⟨i, m, z⟩
  refine ⟨?_, ?_, no, np⟩
  · cases q : H0 a with
    | none => rfl
    | some o => rw [r.h0 a o np q] at h; cases h
  · cases q : Hs a with
    | none => rfl
    | some o => rw [r.sub a o q] at h; cases h
/-- a new list or dict, nobody else's -/
theorem R.newC (r : R C H0 S0 Hs σ H s) {a : Addr} {o : HO} {d : D} (h : H a = none) (hx : Cn C.K Hs o d) : Val C H0 H Hs σ (upd H a o) .F (.ref a) d := by
  obtain ⟨h0, h1, h2, _⟩ := r.free0 h
  exact Val.mkC ⟨o, upd_same, h1, h0, h, hx, h2⟩
theorem R.newList (r : R C H0 S0 Hs σ H s) {a : Addr} {xs : List V} {ds : List D} (h : H a = none) (hx : RpAll C.K Hs xs ds) : Val C H0 H Hs σ (upd H a (.lst xs)) .F (.ref a) (.list ds) := r.newC h (.lst hx)
/-- a new tuple lies in the still part at once -/
theorem R.newTup (r : R C H0 S0 Hs σ H s) {a : Addr} {o : HO} (h : H a = none) : R C H0 S0 (upd Hs a o) σ (upd H a o) s ∧ Go C σ Hs H (upd Hs a o) (upd H a o) := by
  obtain ⟨h0, h1, h2, h3⟩ := r.free0 h
  have sm : Same H (upd H a o) := same_upd h
  have sm' : Same Hs (upd Hs a o) := same_upd h1
  have r' := r.laid (o := o) h
  refine ⟨⟨r.len, fun b x e => ?_, fun i d e m => ?_, fun i d e m => ?_, r.dead, r.sep, fun p c e => ?_, r.br, r.s0.trans sm', r'.h0, fun b e1 e2 => ?_⟩, sm', fun b x e _ _ => sm _ _ e, fun b x e => ⟨x, sm _ _ e⟩, fun b e1 e2 => ?_⟩
  · by_cases z : b = a
    · subst z; rw [upd_same] at e; rw [upd_same]; exact e
    · rw [upd_ne z] at e; exact r'.sub _ _ e
  · obtain ⟨v, e1, e2⟩ := r.slot i d e m
    exact ⟨v, e1, Rp.mono sm' e2⟩
  · obtain ⟨b, u, e2, e3, e4, e5, e6⟩ := r'.mt i d e m
    refine ⟨b, u, e2, e3, ?_, e5.mono sm', e6⟩
    rw [upd_ne (fun z => h2 ⟨i, m, by rw [← z]; exact e2⟩)]
    exact e4
  · obtain ⟨e1, e2, e3, e4⟩ := r'.pn p c e
    refine ⟨e1, e2.mono sm' (Same.refl _), ?_, e4⟩
    rw [upd_ne (fun z => h3 (.inl ⟨c, by rw [← z]; exact e⟩))]
    exact e3
  · by_cases z : b = a
    · subst z; exact h0
    · rw [upd_ne z] at e2; exact r.new b e1 e2
  · by_cases z : b = a
    · subst z; exact h
    · rw [upd_ne z] at e2; exact absurd e1 e2
end
theorem Val.bl {C : Cf} {H0 Hst Hs : Hp} {σ : L2.St} {H : Hp} (b : Bool) : Val C H0 Hst Hs σ H .F (.bl b) (.bool b) := Val.mkP (Rp.bl b) rfl
/-! the operators -/
section
variable {X : Cx} (K : PySem.W.Frag) (eK : X.K = K)
def rAddS : R2 := fun x y H Q => ∃ i j, x = .str i ∧ y = .str j ∧ i.length + j.length ≤ sizeLine ∧ Q (.str (i ++ j)) H
def rAddG (K : PySem.W.Frag) : R2 := fun x y H Q => rI0 (fun i j => .int (i + j)) x y H Q ∨ rAddS x y H Q ∨ rCat x y H Q ∨ rCatZ K x y H Q
include eK in
theorem addG : OpR X (binaryOp .Add) (rAddG K) := by
  subst eK
  exact OpR.or op_add (OpR.or op_add_str (OpR.or op_cat (op_catZ X.K rfl)))
def rMulG : R2 := fun x y H Q => rI CMulW (fun i j => .int (i * j)) x y H Q ∨ rRep x y H Q
theorem mulG : OpR X (binaryOp .Mult) rMulG := OpR.or op_mulW op_rep
/-- a dict beside an empty one -/
def rEqE (neg : Bool) : R2 := fun x y H Q => ∃ a b ks, x = .ref a ∧ y = .ref b ∧ Rd H a (.dK ks) ∧ Rd H b (.dK []) ∧ Q (.bl (xor neg ks.isEmpty)) H
theorem eqE_hits {A : Around} {s : Shared} {ks : List (Key × V)} {va vb : List (Key × Value)} (ra : KV ks va) (hb : vb = []) : va.length = vb.length → PySem.W.KeqHits A s vb va true := fun e => by
  subst hb
  cases va with
  | nil => exact .nil
  | cons p r => cases e
theorem kvNil {vb : List (Key × Value)} (rb : KV [] vb) : vb = [] := by
  have := rb.length
  cases vb with
  | nil => rfl
  | cons p r => cases this
theorem op_eqE (hu : X.A.units < cLine) : OpR X (compareOp .Eq) (rEqE false) := by
  intro pins s σ H x y v u Q I rx ry h
  obtain ⟨a, b, ks, rfl, rfl, ea, eb, q⟩ := h
  obtain rfl : v = Value.ref a := rx
  obtain rfl : u = Value.ref b := ry
  obtain ⟨_, ya, va, ra, da⟩ := dk_rd I.hok ea
  obtain ⟨_, yb, vb, rb, db⟩ := dk_rd I.hok eb
  have hb := kvNil rb
  have hl : (ks.isEmpty) = (va.length == vb.length) := by
    rw [hb, ← ra.length]
    cases ks <;> rfl
  exact PySem.W.keq_eq (knd := mixKind X.prog X.w) (r := true) ya yb da db hu (eqE_hits ra hb) (fin_bl I q (by simp [hl]))
theorem op_neE (hu : X.A.units < cLine) : OpR X (compareOp .NotEq) (rEqE true) := by
  intro pins s σ H x y v u Q I rx ry h
  obtain ⟨a, b, ks, rfl, rfl, ea, eb, q⟩ := h
  obtain rfl : v = Value.ref a := rx
  obtain rfl : u = Value.ref b := ry
  obtain ⟨_, ya, va, ra, da⟩ := dk_rd I.hok ea
  obtain ⟨_, yb, vb, rb, db⟩ := dk_rd I.hok eb
  have hb := kvNil rb
  have hl : (ks.isEmpty) = (va.length == vb.length) := by
    rw [hb, ← ra.length]
    cases ks <;> rfl
  exact PySem.W.keq_ne (knd := mixKind X.prog X.w) (r := true) ya yb da db hu (eqE_hits ra hb) (fin_bl I q (by simp [hl]))
def rEqG (K : PySem.W.Frag) : R2 := fun x y H Q => rEq x y H Q ∨ rEqD K x y H Q ∨ rEqE false x y H Q
def rNeG (K : PySem.W.Frag) : R2 := fun x y H Q => rNe x y H Q ∨ rNeD K x y H Q ∨ rEqE true x y H Q
include eK in
theorem eqG (hu : X.A.units + 64 < cLine) : OpR X (compareOp .Eq) (rEqG K) := by subst eK; exact OpR.or op_eq (OpR.or (op_eqD hu) (op_eqE (by omega)))
include eK in
theorem neG (hu : X.A.units + 64 < cLine) : OpR X (compareOp .NotEq) (rNeG K) := by subst eK; exact OpR.or op_ne (OpR.or (op_neD hu) (op_neE (by omega)))
def rInS (neg : Bool) : R2 := fun x y H Q => ∃ i j, x = .str i ∧ y = .str j ∧ Q (.bl (xor neg (!(Builtin.Str.occurrences j i 0 j.length 1).isEmpty))) H
def rInDk (neg : Bool) : R2 := fun x y H Q => ∃ a kvs k, y = .ref a ∧ x = kV k ∧ Rd H a (.dK kvs) ∧ Q (.bl (xor neg (valV kvs k).isSome)) H
def rInG (K : PySem.W.Frag) : R2 := fun x y H Q => rIn K false x y H Q ∨ rInD K x y H Q ∨ rInS false x y H Q ∨ rInDk false x y H Q
def rNinG (K : PySem.W.Frag) : R2 := fun x y H Q => rIn K true x y H Q ∨ rNotInD K x y H Q ∨ rInS true x y H Q ∨ rInDk true x y H Q
include eK in
theorem inG (hu : X.A.units + 65 < cLine) : OpR X (compareOp .In) (rInG K) := by
  subst eK
  refine OpR.or op_in_seq (OpR.or (op_inD hu) (OpR.or (fun pins s σ H x y v u Q I rx ry h => op_in_str pins s σ H x y v u Q I rx ry ?_) (fun pins s σ H x y v u Q I rx ry h => ?_)))
  · obtain ⟨i, j, rfl, rfl, q⟩ := h
    exact ⟨i, j, rfl, rfl, by simpa using q⟩
  · obtain ⟨a, kvs, k, rfl, rfl, hd, q⟩ := h
    cases (show u = Value.ref a from ry)
    exact d_in (by omega) I (.inl ⟨kvs, k, hd, rfl, rfl⟩) rx fun s3 I3 => ⟨.bl _, H, I3, rfl, by simpa using q⟩
include eK in
theorem ninG (hu : X.A.units + 65 < cLine) : OpR X (compareOp .NotIn) (rNinG K) := by
  subst eK
  refine OpR.or op_notIn_seq (OpR.or (op_notInD hu) (OpR.or (fun pins s σ H x y v u Q I rx ry h => op_notin_str pins s σ H x y v u Q I rx ry ?_) (fun pins s σ H x y v u Q I rx ry h => ?_)))
  · obtain ⟨i, j, rfl, rfl, q⟩ := h
    exact ⟨i, j, rfl, rfl, by simpa using q⟩
  · obtain ⟨a, kvs, k, rfl, rfl, hd, q⟩ := h
    cases (show u = Value.ref a from ry)
    exact d_notIn (by omega) I (.inl ⟨kvs, k, hd, rfl, rfl⟩) rx fun s3 I3 => ⟨.bl _, H, I3, rfl, by simpa using q⟩
def rIxDk : R2 := fun x y H Q => ∃ p kvs k v, x = .ref p ∧ y = kV k ∧ Rd H p (.dK kvs) ∧ valV kvs k = some v ∧ Q v H
theorem ixDk {X : Cx} (hu : X.A.units + 65 < cLine) : IxR X rIxDk := by
  intro value slice pins s σ H x y v u Q I rx ry h hs
  obtain ⟨p, kvs, k, z, rfl, rfl, hH, hv, q⟩ := h
  cases rx
  exact tail_any (isD_at I (.inl ⟨kvs, hH⟩)).1 slot_dict_getitem.lookup (d_getItem (v := z) (by omega) I (by rw [← hv]; exact .inl ⟨kvs, k, hH, rfl, rfl⟩) ry fun w' s' I' r' => ⟨z, H, I', r', q⟩) hs
def rIxG (K : PySem.W.Frag) : R2 := fun x y H Q => rIxL K x y H Q ∨ rIxT K x y H Q ∨ rIxS x y H Q ∨ rIxDk x y H Q
include eK in
theorem ixG (hu : X.A.units + 65 < cLine) : IxR X (rIxG K) := by subst eK; exact IxR.or ix_list (IxR.or ix_tup (IxR.or ix_str (ixDk hu)))
end
def addD : DO := fun x y Q => match x, y with
  | .int i, .int j => Q (.int (i + j))
  | .str a, .str b => a.length + b.length ≤ sizeLine ∧ Q (.str (a ++ b))
  | .list a, .list b => a.length + b.length ≤ sizeLine ∧ Q (.list (a ++ b))
  | .tuple a, .tuple b => a.length + b.length ≤ sizeLine ∧ Q (.tuple (a ++ b))
  | _, _ => False
def subD : DO := fun x y Q => match x, y with
  | .int i, .int j => Q (.int (i - j))
  | _, _ => False
def mulD : DO := fun x y Q => match x, y with
  | .int i, .int j => CMulW i j ∧ Q (.int (i * j))
  | .list a, .int k => k < 2 ^ 62 ∧ -(2 ^ 62) < k ∧ a.length * k.toNat ≤ sizeLine ∧ Q (.list (List.replicate k.toNat a).flatten)
  | _, _ => False
def fdivD : DO := fun x y Q => match x, y with
  | .int i, .int j => CDivW i j ∧ Q (.int (i / j))
  | _, _ => False
def modD : DO := fun x y Q => match x, y with
  | .int i, .int j => 0 < j ∧ Q (.int (i % j))
  | _, _ => False
def powD : DO := fun x y Q => match x, y with
  | .int i, .int j => CPow i j ∧ Q (.int (i ^ j.toNat))
  | _, _ => False
def cmpD (p : Int → Int → Bool) : DO := fun x y Q => match x, y with
  | .int i, .int j => Q (.bool (p i j))
  | _, _ => False
/-- == -/
def eqB : D → D → Option Bool
  | .str a, .str b => some (decide (a = b))
  | .int a, .int b => some (decide (a = b))
  | .bool a, .bool b => some (decide (a = b))
  | .none, .none => some true
  | .none, .str _ => some false
  | .str _, .none => some false
  | .none, .int _ => some false
  | .int _, .none => some false
  | .int _, .str _ => some false
  | .str _, .int _ => some false
  | _, _ => none
def eqD0 : DO := fun x y Q => match eqB x y with
  | some b => Q (.bool b)
  | none => Sh x ∧ Sh y ∧ Q (.bool (PyData.eqv x y))
def neD0 : DO := fun x y Q => match eqB x y with
  | some b => Q (.bool (!b))
  | none => Sh x ∧ Sh y ∧ Q (.bool (!PyData.eqv x y))
def eqD : DO := fun x y Q => match y with
  | .dict [] => (match x with
    | .dict ks => Q (.bool ks.isEmpty)
    | _ => False)
  | _ => eqD0 x y Q
def neD : DO := fun x y Q => match y with
  | .dict [] => (match x with
    | .dict ks => Q (.bool (!ks.isEmpty))
    | _ => False)
  | _ => neD0 x y Q
/-- what a dict holds at a key -/
def keyIs : D → D → Bool
  | .str a, .str b => decide (a = b)
  | .int a, .int b => decide (a = b)
  | _, _ => false
def isKey : D → Bool
  | .str _ => true
  | .int _ => true
  | _ => false
def findD : List (D × D) → D → Option D
  | [], _ => none
  | (k, d) :: r, x => if keyIs k x = true then some d else findD r x
def isND : DO := fun x y Q => match y with
  | .none => Q (.bool (match x with | .none => true | _ => false))
  | _ => False
def notND : DO := fun x y Q => match y with
  | .none => Q (.bool (match x with | .none => false | _ => true))
  | _ => False
/-- a flat tree's == -/
def flatD : D → Bool
  | .none => true
  | .bool _ => true
  | .int _ => true
  | .str _ => true
  | _ => false
def eqF : D → D → Bool
  | .none, .none => true
  | .bool a, .bool b => a == b
  | .bool a, .int b => (if a then 1 else 0) == b
  | .int a, .bool b => a == (if b then 1 else 0)
  | .int a, .int b => a == b
  | .str a, .str b => a == b
  | _, _ => false
def inD (neg : Bool) : DO := fun x y Q => match y with
  | .str b => (match x with
    | .str a => Q (.bool (xor neg (!(Builtin.Str.occurrences b a 0 b.length 1).isEmpty)))
    | _ => False)
  | .tuple ys => flatD x = true ∧ ys.all flatD = true ∧ Q (.bool (xor neg (ys.any fun z => eqF z x)))
  | .list ys => (flatD x = true ∧ ys.all flatD = true ∧ Q (.bool (xor neg (ys.any fun z => eqF z x)))) ∨ (Sh x ∧ Sh (.list ys) ∧ Q (.bool (xor neg (ys.any fun z => PyData.eqv z x))))
  | .dict kvs => isKey x = true ∧ Q (.bool (xor neg (findD kvs x).isSome))
  | _ => False
structure IxP (o : Option D) (Q : D → Prop) : Prop where
  ex : ∃ d, o = some d ∧ Q d
structure IxS (z : Str) (i : Int) (Q : D → Prop) : Prop where
  ln : z.length ≤ sizeLine
  ex : ∃ c, atI z.cps.toList i = some c ∧ Q (.str ⟨#[c]⟩)
def ixD : DO := fun x y Q => match y with
  | .int i => (match x with
    | .list ds => IxP (atI ds i) Q
    | .tuple ds => IxP (atI ds i) Q
    | .str z => IxS z i Q
    | .dict kvs => IxP (findD kvs (.int i)) Q
    | _ => False)
  | .str z => (match x with
    | .dict kvs => IxP (findD kvs (.str z)) Q
    | _ => False)
  | _ => False
theorem keyIs_key (a b : Key) : keyIs (keyD a) (keyD b) = decide (a = b) := by
  cases a <;> cases b <;> simp [keyIs, keyD]
theorem findD_rp {K : PySem.W.Frag} {H : Hp} {x : Key} : ∀ {kvs : List (Key × V)} {ds : List (D × D)}, RpKV K H kvs ds → (findD ds (keyD x) = none ∧ valV kvs x = none) ∨ ∃ d v, findD ds (keyD x) = some d ∧ valV kvs x = some v ∧ Rp K H v d
  | _, _, .nil => .inl ⟨rfl, rfl⟩
  | _, _, .cons (k := k) (v := v) (d := d) (vs := vs) (ds := ds) a b => by
    by_cases h : k = x
    · subst h
      exact .inr ⟨d, v, if_pos (by rw [keyIs_key]; exact decide_eq_true rfl), valV_pos rfl, a⟩
    · have e : findD ((keyD k, d) :: ds) (keyD x) = findD ds (keyD x) := if_neg (by rw [keyIs_key, decide_eq_false h]; exact Bool.false_ne_true)
      rw [e, valV_neg (p := (k, v)) h]
      exact findD_rp b
theorem findD_some {K : PySem.W.Frag} {H : Hp} {x : Key} {kvs : List (Key × V)} {ds : List (D × D)} {d : D} (h : RpKV K H kvs ds) (e : findD ds (keyD x) = some d) : ∃ v, valV kvs x = some v ∧ Rp K H v d := by
  rcases findD_rp (x := x) h with ⟨f1, _⟩ | ⟨d', v, f1, f2, f3⟩
  · rw [f1] at e; cases e
  · rw [f1] at e; cases e; exact ⟨v, f2, f3⟩
theorem findD_is {K : PySem.W.Frag} {H : Hp} {x : Key} {kvs : List (Key × V)} {ds : List (D × D)} (h : RpKV K H kvs ds) : (findD ds (keyD x)).isSome = (valV kvs x).isSome := by
  rcases findD_rp (x := x) h with ⟨f1, f2⟩ | ⟨d', v, f1, f2, f3⟩ <;> rw [f1, f2] <;> rfl
theorem RpKV.len {K : PySem.W.Frag} {H : Hp} : ∀ {kvs : List (Key × V)} {ds : List (D × D)}, RpKV K H kvs ds → kvs.length = ds.length
  | _, _, .nil => rfl
  | _, _, .cons _ b => by rw [List.length_cons, List.length_cons, RpKV.len b]
theorem isKey_of {d : D} (h : isKey d = true) : ∃ k : Key, d = keyD k := by
  cases d <;> first | (cases h; done) | skip
  · exact ⟨.inl _, rfl⟩
  · exact ⟨.inr _, rfl⟩
theorem Rp.key {K : PySem.W.Frag} {H : Hp} {v : V} {k : Key} (h : Rp K H v (keyD k)) : v = kV k := by
  cases k with
  | inl i => cases h; rfl
  | inr i => cases h; rfl
section
variable {C : Cf}
theorem opA_add : OpA C (rAddG C.K) addD := by
  intro H0 S0 Hs σ H s x y dx dy Q Q' r hx hy q k
  cases dx <;> cases dy <;> first | exact q.elim | skip
  case int.int i j => cases hx; cases hy; exact .inl ⟨i, j, rfl, rfl, k Hs H _ (.int (i + j)) Go.refl r (Val.mkP (Rp.int _) rfl) q⟩
  case str.str a b => cases hx; cases hy; exact .inr (.inl ⟨a, b, rfl, rfl, q.1, k Hs H _ (.str (a ++ b)) Go.refl r (Val.mkP (Rp.str _) rfl) q.2⟩)
  case list.list ds es =>
    obtain ⟨a, xs, rfl, h1, h2⟩ := Rd'.list hx
    obtain ⟨b, ys, rfl, h3, h4⟩ := Rd'.list hy
    refine .inr (.inr (.inl ⟨a, b, xs, ys, rfl, rfl, h1, h3, by rw [h2.len, h4.len]; exact q.1, fun p np => ?_⟩))
    exact k Hs _ _ (.list (ds ++ es)) (Go.laid np) (r.laid np) (r.newList np (h2.app h4)) q.2
  case tuple.tuple ds es =>
    cases hx with
    | @tup a xs _ h1 h2 =>
    cases hy with
    | @tup b ys _ h3 h4 =>
    refine .inr (.inr (.inr ⟨a, b, xs, ys, rfl, rfl, Same.sqT r.sub h1.sq, Same.sqT r.sub h3.sq, by rw [h2.len, h4.len]; exact q.1, fun e => ?_, fun _ e => ?_, fun _ _ p o np hd => ?_⟩))
    · subst e
      cases h2
      exact k Hs H _ (.tuple ([] ++ es)) Go.refl r (Val.mkP (Rp.tup h3 h4) rfl) q.2
    · subst e
      cases h4
      exact k Hs H _ (.tuple (ds ++ [])) Go.refl r (Val.mkP (by rw [List.append_nil]; exact Rp.tup h1 h2) rfl) q.2
    · obtain ⟨r', g'⟩ := r.newTup (o := .frz o (.tup (xs ++ ys))) np
      exact k _ _ _ (.tuple (ds ++ es)) g' r' (Val.mkP (Rp.tup (TqT.of upd_same hd) (RpAll.mono g'.st (h2.app h4))) rfl) q.2
theorem opA_sub : OpA C (rI0 fun i j => .int (i - j)) subD := by
  intro H0 S0 Hs σ H s x y dx dy Q Q' r hx hy q k
  cases dx <;> cases dy <;> first | exact q.elim | skip
  case int.int i j => cases hx; cases hy; exact ⟨i, j, rfl, rfl, k Hs H _ (.int (i - j)) Go.refl r (Val.mkP (Rp.int _) rfl) q⟩
theorem RpAll.rep {K : PySem.W.Frag} {H : Hp} {xs : List V} {ds : List D} (h : RpAll K H xs ds) : ∀ n : Nat, RpAll K H (List.replicate n xs).flatten (List.replicate n ds).flatten
  | 0 => .nil
  | n + 1 => by rw [List.replicate_succ, List.replicate_succ, List.flatten_cons, List.flatten_cons]; exact h.app (RpAll.rep h n)
theorem opA_mul : OpA C rMulG mulD := by
  intro H0 S0 Hs σ H s x y dx dy Q Q' r hx hy q k
  cases dx <;> cases dy <;> first | exact q.elim | skip
  case int.int i j => cases hx; cases hy; exact .inl ⟨i, j, rfl, rfl, q.1, k Hs H _ (.int (i * j)) Go.refl r (Val.mkP (Rp.int _) rfl) q.2⟩
  case list.int ds n =>
    obtain ⟨a, xs, rfl, h1, h2⟩ := Rd'.list hx
    cases hy
    refine .inr ⟨a, n, xs, rfl, rfl, h1, by have := q.2.1; omega, by have := q.1; omega, by rw [h2.len]; exact q.2.2.1, fun p np => ?_⟩
    exact k Hs _ _ (.list (List.replicate n.toNat ds).flatten) (Go.laid np) (r.laid np) (r.newList np (h2.rep n.toNat)) q.2.2.2
theorem opA_fdiv : OpA C (rI CDivW fun i j => .int (i / j)) fdivD := by
  intro H0 S0 Hs σ H s x y dx dy Q Q' r hx hy q k
  cases dx <;> cases dy <;> first | exact q.elim | skip
  case int.int i j => cases hx; cases hy; exact ⟨i, j, rfl, rfl, q.1, k Hs H _ (.int (i / j)) Go.refl r (Val.mkP (Rp.int _) rfl) q.2⟩
theorem opA_mod : OpA C (rI (fun _ j => 0 < j) fun i j => .int (i % j)) modD := by
  intro H0 S0 Hs σ H s x y dx dy Q Q' r hx hy q k
  cases dx <;> cases dy <;> first | exact q.elim | skip
  case int.int i j => cases hx; cases hy; exact ⟨i, j, rfl, rfl, q.1, k Hs H _ (.int (i % j)) Go.refl r (Val.mkP (Rp.int _) rfl) q.2⟩
theorem opA_pow : OpA C (rI CPow fun i j => .int (i ^ j.toNat)) powD := by
  intro H0 S0 Hs σ H s x y dx dy Q Q' r hx hy q k
  cases dx <;> cases dy <;> first | exact q.elim | skip
  case int.int i j => cases hx; cases hy; exact ⟨i, j, rfl, rfl, q.1, k Hs H _ (.int (i ^ j.toNat)) Go.refl r (Val.mkP (Rp.int _) rfl) q.2⟩
theorem opA_cmp (p : Int → Int → Bool) : OpA C (rI0 fun i j => .bl (p i j)) (cmpD p) := by
  intro H0 S0 Hs σ H s x y dx dy Q Q' r hx hy q k
  cases dx <;> cases dy <;> first | exact q.elim | skip
  case int.int i j => cases hx; cases hy; exact ⟨i, j, rfl, rfl, k Hs H _ (.bool (p i j)) Go.refl r (Val.mkP (Rp.bl _) rfl) q⟩
theorem eqB_some {K : PySem.W.Frag} {Hs H : Hp} {x y : V} {dx dy : D} {b : Bool} (hx : Rd' K Hs H x dx) (hy : Rd' K Hs H y dy) (e : eqB dx dy = some b) : scal x y = true ∧ decide (x = y) = b := by
  cases dx <;> cases dy <;> first | (exfalso; have e' : (none : Option Bool) = some b := e; cases e'; done) | skip
  all_goals (cases hx; cases hy; simp only [eqB, Option.some.injEq] at e; subst e; exact ⟨rfl, by simp⟩)
theorem eqE_rd {K : PySem.W.Frag} {Hs H : Hp} {x y : V} {ks : List (D × D)} (hx : Rd' K Hs H x (.dict ks)) (hy : Rd' K Hs H y (.dict [])) : ∃ a b ls, x = .ref a ∧ y = .ref b ∧ Rd H a (.dK ls) ∧ Rd H b (.dK []) ∧ ls.isEmpty = ks.isEmpty := by
  obtain ⟨a, xs, rfl, h1, h2⟩ := Rd'.dict hx
  obtain ⟨b, ys, rfl, h3, h4⟩ := Rd'.dict hy
  cases h4
  refine ⟨a, b, xs, rfl, rfl, h1, h3, ?_⟩
  cases h2 <;> rfl
theorem opA_eq : OpA C (rEqG C.K) eqD := by
  intro H0 S0 Hs σ H s x y dx dy Q Q' r hx hy q k
  have old : eqD0 dx dy Q → rEqG C.K x y H Q' := ?old
  · unfold eqD at q
    split at q
    · split at q
      · obtain ⟨a, b, ls, rfl, rfl, h1, h2, h3⟩ := eqE_rd hx hy
        exact .inr (.inr ⟨a, b, ls, rfl, rfl, h1, h2, k Hs H _ (.bool _) Go.refl r (Val.mkP (by simpa [h3] using Rp.bl _) rfl) q⟩)
      · exact q.elim
    · exact old q
  intro q
  unfold eqD0 at q
  split at q
  · rename_i b e
    obtain ⟨h1, h2⟩ := eqB_some hx hy e
    exact .inl ⟨h1, by rw [h2]; exact k Hs H _ (.bool b) Go.refl r (Val.mkP (Rp.bl _) rfl) q⟩
  · exact .inr (.inl ⟨dx, dy, hx.dp r.sub q.1, hy.dp r.sub q.2.1, q.1, q.2.1, k Hs H _ (.bool (PyData.eqv dx dy)) Go.refl r (Val.mkP (Rp.bl _) rfl) q.2.2⟩)
theorem opA_ne : OpA C (rNeG C.K) neD := by
  intro H0 S0 Hs σ H s x y dx dy Q Q' r hx hy q k
  have old : neD0 dx dy Q → rNeG C.K x y H Q' := ?old
  · unfold neD at q
    split at q
    · split at q
      · obtain ⟨a, b, ls, rfl, rfl, h1, h2, h3⟩ := eqE_rd hx hy
        exact .inr (.inr ⟨a, b, ls, rfl, rfl, h1, h2, k Hs H _ (.bool _) Go.refl r (Val.mkP (by simpa [h3] using Rp.bl _) rfl) q⟩)
      · exact q.elim
    · exact old q
  intro q
  unfold neD0 at q
  split at q
  · rename_i b e
    obtain ⟨h1, h2⟩ := eqB_some hx hy e
    exact .inl ⟨h1, by rw [h2]; exact k Hs H _ (.bool (!b)) Go.refl r (Val.mkP (Rp.bl _) rfl) q⟩
  · exact .inr (.inl ⟨dx, dy, hx.dp r.sub q.1, hy.dp r.sub q.2.1, q.1, q.2.1, k Hs H _ (.bool (!PyData.eqv dx dy)) Go.refl r (Val.mkP (Rp.bl _) rfl) q.2.2⟩)
def rIsNV : R2 := fun x y H Q => y = .non ∧ Q (.bl (decide (x = .non))) H
def rNotNV : R2 := fun x y H Q => y = .non ∧ Q (.bl (!decide (x = .non))) H
theorem opA_isN : OpA C (fun x y H Q => y = .non ∧ Q (.bl (decide (x = .non))) H) isND := by
  intro H0 S0 Hs σ H s x y dx dy Q Q' r hx hy q k
  cases dy <;> first | exact q.elim | skip
  cases hy
  refine ⟨rfl, ?_⟩
  cases dx with
  | none => cases hx; exact k Hs H _ (.bool true) Go.refl r (Val.mkP (Rp.bl _) rfl) q
  | bool b => cases hx; exact k Hs H _ (.bool false) Go.refl r (by simpa using Val.bl _) q
  | int b => cases hx; exact k Hs H _ (.bool false) Go.refl r (by simpa using Val.bl _) q
  | str b => cases hx; exact k Hs H _ (.bool false) Go.refl r (by simpa using Val.bl _) q
  | list b => obtain ⟨a, xs, rfl, _⟩ := Rd'.list hx; exact k Hs H _ (.bool false) Go.refl r (by simpa using Val.bl _) q
  | tuple b => cases hx; exact k Hs H _ (.bool false) Go.refl r (by simpa using Val.bl _) q
  | dict b => obtain ⟨a, xs, rfl, _⟩ := Rd'.dict hx; exact k Hs H _ (.bool false) Go.refl r (by simpa using Val.bl _) q
theorem opA_notN : OpA C (fun x y H Q => y = .non ∧ Q (.bl (!decide (x = .non))) H) notND := by
  intro H0 S0 Hs σ H s x y dx dy Q Q' r hx hy q k
  cases dy <;> first | exact q.elim | skip
  cases hy
  refine ⟨rfl, ?_⟩
  cases dx with
  | none => cases hx; exact k Hs H _ (.bool false) Go.refl r (Val.mkP (Rp.bl _) rfl) q
  | bool b => cases hx; exact k Hs H _ (.bool true) Go.refl r (by simpa using Val.bl _) q
  | int b => cases hx; exact k Hs H _ (.bool true) Go.refl r (by simpa using Val.bl _) q
  | str b => cases hx; exact k Hs H _ (.bool true) Go.refl r (by simpa using Val.bl _) q
  | list b => obtain ⟨a, xs, rfl, _⟩ := Rd'.list hx; exact k Hs H _ (.bool true) Go.refl r (by simpa using Val.bl _) q
  | tuple b => cases hx; exact k Hs H _ (.bool true) Go.refl r (by simpa using Val.bl _) q
  | dict b => obtain ⟨a, xs, rfl, _⟩ := Rd'.dict hx; exact k Hs H _ (.bool true) Go.refl r (by simpa using Val.bl _) q
theorem flat_rd {K : PySem.W.Frag} {Hs H : Hp} {x : V} {d : D} (h : Rd' K Hs H x d) (f : flatD d = true) : flatV x = true ∧ ∀ {y : V} {e : D}, Rp K Hs y e → flatD e = true → eqV y x = eqF e d := by
  cases d <;> first | (exfalso; have f' : false = true := f; cases f'; done) | skip
  all_goals
    cases h
    refine ⟨rfl, fun {y e} hy fe => ?_⟩
    cases e <;> first | (exfalso; have f' : false = true := fe; cases f'; done) | (cases hy; rfl)
theorem any_rd {K : PySem.W.Frag} {Hs H : Hp} {x : V} {d : D} (h : Rd' K Hs H x d) (f : flatD d = true) : ∀ {xs : List V} {ds : List D}, RpAll K Hs xs ds → ds.all flatD = true → xs.all flatV = true ∧ inV x xs = ds.any fun z => eqF z d
  | _, _, .nil, _ => ⟨rfl, rfl⟩
  | _, _, .cons (v := v) (vs := vs) (d := e) (ds := es) a b, g => by
    rw [List.all_cons, Bool.and_eq_true] at g
    obtain ⟨h1, h2⟩ := any_rd h f b g.2
    have fv : flatV v = true := by
      cases e <;> first | (exfalso; have f' : false = true := g.1; cases f'; done) | (cases a; rfl)
    refine ⟨by rw [List.all_cons, fv, h1]; rfl, ?_⟩
    unfold inV at h2 ⊢
    rw [List.any_cons, List.any_cons, h2, (flat_rd h f).2 a g.1]
theorem opA_inX (neg : Bool) {rr : R2} (h1 : ∀ x y H Q, rIn C.K neg x y H Q → rr x y H Q) (h2 : ∀ x y H Q, rInS neg x y H Q → rr x y H Q)
    (h3 : ∀ x y H (Q : VK), (∃ d ds, Dp C.K H x d ∧ Dp C.K H y (.list ds) ∧ SeqAt.shaped d = true ∧ SeqAt.shaped (.list ds) = true ∧ Q (.bl (xor neg (ds.any fun z => PyData.eqv z d))) H) → rr x y H Q) (h4 : ∀ x y H Q, rInDk neg x y H Q → rr x y H Q) : OpA C rr (inD neg) := by
  intro H0 S0 Hs σ H s x y dx dy Q Q' r hx hy q k
  cases dy <;> first | exact q.elim | skip
  case str b =>
    cases dx <;> first | exact q.elim | skip
    cases hx; cases hy
    exact h2 _ _ _ _ ⟨_, _, rfl, rfl, k Hs H _ (.bool _) Go.refl r (Val.mkP (Rp.bl _) rfl) q⟩
  case tuple ys =>
    obtain ⟨f1, f2, q⟩ := q
    cases hy with
    | @tup a xs _ e1 e2 =>
    obtain ⟨g1, g2⟩ := any_rd hx f1 e2 f2
    refine h1 _ _ _ _ ⟨a, xs, rfl, .inr (Same.sqT r.sub e1.sq), (flat_rd hx f1).1, g1, ?_⟩
    rw [g2]
    refine k Hs H _ (.bool _) Go.refl r ?_ q
    cases neg with
    | true => simpa using Val.bl _
    | false => simpa using Val.bl _
  case list ys =>
    have hy' := hy
    obtain ⟨a, xs, rfl, e1, e2⟩ := Rd'.list hy
    rcases q with ⟨f1, f2, q⟩ | ⟨f1, f2, q⟩
    · obtain ⟨g1, g2⟩ := any_rd hx f1 e2 f2
      refine h1 _ _ _ _ ⟨a, xs, rfl, .inl (SqL.of e1), (flat_rd hx f1).1, g1, ?_⟩
      rw [g2]
      refine k Hs H _ (.bool _) Go.refl r ?_ q
      cases neg with
      | true => simpa using Val.bl _
      | false => simpa using Val.bl _
    · exact h3 _ _ _ _ ⟨dx, ys, hx.dp r.sub f1, hy'.dp r.sub f2, f1, f2, k Hs H _ (.bool _) Go.refl r (Val.mkP (Rp.bl _) rfl) q⟩
  case dict kvs =>
    obtain ⟨hk, q⟩ := q
    obtain ⟨a, ls, rfl, e1, e2⟩ := Rd'.dict hy
    obtain ⟨kk, rfl⟩ := isKey_of hk
    have hx' : Rp C.K Hs x (keyD kk) := by cases kk <;> exact hx
    refine h4 _ _ _ _ ⟨a, ls, kk, rfl, hx'.key, e1, k Hs H _ (.bool _) Go.refl r (Val.mkP ?_ rfl) q⟩
    rw [findD_is e2]
    exact Rp.bl _
theorem opA_in : OpA C (rInG C.K) (inD false) := opA_inX false (fun _ _ _ _ h => .inl h) (fun _ _ _ _ h => .inr (.inr (.inl h))) (fun _ _ _ _ h => by
  obtain ⟨d, ds, a, b, c, e, q⟩ := h
  exact .inr (.inl ⟨d, ds, a, b, c, e, by simpa using q⟩)) (fun _ _ _ _ h => .inr (.inr (.inr h)))
theorem opA_nin : OpA C (rNinG C.K) (inD true) := opA_inX true (fun _ _ _ _ h => .inl h) (fun _ _ _ _ h => .inr (.inr (.inl h))) (fun _ _ _ _ h => by
  obtain ⟨d, ds, a, b, c, e, q⟩ := h
  exact .inr (.inl ⟨d, ds, a, b, c, e, by simpa using q⟩)) (fun _ _ _ _ h => .inr (.inr (.inr h)))
theorem atI_all {K : PySem.W.Frag} {H : Hp} {xs : List V} {ds : List D} {i : Int} {d : D} (h : RpAll K H xs ds) (e : atI ds i = some d) : ∃ v, atI xs i = some v ∧ Rp K H v d := by
  unfold atI at e ⊢
  rw [h.len]
  cases q : ixN ds.length i with
  | none => rw [q] at e; cases e
  | some j =>
    rw [q] at e
    obtain ⟨x, e1, e2⟩ := h.get (i := j) e
    exact ⟨x, e1, e2⟩
theorem opA_ix {ca : Cat} {ta tb : TE} {da db : DT} (ha : Sim C ca ta da) {cb : Cat} (hb : Sim C cb tb db) : Sim C .E (tOp (rIxG C.K) ta tb) (dOp ixD da db) := by
  refine ⟨fun H0 S0 Hs σ H s Q Q' r0 q k => ha.run H0 S0 Hs σ H s _ _ r0 q fun Hs1 H1 x dx s1 g1 r1 v1 q1 => hb.run H0 S0 Hs1 σ H1 s1 _ _ r1 q1 fun Hs2 H2 y dy s2 g2 r2 v2 q2 => ?_⟩
  have rx := (v1.go r1 g2).rd r2.sub
  have ry := v2.rd r2.sub
  cases dy <;> first | exact q2.elim | skip
  all_goals cases ry
  all_goals (cases dx <;> first | exact q2.elim | skip)
  case int.dict i kvs =>
    obtain ⟨a, ls, rfl, e1, e2⟩ := Rd'.dict rx
    obtain ⟨⟨d, e, q2⟩⟩ := (show IxP (findD kvs (keyD (.inl i))) _ from q2)
    obtain ⟨v, e3, e4⟩ := findD_some e2 e
    exact .inr (.inr (.inr ⟨a, ls, .inl i, v, rfl, rfl, e1, e3, k Hs2 H2 v d s2 (g1.trans g2) r2 e4 q2⟩))
  case str.dict i kvs =>
    obtain ⟨a, ls, rfl, e1, e2⟩ := Rd'.dict rx
    obtain ⟨⟨d, e, q2⟩⟩ := (show IxP (findD kvs (keyD (.inr i))) _ from q2)
    obtain ⟨v, e3, e4⟩ := findD_some e2 e
    exact .inr (.inr (.inr ⟨a, ls, .inr i, v, rfl, rfl, e1, e3, k Hs2 H2 v d s2 (g1.trans g2) r2 e4 q2⟩))
  case int.list i ds =>
    obtain ⟨a, xs, rfl, e1, e2⟩ := Rd'.list rx
    obtain ⟨⟨d, e, q2⟩⟩ := (show IxP (atI ds i) _ from q2)
    obtain ⟨v, e3, e4⟩ := atI_all e2 e
    exact .inl ⟨a, xs, i, v, rfl, rfl, SqL.of e1, e3, k Hs2 H2 v d s2 (g1.trans g2) r2 e4 q2⟩
  case int.tuple i ds =>
    cases rx with
    | @tup a xs _ e1 e2 =>
    obtain ⟨⟨d, e, q2⟩⟩ := (show IxP (atI ds i) _ from q2)
    obtain ⟨v, e3, e4⟩ := atI_all e2 e
    exact .inr (.inl ⟨a, xs, i, v, rfl, rfl, Same.sqT r2.sub e1.sq, e3, k Hs2 H2 v d s2 (g1.trans g2) r2 e4 q2⟩)
  case int.str i z =>
    cases rx
    obtain ⟨hz, c, e, q2⟩ := (show IxS z i _ from q2)
    exact .inr (.inr (.inl ⟨z, i, c, rfl, rfl, hz, e, k Hs2 H2 _ (.str ⟨#[c]⟩) s2 (g1.trans g2) r2 (Rp.str _) q2⟩))
theorem opA_ixM (i : Nat) (hi : i ∈ C.M) {tb : TE} {db : DT} {cb : Cat} (hb : Sim C cb tb db) : Sim C .E (tOp (rIxG C.K) (tVar i) tb) (dOpM ixD i db) := by
  refine ⟨fun H0 S0 Hs σ H s Q Q' r0 q k => ?_⟩
  obtain ⟨⟨d, e⟩, q⟩ := q
  obtain ⟨v, e1, _⟩ := r0.rdM hi e
  refine ⟨v, e1, hb.run H0 S0 Hs σ H s _ _ r0 q fun Hs2 H2 y dy s2 g2 r2 v2 q2 => ?_⟩
  split at q2
  · rename_i x ex
    obtain ⟨a, o, e2, e3, e4, e5, _⟩ := r2.mt i x ex hi
    rw [e1] at e2
    cases e2
    have ry := v2.rd r2.sub
    cases dy <;> first | exact q2.elim | skip
    case int j =>
      cases ry
      cases e5 with
      | lst e5 =>
        rename_i xs ds
        obtain ⟨⟨d, e, q2⟩⟩ := (show IxP (atI ds j) _ from q2)
        obtain ⟨v, e6, e7⟩ := atI_all e5 e
        exact .inl ⟨a, xs, j, v, rfl, rfl, SqL.of e3, e6, k Hs2 H2 v d s2 g2 r2 e7 q2⟩
      | dic e5 =>
        rename_i xs ds
        obtain ⟨⟨d, e, q2⟩⟩ := (show IxP (findD ds (keyD (.inl j))) _ from q2)
        obtain ⟨v, e6, e7⟩ := findD_some e5 e
        exact .inr (.inr (.inr ⟨a, xs, .inl j, v, rfl, rfl, .inl e3, e6, k Hs2 H2 v d s2 g2 r2 e7 q2⟩))
    case str j =>
      cases ry
      cases e5 with
      | lst e5 => exact q2.elim
      | dic e5 =>
        rename_i xs ds
        obtain ⟨⟨d, e, q2⟩⟩ := (show IxP (findD ds (keyD (.inr j))) _ from q2)
        obtain ⟨v, e6, e7⟩ := findD_some e5 e
        exact .inr (.inr (.inr ⟨a, xs, .inr j, v, rfl, rfl, .inl e3, e6, k Hs2 H2 v d s2 g2 r2 e7 q2⟩))
  · exact q2.elim
end

/-! ### displays, tests, calls -/
abbrev DA := S → (List D → S → Prop) → Prop
structure SimA (C : Cf) (n : Nat) (ta : TA) (t : DA) : Prop where
  run : ∀ (H0 S0 Hs : Hp) (σ : L2.St) (H : Hp) (s : S) (Q : List D → S → Prop) (Q' : List V → Hp → Prop), R C H0 S0 Hs σ H s → t s Q →
    (∀ Hs' H' vs ds s', Go C σ Hs H Hs' H' → R C H0 S0 Hs' σ H' s' → RpAll C.K Hs' vs ds → ds.length = n → Q ds s' → Q' vs H') → ta σ H Q'
abbrev DB := S → (Bool → S → Prop) → Prop
structure SimT (C : Cf) (tt : TT) (t : DB) : Prop where
  run : ∀ (H0 S0 Hs : Hp) (σ : L2.St) (H : Hp) (s : S) (Q : Bool → S → Prop) (Q' : Bool → Hp → Prop), R C H0 S0 Hs σ H s → t s Q →
    (∀ Hs' H' b s', Go C σ Hs H Hs' H' → R C H0 S0 Hs' σ H' s' → Q b s' → Q' b H') → tt σ H Q'
section
variable {C : Cf} {te ta tb tc : TE} {t da db dc : DT} {ca cb cc : Cat}
def dNil : DA := fun s Q => Q [] s
def dCons (a : DT) (r : DA) : DA := fun s Q => a s fun d s1 => r s1 fun ds s2 => Q (d :: ds) s2
theorem simA_nil : SimA C 0 tNil dNil := ⟨fun H0 S0 Hs σ H s Q Q' r q k => k Hs H [] [] s Go.refl r .nil rfl q⟩
theorem simA_cons {n : Nat} {tr : TA} {dr : DA} (ha : Sim C ca ta da) (hr : SimA C n tr dr) : SimA C (n + 1) (tCons ta tr) (dCons da dr) := by
  refine ⟨fun H0 S0 Hs σ H s Q Q' r q k => ha.toE.run H0 S0 Hs σ H s _ _ r q fun Hs1 H1 x dx s1 g1 r1 v1 q1 => hr.run H0 S0 Hs1 σ H1 s1 _ _ r1 q1 fun Hs2 H2 vs ds s2 g2 r2 v2 l2 q2 => ?_⟩
  exact k Hs2 H2 (x :: vs) (dx :: ds) s2 (g1.trans g2) r2 (.cons (Rp.mono g2.st v1) v2) (by rw [List.length_cons, l2]) q2
theorem small_line {n : Nat} (h : n ≤ 1000) : n ≤ sizeLine := Nat.le_trans h (by decide)
def dTup (a : DA) : DT := fun s Q => a s fun ds s1 => Q (.tuple ds) s1
theorem sim_tup {n : Nat} {t : TA} {a : DA} (hn : n ≤ 1000) (h : SimA C n t a) : Sim C .F (tTupZ t) (dTup a) := by
  refine ⟨fun H0 S0 Hs σ H s Q Q' r q k => h.run H0 S0 Hs σ H s _ _ r q fun Hs1 H1 vs ds s1 g1 r1 v1 l1 q1 => ⟨by rw [v1.len, l1]; exact small_line hn, fun p o np hd => ?_⟩⟩
  obtain ⟨r', g'⟩ := r1.newTup (o := .frz o (.tup vs)) np
  exact k _ _ _ (.tuple ds) s1 (g1.trans g') r' (Val.mkP (Rp.tup (TqT.of upd_same hd) (RpAll.mono g'.st v1)) rfl) q1
def dLst (a : DA) : DT := fun s Q => a s fun ds s1 => Q (.list ds) s1
theorem sim_lst {n : Nat} {t : TA} {a : DA} (hn : n ≤ 1000) (h : SimA C n t a) : Sim C .F (tLst t) (dLst a) := by
  refine ⟨fun H0 S0 Hs σ H s Q Q' r q k => h.run H0 S0 Hs σ H s _ _ r q fun Hs1 H1 vs ds s1 g1 r1 v1 l1 q1 => ⟨by rw [v1.len, l1]; exact small_line hn, fun p np => ?_⟩⟩
  exact k Hs1 _ _ (.list ds) s1 (g1.trans (Go.laid np)) (r1.laid np) ((r1.newList np v1).anew fun a e => g1.back a e) q1
/-! tests -/
def dBl (a : DT) : DB := fun s Q => a s fun d s1 => match d with
  | .bool b => Q b s1
  | _ => False
theorem Val.bool {H0 Hst Hs : Hp} {σ : L2.St} {H : Hp} {v : V} {b : Bool} {cat : Cat} (h : Val C H0 Hst Hs σ H cat v (.bool b)) : v = .bl b := by
  cases cat with
  | E => cases (show Rp C.K Hs v (.bool b) from h); rfl
  | F => cases h.p rfl; rfl
theorem simT_B (h : Sim C ca te t) : SimT C (tB te) (dBl t) := by
  refine ⟨fun H0 S0 Hs σ H s Q Q' r q k => h.run H0 S0 Hs σ H s _ _ r q fun Hs1 H1 v d s1 g1 r1 v1 q1 => ?_⟩
  cases d <;> first | exact q1.elim | skip
  rename_i b
  cases v1.bool
  exact ⟨b, rfl, k Hs1 H1 b s1 g1 r1 q1⟩
theorem simT_test (h : Sim C ca te t) : SimT C (tTest te) (dBl t) := by
  refine ⟨fun H0 S0 Hs σ H s Q Q' r q k => h.run H0 S0 Hs σ H s _ _ r q fun Hs1 H1 v d s1 g1 r1 v1 q1 => ?_⟩
  cases d <;> first | exact q1.elim | skip
  rename_i b
  cases v1.bool
  exact ⟨b, rfl, k Hs1 H1 b s1 g1 r1 q1⟩
def dAnd (a b : DB) : DB := fun s Q => a s fun c s1 => if c = true then b s1 Q else Q false s1
def dOr (a b : DB) : DB := fun s Q => a s fun c s1 => if c = true then Q true s1 else b s1 Q
def dNot (a : DB) : DB := fun s Q => a s fun c s1 => Q (!c) s1
theorem simT_and {t u : TT} {a b : DB} (ha : SimT C t a) (hb : SimT C u b) : SimT C (tAnd t u) (dAnd a b) := by
  refine ⟨fun H0 S0 Hs σ H s Q Q' r q k => ha.run H0 S0 Hs σ H s _ _ r q fun Hs1 H1 c s1 g1 r1 q1 => ?_⟩
  cases c with
  | true => exact ifp rfl (hb.run H0 S0 Hs1 σ H1 s1 _ _ r1 (by simpa using q1) fun Hs2 H2 c2 s2 g2 r2 q2 => k Hs2 H2 c2 s2 (g1.trans g2) r2 q2)
  | false => exact ifn Bool.false_ne_true (k Hs1 H1 false s1 g1 r1 (by simpa using q1))
theorem simT_or {t u : TT} {a b : DB} (ha : SimT C t a) (hb : SimT C u b) : SimT C (tOr t u) (dOr a b) := by
  refine ⟨fun H0 S0 Hs σ H s Q Q' r q k => ha.run H0 S0 Hs σ H s _ _ r q fun Hs1 H1 c s1 g1 r1 q1 => ?_⟩
  cases c with
  | false => exact ifn Bool.false_ne_true (hb.run H0 S0 Hs1 σ H1 s1 _ _ r1 (by simpa using q1) fun Hs2 H2 c2 s2 g2 r2 q2 => k Hs2 H2 c2 s2 (g1.trans g2) r2 q2)
  | true => exact ifp rfl (k Hs1 H1 true s1 g1 r1 (by simpa using q1))
theorem simT_not {t : TT} {a : DB} (ha : SimT C t a) : SimT C (tNot t) (dNot a) :=
  ⟨fun H0 S0 Hs σ H s Q Q' r q k => ha.run H0 S0 Hs σ H s _ _ r q fun Hs1 H1 c s1 g1 r1 q1 => k Hs1 H1 (!c) s1 g1 r1 q1⟩
/-- as values -/
def dAndV (a b : DT) : DT := fun s Q => a s fun d s1 => match d with
  | .bool true => b s1 Q
  | .bool false => Q (.bool false) s1
  | _ => False
def dOrV (a b : DT) : DT := fun s Q => a s fun d s1 => match d with
  | .bool true => Q (.bool true) s1
  | .bool false => b s1 Q
  | _ => False
def dNotV (a : DT) : DT := fun s Q => a s fun d s1 => match d with
  | .bool b => Q (.bool (!b)) s1
  | _ => False
theorem sim_andV (ha : Sim C ca ta da) (hb : Sim C cb tb db) : Sim C .E (tAndV ta tb) (dAndV da db) := by
  refine ⟨fun H0 S0 Hs σ H s Q Q' r q k => ha.run H0 S0 Hs σ H s _ _ r q fun Hs1 H1 v d s1 g1 r1 v1 q1 => ?_⟩
  cases d <;> first | exact q1.elim | skip
  rename_i b
  cases v1.bool
  refine ⟨b, rfl, ?_⟩
  cases b with
  | true => exact ifp rfl (hb.toE.run H0 S0 Hs1 σ H1 s1 _ _ r1 q1 fun Hs2 H2 v d s2 g2 r2 v2 q2 => k Hs2 H2 v d s2 (g1.trans g2) r2 v2 q2)
  | false => exact ifn Bool.false_ne_true (k Hs1 H1 _ (.bool false) s1 g1 r1 (Rp.bl _) q1)
theorem sim_orV (ha : Sim C ca ta da) (hb : Sim C cb tb db) : Sim C .E (tOrV ta tb) (dOrV da db) := by
  refine ⟨fun H0 S0 Hs σ H s Q Q' r q k => ha.run H0 S0 Hs σ H s _ _ r q fun Hs1 H1 v d s1 g1 r1 v1 q1 => ?_⟩
  cases d <;> first | exact q1.elim | skip
  rename_i b
  cases v1.bool
  refine ⟨b, rfl, ?_⟩
  cases b with
  | false => exact ifn Bool.false_ne_true (hb.toE.run H0 S0 Hs1 σ H1 s1 _ _ r1 q1 fun Hs2 H2 v d s2 g2 r2 v2 q2 => k Hs2 H2 v d s2 (g1.trans g2) r2 v2 q2)
  | true => exact ifp rfl (k Hs1 H1 _ (.bool true) s1 g1 r1 (Rp.bl _) q1)
theorem sim_notV (ha : Sim C ca ta da) : Sim C .F (tNotV ta) (dNotV da) := by
  refine ⟨fun H0 S0 Hs σ H s Q Q' r q k => ha.run H0 S0 Hs σ H s _ _ r q fun Hs1 H1 v d s1 g1 r1 v1 q1 => ?_⟩
  cases d <;> first | exact q1.elim | skip
  rename_i b
  cases v1.bool
  exact ⟨b, rfl, k Hs1 H1 _ (.bool (!b)) s1 g1 r1 (Val.mkP (Rp.bl _) rfl) q1⟩
def dIf (c : DB) (a b : DT) : DT := fun s Q => c s fun k s1 => if k = true then a s1 Q else b s1 Q
theorem sim_if {tt : TT} {c : DB} {cat : Cat} (hc : SimT C tt c) (ha : Sim C cat ta da) (hb : Sim C cat tb db) : Sim C cat (tIf tt ta tb) (dIf c da db) := by
  refine ⟨fun H0 S0 Hs σ H s Q Q' r q k => hc.run H0 S0 Hs σ H s _ _ r q fun Hs1 H1 c s1 g1 r1 q1 => ?_⟩
  cases c with
  | true => exact ifp rfl (ha.run H0 S0 Hs1 σ H1 s1 _ _ r1 (by simpa using q1) fun Hs2 H2 v d s2 g2 r2 v2 q2 => k Hs2 H2 v d s2 (g1.trans g2) r2 (v2.anew fun a e => g1.back a e) q2)
  | false => exact ifn Bool.false_ne_true (hb.run H0 S0 Hs1 σ H1 s1 _ _ r1 (by simpa using q1) fun Hs2 H2 v d s2 g2 r2 v2 q2 => k Hs2 H2 v d s2 (g1.trans g2) r2 (v2.anew fun a e => g1.back a e) q2)
/-- a < b < c -/
def dChain (f g : DO) (a b c : DT) : DT := fun s Q => a s fun x s1 => b s1 fun y s2 => f x y fun z => match z with
  | .bool true => c s2 fun w s3 => g y w fun z => Q z s3
  | .bool false => Q (.bool false) s2
  | _ => False
theorem sim_chain {r r' : R2} {f g : DO} (hf : OpA C r f) (hg : OpA C r' g) (ha : Sim C ca ta da) (hb : Sim C cb tb db) (hc : Sim C cc tc dc) : Sim C .F (tChain r r' ta tb tc) (dChain f g da db dc) := by
  refine ⟨fun H0 S0 Hs σ H s Q Q' r0 q k => ha.run H0 S0 Hs σ H s _ _ r0 q fun Hs1 H1 x dx s1 g1 r1 v1 q1 => hb.run H0 S0 Hs1 σ H1 s1 _ _ r1 q1 fun Hs2 H2 y dy s2 g2 r2 v2 q2 => ?_⟩
  refine hf H0 S0 Hs2 σ H2 s2 x y dx dy _ _ r2 ((v1.go r1 g2).rd r2.sub) (v2.rd r2.sub) q2 fun Hs3 H3 v d g3 r3 v3 q3 => ?_
  cases d <;> first | exact q3.elim | skip
  rename_i b
  cases v3.bool
  refine ⟨b, rfl, ?_⟩
  have g123 := g1.trans (g2.trans g3)
  cases b with
  | true =>
    refine ifp rfl (hc.run H0 S0 Hs3 σ H3 s2 _ _ r3 q3 fun Hs4 H4 w dw s4 g4 r4 v4 q4 => ?_)
    refine hg H0 S0 Hs4 σ H4 s4 y w dy dw _ _ r4 (((v2.go r2 g3).go r3 g4).rd r4.sub) (v4.rd r4.sub) q4 fun Hs5 H5 v d g5 r5 v5 q5 => ?_
    exact k Hs5 H5 v d s4 (g123.trans (g4.trans g5)) r5 (v5.anew fun a e => (g123.trans g4).back a e) q5
  | false => exact ifn Bool.false_ne_true (k Hs3 H3 _ (.bool false) s2 g123 r3 (Val.mkP (Rp.bl _) rfl) q3)
/-! calls of built-ins -/
abbrev DF := List D → (D → Prop) → Prop
def RdAll (K : PySem.W.Frag) (Hs H : Hp) : List V → List D → Prop
  | [], [] => True
  | v :: vs, d :: ds => Rd' K Hs H v d ∧ RdAll K Hs H vs ds
  | _, _ => False
theorem RpAll.rd {K : PySem.W.Frag} {Hs H : Hp} (sub : Same Hs H) : ∀ {vs : List V} {ds : List D}, RpAll K Hs vs ds → RdAll K Hs H vs ds
  | _, _, .nil => True.intro
  | _, _, .cons a b => ⟨a.rd sub, RpAll.rd sub b⟩
def CaA (C : Cf) (r : List V → Hp → VK → Prop) (f : DF) : Prop := ∀ (H0 S0 Hs : Hp) (σ : L2.St) (H : Hp) (s : S) (vs : List V) (ds : List D) (Q : D → Prop) (Q' : VK), R C H0 S0 Hs σ H s → RdAll C.K Hs H vs ds → f ds Q →
  (∀ Hs' H' v d, Go C σ Hs H Hs' H' → R C H0 S0 Hs' σ H' s → Val C H0 H Hs' σ H' .F v d → Q d → Q' v H') → r vs H Q'
def dCB (f : DF) (a : DA) : DT := fun s Q => a s fun ds s1 => f ds fun z => Q z s1
theorem sim_cb {n : Nat} {r : List V → Hp → VK → Prop} {f : DF} {t : TA} {a : DA} (hf : CaA C r f) (h : SimA C n t a) : Sim C .F (tCB r t) (dCB f a) := by
  refine ⟨fun H0 S0 Hs σ H s Q Q' r0 q k => h.run H0 S0 Hs σ H s _ _ r0 q fun Hs1 H1 vs ds s1 g1 r1 v1 _ q1 => ?_⟩
  exact hf H0 S0 Hs1 σ H1 s1 vs ds _ _ r1 (v1.rd r1.sub) q1 fun Hs2 H2 v d g2 r2 v2 q2 => k Hs2 H2 v d s1 (g1.trans g2) r2 (v2.anew fun a e => g1.back a e) q2
/-- of one list of the def's own -/
def dCBM (f : DF) (i : Nat) : DT := fun s Q => match s.δ[i]? with
  | some (some d) => f [d] fun z => Q z s
  | _ => False
theorem sim_cbM {r : List V → Hp → VK → Prop} {f : DF} (i : Nat) (hi : i ∈ C.M) (hf : CaA C r f) : Sim C .F (tCB r (tCons (tVar i) tNil)) (dCBM f i) := by
  refine ⟨fun H0 S0 Hs σ H s Q Q' r0 q k => ?_⟩
  unfold dCBM at q
  split at q
  · rename_i d e
    obtain ⟨v, e1, rd⟩ := r0.rdM hi e
    exact ⟨v, e1, hf H0 S0 Hs σ H s [v] [d] _ _ r0 ⟨rd, True.intro⟩ q fun Hs2 H2 v d g2 r2 v2 q2 => k Hs2 H2 v d s g2 r2 v2 q2⟩
  · exact q.elim
def lenD : DF := fun ds Q => match ds with
  | [d] => (match d with
    | .list xs => Q (.int xs.length)
    | .tuple xs => Q (.int xs.length)
    | .str x => x.length ≤ sizeLine ∧ Q (.int x.length)
    | .dict kvs => Q (.int kvs.length)
    | _ => False)
  | _ => False
def rLenDk : List V → Hp → VK → Prop := fun xs H Q => ∃ a kvs, xs = [V.ref a] ∧ Rd H a (.dK kvs) ∧ Q (.int kvs.length) H
theorem len_dk {X : Cx} : CallR X (.builtin "len") rLenDk := by
  intro pins s σ H xs us Q I r h
  obtain ⟨a, kvs, rfl, e, q⟩ := h
  obtain ⟨u, rfl, ru⟩ := vals1 r
  cases (show u = Value.ref a from ru)
  exact d_len I e fun t s' I' => ⟨.int kvs.length, H, I', ⟨t, rfl⟩, q⟩
def rLenG (K : PySem.W.Frag) : List V → Hp → VK → Prop := fun xs H Q => rLenQ K xs H Q ∨ (∃ z, xs = [.str z] ∧ z.length ≤ sizeLine ∧ Q (.int z.length) H) ∨ rLenDk xs H Q
theorem CallR.or {X : Cx} {f : Value} {r r' : List V → Hp → VK → Prop} (h : CallR X f r) (h' : CallR X f r') : CallR X f (fun xs H Q => r xs H Q ∨ r' xs H Q) := by
  intro pins s σ H xs us Q I rv q
  rcases q with q | q
  · exact h pins s σ H xs us Q I rv q
  · exact h' pins s σ H xs us Q I rv q
theorem lenG {X : Cx} (K : PySem.W.Frag) (eK : X.K = K) : CallR X (.builtin "len") (rLenG K) := CallR.or (lenQ K eK) (CallR.or call_len_str len_dk)
theorem caA_len : CaA C (rLenG C.K) lenD := by
  intro H0 S0 Hs σ H s vs ds Q Q' r hd q k
  match vs, ds, hd with
  | [v], [d], ⟨h, _⟩ =>
    cases d <;> first | exact q.elim | skip
    case list xs =>
      obtain ⟨a, ys, rfl, e1, e2⟩ := Rd'.list h
      exact .inl ⟨a, ys, rfl, .inl (SqL.of e1), k Hs H _ (.int (xs.length : Nat)) Go.refl r (Val.mkP (by rw [e2.len]; exact Rp.int _) rfl) q⟩
    case tuple xs =>
      cases h with
      | @tup a ys _ e1 e2 => exact .inl ⟨a, ys, rfl, .inr (Same.sqT r.sub e1.sq), k Hs H _ (.int (xs.length : Nat)) Go.refl r (Val.mkP (by rw [e2.len]; exact Rp.int _) rfl) q⟩
    case str x =>
      cases h
      exact .inr (.inl ⟨x, rfl, q.1, k Hs H _ (.int (x.length : Nat)) Go.refl r (Val.mkP (Rp.int _) rfl) q.2⟩)
    case dict kvs =>
      obtain ⟨a, ls, rfl, e1, e2⟩ := Rd'.dict h
      exact .inr (.inr ⟨a, ls, rfl, e1, k Hs H _ (.int (kvs.length : Nat)) Go.refl r (Val.mkP (by rw [e2.len]; exact Rp.int _) rfl) q⟩)
  | [], [], _ => exact q.elim
  | _ :: _ :: _, _ :: _ :: _, _ => exact q.elim
def listD : DF := fun ds Q => match ds with
  | [d] => (match d with
    | .list xs => Q (.list xs)
    | .tuple xs => Q (.list xs)
    | _ => False)
  | _ => False
theorem caA_list : CaA C (rListQ C.K) listD := by
  intro H0 S0 Hs σ H s vs ds Q Q' r hd q k
  match vs, ds, hd with
  | [v], [d], ⟨h, _⟩ =>
    cases d <;> first | exact q.elim | skip
    case list xs =>
      obtain ⟨a, ys, rfl, e1, e2⟩ := Rd'.list h
      exact ⟨a, ys, rfl, .inl (SqL.of e1), fun p np => k Hs _ _ (.list xs) (Go.laid np) (r.laid np) (r.newList np e2) q⟩
    case tuple xs =>
      cases h with
      | @tup a ys _ e1 e2 => exact ⟨a, ys, rfl, .inr (Same.sqT r.sub e1.sq), fun p np => k Hs _ _ (.list xs) (Go.laid np) (r.laid np) (r.newList np e2) q⟩
  | [], [], _ => exact q.elim
  | _ :: _ :: _, _ :: _ :: _, _ => exact q.elim
def tupD : DF := fun ds Q => match ds with
  | [d] => (match d with
    | .list xs => Q (.tuple xs)
    | .tuple xs => Q (.tuple xs)
    | _ => False)
  | _ => False
theorem caA_tup : CaA C (rTupQ C.K) tupD := by
  intro H0 S0 Hs σ H s vs ds Q Q' r hd q k
  match vs, ds, hd with
  | [v], [d], ⟨h, _⟩ =>
    cases d <;> first | exact q.elim | skip
    case list xs =>
      obtain ⟨a, ys, rfl, e1, e2⟩ := Rd'.list h
      refine ⟨a, ys, rfl, .inl ⟨SqL.of e1, fun p o np hd => ?_⟩⟩
      obtain ⟨r', g'⟩ := r.newTup (o := .frz o (.tup ys)) np
      exact k _ _ _ (.tuple xs) g' r' (Val.mkP (Rp.tup (TqT.of upd_same hd) (RpAll.mono g'.st e2)) rfl) q
    case tuple xs =>
      cases h with
      | @tup a ys _ e1 e2 => exact ⟨a, ys, rfl, .inr ⟨Same.sqT r.sub e1.sq, k Hs H _ (.tuple xs) Go.refl r (Val.mkP (Rp.tup e1 e2) rfl) q⟩⟩
  | [], [], _ => exact q.elim
  | _ :: _ :: _, _ :: _ :: _, _ => exact q.elim
def strD : DF := fun ds Q => match ds with
  | [d] => (match d with
    | .int i => i.natAbs.log2 < 1920 ∧ Q (.str (toString i))
    | _ => False)
  | _ => False
theorem caA_str : CaA C (fun xs H Q => ∃ i, xs = [.int i] ∧ i.natAbs.log2 < 1920 ∧ Q (.str (toString i)) H) strD := by
  intro H0 S0 Hs σ H s vs ds Q Q' r hd q k
  match vs, ds, hd with
  | [v], [d], ⟨h, _⟩ =>
    cases d <;> first | exact q.elim | skip
    cases h
    exact ⟨_, rfl, q.1, k Hs H _ (.str _) Go.refl r (Val.mkP (Rp.str _) rfl) q.2⟩
  | [], [], _ => exact q.elim
  | _ :: _ :: _, _ :: _ :: _, _ => exact q.elim
def intD : DF := fun ds Q => match ds with
  | [d] => (match d with
    | .int i => Q (.int i)
    | .bool b => Q (.int (if b then 1 else 0))
    | _ => False)
  | _ => False
theorem caA_int : CaA C (fun xs H Q => (∃ i, xs = [.int i] ∧ Q (.int i) H) ∨ ∃ k, xs = [.bl k] ∧ Q (.int (if k then 1 else 0)) H) intD := by
  intro H0 S0 Hs σ H s vs ds Q Q' r hd q k
  match vs, ds, hd with
  | [v], [d], ⟨h, _⟩ =>
    cases d <;> first | exact q.elim | skip
    case int i => cases h; exact .inl ⟨i, rfl, k Hs H _ (.int i) Go.refl r (Val.mkP (Rp.int _) rfl) q⟩
    case bool b => cases h; exact .inr ⟨b, rfl, k Hs H _ (.int _) Go.refl r (Val.mkP (Rp.int _) rfl) q⟩
  | [], [], _ => exact q.elim
  | _ :: _ :: _, _ :: _ :: _, _ => exact q.elim
def minD : DF := fun ds Q => match ds with
  | [d, e] => (match d, e with
    | .int i, .int j => Q (.int (if j < i then j else i))
    | _, _ => False)
  | _ => False
def maxD : DF := fun ds Q => match ds with
  | [d, e] => (match d, e with
    | .int i, .int j => Q (.int (if j > i then j else i))
    | _, _ => False)
  | _ => False
theorem caA_min : CaA C (fun xs H Q => ∃ i j, xs = [.int i, .int j] ∧ Q (.int (if j < i then j else i)) H) minD := by
  intro H0 S0 Hs σ H s vs ds Q Q' r hd q k
  match vs, ds, hd with
  | [v, w], [d, e], ⟨h, h', _⟩ =>
    cases d <;> cases e <;> first | exact q.elim | skip
    cases h; cases h'
    exact ⟨_, _, rfl, k Hs H _ (.int _) Go.refl r (Val.mkP (Rp.int _) rfl) q⟩
  | [], [], _ => exact q.elim
  | [_], [_], _ => exact q.elim
  | _ :: _ :: _ :: _, _ :: _ :: _ :: _, _ => exact q.elim
theorem caA_max : CaA C (fun xs H Q => ∃ i j, xs = [.int i, .int j] ∧ Q (.int (if j > i then j else i)) H) maxD := by
  intro H0 S0 Hs σ H s vs ds Q Q' r hd q k
  match vs, ds, hd with
  | [v, w], [d, e], ⟨h, h', _⟩ =>
    cases d <;> cases e <;> first | exact q.elim | skip
    cases h; cases h'
    exact ⟨_, _, rfl, k Hs H _ (.int _) Go.refl r (Val.mkP (Rp.int _) rfl) q⟩
  | [], [], _ => exact q.elim
  | [_], [_], _ => exact q.elim
  | _ :: _ :: _ :: _, _ :: _ :: _ :: _, _ => exact q.elim
/-- lists of ints, of truths -/
def intsOf : List D → Option (List Int)
  | [] => some []
  | .int i :: r => (intsOf r).map (i :: ·)
  | _ :: _ => none
def boolsOf : List D → Option (List Bool)
  | [] => some []
  | .bool i :: r => (boolsOf r).map (i :: ·)
  | _ :: _ => none
theorem ints_rp {K : PySem.W.Frag} {H : Hp} : ∀ {xs : List V} {ds : List D} {ns : List Int}, RpAll K H xs ds → intsOf ds = some ns → xs = ns.map V.int
  | _, _, _, .nil, e => by cases e; rfl
  | _, _, _, .cons (d := d) (ds := ds) a b, e => by
    cases d <;> first | (exfalso; have e' : (none : Option (List Int)) = some _ := e; cases e'; done) | skip
    cases a
    simp only [intsOf, Option.map_eq_some_iff] at e
    obtain ⟨ms, e1, rfl⟩ := e
    rw [ints_rp b e1]
    rfl
theorem bools_rp {K : PySem.W.Frag} {H : Hp} : ∀ {xs : List V} {ds : List D} {ns : List Bool}, RpAll K H xs ds → boolsOf ds = some ns → xs = ns.map V.bl
  | _, _, _, .nil, e => by cases e; rfl
  | _, _, _, .cons (d := d) (ds := ds) a b, e => by
    cases d <;> first | (exfalso; have e' : (none : Option (List Bool)) = some _ := e; cases e'; done) | skip
    cases a
    simp only [boolsOf, Option.map_eq_some_iff] at e
    obtain ⟨ms, e1, rfl⟩ := e
    rw [bools_rp b e1]
    rfl
def sumD : DF := fun ds Q => match ds with
  | [d] => (match d with
    | .list xs => ∃ ns, intsOf xs = some ns ∧ Q (.int ns.sum)
    | _ => False)
  | _ => False
def allD : DF := fun ds Q => match ds with
  | [d] => (match d with
    | .list xs => ∃ ns, boolsOf xs = some ns ∧ Q (.bool (ns.all id))
    | _ => False)
  | _ => False
def anyD : DF := fun ds Q => match ds with
  | [d] => (match d with
    | .list xs => ∃ ns, boolsOf xs = some ns ∧ Q (.bool (ns.any id))
    | _ => False)
  | _ => False
theorem caA_sum : CaA C (rSum C.K) sumD := by
  intro H0 S0 Hs σ H s vs ds Q Q' r hd q k
  match vs, ds, hd with
  | [v], [d], ⟨h, _⟩ =>
    cases d <;> first | exact q.elim | skip
    obtain ⟨a, ys, rfl, e1, e2⟩ := Rd'.list h
    obtain ⟨ns, e3, q⟩ := q
    rw [ints_rp e2 e3] at e1
    exact ⟨a, ns, rfl, SqL.of e1, k Hs H _ (.int _) Go.refl r (Val.mkP (Rp.int _) rfl) q⟩
  | [], [], _ => exact q.elim
  | _ :: _ :: _, _ :: _ :: _, _ => exact q.elim
theorem caA_all : CaA C (rAll C.K) allD := by
  intro H0 S0 Hs σ H s vs ds Q Q' r hd q k
  match vs, ds, hd with
  | [v], [d], ⟨h, _⟩ =>
    cases d <;> first | exact q.elim | skip
    obtain ⟨a, ys, rfl, e1, e2⟩ := Rd'.list h
    obtain ⟨ns, e3, q⟩ := q
    rw [bools_rp e2 e3] at e1
    exact ⟨a, ns, rfl, SqL.of e1, k Hs H _ (.bool _) Go.refl r (Val.mkP (Rp.bl _) rfl) q⟩
  | [], [], _ => exact q.elim
  | _ :: _ :: _, _ :: _ :: _, _ => exact q.elim
theorem caA_any : CaA C (rAny C.K) anyD := by
  intro H0 S0 Hs σ H s vs ds Q Q' r hd q k
  match vs, ds, hd with
  | [v], [d], ⟨h, _⟩ =>
    cases d <;> first | exact q.elim | skip
    obtain ⟨a, ys, rfl, e1, e2⟩ := Rd'.list h
    obtain ⟨ns, e3, q⟩ := q
    rw [bools_rp e2 e3] at e1
    exact ⟨a, ns, rfl, SqL.of e1, k Hs H _ (.bool _) Go.refl r (Val.mkP (Rp.bl _) rfl) q⟩
  | [], [], _ => exact q.elim
  | _ :: _ :: _, _ :: _ :: _, _ => exact q.elim
/-! isinstance -/
theorem tyD_rd {K : PySem.W.Frag} {Hs H : Hp} {x : V} {d : D} (h : Rd' K Hs H x d) (sub : Same Hs H) : TyX K H x (.type (tyD d)) := by
  cases d with
  | list ds => obtain ⟨a, xs, rfl, e, _⟩ := Rd'.list h; exact .base (.lst e)
  | none => cases h; exact .base .non
  | bool b => cases h; exact .base (.bl b)
  | int b => cases h; exact .base (.int b)
  | str b => cases h; exact .base (.str b)
  | tuple b => cases h with | tup q a => exact tyX_tup (Same.sqT sub q.sq)
  | dict b =>
    obtain ⟨a, xs, rfl, e, _⟩ := Rd'.dict h
    rcases e with e | ⟨o, e⟩
    · exact .base (.dK e)
    · exact .fDict e
def dIsi (c : Cl) (a : DT) : DT := fun s Q => a s fun d s1 => Q (.bool (isB c d)) s1
theorem sim_isi (c : Cl) (h : Sim C ca te t) : Sim C .F (tCB (rIsi C.K) (tCons te (tCons (tC (.ty c.name)) tNil))) (dIsi c t) := by
  refine ⟨fun H0 S0 Hs σ H s Q Q' r q k => h.run H0 S0 Hs σ H s _ _ r q fun Hs1 H1 v d s1 g1 r1 v1 q1 => ?_⟩
  exact ⟨v, _, _, _, _, rfl, .ty _, tyD_rd (v1.rd r1.sub) r1.sub, kit_ty (kitB_nn c d), k Hs1 H1 _ (.bool _) s1 g1 r1 (Val.mkP (Rp.bl _) rfl) q1⟩
def dIsiM (c : Cl) (i : Nat) : DT := fun s Q => match s.δ[i]? with
  | some (some d) => Q (.bool (isB c d)) s
  | _ => False
theorem sim_isiM (c : Cl) (i : Nat) (hi : i ∈ C.M) : Sim C .F (tCB (rIsi C.K) (tCons (tVar i) (tCons (tC (.ty c.name)) tNil))) (dIsiM c i) := by
  refine ⟨fun H0 S0 Hs σ H s Q Q' r q k => ?_⟩
  unfold dIsiM at q
  split at q
  · rename_i d e
    obtain ⟨v, e1, rd⟩ := r.rdM hi e
    exact ⟨v, e1, v, _, _, _, _, rfl, .ty _, tyD_rd rd r.sub, kit_ty (kitB_nn c d), k Hs H _ (.bool _) s Go.refl r (Val.mkP (Rp.bl _) rfl) q⟩
  · exact q.elim
def isAny (cs : List Cl) (d : D) : Bool := cs.any fun c => isB c d
theorem kitAny_of {K : PySem.W.Frag} (d : D) : ∀ cs : List Cl, cs ≠ [] → PySem.W.kitAny K (.type (tyD d)) (cs.map fun c => Value.type c.name) = some (isAny cs d)
  | [], h => absurd rfl h
  | [c], _ => by
    refine kitAny_cons (kit_ty (kitB_nn c d)) (fun e => ?_) (fun e => ?_)
    · unfold isAny; rw [List.any_cons, e]; rfl
    · unfold isAny; rw [List.any_cons, e]; rfl
  | c :: c' :: cs, _ => by
    refine kitAny_cons (kit_ty (kitB_nn c d)) (fun e => ?_) (fun e => ?_)
    · unfold isAny; rw [List.any_cons, e, Bool.false_or]; exact kitAny_of d (c' :: cs) (by simp)
    · unfold isAny; rw [List.any_cons, e]; rfl
def dIsiT (cs : List Cl) (a : DT) : DT := fun s Q => a s fun d s1 => Q (.bool (isAny cs d)) s1
theorem clsV_all : ∀ cs : List Cl, Paired ClsV (cs.map fun c => V.ty c.name) (cs.map fun c => Value.type c.name)
  | [] => .nil
  | c :: cs => .cons (.ty _) (clsV_all cs)
theorem sim_isiT2 (c1 c2 : Cl) (h : Sim C ca te t) : Sim C .F (tCB (rIsiT C.K) (tCons te (tCons (tTup (tCons (tC (.ty c1.name)) (tCons (tC (.ty c2.name)) tNil))) tNil))) (dIsiT [c1, c2] t) := by
  refine ⟨fun H0 S0 Hs σ H s Q Q' r q k => h.run H0 S0 Hs σ H s _ _ r q fun Hs1 H1 v d s1 g1 r1 v1 q1 => ?_⟩
  refine ⟨by show 2 ≤ sizeLine; decide, fun p np => ?_⟩
  have r2 := r1.laid (o := .tup [.ty c1.name, .ty c2.name]) np
  have g2 : Go C σ Hs1 H1 Hs1 (upd H1 p (.tup [.ty c1.name, .ty c2.name])) := Go.laid np
  exact ⟨v, p, _, _, _, _, rfl, upd_same, clsV_all [c1, c2], tyD_rd ((v1.go r1 g2).rd r2.sub) r2.sub, kitAny_of d [c1, c2] (by simp), k Hs1 _ _ (.bool _) s1 (g1.trans g2) r2 (Val.mkP (Rp.bl _) rfl) q1⟩
end

/-! ### calls of defs -/
/-- a result: E it lies in the still part; F a list is new and outside of it -/
def RV (K : PySem.W.Frag) (H0 Hs H : Hp) : Cat → V → D → Prop
  | .E, v, d => Rp K Hs v d
  | .F, v, d => if isC d = true then ∃ a o, v = .ref a ∧ H a = some o ∧ Hs a = none ∧ H0 a = none ∧ Cn K Hs o d else Rp K Hs v d
def spN (K : PySem.W.Frag) (n : Nat) (cat : Cat) (F : DF) : Sp := fun vs H Q _ => ∃ Hs ds Q0, Same Hs H ∧ RpAll K Hs vs ds ∧ ds.length = n ∧ F ds Q0 ∧
  ∀ d Hs' H' v, Q0 d → Same Hs Hs' → Same Hs' H' → Same H H' → (∀ b, Hs b = none → Hs' b ≠ none → H b = none) → RV K H Hs' H' cat v d → Q v H'
abbrev DFP := List D → Nat → (D → Nat → Prop) → Prop
def spP (K : PySem.W.Frag) (n : Nat) (cat : Cat) (F : DFP) : Sp := fun vs H Q _ => ∃ Hs p c k vs' ds Q0, vs = .ref p :: vs' ∧ Pen H p c k ∧ Hs p = none ∧ Same Hs H ∧ RpAll K Hs vs' ds ∧ ds.length = n ∧ F ds k Q0 ∧
  ∀ d k' Hs' H' v, Q0 d k' → Same Hs Hs' → Same Hs' H' → But p H H' → (∀ b, Hs b = none → Hs' b ≠ none → H b = none) → Hs' p = none → Pen H' p c k' → RV K H Hs' H' cat v d → Q v H'
section
variable {C : Cf} {σ : L2.St} {H0 S0 Hs H Hs' H' : Hp} {s : S}
theorem none_of_new {b : Addr} {o : HO} (nw : ∀ b, Hs b = none → Hs' b ≠ none → H b = none) (h : Hs b = none) (e : H b = some o) : Hs' b = none := by
  cases q : Hs' b with
  | none => rfl
  | some x =>
    have := nw b h (by rw [q]; exact fun z => nomatch z)
    rw [e] at this; cases this
theorem R.step (r : R C H0 S0 Hs σ H s) (st : Same Hs Hs') (sb : Same Hs' H') (hh : Same H H') (nw : ∀ b, Hs b = none → Hs' b ≠ none → H b = none) : R C H0 S0 Hs' σ H' s ∧ Go C σ Hs H Hs' H' := by
  refine ⟨⟨r.len, sb, fun i d e m => ?_, fun i d e m => ?_, r.dead, r.sep, fun p c e => ?_, r.br, r.s0.trans st, fun b o n e => hh _ _ (r.h0 b o n e), fun b e1 e2 => ?_⟩, st, fun b o e _ _ => hh _ _ e, fun b o e => ⟨o, hh _ _ e⟩, nw⟩
  · obtain ⟨v, e1, e2⟩ := r.slot i d e m
    exact ⟨v, e1, Rp.mono st e2⟩
  · obtain ⟨a, u, e2, e3, e4, e5, e6⟩ := r.mt i d e m
    exact ⟨a, u, e2, hh _ _ e3, none_of_new nw e4 e3, e5.mono st, e6⟩
  · obtain ⟨e1, e2, e3, e4⟩ := r.pn p c e
    obtain ⟨_, e5⟩ := e2.at_
    exact ⟨e1, e2.mono st hh, none_of_new nw e3 e5, e4⟩
  · cases q : Hs b with
    | some o => exact r.new b e1 (by rw [q]; exact fun z => nomatch z)
    | none => exact (r.free0 (nw b q e2)).1
theorem R.stepP {p c : Addr} {k : Nat} {y : D} (r : R C H0 S0 Hs σ H s) (hp : C.pen = some (p, c)) (st : Same Hs Hs') (sb : Same Hs' H') (hh : But p H H') (nw : ∀ b, Hs b = none → Hs' b ≠ none → H b = none) (np : Hs' p = none) (pe : PenK C.K C.pk Hs' H' p c k y) :
    R C H0 S0 Hs' σ H' { s with n := k, h := y } ∧ Go C σ Hs H Hs' H' := by
  have ip : ∀ b, ¬ IsPen C b → b ≠ p := fun b h e => h (.inl ⟨c, by rw [e]; exact hp⟩)
  refine ⟨⟨r.len, sb, fun i d e m => ?_, fun i d e m => ?_, r.dead, r.sep, fun p' c' e => ?_, r.br, r.s0.trans st, fun b o n e => hh _ _ (ip b n) (r.h0 b o n e), fun b e1 e2 => ?_⟩, st, fun b o e _ n => hh _ _ (ip b n) e, fun b o e => ?_, nw⟩
  · obtain ⟨v, e1, e2⟩ := r.slot i d e m
    exact ⟨v, e1, Rp.mono st e2⟩
  · obtain ⟨a, u, e2, e3, e4, e5, e6⟩ := r.mt i d e m
    have nap : a ≠ p := fun z => by
      subst z
      rcases e6 with e6 | e6
      · exact (r.pn a c hp).2.2.2.1 e6
      · exact (r.pn a c hp).2.2.2.2.2.2.2.1 e6
    exact ⟨a, u, e2, hh _ _ nap e3, none_of_new nw e4 e3, e5.mono st, e6⟩
  · rw [hp] at e
    cases e
    obtain ⟨e1, e2, e3, e4⟩ := r.pn p c hp
    exact ⟨e1, pe, np, e4⟩
  · cases q : Hs b with
    | some o => exact r.new b e1 (by rw [q]; exact fun z => nomatch z)
    | none => exact (r.free0 (nw b q e2)).1
  · by_cases z : b = p
    · subst z
      exact pe.at_
    · exact ⟨o, hh _ _ z e⟩
theorem RV.val {cat : Cat} {v : V} {d : D} (h : RV C.K H Hs' H' cat v d) (r : R C H0 S0 Hs σ H s) : Val C H0 H Hs' σ H' cat v d := by
  cases cat with
  | E => exact h
  | F =>
    have h : (if isC d = true then ∃ a o, v = .ref a ∧ H' a = some o ∧ Hs' a = none ∧ H a = none ∧ Cn C.K Hs' o d else Rp C.K Hs' v d) := h
    cases e : isC d with
    | true =>
      rw [if_pos e] at h
      obtain ⟨a, o, rfl, e1, e2, e3, e4⟩ := h
      obtain ⟨f1, f2, f3, _⟩ := r.free0 e3
      exact Val.mkC ⟨o, e1, e2, f1, e3, e4, f3⟩
    | false =>
      rw [if_neg (by rw [e]; exact Bool.false_ne_true)] at h
      exact Val.mkP h e
def dCall (F : DF) (a : DA) : DT := fun s Q => a s fun ds s1 => F ds fun d => Q d s1
theorem sim_call {n : Nat} {cat : Cat} {F : DF} {ta : TA} {a : DA} (h : SimA C n ta a) : Sim C cat (tCall (spN C.K n cat F) [] E0 ta) (dCall F a) := by
  refine ⟨fun H0 S0 Hs σ H s Q Q' r q k => h.run H0 S0 Hs σ H s _ _ r q fun Hs1 H1 vs ds s1 g1 r1 v1 l1 q1 => ?_⟩
  rw [List.append_nil]
  refine ⟨Hs1, ds, _, r1.sub, v1, l1, q1, fun d Hs' H' v q2 st sb hh nw rv => ?_⟩
  obtain ⟨r2, g2⟩ := r1.step st sb hh nw
  exact k Hs' H' v d s1 (g1.trans g2) r2 ((rv.val r1).anew fun a e => g1.back a e) q2
def dCallP (F : DFP) (a : DA) : DT := fun s Q => a s fun ds s1 => F ds s1.n fun d k => Q d { s1 with n := k }
theorem sim_callP {n : Nat} {cat : Cat} {F : DFP} {ta : TA} {a : DA} {i : Nat} (hp : C.pen ≠ none) (hi : C.ps = i) (h : SimA C n ta a) (hk : C.pk = .draw := by rfl) : Sim C cat (tCall (spP C.K n cat F) [] E0 (tCons (tVar i) ta)) (dCallP F a) := by
  refine ⟨fun H0 S0 Hs σ H s Q Q' r q k => ?_⟩
  obtain ⟨⟨p, c⟩, ep⟩ : ∃ pc, C.pen = some pc := by
    cases e : C.pen with
    | none => exact absurd e hp
    | some pc => exact ⟨pc, rfl⟩
  subst hi
  refine ⟨.ref p, (r.pn p c ep).1, h.run H0 S0 Hs σ H s _ _ r q fun Hs1 H1 vs ds s1 g1 r1 v1 l1 q1 => ?_⟩
  show spP C.K n cat F ((V.ref p :: vs) ++ []) H1 Q' E0
  rw [List.append_nil]
  obtain ⟨e1, e2, e3, e4⟩ := r1.pn p c ep
  rw [hk] at e2
  refine ⟨Hs1, p, c, s1.n, vs, ds, _, rfl, e2, e3, r1.sub, v1, l1, q1, fun d k' Hs' H' v q2 st sb hh nw np pe rv => ?_⟩
  obtain ⟨r2, g2⟩ := r1.stepP (y := s1.h) ep st sb hh nw np (by rw [hk]; exact pe)
  exact k Hs' H' v d _ (g1.trans g2) r2 ((rv.val r1).anew fun a e => g1.back a e) q2
end
/-! ### slices -/
def rSlG (K : PySem.W.Frag) : V → Option Int → Option Int → Hp → VK → Prop := fun x lo hi H Q => rSlL K x lo hi H Q ∨ rSlZ K x lo hi H Q ∨ rSlS x lo hi H Q
theorem SlR.or {X : Cx} {r r' : V → Option Int → Option Int → Hp → VK → Prop} (h : SlR X r) (h' : SlR X r') : SlR X (fun x lo hi H Q => r x lo hi H Q ∨ r' x lo hi H Q) := by
  intro pins s σ H x v vl vu lo hi sl Q I rx hs pl pu q
  rcases q with q | q
  · exact h pins s σ H x v vl vu lo hi sl Q I rx hs pl pu q
  · exact h' pins s σ H x v vl vu lo hi sl Q I rx hs pl pu q
theorem slG {X : Cx} (K : PySem.W.Frag) (eK : X.K = K) : SlR X (rSlG K) := by
  subst eK
  exact SlR.or sl_list (SlR.or (sl_tupZ X.K rfl) sl_str)
abbrev DOp := S → (Option Int → S → Prop) → Prop
structure SimO (C : Cf) (t : L2.St → Hp → (Option Int → Hp → Prop) → Prop) (d : DOp) : Prop where
  run : ∀ (H0 S0 Hs : Hp) (σ : L2.St) (H : Hp) (s : S) (Q : Option Int → S → Prop) (Q' : Option Int → Hp → Prop), R C H0 S0 Hs σ H s → d s Q →
    (∀ Hs' H' o s', Go C σ Hs H Hs' H' → R C H0 S0 Hs' σ H' s' → Q o s' → Q' o H') → t σ H Q'
def cutD (xs : List D) (lo hi : Option Int) : List D := (xs.drop (HT.sIx xs.length 0 lo)).take (HT.sIx xs.length xs.length hi - HT.sIx xs.length 0 lo)
def slD (x : D) (lo hi : Option Int) (Q : D → Prop) : Prop := match x with
  | .list ds => Q (.list (cutD ds lo hi))
  | .tuple ds => Q (.tuple (cutD ds lo hi))
  | .str z => z.length ≤ sizeLine ∧ Q (.str (cutS z lo hi))
  | _ => False
section
variable {C : Cf} {te ta tb : TE} {t da db : DT} {ca cb : Cat}
def dNoPart : DOp := fun s Q => Q none s
def dPart (a : DT) : DOp := fun s Q => a s fun d s1 => match d with
  | .int i => Q (some i) s1
  | _ => False
theorem simO_none : SimO C tNoPart dNoPart := ⟨fun H0 S0 Hs σ H s Q Q' r q k => k Hs H none s Go.refl r q⟩
theorem Val.int' {H0 Hst Hs : Hp} {σ : L2.St} {H : Hp} {v : V} {b : Int} {cat : Cat} (h : Val C H0 Hst Hs σ H cat v (.int b)) : v = .int b := by
  cases cat with
  | E => cases (show Rp C.K Hs v (.int b) from h); rfl
  | F => cases h.p rfl; rfl
theorem simO_some (h : Sim C ca te t) : SimO C (tPart te) (dPart t) := by
  refine ⟨fun H0 S0 Hs σ H s Q Q' r q k => h.run H0 S0 Hs σ H s _ _ r q fun Hs1 H1 v d s1 g1 r1 v1 q1 => ?_⟩
  cases d <;> first | exact q1.elim | skip
  rename_i b
  cases v1.int'
  exact ⟨b, rfl, k Hs1 H1 _ s1 g1 r1 q1⟩
theorem RpAll.cut {K : PySem.W.Frag} {H : Hp} {xs : List V} {ds : List D} (h : RpAll K H xs ds) (lo hi : Option Int) : RpAll K H (cutV xs lo hi) (cutD ds lo hi) := by
  unfold cutV cutD
  rw [h.len]
  exact (h.drop _).take _
theorem sl_run {H0 S0 Hs : Hp} {σ : L2.St} {H : Hp} {s : S} {x : V} {dx : D} {lo hi : Option Int} {Q : D → Prop} {Q' : VK} (r : R C H0 S0 Hs σ H s) (hx : Rd' C.K Hs H x dx) (q : slD dx lo hi Q)
    (k : ∀ Hs' H' v d, Go C σ Hs H Hs' H' → R C H0 S0 Hs' σ H' s → Val C H0 H Hs' σ H' .F v d → Q d → Q' v H') : rSlG C.K x lo hi H Q' := by
  cases dx <;> first | exact q.elim | skip
  case list ds =>
    obtain ⟨a, xs, rfl, e1, e2⟩ := Rd'.list hx
    exact .inl ⟨a, xs, rfl, SqL.of e1, fun p np => k Hs _ _ (.list (cutD ds lo hi)) (Go.laid np) (r.laid np) (r.newList np (e2.cut lo hi)) q⟩
  case tuple ds =>
    cases hx with
    | @tup a xs _ e1 e2 =>
    refine .inr (.inl ⟨a, xs, rfl, Same.sqT r.sub e1.sq, fun z => ?_, fun z p o np hd => ?_⟩)
    · refine k Hs H _ (.tuple (cutD ds lo hi)) Go.refl r (Val.mkP ?_ rfl) q
      have : cutD ds lo hi = ds := by
        unfold cutD
        rw [← e2.len, z.1, z.2, List.drop_zero, Nat.sub_zero, e2.len, List.take_length]
      rw [this]
      exact Rp.tup e1 e2
    · obtain ⟨r', g'⟩ := r.newTup (o := .frz o (.tup (cutV xs lo hi))) np
      exact k _ _ _ (.tuple (cutD ds lo hi)) g' r' (Val.mkP (Rp.tup (TqT.of upd_same hd) (RpAll.mono g'.st (e2.cut lo hi))) rfl) q
  case str z =>
    cases hx
    exact .inr (.inr ⟨z, rfl, q.1, k Hs H _ (.str (cutS z lo hi)) Go.refl r (Val.mkP (Rp.str _) rfl) q.2⟩)
def dSl (a : DT) (l h : DOp) : DT := fun s Q => a s fun x s1 => l s1 fun lo s2 => h s2 fun hi s3 => slD x lo hi fun z => Q z s3
theorem sim_sl {tl th : L2.St → Hp → (Option Int → Hp → Prop) → Prop} {l h : DOp} (ha : Sim C ca ta da) (hl : SimO C tl l) (hh : SimO C th h) : Sim C .F (tSl (rSlG C.K) ta tl th) (dSl da l h) := by
  refine ⟨fun H0 S0 Hs σ H s Q Q' r q k => ha.run H0 S0 Hs σ H s _ _ r q fun Hs1 H1 x dx s1 g1 r1 v1 q1 => hl.run H0 S0 Hs1 σ H1 s1 _ _ r1 q1 fun Hs2 H2 lo s2 g2 r2 q2 => hh.run H0 S0 Hs2 σ H2 s2 _ _ r2 q2 fun Hs3 H3 hi s3 g3 r3 q3 => ?_⟩
  refine sl_run r3 (((v1.go r1 g2).go r2 g3).rd r3.sub) q3 fun Hs4 H4 v d g4 r4 v4 q4 => ?_
  exact k Hs4 H4 v d s3 (g1.trans (g2.trans (g3.trans g4))) r4 (v4.anew fun a e => (g1.trans (g2.trans g3)).back a e) q4
def dSlM (i : Nat) (l h : DOp) : DT := fun s Q => (∃ d, s.δ[i]? = some (some d)) ∧ l s fun lo s2 => h s2 fun hi s3 => match s3.δ[i]? with
  | some (some x) => slD x lo hi fun z => Q z s3
  | _ => False
theorem sim_slM {tl th : L2.St → Hp → (Option Int → Hp → Prop) → Prop} {l h : DOp} (i : Nat) (hi : i ∈ C.M) (hl : SimO C tl l) (hh : SimO C th h) : Sim C .F (tSl (rSlG C.K) (tVar i) tl th) (dSlM i l h) := by
  refine ⟨fun H0 S0 Hs σ H s Q Q' r q k => ?_⟩
  obtain ⟨⟨d, e⟩, q⟩ := q
  obtain ⟨v, e1, _⟩ := r.rdM hi e
  refine ⟨v, e1, hl.run H0 S0 Hs σ H s _ _ r q fun Hs2 H2 lo s2 g2 r2 q2 => hh.run H0 S0 Hs2 σ H2 s2 _ _ r2 q2 fun Hs3 H3 hi' s3 g3 r3 q3 => ?_⟩
  split at q3
  · rename_i x ex
    obtain ⟨v', e2, rd⟩ := r3.rdM hi ex
    rw [e1] at e2
    cases e2
    refine sl_run r3 rd q3 fun Hs4 H4 v d g4 r4 v4 q4 => ?_
    exact k Hs4 H4 v d s3 (g2.trans (g3.trans g4)) r4 (v4.anew fun a e => (g2.trans g3).back a e) q4
  · exact q3.elim
/-- xs[::-1] -/
def revD (x : D) (Q : D → Prop) : Prop := match x with
  | .list ds => Q (.list ds.reverse)
  | _ => False
def dRev (a : DT) : DT := fun s Q => a s fun x s1 => revD x fun z => Q z s1
theorem sim_rev (ha : Sim C ca ta da) : Sim C .F (tRevL C.K ta) (dRev da) := by
  refine ⟨fun H0 S0 Hs σ H s Q Q' r q k => ha.run H0 S0 Hs σ H s _ _ r q fun Hs1 H1 x dx s1 g1 r1 v1 q1 => ?_⟩
  have rd := v1.rd r1.sub
  cases dx <;> first | exact q1.elim | skip
  rename_i ds
  obtain ⟨a, xs, rfl, e1, e2⟩ := Rd'.list rd
  exact ⟨a, xs, rfl, SqL.of e1, fun p np => k Hs1 _ _ (.list ds.reverse) s1 (g1.trans (Go.laid np)) (r1.laid np) ((r1.newList np e2.rev).anew fun a e => g1.back a e) q1⟩
/-! ### lists of the def's own, changed in place -/
abbrev DM := List D → List D → (D → List D → Prop) → Prop
def MtA (C : Cf) (r : V → List V → Hp → VK → Prop) (f : DM) : Prop := ∀ (Hs H : Hp) (a : Addr) (xs : List V) (ds : List D) (vs : List V) (es : List D) (Q : D → List D → Prop) (Q' : VK), Same Hs H → H a = some (.lst xs) → RpAll C.K Hs xs ds → RpAll C.K Hs vs es → f ds es Q →
  (∀ v d xs' ds', RpAll C.K Hs xs' ds' → Rp C.K Hs v d → Q d ds' → Q' v (upd H a (.lst xs'))) → r (.ref a) vs H Q'
theorem R.upd {H0 S0 Hs : Hp} {σ : L2.St} {H : Hp} {s : S} {i : Nat} {a : Addr} {o' : HO} {d d' : D} (r : R C H0 S0 Hs σ H s) (hi : i ∈ C.M) (e : s.δ[i]? = some (some d)) (ea : σ[i]? = some (some (.ref a))) (h : Cn C.K Hs o' d') :
    R C H0 S0 Hs σ (L2.upd H a o') { s with δ := s.δ.set i (some d') } ∧ Go C σ Hs H Hs (L2.upd H a o') := by
  obtain ⟨a', u, e1, e2, e3, e4, e5⟩ := r.mt i d e hi
  rw [ea] at e1
  cases e1
  have il : i < s.δ.length := (List.getElem?_eq_some_iff.mp e).1
  have own : Own C σ a := ⟨i, hi, ea⟩
  have sm : ∀ b o, b ≠ a → H b = some o → L2.upd H a o' b = some o := fun b o n q => by rw [upd_ne n]; exact q
  refine ⟨⟨by simpa using r.len, fun b o q => ?_, fun j d' q m => ?_, fun j d' q m => ?_, fun j m q => ?_, r.sep, fun p c q => ?_, r.br, r.s0, fun b o n q => ?_, r.new⟩, Same.refl _, fun b o q n _ => ?_, fun b o q => ?_, fun _ h1 h2 => absurd h1 h2⟩
  · exact sm b o (fun z => by subst z; rw [e3] at q; cases q) (r.sub b o q)
  · have hj : j ≠ i := fun z => m (z ▸ hi)
    rw [List.getElem?_set_ne (Ne.symm hj)] at q
    exact r.slot j d' q m
  · by_cases hj : j = i
    · subst hj
      rw [List.getElem?_set_self il] at q
      cases q
      exact ⟨a, o', ea, upd_same, e3, h, e5⟩
    · rw [List.getElem?_set_ne (Ne.symm hj)] at q
      obtain ⟨b, w, f2, f3, f4⟩ := r.mt j d' q m
      refine ⟨b, w, f2, sm b _ (fun z => ?_) f3, f4⟩
      subst z
      exact hj (r.sep j i b m hi f2 ea)
  · by_cases hj : j = i
    · subst hj
      rw [List.getElem?_set_self il] at q
      cases q
    · rw [List.getElem?_set_ne (Ne.symm hj)] at q
      exact r.dead j m q
  · obtain ⟨f1, f2, f3, f4, f5, f6, f7, f8, f9⟩ := r.pn p c q
    refine ⟨f1, f2.but (q := a) (fun b o n q => sm b o n q) (fun z => ?_) (fun z => ?_), f3, f4, f5, ?_, f7, f8, f9⟩
    · subst z
      rcases e5 with e5 | e5
      · exact f4 e5
      · exact f8 e5
    · subst z
      rcases e5 with e5 | e5
      · exact f5 e5
      · exact f9 e5
    · rw [List.getElem?_set_ne (show i ≠ C.ps from fun z => f7 (by rw [← z]; exact hi))]
      exact f6
  · refine sm b o (fun z => ?_) (r.h0 b o n q)
    subst z
    rcases e5 with e5 | e5
    · rw [e5] at q; cases q
    · exact n (.inr e5)
  · exact sm b o (fun z => n (by rw [z]; exact own)) q
  · by_cases z : b = a
    · exact ⟨_, by rw [z]; exact upd_same⟩
    · exact ⟨o, sm b o z q⟩
def dMt (f : DM) (i : Nat) (a : DA) : DT := fun s Q => (∃ d, s.δ[i]? = some (some (.list d))) ∧ a s fun es s1 => match s1.δ[i]? with
  | some (some (.list ds)) => f ds es fun d ds' => Q d { s1 with δ := s1.δ.set i (some (.list ds')) }
  | _ => False
theorem R.mtL {H0 S0 Hs : Hp} {σ : L2.St} {H : Hp} {s : S} {i : Nat} {ds : List D} (r : R C H0 S0 Hs σ H s) (hi : i ∈ C.M) (e : s.δ[i]? = some (some (.list ds))) : ∃ a xs, σ[i]? = some (some (.ref a)) ∧ H a = some (.lst xs) := by
  obtain ⟨a, o, e1, e2, _, c, _⟩ := r.mt i _ e hi
  cases c
  exact ⟨a, _, e1, e2⟩
theorem sim_mt {n : Nat} {r : V → List V → Hp → VK → Prop} {f : DM} {ta : TA} {a : DA} (i : Nat) (hi : i ∈ C.M) (hf : MtA C r f) (ha : SimA C n ta a) : Sim C .E (tBM C.K "list" r (tVar i) ta) (dMt f i a) := by
  refine ⟨fun H0 S0 Hs σ H s Q Q' r0 q k => ?_⟩
  obtain ⟨⟨d, e⟩, q⟩ := q
  obtain ⟨b, xs, e1, e2⟩ := r0.mtL hi e
  refine ⟨_, e1, .inl ⟨rfl, xs, SqL.of e2⟩, ha.run H0 S0 Hs σ H s _ _ r0 q fun Hs1 H1 vs es s1 g1 r1 v1 _ q1 => ?_⟩
  split at q1
  · rename_i ds1 ex
    obtain ⟨b', o1, e4, e5, e6, e7, _⟩ := r1.mt i _ ex hi
    rw [e1] at e4
    cases e4
    cases e7
    rename_i xs1 e7
    refine hf Hs1 H1 b xs1 ds1 vs es _ _ r1.sub e5 e7 v1 q1 fun v d xs' ds' h1 h2 q2 => ?_
    obtain ⟨r2, g2⟩ := r1.upd hi ex e1 (.lst h1)
    exact k Hs1 _ v d _ (g1.trans g2) r2 h2 q2
  · exact q1.elim
theorem sim_mt0 {r : V → List V → Hp → VK → Prop} {f : DM} (i : Nat) (hi : i ∈ C.M) (hf : MtA C r f) : Sim C .E (tBM0 C.K "list" r (tVar i)) (dMt f i dNil) := by
  refine ⟨fun H0 S0 Hs σ H s Q Q' r0 q k => ?_⟩
  obtain ⟨⟨d, e⟩, q⟩ := q
  obtain ⟨b, o, e1, e2, e3, e4, _⟩ := r0.mt i _ e hi
  cases e4
  rename_i xs e4
  refine ⟨_, e1, .inl ⟨rfl, xs, SqL.of e2⟩, ?_⟩
  have q : (match s.δ[i]? with | some (some (.list ds)) => f ds [] fun d ds' => Q d { s with δ := s.δ.set i (some (.list ds')) } | _ => False) := q
  rw [e] at q
  refine hf Hs H b xs d [] [] _ _ r0.sub e2 e4 .nil q fun v d xs' ds' h1 h2 q2 => ?_
  obtain ⟨r2, g2⟩ := r0.upd hi e e1 (.lst h1)
  exact k Hs _ v d _ g2 r2 h2 q2
def appM : DM := fun ds es Q => match es with
  | [e] => ds.length < sizeLine ∧ Q .none (ds ++ [e])
  | _ => False
theorem mtA_app : MtA C rAppend appM := by
  intro Hs H a xs ds vs es Q Q' sub h1 h2 h3 q k
  match vs, es, h3 with
  | [v], [e], .cons h4 .nil => exact ⟨a, xs, v, rfl, rfl, h1, by rw [h2.len]; exact q.1, k _ .none _ _ (h2.app (.cons h4 .nil)) .non q.2⟩
  | [], [], _ => exact q.elim
  | _ :: _ :: _, _ :: _ :: _, _ => exact q.elim
def extM : DM := fun ds es Q => match es with
  | [e] => (match e with
    | .list zs => ds.length + zs.length ≤ sizeLine ∧ Q .none (ds ++ zs)
    | _ => False)
  | _ => False
theorem mtA_ext : MtA C rExtend extM := by
  intro Hs H a xs ds vs es Q Q' sub h1 h2 h3 q k
  match vs, es, h3 with
  | [v], [e], .cons h4 .nil =>
    cases e <;> first | exact q.elim | skip
    cases h4 with
    | @lst b zs _ h5 h6 => exact ⟨a, b, xs, zs, rfl, rfl, h1, sub _ _ h5, by rw [h2.len, h6.len]; exact q.1, k _ .none _ _ (h2.app h6) .non q.2⟩
  | [], [], _ => exact q.elim
  | _ :: _ :: _, _ :: _ :: _, _ => exact q.elim
theorem RpAll.eraseIdx {K : PySem.W.Frag} {H : Hp} : ∀ {xs : List V} {ds : List D} (n : Nat), RpAll K H xs ds → RpAll K H (xs.eraseIdx n) (ds.eraseIdx n)
  | _, _, _, .nil => by simp only [List.eraseIdx_nil]; exact .nil
  | _, _, 0, .cons a b => b
  | _, _, n + 1, .cons a b => .cons a (RpAll.eraseIdx n b)
theorem RpAll.dropLast {K : PySem.W.Frag} {H : Hp} {xs : List V} {ds : List D} (h : RpAll K H xs ds) : RpAll K H xs.dropLast ds.dropLast := by
  rw [List.dropLast_eq_take, List.dropLast_eq_take, h.len]
  exact h.take _
def popM : DM := fun ds es Q => match es with
  | [] => (match ds[ds.length - 1]? with | some d => Q d ds.dropLast | none => False)
  | _ => False
theorem mtA_pop : MtA C rPop popM := by
  intro Hs H a xs ds vs es Q Q' sub h1 h2 h3 q k
  match vs, es, h3 with
  | [], [], .nil =>
    simp only [popM] at q
    split at q
    · rename_i d e
      obtain ⟨x, e1, e2⟩ := h2.get e
      exact ⟨a, xs, x, rfl, rfl, h1, by rw [h2.len]; exact e1, k _ d _ _ h2.dropLast e2 q⟩
    · exact q.elim
  | _ :: _, _ :: _, _ => exact q.elim
def popAtM : DM := fun ds es Q => match es with
  | [e] => (match e with
    | .int i => (0 ≤ i ∧ i < 2 ^ 62) ∧ (match ds[i.toNat]? with | some d => Q d (ds.eraseIdx i.toNat) | none => False)
    | _ => False)
  | _ => False
theorem mtA_popAt : MtA C rPopAt popAtM := by
  intro Hs H a xs ds vs es Q Q' sub h1 h2 h3 q k
  match vs, es, h3 with
  | [v], [e], .cons h4 .nil =>
    cases e <;> first | exact q.elim | skip
    cases h4
    rename_i i
    obtain ⟨h0, q⟩ := q
    split at q
    · rename_i d e
      obtain ⟨x, e1, e2⟩ := h2.get e
      have hl : i.toNat < xs.length := (List.getElem?_eq_some_iff.mp e1).1
      exact ⟨a, xs, i, i.toNat, x, rfl, rfl, h1, by omega, by omega, seqIndex_of h0.1 (by omega), e1, k _ d _ _ (h2.eraseIdx _) e2 q⟩
    · exact q.elim
  | [], [], _ => exact q.elim
  | _ :: _ :: _, _ :: _ :: _, _ => exact q.elim
def clearM : DM := fun _ es Q => match es with
  | [] => Q .none []
  | _ => False
theorem mtA_clear : MtA C rClear clearM := by
  intro Hs H a xs ds vs es Q Q' sub h1 h2 h3 q k
  match vs, es, h3 with
  | [], [], .nil => exact ⟨a, xs, rfl, rfl, h1, k _ .none _ _ .nil .non q⟩
  | _ :: _, _ :: _, _ => exact q.elim
end

/-! ### statements -/
structure DEnds where
  nx : S → Prop
  rt : D → S → Prop
  bk : S → Prop := fun _ => False
  ct : S → Prop := fun _ => False
abbrev DSt := DEnds → S → Prop
structure Tr (C : Cf) (cat : Cat) (H0 S0 : Hp) (E : DEnds) (D' : Ends) : Prop where
  nx : ∀ Hs σ H s, R C H0 S0 Hs σ H s → E.nx s → D'.nx σ H
  rt : ∀ Hs σ H s v d, R C H0 S0 Hs σ H s → RV C.K H0 Hs H cat v d → E.rt d s → D'.rt v H
  bk : ∀ Hs σ H s, R C H0 S0 Hs σ H s → E.bk s → D'.bk σ H
  ct : ∀ Hs σ H s, R C H0 S0 Hs σ H s → E.ct s → D'.ct σ H
structure SimS (C : Cf) (cat : Cat) (ts : TS) (t : DSt) : Prop where
  run : ∀ (H0 S0 Hs : Hp) (σ : L2.St) (H : Hp) (s : S) (E : DEnds) (D' : Ends), R C H0 S0 Hs σ H s → t E s → Tr C cat H0 S0 E D' → ts D' σ H
section
variable {C : Cf} {cat : Cat} {te ta tb : TE} {t da db : DT} {ca cb : Cat} {ts us : TS} {a b : DSt}
def dNext : DSt := fun E s => E.nx s
def dSeq (a b : DSt) : DSt := fun E s => a { E with nx := b E } s
theorem simS_next : SimS C cat tNext dNext := ⟨fun H0 S0 Hs σ H s E D' r q k => k.nx Hs σ H s r q⟩
theorem simS_seq (ha : SimS C cat ts a) (hb : SimS C cat us b) : SimS C cat (tSeq ts us) (dSeq a b) :=
  ⟨fun H0 S0 Hs σ H s E D' r q k => ha.run H0 S0 Hs σ H s _ _ r q ⟨fun Hs σ H s r q => hb.run H0 S0 Hs σ H s E D' r q k, k.rt, k.bk, k.ct⟩⟩
def dBreak : DSt := fun E s => E.bk s
def dCont : DSt := fun E s => E.ct s
theorem simS_break : SimS C cat tBreak dBreak := ⟨fun H0 S0 Hs σ H s E D' r q k => k.bk Hs σ H s r q⟩
theorem simS_cont : SimS C cat tCont dCont := ⟨fun H0 S0 Hs σ H s E D' r q k => k.ct Hs σ H s r q⟩
def dNever : DSt := fun _ _ => False
theorem simS_never : SimS C cat tNever dNever := ⟨fun H0 S0 Hs σ H s E D' r q k => q⟩
/-! stores -/
theorem R.setE {H0 S0 Hs : Hp} {σ : L2.St} {H : Hp} {s : S} {i : Nat} {v : V} {d : D} (r : R C H0 S0 Hs σ H s) (hi : i ∉ C.M) (hp : i ≠ C.ps) (h : Rp C.K Hs v d) : R C H0 S0 Hs (σ.set i (some v)) H { s with δ := s.δ.set i (some d) } := by
  have ne : ∀ j, j ∈ C.M → j ≠ i := fun j m z => hi (z ▸ m)
  refine ⟨by simpa using r.len, r.sub, fun j d' q m => ?_, fun j d' q m => ?_, fun j m q => ?_, fun j l x m1 m2 q1 q2 => ?_, fun p c q => ?_, fun b hb => ?_, r.s0, r.h0, r.new⟩
  · by_cases hj : j = i
    · subst hj
      have il : j < s.δ.length := by
        have := (List.getElem?_eq_some_iff.mp q).1
        simpa using this
      rw [List.getElem?_set_self il] at q
      cases q
      exact ⟨v, List.getElem?_set_self (by rw [r.len]; exact il), h⟩
    · rw [List.getElem?_set_ne (Ne.symm hj)] at q ⊢
      exact r.slot j d' q m
  · rw [List.getElem?_set_ne (Ne.symm (ne j m))] at q ⊢
    exact r.mt j d' q m
  · rw [List.getElem?_set_ne (Ne.symm (ne j m))] at q ⊢
    exact r.dead j m q
  · rw [List.getElem?_set_ne (Ne.symm (ne j m1))] at q1
    rw [List.getElem?_set_ne (Ne.symm (ne l m2))] at q2
    exact r.sep j l x m1 m2 q1 q2
  · obtain ⟨f1, f2, f3, f4, f5, f6, f7⟩ := r.pn p c q
    exact ⟨by rw [List.getElem?_set_ne hp]; exact f1, f2, f3, f4, f5, by rw [List.getElem?_set_ne hp]; exact f6, f7⟩
  · obtain ⟨⟨j, b1, b2, b3⟩, b4⟩ := r.br b hb
    exact ⟨⟨j, b1, b2, by rw [List.getElem?_set_ne (Ne.symm (ne j b2))]; exact b3⟩, b4⟩
theorem R.setM {H0 S0 Hs : Hp} {σ : L2.St} {H : Hp} {s : S} {i : Nat} {x : Addr} {d : D} {Hst : Hp} (r : R C H0 S0 Hs σ H s) (hi : i ∈ C.M) (hb : i ∉ C.bs) (f : Fresh C H0 Hst Hs σ H x d) :
    R C H0 S0 Hs (σ.set i (some (.ref x))) H { s with δ := s.δ.set i (some d) } := by
  obtain ⟨o, h1, h2, h3, _, h4, h5⟩ := f
  refine ⟨by simpa using r.len, r.sub, fun j d' q m => ?_, fun j d' q m => ?_, fun j m q => ?_, fun j l y m1 m2 q1 q2 => ?_, fun p c q => ?_, fun b hb' => ?_, r.s0, r.h0, r.new⟩
  · have hj : j ≠ i := fun z => m (z ▸ hi)
    rw [List.getElem?_set_ne (Ne.symm hj)] at q ⊢
    exact r.slot j d' q m
  · by_cases hj : j = i
    · subst hj
      have il : j < s.δ.length := by
        have := (List.getElem?_eq_some_iff.mp q).1
        simpa using this
      rw [List.getElem?_set_self il] at q
      cases q
      exact ⟨x, o, List.getElem?_set_self (by rw [r.len]; exact il), h1, h2, h4, .inl h3⟩
    · rw [List.getElem?_set_ne (Ne.symm hj)] at q ⊢
      exact r.mt j d' q m
  · by_cases hj : j = i
    · subst hj
      have il : j < s.δ.length := by
        have := (List.getElem?_eq_some_iff.mp q).1
        simpa using this
      rw [List.getElem?_set_self il] at q
      cases q
    · rw [List.getElem?_set_ne (Ne.symm hj)] at q ⊢
      exact r.dead j m q
  · by_cases hj : j = i
    · by_cases hl : l = i
      · rw [hj, hl]
      · subst hj
        have jl : j < σ.length := by
          have := (List.getElem?_eq_some_iff.mp q1).1
          simpa using this
        rw [List.getElem?_set_self jl] at q1
        cases q1
        rw [List.getElem?_set_ne (Ne.symm hl)] at q2
        exact absurd ⟨l, m2, q2⟩ h5
    · by_cases hl : l = i
      · subst hl
        have ll : l < σ.length := by
          have := (List.getElem?_eq_some_iff.mp q2).1
          simpa using this
        rw [List.getElem?_set_self ll] at q2
        cases q2
        rw [List.getElem?_set_ne (Ne.symm hj)] at q1
        exact absurd ⟨j, m1, q1⟩ h5
      · rw [List.getElem?_set_ne (Ne.symm hj)] at q1
        rw [List.getElem?_set_ne (Ne.symm hl)] at q2
        exact r.sep j l y m1 m2 q1 q2
  · obtain ⟨f1, f2, f3, f4, f5, f6, f7⟩ := r.pn p c q
    have hp : i ≠ C.ps := fun z => f7.1 (by rw [← z]; exact hi)
    exact ⟨by rw [List.getElem?_set_ne hp]; exact f1, f2, f3, f4, f5, by rw [List.getElem?_set_ne hp]; exact f6, f7⟩
  · obtain ⟨⟨j, b1, b2, b3⟩, b4⟩ := r.br b hb'
    exact ⟨⟨j, b1, b2, by rw [List.getElem?_set_ne (fun z => hb (by rw [z]; exact b1))]; exact b3⟩, b4⟩
def dSet (i : Nat) (a : DT) : DSt := fun E s => a s fun d s1 => E.nx { s1 with δ := s1.δ.set i (some d) }
theorem simS_set (i : Nat) (hi : i ∉ C.M) (hp : i ≠ C.ps) (h : Sim C ca te t) : SimS C cat (tAsg te (gName i)) (dSet i t) :=
  ⟨fun H0 S0 Hs σ H s E D' r q k => h.toE.run H0 S0 Hs σ H s _ _ r q fun Hs1 H1 v d s1 g1 r1 v1 q1 => k.nx Hs1 _ H1 _ (r1.setE hi hp v1) q1⟩
def dSetM (i : Nat) (a : DT) : DSt := fun E s => a s fun d s1 => isC d = true ∧ E.nx { s1 with δ := s1.δ.set i (some d) }
theorem simS_setM (i : Nat) (hi : i ∈ C.M) (hb : i ∉ C.bs) (h : Sim C .F te t) : SimS C cat (tAsg te (gName i)) (dSetM i t) := by
  refine ⟨fun H0 S0 Hs σ H s E D' r q k => h.run H0 S0 Hs σ H s _ _ r q fun Hs1 H1 v d s1 g1 r1 v1 q1 => ?_⟩
  obtain ⟨x, rfl, f⟩ := v1.c q1.1
  exact k.nx Hs1 _ H1 _ (r1.setM hi hb f) q1.2
def dDrop (a : DT) : DSt := fun E s => a s fun _ s1 => E.nx s1
theorem simS_drop (h : Sim C ca te t) : SimS C cat (tDrop te) (dDrop t) :=
  ⟨fun H0 S0 Hs σ H s E D' r q k => h.run H0 S0 Hs σ H s _ _ r q fun Hs1 H1 v d s1 g1 r1 v1 q1 => k.nx Hs1 _ H1 _ r1 q1⟩
def dRet (a : DT) : DSt := fun E s => a s fun d s1 => E.rt d s1
theorem simS_ret (h : Sim C cat te t) : SimS C cat (tRet te) (dRet t) := by
  refine ⟨fun H0 S0 Hs σ H s E D' r q k => h.run H0 S0 Hs σ H s _ _ r q fun Hs1 H1 v d s1 g1 r1 v1 q1 => k.rt Hs1 σ H1 s1 v d r1 ?_ q1⟩
  cases cat with
  | E => exact v1
  | F =>
    cases e : isC d with
    | true =>
      obtain ⟨x, rfl, o, h1, h2, h3, h4, h5, h6⟩ := v1.c e
      exact ifp e ⟨x, o, rfl, h1, h2, h3, h5⟩
    | false => exact ifn (by rw [e]; exact Bool.false_ne_true) (v1.p e)
/-- return of a list of the def's own -/
def dRetM (i : Nat) : DSt := fun E s => match s.δ[i]? with
  | some (some d) => E.rt d { s with δ := s.δ.set i none }
  | _ => False
theorem R.dropM {H0 S0 Hs : Hp} {σ : L2.St} {H : Hp} {s : S} {i : Nat} (r : R C H0 S0 Hs σ H s) (hi : i ∈ C.M) (hb : i ∉ C.bs) : R C H0 S0 Hs (σ.set i none) H { s with δ := s.δ.set i none } := by
  have ko : ∀ (j : Nat) (v : V), (σ.set i none)[j]? = some (some v) → j ≠ i ∧ σ[j]? = some (some v) := fun j v q => by
    by_cases hj : j = i
    · subst hj
      have jl : j < σ.length := by
        have := (List.getElem?_eq_some_iff.mp q).1
        simpa using this
      rw [List.getElem?_set_self jl] at q
      cases q
    · rw [List.getElem?_set_ne (Ne.symm hj)] at q
      exact ⟨hj, q⟩
  refine ⟨by simpa using r.len, r.sub, fun j d' q m => ?_, fun j d' q m => ?_, fun j m q => ?_, fun j l y m1 m2 q1 q2 => r.sep j l y m1 m2 (ko j _ q1).2 (ko l _ q2).2, fun p c q => ?_, fun b hb' => ?_, r.s0, r.h0, r.new⟩
  · have hj : j ≠ i := fun z => m (z ▸ hi)
    rw [List.getElem?_set_ne (Ne.symm hj)] at q ⊢
    exact r.slot j d' q m
  · by_cases hj : j = i
    · subst hj
      have il : j < s.δ.length := by
        have := (List.getElem?_eq_some_iff.mp q).1
        simpa using this
      rw [List.getElem?_set_self il] at q
      cases q
    · rw [List.getElem?_set_ne (Ne.symm hj)] at q ⊢
      exact r.mt j d' q m
  · by_cases hj : j = i
    · subst hj
      have il : j < s.δ.length := by
        have := (List.getElem?_eq_some_iff.mp q).1
        simpa using this
      exact List.getElem?_set_self (by rw [r.len]; exact il)
    · rw [List.getElem?_set_ne (Ne.symm hj)] at q ⊢
      exact r.dead j m q
  · obtain ⟨f1, f2, f3, f4, f5, f6, f7⟩ := r.pn p c q
    have hp : i ≠ C.ps := fun z => f7.1 (by rw [← z]; exact hi)
    exact ⟨by rw [List.getElem?_set_ne hp]; exact f1, f2, f3, f4, f5, by rw [List.getElem?_set_ne hp]; exact f6, f7⟩
  · obtain ⟨⟨j, b1, b2, b3⟩, b4⟩ := r.br b hb'
    exact ⟨⟨j, b1, b2, by rw [List.getElem?_set_ne (fun z => hb (by rw [z]; exact b1))]; exact b3⟩, b4⟩
theorem simS_retM (i : Nat) (hi : i ∈ C.M) (hb : i ∉ C.bs) : SimS C cat (tRet (tVar i)) (dRetM i) := by
  refine ⟨fun H0 S0 Hs σ H s E D' r q k => ?_⟩
  unfold dRetM at q
  split at q
  · rename_i d e
    obtain ⟨x, o, e1, e2, e3, e4, e5⟩ := r.mt i d e hi
    refine ⟨_, e1, ?_⟩
    have r' := r.dropM hi hb
    have e5 : H0 x = none := by
      rcases e5 with e5 | e5
      · exact e5
      · obtain ⟨⟨j, b1, b2, b3⟩, _⟩ := r.br x e5
        exact absurd (by rw [← r.sep j i x b2 hi b3 e1]; exact b1) hb
    cases cat with
    | F => exact k.rt Hs _ H _ _ d r' (ifp e4.is ⟨x, o, rfl, e2, e3, e5, e4⟩) q
    | E =>
      have no : ¬ Own C (σ.set i none) x := fun ⟨j, m, z⟩ => by
        by_cases hj : j = i
        · subst hj
          have jl : j < σ.length := by
            have := (List.getElem?_eq_some_iff.mp z).1
            simpa using this
          rw [List.getElem?_set_self jl] at z
          cases z
        · rw [List.getElem?_set_ne (Ne.symm hj)] at z
          exact hj (r.sep j i x m hi z e1)
      obtain ⟨Hs', _, r2, rp, _⟩ := r'.freeze (Hst := Hs) ⟨o, e2, e3, e5, e3, e4, no⟩
      exact k.rt Hs' _ H _ _ _ r2 rp q
  · exact q.elim
def dRetN : DSt := fun E s => E.rt .none s
theorem simS_retN : SimS C cat tRetN dRetN := by
  refine ⟨fun H0 S0 Hs σ H s E D' r q k => k.rt Hs σ H s .non .none r ?_ q⟩
  cases cat with
  | E => exact Rp.non
  | F => simp only [RV, isC, if_neg Bool.false_ne_true]; exact Rp.non
def dIfS (c : DB) (a b : DSt) : DSt := fun E s => c s fun k s1 => if k = true then a E s1 else b E s1
theorem simS_if {tt : TT} {c : DB} (hc : SimT C tt c) (ha : SimS C cat ts a) (hb : SimS C cat us b) : SimS C cat (tIfS tt ts us) (dIfS c a b) := by
  refine ⟨fun H0 S0 Hs σ H s E D' r q k => hc.run H0 S0 Hs σ H s _ _ r q fun Hs1 H1 c s1 g1 r1 q1 => ?_⟩
  cases c with
  | true => exact ifp rfl (ha.run H0 S0 Hs1 σ H1 s1 E D' r1 (by simpa using q1) k)
  | false => exact ifn Bool.false_ne_true (hb.run H0 S0 Hs1 σ H1 s1 E D' r1 (by simpa using q1) k)
/-! targets -/
structure SimG (C : Cf) (bw : Bool) (ts : List Nat) (g : TG) (t : D → S → (S → Prop) → Prop) : Prop where
  run : ∀ (H0 S0 Hs : Hp) (σ : L2.St) (H : Hp) (s : S) (v : V) (d : D) (Q : S → Prop) (Q' : L2.St → Hp → Prop), R C H0 S0 Hs σ H s → RqB bw C.K Hs v d → t d s Q →
    (∀ σ' s', R C H0 S0 Hs σ' H s' → σ'.length = σ.length → (∀ j, j ∉ ts → σ'[j]? = σ[j]?) → Q s' → Q' σ' H) → g v σ H Q'
structure SimGs (C : Cf) (ts : List Nat) (g : TGs) (t : List D → S → (S → Prop) → Prop) : Prop where
  run : ∀ (H0 S0 Hs : Hp) (σ : L2.St) (H : Hp) (s : S) (vs : List V) (ds : List D) (Q : S → Prop) (Q' : L2.St → Hp → Prop), R C H0 S0 Hs σ H s → RpAll C.K Hs vs ds → t ds s Q →
    (∀ σ' s', R C H0 S0 Hs σ' H s' → σ'.length = σ.length → (∀ j, j ∉ ts → σ'[j]? = σ[j]?) → Q s' → Q' σ' H) → g vs σ H Q'
def sName (i : Nat) : D → S → (S → Prop) → Prop := fun d s Q => Q { s with δ := s.δ.set i (some d) }
theorem simG_name (i : Nat) (hi : i ∉ C.M) (hp : i ≠ C.ps) : SimG C false [i] (gName i) (sName i) :=
  ⟨fun H0 S0 Hs σ H s v d Q Q' r h q k => k _ _ (r.setE hi hp h) (by simp) (fun j hj => List.getElem?_set_ne (fun z => hj (by simp [z]))) q⟩
def sNil : List D → S → (S → Prop) → Prop := fun ds s Q => match ds with
  | [] => Q s
  | _ => False
def sCons (a : D → S → (S → Prop) → Prop) (b : List D → S → (S → Prop) → Prop) : List D → S → (S → Prop) → Prop := fun ds s Q => match ds with
  | d :: r => a d s fun s1 => b r s1 Q
  | [] => False
theorem simGs_nil : SimGs C [] gNil sNil := by
  refine ⟨fun H0 S0 Hs σ H s vs ds Q Q' r h q k => ?_⟩
  cases h with
  | nil => exact ⟨rfl, k σ s r rfl (fun _ _ => rfl) q⟩
  | cons _ _ => exact q.elim
theorem simGs_cons {ts us : List Nat} {g : TG} {gs : TGs} {x : D → S → (S → Prop) → Prop} {y : List D → S → (S → Prop) → Prop} (h1 : SimG C false ts g x) (h2 : SimGs C us gs y) : SimGs C (ts ++ us) (gCons g gs) (sCons x y) := by
  refine ⟨fun H0 S0 Hs σ H s vs ds Q Q' r h q k => ?_⟩
  cases h with
  | nil => exact q.elim
  | cons a b =>
    refine ⟨_, _, rfl, h1.run H0 S0 Hs σ H s _ _ _ _ r a q fun σ1 s1 r1 l1 e1 q1 => h2.run H0 S0 Hs σ1 H s1 _ _ _ _ r1 b q1 fun σ2 s2 r2 l2 e2 q2 => ?_⟩
    refine k σ2 s2 r2 (l2.trans l1) (fun j hj => ?_) q2
    rw [List.mem_append, not_or] at hj
    rw [e2 j hj.2, e1 j hj.1]
def sTup (n : Nat) (a : List D → S → (S → Prop) → Prop) : D → S → (S → Prop) → Prop := fun d s Q => match d with
  | .tuple ds => ds.length = n ∧ a ds s Q
  | _ => False
theorem simG_tup {bw : Bool} {ts : List Nat} {n : Nat} {gs : TGs} {x : List D → S → (S → Prop) → Prop} (h : SimGs C ts gs x) : SimG C bw ts (gTup C.K n gs) (sTup n x) := by
  refine ⟨fun H0 S0 Hs σ H s v d Q Q' r hv q k => ?_⟩
  cases d <;> first | exact q.elim | skip
  obtain ⟨p, xs, rfl, e1, e2⟩ := hv.tup
  exact ⟨p, xs, rfl, Same.sqT r.sub e1, by rw [e2.len]; exact q.1, h.run H0 S0 Hs σ H s _ _ _ _ r e2 q.2 k⟩
def dAsgG (a : DT) (g : D → S → (S → Prop) → Prop) : DSt := fun E s => a s fun d s1 => g d s1 E.nx
theorem simS_asg {ts : List Nat} {g : TG} {x : D → S → (S → Prop) → Prop} (h : Sim C ca te t) (hg : SimG C false ts g x) : SimS C cat (tAsg te g) (dAsgG t x) :=
  ⟨fun H0 S0 Hs σ H s E D' r q k => h.toE.run H0 S0 Hs σ H s _ _ r q fun Hs1 H1 v d s1 g1 r1 v1 q1 => hg.run H0 S0 Hs1 σ H1 s1 v d _ _ r1 v1 q1 fun σ' s' r2 _ _ q2 => k.nx Hs1 σ' H1 s' r2 q2⟩
/-- a, b = x, y: both names at once -/
def dPar (i j : Nat) (a : DA) : DSt := fun E s => a s fun ds s1 => match ds with
  | [d, e] => E.nx { s1 with δ := (s1.δ.set i (some d)).set j (some e) }
  | _ => False
theorem simS_par {ta : TA} {a : DA} (i j : Nat) (hi : i ∉ C.M) (hj : j ∉ C.M) (pi : i ≠ C.ps) (pj : j ≠ C.ps) (h : SimA C 2 ta a) : SimS C cat (tPar i j ta) (dPar i j a) := by
  refine ⟨fun H0 S0 Hs σ H s E D' r q k => h.run H0 S0 Hs σ H s _ _ r q fun Hs1 H1 vs ds s1 g1 r1 v1 l1 q1 => ?_⟩
  match vs, ds, v1 with
  | [v, w], [d, e], .cons h1 (.cons h2 .nil) => exact ⟨v, w, rfl, k.nx Hs1 _ H1 _ ((r1.setE hi pi h1).setE hj pj h2) q1⟩
  | [], [], _ => exact q1.elim
  | [_], [_], _ => exact q1.elim
  | _ :: _ :: _ :: _, _ :: _ :: _ :: _, _ => exact q1.elim
/-- x op= e -/
def dAug (i : Nat) (f : DO) (a : DT) : DSt := fun E s => match s.δ[i]? with
  | some (some x) => a s fun y s1 => f x y fun z => E.nx { s1 with δ := s1.δ.set i (some z) }
  | _ => False
theorem simS_aug {r : R2} {f : DO} (i : Nat) (hi : i ∉ C.M) (hp : i ≠ C.ps) (ho : OpA C r f) (h : Sim C ca te t) : SimS C cat (tAug i te r) (dAug i f t) := by
  refine ⟨fun H0 S0 Hs σ H s E D' r0 q k => ?_⟩
  unfold dAug at q
  split at q
  · rename_i x e
    obtain ⟨v, e1, rp⟩ := r0.slot i x e hi
    refine ⟨v, e1, h.run H0 S0 Hs σ H s _ _ r0 q fun Hs1 H1 y dy s1 g1 r1 v1 q1 => ?_⟩
    refine ho H0 S0 Hs1 σ H1 s1 v y x dy _ _ r1 ((Rp.mono g1.st rp).rd r1.sub) (v1.rd r1.sub) q1 fun Hs2 H2 z dz g2 r2 v2 q2 => ?_
    cases ez : isC dz with
    | true =>
      obtain ⟨w, rfl, f⟩ := v2.c ez
      obtain ⟨Hs3, s3, r3, rp3, _⟩ := r2.freeze f
      exact k.nx Hs3 _ H2 _ (r3.setE hi hp rp3) q2
    | false => exact k.nx Hs2 _ H2 _ (r2.setE hi hp (v2.p ez)) q2
  · exact q.elim
/-- xs[i] = e, xs of the def's own -/
def dSetAt (i : Nat) (a j : DT) : DSt := fun E s => a s fun d s1 => (∃ z, s1.δ[i]? = some (some (.list z))) ∧ j s1 fun k s2 => match k with
  | .int n => (match s2.δ[i]? with
    | some (some (.list ds)) => (match ixN ds.length n with
      | some m => E.nx { s2 with δ := s2.δ.set i (some (.list (ds.set m d))) }
      | none => False)
    | _ => False)
  | _ => False
theorem simS_setAt (i : Nat) (hi : i ∈ C.M) (h : Sim C ca ta da) (hj : Sim C cb tb db) : SimS C cat (tAsg ta (gSub (tVar i) tb rSetL)) (dSetAt i da db) := by
  refine ⟨fun H0 S0 Hs σ H s E D' r q k => h.toE.run H0 S0 Hs σ H s _ _ r q fun Hs1 H1 v d s1 g1 r1 v1 q1 => ?_⟩
  obtain ⟨⟨z, ez⟩, q1⟩ := q1
  obtain ⟨x, xs, e1, _⟩ := r1.mtL hi ez
  refine ⟨_, e1, hj.run H0 S0 Hs1 σ H1 s1 _ _ r1 q1 fun Hs2 H2 w dk s2 g2 r2 v2 q2 => ?_⟩
  cases dk <;> first | exact q2.elim | skip
  rename_i n
  cases v2.int'
  have q2 : (match s2.δ[i]? with | some (some (.list ds)) => (match ixN ds.length n with | some m => E.nx { s2 with δ := s2.δ.set i (some (.list (ds.set m d))) } | none => False) | _ => False) := q2
  split at q2
  · rename_i ds2 e2
    split at q2
    · rename_i m em
      obtain ⟨x', o2, e4, e5, e6, e7, e8⟩ := r2.mt i _ e2 hi
      rw [e1] at e4
      cases e4
      cases e7
      rename_i xs2 e7
      obtain ⟨r3, _⟩ := r2.upd hi e2 e1 (.lst (e7.set m (Rp.mono g2.st v1)))
      exact ⟨x, xs2, n, m, rfl, rfl, e5, by rw [e7.len]; exact em, k.nx Hs2 _ _ _ r3 q2⟩
    · exact q2.elim
  · exact q2.elim
end

/-! ### what is walked -/
/-- J goes through the trees items, wherever Hs1 stays -/
def ItOk (bw : Bool) (C : Cf) (Hs1 : Hp) (J : It) (items : List D) : Prop := ∃ (G : Hp → Prop) (Y : Nat → Hp → V → Hp → Prop), Walk J items.length G Y ∧ (∀ H, Same Hs1 H → G H) ∧
  ∀ (i : Nat) (H : Hp) (x : V) (H2 : Hp) (H0 S0 Hs : Hp) (σ : L2.St) (s : S), i < items.length → R C H0 S0 Hs σ H s → Same Hs1 Hs → Y i H x H2 →
    ∃ Hs2 d, items[i]? = some d ∧ R C H0 S0 Hs2 σ H2 s ∧ RqB bw C.K Hs2 x d ∧ Go C σ Hs H Hs2 H2
abbrev DI := S → (List D → S → Prop) → Prop
structure SimI (C : Cf) (bw : Bool) (wi : TI) (t : DI) : Prop where
  run : ∀ (H0 S0 Hs : Hp) (σ : L2.St) (H : Hp) (s : S) (Q : List D → S → Prop) (Q' : It → Hp → Prop), R C H0 S0 Hs σ H s → t s Q →
    (∀ Hs' H' J items s', Go C σ Hs H Hs' H' → R C H0 S0 Hs' σ H' s' → ItOk bw C Hs' J items → Q items s' → Q' J H') → wi σ H Q'
section
variable {C : Cf} {cat : Cat} {te ta tb : TE} {t da db : DT} {ca cb : Cat} {ts us : TS} {a b : DSt}
theorem itOk_list {Hs1 : Hp} {x : Addr} {xs : List V} {ds : List D} (h : Hs1 x = some (.lst xs)) (hd : RpAll C.K Hs1 xs ds) : ItOk false C Hs1 (Itl C.K x) ds := by
  refine ⟨_, _, by rw [← hd.len]; exact walk_list (xs := xs), fun H e => SqL.of (e _ _ h), fun i H v H2 H0 S0 Hs σ s hi r e y => ?_⟩
  obtain ⟨rfl, y⟩ := y
  obtain ⟨d, e1, e2⟩ := hd.getV y
  exact ⟨Hs, d, e1, r, Rp.mono e e2, Go.refl⟩
theorem itOk_tup {Hs1 : Hp} {x : Addr} {xs : List V} {ds : List D} (h : SqT C.K Hs1 x xs) (hd : RpAll C.K Hs1 xs ds) : ItOk false C Hs1 (Itt C.K x) ds := by
  refine ⟨_, _, by rw [← hd.len]; exact walk_tup (xs := xs), fun H e => Same.sqT e h, fun i H v H2 H0 S0 Hs σ s hi r e y => ?_⟩
  obtain ⟨rfl, y⟩ := y
  obtain ⟨d, e1, e2⟩ := hd.getV y
  exact ⟨Hs, d, e1, r, Rp.mono e e2, Go.refl⟩
/-- a list -/
theorem simI_list (h : Sim C ca te t) : SimI C false (iList C.K te) (fun s Q => t s fun d s1 => match d with | .list ds => Q ds s1 | _ => False) := by
  refine ⟨fun H0 S0 Hs σ H s Q Q' r q k => h.toE.run H0 S0 Hs σ H s _ _ r q fun Hs1 H1 v d s1 g1 r1 v1 q1 => ?_⟩
  cases d <;> first | exact q1.elim | skip
  cases v1 with
  | @lst x xs _ e1 e2 => exact ⟨x, rfl, ⟨xs, SqL.of (r1.sub _ _ e1)⟩, k Hs1 H1 _ _ s1 g1 r1 (itOk_list e1 e2) q1⟩
theorem simI_tup (h : Sim C ca te t) : SimI C false (iTup C.K te) (fun s Q => t s fun d s1 => match d with | .tuple ds => Q ds s1 | _ => False) := by
  refine ⟨fun H0 S0 Hs σ H s Q Q' r q k => h.toE.run H0 S0 Hs σ H s _ _ r q fun Hs1 H1 v d s1 g1 r1 v1 q1 => ?_⟩
  cases d <;> first | exact q1.elim | skip
  cases v1 with
  | @tup x xs _ e1 e2 => exact ⟨x, rfl, ⟨xs, Same.sqT r1.sub e1.sq⟩, k Hs1 H1 _ _ s1 g1 r1 (itOk_tup e1.sq e2) q1⟩
/-- range -/
def rgD (lo : Int) (n : Nat) : List D := (List.range n).map fun i => .int (lo + (i : Nat))
theorem itOk_range {Hs1 : Hp} (lo : Int) (n : Nat) : ItOk false C Hs1 (Itr lo n) (rgD lo n) := by
  have hl : (rgD lo n).length = n := by unfold rgD; rw [List.length_map, List.length_range]
  refine ⟨_, _, by rw [hl]; exact walk_range, fun H e => True.intro, fun i H v H2 H0 S0 Hs σ s hi r e y => ?_⟩
  obtain ⟨rfl, rfl⟩ := y
  refine ⟨Hs, .int (lo + (i : Nat)), ?_, r, Rp.int _, Go.refl⟩
  unfold rgD
  rw [hl] at hi
  rw [List.getElem?_map, List.getElem?_range hi]
  rfl
def dRange1 (a : DT) : DI := fun s Q => a s fun d s1 => match d with
  | .int j => (-(2 ^ 62) ≤ j ∧ j < 2 ^ 62) ∧ Q (rgD 0 j.toNat) s1
  | _ => False
theorem simI_range1 (h : Sim C ca te t) : SimI C false (iRng1 (tCons te tNil)) (dRange1 t) := by
  refine ⟨fun H0 S0 Hs σ H s Q Q' r q k => h.run H0 S0 Hs σ H s _ _ r q fun Hs1 H1 v d s1 g1 r1 v1 q1 => ?_⟩
  cases d <;> first | exact q1.elim | skip
  rename_i j
  cases v1.int'
  exact ⟨j, rfl, q1.1.1, q1.1.2, k Hs1 H1 _ _ s1 g1 r1 (itOk_range 0 j.toNat) q1.2⟩
def dRange2 (a b : DT) : DI := fun s Q => a s fun d s1 => b s1 fun e s2 => match d, e with
  | .int i, .int j => (-(2 ^ 62) ≤ i ∧ i < 2 ^ 62 ∧ -(2 ^ 62) ≤ j ∧ j < 2 ^ 62) ∧ Q (rgD i (j - i).toNat) s2
  | _, _ => False
theorem simI_range2 (ha : Sim C ca ta da) (hb : Sim C cb tb db) : SimI C false (iRng2 (tCons ta (tCons tb tNil))) (dRange2 da db) := by
  refine ⟨fun H0 S0 Hs σ H s Q Q' r q k => ha.run H0 S0 Hs σ H s _ _ r q fun Hs1 H1 v d s1 g1 r1 v1 q1 => hb.run H0 S0 Hs1 σ H1 s1 _ _ r1 q1 fun Hs2 H2 w e s2 g2 r2 v2 q2 => ?_⟩
  cases d <;> cases e <;> first | exact q2.elim | skip
  rename_i i j
  cases v1.int'
  cases v2.int'
  exact ⟨i, j, rfl, q2.1, k Hs2 H2 _ _ s2 (g1.trans g2) r2 (itOk_range i (j - i).toNat) q2.2⟩
/-- pairs: enumerate, zip -/
def prD (xs ys : List D) : List D := (xs.zip ys).map fun p => .tuple [p.1, p.2]
theorem pair_it {H0 S0 Hs : Hp} {σ : L2.St} {H : Hp} {s : S} {T : Addr} {x y : V} {dx dy : D} (r : R C H0 S0 Hs σ H s) (n : H T = none) (hx : Rp C.K Hs x dx) (hy : Rp C.K Hs y dy) :
    ∃ Hs2, R C H0 S0 Hs2 σ (L2.upd H T (.tup [x, y])) s ∧ RqB true C.K Hs2 (.ref T) (.tuple [dx, dy]) ∧ Go C σ Hs H Hs2 (L2.upd H T (.tup [x, y])) := by
  obtain ⟨r', g'⟩ := r.newTup (o := .tup [x, y]) n
  exact ⟨_, r', .inr ⟨T, [x, y], [dx, dy], rfl, rfl, SqT.of upd_same, .cons (Rp.mono g'.st hx) (.cons (Rp.mono g'.st hy) .nil)⟩, g'⟩
def dEnum (a : DT) : DI := fun s Q => a s fun d s1 => match d with
  | .list ds => Q (prD (rgD 0 ds.length) ds) s1
  | _ => False
theorem enum_len (ds : List D) : (prD (rgD 0 ds.length) ds).length = ds.length := by
  unfold prD rgD
  rw [List.length_map, List.length_zip, List.length_map, List.length_range, Nat.min_self]
theorem enum_get {ds : List D} {i : Nat} {d : D} (h : ds[i]? = some d) : (prD (rgD 0 ds.length) ds)[i]? = some (.tuple [.int (i : Nat), d]) := by
  have hi : i < ds.length := (List.getElem?_eq_some_iff.mp h).1
  have h1 : (rgD 0 ds.length)[i]? = some (.int (0 + (i : Nat))) := by
    unfold rgD
    rw [List.getElem?_map, List.getElem?_range hi]
    rfl
  have h2 : ((rgD 0 ds.length).zip ds)[i]? = some (.int (0 + (i : Nat)), d) := List.getElem?_zip_eq_some.mpr ⟨h1, h⟩
  unfold prD
  rw [List.getElem?_map, h2]
  simp
theorem itOk_enum {Hs1 : Hp} {x : Addr} {xs : List V} {ds : List D} (h : Hs1 x = some (.lst xs)) (hd : RpAll C.K Hs1 xs ds) : ItOk true C Hs1 (Ite C.K x) (prD (rgD 0 ds.length) ds) := by
  refine ⟨_, _, by rw [enum_len, ← hd.len]; exact walk_enum (xs := xs), fun H e => SqL.of (e _ _ h), fun i H v H2 H0 S0 Hs σ s hi r e y => ?_⟩
  obtain ⟨T, x1, x2, rfl, nT, rfl, e1, e2⟩ := y
  cases e1
  obtain ⟨d, e3, e4⟩ := hd.getV e2
  obtain ⟨Hs2, r2, rp, g⟩ := pair_it r nT (Rp.int ((i : Nat) : Int)) (Rp.mono e e4)
  exact ⟨Hs2, _, enum_get e3, r2, rp, g⟩
theorem simI_enum (h : Sim C ca te t) : SimI C true (iEnum C.K (tCons te tNil)) (dEnum t) := by
  refine ⟨fun H0 S0 Hs σ H s Q Q' r q k => h.toE.run H0 S0 Hs σ H s _ _ r q fun Hs1 H1 v d s1 g1 r1 v1 q1 => ?_⟩
  cases d <;> first | exact q1.elim | skip
  cases v1 with
  | @lst x xs _ e1 e2 => exact ⟨x, xs, rfl, SqL.of (r1.sub _ _ e1), k Hs1 H1 _ _ s1 g1 r1 (itOk_enum e1 e2) q1⟩
def dZip (a b : DT) : DI := fun s Q => a s fun d s1 => b s1 fun e s2 => match d, e with
  | .list ds, .list es => Q (prD ds es) s2
  | .tuple ds, .tuple es => Q (prD ds es) s2
  | _, _ => False
theorem zip_len (ds es : List D) : (prD ds es).length = min ds.length es.length := by
  unfold prD
  rw [List.length_map, List.length_zip]
theorem zip_get {ds es : List D} {i : Nat} {d e : D} (h : ds[i]? = some d) (h' : es[i]? = some e) : (prD ds es)[i]? = some (.tuple [d, e]) := by
  have h2 : (ds.zip es)[i]? = some (d, e) := List.getElem?_zip_eq_some.mpr ⟨h, h'⟩
  unfold prD
  rw [List.getElem?_map, h2]
  rfl
theorem simI_zip (ha : Sim C ca ta da) (hb : Sim C cb tb db) : SimI C true (iZipA C.K (tCons ta (tCons tb tNil))) (dZip da db) := by
  refine ⟨fun H0 S0 Hs σ H s Q Q' r q k => ha.toE.run H0 S0 Hs σ H s _ _ r q fun Hs1 H1 v d s1 g1 r1 v1 q1 => hb.toE.run H0 S0 Hs1 σ H1 s1 _ _ r1 q1 fun Hs2 H2 w e s2 g2 r2 v2 q2 => ?_⟩
  cases d <;> cases e <;> first | exact q2.elim | skip
  case list.list ds es =>
    cases v1 with
    | @lst x xs _ e1 e2 =>
    cases v2 with
    | @lst y ys _ e3 e4 =>
    have e1' := g2.st _ _ e1
    have e2' := RpAll.mono g2.st e2
    refine ⟨x, y, xs, ys, rfl, .inl ⟨SqL.of (r2.sub _ _ e1'), SqL.of (r2.sub _ _ e3), k Hs2 H2 _ _ s2 (g1.trans g2) r2 ?_ q2⟩⟩
    refine ⟨_, _, walk_zip (K := C.K) (a := x) (b := y) (xs := xs) (ys := ys) (by rw [zip_len, e2.len, e4.len]), fun H e => ⟨SqL.of (e _ _ e1'), SqL.of (e _ _ e3)⟩, fun i H v H2 H0 S0 Hs σ s hi r e y => ?_⟩
    obtain ⟨T, x1, x2, rfl, nT, rfl, f1, f2⟩ := y
    obtain ⟨d, f3, f4⟩ := e2'.getV f1
    obtain ⟨d', f5, f6⟩ := e4.getV f2
    obtain ⟨Hs2, r2, rp, g⟩ := pair_it r nT (Rp.mono e f4) (Rp.mono e f6)
    exact ⟨Hs2, _, zip_get f3 f5, r2, rp, g⟩
  case tuple.tuple ds es =>
    cases v1 with
    | @tup x xs _ e1 e2 =>
    cases v2 with
    | @tup y ys _ e3 e4 =>
    have e1' := Same.sqT g2.st e1.sq
    have e2' := RpAll.mono g2.st e2
    refine ⟨x, y, xs, ys, rfl, .inr ⟨Same.sqT r2.sub e1', Same.sqT r2.sub e3.sq, k Hs2 H2 _ _ s2 (g1.trans g2) r2 ?_ q2⟩⟩
    refine ⟨_, _, walk_zipT (K := C.K) (a := x) (b := y) (xs := xs) (ys := ys) (by rw [zip_len, e2.len, e4.len]), fun H e => ⟨Same.sqT e e1', Same.sqT e e3.sq⟩, fun i H v H2 H0 S0 Hs σ s hi r e y => ?_⟩
    obtain ⟨T, x1, x2, rfl, nT, rfl, f1, f2⟩ := y
    obtain ⟨d, f3, f4⟩ := e2'.getV f1
    obtain ⟨d', f5, f6⟩ := e4.getV f2
    obtain ⟨Hs2, r2, rp, g⟩ := pair_it r nT (Rp.mono e f4) (Rp.mono e f6)
    exact ⟨Hs2, _, zip_get f3 f5, r2, rp, g⟩
/-- a text, sign by sign -/
def signs (z : Str) : List D := z.cps.toList.map fun c => .str ⟨#[c]⟩
def dStr (a : DT) : DI := fun s Q => a s fun d s1 => match d with
  | .str z => Q (signs z) s1
  | _ => False
theorem simI_str (h : Sim C ca te t) : SimI C false (iStr te) (dStr t) := by
  refine ⟨fun H0 S0 Hs σ H s Q Q' r q k => h.toE.run H0 S0 Hs σ H s _ _ r q fun Hs1 H1 v d s1 g1 r1 v1 q1 => ?_⟩
  cases d <;> first | exact q1.elim | skip
  rename_i z
  cases v1
  refine ⟨z, rfl, k Hs1 H1 _ _ s1 g1 r1 ?_ q1⟩
  have hl : (signs z).length = z.cps.size := by unfold signs; rw [List.length_map, Array.length_toList]
  refine ⟨_, _, by rw [hl]; exact walk_str, fun H e => True.intro, fun i H v H2 H0 S0 Hs σ s hi r e y => ?_⟩
  obtain ⟨rfl, c, e1, rfl⟩ := y
  refine ⟨Hs, .str ⟨#[c]⟩, ?_, r, Rp.str _, Go.refl⟩
  unfold signs
  rw [List.getElem?_map, Array.getElem?_toList, e1]
  rfl
/-! ### for, while -/
theorem R.base {H0 S0 Hs : Hp} {σ : L2.St} {H : Hp} {s : S} (r : R C H0 S0 Hs σ H s) : R C H0 Hs Hs σ H s :=
  ⟨r.len, r.sub, r.slot, r.mt, r.dead, r.sep, r.pn, r.br, Same.refl _, r.h0, fun _ h1 h2 => absurd h1 h2⟩
theorem R.back {H0 S0 Hs1 Hs : Hp} {σ1 σ : L2.St} {H1 H : Hp} {s1 s : S} (r1 : R C H0 S0 Hs1 σ1 H1 s1) (r : R C H0 Hs1 Hs σ H s) : R C H0 S0 Hs σ H s := by
  refine ⟨r.len, r.sub, r.slot, r.mt, r.dead, r.sep, r.pn, r.br, r1.s0.trans r.s0, r.h0, fun b e1 e2 => ?_⟩
  cases q : Hs1 b with
  | some o => exact r1.new b e1 (by rw [q]; exact fun z => nomatch z)
  | none => exact r.new b q e2
def forD (g : D → S → (S → Prop) → Prop) (b : DSt) (E : DEnds) : List D → S → Prop
  | [], s => E.nx s
  | d :: ds, s => g d s fun s1 => b { E with nx := forD g b E ds, ct := forD g b E ds, bk := E.nx } s1
def dFor (it : DI) (g : D → S → (S → Prop) → Prop) (b : DSt) : DSt := fun E s => it s fun items s1 => forD g b E items s1
theorem simS_for {bw : Bool} {wi : TI} {it : DI} {tl : List Nat} {g : TG} {x : D → S → (S → Prop) → Prop} (hi : SimI C bw wi it) (hg : SimG C bw tl g x) (hb : SimS C cat ts a) : SimS C cat (tFor wi g ts) (dFor it x a) := by
  refine ⟨fun H0 S0 Hs σ H s E D' r q k => hi.run H0 S0 Hs σ H s _ _ r q fun Hs1 H1 J items s1 g1 r1 io q1 => ?_⟩
  obtain ⟨G, Y, W, hG, hY⟩ := io
  refine for_it W (fun i σ H => ∃ Hs s, R C H0 Hs1 Hs σ H s ∧ forD x a E (items.drop i) s) ⟨Hs1, s1, r1.base, q1⟩ (fun i σ H _ ⟨Hs, s, r, _⟩ => hG H (r.s0.trans r.sub)) (fun i v σ H H' hi' ⟨Hs, s, r, q⟩ y => ?_) (fun σ H ⟨Hs, s, r, q⟩ => ?_)
  · obtain ⟨Hs2, d, e1, r2, rp, _⟩ := hY i H v H' H0 Hs1 Hs σ s hi' r r.s0 y
    rw [List.drop_eq_getElem_cons hi'] at q
    have ed : items[i] = d := by
      rw [List.getElem?_eq_getElem hi'] at e1
      exact Option.some.inj e1
    rw [ed] at q
    refine hg.run H0 Hs1 Hs2 σ H' s v d _ _ r2 rp q fun σ3 s3 r3 _ _ q3 => ?_
    refine hb.run H0 Hs1 Hs2 σ3 H' s3 _ _ r3 q3 ⟨fun Hs σ H s r q => ⟨Hs, s, r, q⟩, fun Hs σ H s v d r rv q => k.rt Hs σ H s v d (r1.back r) rv q, fun Hs σ H s r q => k.nx Hs σ H s (r1.back r) q, fun Hs σ H s r q => ⟨Hs, s, r, q⟩⟩
  · rw [List.drop_length] at q
    exact k.nx Hs σ H s (r1.back r) q
def dWhile (c : DB) (b : DSt) : DSt := fun E s => ∃ W : Nat → S → Prop, (∃ m, W m s) ∧ ∀ m s, W m s → c s fun k s1 => if k = true then b { E with nx := fun s' => ∃ m', m' < m ∧ W m' s', ct := fun s' => ∃ m', m' < m ∧ W m' s', bk := E.nx } s1 else E.nx s1
theorem simS_while {tt : TT} {c : DB} (hc : SimT C tt c) (hb : SimS C cat ts a) : SimS C cat (tWhile tt ts) (dWhile c a) := by
  refine ⟨fun H0 S0 Hs σ H s E D' r q k => ?_⟩
  obtain ⟨W, ⟨m0, w0⟩, turn⟩ := q
  refine ⟨fun m σ H => ∃ Hs s, R C H0 S0 Hs σ H s ∧ W m s, ⟨m0, Hs, s, r, w0⟩, fun m σ H ⟨Hs, s, r, w⟩ => ?_⟩
  refine hc.run H0 S0 Hs σ H s _ _ r (turn m s w) fun Hs1 H1 c s1 g1 r1 q1 => ?_
  cases c with
  | true =>
    refine ifp rfl ⟨fun σ' H' => ∃ m', m' < m ∧ ∃ Hs s, R C H0 S0 Hs σ' H' s ∧ W m' s, fun _ _ h => h, ?_⟩
    rw [if_pos rfl] at q1
    exact hb.run H0 S0 Hs1 σ H1 s1 _ _ r1 q1 ⟨fun Hs σ H s r ⟨m', h1, h2⟩ => ⟨m', h1, Hs, s, r, h2⟩, k.rt, k.nx, fun Hs σ H s r ⟨m', h1, h2⟩ => ⟨m', h1, Hs, s, r, h2⟩⟩
  | false => exact ifn Bool.false_ne_true (k.nx Hs1 σ H1 s1 r1 (by simpa using q1))
/-- a list or dict of the def's own goes into the still part from here on -/
theorem R.still {H0 S0 Hs : Hp} {σ : L2.St} {H : Hp} {s : S} {i : Nat} {M' : List Nat} (r : R C H0 S0 Hs σ H s) (hM : ∀ j, j ∈ C.M ↔ j = i ∨ j ∈ M') (hn : i ∉ M') (hb : i ∉ C.bs) : ∃ Hs', R { C with M := M' } H0 S0 Hs' σ H s := by
  have hi : i ∈ C.M := (hM i).mpr (.inl rfl)
  have br : ∀ b, b ∈ C.bor → (∃ j, j ∈ C.bs ∧ j ∈ M' ∧ σ[j]? = some (some (.ref b))) ∧ H0 b ≠ none := fun b hb' => by
    obtain ⟨⟨j, b1, b2, b3⟩, b4⟩ := r.br b hb'
    exact ⟨⟨j, b1, ((hM j).mp b2).resolve_left (fun z => hb (by rw [← z]; exact b1)), b3⟩, b4⟩
  by_cases hl : ∃ d, s.δ[i]? = some (some d)
  · obtain ⟨d, e⟩ := hl
    obtain ⟨x, u, e1, e2, e3, e4, e5⟩ := r.mt i d e hi
    have e5 : H0 x = none := by
      rcases e5 with e5 | e5
      · exact e5
      · obtain ⟨⟨j, b1, b2, b3⟩, _⟩ := r.br x e5
        exact absurd (by rw [← r.sep j i x b2 hi b3 e1]; exact b1) hb
    have sm : Same Hs (L2.upd Hs x u) := same_upd e3
    refine ⟨L2.upd Hs x u, r.len, fun b o q => ?_, fun j d' q m => ?_, fun j d' q m => ?_, fun j m q => r.dead j ((hM j).mpr (.inr m)) q, fun j l y m1 m2 => r.sep j l y ((hM j).mpr (.inr m1)) ((hM l).mpr (.inr m2)), fun p c q => ?_, br, r.s0.trans sm, r.h0, fun b q1 q2 => ?_⟩
    · by_cases z : b = x
      · subst z; rw [upd_same] at q; cases q; exact e2
      · rw [upd_ne z] at q; exact r.sub _ _ q
    · by_cases hj : j = i
      · subst hj
        rw [e] at q
        cases q
        exact ⟨_, e1, (e4.mono sm).rp upd_same⟩
      · obtain ⟨v, f1, f2⟩ := r.slot j d' q (fun z => ((hM j).mp z).elim hj m)
        exact ⟨v, f1, Rp.mono sm f2⟩
    · obtain ⟨y, w, f2, f3, f4, f5, f6⟩ := r.mt j d' q ((hM j).mpr (.inr m))
      refine ⟨y, w, f2, f3, ?_, f5.mono sm, f6⟩
      rw [upd_ne (fun z => by subst z; exact hn ((r.sep j i y ((hM j).mpr (.inr m)) hi f2 e1) ▸ m))]
      exact f4
    · obtain ⟨f1, f2, f3, f4, f5, f6, f7, f8⟩ := r.pn p c q
      refine ⟨f1, f2.mono sm (Same.refl _), ?_, f4, f5, f6, fun z => f7 ((hM _).mpr (.inr z)), f8⟩
      rw [upd_ne (fun z => f4 (by rw [z]; exact e5))]
      exact f3
    · by_cases z : b = x
      · subst z; exact e5
      · rw [upd_ne z] at q2; exact r.new b q1 q2
  · refine ⟨Hs, r.len, r.sub, fun j d' q m => ?_, fun j d' q m => r.mt j d' q ((hM j).mpr (.inr m)), fun j m q => r.dead j ((hM j).mpr (.inr m)) q, fun j l y m1 m2 => r.sep j l y ((hM j).mpr (.inr m1)) ((hM l).mpr (.inr m2)), fun p c q => ?_, br, r.s0, r.h0, r.new⟩
    · exact r.slot j d' q (fun z => ((hM j).mp z).elim (fun e => hl ⟨d', by rw [← e]; exact q⟩) m)
    · obtain ⟨f1, f2, f3, f4, f5, f6, f7, f8⟩ := r.pn p c q
      exact ⟨f1, f2, f3, f4, f5, f6, fun z => f7 ((hM _).mpr (.inr z)), f8⟩
end

/-! ### comprehensions -/
def wipeL (δ : List (Option D)) : List Nat → List (Option D)
  | [] => δ
  | v :: vs => (wipeL δ vs).set v none
def wipeS (s : S) (vs : List Nat) : S := { s with δ := wipeL s.δ vs }
theorem wipeL_length (δ : List (Option D)) : ∀ vs : List Nat, (wipeL δ vs).length = δ.length
  | [] => rfl
  | v :: vs => by unfold wipeL; rw [List.length_set, wipeL_length δ vs]
theorem wipeL_out {δ : List (Option D)} {i : Nat} : ∀ {vs : List Nat}, i ∉ vs → (wipeL δ vs)[i]? = δ[i]?
  | [], _ => rfl
  | v :: vs, h => by
    unfold wipeL
    rw [List.mem_cons, not_or] at h
    rw [List.getElem?_set_ne (Ne.symm h.1)]
    exact wipeL_out h.2
theorem wipeL_in {δ : List (Option D)} {i : Nat} : ∀ {vs : List Nat}, i ∈ vs → ∀ d, (wipeL δ vs)[i]? ≠ some (some d)
  | v :: vs, h, d => by
    unfold wipeL
    by_cases hv : v = i
    · subst hv
      intro q
      have il : v < (wipeL δ vs).length := by
        have := (List.getElem?_eq_some_iff.mp q).1
        simpa using this
      rw [List.getElem?_set_self il] at q
      cases q
    · rw [List.getElem?_set_ne hv]
      exact wipeL_in ((List.mem_cons.mp h).resolve_left (Ne.symm hv)) d
theorem wipe_eq {σ σ' : L2.St} {vs : List Nat} (hl : σ'.length = σ.length) (h : ∀ j, j ∉ vs → σ'[j]? = σ[j]?) : wipe σ' vs = wipe σ vs := by
  apply List.ext_getElem?
  intro i
  by_cases hi : i ∈ vs
  · have z : ∀ (τ : L2.St), i < τ.length → (wipe τ vs)[i]? = some none := fun τ ht => by
      have hl : i < (wipe τ vs).length := by rw [wipe_length]; exact ht
      rw [List.getElem?_eq_getElem hl]
      cases q : (wipe τ vs)[i] with
      | none => rfl
      | some v =>
        have := wipe_some (σ := τ) (vs := vs) (i := i) (x := v) (by rw [List.getElem?_eq_getElem hl, q])
        exact absurd hi this.2
    by_cases hx : i < σ.length
    · rw [z σ hx, z σ' (by rw [hl]; exact hx)]
    · rw [List.getElem?_eq_none (by rw [wipe_length, hl]; omega), List.getElem?_eq_none (by rw [wipe_length]; omega)]
  · rw [wipe_out hi, wipe_out hi]
    exact h i hi
section
variable {C : Cf} {cat : Cat} {te ta tb : TE} {t da db : DT} {ca cb : Cat}
theorem R.wipe {H0 S0 Hs : Hp} {σ : L2.St} {H : Hp} {s : S} {vs : List Nat} (r : R C H0 S0 Hs σ H s) (hM : ∀ v ∈ vs, v ∉ C.M) (hp : ∀ v ∈ vs, v ≠ C.ps) : R C H0 S0 Hs (L2.wipe σ vs) H (wipeS s vs) := by
  have out : ∀ j, j ∈ C.M → j ∉ vs := fun j m z => hM j z m
  have e1 : ∀ j, j ∉ vs → (wipeS s vs).δ[j]? = s.δ[j]? := fun j h => wipeL_out h
  refine ⟨by rw [wipe_length]; exact r.len.trans (wipeL_length s.δ vs).symm, r.sub, fun j d q m => ?_, fun j d q m => ?_, fun j m q => ?_, fun j l y m1 m2 q1 q2 => ?_, fun p c q => ?_, fun b hb => ?_, r.s0, r.h0, r.new⟩
  · by_cases hj : j ∈ vs
    · exact absurd q (wipeL_in hj d)
    · rw [e1 j hj] at q
      rw [wipe_out hj]
      exact r.slot j d q m
  · rw [e1 j (out j m)] at q
    rw [wipe_out (out j m)]
    exact r.mt j d q m
  · rw [e1 j (out j m)] at q
    rw [wipe_out (out j m)]
    exact r.dead j m q
  · rw [wipe_out (out j m1)] at q1
    rw [wipe_out (out l m2)] at q2
    exact r.sep j l y m1 m2 q1 q2
  · obtain ⟨f1, f2, f3, f4, f5, f6, f7⟩ := r.pn p c q
    have hn : C.ps ∉ vs := fun z => hp _ z rfl
    exact ⟨by rw [wipe_out hn]; exact f1, f2, f3, f4, f5, by rw [e1 _ hn]; exact f6, f7⟩
  · obtain ⟨⟨j, b1, b2, b3⟩, b4⟩ := r.br b hb
    exact ⟨⟨j, b1, b2, by rw [wipe_out (out j b2)]; exact b3⟩, b4⟩
theorem R.unwipe {H0 S0 Hs : Hp} {σ : L2.St} {H : Hp} {s : S} {vs : List Nat} (r : R C H0 S0 Hs (L2.wipe σ vs) H s) (hM : ∀ v ∈ vs, v ∉ C.M) (hp : ∀ v ∈ vs, v ≠ C.ps) (hn : ∀ v ∈ vs, ∀ d, s.δ[v]? ≠ some (some d)) : R C H0 S0 Hs σ H s := by
  have out : ∀ j, j ∈ C.M → j ∉ vs := fun j m z => hM j z m
  refine ⟨by rw [← wipe_length σ vs]; exact r.len, r.sub, fun j d q m => ?_, fun j d q m => ?_, fun j m q => ?_, fun j l y m1 m2 q1 q2 => ?_, fun p c q => ?_, fun b hb => ?_, r.s0, r.h0, r.new⟩
  · by_cases hj : j ∈ vs
    · exact absurd q (hn j hj d)
    · have := r.slot j d q m
      rw [wipe_out hj] at this
      exact this
  · have := r.mt j d q m
    rw [wipe_out (out j m)] at this
    exact this
  · have := r.dead j m q
    rw [wipe_out (out j m)] at this
    exact this
  · rw [← wipe_out (vs := vs) (out j m1)] at q1
    rw [← wipe_out (vs := vs) (out l m2)] at q2
    exact r.sep j l y m1 m2 q1 q2
  · obtain ⟨f1, f⟩ := r.pn p c q
    rw [wipe_out (fun z => hp _ z rfl)] at f1
    exact ⟨f1, f⟩
  · obtain ⟨⟨j, b1, b2, b3⟩, b4⟩ := r.br b hb
    rw [wipe_out (out j b2)] at b3
    exact ⟨⟨j, b1, b2, b3⟩, b4⟩
theorem Go.own {σ σ' : L2.St} {Hs H Hs' H' : Hp} (g : Go C σ Hs H Hs' H') (h : ∀ b, Own C σ b → Own C σ' b) : Go C σ' Hs H Hs' H' :=
  ⟨g.st, fun b o e n m => g.kp b o e (fun z => n (h b z)) m, g.th, g.nw⟩
theorem own_of {σ σ' : L2.St} {vs : List Nat} (hM : ∀ v ∈ vs, v ∉ C.M) (h : ∀ j, j ∉ vs → σ'[j]? = σ[j]?) : ∀ b, Own C σ' b → Own C σ b := fun b ⟨i, m, e⟩ => ⟨i, m, by rw [← h i (fun z => hM i z m)]; exact e⟩
theorem R.updF {H0 S0 Hs : Hp} {σ : L2.St} {H : Hp} {s : S} {x : Addr} {o : HO} (r : R C H0 S0 Hs σ H s) (h1 : Hs x = none) (h2 : H0 x = none) (h3 : ¬ Own C σ x) : R C H0 S0 Hs σ (L2.upd H x o) s := by
  have sm : ∀ b u, b ≠ x → H b = some u → L2.upd H x o b = some u := fun b u n q => by rw [upd_ne n]; exact q
  refine ⟨r.len, fun b u q => sm b u (fun z => by subst z; rw [h1] at q; cases q) (r.sub b u q), r.slot, fun j d q m => ?_, r.dead, r.sep, fun p c q => ?_, r.br, r.s0, fun b u n q => sm b u (fun z => by subst z; rw [h2] at q; cases q) (r.h0 b u n q), r.new⟩
  · obtain ⟨y, w, f2, f3, f4⟩ := r.mt j d q m
    exact ⟨y, w, f2, sm y _ (fun z => h3 ⟨j, m, by rw [← z]; exact f2⟩) f3, f4⟩
  · obtain ⟨f1, f2, f3, f4, f5, f6⟩ := r.pn p c q
    exact ⟨f1, f2.but (q := x) (fun b u n q => sm b u n q) (fun z => f4 (z ▸ h2)) (fun z => f5 (z ▸ h2)), f3, f4, f5, f6⟩
def lcD (g : D → S → (S → Prop) → Prop) (c : DB) (e : DT) (vs : List Nat) (Q : List D → S → Prop) : List D → List D → S → Prop
  | [], acc, s => Q acc s
  | d :: ds, acc, s => g d s fun s1 => c s1 fun k s2 => if k = true then e s2 fun y s3 => lcD g c e vs Q ds (acc ++ [y]) (wipeS s3 vs) else lcD g c e vs Q ds acc (wipeS s2 vs)
def dLc (it : DI) (g : D → S → (S → Prop) → Prop) (c : DB) (e : DT) (vs : List Nat) : DT := fun s Q => it s fun items s1 => items.length ≤ sizeLine ∧ lcD g c e vs (fun acc s2 => Q (.list acc) s2) items [] (wipeS s1 vs)
def dYes : DB := fun s Q => Q true s
theorem simT_yes : SimT C tYes dYes := ⟨fun H0 S0 Hs σ H s Q Q' r q k => k Hs H true s Go.refl r q⟩
theorem Go.updF {σ : L2.St} {Hs H Hs' H' : Hp} {x : Addr} {o : HO} (g : Go C σ Hs H Hs' H') (h : H x = none) : Go C σ Hs H Hs' (L2.upd H' x o) := by
  refine ⟨g.st, fun b u q n m => ?_, fun b u q => ?_, g.nw⟩
  · rw [upd_ne (ne_of_none q h)]
    exact g.kp b u q n m
  · obtain ⟨u', h'⟩ := g.th b u q
    exact ⟨u', by rw [upd_ne (ne_of_none q h)]; exact h'⟩
theorem sim_lc {bw : Bool} {wi : TI} {it : DI} {tl vs : List Nat} {g : TG} {x : D → S → (S → Prop) → Prop} {tt : TT} {c : DB} (hi : SimI C bw wi it) (hg : SimG C bw tl g x) (ht : SimT C tt c) (he : Sim C ca te t) (hv : ∀ j, j ∈ tl → j ∈ vs) (hM : ∀ v ∈ vs, v ∉ C.M) (hp : ∀ v ∈ vs, v ≠ C.ps) :
    Sim C .F (tLc wi g tt te vs) (dLc it x c t vs) := by
  refine ⟨fun H0 S0 Hs σ H s Q Q' r q k => hi.run H0 S0 Hs σ H s _ _ r q fun Hs1 H1 J items s1 g1 r1 io q1 => fun L nL => ?_⟩
  obtain ⟨hz, q1⟩ := q1
  obtain ⟨G, Y, W, hG, hY⟩ := io
  obtain ⟨l0, l1, l2, l3⟩ := r1.free0 nL
  have ow : ∀ b, Own C (L2.wipe σ vs) b → Own C σ b := own_of hM fun j h => wipe_out h
  have lw : ¬ Own C (L2.wipe σ vs) L := fun z => l2 (ow L z)
  refine lc_it W (fun i H => ∃ Hs s accV accD, R C H0 Hs1 Hs (L2.wipe σ vs) H s ∧ H L = some (.lst accV) ∧ Hs L = none ∧ RpAll C.K Hs accV accD ∧ accD.length ≤ i ∧ Go C σ Hs1 H1 Hs H ∧ (∀ v ∈ vs, ∀ d, s.δ[v]? ≠ some (some d)) ∧ lcD x c t vs (fun acc s2 => Q (.list acc) s2) (items.drop i) accD s)
    ⟨Hs1, wipeS s1 vs, [], [], ((r1.laid nL).wipe hM hp).base, upd_same, l1, .nil, Nat.le_refl _, Go.laid nL, fun v m d => wipeL_in m d, q1⟩ (fun i H _ ⟨Hs, s, _, _, r, _⟩ => hG H (r.s0.trans r.sub)) (fun i v H H' hi' ⟨Hs, s, accV, accD, r, hL, hsL, ra, la, ga, _, q⟩ y => ?_) (fun H ⟨Hs, s, accV, accD, r, hL, hsL, ra, la, ga, hn, q⟩ => ?_)
  · obtain ⟨Hs2, d, e1, r2, rp, g2⟩ := hY i H v H' H0 Hs1 Hs (L2.wipe σ vs) s hi' r r.s0 y
    rw [List.drop_eq_getElem_cons hi'] at q
    have ed : items[i] = d := by
      rw [List.getElem?_eq_getElem hi'] at e1
      exact Option.some.inj e1
    rw [ed] at q
    have hL2 := g2.kp L _ hL lw l3
    have hsL2 := none_of_new g2.nw hsL hL
    refine hg.run H0 Hs1 Hs2 (L2.wipe σ vs) H' s v d _ _ r2 rp q fun σ3 s3 r3 len3 out3 q3 => ?_
    have out3' : ∀ j, j ∉ vs → σ3[j]? = σ[j]? := fun j h => (out3 j (fun z => h (hv j z))).trans (wipe_out h)
    have wq : L2.wipe σ3 vs = L2.wipe σ vs := wipe_eq (by rw [len3, wipe_length]) out3'
    have ow3 : ∀ b, Own C σ3 b → Own C σ b := own_of hM out3'
    have lw3 : ¬ Own C σ3 L := fun z => l2 (ow3 L z)
    refine ⟨wq, ht.run H0 Hs1 Hs2 σ3 H' s3 _ _ r3 q3 fun Hs4 H4 b4 s4 g4 r4 q4 => ?_⟩
    have hL4 := g4.kp L _ hL2 lw3 l3
    have hsL4 := none_of_new g4.nw hsL2 hL2
    have ga4 : Go C σ Hs1 H1 Hs4 H4 := ga.trans ((g2.own ow).trans (g4.own ow3))
    cases b4 with
    | true =>
      refine ifp rfl (he.toE.run H0 Hs1 Hs4 σ3 H4 s4 _ _ r4 (by simpa using q4) fun Hs5 H5 w dw s5 g5 r5 v5 q5 => ?_)
      have hL5 := g5.kp L _ hL4 lw3 l3
      have hsL5 := none_of_new g5.nw hsL4 hL4
      have ra5 := RpAll.mono (g2.st.trans (g4.st.trans g5.st)) ra
      refine ⟨accV, hL5, by rw [ra5.len]; omega, Hs5, wipeS s5 vs, _, accD ++ [dw], ?_, upd_same, hsL5, ra5.app (.cons v5 .nil), by rw [List.length_append]; show accD.length + 1 ≤ i + 1; omega, (ga4.trans (g5.own ow3)).updF nL, fun v m d => wipeL_in m d, q5⟩
      rw [← wq]
      exact (r5.updF hsL5 l0 lw3).wipe hM hp
    | false =>
      refine ifn Bool.false_ne_true ⟨Hs4, wipeS s4 vs, accV, accD, ?_, hL4, hsL4, RpAll.mono (g2.st.trans g4.st) ra, by omega, ga4, fun v m d => wipeL_in m d, by simpa using q4⟩
      rw [← wq]
      exact r4.wipe hM hp
  · rw [List.drop_length] at q
    refine k Hs H _ (.list accD) s (g1.trans ga) (r1.back (r.unwipe hM hp hn)) (Val.mkC ⟨_, hL, hsL, l0, g1.back L nL, .lst ra, l2⟩) q
end
theorem rvNon {K : PySem.W.Frag} {H0 Hs H : Hp} (cat : Cat) : RV K H0 Hs H cat .non .none := by
  cases cat with
  | E => exact Rp.non
  | F => simp only [RV, isC, if_neg Bool.false_ne_true]; exact Rp.non
/-! ### the end of a body: a list of the def's own may go into the still part -/
structure SimE (C : Cf) (cat : Cat) (ts : TS) (t : DSt) : Prop where
  run : ∀ (H0 S0 Hs : Hp) (σ : L2.St) (H : Hp) (s : S) (E : DEnds) (D' : Ends), R C H0 S0 Hs σ H s → t E s →
    (∀ M' Hs σ H s, R { C with M := M' } H0 S0 Hs σ H s → E.nx s → D'.nx σ H) → (∀ M' Hs σ H s v d, R { C with M := M' } H0 S0 Hs σ H s → RV C.K H0 Hs H cat v d → E.rt d s → D'.rt v H) →
    (∀ Hs σ H s, R C H0 S0 Hs σ H s → E.bk s → D'.bk σ H) → (∀ Hs σ H s, R C H0 S0 Hs σ H s → E.ct s → D'.ct σ H) → ts D' σ H
section
variable {C : Cf} {cat : Cat} {ts us : TS} {a b : DSt}
theorem SimS.e (h : SimS C cat ts a) : SimE C cat ts a :=
  ⟨fun H0 S0 Hs σ H s E D' r q k1 k2 k3 k4 => h.run H0 S0 Hs σ H s E D' r q ⟨fun Hs σ H s r q => k1 C.M Hs σ H s r q, fun Hs σ H s v d r rv q => k2 C.M Hs σ H s v d r rv q, k3, k4⟩⟩
theorem simE_seq (ha : SimS C cat ts a) (hb : SimE C cat us b) : SimE C cat (tSeq ts us) (dSeq a b) :=
  ⟨fun H0 S0 Hs σ H s E D' r q k1 k2 k3 k4 => ha.run H0 S0 Hs σ H s _ _ r q ⟨fun Hs σ H s r q => hb.run H0 S0 Hs σ H s E D' r q k1 k2 k3 k4, fun Hs σ H s v d r rv q => k2 C.M Hs σ H s v d r rv q, k3, k4⟩⟩
/-- from here on slot i is still; behind this no break or continue -/
theorem simE_still (i : Nat) (M' : List Nat) (hM : ∀ j, j ∈ C.M ↔ j = i ∨ j ∈ M') (hn : i ∉ M') (hb : i ∉ C.bs) (h : SimE { C with M := M' } cat us b) : SimE C cat us (fun E s => b { E with bk := fun _ => False, ct := fun _ => False } s) := by
  refine ⟨fun H0 S0 Hs σ H s E D' r q k1 k2 k3 k4 => ?_⟩
  obtain ⟨Hs', r'⟩ := r.still hM hn hb
  exact h.run H0 S0 Hs' σ H s _ D' r' q (fun M2 Hs σ H s r q => k1 M2 Hs σ H s r q) (fun M2 Hs σ H s v d r rv q => k2 M2 Hs σ H s v d r rv q) (fun _ _ _ _ _ z => z.elim) (fun _ _ _ _ _ z => z.elim)
end

/-! ### a def's promise from its body -/
def start' (n : Nat) (ds : List D) : List (Option D) := ds.map some ++ List.replicate (n - ds.length) none
section
variable {P : Program} {w : World} {K : PySem.W.Frag} {mg : Str → Option Value} {base : Heap}
theorem start_slot {vs : List V} {ds : List D} {H : Hp} (N : List Str) (h : RpAll K H vs ds) : (L2.start N vs).length = (start' N.length ds).length ∧ ∀ (i : Nat) (d : D), (start' N.length ds)[i]? = some (some d) → ∃ v, (L2.start N vs)[i]? = some (some v) ∧ Rp K H v d := by
  refine ⟨?_, fun i d e => ?_⟩
  · unfold L2.start start'
    rw [List.length_append, List.length_append, List.length_map, List.length_map, List.length_replicate, List.length_replicate, h.len]
  · unfold start' at e
    by_cases hi : i < ds.length
    · rw [List.getElem?_append_left (by simpa using hi), List.getElem?_map] at e
      cases q : ds[i]? with
      | none => rw [q] at e; cases e
      | some d' =>
        rw [q] at e
        cases e
        obtain ⟨v, e1, e2⟩ := h.get q
        refine ⟨v, ?_, e2⟩
        unfold L2.start
        rw [List.getElem?_append_left (by rw [List.length_map, h.len]; exact hi), List.getElem?_map, e1]
        rfl
    · rw [List.getElem?_append_right (by simpa using hi)] at e
      rw [List.getElem?_replicate] at e
      split at e
      · cases e
      · cases e
theorem start_none {vs : List V} (N : List Str) {i : Nat} (h1 : vs.length ≤ i) (h2 : i < N.length) : (L2.start N vs)[i]? = some none := by
  unfold L2.start
  rw [List.getElem?_append_right (by simpa using h1), List.getElem?_replicate, List.length_map, if_pos (by omega)]
/-- a def without a pen -/
theorem Fn.ofNE {x : Str} {st : Stmt} {f0 : Addr} {fd0 : FuncData} {N ps : List Str} {k n : Nat} {cat : Cat} {M : List Nat} {F : DF} (D' : Fun K x x st f0 fd0) (S' : FnScope N ps (defScope st)) (hn : ps.length = n) (hM : ∀ i ∈ M, n ≤ i ∧ i < N.length)
    (hbody : ∀ (f : Addr) (cdv : Value) (A : Around) (outer : List Env) (s : Shared) (H : Hp) (E : XK), Rm k (A.deeper (envOfC x (defScope st) s.heap.objs.size f cdv)) →
      ∃ t d, PSs (cxOf CX0 P w K mg base N x (defScope st) f cdv A outer s H E).nox (defBody st) t ∧ SimE { K := K, pen := none, ps := 1000, M := M } cat t d ∧ ∀ ds (Q : D → Prop), ds.length = n → F ds Q → d { nx := fun _ => Q .none, rt := fun z _ => Q z } { δ := start' N.length ds, n := 0 }) :
    FnG P w K mg base (k + 1) f0 fd0 ps (spN K n cat F) := by
  refine Fn.mk D' S' (fun vs H Q E h => ?_) (fun f cdv A outer s H vs Q E hr h => ?_)
  · obtain ⟨Hs, ds, Q0, _, h2, h3, _⟩ := h
    rw [h2.len, h3, hn]
  obtain ⟨Hs, ds, Q0, h1, h2, h3, h4, h5⟩ := h
  obtain ⟨t, d, ht, hs, hd⟩ := hbody f cdv A outer s H E hr
  refine ⟨t, ht, ?_⟩
  obtain ⟨sl, ss⟩ := start_slot N h2
  refine hs.run H Hs Hs (L2.start N vs) H _ { nx := fun _ => Q0 .none, rt := fun z _ => Q0 z } _ ?_ (hd ds Q0 h3 h4) (fun M' Hs' σ' H' s' r q => ?_) (fun M' Hs' σ' H' s' v dd r rv q => ?_) (fun _ _ _ _ _ q => q.elim) (fun _ _ _ _ _ q => q.elim)
  · refine ⟨sl, h1, fun i dd e m => ss i dd e, fun i dd e m => ?_, fun i m e => start_none N (by rw [h2.len, h3]; exact (hM i m).1) (hM i m).2, fun i j a m1 m2 e1 e2 => ?_, fun p c e => (nomatch e), fun b hb => (nomatch hb), Same.refl _, fun b o _ e => e, fun b e1 e2 => absurd e1 e2⟩
    · obtain ⟨v, e1, _⟩ := ss i dd e
      rw [start_none N (by rw [h2.len, h3]; exact (hM i m).1) (hM i m).2] at e1
      cases e1
    · rw [start_none N (by rw [h2.len, h3]; exact (hM i m1).1) (hM i m1).2] at e1
      cases e1
  · exact h5 .none Hs' H' .non q r.s0 r.sub (fun b o e => r.h0 b o (fun z => z.elim (fun ⟨_, z⟩ => nomatch z) (fun z => nomatch z)) e) r.new (rvNon cat)
  · exact h5 dd Hs' H' v q r.s0 r.sub (fun b o e => r.h0 b o (fun z => z.elim (fun ⟨_, z⟩ => nomatch z) (fun z => nomatch z)) e) r.new rv
theorem Ok.ofNE {x : Str} {st : Stmt} {N ps : List Str} {k n : Nat} {cat : Cat} {M : List Nat} {F : DF} (D' : Df K mg x st ps) (S' : FnScope N ps (defScope st)) (hn : ps.length = n) (hM : ∀ i ∈ M, n ≤ i ∧ i < N.length)
    (hbody : ∀ (f : Addr) (cdv : Value) (A : Around) (outer : List Env) (s : Shared) (H : Hp) (E : XK), Rm k (A.deeper (envOfC x (defScope st) s.heap.objs.size f cdv)) →
      ∃ t d, PSs (cxOf CX0 P w K mg base N x (defScope st) f cdv A outer s H E).nox (defBody st) t ∧ SimE { K := K, pen := none, ps := 1000, M := M } cat t d ∧ ∀ ds (Q : D → Prop), ds.length = n → F ds Q → d { nx := fun _ => Q .none, rt := fun z _ => Q z } { δ := start' N.length ds, n := 0 }) :
    Ok P w K mg base (k + 1) x ps (spN K n cat F) := by
  obtain ⟨f, fd, F', b, g⟩ := D'
  exact ⟨f, fd, g, F'.kp, b, Fn.ofNE F' S' hn hM hbody⟩
/-- the same, no list of its own goes still -/
theorem Ok.ofN {x : Str} {st : Stmt} {N ps : List Str} {k n : Nat} {cat : Cat} {M : List Nat} {F : DF} (D' : Df K mg x st ps) (S' : FnScope N ps (defScope st)) (hn : ps.length = n) (hM : ∀ i ∈ M, n ≤ i ∧ i < N.length)
    (hbody : ∀ (f : Addr) (cdv : Value) (A : Around) (outer : List Env) (s : Shared) (H : Hp) (E : XK), Rm k (A.deeper (envOfC x (defScope st) s.heap.objs.size f cdv)) →
      ∃ t d, PSs (cxOf CX0 P w K mg base N x (defScope st) f cdv A outer s H E).nox (defBody st) t ∧ SimS { K := K, pen := none, ps := 1000, M := M } cat t d ∧ ∀ ds (Q : D → Prop), ds.length = n → F ds Q → d { nx := fun _ => Q .none, rt := fun z _ => Q z } { δ := start' N.length ds, n := 0 }) :
    Ok P w K mg base (k + 1) x ps (spN K n cat F) := by
  exact Ok.ofNE D' S' hn hM fun f cdv A outer s H E hr => by
    obtain ⟨t, d, h1, h2, h3⟩ := hbody f cdv A outer s H E hr
    exact ⟨t, d, h1, h2.e, h3⟩
/-- a def with a pen, its first parameter -/
theorem Ok.ofPE {x : Str} {st : Stmt} {N ps : List Str} {k n : Nat} {cat : Cat} {M : List Nat} {F : DFP} (D' : Df K mg x st ps) (S' : FnScope N ps (defScope st)) (hn : ps.length = n + 1) (hM : ∀ i ∈ M, n + 1 ≤ i ∧ i < N.length) (hN : 0 < N.length)
    (hbody : ∀ (f : Addr) (cdv : Value) (A : Around) (outer : List Env) (s : Shared) (H : Hp) (E : XK) (p c : Addr), Rm k (A.deeper (envOfC x (defScope st) s.heap.objs.size f cdv)) →
      ∃ t d, PSs (cxOf CX0 P w K mg base N x (defScope st) f cdv A outer s H E).nox (defBody st) t ∧ SimE { K := K, pen := some (p, c), ps := 0, M := M } cat t d ∧ ∀ ds m (Q : D → Nat → Prop), ds.length = n → F ds m Q → d { nx := fun s => Q .none s.n, rt := fun z s => Q z s.n } { δ := none :: start' (N.length - 1) ds, n := m }) :
    Ok P w K mg base (k + 1) x ps (spP K n cat F) := by
  refine Ok.mk D' S' (fun vs H Q E h => ?_) (fun f cdv A outer s H vs Q E hr h => ?_)
  · obtain ⟨Hs, p, c, m, vs', ds, Q0, rfl, _, _, _, h2, h3, _⟩ := h
    rw [List.length_cons, h2.len, h3, hn]
  obtain ⟨Hs, p, c, m, vs', ds, Q0, rfl, pe, hsp, h1, h2, h3, h4, h5⟩ := h
  obtain ⟨t, d, ht, hs, hd⟩ := hbody f cdv A outer s H E p c hr
  refine ⟨t, ht, ?_⟩
  obtain ⟨N0, N', rfl⟩ : ∃ a b, N = a :: b := by
    cases N with
    | nil => exact absurd hN (by simp)
    | cons a b => exact ⟨a, b, rfl⟩
  obtain ⟨sl, ss⟩ := start_slot N' h2
  have es : L2.start (N0 :: N') (V.ref p :: vs') = some (.ref p) :: L2.start N' vs' := by
    unfold L2.start
    rw [List.map_cons, List.length_cons, List.length_cons, Nat.add_sub_add_right]
    rfl
  have en : (N0 :: N').length - 1 = N'.length := by rw [List.length_cons]; rfl
  rw [en] at hd
  have nn : ∀ i, i ∈ M → (some (V.ref p) :: L2.start N' vs')[i]? = some none := fun i m => by
    have := hM i m
    rw [List.length_cons] at this
    obtain ⟨j, rfl⟩ : ∃ j, i = j + 1 := ⟨i - 1, by omega⟩
    show (L2.start N' vs')[j]? = some none
    exact start_none N' (by rw [h2.len, h3]; omega) (by omega)
  obtain ⟨a0, r0, ep, _⟩ := pe.pen
  obtain ⟨ns, ec⟩ := pe.cells
  rw [es]
  refine hs.run H Hs Hs _ H _ { nx := fun s => Q0 .none s.n, rt := fun z s => Q0 z s.n } _ ?_ (hd ds m Q0 h3 h4) (fun M' Hs' σ' H' s' r q => ?_) (fun M' Hs' σ' H' s' v dd r rv q => ?_) (fun _ _ _ _ _ q => q.elim) (fun _ _ _ _ _ q => q.elim)
  · refine ⟨by rw [List.length_cons, sl]; rfl, h1, fun i dd e _ => ?_, fun i dd e m => ?_, fun i m e => nn i m, fun i j a m1 m2 e1 e2 => ?_, fun p' c' e => ?_, fun b hb => (nomatch hb), Same.refl _, fun b o _ e => e, fun b e1 e2 => absurd e1 e2⟩
    · cases i with
      | zero => cases e
      | succ j => exact ss j dd e
    · cases i with
      | zero => cases e
      | succ j =>
        obtain ⟨v, e1, _⟩ := ss j dd e
        have := nn (j + 1) m
        have : (L2.start N' vs')[j]? = some none := this
        rw [this] at e1
        cases e1
    · rw [nn i m1] at e1
      cases e1
    · cases e
      exact ⟨rfl, pe, hsp, (by rw [ep]; simp), (by rw [ec]; simp), rfl, fun z => absurd (hM 0 z).1 (by omega), fun z => (nomatch z), fun z => (nomatch z)⟩
  · have ip : ∀ b, ¬ IsPen { K := K, pen := some (p, c), ps := 0, M := M' } b ↔ b ≠ p := fun b => ⟨fun h e => h (.inl ⟨c, by rw [e]⟩), fun h z => z.elim (fun ⟨c', e⟩ => h (by cases e; rfl)) (fun z => nomatch z)⟩
    obtain ⟨f1, f2, f3, _⟩ := r.pn p c rfl
    exact h5 .none s'.n Hs' H' .non q r.s0 r.sub (fun b o nb e => r.h0 b o ((ip b).mpr nb) e) r.new f3 f2 (rvNon cat)
  · have ip : ∀ b, ¬ IsPen { K := K, pen := some (p, c), ps := 0, M := M' } b ↔ b ≠ p := fun b => ⟨fun h e => h (.inl ⟨c, by rw [e]⟩), fun h z => z.elim (fun ⟨c', e⟩ => h (by cases e; rfl)) (fun z => nomatch z)⟩
    obtain ⟨f1, f2, f3, _⟩ := r.pn p c rfl
    exact h5 dd s'.n Hs' H' v q r.s0 r.sub (fun b o nb e => r.h0 b o ((ip b).mpr nb) e) r.new f3 f2 rv
/-- the same, no list of its own goes still -/
theorem Ok.ofP {x : Str} {st : Stmt} {N ps : List Str} {k n : Nat} {cat : Cat} {M : List Nat} {F : DFP} (D' : Df K mg x st ps) (S' : FnScope N ps (defScope st)) (hn : ps.length = n + 1) (hM : ∀ i ∈ M, n + 1 ≤ i ∧ i < N.length) (hN : 0 < N.length)
    (hbody : ∀ (f : Addr) (cdv : Value) (A : Around) (outer : List Env) (s : Shared) (H : Hp) (E : XK) (p c : Addr), Rm k (A.deeper (envOfC x (defScope st) s.heap.objs.size f cdv)) →
      ∃ t d, PSs (cxOf CX0 P w K mg base N x (defScope st) f cdv A outer s H E).nox (defBody st) t ∧ SimS { K := K, pen := some (p, c), ps := 0, M := M } cat t d ∧ ∀ ds m (Q : D → Nat → Prop), ds.length = n → F ds m Q → d { nx := fun s => Q .none s.n, rt := fun z s => Q z s.n } { δ := none :: start' (N.length - 1) ds, n := m }) :
    Ok P w K mg base (k + 1) x ps (spP K n cat F) := by
  exact Ok.ofPE D' S' hn hM hN fun f cdv A outer s H E p c hr => by
    obtain ⟨t, d, h1, h2, h3⟩ := hbody f cdv A outer s H E p c hr
    exact ⟨t, d, h1, h2.e, h3⟩
/-- the draws -/
structure TakeP (m : Int) (n : Nat) (Q : D → Nat → Prop) : Prop where
  hn : n ≤ penLim
  h0 : 0 < m
  h1 : m.natAbs < 2 ^ 9000
  k : ∀ r : Int, 0 ≤ r → r < m → Q (.int r) (n + 1)
def takeF : DFP := fun ds n Q => match ds with
  | [d] => (match d with
    | .int m => TakeP m n Q
    | _ => False)
  | _ => False
theorem ok_takeP {k : Nat} (h : Ok P w K mg base k "_law_take" ["_law_pen", "_law_many"] spTake) : Ok P w K mg base k "_law_take" ["_law_pen", "_law_many"] (spP K 1 .E takeF) := by
  refine h.imp fun vs H Q E h => ?_
  obtain ⟨Hs, p, c, m, vs', ds, Q0, rfl, pe, hsp, h1, h2, h3, h4, h5⟩ := h
  match vs', ds, h2 with
  | [v], [d], .cons hd .nil =>
    cases d <;> first | exact h4.elim | skip
    cases hd
    rename_i i
    obtain ⟨e1, e2, e3, e4⟩ := h4
    refine ⟨p, c, m, i, rfl, pe, e1, e2, e3, fun r H' r0 r1 bt pe' => ?_⟩
    refine h5 (.int r) (m + 1) Hs H' _ (e4 r r0 r1) (Same.refl _) (fun b o e => bt b o (fun z => by subst z; rw [hsp] at e; cases e) (h1 b o e)) bt (fun b q1 q2 => absurd q1 q2) hsp pe' (Rp.int r)
  | [], [], _ => exact h4.elim
  | _ :: _ :: _, _ :: _ :: _, _ => exact absurd h3 (by simp)
end

/-! ### words for the printed terms -/
section
variable {C : Cf}
theorem nm {i : Nat} (h : C.M.contains i = false) : i ∉ C.M := fun z => by
  have := List.contains_iff_mem.mpr z
  rw [h] at this
  cases this
theorem ym {i : Nat} (h : C.M.contains i = true) : i ∈ C.M := List.contains_iff_mem.mp h
theorem np {i : Nat} (h : (i == C.ps) = false) : i ≠ C.ps := fun z => by
  rw [z] at h
  simp at h
theorem nmv {vs : List Nat} (h : (vs.all fun v => !C.M.contains v) = true) : ∀ v ∈ vs, v ∉ C.M := fun v m => nm (by
  have := List.all_eq_true.mp h v m
  simpa using this)
theorem npv {vs : List Nat} (h : (vs.all fun v => !(v == C.ps)) = true) : ∀ v ∈ vs, v ≠ C.ps := fun v m => np (by
  have := List.all_eq_true.mp h v m
  simpa using this)
theorem inv' {ts vs : List Nat} (h : (ts.all fun v => vs.contains v) = true) : ∀ j, j ∈ ts → j ∈ vs := fun j m => by
  have := List.all_eq_true.mp h j m
  exact List.contains_iff_mem.mp this
theorem u65 {A : Around} {k : Nat} (hr : Room k A) : A.units + 65 < cLine := by
  have := hr.un
  omega
theorem isiK {X : Cx} (K : PySem.W.Frag) (eK : X.K = K) : CallR X (.builtin "isinstance") (rIsi K) := eK ▸ call_isi
theorem isiTK {X : Cx} (K : PySem.W.Frag) (eK : X.K = K) : CallR X (.builtin "isinstance") (rIsiT K) := eK ▸ call_isiT
theorem sumK {X : Cx} (K : PySem.W.Frag) (eK : X.K = K) (hc : X.calm = true) : CallR X (.builtin "sum") (rSum K) := eK ▸ cr_sum hc
theorem allK {X : Cx} (K : PySem.W.Frag) (eK : X.K = K) (hc : X.calm = true) : CallR X (.builtin "all") (rAll K) := eK ▸ cr_all hc
theorem anyK {X : Cx} (K : PySem.W.Frag) (eK : X.K = K) (hc : X.calm = true) : CallR X (.builtin "any") (rAny K) := eK ▸ cr_any hc
/-- list(range(..)) -/
theorem rg_all {K : PySem.W.Frag} {H : Hp} (lo hi : Int) : RpAll K H (rgV lo hi) (rgD lo (hi - lo).toNat) := by
  unfold rgV rgD
  generalize (hi - lo).toNat = n
  have : ∀ l : List Nat, RpAll K H (l.map fun i => V.int (lo + (i : Nat))) (l.map fun i => (PyData.int (lo + (i : Nat)) : D)) := fun l => by
    induction l with
    | nil => exact .nil
    | cons x l ih => exact .cons (.int _) ih
  exact this _
def dListRg1 (a : DT) : DT := fun s Q => a s fun d s1 => match d with
  | .int n => RgOk 0 n ∧ Q (.list (rgD 0 n.toNat)) s1
  | _ => False
theorem sim_listRg1 {te : TE} {t : DT} {ca : Cat} (h : Sim C ca te t) : Sim C .F (tLstRg (tRg1 te)) (dListRg1 t) := by
  refine ⟨fun H0 S0 Hs σ H s Q Q' r q k => h.run H0 S0 Hs σ H s _ _ r q fun Hs1 H1 v d s1 g1 r1 v1 q1 => ?_⟩
  cases d <;> first | exact q1.elim | skip
  rename_i n
  cases v1.int'
  have e : (n - 0).toNat = n.toNat := by omega
  refine ⟨n, rfl, q1.1, fun p np => k Hs1 _ _ (.list (rgD 0 n.toNat)) s1 (g1.trans (Go.laid np)) (r1.laid np) ((r1.newList np ?_).anew fun a e => g1.back a e) q1.2⟩
  rw [← e]
  exact rg_all 0 n
def dListRg2 (a b : DT) : DT := fun s Q => a s fun d s1 => b s1 fun e s2 => match d, e with
  | .int m, .int n => RgOk m n ∧ Q (.list (rgD m (n - m).toNat)) s2
  | _, _ => False
theorem sim_listRg2 {ta tb : TE} {da db : DT} {ca cb : Cat} (ha : Sim C ca ta da) (hb : Sim C cb tb db) : Sim C .F (tLstRg (tRg2 ta tb)) (dListRg2 da db) := by
  refine ⟨fun H0 S0 Hs σ H s Q Q' r q k => ha.run H0 S0 Hs σ H s _ _ r q fun Hs1 H1 v d s1 g1 r1 v1 q1 => hb.run H0 S0 Hs1 σ H1 s1 _ _ r1 q1 fun Hs2 H2 w e s2 g2 r2 v2 q2 => ?_⟩
  cases d <;> cases e <;> first | exact q2.elim | skip
  rename_i m n
  cases v1.int'
  cases v2.int'
  exact ⟨m, n, rfl, rfl, q2.1, fun p np => k Hs2 _ _ (.list (rgD m (n - m).toNat)) s2 ((g1.trans g2).trans (Go.laid np)) (r2.laid np) ((r2.newList np (rg_all m n)).anew fun a e => (g1.trans g2).back a e) q2.2⟩
end

/-! ### more words -/
theorem boot_isi : bootBuiltins "isinstance" = some (.builtin "isinstance") := by decide +kernel
theorem boot_len : bootBuiltins "len" = some (.builtin "len") := by decide +kernel
theorem boot_tuple : bootBuiltins "tuple" = some (.type "tuple") := by decide +kernel
theorem boot_list : bootBuiltins "list" = some (.type "list") := by decide +kernel
theorem boot_str : bootBuiltins "str" = some (.type "str") := by decide +kernel
theorem boot_int : bootBuiltins "int" = some (.type "int") := by decide +kernel
theorem boot_bool : bootBuiltins "bool" = some (.type "bool") := by decide +kernel
theorem boot_dict : bootBuiltins "dict" = some (.type "dict") := by decide +kernel
theorem boot_min : bootBuiltins "min" = some (.builtin "min") := by decide +kernel
theorem boot_max : bootBuiltins "max" = some (.builtin "max") := by decide +kernel
theorem boot_sum : bootBuiltins "sum" = some (.builtin "sum") := by decide +kernel
theorem boot_all : bootBuiltins "all" = some (.builtin "all") := by decide +kernel
theorem boot_any : bootBuiltins "any" = some (.builtin "any") := by decide +kernel
section
variable {C : Cf} {te ta tb : TE} {t da db : DT} {ca cb : Cat}
theorem nb {i : Nat} (h : C.bs.contains i = false) : i ∉ C.bs := fun z => by
  have := List.contains_iff_mem.mpr z
  rw [h] at this
  cases this
def dNeg (a : DT) : DT := fun s Q => a s fun d s1 => match d with
  | .int i => Q (.int (-i)) s1
  | _ => False
theorem sim_neg (h : Sim C ca te t) : Sim C .F (tUn (rU fun i => .int (-i)) te) (dNeg t) := by
  refine ⟨fun H0 S0 Hs σ H s Q Q' r q k => h.run H0 S0 Hs σ H s _ _ r q fun Hs1 H1 v d s1 g1 r1 v1 q1 => ?_⟩
  cases d <;> first | exact q1.elim | skip
  rename_i i
  cases v1.int'
  exact ⟨i, rfl, k Hs1 H1 _ (.int (-i)) s1 g1 r1 (Val.mkP (Rp.int _) rfl) q1⟩
/-- sep.join(xs) -/
def rJoinQ (K : PySem.W.Frag) : V → List V → Hp → VK → Prop := fun x xs H Q => ∃ a p, ∃ ys : List Str, x = .str a ∧ xs = [.ref p] ∧ (SqL K H p (ys.map V.str) ∨ SqT K H p (ys.map V.str)) ∧
    (ys.map (·.length)).sum + ys.length * a.length ≤ 16777216 ∧ Q (.str (Txt.join a ys)) H
theorem joinK {X : Cx} (K : PySem.W.Frag) (eK : X.K = K) {o e : Expr} {to te : TE} {apos pos : Pos} (ho : PE X o to) (he : PE X e te) (hs : starEach [e] X.env = [(false, eval e X.env)] := by rfl) (hbase : attributeBase o "join" X.env (eval o X.env) = eval o X.env := by rfl) (hline : (apos.endLine == pos.line) = true := by rfl) :
    PE X (.Call (.Attribute o "join" apos) [e] [] pos) (tM1 (rJoinQ K) to te) := by
  subst eK
  exact pe_join ho he hs hbase hline
def strsOf : List D → Option (List Str)
  | [] => some []
  | .str i :: r => (strsOf r).map (i :: ·)
  | _ :: _ => none
theorem strs_rp {K : PySem.W.Frag} {H : Hp} : ∀ {xs : List V} {ds : List D} {ns : List Str}, RpAll K H xs ds → strsOf ds = some ns → xs = ns.map V.str
  | _, _, _, .nil, e => by cases e; rfl
  | _, _, _, .cons (d := d) (ds := ds) a b, e => by
    cases d <;> first | (exfalso; have e' : (none : Option (List Str)) = some _ := e; cases e'; done) | skip
    cases a
    simp only [strsOf, Option.map_eq_some_iff] at e
    obtain ⟨ms, e1, rfl⟩ := e
    rw [strs_rp b e1]
    rfl
def joinD (a : Str) (d : D) (Q : D → Prop) : Prop := match d with
  | .list xs => ∃ ys, strsOf xs = some ys ∧ (ys.map (·.length)).sum + ys.length * a.length ≤ 16777216 ∧ Q (.str (Txt.join a ys))
  | .tuple xs => ∃ ys, strsOf xs = some ys ∧ (ys.map (·.length)).sum + ys.length * a.length ≤ 16777216 ∧ Q (.str (Txt.join a ys))
  | _ => False
def dJoin (a b : DT) : DT := fun s Q => a s fun x s1 => match x with
  | .str z => b s1 fun y s2 => joinD z y fun w => Q w s2
  | _ => False
theorem sim_join (ha : Sim C ca ta da) (hb : Sim C cb tb db) : Sim C .F (tM1 (rJoinQ C.K) ta tb) (dJoin da db) := by
  refine ⟨fun H0 S0 Hs σ H s Q Q' r q k => ha.toE.run H0 S0 Hs σ H s _ _ r q fun Hs1 H1 v d s1 g1 r1 v1 q1 => ?_⟩
  cases d <;> first | exact q1.elim | skip
  rename_i z
  cases v1
  refine ⟨⟨z, rfl⟩, hb.run H0 S0 Hs1 σ H1 s1 _ _ r1 q1 fun Hs2 H2 w e s2 g2 r2 v2 q2 => ?_⟩
  have rd := v2.rd r2.sub
  cases e <;> first | exact q2.elim | skip
  case list xs =>
    obtain ⟨p, ys, rfl, e1, e2⟩ := Rd'.list rd
    obtain ⟨zs, e3, e4, q2⟩ := q2
    rw [strs_rp e2 e3] at e1
    exact ⟨z, p, zs, rfl, rfl, .inl (SqL.of e1), e4, k Hs2 H2 _ (.str _) s2 (g1.trans g2) r2 (Val.mkP (Rp.str _) rfl) q2⟩
  case tuple xs =>
    obtain ⟨zs, e3, e4, q2⟩ := q2
    cases (show Rp C.K Hs2 w (.tuple xs) from rd) with
    | @tup p ys _ e1 e2 =>
    rw [strs_rp e2 e3] at e1
    exact ⟨z, p, zs, rfl, rfl, .inr (Same.sqT r2.sub e1.sq), e4, k Hs2 H2 _ (.str _) s2 (g1.trans g2) r2 (Val.mkP (Rp.str _) rfl) q2⟩
theorem opA_iadd : OpA C (rI0 fun i j => .int (i + j)) (fun x y Q => match x, y with | .int i, .int j => Q (.int (i + j)) | _, _ => False) := by
  intro H0 S0 Hs σ H s x y dx dy Q Q' r hx hy q k
  cases dx <;> cases dy <;> first | exact q.elim | skip
  case int.int i j => cases hx; cases hy; exact ⟨i, j, rfl, rfl, k Hs H _ (.int (i + j)) Go.refl r (Val.mkP (Rp.int _) rfl) q⟩
end

/-! ### repr of a tree without dicts -/
def rRepr (K : PySem.W.Frag) : List V → Hp → VK → Prop := fun xs H Q => ∃ x d, xs = [x] ∧ Dp K H x d ∧ Sh d ∧ d.showable = true ∧ d.shown.length ≤ sizeLine ∧ Q (.str d.shown) H
theorem reprK {X : Cx} (K : PySem.W.Frag) (eK : X.K = K) (hg : X.A.guards = some []) (hu : X.A.units + 65 < cLine) : CallR X (.builtin "repr") (rRepr K) := by
  subst eK
  intro pins s σ H xs us Q I rv h
  obtain ⟨x, d, rfl, hd, sd, hw, hz, q⟩ := h
  obtain ⟨u, rfl, ru⟩ := vals1 rv
  obtain ⟨as, rd⟩ := Dp.reads I d x u hd ru
  have hs : d.canLay0 = true ∧ d.depth ≤ 64 := by
    have : (d.canLay0 && decide (d.depth ≤ 64)) = true := sd
    simpa using this
  have nd : d.hasDict = false := PyData.hasDict_of_canLay d hs.1
  have no : d.hasDict = true → sysModules ∉ as := fun z => by rw [nd] at z; cases z
  cases rd with
  | none => exact PySem.P.repr_of_none ⟨.str _, H, I.tok _, ⟨_, rfl⟩, q⟩
  | bool b => exact PySem.P.repr_of_bool ⟨.str _, H, I.tok _, ⟨_, rfl⟩, q⟩
  | int i t => exact PySem.P.repr_of_int (by simpa [PyData.showable] using hw) ⟨.str _, H, I.tok _, ⟨_, rfl⟩, q⟩
  | str z t => exact PySem.P.repr_of_str ⟨.str _, H, I.tok _, ⟨_, rfl⟩, q⟩ hz
  | list a b c r => exact repr_of_reads' (.list a b c r) hw no hg (by omega) (fun _ _ z => z) (fun h' t tk kp => ⟨.str _, H, I.kept kp, ⟨_, rfl⟩, q⟩) hz
  | tuple a b c r => exact repr_of_reads' (.tuple a b c r) hw no hg (by omega) (fun _ _ z => z) (fun h' t tk kp => ⟨.str _, H, I.kept kp, ⟨_, rfl⟩, q⟩) hz
  | dict a b c r1 r2 => exact absurd nd (by simp [PyData.hasDict])
def reprD : DF := fun ds Q => match ds with
  | [d] => Sh d ∧ d.showable = true ∧ d.shown.length ≤ sizeLine ∧ Q (.str d.shown)
  | _ => False
theorem caA_repr {C : Cf} : CaA C (rRepr C.K) reprD := by
  intro H0 S0 Hs σ H s vs ds Q Q' r hd q k
  match vs, ds, hd with
  | [v], [d], ⟨h, _⟩ => exact ⟨v, d, rfl, h.dp r.sub q.1, q.1, q.2.1, q.2.2.1, k Hs H _ (.str _) Go.refl r (Val.mkP (Rp.str _) rfl) q.2.2.2⟩
  | [], [], _ => exact q.elim
  | _ :: _ :: _, _ :: _ :: _, _ => exact q.elim

/-! ### own classes, globals -/
def Mt (K : PySem.W.Frag) (C : Addr) (m q : Str) (st : Stmt) (ps : List Str) : Prop := ∃ (f : Addr) (fd : FuncData), Fun K m q st f fd ∧ Binds K fd ps [] ∧ Meth K C m f
def OkM (P : Program) (w : World) (K : PySem.W.Frag) (mg : Str → Option Value) (base : Heap) (C : Addr) (k : Nat) (m : Str) (ps : List Str) (sp : Sp) : Prop :=
  ∃ (f : Addr) (fd : FuncData), Meth K C m f ∧ Binds K fd ps [] ∧ FnG P w K mg base k f fd ps sp
def Gv (mg : Str → Option Value) (x : Str) (v : V) : Prop := ∃ u, mg x = some u ∧ RelV v u
/-- a class as the top made it: its name, its __init__ -/
structure Kl (K : PySem.W.Frag) (mg : Str → Option Value) (C : Addr) (x q : Str) (st : Stmt) (ps : List Str) : Prop where
  cl : Cls K C
  g : mg x = some (.ref C)
  mks : PySem.W.makesIn K C = true
  kp : PySem.W.keepIn K (.ref C) = true
  init : Mt K C "__init__" q st ps
section
variable {P : Program} {w : World} {K : PySem.W.Frag} {mg : Str → Option Value} {base : Heap}
theorem OkM.mk {m q : Str} {C : Addr} {st : Stmt} {N ps : List Str} {k : Nat} {sp : Sp} (D : Mt K C m q st ps) (S : FnScope N ps (defScope st)) (len : ∀ vs H Q E, sp vs H Q E → vs.length = ps.length)
    (hbody : ∀ (f : Addr) (cdv : Value) (A : Around) (outer : List Env) (s : Shared) (H : Hp) (vs : List V) (Q : VK) (E : XK), Rm k (A.deeper (envOfC q (defScope st) s.heap.objs.size f cdv)) → sp vs H Q E →
      ∃ t, PSs (cxOf CX0 P w K mg base N q (defScope st) f cdv A outer s H E).nox (defBody st) t ∧ t { nx := fun _ H' => Q .non H', rt := Q } (start N vs) H) : OkM P w K mg base C (k + 1) m ps sp := by
  obtain ⟨f, fd, F, b, g⟩ := D
  exact ⟨f, fd, g, b, Fun.okG F S len fun cdv A outer s H vs Q E hr hg h => hbody f cdv A outer s H vs Q E ⟨hr, hg⟩ h⟩
theorem OkM.mono {C : Addr} {m : Str} {ps : List Str} {j k : Nat} {sp : Sp} (h : OkM P w K mg base C j m ps sp) (l : j ≤ k) : OkM P w K mg base C k m ps sp := by
  obtain ⟨f, fd, hm, hb, F⟩ := h
  exact ⟨f, fd, hm, hb, F.mono l⟩
end
section
variable {X : Cx}
theorem pe_mth {pl : Sem Bool} {C : Addr} {k : Nat} {m : Str} {ps : List Str} {sp : Sp} {o e : Expr} {es : List Expr} {ta : TE} {t : TA} {apos pos : Pos} (he : PE X o ta) (c : Cls X.K C) (O : OkM X.prog X.w X.K X.mg X.base C k m ps sp) (hr : Rm k X.A) (ha : PA X (e :: es) t)
    (hst : starEach (e :: es) X.env = (false, eval e X.env) :: starEach es X.env := by rfl) (hpl : (backTo pos (starEach es X.env)).any (·.1) = false := by rfl)
    (ht : eval (.Call (.Attribute o m apos) (e :: es) [] pos) X.env = (do
      let ov ← eval o X.env
      standAt apos.atName
      let (f, first) ← holding [ov] (getMethod ov m pl)
      callWith pos f first (backTo pos (starEach (e :: es) X.env)) (backToKw pos (keywordEach [] X.env))) := by rfl) :
    PE X (.Call (.Attribute o m apos) (e :: es) [] pos) (tMeth C m sp [] E0 ta t) := by
  obtain ⟨f, fd, hm, hb, F⟩ := O
  refine ⟨fun pins s σ H Q I h => PySem.W.methodCall_KW (pl := pl) (thn (he.run pins s σ H _ I h) fun u s1 ⟨y, H1, I1, ry, a, dx, fs, ey, ea, l, q⟩ => ?_) ht⟩
  subst ey
  obtain rfl : u = Value.ref a := ry
  exact getmeth_ok I1 ea c hm l (PySem.W.callWith_K (first := [.ref a]) (h₀ := X.base) I.ok.mod.kin hm.kp (thn (ha.run pos pins s1 σ H1 _ I1 q) fun us s2 ⟨vs, H2, I2, r, q2⟩ => ⟨I2.kIn, runG (us := .ref a :: us) (vs := .ref a :: vs) F hr.toRoom hr.gd hb I2 (.cons rfl r) (by have q3 : sp (V.ref a :: (vs ++ [])) H2 Q E0 := q2; rwa [List.append_nil] at q3)⟩) hst hpl)
theorem pe_mth0 {pl : Sem Bool} {C : Addr} {k : Nat} {m : Str} {ps : List Str} {sp : Sp} {o : Expr} {ta : TE} {apos pos : Pos} (he : PE X o ta) (c : Cls X.K C) (O : OkM X.prog X.w X.K X.mg X.base C k m ps sp) (hr : Rm k X.A)
    (ht : eval (.Call (.Attribute o m apos) [] [] pos) X.env = (do
      let ov ← eval o X.env
      standAt apos.atName
      let (f, first) ← holding [ov] (getMethod ov m pl)
      callWith pos f first (backTo pos (starEach [] X.env)) (backToKw pos (keywordEach [] X.env))) := by rfl) :
    PE X (.Call (.Attribute o m apos) [] [] pos) (tMeth C m sp [] E0 ta tNil) := by
  obtain ⟨f, fd, hm, hb, F⟩ := O
  refine ⟨fun pins s σ H Q I h => PySem.W.methodCall_KW (pl := pl) (thn (he.run pins s σ H _ I h) fun u s1 ⟨y, H1, I1, ry, a, dx, fs, ey, ea, l, q⟩ => ?_) ht⟩
  subst ey
  obtain rfl : u = Value.ref a := ry
  exact getmeth_ok I1 ea c hm l (PySem.W.callWith_K0 (first := [.ref a]) I1.kIn hm.kp (runG (us := [.ref a]) (vs := [.ref a]) F hr.toRoom hr.gd hb I1 (.cons rfl .nil) q))
theorem makeG {C : Addr} {k : Nat} {f : Addr} {fd : FuncData} {ps : List Str} {sp : Sp} {pins : List (Addr × Obj)} {σ : L2.St} {H : Hp} {s : Shared} {Q : VK} {us : List Value} {vs : List V} (M : Mk X.K C f) (F : FnG X.prog X.w X.K X.mg X.base k f fd ps sp) (hr : Room (k + 1) X.A) (hg : X.A.guards = some []) (hb : Binds X.K fd ps [])
    (I : Inv X pins σ H s) (rv : Vals vs us) (h : ∀ x dx, H x = none → H dx = none → dx ≠ x → sp (.ref x :: vs) (L2.upd (L2.upd H dx (.own x)) x (.ins C dx [])) (fun v H2 => v = .non ∧ Q (.ref x) H2) E0) :
    wpAny (model X.prog X.w) X.A (call (.ref C) us) (EP X pins σ Q) X.xe s := by
  have hq := h (s.heap.objs.size + 1) s.heap.objs.size (I.hok.fresh (Nat.le_succ _)) (I.hok.fresh (Nat.le_refl _)) (Nat.ne_of_lt (Nat.lt_succ_self _))
  have J := Inv.made (C := C) I
  have r2 : Vals (V.ref (s.heap.objs.size + 1) :: vs) (Value.ref (s.heap.objs.size + 1) :: us) := .cons rfl rv
  have hl : ((Value.ref (s.heap.objs.size + 1) :: us) ++ []).length = ps.length := by
    rw [List.append_nil, ← r2.length]
    exact F.len _ _ _ _ hq
  have b := hb _ (Value.ref (s.heap.objs.size + 1) :: us) J.kIn hl
  rw [List.append_nil] at b
  refine wpAny_call (make_map (f := f) I.kIn M.makes M.init (beq_iff_eq.mp M.fn) (codeAny_mono (F.run _ X.stack _ _ ⟨_, []⟩ _ _ _ E0 (hr.make C us []) (by
      have ng : (Code.builtin "type.__call__" ⟨Value.ref C :: us, []⟩).guards = [] := by first | rfl | (with_unfolding_all rfl) | (simp [Code.guards, Code.isGuard]; done)
      show pushGuards (Code.builtin "type.__call__" ⟨Value.ref C :: us, []⟩).guards X.A.guards = some []
      rw [ng]
      exact hg) (J.env0.make C us []) b r2 hq) fun r s' z => ?_))
  match r, z with
  | .ok (.ret u), z =>
    obtain ⟨v, H', I3, rv', ev, q3⟩ := J.after z
    subst ev
    exact ⟨rv', ⟨V.ref (s.heap.objs.size + 1), H', I3, rfl, q3⟩⟩
  | .ok .next, z => exact False.elim z
  | .ok .brk, z => exact False.elim z
  | .ok .cont, z => exact False.elim z
  | .error e, z => exact False.elim z
theorem pe_new {C : Addr} {k : Nat} {x q : Str} {st : Stmt} {ps : List Str} {sp : Sp} {e : Expr} {es : List Expr} {t : TA} {p pos : Pos} (L : Kl X.K X.mg C x q st ps) (O : OkM X.prog X.w X.K X.mg X.base C k "__init__" ps sp) (hr : Rm (k + 1) X.A) (hg : Gl X x) (ha : PA X (e :: es) t)
    (hdb : (x == ("__debug__" : Str)) = false := by decide) (he : starEach (e :: es) X.env = (false, eval e X.env) :: starEach es X.env := by rfl) (hpl : (backTo pos (starEach es X.env)).any (·.1) = false := by rfl) :
    PE X (.Call (.Name x p) (e :: es) [] pos) (tMake C sp [] E0 t) := by
  obtain ⟨f, fd, hm, hb, F⟩ := O
  exact ⟨fun pins s σ H Q I h => wpAny_Call_Name_kw (ld_glob I hg L.g (PySem.W.callWith_K (h₀ := X.base) I.ok.mod.kin L.kp (thn (ha.run pos pins s σ H _ I h) fun us s1 ⟨vs, H1, I1, r, q⟩ => ⟨I1.kIn, makeG ⟨L.mks, hm.at_, hm.fn, L.kp⟩ F hr.toRoom hr.gd hb I1 r (fun y dy n1 n2 n3 => by have q3 := q y dy n1 n2 n3; rwa [List.append_nil] at q3)⟩) he hpl) hdb)⟩
theorem pe_gv {x : Str} {v : V} {pos : Pos} (hg : Gl X x) (h : Gv X.mg x v) (hd : (x == ("__debug__" : Str)) = false := by decide) : PE X (.Name x pos) (tC v) := by
  obtain ⟨u, e, r⟩ := h
  exact pe_glob hg e r hd
theorem tkEnd {e : Prop} (h : e) : e := h
end

/-! ### loops by invariants, promises of nothing, the law's own frame -/
theorem forD_ind {g : D → S → (S → Prop) → Prop} {b : DSt} {E : DEnds} {items : List D} (Inv : Nat → S → Prop) {s : S} (h0 : Inv 0 s)
    (step : ∀ i d s (N : S → Prop), items[i]? = some d → Inv i s → (∀ s', Inv (i + 1) s' → N s') → g d s fun s1 => b { E with nx := N, ct := N, bk := E.nx } s1) (fin : ∀ s, Inv items.length s → E.nx s) : forD g b E items s := by
  have : ∀ (n i : Nat) (s : S), i + n = items.length → Inv i s → forD g b E (items.drop i) s := by
    intro n
    induction n with
    | zero =>
      intro i s e h
      rw [List.drop_of_length_le (by omega)]
      exact fin s (by rw [← e, Nat.add_zero]; exact h)
    | succ n ih =>
      intro i s e h
      have hi : i < items.length := by omega
      rw [List.drop_eq_getElem_cons hi]
      exact step i _ s _ (List.getElem?_eq_getElem hi) h fun s' h' => ih (i + 1) s' (by omega) h'
  exact this items.length 0 s (by omega) h0
theorem lcD_ind {g : D → S → (S → Prop) → Prop} {c : DB} {e : DT} {vs : List Nat} {Q : List D → S → Prop} {items : List D} (Inv : Nat → List D → S → Prop) {s : S} (h0 : Inv 0 [] s)
    (step : ∀ i d acc s (N : List D → S → Prop), items[i]? = some d → Inv i acc s → (∀ acc' s', Inv (i + 1) acc' s' → N acc' s') → g d s fun s1 => c s1 fun k s2 => if k = true then e s2 fun y s3 => N (acc ++ [y]) (wipeS s3 vs) else N acc (wipeS s2 vs))
    (fin : ∀ acc s, Inv items.length acc s → Q acc s) : lcD g c e vs Q items [] s := by
  have : ∀ (n i : Nat) (acc : List D) (s : S), i + n = items.length → Inv i acc s → lcD g c e vs Q (items.drop i) acc s := by
    intro n
    induction n with
    | zero =>
      intro i acc s e h
      rw [List.drop_of_length_le (by omega)]
      exact fin acc s (by rw [← e, Nat.add_zero]; exact h)
    | succ n ih =>
      intro i acc s e h
      have hi : i < items.length := by omega
      rw [List.drop_eq_getElem_cons hi]
      exact step i _ acc s (fun acc s => lcD g c _ vs Q (items.drop (i + 1)) acc s) (List.getElem?_eq_getElem hi) h fun acc' s' h' => ih (i + 1) acc' s' (by omega) h'
  exact this items.length 0 [] s (by omega) h0
theorem rgD_len (lo : Int) (n : Nat) : (rgD lo n).length = n := by unfold rgD; rw [List.length_map, List.length_range]
theorem rgD_get {lo : Int} {n i : Nat} {d : D} (h : (rgD lo n)[i]? = some d) : i < n ∧ d = .int (lo + (i : Nat)) := by
  have hi := (List.getElem?_eq_some_iff.mp h).1
  rw [rgD_len] at hi
  refine ⟨hi, ?_⟩
  unfold rgD at h
  rw [List.getElem?_map, List.getElem?_range hi] at h
  exact (Option.some.inj h).symm
section
variable {P : Program} {w : World} {K : PySem.W.Frag} {mg : Str → Option Value} {base : Heap}
theorem Ok.no {x : Str} {st : Stmt} {N ps : List Str} {sp : Sp} (D' : Df K mg x st ps) (S' : FnScope N ps (defScope st)) (h : ∀ vs H Q E, sp vs H Q E → False) : Ok P w K mg base 1 x ps sp :=
  Ok.mk D' S' (fun vs H Q E z => (h vs H Q E z).elim) (fun f cdv A outer s H vs Q E hr z => (h vs H Q E z).elim)
theorem spN_no {n : Nat} {cat : Cat} {F : DF} (h : ∀ ds Q, F ds Q → False) : ∀ vs H Q E, spN K n cat F vs H Q E → False := fun vs H Q E ⟨_, _, _, _, _, _, f, _⟩ => h _ _ f
theorem spP_no {n : Nat} {cat : Cat} {F : DFP} (h : ∀ ds n Q, F ds n Q → False) : ∀ vs H Q E, spP K n cat F vs H Q E → False := fun vs H Q E ⟨_, _, _, _, _, _, _, _, _, _, _, _, _, f, _⟩ => h _ _ _ f
/-- the law: its pen is opened first, then the rest in the plain layer -/
theorem Ok.ofLaw {st : Stmt} {fa : Addr} {fda : FuncData} {N0 N1 : Str} {N' : List Str} {k : Nat} {M : List Nat} (F : Fun K "law" "law" st fa fda) (S' : FnScope (N0 :: N1 :: N') ["_law_script"] (defScope st)) (hM : ∀ i ∈ M, 2 ≤ i ∧ i < N'.length + 2)
    (hbody : ∀ (f : Addr) (cdv : Value) (A : Around) (outer : List Env) (s : Shared) (H : Hp) (E : XK), Rm k (A.deeper (envOfC "law" (defScope st) s.heap.objs.size f cdv)) →
      ∃ t, PSs (cxOf CX0 P w K mg base (N0 :: N1 :: N') "law" (defScope st) f cdv A outer s H E).nox (defBody st) (tSeq (tAsg (tCall (spOpen K) [] E0 (tCons (tVar 0) tNil)) (gName 1)) t) ∧
        ∀ p c, ∃ d, SimS { K := K, pen := some (p, c), ps := 1, M := M } .E t d ∧ d { nx := fun _ => False, rt := fun z _ => z = .bool true } { δ := none :: none :: List.replicate N'.length none, n := 0 }) :
    FnG P w K mg base (k + 1) fa fda ["_law_script"] (spLaw K) := by
  refine Fun.okG F S' (fun vs H Q E h => ?_) (fun cdv A outer s H vs Q E hr hg h => ?_)
  · obtain ⟨a, ns, rfl, _⟩ := h; rfl
  obtain ⟨a, ns, rfl, hS, hl, q⟩ := h
  obtain ⟨t, ht, hs⟩ := hbody fa cdv A outer s H E ⟨hr, hg⟩
  refine ⟨_, ht, ?_⟩
  refine ⟨_, rfl, a, ns, rfl, hS, hl, fun p c H1 sm np nc pe => ?_⟩
  obtain ⟨d, sd, hd⟩ := hs p c
  obtain ⟨a0, r0, ep, _⟩ := pe.pen
  obtain ⟨nn, ec⟩ := pe.cells
  have es : (L2.start (N0 :: N1 :: N') [V.ref a]).set 1 (some (.ref p)) = some (.ref a) :: some (.ref p) :: List.replicate N'.length none := by
    unfold L2.start
    rfl
  show t _ ((L2.start (N0 :: N1 :: N') [V.ref a]).set 1 (some (.ref p))) H1
  rw [es]
  have gn : ∀ i, i ∈ M → (some (V.ref a) :: some (V.ref p) :: List.replicate N'.length (none : Option V))[i]? = some none := fun i m => by
    have := hM i m
    obtain ⟨j, rfl⟩ : ∃ j, i = j + 2 := ⟨i - 2, by omega⟩
    show (List.replicate N'.length none)[j]? = some none
    rw [List.getElem?_replicate, if_pos (by omega)]
  refine sd.run H1 (fun _ => none) (fun _ => none) _ H1 _ _ _ ?_ hd ⟨fun Hs' σ' H' s' r q => q.elim, fun Hs' σ' H' s' v dd r rv e => ?_, fun _ _ _ _ _ q => q.elim, fun _ _ _ _ _ q => q.elim⟩
  · refine ⟨(by simp), (fun b o e => nomatch e), fun i dd e _ => ?_, fun i dd e m => ?_, fun i m e => gn i m, fun i j x m1 m2 e1 e2 => ?_, fun p' c' e => ?_, fun b hb => (nomatch hb), Same.refl _, fun b o _ e => e, fun b e1 e2 => absurd e1 e2⟩
    · exfalso
      match i, e with
      | j + 2, e =>
        have e : (List.replicate N'.length (none : Option D))[j]? = some (some dd) := e
        rw [List.getElem?_replicate] at e
        split at e <;> cases e
    · exfalso
      match i, e with
      | j + 2, e =>
        have e : (List.replicate N'.length (none : Option D))[j]? = some (some dd) := e
        rw [List.getElem?_replicate] at e
        split at e <;> cases e
    · rw [gn i m1] at e1
      cases e1
    · cases e
      exact ⟨rfl, pe, rfl, (by rw [ep]; simp), (by rw [ec]; simp), rfl, fun z => absurd (hM 1 z).1 (by omega), fun z => (nomatch z), fun z => (nomatch z)⟩
  · have e' : dd = .bool true := e
    subst e'
    have rv' : Rp K Hs' v (.bool true) := rv
    cases rv'
    exact q H'
end

/-- one statement, then the rest, with a word between them -/
def dCut (a b : DSt) : DSt := fun E s => ∃ Mid : S → Prop, a { E with nx := Mid } s ∧ ∀ s', Mid s' → b E s'
theorem simS_cut {C : Cf} {cat : Cat} {ts us : TS} {a b : DSt} (ha : SimS C cat ts a) (hb : SimS C cat us b) : SimS C cat (tSeq ts us) (dCut a b) :=
  ⟨fun H0 S0 Hs σ H s E D' r ⟨Mid, q, h⟩ k => ha.run H0 S0 Hs σ H s _ _ r q ⟨fun Hs σ H s r q => hb.run H0 S0 Hs σ H s E D' r (h s q) k, k.rt, k.bk, k.ct⟩⟩
theorem small9 {m : Int} (h0 : 0 < m) (h1 : m < 2 ^ 63) : m.natAbs < 2 ^ 9000 := Nat.lt_of_lt_of_le (show m.natAbs < 2 ^ 63 by omega) (Nat.pow_le_pow_right (by decide) (by decide))
theorem take_ok {m : Int} {n : Nat} {Q : D → Nat → Prop} (hn : n ≤ 1000000000) (h0 : 0 < m) (h1 : m < 2 ^ 63) (k : ∀ r : Int, 0 ≤ r → r < m → Q (.int r) (n + 1)) : TakeP m n Q := ⟨Nat.le_trans hn pen9, h0, small9 h0 h1, k⟩
theorem tk_ok {m : Int} {n : Nat} {Q : D → Nat → Prop} (hn : n ≤ penLim) (h0 : 0 < m) (h1 : m < 2 ^ 63) (k : ∀ r : Int, 0 ≤ r → r < m → Q (.int r) (n + 1)) : TakeP m n Q := ⟨hn, h0, small9 h0 h1, k⟩
theorem log_lt {n k : Nat} (h : n < 2 ^ k) (hk : 0 < k) : n.log2 < k := by
  by_cases h0 : n = 0
  · subst h0
    exact Nat.lt_of_le_of_lt (Nat.le_of_eq (by decide)) hk
  · exact (Nat.log2_lt h0).mpr h
theorem mulOk {i j : Int} (hi : i.natAbs < 2 ^ 2000) (hj : j.natAbs < 2 ^ 2000) : CMulW i j := by
  have h1 := log_lt hi (by decide)
  have h2 := log_lt hj (by decide)
  show i.natAbs.log2 + j.natAbs.log2 < 1000000
  omega
theorem lt2000 {n : Nat} (h : n < 10 ^ 40) : n < 2 ^ 2000 := Nat.lt_of_lt_of_le (show n < 2 ^ 200 from Nat.lt_of_lt_of_le h (by decide)) (Nat.pow_le_pow_right (by decide) (by decide))
theorem ix_ok {ds : List D} {i : Int} {Q : D → Prop} {d : D} (j : Nat) (e : i = (j : Int)) (h : ds[j]? = some d) (q : Q d) : IxP (atI ds i) Q := ⟨d, atI_of j e h, q⟩
theorem ixs_ok {z : Str} {i : Int} {Q : D → Prop} {c : Nat} (hz : z.length ≤ sizeLine) (e : atI z.cps.toList i = some c) (q : Q (.str ⟨#[c]⟩)) : IxS z i Q := ⟨hz, c, e, q⟩

section
variable {C : Cf} {cat : Cat} {ts us : TS} {a b : DSt}
theorem simE_cut (ha : SimS C cat ts a) (hb : SimE C cat us b) : SimE C cat (tSeq ts us) (dCut a b) :=
  ⟨fun H0 S0 Hs σ H s E D' r ⟨Mid, q, h⟩ k1 k2 k3 k4 => ha.run H0 S0 Hs σ H s _ _ r q ⟨fun Hs σ H s r q => hb.run H0 S0 Hs σ H s E D' r (h s q) k1 k2 k3 k4, fun Hs σ H s v d r rv q => k2 C.M Hs σ H s v d r rv q, k3, k4⟩⟩
end

/-! ### plain lists -/
theorem cutD_to (ds : List D) (j : Nat) : cutD ds none (some (j : Int)) = ds.take j := by
  unfold cutD
  rw [HT.sIx_none, HT.sIx_nat, List.drop_zero, Nat.sub_zero]
  rcases Nat.le_total j ds.length with h | h
  · rw [Nat.min_eq_left h]
  · rw [Nat.min_eq_right h, List.take_of_length_le (Nat.le_refl _), List.take_of_length_le h]
theorem cutD_from (ds : List D) (j : Nat) (h : j ≤ ds.length) : cutD ds (some (j : Int)) none = ds.drop j := by
  unfold cutD
  rw [HT.sIx_none, HT.sIx_nat, Nat.min_eq_left h]
  exact List.take_of_length_le (by rw [List.length_drop]; omega)
theorem prD_get {xs ys : List D} {i : Nat} {d : D} (h : (prD xs ys)[i]? = some d) : ∃ x y, xs[i]? = some x ∧ ys[i]? = some y ∧ d = .tuple [x, y] := by
  unfold prD at h
  rw [List.getElem?_map] at h
  cases e : (xs.zip ys)[i]? with
  | none => rw [e] at h; cases h
  | some p =>
    rw [e] at h
    obtain ⟨x, y⟩ := p
    obtain ⟨h1, h2⟩ := List.getElem?_zip_eq_some.mp e
    exact ⟨x, y, h1, h2, (Option.some.inj h).symm⟩
/-- data without dicts, of so many floors -/
def dat : Nat → D → Prop
  | _, .none => True
  | _, .bool _ => True
  | _, .int _ => True
  | _, .str _ => True
  | k + 1, .list ds => ds.length ≤ sizeLine ∧ ∀ d ∈ ds, dat k d
  | k + 1, .tuple ds => ds.length ≤ sizeLine ∧ ∀ d ∈ ds, dat k d
  | _, _ => False
def sameF : Nat → DF
  | 0 => fun _ _ => False
  | k + 1 => fun ds Q => match ds with
    | [a, b] => a = b ∧ dat k a ∧ Q (.bool true)
    | _ => False
theorem nin_true {n : Nat} {Q : D → Prop} (q : Q (.bool true)) : inD true (.bool false) (.list (List.replicate n (.bool true))) Q := by
  refine .inl ⟨rfl, ?_, ?_⟩
  · rw [List.all_eq_true]
    intro x hx
    rw [List.eq_of_mem_replicate hx]
    rfl
  · have : ((List.replicate n (PyData.bool true)).any fun z => eqF z (.bool false)) = false := by
      rw [List.any_eq_false]
      intro x hx
      rw [List.eq_of_mem_replicate hx]
      decide
    rw [this]
    exact q

/-! ### sum of a tuple, tuple * 0 and * 1, a display of texts indexed at once -/
section
variable {prog : Program} {w : World} {A : Around} {E : Value → Shared → Prop} {s : Shared} {l : Addr}
theorem sum_rawT {its : List Value} {ns : List Int} {Q : Value → Shared → Prop} (hh : A.handled = none) (hl : s.heap.IsTuple l its.toArray) (hi : IntsAre its ns)
    (h : ∀ h' tk t', (∀ b o, s.heap.get? b = some o → h'.get? b = some o) → Q (.int ns.sum t') { s with heap := h', toks := tk }) : wpAny (model prog w) A (call (.builtin "sum") [.ref l]) Q E s := by
  obtain ⟨xs, e⟩ := hi.allInts.items
  have hn : numsOf (intItems xs).toList = ns := by rw [← e]; exact hi.numsOf
  rw [nums_intItems] at hn
  rw [e] at hl
  have hlt : l < s.heap.objs.size := by obtain ⟨_, e, _⟩ := hl; exact Heap.lt_size e
  refine PySem.call_sum_walkG (wpAny_pyIter_tuple hl ⟨_, _, _, _, _, _, numAt xs, rfl, Walks.tuple (A := A.in1) hh _ l (Nat.ne_of_lt hlt) (intItems xs), ⟨⟨_, Heap.get?_push_size _ rfl, rfl, rfl⟩, hl.push _⟩, fun b hb => ?_, (fun _ _ => intItems_at), fun h' tk t' hk => ?_⟩)
  · show b < (s.heap.push _).objs.size
    rw [Heap.size_push]
    rcases List.mem_cons.mp hb with rfl | hb
    · exact Nat.lt_succ_self _
    · rcases List.mem_cons.mp hb with rfl | hb
      · exact Nat.lt_succ_of_lt hlt
      · cases hb
  · have hk' : ∀ b o, s.heap.get? b = some o → h'.get? b = some o := fun b o e => hk b o (fun hb => absurd (Heap.lt_size e) ((List.mem_singleton.mp hb) ▸ Nat.lt_irrefl _)) (Heap.get?_push_of_some _ e)
    have := h h' tk t' hk'
    have e2 : preSum (numAt xs) (intItems xs).size = ns.sum := by
      rw [preSum_eq, List.take_of_length_le (by simp [intItems]), hn]
    rw [e2]
    exact this
end
def rSumT (K : PySem.W.Frag) : List V → Hp → VK → Prop := fun vs H Q => ∃ (a : Addr) (ns : List Int), vs = [V.ref a] ∧ SqT K H a (ns.map V.int) ∧ Q (.int ns.sum) H
def rSumG (K : PySem.W.Frag) : List V → Hp → VK → Prop := fun xs H Q => rSum K xs H Q ∨ rSumT K xs H Q
theorem sumG {X : Cx} (K : PySem.W.Frag) (eK : X.K = K) (hc : X.calm = true) : CallR X (.builtin "sum") (rSumG K) := by
  subst eK
  refine CallR.or (cr_sum hc) ?_
  intro pins s σ H vs us Q I r h
  obtain ⟨a, ns, rfl, hs, q⟩ := h
  obtain ⟨its, rv, hl, _⟩ := I.tuple hs
  rw [Vals.ref1 r]
  exact sum_rawT (I.ok.hd hc) hl rv.ints fun h' tk t' hk => ⟨.int _, H, I.kept hk, ⟨_, rfl⟩, q⟩
def sumGD : DF := fun ds Q => match ds with
  | [d] => (match d with
    | .list xs => ∃ ns, intsOf xs = some ns ∧ Q (.int ns.sum)
    | .tuple xs => ∃ ns, intsOf xs = some ns ∧ Q (.int ns.sum)
    | _ => False)
  | _ => False
theorem caA_sumG {C : Cf} : CaA C (rSumG C.K) sumGD := by
  intro H0 S0 Hs σ H s vs ds Q Q' r hd q k
  match vs, ds, hd with
  | [v], [d], ⟨h, _⟩ =>
    cases d <;> first | exact q.elim | skip
    case list xs =>
      obtain ⟨a, ys, rfl, e1, e2⟩ := Rd'.list h
      obtain ⟨ns, e3, q⟩ := q
      rw [ints_rp e2 e3] at e1
      exact .inl ⟨a, ns, rfl, SqL.of e1, k Hs H _ (.int _) Go.refl r (Val.mkP (Rp.int _) rfl) q⟩
    case tuple xs =>
      cases h with
      | @tup a ys _ e1 e2 =>
      obtain ⟨ns, e3, q⟩ := q
      rw [ints_rp e2 e3] at e1
      exact .inr ⟨a, ns, rfl, Same.sqT r.sub e1.sq, k Hs H _ (.int _) Go.refl r (Val.mkP (Rp.int _) rfl) q⟩
  | [], [], _ => exact q.elim
  | _ :: _ :: _, _ :: _ :: _, _ => exact q.elim
/-! tuple * 0, tuple * 1 -/
theorem tuple_mul1 (l : Addr) (items : Array Value) (n : Nat) (dd : Option Addr) (sl : Array (Option Value)) (x : Int) (u : Tok) (c0 : (decide (x < -(2 ^ 63)) || decide (x ≥ 2 ^ 63)) = false) (c1 : (items.isEmpty || x == 1) = true) :
    Meets (Builtin.«tuple.__mul__» ⟨[.ref l, .int x u], []⟩) (fun _ R s => s.heap.get? l = some { cls := .type "tuple", dict := dd, data := .seq items n, slots := sl } ∧ R (.ok (.ret (Value.ref l))) s) :=
  .of_wp fun prog w A R s h => by
    obtain ⟨hp, g, d, tk, os⟩ := s
    obtain ⟨hl, h⟩ := h
    have f1 := AutoSeq1.idx_int
    wp_walk using wpAny_loadPart' hl
    repeat (first
      | (refine wpAny_ite_false (decide_eq_false (by rw [c0]; exact Bool.false_ne_true)) ?_; wp_walk using wpAny_loadPart' hl)
      | (refine wpAny_ite_true (decide_eq_true c1) ?_; wp_walk using wpAny_loadPart' hl))
    exact ⟨_, rfl, h⟩
theorem tuple_mul0 (l : Addr) (items : Array Value) (n : Nat) (dd : Option Addr) (sl : Array (Option Value)) (x : Int) (u : Tok) (c0 : (decide (x < -(2 ^ 63)) || decide (x ≥ 2 ^ 63)) = false) (c1 : (items.isEmpty || x == 1) = false) (c2 : (decide (x ≤ 0) || items.isEmpty) = true) :
    Meets (Builtin.«tuple.__mul__» ⟨[.ref l, .int x u], []⟩) (fun _ R s => s.heap.get? l = some { cls := .type "tuple", dict := dd, data := .seq items n, slots := sl } ∧
      R (.ok (.ret (Value.ref s.heap.objs.size))) { s with heap := s.heap.push { cls := Value.type "tuple", data := Data.seq #[] }, toks := s.toks }) :=
  .of_wp fun prog w A R s h => by
    obtain ⟨hp, g, d, tk, os⟩ := s
    obtain ⟨hl, h⟩ := h
    have f1 := AutoSeq1.idx_int
    wp_walk using wpAny_loadPart' hl
    repeat (first
      | (refine wpAny_ite_false (decide_eq_false (by rw [c0]; exact Bool.false_ne_true)) ?_; wp_walk using wpAny_loadPart' hl)
      | (refine wpAny_ite_false (decide_eq_false (by rw [c1]; exact Bool.false_ne_true)) ?_; wp_walk using wpAny_loadPart' hl)
      | (refine wpAny_ite_true (decide_eq_true c2) ?_; wp_walk using wpAny_loadPart' hl))
    exact ⟨_, rfl, h⟩
def rRep01 (K : PySem.W.Frag) : R2 := fun x y H Q => ∃ l k xs, x = .ref l ∧ y = .int k ∧ SqT K H l xs ∧ 0 ≤ k ∧ k ≤ 1 ∧ (k = 1 ∨ xs = [] → Q (.ref l) H) ∧ (k = 0 → xs ≠ [] → ∀ p o, H p = none → o.dict = none → Q (.ref p) (L2.upd H p (.frz o (.tup []))))
theorem op_rep01 {X : Cx} (K : PySem.W.Frag) (eK : X.K = K) : OpR X (binaryOp .Mult) (rRep01 K) := by
  subst eK
  intro pins s σ H x y v u Q I rx ry h
  obtain ⟨l, k, xs, rfl, rfl, hT, h1, h2, q1, q0⟩ := h
  cases rx
  obtain ⟨t, rfl⟩ := ry
  obtain ⟨its, r, ⟨⟨cls, dd, data, sl⟩, ho, hc, n, hd⟩, hs⟩ := I.tuple hT
  simp only at hc hd
  subst hc hd
  have hle : its.length = xs.length := r.length.symm
  have c0 : (decide (k < -(2 ^ 63)) || decide (k ≥ 2 ^ 63)) = false := by
    rw [decide_eq_false (by omega), decide_eq_false (by omega)] <;> rfl
  by_cases hk : k = 1 ∨ xs = []
  · have c1 : (its.toArray.isEmpty || k == 1) = true := by
      rcases hk with rfl | hk
      · simp
      · rw [hk] at hle
        rw [List.eq_nil_of_length_eq_zero hle]
        rfl
    refine wpAny_binaryOp_repeat_ref (T := "tuple") (U := "int") (by decide) ⟨_, ho, rfl⟩ (fun s' => typeIs_int s' k t) noFill_tuple_mul F.fills_int_mul F.slot_int_rmul repeat_tuple F.slot_int_index.lookup
      (call_meets F.slot_int_rmul (typeIs_int s k t) F.entry_int_rmul (F.args_int_rmul_2 _ _) (int_rmul_tuple k t l its.toArray n dd sl)
        ⟨ho, rfl, ⟨_, ho, rfl⟩, call_meets F.slot_tuple_mul ⟨_, ho, rfl⟩ F.entry_tuple_mul (F.args_tuple_mul_2 _ _) (tuple_mul1 l its.toArray n dd sl k t c0 c1) ⟨ho, ?_⟩⟩)
    exact ⟨.ref l, H, I, rfl, q1 hk⟩
  · have hn : its ≠ [] := fun e => hk (.inr (by rw [e] at hle; exact List.eq_nil_of_length_eq_zero hle.symm))
    have hi : its.toArray.isEmpty = false := by
      cases its with
      | nil => exact absurd rfl hn
      | cons a b => rfl
    have k0 : k = 0 := by
      have : ¬ k = 1 := fun e => hk (.inl e)
      omega
    subst k0
    have c1 : (its.toArray.isEmpty || (0 : Int) == 1) = false := by rw [hi]; rfl
    have c2 : (decide ((0 : Int) ≤ 0) || its.toArray.isEmpty) = true := by rw [hi]; rfl
    refine wpAny_binaryOp_repeat_ref (T := "tuple") (U := "int") (by decide) ⟨_, ho, rfl⟩ (fun s' => typeIs_int s' 0 t) noFill_tuple_mul F.fills_int_mul F.slot_int_rmul repeat_tuple F.slot_int_index.lookup
      (call_meets F.slot_int_rmul (typeIs_int s 0 t) F.entry_int_rmul (F.args_int_rmul_2 _ _) (int_rmul_tuple 0 t l its.toArray n dd sl)
        ⟨ho, rfl, ⟨_, ho, rfl⟩, call_meets F.slot_tuple_mul ⟨_, ho, rfl⟩ F.entry_tuple_mul (F.args_tuple_mul_2 _ _) (tuple_mul0 l its.toArray n dd sl 0 t c0 c1 c2) ⟨ho, ?_⟩⟩)
    obtain ⟨I2, hf⟩ := frz_new I (xs := []) (its := []) .nil (by decide) (h' := s.heap.push (tupObj [])) (fun b o e => Heap.get?_push_of_some _ e) (Nat.le_refl _) (Heap.get?_push_size _ rfl) (t := s.toks)
    exact ⟨.ref s.heap.objs.size, _, I2, rfl, q0 rfl (fun e => hk (.inr e)) _ _ hf rfl⟩
def rep01D : DO := fun x y Q => match x, y with
  | .tuple a, .int k => (k = 1 ∧ Q (.tuple a)) ∨ (k = 0 ∧ Q (.tuple []))
  | _, _ => False
theorem opA_rep01 {C : Cf} : OpA C (rRep01 C.K) rep01D := by
  intro H0 S0 Hs σ H s x y dx dy Q Q' r hx hy q k
  cases dx <;> cases dy <;> first | exact q.elim | skip
  case tuple.int ds n =>
    cases hx with
    | @tup a xs _ h1 h2 =>
    cases hy
    rcases q with ⟨rfl, q⟩ | ⟨rfl, q⟩
    · exact ⟨a, 1, xs, rfl, rfl, Same.sqT r.sub h1.sq, by decide, by decide, fun _ => k Hs H _ (.tuple ds) Go.refl r (Val.mkP (Rp.tup h1 h2) rfl) q, fun e => absurd e (by decide)⟩
    · refine ⟨a, 0, xs, rfl, rfl, Same.sqT r.sub h1.sq, by decide, by decide, fun e => ?_, fun _ _ p o np hd => ?_⟩
      · have e : xs = [] := e.resolve_left (by decide)
        subst e
        cases h2
        exact k Hs H _ (.tuple []) Go.refl r (Val.mkP (Rp.tup h1 .nil) rfl) q
      · obtain ⟨r', g'⟩ := r.newTup (o := .frz o (.tup [])) np
        exact k _ _ _ (.tuple []) g' r' (Val.mkP (Rp.tup (TqT.of upd_same hd) .nil) rfl) q
/-! {"a": x, "b": y}[z] -/
section
variable {C : Cf} {t1 t2 tb : TE} {d1 d2 db : DT} {c1 c2 cb : Cat}
def dSel2 (k1 k2 : Str) (d1 d2 db : DT) : DT := fun s Q => d1 s fun x s1 => d2 s1 fun y s2 => db s2 fun z s3 => (z = .str k1 ∧ Q x s3) ∨ (z = .str k2 ∧ Q y s3)
theorem sim_dsel2 {k1 k2 : Str} (hk : k1 ≠ k2) (h1 : Sim C c1 t1 d1) (h2 : Sim C c2 t2 d2) (hb : Sim C cb tb db) : Sim C .E (tOp rIxDk (tDisp [(tC (.str k1), t1), (tC (.str k2), t2)]) tb) (dSel2 k1 k2 d1 d2 db) := by
  refine ⟨fun H0 S0 Hs σ H s Q Q' r q k => fun p np => ?_⟩
  obtain ⟨f0, f1, f2, f3⟩ := r.free0 np
  have r0 := r.laid (o := .dK []) np
  have g0 : Go C σ Hs H Hs (upd H p (.dK [])) := Go.laid np
  refine h1.toE.run H0 S0 Hs σ _ s _ _ r0 q fun Hs1 H1 x dx s1 g1 r1 v1 q1 => ?_
  have p1 : H1 p = some (.dK []) := g1.kp p _ upd_same f2 f3
  have n1 : Hs1 p = none := none_of_new g1.nw f1 upd_same
  refine h2.toE.run H0 S0 Hs1 σ H1 s1 _ _ r1 q1 fun Hs2 H2 y dy s2 g2 r2 v2 q2 => ?_
  have p2 : H2 p = some (.dK []) := g2.kp p _ p1 f2 f3
  have n2 : Hs2 p = none := none_of_new g2.nw n1 p1
  refine ⟨p2, [(.inr k1, x), (.inr k2, y)], rfl, by simp, ?_⟩
  have em : mergeK [] [((.inr k1 : Key), x), (.inr k2, y)] = [(.inr k1, x), (.inr k2, y)] := by
    have : ¬ ((Sum.inr k1 : Key) = .inr k2) := fun e => hk (by cases e; rfl)
    simp [mergeK, putK, this]
  rw [em]
  have r3 := r2.updF (o := .dK [(.inr k1, x), (.inr k2, y)]) n2 f0 f2
  have g3 : Go C σ Hs H Hs2 (upd H2 p (.dK [(.inr k1, x), (.inr k2, y)])) := (g0.trans (g1.trans g2)).updF np
  refine hb.toE.run H0 S0 Hs2 σ _ s2 _ _ r3 q2 fun Hs3 H3 z dz s3 g4 r4 v4 q4 => ?_
  have p3 : H3 p = some (.dK [(.inr k1, x), (.inr k2, y)]) := g4.kp p _ upd_same f2 f3
  have v1' : Rp C.K Hs3 x dx := Rp.mono (g2.st.trans g4.st) v1
  have v2' : Rp C.K Hs3 y dy := Rp.mono g4.st v2
  have v4' : Rp C.K Hs3 z dz := v4
  rcases q4 with ⟨rfl, q4⟩ | ⟨rfl, q4⟩
  · cases v4'
    refine ⟨p, _, .inr k1, x, rfl, rfl, .inl p3, ?_, k Hs3 H3 x dx s3 (g3.trans g4) r4 v1' q4⟩
    simp [valV]
  · cases v4'
    refine ⟨p, _, .inr k2, y, rfl, rfl, .inl p3, ?_, k Hs3 H3 y dy s3 (g3.trans g4) r4 v2' q4⟩
    have : ¬ ((Sum.inr k1 : Key) = .inr k2) := fun e => hk (by cases e; rfl)
    simp [valV, this]
end
/-! str(x) of an int or a text -/
def rStrG : List V → Hp → VK → Prop := fun xs H Q => (∃ i, xs = [.int i] ∧ i.natAbs.log2 < 1920 ∧ Q (.str (toString i)) H) ∨ ∃ a, xs = [.str a] ∧ Q (.str a) H
theorem strG {X : Cx} : CallR X (.type "str") rStrG := CallR.or call_str_int SkE.call_str_str
def strGD : DF := fun ds Q => match ds with
  | [d] => (match d with
    | .int i => i.natAbs.log2 < 1920 ∧ Q (.str (toString i))
    | .str a => Q (.str a)
    | _ => False)
  | _ => False
theorem caA_strG {C : Cf} : CaA C rStrG strGD := by
  intro H0 S0 Hs σ H s vs ds Q Q' r hd q k
  match vs, ds, hd with
  | [v], [d], ⟨h, _⟩ =>
    cases d <;> first | exact q.elim | skip
    case int i =>
      cases h
      exact .inl ⟨_, rfl, q.1, k Hs H _ (.str _) Go.refl r (Val.mkP (Rp.str _) rfl) q.2⟩
    case str a =>
      cases h
      exact .inr ⟨_, rfl, k Hs H _ (.str _) Go.refl r (Val.mkP (Rp.str _) rfl) q⟩
  | [], [], _ => exact q.elim
  | _ :: _ :: _, _ :: _ :: _, _ => exact q.elim


/-! ### enumerate of a text -/
def Ites (x : Str) : It := ⟨fun i _ => i < x.cps.size, fun i H v H' => ∃ T c, v = .ref T ∧ H T = none ∧ H' = L2.upd H T (.tup [.int (i : Nat), .str ⟨#[c]⟩]) ∧ x.cps[i]? = some c, fun i _ => x.cps.size ≤ i⟩
theorem turn_enumS {P : Program} {w : World} {K : PySem.W.Frag} {elts : List Expr} {kk : Nat} {tpos : Pos} (e it : Addr) (x : Str) (t : Tok) (ty : String) (hty : ty = "str_ascii_iterator" ∨ ty = "str_iterator") :
    Turn P w K (.Tuple elts kk tpos) (Ites x) [e, it] e (fun i h => ((∃ old, IsEnum h e it ((i : Nat) : Int) old) ∧ h.IsStrIter it ty x t i ∧ e ≠ it) ∧ i ≤ x.cps.size) where
  mem := by simp
  obj := fun i h st b hb => by
    obtain ⟨⟨⟨old, he⟩, ⟨o, ho, hc, hd⟩, _⟩, _⟩ := st
    have e' : b = e ∨ b = it := by simpa using hb
    rcases e' with z | z
    · rw [z]; exact ⟨_, he, fun v q => nomatch q⟩
    · rw [z]; exact ⟨o, ho, fun v q => by rw [hd] at q; cases q⟩
  keep := fun i h h' st k => let ⟨⟨⟨old, he⟩, ⟨o, ho, r⟩, hne⟩, hl⟩ := st; ⟨⟨⟨old, k e (by simp) _ he⟩, ⟨o, k it (by simp) o ho, r⟩, hne⟩, hl⟩
  item := by
    intro X hP hw hK hc i pins s σ H E I hf st hg
    subst hP hw hK
    obtain ⟨⟨⟨old, he⟩, hit, hne⟩, _⟩ := st
    have hel : e < s.heap.objs.size := Heap.lt_size he
    have hil : it < s.heap.objs.size := by obtain ⟨_, q, _⟩ := hit; exact Heap.lt_size q
    have D : Draws X.prog X.w X.A.in1 it [it] x.cps.size (fun i v => ∃ c u, x.cps[i]? = some c ∧ v = .str ⟨#[c]⟩ u) (fun i h => h.IsStrIter it ty x t i) := by
      have hh : X.A.in1.handled = none := I.ok.hd hc
      rcases hty with z | z
      · rw [z]; exact Draws.strAscii hh it x t
      · rw [z]; exact Draws.strWide hh it x t
    refine wpAny_pyNext_enum_itemD D he hit hg hne (by simpa using hne) fun v h' tk hv ho hit' hT hsz hk => ?_
    obtain ⟨c, u, hc', rfl⟩ := hv
    refine ⟨_, rfl, wpAny_letOwnedTupleGo_enum (s := { s with heap := h', toks := tk + 1 }) ho fun h'' he' sb => ?_⟩
    have hT2 : h''.get? s.heap.objs.size = some { cls := .type "tuple", data := .seq #[.int i tk, .str ⟨#[c]⟩ u] } := (sb.2 _ (Nat.ne_of_gt hel)).trans hT
    have new : ObjOk X.prog X.w (L2.upd H s.heap.objs.size (.tup [.int (i : Nat), .str ⟨#[c]⟩])) h'' s.heap.objs.size (.tup [.int (i : Nat), .str ⟨#[c]⟩]) :=
      ⟨by show 2 ≤ sizeLine; decide, [.int i tk, .str ⟨#[c]⟩ u], .cons ⟨_, rfl⟩ (.cons ⟨_, rfl⟩ .nil), ⟨_, hT2, rfl, _, rfl⟩⟩
    have I1 : Inv X pins σ (L2.upd H s.heap.objs.size (.tup [.int (i : Nat), .str ⟨#[c]⟩])) { s with heap := h'', toks := tk + 1 } :=
      I.turnedNew (ch := [e, it]) (fun b ob hb q => (sb.2 b (fun z => hb (by simp [z]))).trans (hk b ob (fun z => hb (by simp [z])) (fun z => hb (by simp [z])) q)) hf (Nat.le_refl _) new
    have hg' : i < x.cps.size := hg
    refine ⟨.ref s.heap.objs.size, _, I1, rfl, ⟨_, c, rfl, I.hok.fresh (Nat.le_refl _), rfl, hc'⟩, ⟨⟨⟨.str ⟨#[c]⟩ u, ?_⟩, (let ⟨o, ho, r⟩ := hit'; ⟨o, (sb.2 it (Ne.symm hne)).trans ho, r⟩), hne⟩, hg'⟩, fun b hb => ?_⟩
    · have e1 : ((i + 1 : Nat) : Int) = (i : Int) + 1 := by omega
      rw [e1]; exact he'
    · have hb' : b < s.heap.objs.size := by
        have e' : b = e ∨ b = it := by simpa using hb
        rcases e' with z | z
        · rw [z]; exact hel
        · rw [z]; exact hil
      rw [upd_ne (Nat.ne_of_lt hb')]
      exact (hf b hb).1
  done := by
    intro X hP hw hK hc i pins s σ H E I hf st hg
    subst hP hw hK
    obtain ⟨⟨⟨old, he⟩, hit, hne⟩, hl⟩ := st
    have hg : x.cps.size ≤ i := hg
    have ei : i = x.cps.size := by omega
    subst ei
    have D : Draws X.prog X.w X.A.in1 it [it] x.cps.size (fun i v => ∃ c u, x.cps[i]? = some c ∧ v = .str ⟨#[c]⟩ u) (fun i h => h.IsStrIter it ty x t i) := by
      have hh : X.A.in1.handled = none := I.ok.hd hc
      rcases hty with z | z
      · rw [z]; exact Draws.strAscii hh it x t
      · rw [z]; exact Draws.strWide hh it x t
    obtain ⟨f0, f1, f2, f3, f4, f5⟩ := hf it (by simp)
    exact wpAny_pyNext_enum_endD D he hit fun h' eb => ⟨rfl, I.turned (t' := s.toks) (fun b o hb q => eb b o hb q) f0 f1 f3 f4 f5⟩
  self := fun A i s Q E st h => let ⟨⟨⟨_, he⟩, _⟩, _⟩ := st; wpAny_pyIter_enum he h
def iEnumS (ta : TA) : TI := fun σ H R => ta σ H fun vs H1 => ∃ x, vs = [.str x] ∧ R (Ites x) H1
theorem pi_enumS {X : Cx} {e : Expr} {ta : TA} {p pos tpos : Pos} {elts : List Expr} {kk : Nat} (hg : Gl X "enumerate") (hm : X.mg "enumerate" = none) (ha : PA X [e] ta) (hs : starEach [e] X.env = [(false, eval e X.env)] := by rfl) :
    PI X (.Tuple elts kk tpos) (.Call (.Name "enumerate" p) [e] [] pos) (iEnumS ta) := by
  refine ⟨fun pins s σ H R I h => ?_⟩
  refine Call_ (ld_blt I hg hm boot_enumerate (PyProof.Rows.callWith_type1 (thn (ha.run pos pins s σ H _ I h) fun us s1 ⟨vs, H1, I1, r1, q1⟩ => ?_) hs rfl))
  obtain ⟨x, ex, q⟩ := q1
  subst ex
  cases r1 with
  | cons r rr =>
    cases rr
    obtain ⟨t, rfl⟩ := r
    refine call_enumerate_str fun h' he hit hsz hk => wpAny_pyIter_enum he ?_
    have I2 : Inv X pins σ H1 { s1 with heap := h' } := I1.kept (t' := s1.toks) hk
    have hty : strIterType x = "str_ascii_iterator" ∨ strIterType x = "str_iterator" := by unfold strIterType; split <;> simp
    refine ⟨s1.heap.objs.size + 1, [s1.heap.objs.size + 1, s1.heap.objs.size], _, _, H1, rfl, I2, turn_enumS (s1.heap.objs.size + 1) s1.heap.objs.size x t _ hty, ⟨⟨⟨.none, he⟩, hit, Nat.succ_ne_self _⟩, Nat.zero_le _⟩, fun b hb => ?_, q⟩
    have e' : b = s1.heap.objs.size + 1 ∨ b = s1.heap.objs.size := by simpa using hb
    have hle : s1.heap.objs.size ≤ b := by
      rcases e' with z | z
      · rw [z]; exact Nat.le_add_right _ _
      · rw [z]; exact Nat.le_refl _
    exact I1.fpOk hle (I1.hok.fresh hle)
theorem walk_enumS {z : Str} : Walk (Ites z) z.cps.size (fun _ => True) (fun i H v H' => ∃ T c, v = .ref T ∧ H T = none ∧ H' = L2.upd H T (.tup [.int (i : Nat), .str ⟨#[c]⟩]) ∧ z.cps[i]? = some c) :=
  ⟨fun _ _ hi _ => hi, fun _ _ => Nat.le_refl _, fun _ _ _ _ _ _ y => y⟩
def dEnumS (a : DT) : DI := fun s Q => a s fun d s1 => match d with
  | .str z => Q (prD (rgD 0 (signs z).length) (signs z)) s1
  | _ => False
section
variable {C : Cf} {ca : Cat} {te : TE} {t : DT}
theorem simI_enumS (h : Sim C ca te t) : SimI C true (iEnumS (tCons te tNil)) (dEnumS t) := by
  refine ⟨fun H0 S0 Hs σ H s Q Q' r q k => h.toE.run H0 S0 Hs σ H s _ _ r q fun Hs1 H1 v d s1 g1 r1 v1 q1 => ?_⟩
  cases d <;> first | exact q1.elim | skip
  rename_i z
  cases v1
  refine ⟨z, rfl, k Hs1 H1 _ _ s1 g1 r1 ?_ q1⟩
  have hl : (signs z).length = z.cps.size := by unfold signs; rw [List.length_map, Array.length_toList]
  refine ⟨_, _, by rw [enum_len, hl]; exact walk_enumS, fun H e => True.intro, fun i H v H2 H0 S0 Hs σ s hi r e y => ?_⟩
  obtain ⟨T, c, rfl, nT, rfl, e1⟩ := y
  obtain ⟨Hs2, r2, rp, g⟩ := pair_it r nT (Rp.int ((i : Nat) : Int)) (Rp.str ⟨#[c]⟩)
  refine ⟨Hs2, _, enum_get ?_, r2, rp, g⟩
  unfold signs
  rw [List.getElem?_map, Array.getElem?_toList, e1]
  rfl
end
/-! ### a text so often -/
def repS (x : Str) (n : Nat) : Str := ⟨(List.replicate n x.cps.toList).flatten.toArray⟩
def rRepS : R2 := fun x y H Q => ∃ z n, x = .str z ∧ y = .int n ∧ 0 ≤ n ∧ n < 2 ^ 62 ∧ z.length * n.toNat ≤ sizeLine ∧ Q (.str (repS z n.toNat)) H
theorem fold_app (x : Array Nat) : ∀ (n : Nat) (acc : Array Nat), (List.replicate n x).foldl (· ++ ·) acc = acc ++ (List.replicate n x.toList).flatten.toArray
  | 0, acc => by simp
  | n + 1, acc => by
    rw [List.replicate_succ, List.foldl_cons, fold_app x n]
    rw [List.replicate_succ, List.flatten_cons, Array.append_assoc]
    congr 1
    apply Array.ext'
    simp
theorem repS_len (x : Str) (n : Nat) : (repS x n).length = x.length * n := by
  unfold repS
  show (List.replicate n x.cps.toList).flatten.toArray.size = x.cps.size * n
  simp [Nat.mul_comm]
theorem op_repS {X : Cx} : OpR X (binaryOp .Mult) rRepS := by
  intro pins s σ H x y v u Q I rx ry h
  obtain ⟨z, n, rfl, rfl, h1, h2, hz, q⟩ := h
  obtain ⟨t, rfl⟩ := rx
  obtain ⟨t', rfl⟩ := ry
  by_cases h0 : n < 1
  · have e0 : n = 0 := by omega
    subst e0
    refine P.mul_str_none h0 (by decide) ?_
    have ee : repS z (0 : Int).toNat = Str.empty := by unfold repS; rfl
    rw [ee] at q
    exact ⟨.str Str.empty, H, I.tok _, ⟨_, rfl⟩, q⟩
  have hn1 : 1 ≤ n.toNat := by omega
  have hlong : Builtin.Str.tooLong (z.length * n.toNat) = false := by
    unfold Builtin.Str.tooLong
    exact decide_eq_false (by omega)
  refine P.mul_str ?_ (fun _ _ => ?_) (fun _ _ => hlong) ?_
  · rw [decide_eq_false (by omega), decide_eq_false (by omega)]; rfl
  · have hz' : (z.length : Int) * n ≤ sizeLine := by
      have e : n = ((n.toNat : Nat) : Int) := by omega
      rw [e]
      exact_mod_cast hz
    have hsz : (sizeLine : Int) ≤ 2 ^ 63 - 1 := by decide
    intro hgt
    have h3 : (z.length : Int) ≤ (2 ^ 63 - 1) / n := (Int.le_ediv_iff_mul_le (by omega)).mpr (by omega)
    omega
  · rw [if_neg (by omega)]
    have fin : repS z n.toNat = ⟨(List.replicate n.toNat z.cps).foldl (· ++ ·) #[]⟩ := by
      rw [fold_app]; unfold repS; simp
    split
    · rename_i hh
      have ez : repS z n.toNat = z := by
        rcases Bool.or_eq_true_iff.mp hh with h | h
        · have e1 : n = 1 := by simpa using h
          subst e1
          unfold repS
          simp
        · have e0 : z.cps.toList = [] := by
            have : z.length = 0 := by simpa using h
            have : z.cps.size = 0 := this
            exact List.eq_nil_of_length_eq_zero (by rw [Array.length_toList]; exact this)
          obtain ⟨zc⟩ := z
          unfold repS
          dsimp only at e0 ⊢
          rw [e0]
          have : zc = #[] := by apply Array.ext'; exact e0
          rw [this]
          simp
      rw [ez] at q
      exact ⟨.str z, H, I, ⟨_, rfl⟩, q⟩
    · rw [← fin]
      refine ⟨?_, .str (repS z n.toNat), H, I.tok _, ⟨_, rfl⟩, q⟩
      rw [repS_len]; exact hz
def repD : DO := fun x y Q => match x, y with
  | .str z, .int n => 0 ≤ n ∧ n < 2 ^ 62 ∧ z.length * n.toNat ≤ sizeLine ∧ Q (.str (repS z n.toNat))
  | _, _ => False
theorem opA_repS {C : Cf} : OpA C rRepS repD := by
  intro H0 S0 Hs σ H s x y dx dy Q Q' r hx hy q k
  cases dx <;> cases dy <;> first | exact q.elim | skip
  case str.int z n => cases hx; cases hy; exact ⟨z, n, rfl, rfl, q.1, q.2.1, q.2.2.1, k Hs H _ (.str _) Go.refl r (Val.mkP (Rp.str _) rfl) q.2.2.2⟩

/-! ### dict(t), t a tuple of pairs -/
section
variable {X : Cx} {pins : List (Addr × Obj)} {σ : L2.St} {H : Hp} {s : Shared}
theorem pairs_at (I : Inv X pins σ H s) : ∀ {ps : List Addr} {kvs : List (Key × V)}, Paired (fun p kv => SqT X.K H p [kV kv.1, kv.2]) ps kvs →
    ∃ (prs : List (Key × Value)) (pvs : List (Value × Value)), KV kvs prs ∧ prs.length = ps.length ∧ pvs.length = ps.length ∧
      ∀ (j : Nat) (k v : Value), pvs[j]? = some (k, v) → ∃ (b : Addr) (q : Key), ps[j]? = some b ∧ IsTup s.heap b #[k, v] ∧ prs[j]? = some (q, v) ∧ L2.keyIs q k = true
  | _, _, .nil => ⟨[], [], .nil, rfl, rfl, fun j k v e => by simp at e⟩
  | _, _, .cons (a := p) (b := kv) h t => by
    obtain ⟨prs, pvs, r, l1, l2, hp⟩ := pairs_at I t
    obtain ⟨its, rv, ht, _⟩ := I.tuple h
    obtain ⟨u, y, ei, ru, ry⟩ := vals2 rv
    subst ei
    refine ⟨(kv.1, y) :: prs, (u, y) :: pvs, .cons ⟨rfl, ry⟩ r, by rw [List.length_cons, List.length_cons, l1], by rw [List.length_cons, List.length_cons, l2], fun j k v e => ?_⟩
    cases j with
    | zero =>
      have e' : (u, y) = (k, v) := Option.some.inj e
      cases e'
      exact ⟨p, kv.1, rfl, ht, rfl, kV_is (P := X.prog) (w := X.w) ru⟩
    | succ j =>
      obtain ⟨b, q, e1, e2, e3, e4⟩ := hp j k v (by simpa using e)
      exact ⟨b, q, by simpa using e1, e2, by simpa using e3, e4⟩
end
theorem call_dictZ {X : Cx} (hcalm : X.calm = true) : CallR X (.type "dict") (fun xs H Q => ∃ (a : Addr) (ps : List Addr) (kvs : List (Key × V)), xs = [.ref a] ∧ TqT X.K H a (ps.map V.ref) ∧ Paired (fun p kv => SqT X.K H p [kV kv.1, kv.2]) ps kvs ∧
    ∀ p, H p = none → Q (.ref p) (L2.upd H p (.dK (mergeK [] kvs)))) := by
  intro pins s σ H xs us Q I r q
  obtain ⟨a, ps, kvs, rfl, hq, hp, q⟩ := q
  obtain ⟨u, rfl, rx⟩ := vals1 r
  cases rx
  obtain ⟨o, its, n, rv, ho, hc, hd, hdat, hz⟩ := hq.obj I
  have ei := refs_at rv
  subst ei
  rw [List.length_map] at hz
  obtain ⟨prs, pvs, rel, l1, l2, hpr⟩ := pairs_at I hp
  have PI : PairItems s.heap (ps.map Value.ref).toArray (fun j => (ps[j]?).getD 0) pvs := by
    refine ⟨by simp [l2], fun j k v e => ?_⟩
    obtain ⟨b, q, e1, e2, _, _⟩ := hpr j k v e
    refine ⟨by simp [e1], .inl ?_⟩
    simp only [e1, Option.getD_some]
    exact e2
  refine PySem.call_dict_pairs (knd := mixKind X.prog X.w) (kvs := prs) (PairArg.tuple a (ps.map Value.ref).toArray (fun j => (ps[j]?).getD 0) pvs) (I.ok.hd hcalm) ⟨⟨o, n, ho, hc, hd, hdat⟩, PI⟩ ⟨by rw [l1, l2], fun i k v e => ?_⟩ (by rw [l2]; exact hz) fun h' tk hd' k => ?_
  · obtain ⟨b, q, e1, e2, e3, e4⟩ := hpr i k v e
    exact ⟨q, e3, e4⟩
  · have hm : (s.heap.objs.size == sysModules) = false := beq_eq_false_iff_ne.mpr (Nat.ne_of_gt I.big)
    have hlen : (mergeK [] kvs).length ≤ sizeLine := by
      refine Nat.le_trans (length_mergeK kvs []) ?_
      rw [List.length_nil, Nat.zero_add, rel.length, l1]
      exact hz
    exact ⟨.ref s.heap.objs.size, L2.upd H s.heap.objs.size (.dK (mergeK [] kvs)), I.laid (t' := tk) (fun b o e => k b o (fun m => nomatch m) e) (Nat.le_refl _) (show ObjOk X.prog X.w _ _ _ (.dK (mergeK [] kvs)) from ⟨hlen, hm, merged [] prs, KV.merge rel .nil, hd'⟩), rfl, q _ (I.hok.fresh (Nat.le_refl _))⟩

/-! ### dicts with texts as keys: display, get with a default -/
theorem lt_u1 {a b : Nat} (h : a + 65 < b) : a + 1 < b := by omega
def findS : List (D × D) → Str → Option D
  | [], _ => none
  | (.str k, d) :: r, x => if k = x then some d else findS r x
  | _ :: r, x => findS r x
structure SimP (C : Cf) (ks : List Str) (trs : List (TE × TE)) (t : DA) : Prop where
  run : ∀ (H0 S0 Hs : Hp) (σ : L2.St) (H : Hp) (s : S) (Q : List D → S → Prop) (Q' : List (V × V) → Hp → Prop), R C H0 S0 Hs σ H s → t s Q →
    (∀ Hs' H' kvs ds s', Go C σ Hs H Hs' H' → R C H0 S0 Hs' σ H' s' → RpKV C.K Hs' kvs ((ks.map PyData.str).zip ds) → kvs.map Prod.fst = ks.map Sum.inr → Q ds s' → Q' (kvs.map fun kv => (kV kv.1, kv.2)) H') → tPairs trs σ H Q'
def dDisp (ks : List Str) (a : DA) : DT := fun s Q => a s fun ds s1 => Q (.dict ((ks.map PyData.str).zip ds)) s1
def dGet2 (a b c : DT) : DT := fun s Q => a s fun d s1 => match d with
  | .dict kvs => b s1 fun k s2 => c s2 fun z s3 => isKey k = true ∧ Q ((findD kvs k).getD z) s3
  | _ => False
def dGet1 (a b : DT) : DT := fun s Q => a s fun d s1 => match d with
  | .dict kvs => b s1 fun k s2 => isKey k = true ∧ Q ((findD kvs k).getD .none) s2
  | _ => False
theorem nodup_inr : ∀ {ks : List Str}, ks.Nodup → (ks.map (Sum.inr : Str → Key)).Nodup
  | [], _ => .nil
  | k :: ks, h => by
    obtain ⟨h1, h2⟩ := List.nodup_cons.mp h
    refine List.nodup_cons.mpr ⟨fun m => ?_, nodup_inr h2⟩
    obtain ⟨y, m, e⟩ := List.mem_map.mp m
    cases e
    exact h1 m
theorem merge_nodup : ∀ (kvs acc : List (Key × V)), (kvs.map Prod.fst).Nodup → (∀ k ∈ kvs.map Prod.fst, k ∉ acc.map Prod.fst) → mergeK acc kvs = acc ++ kvs
  | [], acc, _, _ => by rw [List.append_nil]; rfl
  | (k, v) :: r, acc, h, hd => by
    show mergeK (putK acc k v) r = _
    have hk : k ∉ acc.map Prod.fst := hd k (List.mem_cons_self ..)
    have e : putK acc k v = acc ++ [(k, v)] := by
      unfold putK
      rw [if_neg]
      intro z
      obtain ⟨p, m, e⟩ := List.any_eq_true.mp z
      exact hk (List.mem_map.mpr ⟨p, m, of_decide_eq_true e⟩)
    rw [e, merge_nodup r (acc ++ [(k, v)]) (List.nodup_cons.mp h).2 (fun k' m => ?_), List.append_assoc]
    · rfl
    · rw [List.map_append, List.mem_append]
      rintro (z | z)
      · exact hd k' (List.mem_cons_of_mem _ m) z
      · rw [List.map_cons, List.map_nil, List.mem_singleton] at z
        have z : k' = k := z
        rw [z] at m
        exact (List.nodup_cons.mp h).1 m
theorem find_rp {K : PySem.W.Frag} {H : Hp} {x : Str} : ∀ {kvs : List (Key × V)} {ds : List (D × D)}, RpKV K H kvs ds → (findS ds x = none ∧ valV kvs (.inr x) = none) ∨ ∃ d v, findS ds x = some d ∧ valV kvs (.inr x) = some v ∧ Rp K H v d
  | _, _, .nil => .inl ⟨rfl, rfl⟩
  | _, _, .cons (k := k) (v := v) (d := d) (vs := vs) (ds := ds) a b => by
    cases k with
    | inl i =>
      have e : findS ((keyD (.inl i), d) :: ds) x = findS ds x := rfl
      rw [e, valV_neg (p := (Sum.inl i, v)) (k := Sum.inr x) (fun z => nomatch z)]
      exact find_rp b
    | inr y =>
      by_cases h : y = x
      · subst h
        exact .inr ⟨d, v, if_pos rfl, valV_pos rfl, a⟩
      · have e : findS ((keyD (.inr y), d) :: ds) x = findS ds x := if_neg h
        rw [e, valV_neg (p := (Sum.inr y, v)) (k := Sum.inr x) (fun z => h (by injection z))]
        exact find_rp b
section
variable {C : Cf} {te ta tb tc : TE} {t da db dc : DT} {ca cb cc : Cat}
theorem simP_nil : SimP C [] [] dNil := ⟨fun H0 S0 Hs σ H s Q Q' r q k => k Hs H [] [] s Go.refl r .nil rfl q⟩
theorem simP_cons {ks : List Str} {k : Str} {trs : List (TE × TE)} {dr : DA} (ha : Sim C ca ta da) (hr : SimP C ks trs dr) : SimP C (k :: ks) ((tC (.str k), ta) :: trs) (dCons da dr) := by
  refine ⟨fun H0 S0 Hs σ H s Q Q' r q kk => ha.toE.run H0 S0 Hs σ H s _ _ r q fun Hs1 H1 x dx s1 g1 r1 v1 q1 => hr.run H0 S0 Hs1 σ H1 s1 _ _ r1 q1 fun Hs2 H2 kvs ds s2 g2 r2 v2 l2 q2 => ?_⟩
  exact kk Hs2 H2 ((.inr k, x) :: kvs) (dx :: ds) s2 (g1.trans g2) r2 (.cons (k := .inr k) (Rp.mono g2.st v1) v2) (by rw [List.map_cons, List.map_cons, l2]) q2
theorem sim_disp {ks : List Str} {trs : List (TE × TE)} {a : DA} (hk : ks.Nodup) (hl : ks.length ≤ 15) (h : SimP C ks trs a) : Sim C .F (tDisp trs) (dDisp ks a) := by
  refine ⟨fun H0 S0 Hs σ H s Q Q' r q k => fun p np => ?_⟩
  obtain ⟨f0, f1, f2, f3⟩ := r.free0 np
  have r0 := r.laid (o := .dK []) np
  have g0 : Go C σ Hs H Hs (L2.upd H p (.dK [])) := Go.laid np
  refine h.run H0 S0 Hs σ _ s _ _ r0 q fun Hs1 H1 kvs ds s1 g1 r1 v1 l1 q1 => ?_
  have p1 : H1 p = some (.dK []) := g1.kp p _ upd_same f2 f3
  have n1 : Hs1 p = none := none_of_new g1.nw f1 upd_same
  refine ⟨p1, kvs, rfl, ?_, ?_⟩
  · have := congrArg List.length l1
    rw [List.length_map, List.length_map] at this
    omega
  have em : mergeK [] kvs = kvs := by
    have := merge_nodup kvs [] (by rw [l1]; exact nodup_inr hk) (fun k _ m => nomatch m)
    rw [List.nil_append] at this
    exact this
  rw [em]
  have r2 := r1.updF (o := .dK kvs) n1 f0 f2
  have g2 : Go C σ Hs H Hs1 (L2.upd H1 p (.dK kvs)) := (g0.trans g1).updF np
  exact k Hs1 _ _ (.dict ((ks.map PyData.str).zip ds)) s1 g2 r2 (Val.mkC ⟨_, upd_same, n1, f0, np, .dic v1, f2⟩) q1
theorem sim_dget2 (ha : Sim C ca ta da) (hb : Sim C cb tb db) (hc : Sim C cc tc dc) : Sim C .E (tDGet2 ta tb tc) (dGet2 da db dc) := by
  refine ⟨fun H0 S0 Hs σ H s Q Q' r q k => ha.toE.run H0 S0 Hs σ H s _ _ r q fun Hs1 H1 x dx s1 g1 r1 v1 q1 => ?_⟩
  cases dx <;> first | exact q1.elim | skip
  have v1' : Rp C.K Hs1 x _ := v1
  cases v1' with
  | dic e1 e2 =>
  refine ⟨_, rfl, .inl ⟨_, rd_same r1.sub e1⟩, ?_⟩
  refine hb.toE.run H0 S0 Hs1 σ H1 s1 _ _ r1 q1 fun Hs2 H2 y dy s2 g2 r2 v2 q2 => ?_
  refine hc.toE.run H0 S0 Hs2 σ H2 s2 _ _ r2 q2 fun Hs3 H3 z dz s3 g3 r3 v3 q3 => ?_
  obtain ⟨hk, q3⟩ := q3
  obtain ⟨kx, rfl⟩ := isKey_of hk
  have v2' : Rp C.K Hs2 y (keyD kx) := v2
  obtain rfl := v2'.key
  have e1' := rd_same g3.st (rd_same g2.st e1)
  have e2' := RpKV.mono (g2.st.trans g3.st) e2
  refine ⟨_, .inl ⟨_, kx, rd_same r3.sub e1', rfl, rfl⟩, ?_⟩
  rcases findD_rp (x := kx) e2' with ⟨f1, f2⟩ | ⟨d, v, f1, f2, f3⟩
  · rw [f2]
    rw [f1] at q3
    exact k Hs3 H3 z dz s3 (g1.trans (g2.trans g3)) r3 v3 q3
  · rw [f2]
    rw [f1] at q3
    exact k Hs3 H3 v d s3 (g1.trans (g2.trans g3)) r3 f3 q3
theorem sim_dget1 (ha : Sim C ca ta da) (hb : Sim C cb tb db) : Sim C .E (tDGet1 ta tb) (dGet1 da db) := by
  refine ⟨fun H0 S0 Hs σ H s Q Q' r q k => ha.toE.run H0 S0 Hs σ H s _ _ r q fun Hs1 H1 x dx s1 g1 r1 v1 q1 => ?_⟩
  cases dx <;> first | exact q1.elim | skip
  have v1' : Rp C.K Hs1 x _ := v1
  cases v1' with
  | dic e1 e2 =>
  refine ⟨_, rfl, .inl ⟨_, rd_same r1.sub e1⟩, ?_⟩
  refine hb.toE.run H0 S0 Hs1 σ H1 s1 _ _ r1 q1 fun Hs2 H2 y dy s2 g2 r2 v2 q2 => ?_
  obtain ⟨hk, q2⟩ := q2
  obtain ⟨kx, rfl⟩ := isKey_of hk
  have v2' : Rp C.K Hs2 y (keyD kx) := v2
  obtain rfl := v2'.key
  have e1' := rd_same g2.st e1
  have e2' := RpKV.mono g2.st e2
  refine ⟨_, .inl ⟨_, kx, rd_same r2.sub e1', rfl, rfl⟩, ?_⟩
  rcases findD_rp (x := kx) e2' with ⟨f1, f2⟩ | ⟨d, v, f1, f2, f3⟩
  · rw [f2]
    rw [f1] at q2
    exact k Hs2 H2 .non .none s2 (g1.trans g2) r2 .non q2
  · rw [f2]
    rw [f1] at q2
    exact k Hs2 H2 v d s2 (g1.trans g2) r2 f3 q2
/-- {} -/
theorem sim_dnew : Sim C .F tDNewK (dC (.dict [])) := by
  refine ⟨fun H0 S0 Hs σ H s Q Q' r q k => fun p np => ?_⟩
  exact k Hs _ _ (.dict []) s (Go.laid np) (r.laid np) (r.newC np (.dic .nil)) q
/-! d[k] = v, of its own -/
def putD (kvs : List (D × D)) (k v : D) : List (D × D) := if (findD kvs k).isSome = true then kvs.map fun kv => if keyIs kv.1 k = true then (kv.1, v) else kv else kvs ++ [(k, v)]
theorem RpKV.map {K : PySem.W.Frag} {H : Hp} {k : Key} {v : V} {d : D} (hv : Rp K H v d) : ∀ {kvs : List (Key × V)} {ds : List (D × D)}, RpKV K H kvs ds → RpKV K H (kvs.map fun kv => if kv.1 = k then (kv.1, v) else kv) (ds.map fun kv => if keyIs kv.1 (keyD k) = true then (kv.1, d) else kv)
  | _, _, .nil => .nil
  | _, _, .cons (k := k') (v := v') (d := d') a b => by
    rw [List.map_cons, List.map_cons]
    have e : keyIs (keyD k') (keyD k) = decide (k' = k) := keyIs_key _ _
    by_cases h : k' = k
    · rw [if_pos h, if_pos (by rw [e, decide_eq_true h])]
      exact .cons hv (RpKV.map hv b)
    · rw [if_neg h, if_neg (by rw [e, decide_eq_false h]; exact Bool.false_ne_true)]
      exact .cons a (RpKV.map hv b)
theorem RpKV.snoc {K : PySem.W.Frag} {H : Hp} {k : Key} {v : V} {d : D} (hv : Rp K H v d) : ∀ {kvs : List (Key × V)} {ds : List (D × D)}, RpKV K H kvs ds → RpKV K H (kvs ++ [(k, v)]) (ds ++ [(keyD k, d)])
  | _, _, .nil => .cons hv .nil
  | _, _, .cons a b => .cons a (RpKV.snoc hv b)
theorem RpKV.put {K : PySem.W.Frag} {H : Hp} {kvs : List (Key × V)} {ds : List (D × D)} {k : Key} {v : V} {d : D} (h : RpKV K H kvs ds) (hv : Rp K H v d) : RpKV K H (putK kvs k v) (putD ds (keyD k) d) := by
  unfold putK putD
  rw [findD_is h, valV_any]
  cases e : (valV kvs k).isSome with
  | true => rw [if_pos rfl, if_pos rfl]; exact h.map hv
  | false => rw [if_neg Bool.false_ne_true, if_neg Bool.false_ne_true]; exact h.snoc hv
def dSetK (i : Nat) (a j : DT) : DSt := fun E s => a s fun d s1 => (∃ z, s1.δ[i]? = some (some (.dict z))) ∧ j s1 fun k s2 => isKey k = true ∧ match s2.δ[i]? with
  | some (some (.dict kvs)) => kvs.length < sizeLine ∧ E.nx { s2 with δ := s2.δ.set i (some (.dict (putD kvs k d))) }
  | _ => False
theorem simS_setK {cat : Cat} (i : Nat) (hi : i ∈ C.M) (h : Sim C ca ta da) (hj : Sim C cb tb db) : SimS C cat (sDPut (tVar i) tb ta) (dSetK i da db) := by
  refine ⟨fun H0 S0 Hs σ H s E D' r q k => h.toE.run H0 S0 Hs σ H s _ _ r q fun Hs1 H1 v d s1 g1 r1 v1 q1 => ?_⟩
  obtain ⟨⟨z, ez⟩, q1⟩ := q1
  obtain ⟨b, o, e1, e2, e3, e4, _⟩ := r1.mt i _ ez hi
  refine ⟨_, e1, hj.toE.run H0 S0 Hs1 σ H1 s1 _ _ r1 q1 fun Hs2 H2 y dy s2 g2 r2 v2 q2 => ?_⟩
  obtain ⟨hk, q2⟩ := q2
  obtain ⟨kx, rfl⟩ := isKey_of hk
  have v2' : Rp C.K Hs2 y (keyD kx) := v2
  obtain rfl := v2'.key
  split at q2
  · rename_i kvs ex
    obtain ⟨b', o', f1, f2, f3, f4, _⟩ := r2.mt i _ ex hi
    rw [e1] at f1
    cases f1
    cases f4 with
    | dic f4 =>
      rename_i xs
      obtain ⟨r3, g3⟩ := r2.upd hi ex e1 (.dic (f4.put (k := kx) (Rp.mono g2.st v1)))
      exact ⟨b, _, rfl, DPut.k f2 (by rw [f4.len]; exact q2.1), k.nx Hs2 σ _ _ r3 q2.2⟩
  · exact q2.elim
/-! dict(d), dict([(k, v), ..]) -/
def pairsOf : List D → Option (List (D × D))
  | [] => some []
  | .tuple [k, v] :: r => if isKey k = true then (pairsOf r).map ((k, v) :: ·) else none
  | _ :: _ => none
def mergeD (acc : List (D × D)) (more : List (D × D)) : List (D × D) := more.foldl (fun a kv => putD a kv.1 kv.2) acc
theorem RpKV.merge {K : PySem.W.Frag} {H : Hp} : ∀ {more : List (Key × V)} {ms : List (D × D)} {kvs : List (Key × V)} {ds : List (D × D)}, RpKV K H more ms → RpKV K H kvs ds → RpKV K H (mergeK kvs more) (mergeD ds ms)
  | _, _, _, _, .nil, h => h
  | _, _, _, _, .cons (k := k) a b, h => by
    have := RpKV.merge b (h.put (k := k) a)
    exact this
theorem pairs_rp {K : PySem.W.Frag} {Hs H : Hp} (sub : Same Hs H) : ∀ {xs : List V} {ds : List D} {kvs : List (D × D)}, RpAll K Hs xs ds → pairsOf ds = some kvs → ∃ (ps : List Addr) (ks : List (Key × V)), xs = ps.map V.ref ∧ Paired (fun p kv => SqT K H p [kV kv.1, kv.2]) ps ks ∧ RpKV K Hs ks kvs
  | _, _, _, .nil, e => by cases e; exact ⟨[], [], rfl, .nil, .nil⟩
  | _, _, kvs, .cons (d := d) (ds := r1) a b, e => by
    unfold pairsOf at e
    split at e
    · rename_i e0; cases e0
    · rename_i k0 v0 r0 e0
      injection e0 with e1 e2
      subst e1 e2
      split at e
      · rename_i hk
        obtain ⟨kk, rfl⟩ := isKey_of hk
        cases e3 : pairsOf r1 with
        | none => rw [e3] at e; cases e
        | some w =>
          rw [e3] at e
          cases e
          obtain ⟨ps, ks, rfl, h2, h3⟩ := pairs_rp sub b e3
          cases a with
          | @tup t zs _ h4 h5 =>
            cases h5 with
            | cons h6 h7 =>
              cases h7 with
              | cons h8 h9 =>
                cases h9
                obtain rfl := h6.key
                exact ⟨t :: ps, (kk, _) :: ks, rfl, .cons (Same.sqT sub h4.sq) h2, .cons h8 h3⟩
      · cases e
    · cases e
def rDictG (K : PySem.W.Frag) : List V → Hp → VK → Prop := fun xs H Q => (∃ (a : Addr) (kvs : List (Key × V)), xs = [.ref a] ∧ Rd H a (.dK kvs) ∧ ∀ p, H p = none → Q (.ref p) (upd H p (.dK kvs))) ∨
  (∃ (a : Addr) (ps : List Addr) (kvs : List (Key × V)), xs = [.ref a] ∧ SqL K H a (ps.map V.ref) ∧ Paired (fun p kv => SqT K H p [kV kv.1, kv.2]) ps kvs ∧ ∀ p, H p = none → Q (.ref p) (upd H p (.dK (mergeK [] kvs)))) ∨
  (∃ (a : Addr) (ps : List Addr) (kvs : List (Key × V)), xs = [.ref a] ∧ TqT K H a (ps.map V.ref) ∧ Paired (fun p kv => SqT K H p [kV kv.1, kv.2]) ps kvs ∧ ∀ p, H p = none → Q (.ref p) (L2.upd H p (.dK (mergeK [] kvs))))
theorem dictG {X : Cx} (K : PySem.W.Frag) (eK : X.K = K) (hc : X.calm = true) : CallR X (.type "dict") (rDictG K) := by
  subst eK
  exact CallR.or call_dictD (CallR.or (call_dictP hc) (call_dictZ hc))
def dictD : DF := fun ds Q => match ds with
  | [d] => (match d with
    | .dict kvs => Q (.dict kvs)
    | .list ps => ∃ kvs, pairsOf ps = some kvs ∧ Q (.dict (mergeD [] kvs))
    | .tuple ps => ∃ kvs, pairsOf ps = some kvs ∧ Q (.dict (mergeD [] kvs))
    | _ => False)
  | _ => False
theorem caA_dict : CaA C (rDictG C.K) dictD := by
  intro H0 S0 Hs σ H s vs ds Q Q' r hd q k
  match vs, ds, hd with
  | [v], [d], ⟨h, _⟩ =>
    cases d <;> first | exact q.elim | skip
    case dict kvs =>
      obtain ⟨a, ls, rfl, e1, e2⟩ := Rd'.dict h
      exact .inl ⟨a, ls, rfl, e1, fun p np => k Hs _ _ (.dict kvs) (Go.laid np) (r.laid np) (r.newC np (.dic e2)) q⟩
    case list ps =>
      obtain ⟨a, xs, rfl, e1, e2⟩ := Rd'.list h
      obtain ⟨kvs, e3, q⟩ := q
      obtain ⟨as, ks, rfl, h2, h3⟩ := pairs_rp r.sub e2 e3
      exact .inr (.inl ⟨a, as, ks, rfl, SqL.of e1, h2, fun p np => k Hs _ _ (.dict _) (Go.laid np) (r.laid np) (r.newC np (.dic (h3.merge .nil))) q⟩)
    case tuple ps =>
      cases (show Rp C.K Hs v (.tuple ps) from h) with
      | @tup a xs _ e1 e2 =>
      obtain ⟨kvs, e3, q⟩ := q
      obtain ⟨as, ks, rfl, h2, h3⟩ := pairs_rp r.sub e2 e3
      exact .inr (.inr ⟨a, as, ks, rfl, Same.tqT r.sub e1, h2, fun p np => k Hs _ _ (.dict _) (Go.laid np) (r.laid np) (r.newC np (.dic (h3.merge .nil))) q⟩)
  | [], [], _ => exact q.elim
  | _ :: _ :: _, _ :: _ :: _, _ => exact q.elim
/-! sorted -/
def sortD : DF := fun ds Q => match ds with
  | [d] => (match d with
    | .dict kvs => ∃ ks : List Str, kvs.map Prod.fst = ks.map PyData.str ∧ ks.length < 64 ∧ ∀ ys : List Str, ys.Perm ks → sortedS ys = true → Q (.list (ys.map PyData.str))
    | .list xs => ∃ ks : List Str, xs = ks.map PyData.str ∧ ks.length < 64 ∧ ∀ ys : List Str, ys.Perm ks → sortedS ys = true → Q (.list (ys.map PyData.str))
    | _ => False)
  | _ => False
def rSortG (K : PySem.W.Frag) : List V → Hp → VK → Prop := fun xs H Q => (∃ (a : Addr) (kvs : List (Key × V)) (ks : List Str), xs = [.ref a] ∧ Rd H a (.dK kvs) ∧ kvs.map (·.1) = ks.map Sum.inr ∧ ks.length < 64 ∧
    ∀ ys p, ys.Perm ks → sortedS ys = true → H p = none → Q (.ref p) (upd H p (.lst (ys.map V.str)))) ∨
  rSortedS K xs H Q
theorem sortG {X : Cx} (K : PySem.W.Frag) (eK : X.K = K) (hc : X.calm = true) : CallR X (.builtin "sorted") (rSortG K) := by
  subst eK
  exact CallR.or (call_sortedD hc) cr_sortedS
theorem strs_map {K : PySem.W.Frag} {H : Hp} : ∀ {xs : List V} {ks : List Str}, RpAll K H xs (ks.map PyData.str) → xs = ks.map V.str
  | _, [], h => by cases h; rfl
  | _, k :: ks, h => by
    cases h with
    | cons a b => cases a; rw [strs_map b]; rfl
theorem strs_rp' {K : PySem.W.Frag} {H : Hp} : ∀ ys : List Str, RpAll K H (ys.map V.str) (ys.map PyData.str)
  | [] => .nil
  | y :: ys => .cons (.str y) (strs_rp' ys)
theorem keys_map {K : PySem.W.Frag} {H : Hp} : ∀ {kvs : List (Key × V)} {ds : List (D × D)} {ks : List Str}, RpKV K H kvs ds → ds.map Prod.fst = ks.map PyData.str → kvs.map (·.1) = ks.map Sum.inr
  | _, _, [], .nil, _ => rfl
  | _, _, k :: ks, .nil, e => by cases e
  | _, _, [], .cons a b, e => by cases e
  | _, _, k :: ks, .cons (k := kk) a b, e => by
    rw [List.map_cons, List.map_cons] at e
    injection e with e1 e2
    rw [List.map_cons, List.map_cons, keys_map b e2]
    cases kk with
    | inl i => cases e1
    | inr z => cases e1; rfl
theorem caA_sort : CaA C (rSortG C.K) sortD := by
  intro H0 S0 Hs σ H s vs ds Q Q' r hd q k
  match vs, ds, hd with
  | [v], [d], ⟨h, _⟩ =>
    cases d <;> first | exact q.elim | skip
    case dict kvs =>
      obtain ⟨a, ls, rfl, e1, e2⟩ := Rd'.dict h
      obtain ⟨ks, e3, hl, q⟩ := q
      exact .inl ⟨a, ls, ks, rfl, e1, keys_map e2 e3, hl, fun ys p hp hs np => k Hs _ _ (.list _) (Go.laid np) (r.laid np) (r.newList np (strs_rp' ys)) (q ys hp hs)⟩
    case list xs =>
      obtain ⟨a, ls, rfl, e1, e2⟩ := Rd'.list h
      obtain ⟨ks, rfl, hl, q⟩ := q
      obtain rfl := strs_map e2
      exact .inr ⟨a, ks, rfl, SqL.of e1, hl, fun ys p hp hs np => k Hs _ _ (.list _) (Go.laid np) (r.laid np) (r.newList np (strs_rp' ys)) (q ys hp hs)⟩
  | [], [], _ => exact q.elim
  | _ :: _ :: _, _ :: _ :: _, _ => exact q.elim
end


/-! ### a list or dict that a def changes for its caller -/
def spB (K : PySem.W.Frag) (j n : Nat) (F : List D → (D → D → Prop) → Prop) : Sp := fun vs H Q _ => ∃ (Hs : Hp) (ds : List D) (Q0 : D → D → Prop) (p : Addr) (o : HO) (dj : D), Same Hs H ∧ vs[j]? = some (.ref p) ∧ H p = some o ∧ Hs p = none ∧ Cn K Hs o dj ∧ vs.length = n ∧ ds.length = n ∧ ds[j]? = some dj ∧
  (∀ i v d, i ≠ j → vs[i]? = some v → ds[i]? = some d → Rp K Hs v d) ∧ F ds Q0 ∧
  ∀ d dj' Hs' H' v o', Q0 d dj' → Same Hs Hs' → Same Hs' H' → But p H H' → (∀ b, Hs b = none → Hs' b ≠ none → H b = none) → Hs' p = none → H' p = some o' → Cn K Hs' o' dj' → Rp K Hs' v d → Q v H'
section
variable {C : Cf} {σ : L2.St} {H0 S0 Hs H Hs' H' : Hp} {s : S}
theorem R.stepB {i : Nat} {b : Addr} {dj dj' : D} {o' : HO} (r : R C H0 S0 Hs σ H s) (hi : i ∈ C.M) (es : σ[i]? = some (some (.ref b))) (hd : s.δ[i]? = some (some dj)) (st : Same Hs Hs') (sb : Same Hs' H') (hh : But b H H') (nw : ∀ b, Hs b = none → Hs' b ≠ none → H b = none) (nb : Hs' b = none) (ho : H' b = some o') (c : Cn C.K Hs' o' dj') :
    R C H0 S0 Hs' σ H' { s with δ := s.δ.set i (some dj') } ∧ Go C σ Hs H Hs' H' := by
  have hil : i < s.δ.length := (List.getElem?_eq_some_iff.mp hd).1
  obtain ⟨b0, o0, e1, e2, e3, e4, e5⟩ := r.mt i dj hd hi
  rw [es] at e1
  obtain rfl : b = b0 := by cases e1; rfl
  have bne : ∀ {x : Addr}, H0 x ≠ none → x ∉ C.bor → x ≠ b := fun h1 h2 z => by
    subst z
    rcases e5 with e5 | e5
    · exact h1 e5
    · exact h2 e5
  have sete : (s.δ.set i (some dj'))[i]? = some (some dj') := by rw [List.getElem?_set_self hil]
  have setn : ∀ k, k ≠ i → (s.δ.set i (some dj'))[k]? = s.δ[k]? := fun k h => List.getElem?_set_ne (Ne.symm h)
  refine ⟨⟨by rw [List.length_set]; exact r.len, sb, fun k d e m => ?_, fun k d e m => ?_, fun k m e => ?_, r.sep, fun p c' e => ?_, r.br, r.s0.trans st, fun b' o n e => ?_, fun b' h1 h2 => ?_⟩, st, fun b' o e n m => ?_, fun b' o e => ?_, nw⟩
  · have hk : k ≠ i := fun z => m (by rw [z]; exact hi)
    have e : (s.δ.set i (some dj'))[k]? = some (some d) := e
    rw [setn k hk] at e
    obtain ⟨v, f1, f2⟩ := r.slot k d e m
    exact ⟨v, f1, Rp.mono st f2⟩
  · have e : (s.δ.set i (some dj'))[k]? = some (some d) := e
    by_cases hk : k = i
    · subst hk
      rw [sete] at e
      cases e
      exact ⟨b, o', es, ho, nb, c, e5⟩
    · rw [setn k hk] at e
      obtain ⟨a, u, f1, f2, f3, f4, f5⟩ := r.mt k d e m
      have hab : a ≠ b := fun z => hk (r.sep k i a m hi f1 (by rw [z]; exact es))
      exact ⟨a, u, f1, hh a u hab f2, none_of_new nw f3 f2, f4.mono st, f5⟩
  · have e : (s.δ.set i (some dj'))[k]? = some none := e
    have hk : k ≠ i := fun z => by subst z; rw [sete] at e; cases e
    rw [setn k hk] at e
    exact r.dead k m e
  · obtain ⟨f1, f2, f3, f4, f5, f6, f7, f8, f9⟩ := r.pn p c' e
    have pb : p ≠ b := bne f4 f8
    have cb : c' ≠ b := bne f5 f9
    obtain ⟨_, ep⟩ := f2.at_
    refine ⟨f1, (f2.mono st (Same.refl _)).but (q := b) hh pb cb, none_of_new nw f3 ep, f4, f5, ?_, f7, f8, f9⟩
    have hk : C.ps ≠ i := fun z => f7 (by rw [z]; exact hi)
    show (s.δ.set i (some dj'))[C.ps]? = some none
    rw [setn _ hk]
    exact f6
  · have hb : b' ≠ b := fun z => by
      subst z
      rcases e5 with e5 | e5
      · rw [e5] at e; cases e
      · exact n (.inr e5)
    exact hh b' o hb (r.h0 b' o n e)
  · cases q : Hs b' with
    | some o => exact r.new b' h1 (by rw [q]; exact fun z => nomatch z)
    | none => exact (r.free0 (nw b' q h2)).1
  · have hb : b' ≠ b := fun z => n ⟨i, hi, by rw [z]; exact es⟩
    exact hh b' o hb e
  · by_cases hb : b' = b
    · exact ⟨o', by rw [hb]; exact ho⟩
    · exact ⟨o, hh b' o hb e⟩
/-- the arguments of a call, the one at j a list or dict of its own -/
structure SimB (C : Cf) (i j n : Nat) (ta : TA) (t : DA) : Prop where
  run : ∀ (H0 S0 Hs : Hp) (σ : L2.St) (H : Hp) (s : S) (Q : List D → S → Prop) (Q' : List V → Hp → Prop), R C H0 S0 Hs σ H s → t s Q →
    (∀ Hs' H' vs ds s', Go C σ Hs H Hs' H' → R C H0 S0 Hs' σ H' s' → (∃ b, σ[i]? = some (some (.ref b)) ∧ vs[j]? = some (.ref b)) → vs.length = n → ds.length = n → (∀ k v d, k ≠ j → vs[k]? = some v → ds[k]? = some d → Rp C.K Hs' v d) → Q ds s' → Q' vs H') → ta σ H Q'
def dHole (i : Nat) (r : DA) : DA := fun s Q => (∃ d, s.δ[i]? = some (some d)) ∧ r s fun ds s1 => Q (.none :: ds) s1
theorem RpAll.at {K : PySem.W.Frag} {H : Hp} {vs : List V} {ds : List D} (h : RpAll K H vs ds) {k : Nat} {v : V} {d : D} (e1 : vs[k]? = some v) (e2 : ds[k]? = some d) : Rp K H v d := by
  obtain ⟨x, e, r⟩ := h.get e2
  rw [e1] at e
  cases e
  exact r
theorem simB_here {i n : Nat} {ta : TA} {t : DA} (hi : i ∈ C.M) (h : SimA C n ta t) : SimB C i 0 (n + 1) (tCons (tVar i) ta) (dHole i t) := by
  refine ⟨fun H0 S0 Hs σ H s Q Q' r ⟨⟨d, e⟩, q⟩ k => ?_⟩
  obtain ⟨b, o, e1, _⟩ := r.mt i d e hi
  refine ⟨.ref b, e1, h.run H0 S0 Hs σ H s _ _ r q fun Hs1 H1 vs ds s1 g1 r1 v1 l1 q1 => ?_⟩
  refine k Hs1 H1 _ _ s1 g1 r1 ⟨b, e1, rfl⟩ (by rw [List.length_cons, v1.len, l1]) (by rw [List.length_cons, l1]) (fun j v d hj ev ed => ?_) q1
  cases j with
  | zero => exact absurd rfl hj
  | succ j => exact v1.at (k := j) ev ed
theorem simB_cons {i j n : Nat} {ca : Cat} {te : TE} {dt : DT} {ta : TA} {t : DA} (ha : Sim C ca te dt) (h : SimB C i j n ta t) : SimB C i (j + 1) (n + 1) (tCons te ta) (dCons dt t) := by
  refine ⟨fun H0 S0 Hs σ H s Q Q' r q k => ?_⟩
  refine ha.toE.run H0 S0 Hs σ H s _ _ r q fun Hs1 H1 v d s1 g1 r1 v1 q1 => ?_
  refine h.run H0 S0 Hs1 σ H1 s1 _ _ r1 q1 fun Hs2 H2 vs ds s2 g2 r2 hb l1 l2 ap q2 => ?_
  refine k Hs2 H2 _ _ s2 (g1.trans g2) r2 hb (by rw [List.length_cons, l1]) (by rw [List.length_cons, l2]) (fun m x y hm ex ey => ?_) q2
  cases m with
  | zero => cases ex; cases ey; exact Rp.mono g2.st v1
  | succ m => exact ap m x y (fun z => hm (by rw [z])) ex ey
def dCallB (F : List D → (D → D → Prop) → Prop) (i j : Nat) (a : DA) : DT := fun s Q => a s fun ds s1 => match s1.δ[i]? with
  | some (some dj) => F (ds.set j dj) fun d dj' => Q d { s1 with δ := s1.δ.set i (some dj') }
  | _ => False
theorem sim_callB {i j n : Nat} {F : List D → (D → D → Prop) → Prop} {ta : TA} {a : DA} (hi : i ∈ C.M) (hj : j < n) (h : SimB C i j n ta a) : Sim C .E (tCall (spB C.K j n F) [] E0 ta) (dCallB F i j a) := by
  refine ⟨fun H0 S0 Hs σ H s Q Q' r q k => h.run H0 S0 Hs σ H s _ _ r q fun Hs1 H1 vs ds s1 g1 r1 ⟨b, eb, ev⟩ l1 l2 ap q1 => ?_⟩
  rw [List.append_nil]
  split at q1
  · rename_i dj ej
    obtain ⟨b', o, e1, e2, e3, e4, e5⟩ := r1.mt i dj ej hi
    rw [eb] at e1
    cases e1
    refine ⟨Hs1, ds.set j dj, _, b, o, dj, r1.sub, ev, e2, e3, e4, l1, by rw [List.length_set]; exact l2, by rw [List.getElem?_set_self (by omega)], fun m v d hm e1 e2 => ?_, q1, fun d dj' Hs' H' v o' q2 st sb hh nw np ho cn rp => ?_⟩
    · rw [List.getElem?_set_ne (Ne.symm hm)] at e2
      exact ap m v d hm e1 e2
    · obtain ⟨r2, g2⟩ := r1.stepB hi eb ej st sb hh nw np ho cn
      exact k Hs' H' v d _ (g1.trans g2) r2 rp q2
  · exact q1.elim
end
section
variable {P : Program} {w : World} {K : PySem.W.Frag} {mg : Str → Option Value} {base : Heap}
theorem RpSlots {H : Hp} {p : Addr} : ∀ {vs : List V} {ds : List D} (N : List Str) (j : Nat), vs.length = ds.length → (∀ i v d, i ≠ j → vs[i]? = some v → ds[i]? = some d → Rp K H v d) → (L2.start N vs).length = (start' N.length ds).length ∧ ∀ (i : Nat) (d : D), i ≠ j → (start' N.length ds)[i]? = some (some d) → ∃ v, (L2.start N vs)[i]? = some (some v) ∧ Rp K H v d := by
  intro vs ds N j hl h
  unfold L2.start start'
  refine ⟨by rw [List.length_append, List.length_append, List.length_map, List.length_map, List.length_replicate, List.length_replicate, hl], fun i d hij e => ?_⟩
  by_cases hi : i < ds.length
  · rw [List.getElem?_append_left (by rw [List.length_map]; exact hi), List.getElem?_map] at e
    rw [List.getElem?_append_left (by rw [List.length_map, hl]; exact hi), List.getElem?_map]
    cases q : ds[i]? with
    | none => rw [q] at e; cases e
    | some d' =>
      rw [q] at e
      cases e
      have hv : i < vs.length := by rw [hl]; exact hi
      refine ⟨vs[i], by rw [List.getElem?_eq_getElem hv]; rfl, h i _ d hij (List.getElem?_eq_getElem hv) q⟩
  · rw [List.getElem?_append_right (by rw [List.length_map]; omega), List.getElem?_replicate] at e
    split at e <;> cases e
/-- a def that changes the list or dict handed in at j -/
theorem Ok.ofB {x : Str} {st : Stmt} {N ps : List Str} {k j n : Nat} {M : List Nat} {F : List D → (D → D → Prop) → Prop} (D' : Df K mg x st ps) (S' : FnScope N ps (defScope st)) (hn : ps.length = n) (hj : j < n) (hM : ∀ i ∈ M, n ≤ i ∧ i < N.length)
    (hbody : ∀ (f : Addr) (cdv : Value) (A : Around) (outer : List Env) (s : Shared) (H : Hp) (E : XK) (p : Addr), Rm k (A.deeper (envOfC x (defScope st) s.heap.objs.size f cdv)) →
      ∃ t d, PSs (cxOf CX0 P w K mg base N x (defScope st) f cdv A outer s H E).nox (defBody st) t ∧ SimS { K := K, pen := none, ps := 1000, M := j :: M, bor := [p], bs := [j] } .E t d ∧ ∀ ds (Q : D → D → Prop), ds.length = n → F ds Q →
        d { nx := fun s => ∀ dj, s.δ[j]? = some (some dj) → Q .none dj, rt := fun z s => ∀ dj, s.δ[j]? = some (some dj) → Q z dj } { δ := start' N.length ds, n := 0 }) :
    Ok P w K mg base (k + 1) x ps (spB K j n F) := by
  refine Ok.mk D' S' (fun vs H Q E h => ?_) (fun f cdv A outer s H vs Q E hr h => ?_)
  · obtain ⟨Hs, ds, Q0, p, o, dj, _, _, _, _, _, h2, _⟩ := h
    rw [h2, hn]
  obtain ⟨Hs, ds, Q0, p, o, dj, h1, ep, eo, np, cn, l1, l2, ej, rp, hF, h5⟩ := h
  obtain ⟨t, d, ht, hs, hd⟩ := hbody f cdv A outer s H E p hr
  refine ⟨t, ht, ?_⟩
  obtain ⟨sl, ss⟩ := RpSlots (K := K) (H := Hs) (p := p) N j (by rw [l1, l2]) rp
  have sj : (L2.start N vs)[j]? = some (some (.ref p)) := by
    unfold L2.start
    rw [List.getElem?_append_left (by rw [List.length_map, l1]; exact hj), List.getElem?_map, ep]
    rfl
  have dj0 : (start' N.length ds)[j]? = some (some dj) := by
    unfold start'
    rw [List.getElem?_append_left (by rw [List.length_map, l2]; exact hj), List.getElem?_map, ej]
    rfl
  have nn : ∀ i, i ∈ M → (L2.start N vs)[i]? = some none := fun i m => start_none N (by rw [l1]; exact (hM i m).1) (hM i m).2
  have jM : j ∉ M := fun z => by have := (hM j z).1; omega
  have fin : ∀ (Hs' : Hp) (σ' : L2.St) (H' : Hp) (s' : S) (v : V) (z : D), R { K := K, pen := none, ps := 1000, M := j :: M, bor := [p], bs := [j] } H Hs Hs' σ' H' s' → Rp K Hs' v z → (∀ dj, s'.δ[j]? = some (some dj) → Q0 z dj) → Q v H' := by
    intro Hs' σ' H' s' v z r rz q
    obtain ⟨⟨i, hib, him, hip⟩, _⟩ := r.br p (List.mem_singleton.mpr rfl)
    have hib : i ∈ [j] := hib
    rw [List.mem_singleton] at hib
    subst hib
    have il : i < s'.δ.length := by rw [← r.len]; exact (List.getElem?_eq_some_iff.mp hip).1
    cases e : s'.δ[i]'il with
    | none =>
      have := r.dead i him (by rw [List.getElem?_eq_getElem il, e])
      rw [hip] at this
      cases this
    | some dj' =>
      have e' : s'.δ[i]? = some (some dj') := by rw [List.getElem?_eq_getElem il, e]
      obtain ⟨a, o', f1, f2, f3, f4, _⟩ := r.mt i dj' e' him
      rw [hip] at f1
      cases f1
      refine h5 z dj' Hs' H' v o' (q dj' e') r.s0 r.sub (fun b u nb eb => r.h0 b u (fun z => ?_) eb) r.new f3 f2 f4 rz
      rcases z with ⟨c, z⟩ | z
      · cases z
      · exact nb (List.mem_singleton.mp z)
  refine hs.run H Hs Hs (L2.start N vs) H _ { nx := fun s => ∀ dj, s.δ[j]? = some (some dj) → Q0 .none dj, rt := fun z s => ∀ dj, s.δ[j]? = some (some dj) → Q0 z dj } _ ?_ (hd ds Q0 l2 hF) ⟨fun Hs' σ' H' s' r q => fin Hs' σ' H' s' .non .none r .non q, fun Hs' σ' H' s' v z r rv q => fin Hs' σ' H' s' v z r rv q, fun _ _ _ _ _ q => q.elim, fun _ _ _ _ _ q => q.elim⟩
  refine ⟨sl, h1, fun i dd e m => ss i dd (fun z => m (by rw [z]; exact List.mem_cons_self ..)) e, fun i dd e m => ?_, fun i m e => ?_, fun i i2 a m1 m2 e1 e2 => ?_, fun p c e => (nomatch e), fun b hb => ?_, Same.refl _, fun b o _ e => e, fun b e1 e2 => absurd e1 e2⟩
  · rcases List.mem_cons.mp m with rfl | m
    · rw [dj0] at e
      cases e
      exact ⟨p, o, sj, eo, np, cn, .inr (List.mem_singleton.mpr rfl)⟩
    · exfalso
      have hh := (hM i m)
      have : (start' N.length ds)[i]? = some none := by
        unfold start'
        rw [List.getElem?_append_right (by rw [List.length_map, l2]; exact hh.1), List.getElem?_replicate, if_pos (by rw [List.length_map]; omega)]
      rw [this] at e
      cases e
  · rcases List.mem_cons.mp m with rfl | m
    · rw [dj0] at e
      cases e
    · exact nn i m
  · rcases List.mem_cons.mp m1 with rfl | m1
    · rcases List.mem_cons.mp m2 with rfl | m2
      · rfl
      · rw [nn i2 m2] at e2; cases e2
    · rw [nn i m1] at e1; cases e1
  · have hb : b ∈ [p] := hb
    rw [List.mem_singleton] at hb
    subst hb
    exact ⟨⟨j, List.mem_singleton.mpr rfl, List.mem_cons_self .., sj⟩, by rw [eo]; simp⟩
end

open PySem.Sem (wp)
open TL (tl)
/-! ### zip(text, tuple, strict=True), both as long -/
abbrev IsZipS (h : Heap) (z TI TO : Addr) (f0 : Value) : Prop :=
  h.get? z = some { cls := .type "zip", dict := none, data := .fields #[f0, .bool false, .bool true, .ref TI, .ref TO], slots := #[] }
section
variable {prog : Program} {w : World} {A : Around} {E : Value → Shared → Prop} {s : Shared} {it : Addr} {fp : List Addr} {n i : Nat} {P : Nat → Value → Prop} {St : Nat → Heap → Prop}
theorem nextE_item (D : Draws prog w A it fp n P St) {Q : Option Value → Shared → Prop} (hi : i < n) (st : St i s.heap)
    (hQ : ∀ x h' tk, P i x → St (i + 1) h' → Heap.SameBut it s.heap h' → Q (some x) { s with heap := h', toks := tk }) : wpAny (model prog w) A (Builtin.SmallTypes.nextOrEnd (.ref it)) Q E s := by
  unfold Builtin.SmallTypes.nextOrEnd
  exact wpAny_bind (wpAny_attempt (D.item i s _ _ hi st fun x h' tk p st' sb => wpAny_pure (hQ x h' tk p st' sb)))
theorem nextE_end (D : Draws prog w A it fp n P St) {Q : Option Value → Shared → Prop} (st : St n s.heap)
    (hQ : ∀ h', Heap.ExtBut it s.heap h' → Q none { s with heap := h' }) : wpAny (model prog w) A (Builtin.SmallTypes.nextOrEnd (.ref it)) Q E s := by
  unfold Builtin.SmallTypes.nextOrEnd
  refine wpAny_bind (wpAny_attempt (D.done s _ _ st fun h' e hx he => ?_))
  obtain ⟨o, ho, hc⟩ := he
  refine wpAny_bind (wpAny_isInstance (T := "StopIteration") (b := true) ⟨o, ho, hc⟩ isSubtype_stop ?_)
  exact wpAny_pure (hQ _ hx)
end
section
variable {prog : Program} {w : World} {A : Around} {E : Value → Shared → Prop} {s : Shared} {z TI TO i1 i2 : Addr} {fp1 fp2 : List Addr} {n i : Nat} {P1 P2 : Nat → Value → Prop} {St1 St2 : Nat → Heap → Prop} {a1 a2 : Value}
theorem zipS_next_item {Q : Value → Shared → Prop} (S : ZipSep2 z TI TO i1 i2 fp1 fp2) (D1 : Draws prog w A i1 fp1 n P1 St1) (D2 : Draws prog w A i2 fp2 n P2 St2)
    (hz : IsZipS s.heap z TI TO .none) (hTI : IsTupOf2 s.heap TI (.ref i1) (.ref i2)) (hTO : IsTupOf2 s.heap TO a1 a2) (st1 : St1 i s.heap) (st2 : St2 i s.heap) (hlt : i < n)
    (hQ : ∀ x1 x2 h' tk, P1 i x1 → P2 i x2 → IsZipS h' z TI TO (rawInt s.heap.objs.size) → IsTupOf2 h' TO x1 x2 → St1 (i + 1) h' → St2 (i + 1) h' → IsTupOf2 h' s.heap.objs.size x1 x2 → h'.objs.size = s.heap.objs.size + 1 →
      (∀ c o, c ≠ z → c ≠ TO → c ≠ i1 → c ≠ i2 → s.heap.get? c = some o → h'.get? c = some o) → Q (.ref s.heap.objs.size) { s with heap := h', toks := tk }) :
    wpAny (model prog w) A (Builtin.«zip.__next__» ⟨[.ref z], []⟩) (fun fin s' => ∃ v, fin = .done (.ret v) ∧ Q v s') E s := by
  obtain ⟨hp, g, d, tk0, os⟩ := s
  show wpAny _ _ (field (.ref z) 2 >>= _) _ _ _
  refine wpAny_bind (wpAny_field hz rfl (x := .bool true) rfl ?_)
  show wpAny _ _ (field (.ref z) 3 >>= _) _ _ _
  refine wpAny_bind (wpAny_field hz rfl (x := .ref TI) rfl ?_)
  refine wpAny_bind (wpAny_seqItems hTI rfl ?_)
  show wpAny _ _ (Builtin.SmallTypes.ownedTupleIsFree (.ref z) >>= _) _ _ _
  refine wpAny_bind ?_
  unfold Builtin.SmallTypes.ownedTupleIsFree
  refine wpAny_bind (wpAny_field hz rfl (x := .none) rfl (wpAny_pure ?_))
  simp only [if_true]
  refine wpAny_bind (wpAny_rule ?_)
  refine wpAny_bind (wpAny_field hz rfl (x := .ref TO) rfl ?_)
  refine wpAny_bind (wpAny_setField_rec hz (by simp) fun g0 hz0 hs0 => ?_)
  replace hz0 : IsZipS g0 z TI TO .ellipsis := hz0
  replace hs0 : Heap.SameBut z hp g0 := hs0
  refine wpAny_bind ?_
  simp only [List.zipIdx_cons, List.zipIdx_nil, List.forIn_cons, List.forIn_nil]
  refine wpAny_bind (wpAny_bind (wpAny_onRaise ?_))
  show wpAny _ _ (Builtin.SmallTypes.nextOrEnd (.ref i1)) _ _ ⟨g0, g, d, tk0, os⟩
  refine nextE_item D1 hlt (D1.over st1 hs0 S.zf1) fun x1 p1 tk1 hx1 sn1 hp1 => ?_
  replace hp1 : Heap.SameBut i1 g0 p1 := hp1
  have hU1 : IsTupOf2 p1 TO a1 a2 := hp1.extBut _ _ S.Ti1 (hs0.extBut _ _ S.TOz hTO)
  refine wpAny_bind (wpAny_seqItems (s := ⟨p1, g, d, tk1, os⟩) hU1 rfl ?_)
  refine wpAny_bind (updateSeq_IsTupOf2 (s := ⟨p1, g, d, tk1, os⟩) hU1 fun g1 hT1 hs1 => ?_)
  replace hT1 : IsTupOf2 g1 TO x1 a2 := hT1
  replace hs1 : Heap.SameBut TO p1 g1 := hs1
  refine wpAny_bind (wpAny_letGo (wpAny_pure ?_))
  refine wpAny_bind (wpAny_bind (wpAny_onRaise ?_))
  show wpAny _ _ (Builtin.SmallTypes.nextOrEnd (.ref i2)) _ _ ⟨g1, g, d, tk1, os⟩
  refine nextE_item D2 hlt (D2.over (D2.over (D2.over st2 hs0 S.zf2) hp1 S.sep1_2) hs1 S.Tf2) fun x2 p2 tk2 hx2 sn2 hp2 => ?_
  replace hp2 : Heap.SameBut i2 g1 p2 := hp2
  have hU2 : IsTupOf2 p2 TO x1 a2 := hp2.extBut _ _ S.Ti2 hT1
  refine wpAny_bind (wpAny_seqItems (s := ⟨p2, g, d, tk2, os⟩) hU2 rfl ?_)
  refine wpAny_bind (updateSeq_IsTupOf2 (s := ⟨p2, g, d, tk2, os⟩) hU2 fun g2 hT2 hs2 => ?_)
  replace hT2 : IsTupOf2 g2 TO x1 x2 := hT2
  replace hs2 : Heap.SameBut TO p2 g2 := hs2
  refine wpAny_bind (wpAny_letGo (wpAny_pure (wpAny_pure ?_)))
  refine wpAny_bind (wpAny_seqItems (s := ⟨g2, g, d, tk2, os⟩) hT2 rfl ?_)
  refine wpAny_bind (wpAny_newTuple ?_)
  have hsz : g2.objs.size = hp.objs.size := by rw [hs2.1, hp2.1, hs1.1, hp1.1, hs0.1]
  have hzz : IsZipS g2 z TI TO .ellipsis := (hs2.extBut _ _ S.TOz.symm (hp2.extBut _ _ S.zi2 (hs1.extBut _ _ S.TOz.symm (hp1.extBut _ _ S.zi1 hz0))))
  have hkk : ∀ c o, c ≠ z → c ≠ TO → c ≠ i1 → c ≠ i2 → hp.get? c = some o → g2.get? c = some o := fun c o cz cT c1 c2 e =>
    (hs2.extBut _ _ cT (hp2.extBut _ _ c2 (hs1.extBut _ _ cT (hp1.extBut _ _ c1 (hs0.extBut _ _ cz e)))))
  have hj1 : St1 (i + 1) g2 := (D1.over (D1.over (D1.over sn1 hs1 S.Tf1) hp2 S.sep2_1) hs2 S.Tf1)
  have hj2 : St2 (i + 1) g2 := (D2.over sn2 hs2 S.Tf2)
  have hzlt : z < g2.objs.size := Heap.lt_size hzz
  show wpAny _ _ (Builtin.SmallTypes.ownedTupleHandOut (.ref z) (.ref g2.objs.size) >>= _) _ _ ⟨g2.push { cls := .type "tuple", data := .seq #[x1, x2] }, g, d, tk2, os⟩
  refine wpAny_bind ?_
  unfold Builtin.SmallTypes.ownedTupleHandOut
  have hz₆ : IsZipS (g2.push { cls := .type "tuple", data := .seq #[x1, x2] }) z TI TO .ellipsis := Heap.get?_push_of_some _ hzz
  refine wpAny_bind (wpAny_setField_rec hz₆ (by simp) fun h₇ hz₇ hs₇ => ?_)
  replace hz₇ : IsZipS h₇ z TI TO (rawInt g2.objs.size) := hz₇
  refine wpAny_setField_rec hz₇ (by simp) fun h₈ hz₈ hs₈ => ?_
  replace hz₈ : IsZipS h₈ z TI TO (rawInt g2.objs.size) := hz₈
  replace hs₇ : Heap.SameBut z (g2.push { cls := .type "tuple", data := .seq #[x1, x2] }) h₇ := hs₇
  replace hs₈ : Heap.SameBut z h₇ h₈ := hs₈
  have up : ∀ c o, c ≠ z → g2.get? c = some o → h₈.get? c = some o := fun c o c1 e => hs₈.extBut _ _ c1 (hs₇.extBut _ _ c1 (Heap.get?_push_of_some _ e))
  have hT₈ : IsTupOf2 h₈ g2.objs.size x1 x2 := hs₈.extBut _ _ (Nat.ne_of_gt hzlt) (hs₇.extBut _ _ (Nat.ne_of_gt hzlt) (Heap.get?_push_size _ rfl))
  have hz8 : h₈.objs.size = g2.objs.size + 1 := by rw [hs₈.1, hs₇.1, Heap.size_push]
  rw [hsz] at hz₈ hT₈ hz8
  refine wpAny_pure ⟨_, rfl, ?_⟩
  show Q (.ref g2.objs.size) ⟨h₈, g, d, tk2, os⟩
  rw [hsz]
  exact hQ x1 x2 h₈ tk2 hx1 hx2 hz₈ (up _ _ S.TOz hT2) (D1.frame _ _ _ hj1 fun b hb o e => up b o (fun q => S.zf1 (q ▸ hb)) e) (D2.frame _ _ _ hj2 fun b hb o e => up b o (fun q => S.zf2 (q ▸ hb)) e) hT₈ hz8 fun c o cz cT c1 c2 e => up c o cz (hkk c o cz cT c1 c2 e)
theorem zipS_next_end {Q : Fin → Shared → Prop} (hh : A.handled = none) (S : ZipSep2 z TI TO i1 i2 fp1 fp2) (D1 : Draws prog w A i1 fp1 n P1 St1) (D2 : Draws prog w A i2 fp2 n P2 St2)
    (hz : IsZipS s.heap z TI TO .none) (hTI : IsTupOf2 s.heap TI (.ref i1) (.ref i2)) (hTO : IsTupOf2 s.heap TO a1 a2) (st1 : St1 n s.heap) (st2 : St2 n s.heap)
    (hE : ∀ h' tk e, (∀ c o, c ≠ z → c ≠ TO → c ≠ i1 → c ≠ i2 → s.heap.get? c = some o → h'.get? c = some o) → (∃ o, h'.get? e = some o ∧ o.cls = .type "StopIteration") → E (.ref e) { s with heap := h', toks := tk }) :
    wpAny (model prog w) A (Builtin.«zip.__next__» ⟨[.ref z], []⟩) Q E s := by
  obtain ⟨hp, g, d, tk0, os⟩ := s
  show wpAny _ _ (field (.ref z) 2 >>= _) _ _ _
  refine wpAny_bind (wpAny_field hz rfl (x := .bool true) rfl ?_)
  show wpAny _ _ (field (.ref z) 3 >>= _) _ _ _
  refine wpAny_bind (wpAny_field hz rfl (x := .ref TI) rfl ?_)
  refine wpAny_bind (wpAny_seqItems hTI rfl ?_)
  show wpAny _ _ (Builtin.SmallTypes.ownedTupleIsFree (.ref z) >>= _) _ _ _
  refine wpAny_bind ?_
  unfold Builtin.SmallTypes.ownedTupleIsFree
  refine wpAny_bind (wpAny_field hz rfl (x := .none) rfl (wpAny_pure ?_))
  simp only [if_true]
  refine wpAny_bind (wpAny_rule ?_)
  refine wpAny_bind (wpAny_field hz rfl (x := .ref TO) rfl ?_)
  refine wpAny_bind (wpAny_setField_rec hz (by simp) fun g0 hz0 hs0 => ?_)
  replace hz0 : IsZipS g0 z TI TO .ellipsis := hz0
  replace hs0 : Heap.SameBut z hp g0 := hs0
  refine wpAny_bind ?_
  simp only [List.zipIdx_cons, List.zipIdx_nil, List.forIn_cons, List.forIn_nil]
  refine wpAny_bind (wpAny_bind (wpAny_onRaise ?_))
  show wpAny _ _ (Builtin.SmallTypes.nextOrEnd (.ref i1)) _ _ ⟨g0, g, d, tk0, os⟩
  refine nextE_end D1 (D1.over st1 hs0 S.zf1) fun q hq => ?_
  replace hq : Heap.ExtBut i1 g0 q := hq
  have hzq : IsZipS q z TI TO .ellipsis := hq _ _ S.zi1 hz0
  refine wpAny_bind (wpAny_setField_rec (s := ⟨q, g, d, tk0, os⟩) hzq (by simp) fun q' hz' hq' => ?_)
  replace hz' : IsZipS q' z TI TO .none := hz'
  replace hq' : Heap.SameBut z q q' := hq'
  refine wpAny_bind ?_
  show wpAny _ _ ((forIn [(Value.ref i2, 1)] PUnit.unit _) >>= _) _ _ ⟨q', g, d, tk0, os⟩
  simp only [List.forIn_cons, List.forIn_nil]
  have st2' : St2 n q' := D2.frame _ _ _ st2 fun b hb o e => hq'.extBut b o (fun x => S.zf2 (x ▸ hb)) (hq b o (fun x => S.sep1_2 (x ▸ hb)) (hs0.extBut b o (fun x => S.zf2 (x ▸ hb)) e))
  refine wpAny_bind (wpAny_bind (wpAny_bind (nextE_end D2 (s := ⟨q', g, d, tk0, os⟩) st2' fun q2 hq2 => ?_)))
  replace hq2 : Heap.ExtBut i2 q' q2 := hq2
  refine wpAny_pure (wpAny_pure ?_)
  refine wpAny_bind (wpAny_rule ?_)
  unfold Builtin.SmallTypes.stopIteration
  refine wpAny_bind ?_
  simp only [newExc, newTuple]
  refine wpAny_bind (wpAny_newObj_type ?_ (by size_fits))
  refine wpAny_bind (m := firstArgMember _ _) (wpAny_of_eq (a := Value.none) (by first | rfl | (simp only [firstArgMember]; rfl)) ?_)
  refine wpAny_newObj_type ?_ (by size_fits)
  simp only [raiseNew]
  refine wpAny_bind (wpAny_handled ?_)
  rw [hh]
  refine wpAny_bind (wpAny_pure (wpAny_throw ?_))
  refine hE _ _ _ (fun c o cz cT c1 c2 e => ?_) ⟨_, Heap.get?_push_size _ rfl, rfl⟩
  exact Heap.get?_push_of_some _ (Heap.get?_push_of_some _ (hq2 c o c2 (hq'.extBut c o cz (hq c o c1 (hs0.extBut c o cz e)))))
theorem pyNext_zipS_item {Q : Option Value → Shared → Prop} (S : ZipSep2 z TI TO i1 i2 fp1 fp2) (D1 : Draws prog w A.in1 i1 fp1 n P1 St1) (D2 : Draws prog w A.in1 i2 fp2 n P2 St2)
    (hz : IsZipS s.heap z TI TO .none) (hTI : IsTupOf2 s.heap TI (.ref i1) (.ref i2)) (hTO : IsTupOf2 s.heap TO a1 a2) (st1 : St1 i s.heap) (st2 : St2 i s.heap) (hlt : i < n)
    (hQ : ∀ x1 x2 h' tk, P1 i x1 → P2 i x2 → IsZipS h' z TI TO (rawInt s.heap.objs.size) → IsTupOf2 h' TO x1 x2 → St1 (i + 1) h' → St2 (i + 1) h' → IsTupOf2 h' s.heap.objs.size x1 x2 → h'.objs.size = s.heap.objs.size + 1 →
      (∀ c o, c ≠ z → c ≠ TO → c ≠ i1 → c ≠ i2 → s.heap.get? c = some o → h'.get? c = some o) → Q (some (.ref s.heap.objs.size)) { s with heap := h', toks := tk }) :
    wpAny (model prog w) A (pyNext (.ref z)) Q E s := by
  have hT : s.TypeIs (.ref z) "zip" := ⟨_, hz, rfl⟩
  unfold pyNext
  exact wpAny_bind (wpAny_attempt (wpAny_callSpecial?_slot (name := Str.ofString "__next__") hT F.slot_zip_next
    (wpAny_call_entry F.slot_zip_next hT F.entry_zip_next
      (zipS_next_item S D1 D2 hz hTI hTO st1 st2 hlt fun x1 x2 h' tk y1 y2 b1 b2 d1 d2 b5 b6 b7 => wpAny_pure (hQ x1 x2 h' tk y1 y2 b1 b2 d1 d2 b5 b6 b7)) (F.args_zip_next_1 _))))
theorem pyNext_zipS_end {Q : Option Value → Shared → Prop} (hh : A.handled = none) (S : ZipSep2 z TI TO i1 i2 fp1 fp2) (D1 : Draws prog w A.in1 i1 fp1 n P1 St1) (D2 : Draws prog w A.in1 i2 fp2 n P2 St2)
    (hz : IsZipS s.heap z TI TO .none) (hTI : IsTupOf2 s.heap TI (.ref i1) (.ref i2)) (hTO : IsTupOf2 s.heap TO a1 a2) (st1 : St1 n s.heap) (st2 : St2 n s.heap)
    (hQ : ∀ h' tk, (∀ c o, c ≠ z → c ≠ TO → c ≠ i1 → c ≠ i2 → s.heap.get? c = some o → h'.get? c = some o) → Q none { s with heap := h', toks := tk }) : wpAny (model prog w) A (pyNext (.ref z)) Q E s := by
  have hT : s.TypeIs (.ref z) "zip" := ⟨_, hz, rfl⟩
  unfold pyNext
  refine wpAny_bind (wpAny_attempt (wpAny_callSpecial?_slot (name := Str.ofString "__next__") hT F.slot_zip_next
    (wpAny_call_entry F.slot_zip_next hT F.entry_zip_next (zipS_next_end (show A.in1.handled = none from hh) S D1 D2 hz hTI hTO st1 st2 fun h' tk e hk he => ?_) (F.args_zip_next_1 _))))
  obtain ⟨o, ho, hc⟩ := he
  refine wpAny_bind (wpAny_isInstance (T := "StopIteration") (b := true) ⟨o, ho, hc⟩ isSubtype_stop ?_)
  exact wpAny_pure (hQ _ _ hk)
end
/-! its beginning -/
theorem typeCall_zip_strict (a b : Value) : checkTypeCall "zip" ⟨[a, b], [(Str.ofString "strict", .bool true)]⟩ = pure () := by kernel_rfl
theorem newCall_zip_strict (a b : Value) : checkBuiltinCall "zip.__new__" ⟨[.type "zip", a, b], [(Str.ofString "strict", .bool true)]⟩ = pure () := by kernel_rfl
theorem args_init_strict (obj a b : Value) : argsOk "object.__init__" ⟨[obj, a, b], [(Str.ofString "strict", .bool true)]⟩ := by unfold argsOk; kernel_rfl
abbrev gzS (h : Heap) (o1 o2 : Obj) : Heap := (gzO2 h o1 o2).push { cls := .type "zip", data := .fields #[.none, .bool false, .bool true, .ref ((h.push o1).push o2).objs.size, .ref (gzT2 h o1 o2).objs.size] }
theorem meets_zip_newS {v1 v2 : Value} {o1 o2 : Obj} {H1 H2 : Heap → Prop} (B1 : Begins v1 o1 H1) (B2 : Begins v2 o2 H2) :
    Meets (Builtin.«zip.__new__» ⟨[.type "zip", v1, v2], [(Str.ofString "strict", .bool true)]⟩) (fun _ R s => (H1 s.heap ∧ H2 s.heap) ∧
      R (.ok (.ret (.ref (gzO2 s.heap o1 o2).objs.size))) { s with heap := gzS s.heap o1 o2 }) :=
  .of_wp fun prog w A R s h => by
    obtain ⟨hp, g, d, tk, os⟩ := s; obtain ⟨⟨h1, h2⟩, h⟩ := h
    have hsub := sub_zip
    have q1 : ∀ {A' : Around} {E : Value → Shared → Prop} {Q : Value → Shared → Prop}, Q (.ref hp.objs.size) ⟨(hp.push o1), g, d, tk, os⟩ → wpAny (model prog w) A' (pyIter v1) Q E ⟨hp, g, d, tk, os⟩ :=
      fun q => B1.iter prog w _ _ ⟨hp, g, d, tk, os⟩ _ (B1.keeps _ _ h1 fun b o' e => e) q
    have q2 : ∀ {A' : Around} {E : Value → Shared → Prop} {Q : Value → Shared → Prop}, Q (.ref (hp.push o1).objs.size) ⟨((hp.push o1).push o2), g, d, tk, os⟩ → wpAny (model prog w) A' (pyIter v2) Q E ⟨(hp.push o1), g, d, tk, os⟩ :=
      fun q => B2.iter prog w _ _ ⟨(hp.push o1), g, d, tk, os⟩ _ (B2.keeps _ _ h2 fun b o' e => (Heap.get?_push_of_some _ e)) q
    have e1 : (Str.ofString "strict" != ("strict" : Str)) = false := by decide +kernel
    wp_walk using q1, q2
    exact ⟨_, rfl, h⟩
section
variable {prog : Program} {w : World} {A : Around} {E : Value → Shared → Prop} {s : Shared}
theorem zip_beginsS {v1 v2 : Value} {o1 o2 : Obj} {H1 H2 : Heap → Prop} {Q : Value → Shared → Prop} (B1 : Begins v1 o1 H1) (B2 : Begins v2 o2 H2) (h1 : H1 s.heap) (h2 : H2 s.heap)
    (h : ∀ h', IsZipS h' (s.heap.objs.size + 4) (s.heap.objs.size + 2) (s.heap.objs.size + 3) .none → IsTupOf2 h' (s.heap.objs.size + 2) (.ref s.heap.objs.size) (.ref (s.heap.objs.size + 1)) →
      IsTupOf2 h' (s.heap.objs.size + 3) .none .none → h'.get? s.heap.objs.size = some o1 → h'.get? (s.heap.objs.size + 1) = some o2 → h'.objs.size = s.heap.objs.size + 5 →
      (∀ c o, s.heap.get? c = some o → h'.get? c = some o) → Q (.ref (s.heap.objs.size + 4)) { s with heap := h' }) :
    wpAny (model prog w) A (call (.type "zip") [v1, v2] [(Str.ofString "strict", .bool true)]) Q E s := by
  refine callType_newKw F.called_zip (by decide) (typeCall_zip_strict _ _) (newCall_zip_strict _ _) (fun obj => args_init_strict obj _ _) F.entry_zip_new (meets_zip_newS B1 B2) ⟨⟨h1, h2⟩, ?_⟩
  have z1 : (s.heap.push o1).objs.size = s.heap.objs.size + 1 := by rw [Heap.size_push]
  have z2 : ((s.heap.push o1).push o2).objs.size = s.heap.objs.size + 2 := by rw [Heap.size_push, z1]
  have zT : (gzT2 s.heap o1 o2).objs.size = s.heap.objs.size + 3 := by rw [Heap.size_push, z2]
  have zO : (gzO2 s.heap o1 o2).objs.size = s.heap.objs.size + 4 := by rw [Heap.size_push, zT]
  have zZ : (gzS s.heap o1 o2).objs.size = s.heap.objs.size + 5 := by rw [Heap.size_push, zO]
  have gZ : (gzS s.heap o1 o2).get? (gzO2 s.heap o1 o2).objs.size = some { cls := .type "zip", data := .fields #[.none, .bool false, .bool true, .ref ((s.heap.push o1).push o2).objs.size, .ref (gzT2 s.heap o1 o2).objs.size] } := Heap.get?_push_size _ rfl
  have gO : (gzS s.heap o1 o2).get? (gzT2 s.heap o1 o2).objs.size = some { cls := .type "tuple", data := .seq #[.none, .none] } := Heap.get?_push_of_some _ (Heap.get?_push_size _ rfl)
  have gT : (gzS s.heap o1 o2).get? ((s.heap.push o1).push o2).objs.size = some { cls := .type "tuple", data := .seq #[.ref s.heap.objs.size, .ref (s.heap.push o1).objs.size] } := Heap.get?_push_of_some _ (Heap.get?_push_of_some _ (Heap.get?_push_size _ rfl))
  have g1 : (gzS s.heap o1 o2).get? s.heap.objs.size = some o1 := Heap.get?_push_of_some _ (Heap.get?_push_of_some _ (Heap.get?_push_of_some _ (Heap.get?_push_of_some _ (Heap.get?_push_size _ B1.free))))
  have g2 : (gzS s.heap o1 o2).get? (s.heap.push o1).objs.size = some o2 := Heap.get?_push_of_some _ (Heap.get?_push_of_some _ (Heap.get?_push_of_some _ (Heap.get?_push_size _ B2.free)))
  rw [zO, zT, z2] at gZ
  rw [zT] at gO
  rw [z2, z1] at gT
  rw [z1] at g2
  show _ ∧ _
  rw [zO]
  exact ⟨⟨_, gZ, rfl⟩, h _ gZ gT gO g1 g2 zZ fun c o e => Heap.get?_push_of_some _ (Heap.get?_push_of_some _ (Heap.get?_push_of_some _ (Heap.get?_push_of_some _ (Heap.get?_push_of_some _ e))))⟩
end
/-! the walk -/
section
variable {M : Model} {A : Around} {E : Value → Shared → Prop} {s : Shared} {env : Env}
theorem callWith_tkw {pos : Pos} {T : String} {e : Expr} {rest : List Expr} {kws : List Keyword} {Q : Value → Shared → Prop}
    (h : wpAny M A (spliced (backTo pos (starEach (e :: rest) env))) (fun vs s₁ => wpAny M A (evalAll ((backToKw pos (keywordEach kws env)).map (·.2)))
      (fun kvs s₂ => wpAny M A (call (.type T) vs (((backToKw pos (keywordEach kws env)).filterMap (·.1)).zip kvs)) Q E s₂) E s₁) E s)
    (he : backTo pos (starEach (e :: rest) env) = (false, eval e env) :: backTo pos (starEach rest env) := by rfl)
    (hplain : (backTo pos (starEach (e :: rest) env)).any (·.1) = false := by rfl)
    (hall : (backToKw pos (keywordEach kws env)).all (·.1.isSome) = true := by rfl)
    (hkw : (backToKw pos (keywordEach kws env)).any (·.1.isNone) = false := by rfl) :
    wpAny M A (callWith pos (.type T) [] (backTo pos (starEach (e :: rest) env)) (backToKw pos (keywordEach kws env))) Q E s := by
  have h' : wpAny M A (evalArgs (.type T) true (backTo pos (starEach (e :: rest) env)) (backToKw pos (keywordEach kws env))) (fun a s₁ => wpAny M A (call (.type T) ([] ++ a.pos) a.kw) Q E s₁) E s := by
    rw [he] at h ⊢
    exact PyProof.Rows.evalArgs_kwB hall h
  unfold callWith
  refine wpAny_bind (wpAny_holding (wpAny_mono h' (fun a s₁ h₁ => wpAny_bind (wpAny_standAt ?_)) fun _ _ x => x))
  simp only [hplain, hkw, Bool.or_false]
  refine wpAny_bind (wpAny_pure ?_)
  exact wpAny_bind (wpAny_mono h₁ (fun r s₂ hr => wpAny_bind (wpAny_holding (wpAny_point (wpAny_pure hr)))) fun _ _ x => x)
end
section
variable {prog : Program} {w : World} {A : Around} {E : Value → Shared → Prop} {s : Shared}
theorem letGo_zipS {elts : List Expr} {x1} {pos : Pos} {z TI TO T : Addr} {Q : Unit → Shared → Prop} (hz : IsZipS s.heap z TI TO (rawInt T))
    (hQ : ∀ h', IsZipS h' z TI TO .none → Heap.SameBut z s.heap h' → Q () { s with heap := h' }) :
    wpAny (model prog w) A (letOwnedTupleGo (.Tuple elts x1 pos) (.ref z) (.ref T)) Q E s := by
  unfold letOwnedTupleGo
  refine wpAny_bind (wpAny_load hz ?_)
  show wpAny _ _ (if (["enumerate", "zip", "dict_itemiterator", "dict_reverseitemiterator", "odict_iterator", "itertools.zip_longest", "itertools.pairwise"].contains "zip" &&
      (#[rawInt T, .bool false, .bool true, .ref TI, .ref TO] : Array Value)[0]? == some (rawInt T)) = true then _ else _) Q E s
  rw [if_pos (by simp)]
  refine wpAny_bind (wpAny_rule ?_)
  show wpAny _ _ (setField (.ref z) 0 .none) Q E s
  exact wpAny_setField_rec hz (by simp) fun h' hz' hs' => hQ h' hz' hs'
theorem pyIter_zipS {z TI TO : Addr} {f0 : Value} {Q : Value → Shared → Prop} (hz : IsZipS s.heap z TI TO f0) (h : Q (.ref z) s) : wpAny (model prog w) A (pyIter (.ref z)) Q E s := by
  have hT : s.TypeIs (.ref z) "zip" := ⟨_, hz, rfl⟩
  refine wpAny_pyIter_slot hT F.slot_zip_iter (wpAny_call_entry F.slot_zip_iter hT F.entry_zip_iter ?_ (F.args_zip_iter_1 _))
  show wpAny _ _ (ret (.ref z)) _ _ s
  exact wpAny_pure ⟨_, rfl, "zip", _, hT, F.slot_zip_next.lookup, h⟩
end
def ItzS (K : PySem.W.Frag) (x : Str) (b : Addr) : It :=
  ⟨fun i H => ∃ (ys : List V) (y : V), SqT K H b ys ∧ ys.length = x.cps.size ∧ ys[i]? = some y,
    fun i H v H' => ∃ T c y, v = .ref T ∧ H T = none ∧ H' = L2.upd H T (.tup [.str ⟨#[c]⟩, y]) ∧ x.cps[i]? = some c ∧ ∀ ys, SqT K H b ys → ys[i]? = some y,
    fun i H => ∃ ys : List V, SqT K H b ys ∧ ys.length = x.cps.size ∧ x.cps.size ≤ i⟩
theorem turn_zipS {P : Program} {w : World} {K : PySem.W.Frag} {elts : List Expr} {kk : Nat} {tpos : Pos} {x : Str} {t : Tok} {b z TI TO i1 i2 : Addr} (D : ZipSep2 z TI TO i1 i2 [i1] [i2, b]) (hne : b ≠ i2) :
    Turn P w K (.Tuple elts kk tpos) (ItzS K x b) [z, TI, TO, i1, i2] z (fun i h => IsZipS h z TI TO .none ∧ IsTupOf2 h TI (.ref i1) (.ref i2) ∧ (∃ u v, IsTupOf2 h TO u v) ∧ h.IsStrIter i1 (strIterType x) x t i ∧ h.IsTupleIter i2 b i ∧ i ≤ x.cps.size) where
  mem := by simp
  obj := fun i h st c hc => by
    obtain ⟨hz, hTI, ⟨u, v, hTO⟩, ⟨o1, e1, _, d1⟩, ⟨o2, e2, _, d2⟩, _⟩ := st
    have e' : c = z ∨ c = TI ∨ c = TO ∨ c = i1 ∨ c = i2 := by simpa using hc
    rcases e' with q | q | q | q | q
    · rw [q]; exact ⟨_, hz, fun v q => nomatch q⟩
    · rw [q]; exact ⟨_, hTI, fun v q => nomatch q⟩
    · rw [q]; exact ⟨_, hTO, fun v q => nomatch q⟩
    · rw [q]; exact ⟨o1, e1, fun v q => by rw [d1] at q; cases q⟩
    · rw [q]; exact ⟨o2, e2, fun v q => by rw [d2] at q; cases q⟩
  keep := fun i h h' st k => by
    obtain ⟨hz, hTI, ⟨u, v, hTO⟩, ⟨o1, e1, r1⟩, h2, hl⟩ := st
    exact ⟨k z (by simp) _ hz, k TI (by simp) _ hTI, ⟨u, v, k TO (by simp) _ hTO⟩, ⟨o1, k i1 (by simp) o1 e1, r1⟩, h2.at fun o q => k i2 (by simp) o q, hl⟩
  item := by
    intro X hP hw hK hc i pins s σ H E I hf st hg
    subst hP hw hK
    obtain ⟨hz, hTI, ⟨u0, v0, hTO⟩, h1, h2, hl⟩ := st
    obtain ⟨ys, y, hqy, hlen, hy⟩ := hg
    obtain ⟨its2, rv2, p2, _⟩ := I.tuple hqy
    obtain ⟨u2, hu2, ru2⟩ := rv2.get hy
    have hzl : z < s.heap.objs.size := Heap.lt_size hz
    have hil : i < x.cps.size := by
      have := (List.getElem?_eq_some_iff.mp hy).1
      omega
    have hh : X.A.in1.handled = none := I.ok.hd hc
    have hsz : its2.toArray.size = x.cps.size := by rw [List.size_toArray, ← rv2.length, hlen]
    have D2 := Draws.tuple (prog := X.prog) (w := X.w) hh i2 b hne its2.toArray
    rw [hsz] at D2
    refine pyNext_zipS_item D (Draws.text hh i1 x t) D2 hz hTI hTO h1 ⟨h2, p2⟩ hil fun w1 w2 h' tk q1 q2 z' TO' h1' h2' hT hsz' hk => ?_
    obtain ⟨c, u, hc', rfl⟩ := q1
    have ew : w2 = u2 := by
      have e : its2.toArray[i]? = some w2 := q2
      rw [List.getElem?_toArray, hu2] at e
      exact (Option.some.inj e).symm
    subst ew
    refine ⟨_, rfl, letGo_zipS (s := { s with heap := h', toks := tk }) z' fun h'' z'' sb => ?_⟩
    have hT2 : h''.get? s.heap.objs.size = some { cls := .type "tuple", data := .seq #[.str ⟨#[c]⟩ u, w2] } := (sb.2 _ (Nat.ne_of_gt hzl)).trans hT
    have new : ObjOk X.prog X.w (L2.upd H s.heap.objs.size (.tup [.str ⟨#[c]⟩, y])) h'' s.heap.objs.size (.tup [.str ⟨#[c]⟩, y]) :=
      ⟨by show 2 ≤ sizeLine; decide, [.str ⟨#[c]⟩ u, w2], .cons ⟨_, rfl⟩ (.cons ru2 .nil), ⟨_, hT2, rfl, _, rfl⟩⟩
    have I1 : Inv X pins σ (L2.upd H s.heap.objs.size (.tup [.str ⟨#[c]⟩, y])) { s with heap := h'', toks := tk } :=
      I.turnedNew (ch := [z, TI, TO, i1, i2]) (fun c o hb q => (sb.2 c (fun q' => hb (by simp [q']))).trans (hk c o (fun q' => hb (by simp [q'])) (fun q' => hb (by simp [q'])) (fun q' => hb (by simp [q'])) (fun q' => hb (by simp [q'])) q)) hf (Nat.le_refl _) new
    refine ⟨.ref s.heap.objs.size, _, I1, rfl, ⟨_, c, y, rfl, I.hok.fresh (Nat.le_refl _), rfl, hc', fun l hl => by rw [I.tuple_inj hl hqy]; exact hy⟩, ⟨z'', ?_, ⟨.str ⟨#[c]⟩ u, w2, ?_⟩, ?_, ?_, hil⟩, fun c hcm => ?_⟩
    · exact (sb.2 _ D.TIz).trans (hk _ _ D.TIz D.TITO D.TIi1 D.TIi2 hTI)
    · exact (sb.2 _ D.TOz).trans TO'
    · obtain ⟨o1, e1, r1⟩ := h1'
      exact ⟨o1, (sb.2 _ (Ne.symm D.zi1)).trans e1, r1⟩
    · exact h2'.1.at fun o q => (sb.2 _ (Ne.symm D.zi2)).trans q
    · have hlt : c < s.heap.objs.size := by
        have e' : c = z ∨ c = TI ∨ c = TO ∨ c = i1 ∨ c = i2 := by simpa using hcm
        rcases e' with q | q | q | q | q
        · rw [q]; exact hzl
        · rw [q]; exact Heap.lt_size hTI
        · rw [q]; exact Heap.lt_size hTO
        · rw [q]; obtain ⟨_, e1, _⟩ := h1; exact Heap.lt_size e1
        · rw [q]; obtain ⟨_, e2, _⟩ := h2; exact Heap.lt_size e2
      rw [upd_ne (Nat.ne_of_lt hlt)]
      exact (hf c hcm).1
  done := by
    intro X hP hw hK hc i pins s σ H E I hf st hg
    subst hP hw hK
    obtain ⟨hz, hTI, ⟨u0, v0, hTO⟩, h1, h2, hl⟩ := st
    obtain ⟨ys, hqy, hlen, hend⟩ := hg
    obtain ⟨its2, rv2, p2, _⟩ := I.tuple hqy
    have ei : i = x.cps.size := by omega
    subst ei
    have hh : X.A.in1.handled = none := I.ok.hd hc
    have hsz : its2.toArray.size = x.cps.size := by rw [List.size_toArray, ← rv2.length, hlen]
    have D2 := Draws.tuple (prog := X.prog) (w := X.w) hh i2 b hne its2.toArray
    rw [hsz] at D2
    exact pyNext_zipS_end (I.ok.hd hc) D (Draws.text hh i1 x t) D2 hz hTI hTO h1 ⟨h2, p2⟩ fun h' tk hk => ⟨rfl, I.turnedL (t' := tk) (ch := [z, TI, TO, i1, i2]) (fun c o hb q =>
      hk c o (fun q' => hb (by simp [q'])) (fun q' => hb (by simp [q'])) (fun q' => hb (by simp [q'])) (fun q' => hb (by simp [q'])) q) hf⟩
  self := fun A i s Q E st h => pyIter_zipS st.1 h
def iZipS (K : PySem.W.Frag) (ta : TA) : TI := fun σ H R => ta σ H fun vs H1 => ∃ x b ys, vs = [.str x, .ref b] ∧ SqT K H1 b ys ∧ ys.length = x.cps.size ∧ R (ItzS K x b) H1
theorem pi_zipS {X : Cx} {e e2 : Expr} {ta : TA} {p pos tpos kp kp2 : Pos} {k2 : Nat} {elts : List Expr} {kk : Nat} (hg : Gl X "zip") (hm : X.mg "zip" = none) (ha : PA X [e, e2] ta)
    (he : backTo pos (starEach [e, e2] X.env) = (false, eval e X.env) :: backTo pos (starEach [e2] X.env) := by rfl) (hpl : (backTo pos (starEach [e, e2] X.env)).any (·.1) = false := by rfl) :
    PI X (.Tuple elts kk tpos) (.Call (.Name "zip" p) [e, e2] [⟨some "strict", .Constant (.bool true) k2 kp2, kp⟩] pos) (iZipS X.K ta) := by
  refine ⟨fun pins s σ H R I h => ?_⟩
  refine wpAny_Call_Name_kw (ld_blt I hg hm PyProof.Rows.boot_zip (callWith_tkw (thn (ha.run pos pins s σ H _ I h) fun us s1 ⟨vs, H1, I1, r1, q1⟩ => PyProof.Rows.kws_cons ?_) he hpl rfl rfl))
  obtain ⟨x, b, ys, ex, hq, hlen, q⟩ := q1
  subst ex
  cases r1 with
  | cons r rr =>
    cases rr with
    | cons r' rr =>
      cases rr
      obtain ⟨t, rfl⟩ := r
      cases r'
      have fresh5 : ∀ c, c ∈ [s1.heap.objs.size + 4, s1.heap.objs.size + 2, s1.heap.objs.size + 3, s1.heap.objs.size, s1.heap.objs.size + 1] → FpOk X pins H1 c := fun c hcm => by
        have e' : c = s1.heap.objs.size + 4 ∨ c = s1.heap.objs.size + 2 ∨ c = s1.heap.objs.size + 3 ∨ c = s1.heap.objs.size ∨ c = s1.heap.objs.size + 1 := by simpa using hcm
        have hle : s1.heap.objs.size ≤ c := by
          rcases e' with z | z | z | z | z
          · rw [z]; exact Nat.le_add_right _ _
          · rw [z]; exact Nat.le_add_right _ _
          · rw [z]; exact Nat.le_add_right _ _
          · rw [z]; exact Nat.le_refl _
          · rw [z]; exact Nat.le_add_right _ _
        exact I1.fpOk hle (I1.hok.fresh hle)
      obtain ⟨its2, rv2, p2, _⟩ := I1.tuple hq
      obtain ⟨o2, ho2, _⟩ := id p2
      have hbl : b < s1.heap.objs.size := Heap.lt_size ho2
      refine PyProof.Rows.Constant_bool ?_
      refine PyProof.Rows.kws_nil ?_
      refine zip_beginsS (begins_text x t) (begins_tuple b its2.toArray) trivial (show s1.heap.IsTuple b its2.toArray from p2) fun h' hz hTI hTO g1 g2 hsz hk => pyIter_zipS hz ?_
      have I2 : Inv X pins σ H1 { s1 with heap := h' } := I1.kept (t' := s1.toks) hk
      have sep : ZipSep2 (s1.heap.objs.size + 4) (s1.heap.objs.size + 2) (s1.heap.objs.size + 3) s1.heap.objs.size (s1.heap.objs.size + 1) [s1.heap.objs.size] [s1.heap.objs.size + 1, b] := by
        have k : ∀ {a b : Nat}, a ≠ b → s1.heap.objs.size + a ≠ s1.heap.objs.size + b := fun h e => h (Nat.add_left_cancel e)
        have k0 : ∀ {a : Nat}, 0 < a → s1.heap.objs.size + a ≠ s1.heap.objs.size := fun {a} h e => by
          have e : s1.heap.objs.size + a = s1.heap.objs.size + 0 := e
          have := Nat.add_left_cancel e
          omega
        have kb : ∀ {a : Nat}, s1.heap.objs.size + a ≠ b := fun {a} e => Nat.lt_irrefl b (Nat.lt_of_lt_of_le hbl (by rw [← e]; exact Nat.le_add_right _ _))
        exact ⟨k (by decide), k (by decide), k (by decide), k0 (by decide), by simp, by simpa using k0 (by decide), by simpa using k0 (by decide), k (by decide), by simp, by simpa using kb, by simpa using kb, by simpa using (kb (a := 0)), by simpa using k0 (by decide)⟩
      exact ⟨s1.heap.objs.size + 4, [s1.heap.objs.size + 4, s1.heap.objs.size + 2, s1.heap.objs.size + 3, s1.heap.objs.size, s1.heap.objs.size + 1], _, _, H1, rfl, I2, turn_zipS (x := x) (t := t) sep (Nat.ne_of_lt (Nat.lt_of_lt_of_le hbl (Nat.le_add_right _ _))), ⟨hz, hTI, ⟨_, _, hTO⟩, ⟨_, g1, rfl, rfl⟩, ⟨_, g2, rfl, rfl⟩, Nat.zero_le _⟩, fresh5, q⟩
theorem walk_zipS {K : PySem.W.Frag} {x : Str} {b : Addr} {ys : List V} (hl : ys.length = x.cps.size) : Walk (ItzS K x b) x.cps.size (fun H => SqT K H b ys) (fun i H v H' => ∃ T c y, v = .ref T ∧ H T = none ∧ H' = L2.upd H T (.tup [.str ⟨#[c]⟩, y]) ∧ x.cps[i]? = some c ∧ ys[i]? = some y) := by
  refine ⟨fun i H hi q => ⟨ys, ys[i], q, hl, List.getElem?_eq_getElem (by omega)⟩, fun H q => ⟨ys, q, hl, Nat.le_refl _⟩, fun i H v H' _ q y => ?_⟩
  obtain ⟨T, c, y, h1, h2, h3, h4, h5⟩ := y
  exact ⟨T, c, y, h1, h2, h3, h4, h5 ys q⟩
section
variable {C : Cf} {ca cb : Cat} {ta tb : TE} {da db : DT}
def dZipS (a b : DT) : DI := fun s Q => a s fun d s1 => b s1 fun e s2 => match d, e with
  | .str z, .tuple es => es.length = (signs z).length ∧ Q (prD (signs z) es) s2
  | _, _ => False
theorem simI_zipS (ha : Sim C ca ta da) (hb : Sim C cb tb db) : SimI C true (iZipS C.K (tCons ta (tCons tb tNil))) (dZipS da db) := by
  refine ⟨fun H0 S0 Hs σ H s Q Q' r q k => ha.toE.run H0 S0 Hs σ H s _ _ r q fun Hs1 H1 v d s1 g1 r1 v1 q1 => hb.toE.run H0 S0 Hs1 σ H1 s1 _ _ r1 q1 fun Hs2 H2 w e s2 g2 r2 v2 q2 => ?_⟩
  cases d <;> cases e <;> first | exact q2.elim | skip
  rename_i z es
  have v1' : Rp C.K Hs1 v (.str z) := v1
  have v2' : Rp C.K Hs2 w (.tuple es) := v2
  cases v1'
  cases v2' with
  | @tup y ys _ e3 e4 =>
  obtain ⟨hl, q2⟩ := q2
  have hsl : (signs z).length = z.cps.size := by unfold signs; rw [List.length_map, Array.length_toList]
  have hyl : ys.length = z.cps.size := by rw [e4.len, hl, hsl]
  refine ⟨z, y, ys, rfl, Same.sqT r2.sub e3.sq, hyl, k Hs2 H2 _ _ s2 (g1.trans g2) r2 ?_ q2⟩
  have hpl : (prD (signs z) es).length = z.cps.size := by rw [zip_len, hl, Nat.min_self, hsl]
  refine ⟨_, _, by rw [hpl]; exact walk_zipS hyl, fun H e => Same.sqT e e3.sq, fun i H v H2 H0 S0 Hs σ s hi r e y => ?_⟩
  obtain ⟨T, c, x2, rfl, nT, rfl, f1, f2⟩ := y
  obtain ⟨d', f5, f6⟩ := e4.getV f2
  obtain ⟨Hs2, r2, rp, g⟩ := pair_it r nT (Rp.str ⟨#[c]⟩) (Rp.mono e f6)
  refine ⟨Hs2, _, zip_get ?_ f5, r2, rp, g⟩
  unfold signs
  rw [List.getElem?_map, Array.getElem?_toList, f1]
  rfl
end

/-! ### constants of the module: tuples, tables with texts as keys -/
mutual
def ktIn (K : PySem.W.Frag) : D → Value → Bool
  | .none, .none => true
  | .bool a, .bool b => a == b
  | .int a, .int b _ => decide (a = b)
  | .str a, .str b _ => decide (a = b)
  | .tuple ds, .ref a => (match K.lookup a with
    | some ⟨.type "tuple", none, .seq its _, _⟩ => decide (its.size ≤ 1000) && ktAll K ds its.toList
    | _ => false)
  | _, _ => false
def ktAll (K : PySem.W.Frag) : List D → List Value → Bool
  | [], [] => true
  | d :: ds, u :: us => ktIn K d u && ktAll K ds us
  | _, _ => false
end
mutual
theorem kt_rp {K : PySem.W.Frag} : ∀ (d : D) (u : Value), ktIn K d u = true → ∃ v, RelV v u ∧ ∀ H, Rp K H v d
  | .none, u, h => by
    cases u <;> first | (simp [ktIn] at h; done) | skip
    exact ⟨.non, rfl, fun H => .non⟩
  | .bool a, u, h => by
    cases u <;> first | (simp [ktIn] at h; done) | skip
    simp only [ktIn, beq_iff_eq] at h
    subst h
    exact ⟨.bl _, rfl, fun H => .bl _⟩
  | .int a, u, h => by
    cases u <;> first | (simp [ktIn] at h; done) | skip
    simp only [ktIn, decide_eq_true_eq] at h
    subst h
    exact ⟨.int _, ⟨_, rfl⟩, fun H => .int _⟩
  | .str a, u, h => by
    cases u <;> first | (simp [ktIn] at h; done) | skip
    simp only [ktIn, decide_eq_true_eq] at h
    subst h
    exact ⟨.str _, ⟨_, rfl⟩, fun H => .str _⟩
  | .list ds, u, h => by cases u <;> simp [ktIn] at h
  | .dict ds, u, h => by cases u <;> simp [ktIn] at h
  | .tuple ds, u, h => by
    cases u <;> first | (simp [ktIn] at h; done) | skip
    rename_i a
    unfold ktIn at h
    split at h
    · rename_i its n sl e
      rw [Bool.and_eq_true, decide_eq_true_eq] at h
      obtain ⟨vs, h1, h2⟩ := kt_all ds its.toList h.2
      exact ⟨.ref a, rfl, fun H => .tup (.inr ⟨_, its, n, e, rfl, rfl, rfl, Nat.le_trans h.1 (by decide), h1⟩) (h2 H)⟩
    · cases h
theorem kt_all {K : PySem.W.Frag} : ∀ (ds : List D) (us : List Value), ktAll K ds us = true → ∃ vs, Vals vs us ∧ ∀ H, RpAll K H vs ds
  | [], us, h => by
    cases us with
    | nil => exact ⟨[], .nil, fun H => .nil⟩
    | cons u us => simp [ktAll] at h
  | d :: ds, us, h => by
    cases us with
    | nil => simp [ktAll] at h
    | cons u us =>
      rw [ktAll, Bool.and_eq_true] at h
      obtain ⟨v, h1, h2⟩ := kt_rp d u h.1
      obtain ⟨vs, h3, h4⟩ := kt_all ds us h.2
      exact ⟨v :: vs, .cons h1 h3, fun H => .cons (h2 H) (h4 H)⟩
end
/-- a constant of the module that is a tuple -/
def Gt (K : PySem.W.Frag) (mg : Str → Option Value) (x : Str) (d : D) : Prop := ∃ u, mg x = some u ∧ ktIn K d u = true
theorem Gt.ex {K : PySem.W.Frag} {mg : Str → Option Value} {x : Str} {d : D} (h : Gt K mg x d) : ∃ v u, mg x = some u ∧ RelV v u ∧ ∀ H, Rp K H v d := by
  obtain ⟨u, e, k⟩ := h
  obtain ⟨v, r, q⟩ := kt_rp d u k
  exact ⟨v, u, e, r, q⟩
noncomputable def Gt.v {K : PySem.W.Frag} {mg : Str → Option Value} {x : Str} {d : D} (h : Gt K mg x d) : V := h.ex.choose
theorem Gt.spec {K : PySem.W.Frag} {mg : Str → Option Value} {x : Str} {d : D} (h : Gt K mg x d) : ∃ u, mg x = some u ∧ RelV h.v u ∧ ∀ H, Rp K H h.v d := h.ex.choose_spec
theorem pe_gt {X : Cx} {x : Str} {d : D} {pos : Pos} {K : PySem.W.Frag} {mg : Str → Option Value} (hg : Gl X x) (h : Gt K mg x d) (hm : X.mg = mg := by rfl) (hd : (x == ("__debug__" : Str)) = false := by decide) : PE X (.Name x pos) (tC h.v) := by
  obtain ⟨u, e, r, _⟩ := h.spec
  exact pe_glob hg (by rw [hm]; exact e) r hd
theorem sim_gt {C : Cf} {mg : Str → Option Value} {x : Str} {d : D} (h : Gt C.K mg x d) : Sim C .E (tC h.v) (dC d) := by
  obtain ⟨u, e, r, q⟩ := h.spec
  exact ⟨fun H0 S0 Hs σ H s Q Q' r q' k => k Hs H _ d s Go.refl r (q Hs) q'⟩
/-! tables -/
def findT : List (Str × D) → Str → Option D
  | [], _ => none
  | (k, d) :: r, z => if k = z then some d else findT r z
def tabIn (K : PySem.W.Frag) : List (Str × D) → List DictEntry → Bool
  | [], [] => true
  | (k, d) :: r, e :: es => (match e.key with | .str y _ => decide (k = y) | _ => false) && ktIn K d e.val && tabIn K r es
  | _, _ => false
structure GdAt (w : World) (K : PySem.W.Frag) (mg : Str → Option Value) (x : Str) (tab : List (Str × D)) (a : Addr) : Prop where
  g : mg x = some (.ref a)
  ex : ∃ (es : Array DictEntry) (n : Nat), K.lookup a = some ⟨.type "dict", none, .dict es n, #[]⟩ ∧ PySem.W.KeysLit w.params es.toList ∧ tabIn K tab es.toList = true
  low : (a == sysModules) = false
def Gd (w : World) (K : PySem.W.Frag) (mg : Str → Option Value) (x : Str) (tab : List (Str × D)) : Prop := ∃ a, GdAt w K mg x tab a
theorem tab_find {K : PySem.W.Frag} {z : Str} : ∀ (tab : List (Str × D)) (es : List DictEntry), tabIn K tab es = true → (findT tab z = none ∧ es.find? (·.key.isStr z) = none) ∨ ∃ d e, findT tab z = some d ∧ es.find? (·.key.isStr z) = some e ∧ ktIn K d e.val = true
  | [], [], _ => .inl ⟨rfl, rfl⟩
  | [], _ :: _, h => by simp [tabIn] at h
  | _ :: _, [], h => by simp [tabIn] at h
  | (k, d) :: r, e :: es, h => by
    rw [tabIn, Bool.and_eq_true, Bool.and_eq_true] at h
    obtain ⟨⟨h1, h2⟩, h3⟩ := h
    split at h1
    · rename_i y t ey
      have h1 := of_decide_eq_true h1
      subst h1
      by_cases hz : k = z
      · subst hz
        refine .inr ⟨d, e, if_pos rfl, ?_, h2⟩
        rw [List.find?_cons, ey]
        have : (Value.str k t).isStr k = true := by rw [PySem.W.isStr_of]; simp [Value.isStrOf]
        rw [this]
      · have e1 : findT ((k, d) :: r) z = findT r z := if_neg hz
        have e2 : (e :: es).find? (·.key.isStr z) = es.find? (·.key.isStr z) := by
          rw [List.find?_cons, ey]
          have : (Value.str k t).isStr z = false := by
            rw [PySem.W.isStr_of]
            simp [Value.isStrOf, hz]
            try exact fun q => hz q.symm
          rw [this]
        rw [e1, e2]
        exact tab_find r es h3
    · cases h1
theorem tab_nos {K : PySem.W.Frag} : ∀ (tab : List (Str × D)) (es : List DictEntry), tabIn K tab es = true → es.any (·.refKey) = false
  | [], [], _ => rfl
  | [], _ :: _, h => by simp [tabIn] at h
  | _ :: _, [], h => by simp [tabIn] at h
  | (k, d) :: r, e :: es, h => by
    rw [tabIn, Bool.and_eq_true, Bool.and_eq_true] at h
    obtain ⟨⟨h1, h2⟩, h3⟩ := h
    rw [List.any_cons, tab_nos r es h3, Bool.or_false]
    split at h1
    · rename_i y t ey
      unfold DictEntry.refKey
      rw [ey]
    · cases h1
theorem GdAt.ns {w : World} {K : PySem.W.Frag} {mg : Str → Option Value} {x : Str} {tab : List (Str × D)} {a : Addr} (h : GdAt w K mg x tab a) (z : Str) : (findT tab z = none ∧ PySem.W.nsIn K a z = some none) ∨ ∃ d u, findT tab z = some d ∧ PySem.W.nsIn K a z = some (some u) ∧ ktIn K d u = true := by
  obtain ⟨es, n, l, kl, ti⟩ := h.ex
  unfold PySem.W.nsIn
  rw [l]
  dsimp only
  rcases tab_find (z := z) tab es.toList ti with ⟨h1, h2⟩ | ⟨d, e, h1, h2, h3⟩
  · refine .inl ⟨h1, ?_⟩
    rw [h2]
    dsimp only
    rw [if_neg]
    rw [tab_nos _ _ ti]
    exact Bool.false_ne_true
  · refine .inr ⟨d, e.val, h1, ?_, h3⟩
    rw [h2]
noncomputable def Gd.a {w : World} {K : PySem.W.Frag} {mg : Str → Option Value} {x : Str} {tab : List (Str × D)} (h : Gd w K mg x tab) : Addr := h.choose
theorem Gd.at_ {w : World} {K : PySem.W.Frag} {mg : Str → Option Value} {x : Str} {tab : List (Str × D)} (h : Gd w K mg x tab) : GdAt w K mg x tab h.a := h.choose_spec
section
variable {X : Cx} {w : World} {K : PySem.W.Frag} {mg : Str → Option Value} {x : Str} {tab : List (Str × D)}
theorem pe_tab {pos : Pos} (hg : Gl X x) (h : Gd w K mg x tab) (hm : X.mg = mg := by rfl) (hd : (x == ("__debug__" : Str)) = false := by decide) : PE X (.Name x pos) (tC (.ref h.a)) :=
  pe_glob hg (by rw [hm]; exact h.at_.g) rfl hd
def rTabIn (neg : Bool) (K : PySem.W.Frag) (a : Addr) : R2 := fun x y H Q => ∃ (z : Str) (r : Option Value), x = .str z ∧ y = .ref a ∧ PySem.W.nsIn K a z = some r ∧ Q (.bl (xor neg r.isSome)) H
theorem inTab (h : Gd w K mg x tab) (hK : X.K = K := by rfl) (hw : X.w = w := by rfl) : OpR X (compareOp .In) (rTabIn false K h.a) := by
  subst hK hw
  obtain ⟨es, n, l, kl, ti⟩ := h.at_.ex
  intro pins s σ H x y v u Q I rx ry q
  obtain ⟨z, r, e1, e2, e3, q⟩ := q
  exact op_in_kd ⟨l, kl, h.at_.low⟩ pins s σ H x y v u Q I rx ry ⟨z, r, e1, e2, e3, by simpa using q⟩
theorem ninTab (h : Gd w K mg x tab) (hK : X.K = K := by rfl) (hw : X.w = w := by rfl) : OpR X (compareOp .NotIn) (rTabIn true K h.a) := by
  subst hK hw
  obtain ⟨es, n, l, kl, ti⟩ := h.at_.ex
  intro pins s σ H x y v u Q I rx ry q
  obtain ⟨z, r, e1, e2, e3, q⟩ := q
  exact op_notIn_kd ⟨l, kl, h.at_.low⟩ pins s σ H x y v u Q I rx ry ⟨z, r, e1, e2, e3, by simpa using q⟩
theorem ixTab (hK : X.K = K := by rfl) (hw : X.w = w := by rfl) : IxR X (rIxD K w) := by subst hK hw; exact ix_kdict
end
section
variable {C : Cf} {w : World} {mg : Str → Option Value} {x : Str} {tab : List (Str × D)} {ta : TE} {da : DT} {ca : Cat}
def dTabIn (neg : Bool) (tab : List (Str × D)) (da : DT) : DT := fun s Q => da s fun d s1 => match d with
  | .str z => Q (.bool (xor neg (findT tab z).isSome)) s1
  | _ => False
theorem sim_tabIn (neg : Bool) (h : Gd w C.K mg x tab) (ha : Sim C ca ta da) : Sim C .F (tOp (rTabIn neg C.K h.a) ta (tC (.ref h.a))) (dTabIn neg tab da) := by
  refine ⟨fun H0 S0 Hs σ H s Q Q' r q k => ha.toE.run H0 S0 Hs σ H s _ _ r q fun Hs1 H1 v d s1 g1 r1 v1 q1 => ?_⟩
  cases d <;> first | exact q1.elim | skip
  rename_i z
  have v1' : Rp C.K Hs1 v (.str z) := v1
  cases v1'
  rcases h.at_.ns z with ⟨e1, e2⟩ | ⟨d, u, e1, e2, e3⟩
  · refine ⟨z, none, rfl, rfl, e2, k Hs1 H1 _ (.bool _) s1 g1 r1 (Val.mkP (Rp.bl _) rfl) ?_⟩
    have q1 : Q (.bool (xor neg (findT tab z).isSome)) s1 := q1
    rw [e1] at q1
    exact q1
  · refine ⟨z, some u, rfl, rfl, e2, k Hs1 H1 _ (.bool _) s1 g1 r1 (Val.mkP (Rp.bl _) rfl) ?_⟩
    have q1 : Q (.bool (xor neg (findT tab z).isSome)) s1 := q1
    rw [e1] at q1
    exact q1
def dTabGet (tab : List (Str × D)) (da : DT) : DT := fun s Q => da s fun d s1 => match d with
  | .str z => IxP (findT tab z) fun e => Q e s1
  | _ => False
theorem sim_tabGet (h : Gd w C.K mg x tab) (ha : Sim C ca ta da) : Sim C .E (tOp (rIxD C.K w) (tC (.ref h.a)) ta) (dTabGet tab da) := by
  refine ⟨fun H0 S0 Hs σ H s Q Q' r q k => ha.toE.run H0 S0 Hs σ H s _ _ r q fun Hs1 H1 v d s1 g1 r1 v1 q1 => ?_⟩
  cases d <;> first | exact q1.elim | skip
  rename_i z
  have v1' : Rp C.K Hs1 v (.str z) := v1
  cases v1'
  obtain ⟨⟨e, he, q1⟩⟩ := (show IxP (findT tab z) _ from q1)
  rcases h.at_.ns z with ⟨e1, e2⟩ | ⟨d, u, e1, e2, e3⟩
  · rw [e1] at he; cases he
  · rw [e1] at he
    cases he
    obtain ⟨v, rv, rp⟩ := kt_rp _ u e3
    obtain ⟨es, n, l, kl, ti⟩ := h.at_.ex
    exact ⟨_, z, v, rfl, rfl, ⟨es, n, u, l, kl, e2, rv⟩, k Hs1 H1 v _ s1 g1 r1 (rp Hs1) q1⟩
end
/-! ### keywords in a call -/
def DfK (K : PySem.W.Frag) (mg : Str → Option Value) (x : Str) (st : Stmt) (ps ks : List Str) (n : Nat) : Prop :=
  ∃ (f : Addr) (fd : FuncData), Fun K x x st f fd ∧ KBn K fd ps n ks (fun us ws => us ++ ws) (fun vs zs => vs ++ zs) ∧ mg x = some (.ref f)
def OkK (P : Program) (w : World) (K : PySem.W.Frag) (mg : Str → Option Value) (base : Heap) (k : Nat) (x : Str) (ps ks : List Str) (n : Nat) (sp : Sp) : Prop :=
  ∃ (f : Addr) (fd : FuncData), mg x = some (.ref f) ∧ PySem.W.keepIn K (.ref f) = true ∧ KBn K fd ps n ks (fun us ws => us ++ ws) (fun vs zs => vs ++ zs) ∧ FnG P w K mg base k f fd ps sp
section
variable {P : Program} {w : World} {K : PySem.W.Frag} {mg : Str → Option Value} {base : Heap}
theorem OkK.mono {x : Str} {ps ks : List Str} {n j k : Nat} {sp : Sp} (h : OkK P w K mg base j x ps ks n sp) (l : j ≤ k) : OkK P w K mg base k x ps ks n sp := by
  obtain ⟨f, fd, hm, hk, hb, F⟩ := h
  exact ⟨f, fd, hm, hk, hb, F.mono l⟩
theorem OkK.ofN {x : Str} {st : Stmt} {N ps ks : List Str} {k n m : Nat} {cat : Cat} {M : List Nat} {F : DF} (D' : DfK K mg x st ps ks m) (S' : FnScope N ps (defScope st)) (hn : ps.length = n) (hM : ∀ i ∈ M, n ≤ i ∧ i < N.length)
    (hbody : ∀ (f : Addr) (cdv : Value) (A : Around) (outer : List Env) (s : Shared) (H : Hp) (E : XK), Rm k (A.deeper (envOfC x (defScope st) s.heap.objs.size f cdv)) →
      ∃ t d, PSs (cxOf CX0 P w K mg base N x (defScope st) f cdv A outer s H E).nox (defBody st) t ∧ SimS { K := K, pen := none, ps := 1000, M := M } cat t d ∧ ∀ ds (Q : D → Prop), ds.length = n → F ds Q → d { nx := fun _ => Q .none, rt := fun z _ => Q z } { δ := start' N.length ds, n := 0 }) :
    OkK P w K mg base (k + 1) x ps ks m (spN K n cat F) := by
  obtain ⟨f, fd, F', b, g⟩ := D'
  exact ⟨f, fd, g, F'.kp, b, Fn.ofNE F' S' hn hM fun f cdv A outer s H E hr => by
    obtain ⟨t, d, h1, h2, h3⟩ := hbody f cdv A outer s H E hr
    exact ⟨t, d, h1, h2.e, h3⟩⟩
end
theorem pe_fnK {X : Cx} {k n : Nat} {x : Str} {ps ks : List Str} {sp : Sp} {e : Expr} {es : List Expr} {kws : List Keyword} {t tk : TA} {p pos : Pos} (O : OkK X.prog X.w X.K X.mg X.base k x ps ks n sp) (hr : Rm k X.A) (hg : Gl X x) (ha : PA X (e :: es) t) (hkw : PK X kws tk)
    (hall : (backToKw pos (keywordEach kws X.env)).all (·.1.isSome) = true := by rfl) (hks : (backToKw pos (keywordEach kws X.env)).filterMap (·.1) = ks := by rfl)
    (hdb : (x == ("__debug__" : Str)) = false := by decide) (he : starEach (e :: es) X.env = (false, eval e X.env) :: starEach es X.env := by rfl)
    (hpl : ((backTo pos (starEach (e :: es) X.env)).any (·.1) || (backToKw pos (keywordEach kws X.env)).any (·.1.isNone)) = false := by rfl) :
    PE X (.Call (.Name x p) (e :: es) kws pos) (tCallN n ks.length sp (fun vs zs => vs ++ zs) E0 t tk) := by
  obtain ⟨f, fd, hm, hk, hb, F⟩ := O
  refine ⟨fun pins s σ H Q I h => ?_⟩
  refine wpAny_Call_Name_kw (ld_glob I hg hm ?_ hdb)
  refine PySem.W.callWith_KW (h₀ := X.base) I.ok.mod.kin hk hall (thn (ha.run pos pins s σ H _ I h) fun us s1 ⟨vs, H1, I1, r, q⟩ => ?_) hpl he
  refine thn (hkw.run pos pins s1 σ H1 _ I1 q) fun ws s2 ⟨zs, H2, I2, rz, l1, l2, q2⟩ => ⟨I2.kIn, ?_⟩
  rw [hks]
  have r2 := hb.rel r rz
  refine wpAny_call (codeAny_mono (F.run X.A X.stack s2 H2 ⟨us, ks.zip ws⟩ (us ++ ws) (vs ++ zs) Q E0 hr.toRoom hr.gd I2.env0 (hb.to s2 us ws I2.kIn (r.length.symm.trans l1) (rz.length.symm.trans l2)) r2 q2) fun r s' z => ?_)
  match r, z with
  | .ok (.ret u), z => exact I2.after z
  | .ok .next, z => exact False.elim z
  | .ok .brk, z => exact False.elim z
  | .ok .cont, z => exact False.elim z
  | .error e, z => exact False.elim z
def dApp (a b : DA) : DA := fun s Q => a s fun ds s1 => b s1 fun es s2 => Q (ds ++ es) s2
theorem sim_callK {C : Cf} {n m : Nat} {cat : Cat} {F : DF} {ta tk : TA} {a b : DA} (h : SimA C n ta a) (h' : SimA C m tk b) : Sim C cat (tCallN n m (spN C.K (n + m) cat F) (fun vs zs => vs ++ zs) E0 ta tk) (dCall F (dApp a b)) := by
  refine ⟨fun H0 S0 Hs σ H s Q Q' r q k => h.run H0 S0 Hs σ H s _ _ r q fun Hs1 H1 vs ds s1 g1 r1 v1 l1 q1 => h'.run H0 S0 Hs1 σ H1 s1 _ _ r1 q1 fun Hs2 H2 zs es s2 g2 r2 v2 l2 q2 => ?_⟩
  refine ⟨by rw [v1.len, l1], by rw [v2.len, l2], Hs2, ds ++ es, _, r2.sub, (RpAll.mono g2.st v1).app v2, by rw [List.length_append, l1, l2], q2, fun d Hs' H' v q3 st sb hh nw rv => ?_⟩
  obtain ⟨r3, g3⟩ := r2.step st sb hh nw
  exact k Hs' H' v d s2 (g1.trans (g2.trans g3)) r3 ((rv.val r2).anew fun a e => (g1.trans g2).back a e) q3
/-! ### text.split(text), is of bools -/
section
variable {C : Cf} {ca cb : Cat} {ta tb : TE} {da db : DT}
def dSplit (a b : DT) : DT := fun s Q => a s fun x s1 => match x with
  | .str z => b s1 fun y s2 => (match y with
    | .str c => (c.length == 0) = false ∧ z.length + 2 ≤ sizeLine ∧ Q (.list ((Txt.split z c).map PyData.str)) s2
    | _ => False)
  | _ => False
theorem sim_split (ha : Sim C ca ta da) (hb : Sim C cb tb db) : Sim C .F (tM1 (fun x xs H Q => ∃ a b, x = .str a ∧ xs = [.str b] ∧ (b.length == 0) = false ∧ a.length + 2 ≤ sizeLine ∧ rNewStrs (Txt.split a b) H Q) ta tb) (dSplit da db) := by
  refine ⟨fun H0 S0 Hs σ H s Q Q' r q k => ha.toE.run H0 S0 Hs σ H s _ _ r q fun Hs1 H1 x dx s1 g1 r1 v1 q1 => ?_⟩
  cases dx <;> first | exact q1.elim | skip
  rename_i z
  have v1' : Rp C.K Hs1 x (.str z) := v1
  cases v1'
  refine ⟨⟨_, rfl⟩, hb.toE.run H0 S0 Hs1 σ H1 s1 _ _ r1 q1 fun Hs2 H2 y dy s2 g2 r2 v2 q2 => ?_⟩
  cases dy <;> first | exact q2.elim | skip
  rename_i c
  have v2' : Rp C.K Hs2 y (.str c) := v2
  cases v2'
  refine ⟨z, c, rfl, rfl, q2.1, q2.2.1, fun p np => ?_⟩
  exact k Hs2 _ _ (.list _) s2 ((g1.trans g2).trans (Go.laid np)) (r2.laid np) ((r2.newList np (strs_rp' _)).anew fun a e => (g1.trans g2).back a e) q2.2.2
def isBD : DO := fun x y Q => match x, y with
  | .bool a, .bool b => Q (.bool (decide (a = b)))
  | _, _ => False
theorem opA_isB : OpA C rIsB isBD := by
  intro H0 S0 Hs σ H s x y dx dy Q Q' r hx hy q k
  cases dx <;> cases dy <;> first | exact q.elim | skip
  cases hx; cases hy
  exact ⟨_, _, rfl, rfl, k Hs H _ (.bool _) Go.refl r (Val.mkP (Rp.bl _) rfl) q⟩
end
theorem vals_app : ∀ {vs zs : List V} {us ws : List Value}, Vals vs us → Vals zs ws → Vals (vs ++ zs) (us ++ ws)
  | _, _, _, _, .nil, h => h
  | _, _, _, _, .cons a b, h => .cons a (vals_app b h)

/-! ### methods of a class of one's own: self is the pen -/
/-- a method as it stands behind the top: how its arguments bind -/
def MtB (K : PySem.W.Frag) (B : FuncData → Prop) (C : Addr) (m q : Str) (st : Stmt) : Prop := ∃ (f : Addr) (fd : FuncData) (dvs : List V), FunD K m q (defArgs st) (defBody st) (defScope st) dvs [] f fd ∧ B fd ∧ Meth K C m f
def OkB (P : Program) (w : World) (K : PySem.W.Frag) (mg : Str → Option Value) (base : Heap) (B : FuncData → Prop) (C : Addr) (k : Nat) (m : Str) (ps : List Str) (sp : Sp) : Prop :=
  ∃ (f : Addr) (fd : FuncData), Meth K C m f ∧ B fd ∧ FnG P w K mg base k f fd ps sp
/-- all of them are written -/
abbrev B0 (K : PySem.W.Frag) (ps : List Str) (fd : FuncData) : Prop := Binds K fd ps []
/-- the last ones lack -/
abbrev BD (K : PySem.W.Frag) (ps : List Str) (dvs : List V) (fd : FuncData) : Prop := ∃ ds, Vals dvs ds ∧ Binds K fd ps ds
/-- the last ones by their names -/
abbrev BK (K : PySem.W.Frag) (ps : List Str) (n : Nat) (ks : List Str) (fd : FuncData) : Prop := KBn K fd ps n ks (fun us ws => us ++ ws) (fun vs zs => vs ++ zs)
section
variable {P : Program} {w : World} {K : PySem.W.Frag} {mg : Str → Option Value} {base : Heap} {B B' : FuncData → Prop}
theorem OkB.imp {C : Addr} {k : Nat} {m : Str} {ps : List Str} {sp : Sp} (h : OkB P w K mg base B C k m ps sp) (q : ∀ fd, B fd → B' fd) : OkB P w K mg base B' C k m ps sp := by
  obtain ⟨f, fd, a, b, c⟩ := h
  exact ⟨f, fd, a, q fd b, c⟩
theorem OkB.mono {C : Addr} {j k : Nat} {m : Str} {ps : List Str} {sp : Sp} (h : OkB P w K mg base B C j m ps sp) (l : j ≤ k) : OkB P w K mg base B C k m ps sp := by
  obtain ⟨f, fd, a, b, c⟩ := h
  exact ⟨f, fd, a, b, c.mono l⟩
theorem OkB.ok {C : Addr} {k : Nat} {m : Str} {ps : List Str} {sp : Sp} (h : OkB P w K mg base (B0 K ps) C k m ps sp) : OkM P w K mg base C k m ps sp := h
theorem FunD.okG {x q : Str} {st : Stmt} {f : Addr} {fd : FuncData} {dvs : List V} {kws : List (Str × V)} {N ps : List Str} {k : Nat} {sp : Sp} (F : FunD K x q (defArgs st) (defBody st) (defScope st) dvs kws f fd) (S : FnScope N ps (defScope st)) (len : ∀ vs H Q E, sp vs H Q E → vs.length = ps.length)
    (hbody : ∀ (cdv : Value) (A : Around) (fs : List Env) (s : Shared) (H : Hp) (vs : List V) (Q : VK) (E : XK), Room k (A.deeper (envOfC q (defScope st) s.heap.objs.size f cdv)) → A.guards = some [] → sp vs H Q E →
      ∃ t, PSs (cxOf CX0 P w K mg base N q (defScope st) f cdv A fs s H E).nox (defBody st) t ∧ t { nx := fun _ H' => Q .non H', rt := Q } (start N vs) H) : FnG P w K mg base (k + 1) f fd ps sp := by
  obtain ⟨oc, od, dV, kV, doc, pm, an, cdv, ct, osl, rfl, lk, hcd, _, _⟩ := F.ex
  refine ⟨len, fun A fs s H ar us vs Q E hr hg e0 hb rv hsp => ?_⟩
  have kin : K.In s.heap := e0.mod.kin.keeps fun b o z => (e0.bs b o z).1
  have nl : s.heap.NoLimit := e0.mod.nolimit.keeps fun b o z => (e0.bs b o z).1
  have loc : ∀ y ∈ ps.zip us, (defScope st).names.lookup y.1 = some .local ∨ ((defScope st).names.lookup y.1 = some .cell ∧ ((cellsFrom (s.heap.objs.size + 1) (defScope st).names []).lookup y.1).isSome = true) := by
    rintro ⟨n, v⟩ hy
    exact (S.par n (List.of_mem_zip hy).1).imp_right fun z => ⟨z, PySem.W.cellsFrom_some _ _ _ (.inl z)⟩
  refine codeAny_call_function hr.depth (kin _ _ lk) rfl S.co S.gen rfl (PySem.W.codeRec_of kin hcd) (hb _ _ _ _ (wpAny_newFunctionEnv_cells S.kind loc fun env he s1 x => ?_))
  subst he
  refine ⟨nl.keeps x.toInCall.keep, codeAny_func ?_⟩
  obtain ⟨t, ht, hq⟩ := hbody cdv A fs s H vs Q E (hr.deeper _) hg hsp
  have J0 := inv_start (CX := CX0) (E := E) S hr.hd e0 (len _ _ _ _ hsp) rv x
  refine wpAny_mono (ht.nox.run [] s1 (start N vs) H _ J0 hq) (fun fl s' hs => ?_) (fun _ _ z => z)
  cases fl with
  | ret u =>
    obtain ⟨v, σ', H', J, r', q'⟩ := hs
    exact ⟨v, H', J.os, J.bare, J.base, J.hok, r', q'⟩
  | next =>
    obtain ⟨σ', H', J, q'⟩ := hs
    exact ⟨V.non, H', J.os, J.bare, J.base, J.hok, rfl, q'⟩
  | brk => exact (hs.elim fun _ z => z.elim fun _ z => z.2.elim)
  | cont => exact (hs.elim fun _ z => z.elim fun _ z => z.2.elim)
theorem OkB.mk {m q : Str} {C : Addr} {st : Stmt} {N ps : List Str} {k : Nat} {sp : Sp} (D : MtB K B C m q st) (S : FnScope N ps (defScope st)) (len : ∀ vs H Q E, sp vs H Q E → vs.length = ps.length)
    (hbody : ∀ (f : Addr) (cdv : Value) (A : Around) (outer : List Env) (s : Shared) (H : Hp) (vs : List V) (Q : VK) (E : XK), Rm k (A.deeper (envOfC q (defScope st) s.heap.objs.size f cdv)) → sp vs H Q E →
      ∃ t, PSs (cxOf CX0 P w K mg base N q (defScope st) f cdv A outer s H E).nox (defBody st) t ∧ t { nx := fun _ H' => Q .non H', rt := Q } (start N vs) H) : OkB P w K mg base B C (k + 1) m ps sp := by
  obtain ⟨f, fd, dvs, F, b, g⟩ := D
  exact ⟨f, fd, g, b, FunD.okG F S len fun cdv A outer s H vs Q E hr hg h => hbody f cdv A outer s H vs Q E ⟨hr, hg⟩ h⟩
/-- a method that is never reached -/
theorem OkB.no {m q : Str} {C : Addr} {st : Stmt} {N ps : List Str} {k : Nat} (D : MtB K B C m q st) (S : FnScope N ps (defScope st)) : OkB P w K mg base B C (k + 1) m ps (fun _ _ _ _ => False) := by
  obtain ⟨f, fd, dvs, F, b, g⟩ := D
  obtain ⟨oc, od, dV, kV, doc, pm, an, cdv, ct, osl, rfl, lk, hcd, _, _⟩ := F.ex
  exact ⟨f, _, g, b, ⟨fun vs H Q E h => h.elim, fun A fs s H ar us vs Q E hr hg e0 hb rv hsp => hsp.elim⟩⟩
end
section
variable {X : Cx}
/-- o.m(e, ..) with defaults that fill up -/
theorem pe_mthD {pl : Sem Bool} {C : Addr} {k : Nat} {m : Str} {ps : List Str} {dvs : List V} {sp : Sp} {o e : Expr} {es : List Expr} {ta : TE} {t : TA} {apos pos : Pos} (he : PE X o ta) (c : Cls X.K C) (O : OkB X.prog X.w X.K X.mg X.base (BD X.K ps dvs) C k m ps sp) (hr : Rm k X.A) (ha : PA X (e :: es) t)
    (hst : starEach (e :: es) X.env = (false, eval e X.env) :: starEach es X.env := by rfl) (hpl : (backTo pos (starEach es X.env)).any (·.1) = false := by rfl)
    (ht : eval (.Call (.Attribute o m apos) (e :: es) [] pos) X.env = (do
      let ov ← eval o X.env
      standAt apos.atName
      let (f, first) ← holding [ov] (getMethod ov m pl)
      callWith pos f first (backTo pos (starEach (e :: es) X.env)) (backToKw pos (keywordEach [] X.env))) := by rfl) :
    PE X (.Call (.Attribute o m apos) (e :: es) [] pos) (tMeth C m sp dvs E0 ta t) := by
  obtain ⟨f, fd, hm, ⟨ds, hd, hb⟩, F⟩ := O
  refine ⟨fun pins s σ H Q I h => PySem.W.methodCall_KW (pl := pl) (thn (he.run pins s σ H _ I h) fun u s1 ⟨y, H1, I1, ry, a, dx, fs, ey, ea, l, q⟩ => ?_) ht⟩
  subst ey
  obtain rfl : u = Value.ref a := ry
  refine getmeth_ok I1 ea c hm l (PySem.W.callWith_K (first := [.ref a]) (h₀ := X.base) I.ok.mod.kin hm.kp (thn (ha.run pos pins s1 σ H1 _ I1 q) fun us s2 ⟨vs, H2, I2, r, q2⟩ => ⟨I2.kIn, ?_⟩) hst hpl)
  have r2 : Vals ((V.ref a :: vs) ++ dvs) ((Value.ref a :: us) ++ ds) := vals_app (.cons rfl r) hd
  have hl : ((Value.ref a :: us) ++ ds).length = ps.length := by rw [← r2.length]; exact F.len _ _ _ _ q2
  refine wpAny_call (codeAny_mono (F.run X.A X.stack s2 H2 ⟨.ref a :: us, []⟩ ((.ref a :: us) ++ ds) ((.ref a :: vs) ++ dvs) Q E0 hr.toRoom hr.gd I2.env0 (hb s2 (.ref a :: us) I2.kIn hl) r2 q2) fun r s' z => ?_)
  match r, z with
  | .ok (.ret u), z => exact I2.after z
  | .ok .next, z => exact False.elim z
  | .ok .brk, z => exact False.elim z
  | .ok .cont, z => exact False.elim z
  | .error e, z => exact False.elim z
/-- o.m(e, .., k = v, ..) -/
def tMethK (C : Addr) (m : Str) (n nk : Nat) (sp : Sp) (ta : TE) (t tk : TA) : TE := fun σ H Q => ta σ H fun x H1 => ∃ a dx fs, x = .ref a ∧ H1 a = some (.ins C dx fs) ∧ fs.lookup m = none ∧
  t σ H1 fun vs H2 => tk σ H2 fun zs H3 => vs.length + 1 = n ∧ zs.length = nk ∧ sp (x :: (vs ++ zs)) H3 Q E0
theorem pe_mthK {pl : Sem Bool} {C : Addr} {k n : Nat} {m : Str} {ps ks : List Str} {sp : Sp} {o e : Expr} {es : List Expr} {kws : List Keyword} {ta : TE} {t tk : TA} {apos pos : Pos} (he : PE X o ta) (c : Cls X.K C) (O : OkB X.prog X.w X.K X.mg X.base (BK X.K ps n ks) C k m ps sp) (hr : Rm k X.A) (ha : PA X (e :: es) t) (hkw : PK X kws tk)
    (hall : (backToKw pos (keywordEach kws X.env)).all (·.1.isSome) = true := by rfl) (hks : (backToKw pos (keywordEach kws X.env)).filterMap (·.1) = ks := by rfl)
    (hst : starEach (e :: es) X.env = (false, eval e X.env) :: starEach es X.env := by rfl)
    (hpl : ((backTo pos (starEach (e :: es) X.env)).any (·.1) || (backToKw pos (keywordEach kws X.env)).any (·.1.isNone)) = false := by rfl)
    (ht : eval (.Call (.Attribute o m apos) (e :: es) kws pos) X.env = (do
      let ov ← eval o X.env
      standAt apos.atName
      let (f, first) ← holding [ov] (getMethod ov m pl)
      callWith pos f first (backTo pos (starEach (e :: es) X.env)) (backToKw pos (keywordEach kws X.env))) := by rfl) :
    PE X (.Call (.Attribute o m apos) (e :: es) kws pos) (tMethK C m n ks.length sp ta t tk) := by
  obtain ⟨f, fd, hm, hb, F⟩ := O
  refine ⟨fun pins s σ H Q I h => PySem.W.methodCall_KW (pl := pl) (thn (he.run pins s σ H _ I h) fun u s1 ⟨y, H1, I1, ry, a, dx, fs, ey, ea, l, q⟩ => ?_) ht⟩
  subst ey
  obtain rfl : u = Value.ref a := ry
  refine getmeth_ok I1 ea c hm l (PySem.W.callWith_KW (first := [.ref a]) (h₀ := X.base) I.ok.mod.kin hm.kp hall (thn (ha.run pos pins s1 σ H1 _ I1 q) fun us s2 ⟨vs, H2, I2, r, q2⟩ => ?_) hpl hst)
  refine thn (hkw.run pos pins s2 σ H2 _ I2 q2) fun ws s3 ⟨zs, H3, I3, rz, l1, l2, q3⟩ => ⟨I3.kIn, ?_⟩
  rw [hks]
  have rr : Vals (V.ref a :: vs) (Value.ref a :: us) := .cons rfl r
  have r2 : Vals ((V.ref a :: vs) ++ zs) ((Value.ref a :: us) ++ ws) := vals_app rr rz
  refine wpAny_call (codeAny_mono (F.run X.A X.stack s3 H3 ⟨.ref a :: us, ks.zip ws⟩ ((.ref a :: us) ++ ws) ((.ref a :: vs) ++ zs) Q E0 hr.toRoom hr.gd I3.env0 (hb.to s3 (.ref a :: us) ws I3.kIn (by rw [← rr.length]; exact l1) (rz.length.symm.trans l2)) r2 q3) fun r s' z => ?_)
  match r, z with
  | .ok (.ret u), z => exact I3.after z
  | .ok .next, z => exact False.elim z
  | .ok .brk, z => exact False.elim z
  | .ok .cont, z => exact False.elim z
  | .error e, z => exact False.elim z
end
abbrev DFM := List D → Nat → D → (D → Nat → D → Prop) → Prop
/-- a method's promise: f lays the fields out by those that stay, the number and the other one; F fs: fs the trees of those that stay -/
def spM (K : PySem.W.Frag) (Cc : Addr) (f : List V → V → V → List (Str × V)) (n : Nat) (cat : Cat) (F : List D → DFM) : Sp := fun vs H Q _ => ∃ Hs p c k h ls fs vs' ds Q0, vs = .ref p :: vs' ∧ ls.length = fs.length ∧ PenK K (.obj Cc (f ls) (ls.zip fs)) Hs H p c k h ∧ Hs p = none ∧ Same Hs H ∧ RpAll K Hs vs' ds ∧ ds.length = n ∧ F fs ds k h Q0 ∧
  ∀ d k' h' Hs' H' v, Q0 d k' h' → Same Hs Hs' → Same Hs' H' → But p H H' → (∀ b, Hs b = none → Hs' b ≠ none → H b = none) → Hs' p = none → PenK K (.obj Cc (f ls) (ls.zip fs)) Hs' H' p c k' h' → RV K H Hs' H' cat v d → Q v H'
section
variable {P : Program} {w : World} {K : PySem.W.Frag} {mg : Str → Option Value} {base : Heap} {B : FuncData → Prop}
theorem OkB.ofM {m q : Str} {Cc : Addr} {f : List V → V → V → List (Str × V)} {st : Stmt} {N ps : List Str} {k n : Nat} {cat : Cat} {M : List Nat} {F : List D → DFM} (D' : MtB K B Cc m q st) (S' : FnScope N ps (defScope st)) (hn : ps.length = n + 1) (hM : ∀ i ∈ M, n + 1 ≤ i ∧ i < N.length) (hN : 0 < N.length)
    (hbody : ∀ (f0 : Addr) (cdv : Value) (A : Around) (outer : List Env) (s : Shared) (H : Hp) (E : XK) (p c : Addr) (ls : List V) (fs : List D), ls.length = fs.length → Rm k (A.deeper (envOfC q (defScope st) s.heap.objs.size f0 cdv)) →
      ∃ t d, PSs (cxOf CX0 P w K mg base N q (defScope st) f0 cdv A outer s H E).nox (defBody st) t ∧ SimS { K := K, pen := some (p, c), ps := 0, M := M, pk := .obj Cc (f ls) (ls.zip fs) } cat t d ∧ ∀ ds m h (Q : D → Nat → D → Prop), ds.length = n → F fs ds m h Q → d { nx := fun s => Q .none s.n s.h, rt := fun z s => Q z s.n s.h } { δ := none :: start' (N.length - 1) ds, n := m, h := h }) :
    OkB P w K mg base B Cc (k + 1) m ps (spM K Cc f n cat F) := by
  refine OkB.mk D' S' (fun vs H Q E h => ?_) (fun f0 cdv A outer s H vs Q E hr h => ?_)
  · obtain ⟨Hs, p, c, m, h, ls, fs, vs', ds, Q0, rfl, _, _, _, _, h2, h3, _⟩ := h
    rw [List.length_cons, h2.len, h3, hn]
  obtain ⟨Hs, p, c, m, h, ls, fs, vs', ds, Q0, rfl, hl, pe, hsp, h1, h2, h3, h4, h5⟩ := h
  obtain ⟨t, d, ht, hs, hd⟩ := hbody f0 cdv A outer s H E p c ls fs hl hr
  refine ⟨t, ht, ?_⟩
  obtain ⟨N0, N', rfl⟩ : ∃ a b, N = a :: b := by
    cases N with
    | nil => exact absurd hN (by simp)
    | cons a b => exact ⟨a, b, rfl⟩
  obtain ⟨sl, ss⟩ := start_slot N' h2
  have es : L2.start (N0 :: N') (V.ref p :: vs') = some (.ref p) :: L2.start N' vs' := by
    unfold L2.start
    rw [List.map_cons, List.length_cons, List.length_cons, Nat.add_sub_add_right]
    rfl
  have en : (N0 :: N').length - 1 = N'.length := by rw [List.length_cons]; rfl
  rw [en] at hd
  have nn : ∀ i, i ∈ M → (some (V.ref p) :: L2.start N' vs')[i]? = some none := fun i m => by
    have := hM i m
    rw [List.length_cons] at this
    obtain ⟨j, rfl⟩ : ∃ j, i = j + 1 := ⟨i - 1, by omega⟩
    show (L2.start N' vs')[j]? = some none
    exact start_none N' (by rw [h2.len, h3]; omega) (by omega)
  obtain ⟨_, ep⟩ := pe.at_
  have ec : H c ≠ none := by
    obtain ⟨_, e, _⟩ := pe
    rw [e]
    exact fun z => nomatch z
  rw [es]
  refine hs.e.run H Hs Hs _ H _ { nx := fun s => Q0 .none s.n s.h, rt := fun z s => Q0 z s.n s.h } _ ?_ (hd ds m h Q0 h3 h4) (fun M' Hs' σ' H' s' r q => ?_) (fun M' Hs' σ' H' s' v dd r rv q => ?_) (fun _ _ _ _ _ q => q.elim) (fun _ _ _ _ _ q => q.elim)
  · refine ⟨by rw [List.length_cons, sl]; rfl, h1, fun i dd e _ => ?_, fun i dd e m => ?_, fun i m e => nn i m, fun i j a m1 m2 e1 e2 => ?_, fun p' c' e => ?_, fun b hb => (nomatch hb), Same.refl _, fun b o _ e => e, fun b e1 e2 => absurd e1 e2⟩
    · cases i with
      | zero => cases e
      | succ j => exact ss j dd e
    · cases i with
      | zero => cases e
      | succ j =>
        obtain ⟨v, e1, _⟩ := ss j dd e
        have := nn (j + 1) m
        have : (L2.start N' vs')[j]? = some none := this
        rw [this] at e1
        cases e1
    · rw [nn i m1] at e1
      cases e1
    · cases e
      exact ⟨rfl, pe, hsp, (by rw [ep]; simp), ec, rfl, fun z => absurd (hM 0 z).1 (by omega), fun z => (nomatch z), fun z => (nomatch z)⟩
  · have ip : ∀ b, ¬ IsPen { K := K, pen := some (p, c), ps := 0, M := M', pk := .obj Cc (f ls) (ls.zip fs) } b ↔ b ≠ p := fun b => ⟨fun h e => h (.inl ⟨c, by rw [e]⟩), fun h z => z.elim (fun ⟨c', e⟩ => h (by cases e; rfl)) (fun z => nomatch z)⟩
    obtain ⟨f1, f2, f3, _⟩ := r.pn p c rfl
    exact h5 .none s'.n s'.h Hs' H' .non q r.s0 r.sub (fun b o nb e => r.h0 b o ((ip b).mpr nb) e) r.new f3 f2 (rvNon cat)
  · have ip : ∀ b, ¬ IsPen { K := K, pen := some (p, c), ps := 0, M := M', pk := .obj Cc (f ls) (ls.zip fs) } b ↔ b ≠ p := fun b => ⟨fun h e => h (.inl ⟨c, by rw [e]⟩), fun h z => z.elim (fun ⟨c', e⟩ => h (by cases e; rfl)) (fun z => nomatch z)⟩
    obtain ⟨f1, f2, f3, _⟩ := r.pn p c rfl
    exact h5 dd s'.n s'.h Hs' H' v q r.s0 r.sub (fun b o nb e => r.h0 b o ((ip b).mpr nb) e) r.new f3 f2 rv
end
/-- the state behind a call: where self is -/
structure Slf (C : Cf) (Cc : Addr) (f : List V → V → V → List (Str × V)) (ls : List V) (fs : List D) : Prop where
  pen : C.pen ≠ none
  ps : C.ps = 0
  len : ls.length = fs.length
  pk : C.pk = .obj Cc (f ls) (ls.zip fs)
section
variable {C : Cf} {Cc : Addr} {f : List V → V → V → List (Str × V)} {ls : List V} {fs : List D} {cat ca : Cat} {te ta tk : TE} {t : DT}
theorem Slf.at_ (L : Slf C Cc f ls fs) {H0 S0 Hs : Hp} {σ : L2.St} {H : Hp} {s : S} (r : R C H0 S0 Hs σ H s) : ∃ p c, C.pen = some (p, c) ∧ σ[0]? = some (some (.ref p)) ∧ PenK C.K (.obj Cc (f ls) (ls.zip fs)) Hs H p c s.n s.h ∧ Hs p = none := by
  obtain ⟨⟨p, c⟩, ep⟩ : ∃ pc, C.pen = some pc := by
    cases e : C.pen with
    | none => exact absurd e L.pen
    | some pc => exact ⟨pc, rfl⟩
  obtain ⟨e1, e2, e3, _⟩ := r.pn p c ep
  rw [L.ps] at e1
  rw [L.pk] at e2
  exact ⟨p, c, ep, e1, e2, e3⟩
def dCallM (F : List D → DFM) (fs : List D) (a : DA) : DT := fun s Q => a s fun ds s1 => F fs ds s1.n s1.h fun d k h => Q d { s1 with n := k, h := h }
theorem meth_run {n : Nat} {F : List D → DFM} (L : Slf C Cc f ls fs) {H0 S0 Hs1 : Hp} {σ : L2.St} {H1 : Hp} {s1 : S} {p c : Addr} {vs : List V} {ds : List D} {Q : D → S → Prop} {Q' : VK} (ep : C.pen = some (p, c)) (r1 : R C H0 S0 Hs1 σ H1 s1) (v1 : RpAll C.K Hs1 vs ds) (l1 : ds.length = n) (q1 : F fs ds s1.n s1.h fun d k h => Q d { s1 with n := k, h := h })
    (k : ∀ Hs' H' v d s', Go C σ Hs1 H1 Hs' H' → R C H0 S0 Hs' σ H' s' → Val C H0 H1 Hs' σ H' cat v d → Q d s' → Q' v H') : spM C.K Cc f n cat F (V.ref p :: vs) H1 Q' E0 := by
  obtain ⟨p', c', ep', e1, e2, e3⟩ := L.at_ r1
  rw [ep] at ep'
  cases ep'
  refine ⟨Hs1, p, c, s1.n, s1.h, ls, fs, vs, ds, _, rfl, L.len, e2, e3, r1.sub, v1, l1, q1, fun d k' h' Hs' H' v q2 st sb hh nw np pe rv => ?_⟩
  obtain ⟨r2, g2⟩ := r1.stepP (y := h') ep st sb hh nw np (by rw [L.pk]; exact pe)
  exact k Hs' H' v d _ g2 r2 (rv.val r1) q2
theorem sim_callM {n : Nat} {F : List D → DFM} {m : Str} {ta : TA} {a : DA} (L : Slf C Cc f ls fs) (hm : ∀ x y, (f ls x y).lookup m = none) (h : SimA C n ta a) : Sim C cat (tMeth Cc m (spM C.K Cc f n cat F) [] E0 (tVar 0) ta) (dCallM F fs a) := by
  refine ⟨fun H0 S0 Hs σ H s Q Q' r q k => ?_⟩
  obtain ⟨p, c, ep, e1, e2, e3⟩ := L.at_ r
  obtain ⟨⟨hv, _, ei⟩, _⟩ := e2
  refine ⟨.ref p, e1, p, c, _, rfl, ei, hm _ _, h.run H0 S0 Hs σ H s _ _ r q fun Hs1 H1 vs ds s1 g1 r1 v1 l1 q1 => ?_⟩
  rw [List.append_nil]
  exact meth_run L ep r1 v1 l1 q1 fun Hs' H' v d s' g2 r2 v2 q2 => k Hs' H' v d s' (g1.trans g2) r2 (v2.anew fun a e => g1.back a e) q2
/-- the last argument by default: None -/
def dNone1 : DA := fun s Q => Q [.none] s
theorem sim_callMD {n : Nat} {F : List D → DFM} {m : Str} {ta : TA} {a : DA} (L : Slf C Cc f ls fs) (hm : ∀ x y, (f ls x y).lookup m = none) (h : SimA C n ta a) : Sim C cat (tMeth Cc m (spM C.K Cc f (n + 1) cat F) [.non] E0 (tVar 0) ta) (dCallM F fs (dApp a dNone1)) := by
  refine ⟨fun H0 S0 Hs σ H s Q Q' r q k => ?_⟩
  obtain ⟨p, c, ep, e1, e2, e3⟩ := L.at_ r
  obtain ⟨⟨hv, _, ei⟩, _⟩ := e2
  refine ⟨.ref p, e1, p, c, _, rfl, ei, hm _ _, h.run H0 S0 Hs σ H s _ _ r q fun Hs1 H1 vs ds s1 g1 r1 v1 l1 q1 => ?_⟩
  exact meth_run L ep r1 (v1.app (.cons .non .nil)) (by rw [List.length_append, l1]; rfl) q1 fun Hs' H' v d s' g2 r2 v2 q2 => k Hs' H' v d s' (g1.trans g2) r2 (v2.anew fun a e => g1.back a e) q2
theorem sim_callMK {n nk : Nat} {F : List D → DFM} {m : Str} {ta tk : TA} {a b : DA} (L : Slf C Cc f ls fs) (hm : ∀ x y, (f ls x y).lookup m = none) (h : SimA C n ta a) (h' : SimA C nk tk b) : Sim C cat (tMethK Cc m (n + 1) nk (spM C.K Cc f (n + nk) cat F) (tVar 0) ta tk) (dCallM F fs (dApp a b)) := by
  refine ⟨fun H0 S0 Hs σ H s Q Q' r q k => ?_⟩
  obtain ⟨p, c, ep, e1, e2, e3⟩ := L.at_ r
  obtain ⟨⟨hv, _, ei⟩, _⟩ := e2
  refine ⟨.ref p, e1, p, c, _, rfl, ei, hm _ _, h.run H0 S0 Hs σ H s _ _ r q fun Hs1 H1 vs ds s1 g1 r1 v1 l1 q1 => h'.run H0 S0 Hs1 σ H1 s1 _ _ r1 q1 fun Hs2 H2 zs es s2 g2 r2 v2 l2 q2 => ⟨by rw [v1.len, l1], by rw [v2.len, l2], ?_⟩⟩
  exact meth_run L ep r2 ((RpAll.mono g2.st v1).app v2) (by rw [List.length_append, l1, l2]) q2 fun Hs' H' v d s' g3 r3 v3 q3 => k Hs' H' v d s' (g1.trans (g2.trans g3)) r3 (v3.anew fun a e => (g1.trans g2).back a e) q3
/-! fields -/
def dFd (fs : List D) (j : Nat) : DT := fun s Q => match fs[j]? with
  | some d => Q d s
  | none => False
theorem sim_fld {x : Str} (j : Nat) (L : Slf C Cc f ls fs) (c : Cls C.K Cc) (n : NoAttr C.K Cc x) (hf : ∀ a b, (f ls a b).lookup x = some (ls.getD j .non)) : Sim C .E (tFld C.K (tVar 0) x) (dFd fs j) := by
  refine ⟨fun H0 S0 Hs σ H s Q Q' r q k => ?_⟩
  obtain ⟨p, c', ep, e1, e2, e3⟩ := L.at_ r
  obtain ⟨⟨hv, _, ei⟩, _, _, z⟩ := e2
  unfold dFd at q
  split at q
  · rename_i d e
    have hj : j < fs.length := (List.getElem?_eq_some_iff.mp e).1
    have hj' : j < ls.length := by rw [L.len]; exact hj
    have ev : ls.getD j .non = ls[j] := by rw [List.getD_eq_getElem?_getD, List.getElem?_eq_getElem hj']; rfl
    have ed : d = fs[j] := by rw [List.getElem?_eq_getElem hj] at e; exact (Option.some.inj e).symm
    have m : (ls[j], fs[j]) ∈ ls.zip fs := by
      have hz : j < (ls.zip fs).length := by rw [List.length_zip]; omega
      have := List.getElem_mem hz
      rwa [List.getElem_zip] at this
    refine ⟨.ref p, e1, p, Cc, c', _, _, rfl, ei, c, n, hf _ _, k Hs H _ d s Go.refl r ?_ q⟩
    rw [ev, ed]
    exact z _ m
  · exact q.elim
def dCnt : DT := fun s Q => Q (.int (s.n : Nat)) s
theorem sim_cnt {x : Str} (L : Slf C Cc f ls fs) (c : Cls C.K Cc) (n : NoAttr C.K Cc x) (hf : ∀ a b, (f ls a b).lookup x = some a) : Sim C .F (tFld C.K (tVar 0) x) dCnt := by
  refine ⟨fun H0 S0 Hs σ H s Q Q' r q k => ?_⟩
  obtain ⟨p, c', ep, e1, e2, e3⟩ := L.at_ r
  obtain ⟨⟨hv, _, ei⟩, _, _, z⟩ := e2
  exact ⟨.ref p, e1, p, Cc, c', _, _, rfl, ei, c, n, hf _ _, k Hs H _ (.int (s.n : Nat)) s Go.refl r (Val.mkP (Rp.int _) rfl) q⟩
def dOth : DT := fun s Q => Q s.h s
theorem sim_oth {x : Str} (L : Slf C Cc f ls fs) (c : Cls C.K Cc) (n : NoAttr C.K Cc x) (hf : ∀ a b, (f ls a b).lookup x = some b) : Sim C .E (tFld C.K (tVar 0) x) dOth := by
  refine ⟨fun H0 S0 Hs σ H s Q Q' r q k => ?_⟩
  obtain ⟨p, c', ep, e1, e2, e3⟩ := L.at_ r
  obtain ⟨⟨hv, hr, ei⟩, _, _, z⟩ := e2
  exact ⟨.ref p, e1, p, Cc, c', _, _, rfl, ei, c, n, hf _ _, k Hs H _ s.h s Go.refl r hr q⟩
/-- self's object is laid anew -/
theorem R.putSelf (L : Slf C Cc f ls fs) {H0 S0 Hs : Hp} {σ : L2.St} {H : Hp} {s : S} {p c : Addr} {k : Nat} {y : V} {h : D} (r : R C H0 S0 Hs σ H s) (ep : C.pen = some (p, c)) (hy : Rp C.K Hs y h) :
    R C H0 S0 Hs σ (L2.upd H p (.ins Cc c (f ls (.int (k : Int)) y))) { s with n := k, h := h } ∧ Go C σ Hs H Hs (L2.upd H p (.ins Cc c (f ls (.int (k : Int)) y))) := by
  obtain ⟨p', c', ep', e1, ⟨_, e2, ne, z⟩, e3⟩ := L.at_ r
  rw [ep] at ep'
  cases ep'
  have bt : But p H (L2.upd H p (.ins Cc c (f ls (.int (k : Int)) y))) := fun b o n e => by rw [upd_ne n]; exact e
  refine r.stepP ep (Same.refl _) (fun b o e => ?_) bt (fun b h1 h2 => absurd h1 h2) e3 ?_
  · rw [upd_ne (fun z => by subst z; rw [e3] at e; cases e)]
    exact r.sub _ _ e
  · rw [L.pk]
    exact ⟨⟨y, hy, upd_same⟩, by rw [upd_ne ne]; exact e2, ne, z⟩
def dInc (j : Nat) : DSt := fun E s => E.nx { s with n := s.n + j }
theorem simS_inc {x : Str} {j : Nat} (L : Slf C Cc f ls fs) (c : Cls C.K Cc) (n : NoAttr C.K Cc x) (hf : ∀ a b, (f ls a b).lookup x = some a) (hp : ∀ a b z, putF x z (f ls a b) = f ls z b) (hl : ∀ a b, (f ls a b).length < 1000) :
    SimS C cat (sFldAug C.K (tVar 0) (tC (.int (j : Nat))) rAdd x) (dInc j) := by
  refine ⟨fun H0 S0 Hs σ H s E D' r q k => ?_⟩
  obtain ⟨p, c', ep, e1, e2, e3⟩ := L.at_ r
  obtain ⟨⟨hv, hr, ei⟩, _, _, z⟩ := e2
  obtain ⟨r2, g2⟩ := r.putSelf L (k := s.n + j) ep hr
  refine ⟨.ref p, e1, p, Cc, c', _, _, rfl, ei, c, n, hf _ _, _, _, rfl, rfl, c', _, ei, hl _ _, ?_⟩
  rw [hp, show ((s.n : Int) + (j : Nat)) = ((s.n + j : Nat) : Int) by omega]
  exact k.nx Hs σ _ _ r2 q
/-- self.x = e, the other thing -/
def dSetO (a : DT) : DSt := fun E s => a s fun d s1 => E.nx { s1 with h := d }
theorem simS_setO {x : Str} (L : Slf C Cc f ls fs) (c : Cls C.K Cc) (n : NoAttr C.K Cc x) (hp : ∀ a b z, putF x z (f ls a b) = f ls a z) (hl : ∀ a b, (f ls a b).length < 1000) (h : Sim C ca te t) : SimS C cat (sFld C.K (tVar 0) te x) (dSetO t) := by
  refine ⟨fun H0 S0 Hs σ H s E D' r q k => h.toE.run H0 S0 Hs σ H s _ _ r q fun Hs1 H1 v d s1 g1 r1 v1 q1 => ?_⟩
  obtain ⟨p, c', ep, e1, e2, e3⟩ := L.at_ r1
  obtain ⟨⟨hv, hr, ei⟩, _, _, z⟩ := e2
  obtain ⟨r2, g2⟩ := r1.putSelf L (k := s1.n) ep (show Rp C.K Hs1 v d from v1)
  refine ⟨.ref p, e1, p, Cc, c', _, rfl, ei, c, n, hl _ _, ?_⟩
  rw [hp]
  exact k.nx Hs1 σ _ _ r2 q1
end
/-! lookups in written-out fields -/
theorem lk_hit {x : Str} {v : V} {r : List (Str × V)} : ((x, v) :: r).lookup x = some v := by rw [List.lookup_cons, beq_self_eq_true]
theorem lk_skip {x y : Str} {v : V} {r : List (Str × V)} (h : (x == y) = false) : ((y, v) :: r).lookup x = r.lookup x := by rw [List.lookup_cons, h]
theorem pf_hit {x : Str} {v z : V} {r : List (Str × V)} : putF x z ((x, v) :: r) = (x, z) :: r := by
  show (if x = x then _ else _) = _
  rw [if_pos rfl]
theorem pf_skip {x y : Str} {v z : V} {r : List (Str × V)} (h : ¬ y = x) : putF x z ((y, v) :: r) = (y, v) :: putF x z r := by
  show (if y = x then _ else _) = _
  rw [if_neg h]
/-! a, b, c = a list -/
theorem pgU {X : Cx} {es : List Expr} {k : Nat} {t : TGs} (K : PySem.W.Frag) (eK : X.K = K) (n : Nat) {pos : Pos} (hc : X.calm = true) (h : PGs X es t) (hn : (assignEach es X.env).length = n := by rfl) (hst : (assignEach es X.env).findIdx? (·.1) = none := by rfl) : PG X (.Tuple es k pos) (gUnl K n t) := by
  subst eK
  exact pg_unl hc h hn hst
def sUnl (n : Nat) (a : List D → S → (S → Prop) → Prop) : D → S → (S → Prop) → Prop := fun d s Q => match d with
  | .list ds => ds.length = n ∧ a ds s Q
  | _ => False
theorem simG_unl {C : Cf} {ts : List Nat} {n : Nat} {gs : TGs} {x : List D → S → (S → Prop) → Prop} (h : SimGs C ts gs x) : SimG C false ts (gUnl C.K n gs) (sUnl n x) := by
  refine ⟨fun H0 S0 Hs σ H s v d Q Q' r hv q k => ?_⟩
  cases d <;> first | exact q.elim | skip
  cases (show Rp C.K Hs v _ from hv) with
  | @lst p xs _ e1 e2 =>
  exact ⟨p, xs, rfl, SqL.of (r.sub _ _ e1), by rw [e2.len]; exact q.1, h.run H0 S0 Hs σ H s _ _ _ _ r e2 q.2 k⟩
/-! a method by what K holds -/
section
variable {K : PySem.W.Frag} {x q : Str} {st : Stmt} {f : Addr} {oc : Value} {od an : Option Addr} {osl : Array (Option Value)} {kV doc pm cdv ct : Value}
theorem funD_mk (l : K.lookup f = some ⟨oc, od, .func (PySem.W.fnOf x q (defArgs st) (defBody st) (defScope st) .none kV doc pm an cdv ct), osl⟩) (c : PySem.W.codeIn K cdv q = true) (k : PySem.W.keepIn K (.ref f) = true) :
    FunD K x q (defArgs st) (defBody st) (defScope st) [] [] f (PySem.W.fnOf x q (defArgs st) (defBody st) (defScope st) .none kV doc pm an cdv ct) :=
  ⟨⟨oc, od, .none, kV, doc, pm, an, cdv, ct, osl, rfl, l, c, .inl ⟨rfl, rfl⟩, .inl rfl⟩, k⟩
theorem funD_mk1 {T : Addr} {ocT : Value} {odT : Option Addr} {nT : Nat} {slT : Array (Option Value)} (l : K.lookup f = some ⟨oc, od, .func (PySem.W.fnOf x q (defArgs st) (defBody st) (defScope st) (.ref T) kV doc pm an cdv ct), osl⟩) (c : PySem.W.codeIn K cdv q = true) (k : PySem.W.keepIn K (.ref f) = true)
    (lT : K.lookup T = some ⟨ocT, odT, .seq #[.none] nT, slT⟩) :
    FunD K x q (defArgs st) (defBody st) (defScope st) [.non] [] f (PySem.W.fnOf x q (defArgs st) (defBody st) (defScope st) (.ref T) kV doc pm an cdv ct) :=
  ⟨⟨oc, od, .ref T, kV, doc, pm, an, cdv, ct, osl, rfl, l, c, .inr ⟨by simp, T, _, [.none], nT, rfl, lT, rfl, .cons rfl .nil⟩, .inl rfl⟩, k⟩
theorem vals_nil' {ds : List Value} (h : Vals [] ds) : ds = [] := by cases h; rfl
end

/-! ### sorted(d.items()), d from ints to ints -/
open L2.DX (itemsO pget)
def tItems (td : TE) : TE := fun σ H Q => td σ H fun x H1 => ∃ a kvs, x = .ref a ∧ Rd H1 a (.dK kvs) ∧ ∀ p, H1 p = none → Q (.ref p) (L2.upd H1 p (itemsO p a))
theorem rd_raw {X : Cx} {pins : List (Addr × Obj)} {σ : L2.St} {H : Hp} {s : Shared} (I : Inv X pins σ H s) {a : Addr} {kvs : List (Key × V)} (hd : Rd H a (.dK kvs)) :
    (a == sysModules) = false ∧ ∃ (o : Obj) (es : Array DictEntry) (ep : Nat) (vs : List (Key × Value)), s.heap.get? a = some o ∧ o.ExactDict ∧ o.data = .dict es ep ∧ KV kvs vs ∧ Pairs (mixKind X.prog X.w) es.toList vs ∧ kvs.length ≤ sizeLine := by
  obtain ⟨z, lo, vs, rel, dd⟩ := dk_rd I.hok hd
  obtain ⟨o, es, ep, h1, h2, h3, _, h5, _⟩ := dd
  exact ⟨lo, o, es, ep, vs, h1, h2, h3, rel, h5, z⟩
theorem pe_itemsV {X : Cx} {o : Expr} {apos cpos : Pos} {td : TE} (ho : PE X o td) (hbase : attributeBase o "items" X.env (eval o X.env) = eval o X.env := by rfl) (hline : (apos.endLine == cpos.line) = true := by rfl) :
    PE X (.Call (.Attribute o "items" apos) [] [] cpos) (tItems td) := by
  refine ⟨fun pins s σ H Q I h => ?_⟩
  refine wpAny_Call_method (T := "dict") (id := "dict.items") hbase rfl hline PySem.F.plainAttrs_dict PySem.F.slot_dict_items PySem.F.type_dict_items (thn (ho.run pins s σ H _ I h) fun u s1 ⟨x, H1, I1, rx, a, kvs, ex, hd, q⟩ => ?_)
  subst ex
  obtain rfl : u = Value.ref a := rx
  obtain ⟨t1, t2, _⟩ := isD_at I1 (.inl ⟨kvs, hd⟩)
  refine ⟨t1, t2, ?_⟩
  obtain ⟨lo, o, es, ep, vs, h1, h2, h3, _⟩ := rd_raw I1 hd
  show wpAny _ _ (callWith cpos (.builtin "dict.items") [.ref a] [] []) _ X.xe s1
  refine Calls.callWith_builtin rfl (PySem.evalArgs_none (DT.callItems (es := es) (ep := ep) lo ⟨o, h1, h2, h3⟩ ?_))
  have hf : H1 s1.heap.objs.size = none := I1.hok.fresh (Nat.le_refl _)
  exact ⟨.ref s1.heap.objs.size, _, I1.laid (t' := s1.toks) (fun b u e => Heap.get?_push_of_some _ e) (Nat.le_refl _) (L2.DX.itemsO_ok (Heap.get?_push_size _ rfl)), rfl, q _ hf⟩
def ipO (q : Int × Int) : Key × V := (.inl q.1, .int q.2)
theorem pairs_ix {K : Type} [DecidableEq K] {P : Program} {w : World} {knd : KeyKind P w K} : ∀ {es : List DictEntry} {kvs : List (K × Value)} {j : Nat} {e : DictEntry}, Pairs knd es kvs → es[j]? = some e → ∃ kv, kvs[j]? = some kv ∧ knd.is kv.1 e.key = true ∧ e.val = kv.2
  | _, _, j, e, .nil, h => by simp at h
  | _, _, 0, e, .cons a b _, h => by
    simp only [List.getElem?_cons_zero] at h
    cases h
    exact ⟨_, rfl, a, b⟩
  | _, _, j + 1, e, .cons _ _ t, h => by
    simp only [List.getElem?_cons_succ] at h
    obtain ⟨kv, h1, h2⟩ := pairs_ix t h
    exact ⟨kv, by rw [List.getElem?_cons_succ]; exact h1, h2⟩
theorem pairs_len {K : Type} [DecidableEq K] {P : Program} {w : World} {knd : KeyKind P w K} : ∀ {es : List DictEntry} {kvs : List (K × Value)}, Pairs knd es kvs → es.length = kvs.length
  | _, _, .nil => rfl
  | _, _, .cons _ _ t => by rw [List.length_cons, List.length_cons, pairs_len t]
def adrOf : Value → Addr
  | .ref b => b
  | _ => 0
def pairOf (h : Heap) (v : Value) : Int × Int := match h.get? (adrOf v) with
  | some o => (match o.data with
    | .seq its _ => (match its.toList with
      | [.int a _, .int b _] => (a, b)
      | _ => (0, 0))
    | _ => (0, 0))
  | none => (0, 0)
theorem takeZ {X : Cx} {pins : List (Addr × Obj)} {σ : L2.St} {H0 : Hp} {s : Shared} {h' : Heap} {tk : Nat} {P : Addr → HO → Prop} (I0 : Inv X pins σ H0 s) : ∀ (L : List Addr) (H1 : Hp), Inv X pins σ H1 { s with heap := h', toks := tk } → L.Nodup →
    (∀ a ∈ L, s.heap.objs.size ≤ a ∧ H1 a = none ∧ ∃ o, P a o ∧ ∀ H2, ObjOk X.prog X.w H2 h' a o) →
    ∃ H2, Inv X pins σ H2 { s with heap := h', toks := tk } ∧ (∀ b o, H1 b = some o → H2 b = some o) ∧ ∀ a ∈ L, ∃ o, P a o ∧ H2 a = some o
  | [], H1, I1, _, _ => ⟨H1, I1, fun _ _ e => e, fun _ h => nomatch h⟩
  | a :: L, H1, I1, hn, h => by
    obtain ⟨hb, hnone, o, hP, ok⟩ := h a (List.mem_cons_self ..)
    have I2 : Inv X pins σ (L2.upd H1 a o) { s with heap := h', toks := tk } := I1.take (h' := h') (t' := tk) (fun b ob _ e => e) (I0.fpOk hb hnone) (ok _)
    rw [List.nodup_cons] at hn
    obtain ⟨H2, I3, g, q⟩ := takeZ I0 L (L2.upd H1 a o) I2 hn.2 fun c hc => by
      obtain ⟨c1, c2, c3⟩ := h c (List.mem_cons_of_mem _ hc)
      exact ⟨c1, by rw [upd_ne (fun z => hn.1 (by rw [← z]; exact hc))]; exact c2, c3⟩
    refine ⟨H2, I3, fun b o e => g b o (by rw [upd_ne (ne_of_none e hnone)]; exact e), fun c hc => ?_⟩
    rcases List.mem_cons.mp hc with rfl | hc
    · exact ⟨o, hP, g _ _ upd_same⟩
    · exact q c hc
def rSortII : List V → Hp → VK → Prop := fun xs H Q => ∃ (p a : Addr) (ps : List (Int × Int)), xs = [.ref p] ∧ H p = some (itemsO p a) ∧ Rd H a (.dK (ps.map ipO)) ∧
  ∀ (H' : Hp) (l : Addr) (zs : List (Addr × (Int × Int))), Same H H' → H l = none → H' l = some (.lst (zs.map fun z => V.ref z.1)) → (zs.map (·.2)).Perm ps → SrtO.Srtd SrtO.lexB (zs.map (·.2)) →
    (∀ z ∈ zs, H z.1 = none ∧ z.1 ≠ l ∧ ∃ o, H' z.1 = some (.frz o (.tup [.int z.2.1, .int z.2.2])) ∧ o.dict = none) → Q (.ref l) H'
theorem cr_sortII {X : Cx} (hc : X.calm = true) : CallR X (.builtin "sorted") rSortII := by
  intro pins s σ H xs us Q I r h
  obtain ⟨p, a, ps, rfl, hp, ha, q⟩ := h
  obtain rfl := Vals.ref1 r
  have view : s.heap.IsItemsView p a := (show ObjOk X.prog X.w H s.heap p (itemsO p a) from I.hok p _ hp).1
  obtain ⟨lo, o, es, ep, vs, ho, hx, hdat, rel, hpr, hz⟩ := rd_raw I ha
  rw [List.length_map] at hz
  have l1 : ps.length = vs.length := by
    have := Paired.length rel
    rwa [List.length_map] at this
  have l2 : es.size = vs.length := by
    rw [← Array.length_toList]
    exact pairs_len hpr
  refine DT.sortedI (es := es) (ep := ep) (I.ok.hd hc) view ⟨o, ho, hx, hdat⟩ (by omega) fun h' tk as hk hlt hl hG => ?_
  have lap : as.length = ps.length := by omega
  have nd : as.Nodup := List.Pairwise.imp (fun h => Nat.ne_of_lt h) hG.rise
  have pr : ∀ (j : Nat) (b : Addr), as[j]? = some b → ∃ (e : Int × Int) (t t' : Tok), ps[j]? = some e ∧ h'.get? b = some (tupObj [Value.int e.1 t, Value.int e.2 t']) := by
    intro j b hj
    obtain ⟨en, he, hg⟩ := hG.pairs j b hj
    obtain ⟨kv, e1, e2, e3⟩ := pairs_ix hpr (by rw [Array.getElem?_toList]; exact he)
    obtain ⟨y, f1, f2, f3⟩ := pget rel e1
    rw [List.getElem?_map] at f1
    cases hq : ps[j]? with
    | none => rw [hq] at f1; cases f1
    | some e =>
      rw [hq] at f1
      have f1' : ipO e = y := Option.some.inj f1
      subst f1'
      have f2' : (Sum.inl e.1 : Key) = kv.1 := f2
      obtain ⟨t', f3'⟩ := (show ∃ t', kv.2 = Value.int e.2 t' from f3)
      rw [← f2'] at e2
      rcases keyIs_shape (show L2.keyIs (Sum.inl e.1) en.key = true from e2) with ⟨i, t, ek, ev⟩ | ⟨z, t, ek, ev⟩
      · cases ek
        refine ⟨e, t, t', rfl, ?_⟩
        rw [hg, ev, e3, f3']
        rfl
      · cases ek
  have kp : ∀ (j : Nat) (b : Addr) (e : Int × Int), as[j]? = some b → ps[j]? = some e → pairOf h' (.ref b) = e := by
    intro j b e hj he
    obtain ⟨e', t, t', h1, h2⟩ := pr j b hj
    rw [he] at h1
    cases h1
    unfold pairOf adrOf
    rw [h2]
    rfl
  have hob : (h'.push { cls := .type "list", data := .seq (as.map Value.ref).toArray }).get? h'.objs.size = some (seqObj "list" (as.map Value.ref).toArray 0) := Heap.get?_push_size _ rfl
  have kb : ∀ b o, s.heap.get? b = some o → (h'.push { cls := .type "list", data := .seq (as.map Value.ref).toArray }).get? b = some o := fun b o e => Heap.get?_push_of_some _ (hk b o e)
  have ne0 : ∀ b o, h'.get? b = some o → b ≠ h'.objs.size := fun b o e => Nat.ne_of_lt (Heap.lt_size e)
  generalize hh2 : h'.push { cls := .type "list", data := .seq (as.map Value.ref).toArray } = h2 at hob kb ⊢
  have ka : ∀ b o, h'.get? b = some o → h2.get? b = some o := fun b o e => by rw [← hh2]; exact Heap.get?_push_of_some _ e
  have at_ : ∀ v ∈ as.map Value.ref, ∃ (j : Nat) (b : Addr) (e : Int × Int) (t t' : Tok), v = .ref b ∧ as[j]? = some b ∧ ps[j]? = some e ∧ h'.get? b = some (tupObj [Value.int e.1 t, Value.int e.2 t']) ∧ pairOf h' v = e := by
    intro v hv'
    obtain ⟨b, hb, rfl⟩ := List.mem_map.mp hv'
    obtain ⟨j, hj⟩ := List.mem_iff_getElem?.mp hb
    obtain ⟨e, t, t', he, hg⟩ := pr j b hj
    exact ⟨j, b, e, t, t', rfl, hj, he, hg, kp j b e hj he⟩
  have mp : (as.map Value.ref).map (pairOf h') = ps := by
    apply List.ext_getElem?
    intro j
    rw [List.getElem?_map, List.getElem?_map]
    cases hj : as[j]? with
    | none =>
      have : ps[j]? = none := by rw [List.getElem?_eq_none_iff] at hj ⊢; omega
      rw [this]
      rfl
    | some b =>
      obtain ⟨e, _, _, he, _⟩ := pr j b hj
      rw [he]
      show some (pairOf h' (.ref b)) = some e
      rw [kp j b e hj he]
  refine wpAny_call_entry PyProof.Rows.slot_list_sort ⟨_, hob, rfl⟩ PyProof.Rows.entry_list_sort
    (SrtO.list_sort_ord (s := { s with heap := h2, toks := tk }) (ltv := fun v u => SrtO.lexB (pairOf h' v) (pairOf h' u)) (SrtO.swo_lex (pairOf h')) hob (by rw [List.length_map]; omega) (fun h2' => SrtO.pairs_sortableO (by omega) (fun v hv => ?_) fun o e => ?_) fun out o1 o2 => ⟨.none, rfl, ?_⟩) (PyProof.Rows.args_list_sort _)
  · obtain ⟨j, b, e, t, t', rfl, hj, he, hg, hk'⟩ := at_ v hv
    rw [hk']
    exact ⟨b, _, t, t', 0, rfl, ka _ _ hg, rfl, rfl⟩
  · have e' : some o = some (seqObj "list" (as.map Value.ref).toArray 0) := e.symm.trans hob
    cases e'
    intro c
    exact absurd (Value.type.inj c) (by decide)
  · show EP X pins σ Q (.ref h'.objs.size) { s with heap := sortedHeap h2 h'.objs.size (as.map Value.ref) out.toArray, toks := tk }
    have perm : out.Perm (as.map Value.ref) := o2.perm
    have ato : ∀ v ∈ out, ∃ (b : Addr) (e : Int × Int) (t t' : Tok), v = .ref b ∧ b ∈ as ∧ h'.get? b = some (tupObj [Value.int e.1 t, Value.int e.2 t']) ∧ pairOf h' v = e := by
      intro v hv
      obtain ⟨j, b, e, t, t', h1, h2, h3, h4, h5⟩ := at_ v (perm.mem_iff.mp hv)
      exact ⟨b, e, t, t', h1, List.mem_of_getElem? h2, h4, h5⟩
    have kF : ∀ b o, b ≠ h'.objs.size → h2.get? b = some o → (sortedHeap h2 h'.objs.size (as.map Value.ref) out.toArray).get? b = some o := fun b o hb e => (PyProof.Rows.sortedHeap_old hb (Heap.lt_size e)).trans e
    have kS : ∀ b o, s.heap.get? b = some o → (sortedHeap h2 h'.objs.size (as.map Value.ref) out.toArray).get? b = some o := fun b o e => kF b o (ne0 _ _ (hk b o e)) (kb b o e)
    obtain ⟨eF, heF⟩ := PyProof.Rows.sortedHeap_at (vs := as.map Value.ref) (out := out.toArray) hob
    have I1 : Inv X pins σ H { s with heap := sortedHeap h2 h'.objs.size (as.map Value.ref) out.toArray, toks := tk } := I.kept (t' := tk) kS
    have hn0 : H h'.objs.size = none := I.hok.fresh (Nat.le_of_lt hlt)
    have rv : Vals (out.map fun v => V.ref (adrOf v)) out := by
      have := vals_maps (fun v => V.ref (adrOf v)) (fun v => v) out fun v hv => by
        obtain ⟨b, e, t, t', rfl, _⟩ := ato v hv
        exact (show RelV (V.ref b) (Value.ref b) from rfl)
      rwa [List.map_id'] at this
    have hlen : (out.map fun v => V.ref (adrOf v)).length ≤ sizeLine := by
      rw [List.length_map, perm.length_eq, List.length_map]
      omega
    have I2 : Inv X pins σ (L2.upd H h'.objs.size (.lst (out.map fun v => V.ref (adrOf v)))) { s with heap := sortedHeap h2 h'.objs.size (as.map Value.ref) out.toArray, toks := tk } :=
      I1.take (h' := sortedHeap h2 h'.objs.size (as.map Value.ref) out.toArray) (t' := tk) (fun b ob _ e => e) (I.fpOk (Nat.le_of_lt hlt) hn0) ⟨hlen, out, eF, rv, heF⟩
    have abv : ∀ b ∈ as, s.heap.objs.size ≤ b ∧ b ≠ h'.objs.size ∧ H b = none := fun b hb => by
      have g1 := hG.above b hb
      obtain ⟨j, hj⟩ := List.mem_iff_getElem?.mp hb
      obtain ⟨_, _, _, _, hg⟩ := pr j b hj
      exact ⟨Nat.le_of_lt g1, ne0 _ _ hg, I.hok.fresh (Nat.le_of_lt g1)⟩
    obtain ⟨H2, I3, g, qt⟩ := takeZ (P := fun b u => ∃ o, u = .frz o (.tup [.int (pairOf h' (.ref b)).1, .int (pairOf h' (.ref b)).2]) ∧ o.dict = none) I as _ I2 nd fun b hb => by
      obtain ⟨j, hj⟩ := List.mem_iff_getElem?.mp hb
      obtain ⟨e, t, t', he, hg⟩ := pr j b hj
      obtain ⟨a1, a2, a3⟩ := abv b hb
      refine ⟨a1, by rw [upd_ne a2]; exact a3, _, ⟨tupObj [Value.int e.1 t, Value.int e.2 t'], rfl, rfl⟩, fun H2 => ?_⟩
      rw [kp j b e hj he]
      have hF := kF b _ a2 (ka _ _ hg)
      exact ⟨hF, (by show 2 ≤ sizeLine; rw [sizeLine_eq]; omega), [Value.int e.1 t, Value.int e.2 t'], .cons ⟨t, rfl⟩ (.cons ⟨t', rfl⟩ .nil), _, hF, rfl, _, rfl⟩
    refine ⟨.ref h'.objs.size, H2, I3, rfl, q H2 h'.objs.size (out.map fun v => (adrOf v, pairOf h' v)) (fun b o e => g b o (by rw [upd_ne (ne_of_none e hn0)]; exact e)) hn0 ?_ ?_ ?_ fun z hz => ?_⟩
    · rw [List.map_map]
      exact g _ _ upd_same
    · rw [List.map_map]
      show (out.map (pairOf h')).Perm ps
      rw [← mp]
      exact perm.map _
    · rw [List.map_map]
      show SrtO.Srtd SrtO.lexB (out.map (pairOf h'))
      unfold SrtO.Srtd at o1 ⊢
      rw [List.pairwise_map]
      exact o1
    · obtain ⟨v, hv, rfl⟩ := List.mem_map.mp hz
      obtain ⟨b, e, t, t', rfl, hb, hg, he⟩ := ato v hv
      obtain ⟨a1, a2, a3⟩ := abv b hb
      obtain ⟨u, ⟨o, rfl, od⟩, hu⟩ := qt b hb
      exact ⟨a3, a2, o, hu, od⟩
def intPairs : List (D × D) → Option (List (Int × Int))
  | [] => some []
  | (.int i, .int j) :: r => (intPairs r).map ((i, j) :: ·)
  | _ => none
theorem intPairs_rp {K : PySem.W.Frag} {H : Hp} : ∀ {kvs : List (Key × V)} {ds : List (D × D)} {ps : List (Int × Int)}, RpKV K H kvs ds → intPairs ds = some ps → kvs = ps.map ipO
  | _, _, _, .nil, e => by cases e; rfl
  | _, _, _, .cons (k := k) (d := d) (ds := ds) a b, e => by
    cases k with
    | inr z => exfalso; have e' : (none : Option (List (Int × Int))) = some _ := e; cases e'
    | inl i =>
      cases d <;> first | (exfalso; have e' : (none : Option (List (Int × Int))) = some _ := e; cases e'; done) | skip
      rename_i j
      cases a
      have e' : (intPairs ds).map ((i, j) :: ·) = some _ := e
      rw [Option.map_eq_some_iff] at e'
      obtain ⟨ms, e1, rfl⟩ := e'
      rw [intPairs_rp b e1]
      rfl
def ipT (q : Int × Int) : D := .tuple [.int q.1, .int q.2]
def dSortIt (a : DT) : DT := fun s Q => a s fun d s1 => match d with
  | .dict kvs => ∃ ps, intPairs kvs = some ps ∧ ∀ qs, qs.Perm ps → SrtO.Srtd SrtO.lexB qs → Q (.list (qs.map ipT)) s1
  | _ => False
theorem sim_sortIt {C : Cf} {ca : Cat} {te : TE} {t : DT} (h : Sim C ca te t) : Sim C .F (tCB rSortII (tCons (tItems te) tNil)) (dSortIt t) := by
  classical
  refine ⟨fun H0 S0 Hs σ H s Q Q' r q k => h.run H0 S0 Hs σ H s _ _ r q fun Hs1 H1 v d s1 g1 r1 v1 q1 => ?_⟩
  have rd := v1.rd r1.sub
  cases d <;> first | exact q1.elim | skip
  rename_i kvs
  obtain ⟨a, ls, rfl, e1, e2⟩ := Rd'.dict rd
  obtain ⟨ps, e3, q1⟩ := q1
  obtain rfl := intPairs_rp e2 e3
  refine ⟨a, _, rfl, e1, fun p np => ?_⟩
  have np' : Same H1 (L2.upd H1 p (itemsO p a)) := same_upd np
  refine ⟨p, a, ps, rfl, upd_same, rd_same np' e1, fun H' l zs sm nl hl hp hs hz => ?_⟩
  have up : ∀ b, L2.upd H1 p (itemsO p a) b = none → H1 b = none := fun b e => by
    cases q : H1 b with
    | none => rfl
    | some o => rw [np' _ _ q] at e; cases e
  let Hs' : Hp := fun b => if (∃ z ∈ zs, z.1 = b) then H' b else Hs1 b
  have hh : Same H1 H' := np'.trans sm
  have n1 : ∀ b, H1 b = none → Hs1 b = none := fun b e => by
    cases q : Hs1 b with
    | none => rfl
    | some o => rw [r1.sub _ _ q] at e; cases e
  have st : Same Hs1 Hs' := fun b o e => by
    show (if (∃ z ∈ zs, z.1 = b) then H' b else Hs1 b) = some o
    rw [if_neg]
    · exact e
    · rintro ⟨z, hm, rfl⟩
      rw [n1 _ (up _ (hz z hm).1)] at e
      cases e
  have sb : Same Hs' H' := fun b o e => by
    have e : (if (∃ z ∈ zs, z.1 = b) then H' b else Hs1 b) = some o := e
    by_cases c : ∃ z ∈ zs, z.1 = b
    · rw [if_pos c] at e; exact e
    · rw [if_neg c] at e; exact hh _ _ (r1.sub _ _ e)
  have nw : ∀ b, Hs1 b = none → Hs' b ≠ none → H1 b = none := fun b e1 e2 => by
    by_cases c : ∃ z ∈ zs, z.1 = b
    · obtain ⟨z, hm, rfl⟩ := c
      exact up _ (hz z hm).1
    · exact absurd ((show Hs' b = Hs1 b from if_neg c).trans e1) e2
  obtain ⟨r2, g2⟩ := r1.step st sb hh nw
  have hl0 : H1 l = none := up l nl
  have hsl : Hs' l = none := by
    show (if (∃ z ∈ zs, z.1 = l) then H' l else Hs1 l) = none
    rw [if_neg]
    · exact n1 _ hl0
    · rintro ⟨z, hm, e⟩
      exact (hz z hm).2.1 e
  have rp : ∀ ys : List (Addr × (Int × Int)), (∀ z ∈ ys, z ∈ zs) → RpAll C.K Hs' (ys.map fun z => V.ref z.1) ((ys.map (·.2)).map ipT) := fun ys => by
    induction ys with
    | nil => exact fun _ => .nil
    | cons y ys ih =>
      intro hy
      obtain ⟨_, _, o, ho, od⟩ := hz y (hy y (List.mem_cons_self ..))
      have hs' : Hs' y.1 = some (.frz o (.tup [.int y.2.1, .int y.2.2])) := by
        show (if (∃ z ∈ zs, z.1 = y.1) then H' y.1 else Hs1 y.1) = _
        rw [if_pos ⟨y, hy y (List.mem_cons_self ..), rfl⟩]
        exact ho
      exact .cons (Rp.tup (TqT.of hs' od) (.cons (.int _) (.cons (.int _) .nil))) (ih fun z hm => hy z (List.mem_cons_of_mem _ hm))
  refine k Hs' H' _ (.list _) s1 (g1.trans g2) r2 ((RV.val (H := H1) ?_ r1).anew fun a e => g1.back a e) (q1 _ hp hs)
  exact ⟨l, _, rfl, hl, hsl, hl0, .lst (rp zs fun _ m => m)⟩
/-! ### sorted(d), d's keys ints -/
def sortID : DF := fun ds Q => match ds with
  | [d] => (match d with
    | .dict kvs => ∃ ks : List Int, kvs.map Prod.fst = ks.map PyData.int ∧ ks.length < 64 ∧ ∀ ys : List Int, ys.Perm ks → ys.Pairwise (· ≤ ·) → Q (.list (ys.map PyData.int))
    | _ => False)
  | _ => False
theorem keysI_map {K : PySem.W.Frag} {H : Hp} : ∀ {kvs : List (Key × V)} {ds : List (D × D)} {ks : List Int}, RpKV K H kvs ds → ds.map Prod.fst = ks.map PyData.int → kvs.map (·.1) = ks.map Sum.inl
  | _, _, [], .nil, _ => rfl
  | _, _, k :: ks, .nil, e => by cases e
  | _, _, [], .cons a b, e => by cases e
  | _, _, k :: ks, .cons (k := kk) a b, e => by
    rw [List.map_cons, List.map_cons] at e
    injection e with e1 e2
    rw [List.map_cons, List.map_cons, keysI_map b e2]
    cases kk with
    | inr i => cases e1
    | inl z => cases e1; rfl
theorem ints_rp' {K : PySem.W.Frag} {H : Hp} : ∀ ys : List Int, RpAll K H (ys.map V.int) (ys.map PyData.int)
  | [] => .nil
  | y :: ys => .cons (.int y) (ints_rp' ys)
theorem caA_sortI {C : Cf} : CaA C (fun xs H Q => ∃ (a : Addr) (kvs : List (Key × V)) (ks : List Int), xs = [.ref a] ∧ Rd H a (.dK kvs) ∧ kvs.map (·.1) = ks.map Sum.inl ∧ ks.length < 64 ∧
    ∀ (ys : List Int) (p : Addr), ys.Perm ks → ys.Pairwise (· ≤ ·) → H p = none → Q (.ref p) (upd H p (.lst (ys.map V.int)))) sortID := by
  intro H0 S0 Hs σ H s vs ds Q Q' r hd q k
  match vs, ds, hd with
  | [v], [d], ⟨h, _⟩ =>
    cases d <;> first | exact q.elim | skip
    obtain ⟨a, ls, rfl, e1, e2⟩ := Rd'.dict h
    obtain ⟨ks, e3, hl, q⟩ := q
    exact ⟨a, ls, ks, rfl, e1, keysI_map e2 e3, hl, fun ys p hp hs np => k Hs _ _ (.list _) (Go.laid np) (r.laid np) (r.newList np (ints_rp' ys)) (q ys hp hs)⟩
  | [], [], _ => exact q.elim
  | _ :: _ :: _, _ :: _ :: _, _ => exact q.elim

/-! ### x = a new dict; x["k"] = e: then it is still -/
section
variable {C : Cf} {cat ca cb : Cat} {ta tb : TE} {da db : DT} {us : TS} {b : DSt}
theorem R.setN {H0 S0 Hs : Hp} {σ : L2.St} {H : Hp} {s : S} {i : Nat} {v : V} (r : R C H0 S0 Hs σ H s) (hi : i ∉ C.M) (hp : i ≠ C.ps) : R C H0 S0 Hs (σ.set i (some v)) H { s with δ := s.δ.set i none } := by
  have ne : ∀ j, j ∈ C.M → j ≠ i := fun j m z => hi (z ▸ m)
  refine ⟨by simpa using r.len, r.sub, fun j d' q m => ?_, fun j d' q m => ?_, fun j m q => ?_, fun j l x m1 m2 q1 q2 => ?_, fun p c q => ?_, fun b hb => ?_, r.s0, r.h0, r.new⟩
  · by_cases hj : j = i
    · subst hj
      have il : j < s.δ.length := by
        have := (List.getElem?_eq_some_iff.mp q).1
        simpa using this
      rw [List.getElem?_set_self il] at q
      cases q
    · rw [List.getElem?_set_ne (Ne.symm hj)] at q ⊢
      exact r.slot j d' q m
  · rw [List.getElem?_set_ne (Ne.symm (ne j m))] at q ⊢
    exact r.mt j d' q m
  · rw [List.getElem?_set_ne (Ne.symm (ne j m))] at q ⊢
    exact r.dead j m q
  · rw [List.getElem?_set_ne (Ne.symm (ne j m1))] at q1
    rw [List.getElem?_set_ne (Ne.symm (ne l m2))] at q2
    exact r.sep j l x m1 m2 q1 q2
  · obtain ⟨f1, f2, f3, f4, f5, f6, f7⟩ := r.pn p c q
    exact ⟨by rw [List.getElem?_set_ne hp]; exact f1, f2, f3, f4, f5, by rw [List.getElem?_set_ne hp]; exact f6, f7⟩
  · obtain ⟨⟨j, b1, b2, b3⟩, b4⟩ := r.br b hb
    exact ⟨⟨j, b1, b2, by rw [List.getElem?_set_ne (Ne.symm (ne j b2))]; exact b3⟩, b4⟩
def dSetPut (i : Nat) (da : DT) (key : Str) (db : DT) (b : DSt) : DSt := fun E s => da s fun d s1 => match d with
  | .dict kvs => db { s1 with δ := s1.δ.set i none } fun v s2 => kvs.length < sizeLine ∧ b E { s2 with δ := s2.δ.set i (some (.dict (putD kvs (.str key) v))) }
  | _ => False
theorem simS_putSeq {key : Str} (i : Nat) (hi : i ∉ C.M) (hp : i ≠ C.ps) (h1 : Sim C .F ta da) (h2 : Sim C cb tb db) (hb : SimS C cat us b) :
    SimS C cat (tSeq (tAsg ta (gName i)) (tSeq (sDPut (tVar i) (tC (.str key)) tb) us)) (fun E s => i < s.δ.length ∧ dSetPut i da key db b E s) := by
  refine ⟨fun H0 S0 Hs σ H s E D' r ⟨hil, q⟩ k => h1.run H0 S0 Hs σ H s _ _ r q fun Hs1 H1 v d s1 g1 r1 v1 q1 => ?_⟩
  cases d <;> first | exact q1.elim | skip
  rename_i kvs
  obtain ⟨a, rfl, o, f1, f2, f3, f4, f5, f6⟩ := v1.c rfl
  have hiσ : i < σ.length := by rw [r.len]; exact hil
  have own' : ∀ {x : Addr}, Own C (σ.set i (some (.ref a))) x → Own C σ x := fun {x} ⟨j, m, e⟩ => ⟨j, m, by
    rw [List.getElem?_set_ne (fun z => hi (by rw [z]; exact m))] at e
    exact e⟩
  have r2 := r1.setN (v := .ref a) hi hp
  have v1' : Val C H0 H Hs1 (σ.set i (some (.ref a))) H1 .F (.ref a) (.dict kvs) := Val.mkC ⟨o, f1, f2, f3, f4, f5, fun z => f6 (own' z)⟩
  refine h2.toE.run H0 S0 Hs1 (σ.set i (some (.ref a))) H1 _ _ _ r2 q1 fun Hs2 H2 y dy s2 g2 r3 v2 q2 => ?_
  have v3 := v1'.go r2 g2
  obtain ⟨a', e, o2, z1, z2, z3, z4, cn, no⟩ := v3.c rfl
  cases e
  cases cn with
  | dic rp =>
    rename_i xs
    have v2' : Rp C.K Hs2 y dy := v2
    refine ⟨.ref a, List.getElem?_set_self hiσ, a, _, rfl, DPut.k (k := .inr key) z1 (by rw [rp.len]; exact q2.1), ?_⟩
    have r4 := r3.updF (o := .dK (putK xs (.inr key) y)) z2 z3 no
    obtain ⟨Hs3, sm, r5, rp5, _⟩ := r4.freeze (Hst := H) (a := a) (d := .dict (putD kvs (.str key) dy)) ⟨_, upd_same, z2, z3, z4, .dic (rp.put (k := .inr key) v2'), no⟩
    have r6 := r5.setE hi hp rp5
    rw [List.set_set] at r6
    exact hb.run H0 S0 Hs3 _ _ _ E D' r6 q2.2 k
end
/-! ### x = a new list; x is changed; then it is still -/
section
variable {C : Cf} {cat ca cb : Cat} {ta tb : TE} {da db : DT} {ts us : TS} {a b : DSt}
theorem R.toM {H0 S0 Hs : Hp} {σ : L2.St} {H : Hp} {s : S} {i : Nat} {x : Addr} {d : D} {Hst : Hp} (r : R C H0 S0 Hs σ H s) (hi : i ∉ C.M) (hp : i ≠ C.ps) (hil : i < s.δ.length) (f : Fresh C H0 Hst Hs σ H x d) :
    R { C with M := i :: C.M } H0 S0 Hs (σ.set i (some (.ref x))) H { s with δ := s.δ.set i (some d) } := by
  obtain ⟨o, h1, h2, h3, _, h4, h5⟩ := f
  have ne : ∀ j, j ∈ C.M → j ≠ i := fun j m z => hi (z ▸ m)
  have hiσ : i < σ.length := by rw [r.len]; exact hil
  refine ⟨by simpa using r.len, r.sub, fun j d' q m => ?_, fun j d' q m => ?_, fun j m q => ?_, fun j l y m1 m2 q1 q2 => ?_, fun p c q => ?_, fun b hb' => ?_, r.s0, r.h0, r.new⟩
  · have hj : j ≠ i := fun z => m (by rw [z]; exact List.mem_cons_self ..)
    have hm : j ∉ C.M := fun z => m (List.mem_cons_of_mem _ z)
    rw [List.getElem?_set_ne (Ne.symm hj)] at q ⊢
    exact r.slot j d' q hm
  · by_cases hj : j = i
    · subst hj
      rw [List.getElem?_set_self hil] at q
      cases q
      exact ⟨x, o, List.getElem?_set_self hiσ, h1, h2, h4, .inl h3⟩
    · have hm : j ∈ C.M := (List.mem_cons.mp m).resolve_left hj
      rw [List.getElem?_set_ne (Ne.symm hj)] at q ⊢
      exact r.mt j d' q hm
  · by_cases hj : j = i
    · subst hj
      rw [List.getElem?_set_self hil] at q
      cases q
    · have hm : j ∈ C.M := (List.mem_cons.mp m).resolve_left hj
      rw [List.getElem?_set_ne (Ne.symm hj)] at q ⊢
      exact r.dead j hm q
  · by_cases hj : j = i
    · by_cases hl : l = i
      · rw [hj, hl]
      · subst hj
        rw [List.getElem?_set_self hiσ] at q1
        cases q1
        rw [List.getElem?_set_ne (Ne.symm hl)] at q2
        exact absurd ⟨l, (List.mem_cons.mp m2).resolve_left hl, q2⟩ h5
    · by_cases hl : l = i
      · subst hl
        rw [List.getElem?_set_self hiσ] at q2
        cases q2
        rw [List.getElem?_set_ne (Ne.symm hj)] at q1
        exact absurd ⟨j, (List.mem_cons.mp m1).resolve_left hj, q1⟩ h5
      · rw [List.getElem?_set_ne (Ne.symm hj)] at q1
        rw [List.getElem?_set_ne (Ne.symm hl)] at q2
        exact r.sep j l y ((List.mem_cons.mp m1).resolve_left hj) ((List.mem_cons.mp m2).resolve_left hl) q1 q2
  · obtain ⟨f1, f2, f3, f4, f5, f6, f7⟩ := r.pn p c q
    exact ⟨by rw [List.getElem?_set_ne hp]; exact f1, f2, f3, f4, f5, by rw [List.getElem?_set_ne hp]; exact f6, fun z => (List.mem_cons.mp z).elim (fun z => hp z.symm) f7.1, f7.2⟩
  · obtain ⟨⟨j, b1, b2, b3⟩, b4⟩ := r.br b hb'
    exact ⟨⟨j, b1, List.mem_cons_of_mem _ b2, by rw [List.getElem?_set_ne (Ne.symm (ne j b2))]; exact b3⟩, b4⟩
def dPhase (i : Nat) (da : DT) (a b : DSt) : DSt := fun E s => da s fun d s1 => isC d = true ∧ i < s1.δ.length ∧ a { nx := fun s' => b E s', rt := fun _ _ => False } { s1 with δ := s1.δ.set i (some d) }
theorem simS_phase (i : Nat) (hi : i ∉ C.M) (hp : i ≠ C.ps) (hb' : i ∉ C.bs) (h1 : Sim C .F ta da) (hA : SimS { C with M := i :: C.M } cat ts a) (hB : SimS C cat us b) : SimS C cat (tSeq (tAsg ta (gName i)) (tSeq ts us)) (dPhase i da a b) := by
  refine ⟨fun H0 S0 Hs σ H s E D' r q k => h1.run H0 S0 Hs σ H s _ _ r q fun Hs1 H1 v d s1 g1 r1 v1 q1 => ?_⟩
  obtain ⟨qc, hil, q1⟩ := q1
  obtain ⟨x, rfl, f⟩ := v1.c qc
  have r2 := r1.toM hi hp hil f
  refine hA.run H0 S0 Hs1 _ H1 _ _ _ r2 q1 ⟨fun Hs2 σ2 H2 s2 r3 q2 => ?_, fun _ _ _ _ _ _ _ _ z => z.elim, fun _ _ _ _ _ z => z.elim, fun _ _ _ _ _ z => z.elim⟩
  obtain ⟨Hs3, r4⟩ := r3.still (M' := C.M) (i := i) (fun j => List.mem_cons) hi hb'
  exact hB.run H0 S0 Hs3 σ2 H2 s2 E D' r4 q2 k
end
/-! ### powers of big bases -/
def powWD : DO := fun x y Q => match x, y with
  | .int i, .int j => CPowW i j ∧ Q (.int (i ^ j.toNat))
  | _, _ => False
theorem opA_powW {C : Cf} : OpA C (rI CPowW fun i j => .int (i ^ j.toNat)) powWD := by
  intro H0 S0 Hs σ H s x y dx dy Q Q' r hx hy q k
  cases dx <;> cases dy <;> first | exact q.elim | skip
  case int.int i j => cases hx; cases hy; exact ⟨i, j, rfl, rfl, q.1, k Hs H _ (.int (i ^ j.toNat)) Go.refl r (Val.mkP (Rp.int _) rfl) q.2⟩

/-! ### trees of bounded depth and size: what == and repr may see -/
mutual
def bd : D → Bool
  | .none => true
  | .bool _ => true
  | .int i => decide (i.natAbs < 10 ^ 420)
  | .str x => PyData.strOk x
  | .list ds => bdAll ds
  | .tuple ds => bdAll ds
  | .dict _ => false
def bdAll : List D → Bool
  | [] => true
  | d :: ds => bd d && bdAll ds
end
mutual
def sz : D → Nat
  | .none => 4
  | .bool _ => 5
  | .int i => if i.natAbs < 10 ^ 250 then 251 else 421
  | .str x => 10 * x.length + 2
  | .list ds => szAll ds + 3
  | .tuple ds => szAll ds + 3
  | .dict _ => 0
def szAll : List D → Nat
  | [] => 0
  | d :: ds => sz d + 2 + szAll ds
end
theorem strLen_app (a b : Str) : (a ++ b).length = a.length + b.length := by
  rw [TL.len_tl, TL.len_tl, TL.len_tl, TL.tl_append, List.length_append]
theorem log1920 {n : Nat} (h : n < 10 ^ 420) : n.log2 < 1920 := by
  by_cases h0 : n = 0
  · subst h0; decide
  · exact (Nat.log2_lt h0).mpr (Nat.lt_of_lt_of_le h (by decide +kernel))
mutual
theorem bd_lay : ∀ d : D, bd d = true → PyData.canLay0 d = true ∧ d.showable = true
  | .none, _ => ⟨rfl, rfl⟩
  | .bool _, _ => ⟨rfl, rfl⟩
  | .int i, h => ⟨rfl, by simp only [bd, decide_eq_true_eq] at h; simp only [PyData.showable]; exact decide_eq_true (log1920 h)⟩
  | .str x, h => ⟨by simpa [PyData.canLay0, bd] using h, rfl⟩
  | .list ds, h => by
    have := bd_layL ds (by simpa [bd] using h)
    exact ⟨by simpa [PyData.canLay0] using this.1, by simpa [PyData.showable] using this.2⟩
  | .tuple ds, h => by
    have := bd_layL ds (by simpa [bd] using h)
    exact ⟨by simpa [PyData.canLay0] using this.1, by simpa [PyData.showable] using this.2⟩
  | .dict _, h => by simp [bd] at h
theorem bd_layL : ∀ ds : List D, bdAll ds = true → PyData.canLayAll0 ds = true ∧ PyData.showableAll ds = true
  | [], _ => ⟨rfl, rfl⟩
  | d :: ds, h => by
    simp only [bdAll, Bool.and_eq_true] at h
    have h1 := bd_lay d h.1
    have h2 := bd_layL ds h.2
    exact ⟨by simp [PyData.canLayAll0, h1.1, h2.1], by simp [PyData.showableAll, h1.2, h2.2]⟩
end
theorem join_le (ts : List Str) : (Str.join ", " ts).length ≤ piled ts := by
  cases ts with
  | nil => decide +kernel
  | cons t r =>
    have := join_length_add (t :: r) (by simp)
    omega
theorem textFrom_le : ∀ (ts : List Str) (k : Nat) (acc : Str), (textFrom k acc ts).length ≤ acc.length + piled ts
  | [], k, acc => by show acc.length ≤ acc.length + piled []; omega
  | t :: r, k, acc => by
    by_cases hk : 0 < k
    · rw [textFrom_length_pos _ k acc hk]; exact Nat.le_refl _
    · have ih := textFrom_length_pos r (k + 1) (acc ++ (if k > 0 then ", " else "" : String) ++ t) (by omega)
      have e : (textFrom k acc (t :: r)) = textFrom (k + 1) (acc ++ (if k > 0 then ", " else "" : String) ++ t) r := rfl
      rw [e, ih, piled_cons, if_neg hk, strLen_app, strLen_app]
      have : ((("" : String) : Str)).length = 0 := by decide +kernel
      rw [this]
      omega
mutual
theorem shown_le : ∀ d : D, bd d = true → d.shown.length ≤ sz d
  | .none, _ => by simp only [PyData.shown, sz]; decide +kernel
  | .bool b, _ => by cases b <;> (simp only [PyData.shown, sz]; decide +kernel)
  | .int i, h => by
    simp only [bd, decide_eq_true_eq] at h
    simp only [PyData.shown, sz]
    have h2 : (Str.ofString (toString i)).length = (toString i).length := by
      exact PySem.ofString_length _
    by_cases hb : i.natAbs < 10 ^ 250
    · rw [if_pos hb]
      have h1 := int_text_length_le10 (a := i) (k := 250) (by decide) hb
      omega
    · rw [if_neg hb]
      have h1 := int_text_length_le10 (a := i) (k := 420) (by decide) h
      omega
  | .str x, h => by
    simp only [bd] at h
    simp only [PyData.shown, sz]
    refine PySem.StrLaws.reprText_len x fun c hc => ?_
    unfold PyData.strOk at h
    rw [Array.all_eq_true'] at h
    have := h c (by simpa using hc)
    simp at this
    omega
  | .list ds, h => by
    have := shownL_le ds (by simpa [bd] using h)
    have e := textFrom_le (PyData.shownAll ds) 0 "["
    simp only [PyData.shown, sz, listText]
    rw [strLen_app]
    have e1 : ((("[" : String) : Str)).length = 1 := by decide +kernel
    have e2 : ((("]" : String) : Str)).length = 1 := by decide +kernel
    omega
  | .tuple ds, h => by
    have := shownL_le ds (by simpa [bd] using h)
    have e := join_le (PyData.shownAll ds)
    simp only [PyData.shown, sz, tupleText]
    rw [strLen_app, strLen_app]
    have e1 : ((("(" : String) : Str)).length = 1 := by decide +kernel
    have e2 : (((if (PyData.shownAll ds).length == 1 then ",)" else ")" : String) : Str)).length ≤ 2 := by
      split <;> decide +kernel
    omega
  | .dict _, h => by simp [bd] at h
theorem shownL_le : ∀ ds : List D, bdAll ds = true → piled (PyData.shownAll ds) ≤ szAll ds
  | [], _ => by simp only [PyData.shownAll, szAll]; exact Nat.le_refl _
  | d :: ds, h => by
    simp only [bdAll, Bool.and_eq_true] at h
    have h1 := shown_le d h.1
    have h2 := shownL_le ds h.2
    simp only [PyData.shownAll, szAll, piled_cons]
    omega
end
/-- a tree of depth at most h, written with at most t signs -/
structure Bt (h t : Nat) (d : D) : Prop where
  b : bd d = true
  h : PyData.depth d ≤ h
  t : sz d ≤ t
structure BtL (h t : Nat) (ds : List D) : Prop where
  b : bdAll ds = true
  h : PyData.depthAll ds ≤ h
  t : szAll ds ≤ t
section
variable {h h' t t' a b : Nat} {d : D} {ds es : List D}
theorem Bt.to (x : Bt h t d) (l : h ≤ h') (m : t ≤ t') : Bt h' t' d := ⟨x.b, Nat.le_trans x.h l, Nat.le_trans x.t m⟩
theorem BtL.to (x : BtL h t ds) (l : h ≤ h') (m : t ≤ t') : BtL h' t' ds := ⟨x.b, Nat.le_trans x.h l, Nat.le_trans x.t m⟩
theorem Bt.lit (e : (bd d && decide (PyData.depth d ≤ h) && decide (sz d ≤ t)) = true) : Bt h t d := by
  simp only [Bool.and_eq_true, decide_eq_true_eq] at e
  exact ⟨e.1.1, e.1.2, e.2⟩
theorem BtL.nil : BtL h t [] := ⟨rfl, Nat.zero_le _, Nat.zero_le _⟩
theorem BtL.cons (x : Bt h a d) (y : BtL h b ds) : BtL h (a + b + 2) (d :: ds) := by
  refine ⟨by rw [bdAll, x.b, y.b]; rfl, ?_, ?_⟩
  · have := x.h; have := y.h; simp only [PyData.depthAll]; omega
  · have := x.t; have := y.t; simp only [szAll]; omega
theorem Bt.tup (x : BtL h t ds) : Bt (h + 1) (t + 3) (.tuple ds) := by
  refine ⟨by rw [bd, x.b], ?_, ?_⟩
  · have := x.h; simp only [PyData.depth]; omega
  · have := x.t; simp only [sz]; omega
theorem Bt.lst (x : BtL h t ds) : Bt (h + 1) (t + 3) (.list ds) := by
  refine ⟨by rw [bd, x.b], ?_, ?_⟩
  · have := x.h; simp only [PyData.depth]; omega
  · have := x.t; simp only [sz]; omega
theorem Bt.ofTup (x : Bt h t (.tuple ds)) : BtL (h - 1) t ds := by
  obtain ⟨x1, x2, x3⟩ := x
  rw [bd] at x1
  simp only [PyData.depth] at x2
  simp only [sz] at x3
  exact ⟨x1, by omega, by omega⟩
theorem Bt.ofLst (x : Bt h t (.list ds)) : BtL (h - 1) t ds := by
  obtain ⟨x1, x2, x3⟩ := x
  rw [bd] at x1
  simp only [PyData.depth] at x2
  simp only [sz] at x3
  exact ⟨x1, by omega, by omega⟩
theorem Bt.pos (x : Bt h t (.tuple ds)) : 1 ≤ h := by
  have := x.h
  simp only [PyData.depth] at this
  omega
theorem BtL.head (x : BtL h t (d :: ds)) : Bt h t d ∧ BtL h t ds := by
  obtain ⟨x1, x2, x3⟩ := x
  rw [bdAll, Bool.and_eq_true] at x1
  simp only [PyData.depthAll] at x2
  simp only [szAll] at x3
  exact ⟨⟨x1.1, by omega, by omega⟩, ⟨x1.2, by omega, by omega⟩⟩
theorem BtL.mem : ∀ {ds : List D}, BtL h t ds → ∀ d ∈ ds, Bt h t d
  | [], _, d, m => nomatch m
  | e :: ds, x, d, m => by
    obtain ⟨x1, x2⟩ := x.head
    rcases List.mem_cons.mp m with rfl | m
    · exact x1
    · exact BtL.mem x2 d m
theorem BtL.app : ∀ {ds es : List D} {a b : Nat}, BtL h a ds → BtL h b es → BtL h (a + b) (ds ++ es)
  | [], es, a, b, _, y => y.to (Nat.le_refl _) (by omega)
  | d :: ds, es, a, b, x, y => by
    obtain ⟨x1, x2, x3⟩ := x
    rw [bdAll, Bool.and_eq_true] at x1
    simp only [PyData.depthAll] at x2
    simp only [szAll] at x3
    have r := BtL.app (ds := ds) (a := a - sz d - 2) ⟨x1.2, by omega, by omega⟩ y
    refine ⟨by rw [List.cons_append, bdAll, x1.1, r.b]; rfl, ?_, ?_⟩
    · have := r.h; rw [List.cons_append]; simp only [PyData.depthAll]; omega
    · have := r.t; rw [List.cons_append]; simp only [szAll]; omega
theorem BtL.all : ∀ {ds : List D}, (∀ d ∈ ds, Bt h t d) → BtL h (ds.length * (t + 2)) ds
  | [], _ => ⟨rfl, Nat.zero_le _, Nat.zero_le _⟩
  | d :: ds, x => by
    have r := BtL.cons (x d (List.mem_cons_self ..)) (BtL.all fun e m => x e (List.mem_cons_of_mem _ m))
    refine r.to (Nat.le_refl _) ?_
    rw [List.length_cons, Nat.succ_mul]
    omega
theorem BtL.take (n : Nat) (x : BtL h t ds) : BtL h t (ds.take n) := by
  induction n generalizing ds t with
  | zero => rw [List.take_zero]; exact ⟨rfl, Nat.zero_le _, Nat.zero_le _⟩
  | succ n ih =>
    cases ds with
    | nil => exact x
    | cons d ds =>
      obtain ⟨x1, x2, x3⟩ := x
      rw [bdAll, Bool.and_eq_true] at x1
      simp only [PyData.depthAll] at x2
      simp only [szAll] at x3
      have r := ih (ds := ds) (t := t - sz d - 2) ⟨x1.2, by omega, by omega⟩
      refine ⟨by rw [List.take_succ_cons, bdAll, x1.1, r.b]; rfl, ?_, ?_⟩
      · have := r.h; rw [List.take_succ_cons]; simp only [PyData.depthAll]; omega
      · have := r.t; rw [List.take_succ_cons]; simp only [szAll]; omega
theorem BtL.drop (n : Nat) (x : BtL h t ds) : BtL h t (ds.drop n) := by
  induction n generalizing ds with
  | zero => exact x
  | succ n ih =>
    cases ds with
    | nil => exact x
    | cons d ds => exact ih x.head.2
theorem Bt.sh (x : Bt h t d) (l : h ≤ 64) : Sh d := by
  show (PyData.canLay0 _ && decide (PyData.depth _ ≤ 64)) = true
  rw [Bool.and_eq_true, decide_eq_true_eq]
  exact ⟨(bd_lay d x.b).1, Nat.le_trans x.h l⟩
theorem Bt.repr (x : Bt h t d) (l : h ≤ 64) (m : t ≤ 16000000) {Q : D → Prop} (q : Q (.str d.shown)) : reprD [d] Q :=
  ⟨x.sh l, (bd_lay d x.b).2, Nat.le_trans (shown_le d x.b) (Nat.le_trans x.t (Nat.le_trans m (by decide))), q⟩
theorem Bt.int {i : Int} (hi : i.natAbs < 10 ^ 250) : Bt h 251 (.int i) := ⟨by simp only [bd]; exact decide_eq_true (Nat.lt_of_lt_of_le hi (Nat.pow_le_pow_right (by decide) (by decide))), Nat.zero_le _, by simp only [sz]; rw [if_pos hi]; exact Nat.le_refl _⟩
theorem Bt.bigInt {i : Int} (hi : i.natAbs < 10 ^ 420) : Bt h 421 (.int i) := ⟨by simp only [bd]; exact decide_eq_true hi, Nat.zero_le _, by simp only [sz]; split <;> decide⟩
theorem Bt.str {x : Str} (hx : PyData.strOk x = true) {n : Nat} (hn : x.length ≤ n) : Bt h (10 * n + 2) (.str x) := ⟨by simp only [bd]; exact hx, Nat.zero_le _, by simp only [sz]; omega⟩
theorem i250 {i : Int} {k : Nat} (h : i.natAbs < 10 ^ 40) : i.natAbs < 10 ^ 250 := Nat.lt_of_lt_of_le h (Nat.pow_le_pow_right (by decide) (by decide))
end

/-! ### repr of a tree that may hold dicts -/
section
variable {X : Cx} {pins : List (Addr × Obj)} {σ : L2.St} {H : Hp} {s : Shared}
mutual
theorem Rp.rk (I : Inv X pins σ H s) : ∀ (d : D) (v : V) (u : Value), Rp X.K H v d → RelV v u → d.showable = true → d.shown.length ≤ sizeLine → ∃ as bs, Reads s.heap u d as ∧ ReadAtMost s.heap d.depth bs ∧ ReprK X.prog X.w bs s.heap d.depth u d.shown
  | .none, _, _, h, r, hs, hz => by
    cases h; cases r
    obtain ⟨bs, h1, h2⟩ := ReprK.of_reads (prog := X.prog) (w := X.w) (h₀ := s.heap) Reads.none hs (fun z => by cases z) hz
    exact ⟨_, bs, Reads.none, h1, h2⟩
  | .bool b, _, _, h, r, hs, hz => by
    cases h; cases r
    obtain ⟨bs, h1, h2⟩ := ReprK.of_reads (prog := X.prog) (w := X.w) (h₀ := s.heap) (Reads.bool b) hs (fun z => by cases z) hz
    exact ⟨_, bs, Reads.bool b, h1, h2⟩
  | .int i, _, _, h, r, hs, hz => by
    cases h; obtain ⟨t, rfl⟩ := r
    obtain ⟨bs, h1, h2⟩ := ReprK.of_reads (prog := X.prog) (w := X.w) (h₀ := s.heap) (Reads.int i t) hs (fun z => by cases z) hz
    exact ⟨_, bs, Reads.int i t, h1, h2⟩
  | .str x, _, _, h, r, hs, hz => by
    cases h; obtain ⟨t, rfl⟩ := r
    obtain ⟨bs, h1, h2⟩ := ReprK.of_reads (prog := X.prog) (w := X.w) (h₀ := s.heap) (Reads.str x t) hs (fun z => by cases z) hz
    exact ⟨_, bs, Reads.str x t, h1, h2⟩
  | .list ds, _, _, h, r, hs, hz => by
    cases h with
    | lst hq ha =>
      cases r
      obtain ⟨its, rv, ⟨o, n, ho, hc, _, hd⟩, _⟩ := I.list (SqL.of hq)
      have hz' : (listText (PyData.shownAll ds)).length ≤ sizeLine := by simpa only [PyData.shown] using hz
      obtain ⟨as, bs, h4, hb, hk⟩ := Rp.rkAll I ds _ its ha rv (by simpa [PyData.showable] using hs) (fun t ht => Nat.le_trans (listText_mem_le ht) hz')
      have rr : Reads s.heap (.ref _) (.list ds) _ := .list ho hc hd h4
      have hna := not_mem_of_deeper rr (by simp only [PyData.depth]; omega) hb
      refine ⟨_, _, rr, ReadAtMost.cons rr (by simp only [PyData.depth]; omega) hb, ?_⟩
      simp only [PyData.depth, PyData.shown]
      cases its with
      | nil =>
        cases h4
        simp only [PyData.shownAll, listText_nil]
        exact ReprK.listEmpty ho hc hd
      | cons x l => exact ReprK.list ho hc hd hna (by simpa using hk.length_eq) (fun i y e => hk.item i y (by simpa using e))
  | .tuple ds, _, _, h, r, hs, hz => by
    cases h with
    | tup hq ha =>
      cases r
      obtain ⟨its, rv, ⟨o, ho, hc, n, hd⟩, _⟩ := I.tuple hq.sq
      have hz' : (tupleText (PyData.shownAll ds)).length ≤ sizeLine := by simpa only [PyData.shown] using hz
      obtain ⟨as, bs, h4, hb, hk⟩ := Rp.rkAll I ds _ its ha rv (by simpa [PyData.showable] using hs) (fun t ht => Nat.le_trans (tupleText_mem_le ht) hz')
      have rr : Reads s.heap (.ref _) (.tuple ds) _ := .tuple ho hc hd h4
      have hna := not_mem_of_deeper rr (by simp only [PyData.depth]; omega) hb
      refine ⟨_, _, rr, ReadAtMost.cons rr (by simp only [PyData.depth]; omega) hb, ?_⟩
      simp only [PyData.depth, PyData.shown]
      exact ReprK.tuple ho hc hd hna hk
  | .dict ds, _, _, h, r, hs, hz => by
    cases h with
    | dic hq ha =>
      cases r
      obtain ⟨_, hsm, vs, kv, o, es, ep, ho, hx, hd, _, hp, _⟩ := dk_rd I.hok hq
      have hz' : (dictText (PyData.shownKv ds)).length ≤ sizeLine := by simpa only [PyData.shown] using hz
      obtain ⟨hs1, hs2⟩ := PyData.showableKv_split ds (by simpa [PyData.showable] using hs)
      obtain ⟨as, bs, b1, b2, h1, h2, hb1, hb2, k1, k2⟩ := Rp.rkKV I ds _ vs es.toList ha kv hp hs1 hs2 (fun t ht => let ⟨p, hp, hl⟩ := PyData.shownKv_key_le ds t ht; Nat.le_trans hl (Nat.le_trans (dictText_mem_le hp) hz')) (fun t ht => let ⟨p, hp, hl⟩ := PyData.shownKv_val_le ds t ht; Nat.le_trans hl (Nat.le_trans (dictText_mem_le hp) hz'))
      have rr : Reads s.heap (.ref _) (.dict ds) _ := .dict ho hx.1 hd h1 h2
      have hb : ReadAtMost s.heap (PyData.depthKv ds) (b1 ++ b2) := (hb1.mono (PyData.depthAll_keys_le ds)).append (hb2.mono (PyData.depthAll_vals_le ds))
      have hna := not_mem_of_deeper rr (by simp only [PyData.depth]; omega) hb
      refine ⟨_, _, rr, ReadAtMost.cons rr (by simp only [PyData.depth]; omega) hb, ?_⟩
      simp only [PyData.depth, PyData.shown, PyData.shownKv_eq]
      exact ReprK.dict ho hx.1 hd hsm hna (ReprEntriesK.of_two es.toList _ _ (k1.more_le (fun b hb => List.mem_append_left _ hb) (PyData.depthAll_keys_le ds)) (k2.more_le (fun b hb => List.mem_append_right _ hb) (PyData.depthAll_vals_le ds)))
theorem Rp.rkAll (I : Inv X pins σ H s) : ∀ (ds : List D) (vs : List V) (us : List Value), RpAll X.K H vs ds → Vals vs us → PyData.showableAll ds = true → (∀ t ∈ PyData.shownAll ds, t.length ≤ sizeLine) →
    ∃ as bs, ReadsAll s.heap us ds as ∧ ReadAtMost s.heap (PyData.depthAll ds) bs ∧ ReprAllK X.prog X.w bs s.heap (PyData.depthAll ds) us (PyData.shownAll ds)
  | [], _, _, h, r, _, _ => by cases h; cases r; exact ⟨_, [], ReadsAll.nil, (fun _ h => nomatch h), by simp only [PyData.shownAll]; exact .nil⟩
  | d :: ds, _, _, h, r, hs, hz => by
    have hs' : d.showable = true ∧ PyData.showableAll ds = true := by simpa [PyData.showableAll] using hs
    cases h with
    | cons h1 h2 =>
      cases r with
      | cons r1 r2 =>
        obtain ⟨as, b1, q1, hb1, k1⟩ := Rp.rk I d _ _ h1 r1 hs'.1 (hz _ (by simp only [PyData.shownAll]; exact List.mem_cons_self ..))
        obtain ⟨bs, b2, q2, hb2, k2⟩ := Rp.rkAll I ds _ _ h2 r2 hs'.2 (fun t ht => hz t (by simp only [PyData.shownAll]; exact List.mem_cons_of_mem _ ht))
        refine ⟨_, b1 ++ b2, ReadsAll.cons q1 q2, ?_, ?_⟩
        · simp only [PyData.depthAll]
          exact (hb1.mono (Nat.le_max_left _ _)).append (hb2.mono (Nat.le_max_right _ _))
        · simp only [PyData.depthAll, PyData.shownAll]
          exact .cons ((k1.more fun b hb => List.mem_append_left _ hb).level_le (Nat.le_max_left _ _)) (k2.more_le (fun b hb => List.mem_append_right _ hb) (Nat.le_max_right _ _))
theorem Rp.rkKV (I : Inv X pins σ H s) : ∀ (ds : List (D × D)) (kvs : List (Key × V)) (vs : List (Key × Value)) (es : List DictEntry), RpKV X.K H kvs ds → KV kvs vs → Pairs (mixKind X.prog X.w) es vs →
    PyData.showableAll (ds.map (·.1)) = true → PyData.showableAll (ds.map (·.2)) = true → (∀ t ∈ PyData.shownAll (ds.map (·.1)), t.length ≤ sizeLine) → (∀ t ∈ PyData.shownAll (ds.map (·.2)), t.length ≤ sizeLine) →
    ∃ as bs b1 b2, ReadsAll s.heap (es.map (·.key)) (ds.map (·.1)) as ∧ ReadsAll s.heap (es.map (·.val)) (ds.map (·.2)) bs ∧ ReadAtMost s.heap (PyData.depthAll (ds.map (·.1))) b1 ∧ ReadAtMost s.heap (PyData.depthAll (ds.map (·.2))) b2 ∧
      ReprAllK X.prog X.w b1 s.heap (PyData.depthAll (ds.map (·.1))) (es.map (·.key)) (PyData.shownAll (ds.map (·.1))) ∧ ReprAllK X.prog X.w b2 s.heap (PyData.depthAll (ds.map (·.2))) (es.map (·.val)) (PyData.shownAll (ds.map (·.2)))
  | [], _, _, _, h, r, p, _, _, _, _ => by
    cases h; cases r; cases p
    exact ⟨_, _, [], [], ReadsAll.nil, ReadsAll.nil, (fun _ h => nomatch h), (fun _ h => nomatch h), by simp only [List.map_nil, PyData.shownAll]; exact .nil, by simp only [List.map_nil, PyData.shownAll]; exact .nil⟩
  | (k0, d) :: ds, _, _, _, h, r, p, s1, s2, z1, z2 => by
    cases h with
    | cons h1 h2 =>
      cases r with
      | cons r1 r2 =>
        cases p with
        | cons p1 p2 p3 =>
          rename_i kk _ _ _ _ ee _
          simp only [List.map_cons] at s1 s2 z1 z2 ⊢
          have s1' : PyData.showable (keyD kk) = true ∧ PyData.showableAll (ds.map (·.1)) = true := by simpa [PyData.showableAll] using s1
          have s2' : PyData.showable d = true ∧ PyData.showableAll (ds.map (·.2)) = true := by simpa [PyData.showableAll] using s2
          obtain ⟨as, bs, c1, c2, q1, q2, hb1, hb2, k1, k2⟩ := Rp.rkKV I ds _ _ _ h2 r2 p3 s1'.2 s2'.2 (fun t ht => z1 t (by simp only [PyData.shownAll]; exact List.mem_cons_of_mem _ ht)) (fun t ht => z2 t (by simp only [PyData.shownAll]; exact List.mem_cons_of_mem _ ht))
          obtain ⟨xs, e2, q3, hb3, k3⟩ := Rp.rk I d _ _ h1 r1.2 s2'.1 (z2 _ (by simp only [PyData.shownAll]; exact List.mem_cons_self ..))
          rw [← p2] at q3 k3
          have hk : Reads s.heap ee.key (keyD kk) [] := by
            rw [← r1.1] at p1
            rcases keyIs_shape p1 with ⟨i, t, e1, e2⟩ | ⟨x, t, e1, e2⟩
            · rw [show kk = Sum.inl i from e1, e2]; exact Reads.int i t
            · rw [show kk = Sum.inr x from e1, e2]; exact Reads.str x t
          have hnd : (keyD kk).hasDict = true → sysModules ∉ ([] : List Addr) := fun _ => List.not_mem_nil
          obtain ⟨e1, hb4, k4⟩ := ReprK.of_reads (prog := X.prog) (w := X.w) hk s1'.1 hnd (z1 _ (by simp only [PyData.shownAll]; exact List.mem_cons_self ..))
          refine ⟨_, _, e1 ++ c1, e2 ++ c2, ReadsAll.cons hk q1, ReadsAll.cons q3 q2, ?_, ?_, ?_, ?_⟩
          · simp only [PyData.depthAll]
            exact (hb4.mono (Nat.le_max_left _ _)).append (hb1.mono (Nat.le_max_right _ _))
          · simp only [PyData.depthAll]
            exact (hb3.mono (Nat.le_max_left _ _)).append (hb2.mono (Nat.le_max_right _ _))
          · simp only [PyData.depthAll, PyData.shownAll]
            exact .cons ((k4.more fun b hb => List.mem_append_left _ hb).level_le (Nat.le_max_left _ _)) (k1.more_le (fun b hb => List.mem_append_right _ hb) (Nat.le_max_right _ _))
          · simp only [PyData.depthAll, PyData.shownAll]
            exact .cons ((k3.more fun b hb => List.mem_append_left _ hb).level_le (Nat.le_max_left _ _)) (k2.more_le (fun b hb => List.mem_append_right _ hb) (Nat.le_max_right _ _))
end
end
def rReprT (K : PySem.W.Frag) : List V → Hp → VK → Prop := fun xs H Q => ∃ x d, xs = [x] ∧ Rp K H x d ∧ d.depth ≤ 64 ∧ d.showable = true ∧ d.shown.length ≤ sizeLine ∧ Q (.str d.shown) H
theorem reprT {X : Cx} (K : PySem.W.Frag) (eK : X.K = K) (hg : X.A.guards = some []) (hu : X.A.units + 65 < cLine) : CallR X (.builtin "repr") (rReprT K) := by
  subst eK
  intro pins s σ H xs us Q I rv h
  obtain ⟨x, d, rfl, hd, sd, hw, hz, q⟩ := h
  obtain ⟨u, rfl, ru⟩ := vals1 rv
  cases d with
  | none => cases hd; cases ru; exact PySem.P.repr_of_none ⟨.str _, H, I.tok _, ⟨_, rfl⟩, q⟩
  | bool b => cases hd; cases ru; exact PySem.P.repr_of_bool ⟨.str _, H, I.tok _, ⟨_, rfl⟩, q⟩
  | int i => cases hd; obtain ⟨t, rfl⟩ := ru; exact PySem.P.repr_of_int (by simpa [PyData.showable] using hw) ⟨.str _, H, I.tok _, ⟨_, rfl⟩, q⟩
  | str z => cases hd; obtain ⟨t, rfl⟩ := ru; exact PySem.P.repr_of_str ⟨.str _, H, I.tok _, ⟨_, rfl⟩, q⟩ hz
  | list ds =>
    cases hd with
    | lst hq ha =>
      cases ru
      obtain ⟨its, rv, ⟨o, n, ho, hc, _, hd⟩, _⟩ := I.list (SqL.of hq)
      have hz' : (listText (PyData.shownAll ds)).length ≤ sizeLine := by simpa only [PyData.shown] using hz
      obtain ⟨as, bs, h4, hb, hk⟩ := Rp.rkAll I ds _ its ha rv (by simpa [PyData.showable] using hw) (fun t ht => Nat.le_trans (listText_mem_le ht) hz')
      have rr : Reads s.heap (.ref _) (.list ds) _ := .list ho hc hd h4
      have hna := not_mem_of_deeper rr (by simp only [PyData.depth]; omega) hb
      simp only [PyData.depth] at sd
      simp only [PyData.shown] at q
      refine call_repr_slot (by omega) ⟨o, ho, hc⟩ F.slot_list_repr.toG ?_
      cases its with
      | nil =>
        cases h4
        simp only [PyData.shownAll, listText_nil] at q
        exact call_list_repr_empty ⟨o, ho, hc⟩ ho hd ⟨_, _, rfl, .str _, H, I.kept (fun _ _ e => e), ⟨_, rfl⟩, q⟩
      | cons x l => exact call_list_reprK ho hc hd hna (by simpa using hk.length_eq) (fun i y e => hk.item i y (by simpa using e)) hg (fun b _ => Clear.nil b) (by show X.A.units + 1 + _ < cLine; omega) (fun _ _ e => e) (fun h' u tk kp => ⟨_, _, rfl, .str _, H, I.kept kp, ⟨_, rfl⟩, q⟩) hz'
  | tuple ds =>
    cases hd with
    | tup hq ha =>
      cases ru
      obtain ⟨its, rv, ⟨o, ho, hc, n, hd⟩, _⟩ := I.tuple hq.sq
      have hz' : (tupleText (PyData.shownAll ds)).length ≤ sizeLine := by simpa only [PyData.shown] using hz
      obtain ⟨as, bs, h4, hb, hk⟩ := Rp.rkAll I ds _ its ha rv (by simpa [PyData.showable] using hw) (fun t ht => Nat.le_trans (tupleText_mem_le ht) hz')
      have rr : Reads s.heap (.ref _) (.tuple ds) _ := .tuple ho hc hd h4
      have hna := not_mem_of_deeper rr (by simp only [PyData.depth]; omega) hb
      simp only [PyData.depth] at sd
      simp only [PyData.shown] at q
      refine call_repr_slot (by omega) ⟨o, ho, hc⟩ F.slot_tuple_repr ?_
      exact call_tuple_reprK ho hc hd hna hk hg (fun b _ => Clear.nil b) (by show X.A.units + 1 + _ < cLine; omega) (fun _ _ e => e) (fun h' u tk kp => ⟨_, _, rfl, .str _, H, I.kept kp, ⟨_, rfl⟩, q⟩) hz'
  | dict ds =>
    cases hd with
    | dic hq ha =>
      cases ru
      obtain ⟨_, hsm, vs, kv, o, es, ep, ho, hx, hd, _, hp, _⟩ := dk_rd I.hok hq
      have hz' : (dictText (PyData.shownKv ds)).length ≤ sizeLine := by simpa only [PyData.shown] using hz
      obtain ⟨hs1, hs2⟩ := PyData.showableKv_split ds (by simpa [PyData.showable] using hw)
      obtain ⟨as, bs, b1, b2, h1, h2, hb1, hb2, k1, k2⟩ := Rp.rkKV I ds _ vs es.toList ha kv hp hs1 hs2 (fun t ht => let ⟨p, hp, hl⟩ := PyData.shownKv_key_le ds t ht; Nat.le_trans hl (Nat.le_trans (dictText_mem_le hp) hz')) (fun t ht => let ⟨p, hp, hl⟩ := PyData.shownKv_val_le ds t ht; Nat.le_trans hl (Nat.le_trans (dictText_mem_le hp) hz'))
      have rr : Reads s.heap (.ref _) (.dict ds) _ := .dict ho hx.1 hd h1 h2
      have hb : ReadAtMost s.heap (PyData.depthKv ds) (b1 ++ b2) := (hb1.mono (PyData.depthAll_keys_le ds)).append (hb2.mono (PyData.depthAll_vals_le ds))
      have hna := not_mem_of_deeper rr (by simp only [PyData.depth]; omega) hb
      simp only [PyData.depth] at sd
      simp only [PyData.shown, PyData.shownKv_eq] at q
      refine call_repr_slot (by omega) ⟨o, ho, hx.1⟩ F.slot_dict_repr ?_
      exact call_dict_reprK ho hx.1 hd hsm hna (ReprEntriesK.of_two es.toList _ _ (k1.more_le (fun b hb => List.mem_append_left _ hb) (PyData.depthAll_keys_le ds)) (k2.more_le (fun b hb => List.mem_append_right _ hb) (PyData.depthAll_vals_le ds))) hg (fun b _ => Clear.nil b) (by show X.A.units + 1 + _ < cLine; omega) (fun _ _ e => e) (fun h' u tk kp => ⟨_, _, rfl, .str _, H, I.kept kp, ⟨_, rfl⟩, q⟩) (by rw [← PyData.shownKv_eq]; exact hz')
theorem Rd'.rp {K : PySem.W.Frag} {Hs H : Hp} {v : V} {d : D} (h : Rd' K Hs H v d) (sub : Same Hs H) : Rp K H v d := by
  cases e : isC d with
  | true =>
    cases d <;> first | (exfalso; have e' : false = true := e; cases e'; done) | skip
    case list ds =>
      obtain ⟨a, xs, rfl, h1, h2⟩ := Rd'.list h
      exact .lst h1 (RpAll.mono sub h2)
    case dict ds =>
      obtain ⟨a, xs, rfl, h1, h2⟩ := Rd'.dict h
      exact .dic h1 (RpKV.mono sub h2)
  | false =>
    have h : (if isC d = true then _ else Rp K Hs v d) := h
    rw [if_neg (by rw [e]; exact Bool.false_ne_true)] at h
    exact Rp.mono sub h
def reprTD : DF := fun ds Q => match ds with
  | [d] => PyData.depth d ≤ 64 ∧ d.showable = true ∧ d.shown.length ≤ sizeLine ∧ Q (.str d.shown)
  | _ => False
theorem caA_reprT {C : Cf} : CaA C (rReprT C.K) reprTD := by
  intro H0 S0 Hs σ H s vs ds Q Q' r hd q k
  match vs, ds, hd with
  | [v], [d], ⟨h, _⟩ => exact ⟨v, d, rfl, h.rp r.sub, q.1, q.2.1, q.2.2.1, k Hs H _ (.str _) Go.refl r (Val.mkP (Rp.str _) rfl) q.2.2.2⟩
  | [], [], _ => exact q.elim
  | _ :: _ :: _, _ :: _ :: _, _ => exact q.elim

/-! ### enumerate of a tuple -/
theorem meets_enum1B {v : Value} {o : Obj} {H : Heap → Prop} (B : Begins v o H) :
    Meets (Builtin.«enumerate.__new__» ⟨[.type "enumerate", v], []⟩) (fun _ R s => H s.heap ∧
      R (.ok (.ret (.ref (s.heap.push o).objs.size))) { s with heap := (s.heap.push o).push { cls := .type "enumerate", data := .fields #[.none, .bool false, .ref s.heap.objs.size, rawInt 0, .none, .none] } }) :=
  .of_wp fun prog w A R s h => by
    obtain ⟨hp, g, d, tk, os⟩ := s
    obtain ⟨h1, h⟩ := h
    have hsub := sub_enumerate
    have q1 : ∀ {A' : Around} {E : Value → Shared → Prop} {Q : Value → Shared → Prop}, Q (.ref hp.objs.size) ⟨hp.push o, g, d, tk, os⟩ → wpAny (model prog w) A' (pyIter v) Q E ⟨hp, g, d, tk, os⟩ :=
      fun q => B.iter prog w _ _ ⟨hp, g, d, tk, os⟩ _ h1 q
    wp_walk using q1
    refine wpAny_stack_any fun st => wpAny_pure ?_
    split
    · rename_i c _ _ _ _ _
      cases (c == Value.type "enumerate")
      · wp_walk using q1
        exact ⟨_, rfl, h⟩
      · wp_walk using q1
        exact ⟨_, rfl, h⟩
    · wp_walk using q1
      exact ⟨_, rfl, h⟩
section
variable {prog : Program} {w : World} {A : Around} {E : Value → Shared → Prop} {s : Shared}
theorem enum1_begins {v : Value} {o : Obj} {H : Heap → Prop} {Q : Value → Shared → Prop} (B : Begins v o H) (h1 : H s.heap)
    (h : ∀ h', IsEnum h' (s.heap.objs.size + 1) s.heap.objs.size 0 .none → h'.get? s.heap.objs.size = some o → h'.objs.size = s.heap.objs.size + 2 →
      (∀ b o, s.heap.get? b = some o → h'.get? b = some o) → Q (.ref (s.heap.objs.size + 1)) { s with heap := h' }) :
    wpAny (model prog w) A (call (.type "enumerate") [v]) Q E s := by
  refine callType_new F.called_enumerate (by decide) (F.typeCall_enumerate_1 _) (F.newCall_enumerate_1 _) (fun obj => F.args_object_init_2 obj _) F.entry_enumerate_new (meets_enum1B B) ⟨h1, ?_⟩
  have hz : (s.heap.push o).objs.size = s.heap.objs.size + 1 := Heap.size_push ..
  show _ ∧ _
  rw [hz]
  have he : IsEnum ((s.heap.push o).push { cls := .type "enumerate", data := .fields #[.none, .bool false, .ref s.heap.objs.size, rawInt 0, .none, .none] }) (s.heap.objs.size + 1) s.heap.objs.size 0 .none := by
    have := Heap.get?_push_size (s.heap.push o) (o := { cls := .type "enumerate", data := .fields #[.none, .bool false, .ref s.heap.objs.size, rawInt 0, .none, .none] }) rfl
    rw [hz] at this
    exact this
  exact ⟨⟨_, he, rfl⟩, h _ he (Heap.get?_push_of_some _ (Heap.get?_push_size _ B.free)) (by rw [Heap.size_push, hz]) fun b o x => Heap.get?_push_of_some _ (Heap.get?_push_of_some _ x)⟩
end
def IteT (K : PySem.W.Frag) (b : Addr) (n : Nat) : It :=
  ⟨fun i H => ∃ (ys : List V) (y : V), SqT K H b ys ∧ ys.length = n ∧ ys[i]? = some y,
    fun i H v H' => ∃ T y, v = .ref T ∧ H T = none ∧ H' = L2.upd H T (.tup [.int (i : Nat), y]) ∧ ∀ ys, SqT K H b ys → ys[i]? = some y,
    fun i H => ∃ ys : List V, SqT K H b ys ∧ ys.length = n ∧ n ≤ i⟩
theorem turn_enumT {P : Program} {w : World} {K : PySem.W.Frag} {elts : List Expr} {kk n : Nat} {tpos : Pos} (b e it : Addr) (hne : e ≠ it) (heb : e ≠ b) (hbi : b ≠ it) :
    Turn P w K (.Tuple elts kk tpos) (IteT K b n) [e, it] e (fun i h => (∃ old, IsEnum h e it ((i : Nat) : Int) old) ∧ h.IsTupleIter it b i ∧ i ≤ n) where
  mem := by simp
  obj := fun i h st c hc => by
    obtain ⟨⟨old, he⟩, ⟨o, ho, hcl, hd⟩, _⟩ := st
    have e' : c = e ∨ c = it := by simpa using hc
    rcases e' with z | z
    · rw [z]; exact ⟨_, he, fun v q => nomatch q⟩
    · rw [z]; exact ⟨o, ho, fun v q => by rw [hd] at q; cases q⟩
  keep := fun i h h' st k => by
    obtain ⟨⟨old, he⟩, hi, hl⟩ := st
    exact ⟨⟨old, k e (by simp) _ he⟩, hi.at fun o q => k it (by simp) o q, hl⟩
  item := by
    intro X hP hw hK hc i pins s σ H E I hf st hg
    subst hP hw hK
    obtain ⟨⟨old, he⟩, hit, hl⟩ := st
    obtain ⟨ys, y, hqy, hlen, hy⟩ := hg
    obtain ⟨its, rv, p2, _⟩ := I.tuple hqy
    obtain ⟨u2, hu2, ru2⟩ := rv.get hy
    have hel : e < s.heap.objs.size := Heap.lt_size he
    have hil : it < s.heap.objs.size := by obtain ⟨_, q, _⟩ := hit; exact Heap.lt_size q
    have hin : i < n := by
      have := (List.getElem?_eq_some_iff.mp hy).1
      omega
    have hh : X.A.in1.handled = none := I.ok.hd hc
    have hsz : its.toArray.size = n := by rw [List.size_toArray, ← rv.length, hlen]
    have D := Draws.tuple (prog := X.prog) (w := X.w) hh it b hbi its.toArray
    rw [hsz] at D
    refine wpAny_pyNext_enum_itemD D he ⟨hit, p2⟩ hin hne (by simp [hne, heb]) fun v h' tk hv ho hit' hT hsz' hk => ?_
    have ew : v = u2 := by
      have e : its.toArray[i]? = some v := hv
      rw [List.getElem?_toArray, hu2] at e
      exact (Option.some.inj e).symm
    subst ew
    refine ⟨_, rfl, wpAny_letOwnedTupleGo_enum (s := { s with heap := h', toks := tk + 1 }) ho fun h'' he' sb => ?_⟩
    have hT2 : h''.get? s.heap.objs.size = some { cls := .type "tuple", data := .seq #[.int i tk, v] } := (sb.2 _ (Nat.ne_of_gt hel)).trans hT
    have new : ObjOk X.prog X.w (L2.upd H s.heap.objs.size (.tup [.int (i : Nat), y])) h'' s.heap.objs.size (.tup [.int (i : Nat), y]) :=
      ⟨by show 2 ≤ sizeLine; decide, [.int i tk, v], .cons ⟨_, rfl⟩ (.cons ru2 .nil), ⟨_, hT2, rfl, _, rfl⟩⟩
    have I1 : Inv X pins σ (L2.upd H s.heap.objs.size (.tup [.int (i : Nat), y])) { s with heap := h'', toks := tk + 1 } :=
      I.turnedNew (ch := [e, it]) (fun b ob hb q => (sb.2 b (fun z => hb (by simp [z]))).trans (hk b ob (fun z => hb (by simp [z])) (fun z => hb (by simp [z])) q)) hf (Nat.le_refl _) new
    refine ⟨.ref s.heap.objs.size, _, I1, rfl, ⟨_, y, rfl, I.hok.fresh (Nat.le_refl _), rfl, fun l hl => by rw [I.tuple_inj hl hqy]; exact hy⟩, ⟨⟨v, ?_⟩, hit'.1.at fun o q => (sb.2 it (Ne.symm hne)).trans q, hin⟩, fun b hb => ?_⟩
    · have e1 : ((i + 1 : Nat) : Int) = (i : Int) + 1 := by omega
      rw [e1]; exact he'
    · have hb' : b < s.heap.objs.size := by
        have e' : b = e ∨ b = it := by simpa using hb
        rcases e' with z | z
        · rw [z]; exact hel
        · rw [z]; exact hil
      rw [upd_ne (Nat.ne_of_lt hb')]
      exact (hf b hb).1
  done := by
    intro X hP hw hK hc i pins s σ H E I hf st hg
    subst hP hw hK
    obtain ⟨⟨old, he⟩, hit, hl⟩ := st
    obtain ⟨ys, hqy, hlen, hend⟩ := hg
    obtain ⟨its, rv, p2, _⟩ := I.tuple hqy
    have ei : i = n := by omega
    subst ei
    have hh : X.A.in1.handled = none := I.ok.hd hc
    have hsz : its.toArray.size = i := by rw [List.size_toArray, ← rv.length, hlen]
    have D := Draws.tuple (prog := X.prog) (w := X.w) hh it b hbi its.toArray
    rw [hsz] at D
    obtain ⟨f0, f1, f2, f3, f4, f5⟩ := hf it (by simp)
    exact wpAny_pyNext_enum_endD D he ⟨hit, p2⟩ fun h' eb => ⟨rfl, I.turned (t' := s.toks) (fun b o hb q => eb b o hb q) f0 f1 f3 f4 f5⟩
  self := fun A i s Q E st h => let ⟨⟨_, he⟩, _⟩ := st; wpAny_pyIter_enum he h
def iEnumT (K : PySem.W.Frag) (ta : TA) : TI := fun σ H R => ta σ H fun vs H1 => ∃ b ys, vs = [.ref b] ∧ SqT K H1 b ys ∧ R (IteT K b ys.length) H1
theorem pi_enumT {X : Cx} {e : Expr} {ta : TA} {p pos tpos : Pos} {elts : List Expr} {kk : Nat} (hg : Gl X "enumerate") (hm : X.mg "enumerate" = none) (ha : PA X [e] ta) (hs : starEach [e] X.env = [(false, eval e X.env)] := by rfl) :
    PI X (.Tuple elts kk tpos) (.Call (.Name "enumerate" p) [e] [] pos) (iEnumT X.K ta) := by
  refine ⟨fun pins s σ H R I h => ?_⟩
  refine Call_ (ld_blt I hg hm boot_enumerate (PyProof.Rows.callWith_type1 (thn (ha.run pos pins s σ H _ I h) fun us s1 ⟨vs, H1, I1, r1, q1⟩ => ?_) hs rfl))
  obtain ⟨b, ys, ex, hq, q⟩ := q1
  subst ex
  cases r1 with
  | cons r rr =>
    cases rr
    cases r
    obtain ⟨its, rv, p2, _⟩ := I1.tuple hq
    obtain ⟨o2, ho2, _⟩ := id p2
    have hbl : b < s1.heap.objs.size := Heap.lt_size ho2
    refine enum1_begins (begins_tuple b its.toArray) (show s1.heap.IsTuple b its.toArray from p2) fun h' he g2 hsz hk => wpAny_pyIter_enum he ?_
    have I2 : Inv X pins σ H1 { s1 with heap := h' } := I1.kept (t' := s1.toks) hk
    refine ⟨s1.heap.objs.size + 1, [s1.heap.objs.size + 1, s1.heap.objs.size], _, _, H1, rfl, I2, turn_enumT b (s1.heap.objs.size + 1) s1.heap.objs.size (Nat.succ_ne_self _) (Nat.ne_of_gt (Nat.lt_succ_of_lt hbl)) (Nat.ne_of_lt hbl), ⟨⟨.none, he⟩, ⟨_, g2, rfl, rfl⟩, Nat.zero_le _⟩, fun b hb => ?_, q⟩
    have e' : b = s1.heap.objs.size + 1 ∨ b = s1.heap.objs.size := by simpa using hb
    have hle : s1.heap.objs.size ≤ b := by
      rcases e' with z | z
      · rw [z]; exact Nat.le_add_right _ _
      · rw [z]; exact Nat.le_refl _
    exact I1.fpOk hle (I1.hok.fresh hle)
theorem walk_enumT {K : PySem.W.Frag} {b : Addr} {ys : List V} : Walk (IteT K b ys.length) ys.length (fun H => SqT K H b ys) (fun i H v H' => ∃ T y, v = .ref T ∧ H T = none ∧ H' = L2.upd H T (.tup [.int (i : Nat), y]) ∧ ys[i]? = some y) := by
  refine ⟨fun i H hi q => ⟨ys, ys[i], q, rfl, List.getElem?_eq_getElem hi⟩, fun H q => ⟨ys, q, rfl, Nat.le_refl _⟩, fun i H v H' _ q y => ?_⟩
  obtain ⟨T, y, h1, h2, h3, h4⟩ := y
  exact ⟨T, y, h1, h2, h3, h4 ys q⟩
def dEnumT (a : DT) : DI := fun s Q => a s fun d s1 => match d with
  | .tuple ds => Q (prD (rgD 0 ds.length) ds) s1
  | _ => False
section
variable {C : Cf} {ca : Cat} {te : TE} {t : DT}
theorem simI_enumT (h : Sim C ca te t) : SimI C true (iEnumT C.K (tCons te tNil)) (dEnumT t) := by
  refine ⟨fun H0 S0 Hs σ H s Q Q' r q k => h.toE.run H0 S0 Hs σ H s _ _ r q fun Hs1 H1 v d s1 g1 r1 v1 q1 => ?_⟩
  cases d <;> first | exact q1.elim | skip
  rename_i ds
  have v1' : Rp C.K Hs1 v (.tuple ds) := v1
  cases v1' with
  | @tup y ys _ e3 e4 =>
  refine ⟨y, ys, rfl, Same.sqT r1.sub e3.sq, k Hs1 H1 _ _ s1 g1 r1 ?_ q1⟩
  refine ⟨_, _, by rw [enum_len, ← e4.len]; exact walk_enumT, fun H e => Same.sqT e e3.sq, fun i H v H2 H0 S0 Hs σ s hi r e y => ?_⟩
  obtain ⟨T, x2, rfl, nT, rfl, f2⟩ := y
  obtain ⟨d', f5, f6⟩ := e4.getV f2
  obtain ⟨Hs2, r2, rp, g⟩ := pair_it r nT (Rp.int ((i : Nat) : Int)) (Rp.mono e f6)
  exact ⟨Hs2, _, enum_get f5, r2, rp, g⟩
end

/-! ### a dict that is walked through: locked meanwhile -/
/-- what stands at d is o from now on -/
def sw (d : Addr) (o : HO) (H : Hp) : Hp := fun b => if b = d ∧ H b ≠ none then some o else H b
section
variable {d : Addr} {o o' x : HO} {H H' : Hp} {b : Addr}
theorem sw_ne (h : b ≠ d) : sw d o H b = H b := by unfold sw; rw [if_neg (fun z => h z.1)]
theorem sw_at (h : H d ≠ none) : sw d o H d = some o := by unfold sw; rw [if_pos ⟨rfl, h⟩]
theorem sw_none (h : H b = none) : sw d o H b = none := by unfold sw; rw [if_neg (fun z => z.2 h)]; exact h
theorem sw_none' (h : sw d o H b = none) : H b = none := by
  unfold sw at h
  split at h
  · cases h
  · exact h
theorem sw_nn (h : H b ≠ none) : sw d o H b ≠ none := fun z => h (sw_none' z)
theorem sw_some (h : sw d o H b = some x) : (b = d ∧ x = o ∧ H d ≠ none) ∨ (b ≠ d ∧ H b = some x) := by
  by_cases hb : b = d
  · subst hb
    by_cases hn : H b = none
    · rw [sw_none hn] at h; cases h
    · rw [sw_at hn] at h; cases h; exact .inl ⟨rfl, rfl, hn⟩
  · rw [sw_ne hb] at h; exact .inr ⟨hb, h⟩
theorem sw_of (h : H b = some x) (hx : b = d → x = o) : sw d o H b = some x := by
  by_cases hb : b = d
  · subst hb; rw [sw_at (by rw [h]; simp), hx rfl]
  · rw [sw_ne hb]; exact h
theorem sw_upd (h : H d ≠ none) : sw d o H = upd H d o := by
  funext b
  unfold sw upd
  by_cases hb : b = d
  · subst hb; rw [if_pos ⟨rfl, h⟩, if_pos rfl]
  · rw [if_neg (fun z => hb z.1), if_neg hb]
theorem sw_sw : sw d o (sw d o' H) = sw d o H := by
  funext b
  by_cases hb : b = d
  · subst hb
    by_cases hn : H b = none
    · rw [sw_none (sw_none hn), sw_none hn]
    · rw [sw_at (sw_nn hn), sw_at hn]
  · rw [sw_ne hb, sw_ne hb, sw_ne hb]
theorem sw_id (h : ∀ x, H d = some x → x = o) : sw d o H = H := by
  funext b
  by_cases hb : b = d
  · subst hb
    cases q : H b with
    | none => exact sw_none q
    | some y => rw [sw_at (by rw [q]; simp), h y q]
  · exact sw_ne hb
theorem Same.sw (e : Same H H') : Same (sw d o H) (sw d o H') := fun b x h => by
  rcases sw_some h with ⟨rfl, rfl, hn⟩ | ⟨hb, h⟩
  · refine sw_at fun z => ?_
    cases q : H b with
    | none => exact hn q
    | some y => rw [e b y q] at z; cases z
  · rw [sw_ne hb]; exact e b x h
end
/-- a dict of these pairs, locked or not -/
def DAt' (kvs : List (Key × V)) (x : HO) : Prop := x = .dK kvs ∨ ∃ f, x = .frz f (.dK kvs)
section
variable {K : PySem.W.Frag} {d : Addr} {o : HO} {H : Hp} {kvs : List (Key × V)}
theorem SqT.sw (hd : ∀ x, H d = some x → DAt' kvs x) {a : Addr} {xs : List V} (h : SqT K H a xs) : SqT K (sw d o H) a xs := by
  rcases h with (h | ⟨f, h⟩) | h
  · have hn : a ≠ d := fun z => by
      rw [z] at h
      rcases hd _ h with e | ⟨_, e⟩ <;> cases e
    exact .inl (.inl (by rw [sw_ne hn]; exact h))
  · have hn : a ≠ d := fun z => by
      rw [z] at h
      rcases hd _ h with e | ⟨_, e⟩ <;> cases e
    exact .inl (.inr ⟨f, by rw [sw_ne hn]; exact h⟩)
  · exact .inr h
theorem TqT.sw (hd : ∀ x, H d = some x → DAt' kvs x) {a : Addr} {xs : List V} (h : TqT K H a xs) : TqT K (sw d o H) a xs := by
  rcases h with ⟨f, h, z⟩ | h
  · have hn : a ≠ d := fun z => by
      rw [z] at h
      rcases hd _ h with e | ⟨_, e⟩ <;> cases e
    exact .inl ⟨f, by rw [sw_ne hn]; exact h, z⟩
  · exact .inr h
mutual
theorem Rp.sw (hd : ∀ x, H d = some x → DAt' kvs x) (ho : DAt' kvs o) : ∀ {v : V} {t : D}, Rp K H v t → Rp K (sw d o H) v t
  | _, _, .non => .non
  | _, _, .bl b => .bl b
  | _, _, .int i => .int i
  | _, _, .str z => .str z
  | _, _, .lst (a := a) q r => by
    refine .lst ?_ (RpAll.sw hd ho r)
    rw [sw_ne (fun z => ?_)]
    · exact q
    · rw [z] at q
      rcases hd _ q with e | ⟨_, e⟩ <;> cases e
  | _, _, .tup q r => .tup (TqT.sw hd q) (RpAll.sw hd ho r)
  | _, _, .dic (a := a) (kvs := ks) q r => by
    refine .dic ?_ (RpKV.sw hd ho r)
    by_cases ha : a = d
    · subst ha
      have e : ks = kvs := by
        rcases q with q | ⟨f, q⟩
        · rcases hd _ q with e | ⟨_, e⟩ <;> cases e; rfl
        · rcases hd _ q with e | ⟨_, e⟩ <;> cases e; rfl
      subst e
      have hn : H a ≠ none := by rcases q with q | ⟨f, q⟩ <;> (rw [q]; simp)
      rcases ho with rfl | ⟨f, rfl⟩
      · exact .inl (sw_at hn)
      · exact .inr ⟨f, sw_at hn⟩
    · rcases q with q | ⟨f, q⟩
      · exact .inl (by rw [sw_ne ha]; exact q)
      · exact .inr ⟨f, by rw [sw_ne ha]; exact q⟩
theorem RpAll.sw (hd : ∀ x, H d = some x → DAt' kvs x) (ho : DAt' kvs o) : ∀ {vs : List V} {ts : List D}, RpAll K H vs ts → RpAll K (sw d o H) vs ts
  | _, _, .nil => .nil
  | _, _, .cons a b => .cons (Rp.sw hd ho a) (RpAll.sw hd ho b)
theorem RpKV.sw (hd : ∀ x, H d = some x → DAt' kvs x) (ho : DAt' kvs o) : ∀ {vs : List (Key × V)} {ts : List (D × D)}, RpKV K H vs ts → RpKV K (sw d o H) vs ts
  | _, _, .nil => .nil
  | _, _, .cons a b => .cons (Rp.sw hd ho a) (RpKV.sw hd ho b)
end
theorem Cn.sw (hd : ∀ x, H d = some x → DAt' kvs x) (ho : DAt' kvs o) {u : HO} {t : D} (h : Cn K H u t) : Cn K (sw d o H) u t := by
  cases h with
  | lst a => exact .lst (RpAll.sw hd ho a)
  | dic a => exact .dic (RpKV.sw hd ho a)
end
section
variable {C : Cf} {σ : L2.St} {H0 S0 Hs H Hs' H' Hst : Hp} {s : S} {d : Addr} {o x : HO} {kvs : List (Key × V)}
theorem R.notPenS (r : R C H0 S0 Hs σ H s) (hx : Hs d = some x) : ¬ IsPen C d := fun z => by
  rcases z with ⟨c, z⟩ | z
  · have := (r.pn d c z).2.2.1
    rw [hx] at this; cases this
  · obtain ⟨⟨i, _, hi, e⟩, _⟩ := r.br d z
    have il : i < s.δ.length := by rw [← r.len]; exact (List.getElem?_eq_some_iff.mp e).1
    cases q : s.δ[i]'il with
    | none =>
      have := r.dead i hi (by rw [List.getElem?_eq_getElem il, q])
      rw [e] at this; cases this
    | some t =>
      obtain ⟨a, u, e1, _, e3, _⟩ := r.mt i t (by rw [List.getElem?_eq_getElem il, q]) hi
      rw [e] at e1; cases e1
      rw [hx] at e3; cases e3
theorem R.sw (r : R C H0 S0 Hs σ H s) (hx : Hs d = some x) (hd : DAt' kvs x) (ho : DAt' kvs o) : R C (sw d o H0) (sw d o S0) (sw d o Hs) σ (sw d o H) s := by
  have hd1 : ∀ y, Hs d = some y → DAt' kvs y := fun y e => by rw [hx] at e; cases e; exact hd
  have hH : H d = some x := r.sub _ _ hx
  have hnl : ∀ ys, x ≠ .lst ys := fun ys e => by rcases hd with z | ⟨_, z⟩ <;> rw [e] at z <;> cases z
  refine ⟨r.len, Same.sw r.sub, fun i t e m => ?_, fun i t e m => ?_, r.dead, r.sep, fun p c e => ?_, fun b hb => ?_, Same.sw r.s0, fun b u n e => ?_, fun b e1 e2 => ?_⟩
  · obtain ⟨v, e1, e2⟩ := r.slot i t e m
    exact ⟨v, e1, Rp.sw hd1 ho e2⟩
  · obtain ⟨a, u, e1, e2, e3, e4, e5⟩ := r.mt i t e m
    have hne : a ≠ d := fun z => by rw [z, hx] at e3; cases e3
    exact ⟨a, u, e1, by rw [sw_ne hne]; exact e2, by rw [sw_ne hne]; exact e3, e4.sw hd1 ho, e5.imp sw_none id⟩
  · obtain ⟨e1, e2, e3, e4, e5, e6⟩ := r.pn p c e
    have hp : p ≠ d := fun z => by rw [z, hx] at e3; cases e3
    refine ⟨e1, ?_, by rw [sw_ne hp]; exact e3, sw_nn e4, sw_nn e5, e6⟩
    generalize C.pk = pk at e2
    cases pk with
    | draw =>
      obtain ⟨⟨at_, rest, p1, p2⟩, ⟨ns, c1⟩, cp⟩ := (show Pen H p c s.n from e2)
      have hc : c ≠ d := fun z => by rw [z, hH] at c1; cases c1; exact hnl _ rfl
      exact (show Pen _ p c s.n from ⟨⟨at_, rest, by rw [sw_ne hp]; exact p1, p2⟩, ⟨ns, by rw [sw_ne hc]; exact c1⟩, cp⟩)
    | obj Cc f fd =>
      obtain ⟨⟨hv, a, z⟩, c1, ne, y⟩ := e2
      have hc : c ≠ d := fun z => by
        rw [z, hH] at c1
        cases c1
        rcases hd with z | ⟨_, z⟩ <;> cases z
      exact ⟨⟨hv, Rp.sw hd1 ho a, by rw [sw_ne hp]; exact z⟩, by rw [sw_ne hc]; exact c1, ne, fun x m => Rp.sw hd1 ho (y x m)⟩
  · obtain ⟨e1, e2⟩ := r.br b hb
    exact ⟨e1, sw_nn e2⟩
  · rcases sw_some e with ⟨rfl, rfl, hn⟩ | ⟨hb, e⟩
    · exact sw_at (by rw [hH]; simp)
    · rw [sw_ne hb]; exact r.h0 b u n e
  · exact sw_none (r.new b (sw_none' e1) fun z => e2 (sw_none z))
theorem Go.sw (g : Go C σ Hs H Hs' H') : Go C σ (sw d o Hs) (sw d o H) (sw d o Hs') (sw d o H') := by
  refine ⟨Same.sw g.st, fun b u e n m => ?_, fun b u e => ?_, fun b e1 e2 => sw_none (g.nw b (sw_none' e1) fun z => e2 (sw_none z))⟩
  · rcases sw_some e with ⟨rfl, rfl, hn⟩ | ⟨hb, e⟩
    · refine sw_at fun z => ?_
      cases q : H b with
      | none => exact hn q
      | some y => obtain ⟨y', q'⟩ := g.th b y q; rw [q'] at z; cases z
    · rw [sw_ne hb]; exact g.kp b u e n m
  · cases q : LW.sw d o H' b with
    | some y => exact ⟨y, rfl⟩
    | none =>
      exfalso
      have q' := sw_none' q
      cases q2 : H b with
      | none => rw [sw_none q2] at e; cases e
      | some y => obtain ⟨y', q3⟩ := g.th b y q2; rw [q3] at q'; cases q'
theorem Val.sw {cat : Cat} {v : V} {t : D} (h : Val C H0 Hst Hs σ H cat v t) (hx : Hs d = some x) (hd : DAt' kvs x) (ho : DAt' kvs o) : Val C (sw d o H0) (sw d o Hst) (sw d o Hs) σ (sw d o H) cat v t := by
  have hd1 : ∀ y, Hs d = some y → DAt' kvs y := fun y e => by rw [hx] at e; cases e; exact hd
  cases cat with
  | E => exact Rp.sw hd1 ho h
  | F =>
    cases e : isC t with
    | true =>
      obtain ⟨a, rfl, u, h1, h2, h3, h4, h5, h6⟩ := h.c e
      have hne : a ≠ d := fun z => by rw [z, hx] at h2; cases h2
      exact Val.mkC ⟨u, by rw [sw_ne hne]; exact h1, by rw [sw_ne hne]; exact h2, sw_none h3, sw_none h4, h5.sw hd1 ho, h6⟩
    | false => exact Val.mkP (Rp.sw hd1 ho (h.p e)) e
end
/-- under a lock, where it isn't locked yet -/
def tLk (t : TE) : TE := fun σ H Q => t σ H Q ∨ tLockE t σ H Q
theorem pe_lk {X : Cx} {e : Expr} {t : TE} (h : PE X e t) : PE X e (tLk t) :=
  ⟨fun pins s σ H Q I q => q.elim (fun q => h.run pins s σ H Q I q) fun q => (pe_lock h).run pins s σ H Q I q⟩
/-- te follows from t, where slot j is a locked dict -/
structure SimF (C : Cf) (j : Nat) (cat : Cat) (te : TE) (t : DT) : Prop where
  run : ∀ (H0 S0 Hs : Hp) (σ : L2.St) (H : Hp) (s : S) (Q : D → S → Prop) (Q' : VK) (a : Addr) (f : Obj) (xs : List (Key × V)) (kvs : List (D × D)), R C H0 S0 Hs σ H s → σ[j]? = some (some (.ref a)) → Hs a = some (.frz f (.dK xs)) → RpKV C.K Hs xs kvs → s.δ[j]? = some (some (.dict kvs)) → t s Q →
    (∀ Hs' H' v d s', Go C σ Hs H Hs' H' → R C H0 S0 Hs' σ H' s' → Val C H0 H Hs' σ H' cat v d → Q d s' → Q' v H') → te σ H Q'
def dLk (j : Nat) (t : DT) : DT := fun s Q => (∃ kvs, s.δ[j]? = some (some (.dict kvs))) ∧ t s Q
section
variable {C : Cf} {cat : Cat} {te : TE} {t : DT} {j : Nat}
theorem sim_lk (hj : j ∉ C.M) (h : SimF C j cat te t) : Sim C cat (tLk te) (dLk j t) := by
  refine ⟨fun H0 S0 Hs σ H s Q Q' r ⟨⟨kvs, ej⟩, q⟩ k => ?_⟩
  obtain ⟨v, e1, rp⟩ := r.slot j _ ej hj
  cases rp with
  | @dic a xs _ q0 rk =>
  rcases q0 with q0 | ⟨f, q0⟩
  · refine .inr ⟨a, .dK xs, r.sub _ _ q0, True.intro, fun od => ?_⟩
    have dA : DAt' xs (.dK xs) := .inl rfl
    have dB : DAt' xs (.frz od (.dK xs)) := .inr ⟨od, rfl⟩
    have hH : H a ≠ none := by rw [r.sub _ _ q0]; simp
    have np := r.notPenS q0
    have r1 := r.sw q0 dA dB
    have hs1 : sw a (.frz od (.dK xs)) Hs a = some (.frz od (.dK xs)) := sw_at (by rw [q0]; simp)
    have i0 : ∀ y, H0 a = some y → y = .dK xs := fun y e => by have := r.h0 a y np e; rw [r.sub _ _ q0] at this; cases this; rfl
    have is0 : ∀ y, S0 a = some y → y = .dK xs := fun y e => by have := r.s0 a y e; rw [q0] at this; cases this; rfl
    have iH : ∀ y, H a = some y → y = .dK xs := fun y e => by rw [r.sub _ _ q0] at e; cases e; rfl
    have iHs : ∀ y, Hs a = some y → y = .dK xs := fun y e => by rw [q0] at e; cases e; rfl
    rw [← sw_upd hH]
    refine h.run _ _ _ σ _ s Q _ a od xs kvs r1 e1 hs1 (RpKV.sw (fun y e => by rw [q0] at e; cases e; exact dA) dB rk) ej q fun Hs' H' v' d' s' g' r' v1 q1 => ?_
    have hs2 : Hs' a = some (.frz od (.dK xs)) := g'.st _ _ hs1
    have hh2 : H' a = some (.frz od (.dK xs)) := r'.sub _ _ hs2
    refine ⟨hh2, ?_⟩
    rw [← sw_upd (by rw [hh2]; simp)]
    have r2 := r'.sw hs2 dB dA
    rw [sw_sw, sw_sw, sw_id i0, sw_id is0] at r2
    have g2 := g'.sw (d := a) (o := .dK xs)
    rw [sw_sw, sw_sw, sw_id iH, sw_id iHs] at g2
    have v2 := v1.sw hs2 dB dA
    rw [sw_sw, sw_sw, sw_id i0, sw_id iH] at v2
    exact k _ _ v' d' s' g2 r2 v2 q1
  · exact .inl (h.run H0 S0 Hs σ H s Q Q' a f xs kvs r e1 q0 rk ej q k)
end
/-! comprehensions, told from the walk on -/
section
variable {C : Cf} {cat : Cat} {te : TE} {t : DT} {ca : Cat}
theorem lc_run {bw : Bool} {H0 S0 Hs1 : Hp} {σ : L2.St} {H1 : Hp} {s1 : S} {Q : D → S → Prop} {Q' : VK} {J : It} {items : List D} {tl vs : List Nat} {g : TG} {x : D → S → (S → Prop) → Prop} {tt : TT} {c : DB} (r1 : R C H0 S0 Hs1 σ H1 s1) (io : ItOk bw C Hs1 J items) (hg : SimG C bw tl g x) (ht : SimT C tt c) (he : Sim C ca te t) (hv : ∀ j, j ∈ tl → j ∈ vs) (hM : ∀ v ∈ vs, v ∉ C.M) (hp : ∀ v ∈ vs, v ≠ C.ps)
    (hz : items.length ≤ sizeLine) (q1 : lcD x c t vs (fun acc s2 => Q (.list acc) s2) items [] (wipeS s1 vs))
    (k : ∀ Hs' H' v d s', Go C σ Hs1 H1 Hs' H' → R C H0 S0 Hs' σ H' s' → Val C H0 H1 Hs' σ H' .F v d → Q d s' → Q' v H') : tLc (fun _ H R => R J H) g tt te vs σ H1 Q' := by
  have wi : SimI { C with bor := C.bor } bw (fun _ _ _ => False) (fun _ _ => False) := ⟨fun _ _ _ _ _ _ _ _ _ z _ => z⟩
  intro L nL
  obtain ⟨G, Y, W, hG, hY⟩ := io
  obtain ⟨l0, l1, l2, l3⟩ := r1.free0 nL
  have ow : ∀ b, Own C (L2.wipe σ vs) b → Own C σ b := own_of hM fun j h => wipe_out h
  have lw : ¬ Own C (L2.wipe σ vs) L := fun z => l2 (ow L z)
  refine lc_it W (fun i H => ∃ Hs s accV accD, R C H0 Hs1 Hs (L2.wipe σ vs) H s ∧ H L = some (.lst accV) ∧ Hs L = none ∧ RpAll C.K Hs accV accD ∧ accD.length ≤ i ∧ Go C σ Hs1 H1 Hs H ∧ (∀ v ∈ vs, ∀ d, s.δ[v]? ≠ some (some d)) ∧ lcD x c t vs (fun acc s2 => Q (.list acc) s2) (items.drop i) accD s)
    ⟨Hs1, wipeS s1 vs, [], [], ((r1.laid nL).wipe hM hp).base, upd_same, l1, .nil, Nat.le_refl _, Go.laid nL, fun v m d => wipeL_in m d, q1⟩ (fun i H _ ⟨Hs, s, _, _, r, _⟩ => hG H (r.s0.trans r.sub)) (fun i v H H' hi' ⟨Hs, s, accV, accD, r, hL, hsL, ra, la, ga, _, q⟩ y => ?_) (fun H ⟨Hs, s, accV, accD, r, hL, hsL, ra, la, ga, hn, q⟩ => ?_)
  · obtain ⟨Hs2, d, e1, r2, rp, g2⟩ := hY i H v H' H0 Hs1 Hs (L2.wipe σ vs) s hi' r r.s0 y
    rw [List.drop_eq_getElem_cons hi'] at q
    have ed : items[i] = d := by
      rw [List.getElem?_eq_getElem hi'] at e1
      exact Option.some.inj e1
    rw [ed] at q
    have hL2 := g2.kp L _ hL lw l3
    have hsL2 := none_of_new g2.nw hsL hL
    refine hg.run H0 Hs1 Hs2 (L2.wipe σ vs) H' s v d _ _ r2 rp q fun σ3 s3 r3 len3 out3 q3 => ?_
    have out3' : ∀ j, j ∉ vs → σ3[j]? = σ[j]? := fun j h => (out3 j (fun z => h (hv j z))).trans (wipe_out h)
    have wq : L2.wipe σ3 vs = L2.wipe σ vs := wipe_eq (by rw [len3, wipe_length]) out3'
    have ow3 : ∀ b, Own C σ3 b → Own C σ b := own_of hM out3'
    have lw3 : ¬ Own C σ3 L := fun z => l2 (ow3 L z)
    refine ⟨wq, ht.run H0 Hs1 Hs2 σ3 H' s3 _ _ r3 q3 fun Hs4 H4 b4 s4 g4 r4 q4 => ?_⟩
    have hL4 := g4.kp L _ hL2 lw3 l3
    have hsL4 := none_of_new g4.nw hsL2 hL2
    have ga4 : Go C σ Hs1 H1 Hs4 H4 := ga.trans ((g2.own ow).trans (g4.own ow3))
    cases b4 with
    | true =>
      refine ifp rfl (he.toE.run H0 Hs1 Hs4 σ3 H4 s4 _ _ r4 (by simpa using q4) fun Hs5 H5 w dw s5 g5 r5 v5 q5 => ?_)
      have hL5 := g5.kp L _ hL4 lw3 l3
      have hsL5 := none_of_new g5.nw hsL4 hL4
      have ra5 := RpAll.mono (g2.st.trans (g4.st.trans g5.st)) ra
      refine ⟨accV, hL5, by rw [ra5.len]; omega, Hs5, wipeS s5 vs, _, accD ++ [dw], ?_, upd_same, hsL5, ra5.app (.cons v5 .nil), by rw [List.length_append]; show accD.length + 1 ≤ i + 1; omega, (ga4.trans (g5.own ow3)).updF nL, fun v m d => wipeL_in m d, q5⟩
      rw [← wq]
      exact (r5.updF hsL5 l0 lw3).wipe hM hp
    | false =>
      refine ifn Bool.false_ne_true ⟨Hs4, wipeS s4 vs, accV, accD, ?_, hL4, hsL4, RpAll.mono (g2.st.trans g4.st) ra, by omega, ga4, fun v m d => wipeL_in m d, by simpa using q4⟩
      rw [← wq]
      exact r4.wipe hM hp
  · rw [List.drop_length] at q
    refine k Hs H _ (.list accD) s ga (r1.back (r.unwipe hM hp hn)) (Val.mkC ⟨_, hL, hsL, l0, nL, .lst ra, l2⟩) q
/-- a dict comprehension over it -/
theorem dc_it {J : It} {n : Nat} {G : Hp → Prop} {Y : Nat → Hp → V → Hp → Prop} (w : Walk J n G Y) {g : TG} {tt : TT} {tk tv : TE} {vs : List Nat} {σ : L2.St} {H1 : Hp} {D : Addr} {Qd : Hp → Prop} (Pv : Nat → Hp → Prop) (h0 : Pv 0 (upd H1 D (.dK []))) (hG : ∀ i H, i ≤ n → Pv i H → G H)
    (hs : ∀ i x H H', i < n → Pv i H → Y i H x H' → g x (wipe σ vs) H' fun σ2 H2 => wipe σ2 vs = wipe σ vs ∧ tt σ2 H2 fun b H3 =>
      if b = true then tk σ2 H3 fun y H4 => tv σ2 H4 fun z H5 => ∃ kvs k, y = kV k ∧ H5 D = some (.dK kvs) ∧ kvs.length < sizeLine ∧ Pv (i + 1) (upd H5 D (.dK (putK kvs k z))) else Pv (i + 1) H3) (hd : ∀ H, Pv n H → Qd H) :
    ∃ W : Nat → Nat → Hp → Prop, (∃ m, W 0 m (upd H1 D (.dK []))) ∧ ∀ i m H, W i m H →
      (J.stop i H ∧ Qd H) ∨ (J.go i H ∧ ∃ Nx : Hp → Prop, (∀ H', Nx H' → ∃ m', m' < m ∧ W (i + 1) m' H') ∧ ∀ x H', J.yld i H x H' → g x (wipe σ vs) H' fun σ2 H2 => wipe σ2 vs = wipe σ vs ∧ tt σ2 H2 fun b H3 =>
        if b = true then tk σ2 H3 fun y H4 => tv σ2 H4 fun z H5 => ∃ kvs k, y = kV k ∧ H5 D = some (.dK kvs) ∧ kvs.length < sizeLine ∧ Nx (upd H5 D (.dK (putK kvs k z))) else Nx H3) := by
  refine ⟨fun i m H => m = n - i ∧ i ≤ n ∧ Pv i H, ⟨n, by simp, Nat.zero_le _, h0⟩, ?_⟩
  rintro i m H ⟨rfl, hi, p⟩
  have q := hG i H hi p
  by_cases hlt : i < n
  · refine .inr ⟨w.goes i H hlt q, Pv (i + 1), fun H' p' => ⟨n - (i + 1), by omega, rfl, hlt, p'⟩, fun x H' y => hs i x H H' hlt p (w.yields i H x H' hlt q y)⟩
  · have e : i = n := by omega
    subst e
    exact .inl ⟨w.stops H q, hd H p⟩
def dcD (g : D → S → (S → Prop) → Prop) (c : DB) (kx e : DT) (vs : List Nat) (Q : List (D × D) → S → Prop) : List D → List (D × D) → S → Prop
  | [], acc, s => Q acc s
  | d :: ds, acc, s => g d s fun s1 => c s1 fun k s2 => if k = true then kx s2 fun y s3 => e s3 fun z s4 => isKey y = true ∧ dcD g c kx e vs Q ds (putD acc y z) (wipeS s4 vs) else dcD g c kx e vs Q ds acc (wipeS s2 vs)
theorem putD_len (kvs : List (D × D)) (k v : D) : (putD kvs k v).length ≤ kvs.length + 1 := by
  unfold putD
  split
  · rw [List.length_map]; omega
  · rw [List.length_append]; exact Nat.le_refl _
theorem dc_run {bw : Bool} {H0 S0 Hs1 : Hp} {σ : L2.St} {H1 : Hp} {s1 : S} {Q : D → S → Prop} {Q' : VK} {J : It} {items : List D} {tl vs : List Nat} {g : TG} {x : D → S → (S → Prop) → Prop} {tt : TT} {c : DB} {tk : TE} {kx : DT} {ck : Cat} (r1 : R C H0 S0 Hs1 σ H1 s1) (io : ItOk bw C Hs1 J items) (hg : SimG C bw tl g x) (ht : SimT C tt c) (hk : Sim C ck tk kx) (he : Sim C ca te t) (hv : ∀ j, j ∈ tl → j ∈ vs) (hM : ∀ v ∈ vs, v ∉ C.M) (hp : ∀ v ∈ vs, v ≠ C.ps)
    (hz : items.length ≤ sizeLine) (q1 : dcD x c kx t vs (fun acc s2 => Q (.dict acc) s2) items [] (wipeS s1 vs))
    (k : ∀ Hs' H' v d s', Go C σ Hs1 H1 Hs' H' → R C H0 S0 Hs' σ H' s' → Val C H0 H1 Hs' σ H' .F v d → Q d s' → Q' v H') : tDc (fun _ H R => R J H) g tt tk te vs σ H1 Q' := by
  intro L nL
  obtain ⟨G, Y, W, hG, hY⟩ := io
  obtain ⟨l0, l1, l2, l3⟩ := r1.free0 nL
  have ow : ∀ b, Own C (L2.wipe σ vs) b → Own C σ b := own_of hM fun j h => wipe_out h
  have lw : ¬ Own C (L2.wipe σ vs) L := fun z => l2 (ow L z)
  refine dc_it W (fun i H => ∃ Hs s accV accD, R C H0 Hs1 Hs (L2.wipe σ vs) H s ∧ H L = some (.dK accV) ∧ Hs L = none ∧ RpKV C.K Hs accV accD ∧ accD.length ≤ i ∧ Go C σ Hs1 H1 Hs H ∧ (∀ v ∈ vs, ∀ d, s.δ[v]? ≠ some (some d)) ∧ dcD x c kx t vs (fun acc s2 => Q (.dict acc) s2) (items.drop i) accD s)
    ⟨Hs1, wipeS s1 vs, [], [], ((r1.laid nL).wipe hM hp).base, upd_same, l1, .nil, Nat.le_refl _, Go.laid nL, fun v m d => wipeL_in m d, q1⟩ (fun i H _ ⟨Hs, s, _, _, r, _⟩ => hG H (r.s0.trans r.sub)) (fun i v H H' hi' ⟨Hs, s, accV, accD, r, hL, hsL, ra, la, ga, _, q⟩ y => ?_) (fun H ⟨Hs, s, accV, accD, r, hL, hsL, ra, la, ga, hn, q⟩ => ?_)
  · obtain ⟨Hs2, d, e1, r2, rp, g2⟩ := hY i H v H' H0 Hs1 Hs (L2.wipe σ vs) s hi' r r.s0 y
    rw [List.drop_eq_getElem_cons hi'] at q
    have ed : items[i] = d := by
      rw [List.getElem?_eq_getElem hi'] at e1
      exact Option.some.inj e1
    rw [ed] at q
    have hL2 := g2.kp L _ hL lw l3
    have hsL2 := none_of_new g2.nw hsL hL
    refine hg.run H0 Hs1 Hs2 (L2.wipe σ vs) H' s v d _ _ r2 rp q fun σ3 s3 r3 len3 out3 q3 => ?_
    have out3' : ∀ j, j ∉ vs → σ3[j]? = σ[j]? := fun j h => (out3 j (fun z => h (hv j z))).trans (wipe_out h)
    have wq : L2.wipe σ3 vs = L2.wipe σ vs := wipe_eq (by rw [len3, wipe_length]) out3'
    have ow3 : ∀ b, Own C σ3 b → Own C σ b := own_of hM out3'
    have lw3 : ¬ Own C σ3 L := fun z => l2 (ow3 L z)
    refine ⟨wq, ht.run H0 Hs1 Hs2 σ3 H' s3 _ _ r3 q3 fun Hs4 H4 b4 s4 g4 r4 q4 => ?_⟩
    have hL4 := g4.kp L _ hL2 lw3 l3
    have hsL4 := none_of_new g4.nw hsL2 hL2
    have ga4 : Go C σ Hs1 H1 Hs4 H4 := ga.trans ((g2.own ow).trans (g4.own ow3))
    cases b4 with
    | true =>
      refine ifp rfl (hk.toE.run H0 Hs1 Hs4 σ3 H4 s4 _ _ r4 (by simpa using q4) fun Hs5 H5 w dw s5 g5 r5 v5 q5 => ?_)
      refine he.toE.run H0 Hs1 Hs5 σ3 H5 s5 _ _ r5 q5 fun Hs6 H6 w2 dw2 s6 g6 r6 v6 q6 => ?_
      obtain ⟨hky, q6⟩ := q6
      obtain ⟨kk, rfl⟩ := isKey_of hky
      have v5' : Rp C.K Hs5 w (keyD kk) := v5
      have hL5 := g6.kp L _ (g5.kp L _ hL4 lw3 l3) lw3 l3
      have hsL5 := none_of_new g6.nw (none_of_new g5.nw hsL4 hL4) (g5.kp L _ hL4 lw3 l3)
      have ra5 := RpKV.mono (g2.st.trans (g4.st.trans (g5.st.trans g6.st))) ra
      refine ⟨accV, kk, v5'.key, hL5, by rw [ra5.len]; omega, Hs6, wipeS s6 vs, _, putD accD (keyD kk) dw2, ?_, upd_same, hsL5, ra5.put (k := kk) v6, by have := putD_len accD (keyD kk) dw2; omega, (ga4.trans ((g5.own ow3).trans (g6.own ow3))).updF nL, fun v m d => wipeL_in m d, q6⟩
      rw [← wq]
      exact (r6.updF hsL5 l0 lw3).wipe hM hp
    | false =>
      refine ifn Bool.false_ne_true ⟨Hs4, wipeS s4 vs, accV, accD, ?_, hL4, hsL4, RpKV.mono (g2.st.trans g4.st) ra, by omega, ga4, fun v m d => wipeL_in m d, by simpa using q4⟩
      rw [← wq]
      exact r4.wipe hM hp
  · rw [List.drop_length] at q
    refine k Hs H _ (.dict accD) s ga (r1.back (r.unwipe hM hp hn)) (Val.mkC ⟨_, hL, hsL, l0, nL, .dic ra, l2⟩) q
/-! the walks of a locked dict -/
theorem RpKV.getV {K : PySem.W.Frag} {H : Hp} : ∀ {xs : List (Key × V)} {ds : List (D × D)} {i : Nat} {k : Key} {v : V}, RpKV K H xs ds → xs[i]? = some (k, v) → ∃ d, ds[i]? = some (keyD k, d) ∧ Rp K H v d
  | _, _, 0, _, _, .cons a _, e => by
    cases e
    exact ⟨_, rfl, a⟩
  | _, _, i + 1, k, v, .cons _ b, e => RpKV.getV (i := i) b e
theorem Rp.ofKey {K : PySem.W.Frag} {H : Hp} (k : Key) : Rp K H (kV k) (keyD k) := by cases k with
  | inl i => exact .int i
  | inr z => exact .str z
theorem itOk_keys {Hs1 : Hp} {a : Addr} {f : Obj} {xs : List (Key × V)} {ds : List (D × D)} (h : Hs1 a = some (.frz f (.dK xs))) (hd : RpKV C.K Hs1 xs ds) : ItOk false C Hs1 (Itk a f xs) (ds.map Prod.fst) := by
  refine ⟨_, _, by rw [List.length_map, ← hd.len]; exact walk_keys, fun H e => e _ _ h, fun i H v H2 H0 S0 Hs σ s hi r e y => ?_⟩
  obtain ⟨rfl, k, w, e1, rfl⟩ := y
  obtain ⟨d, e2, _⟩ := hd.getV e1
  exact ⟨Hs, keyD k, by rw [List.getElem?_map, e2]; rfl, r, Rp.ofKey k, Go.refl⟩
def itemsD (kvs : List (D × D)) : List D := kvs.map fun kv => .tuple [kv.1, kv.2]
theorem itOk_items {Hs1 : Hp} {a : Addr} {f : Obj} {xs : List (Key × V)} {ds : List (D × D)} (h : Hs1 a = some (.frz f (.dK xs))) (hd : RpKV C.K Hs1 xs ds) : ItOk true C Hs1 (Iti a f xs) (itemsD ds) := by
  refine ⟨_, _, by unfold itemsD; rw [List.length_map, ← hd.len]; exact walk_items, fun H e => e _ _ h, fun i H v H2 H0 S0 Hs σ s hi r e y => ?_⟩
  obtain ⟨T, x1, x2, rfl, nT, rfl, f1, f2⟩ := y
  dsimp only at f1 f2
  cases q : xs[i]? with
  | none => rw [q] at f1; cases f1
  | some kv =>
    obtain ⟨k, w⟩ := kv
    rw [q] at f1 f2
    cases f1; cases f2
    obtain ⟨d, e2, e3⟩ := hd.getV q
    obtain ⟨Hs2, r2, rp, g⟩ := pair_it r nT (Rp.ofKey k) (Rp.mono e e3)
    exact ⟨Hs2, _, by unfold itemsD; rw [List.getElem?_map, e2]; rfl, r2, rp, g⟩
/-- the keys, the pairs of the dict in slot j -/
def dKeys (j : Nat) : DI := fun s Q => match s.δ[j]? with
  | some (some (.dict kvs)) => Q (kvs.map Prod.fst) s
  | _ => False
def dItems (j : Nat) : DI := fun s Q => match s.δ[j]? with
  | some (some (.dict kvs)) => Q (itemsD kvs) s
  | _ => False
def dDc (it : DI) (g : D → S → (S → Prop) → Prop) (c : DB) (kx e : DT) (vs : List Nat) : DT := fun s Q => it s fun items s1 => items.length ≤ sizeLine ∧ dcD g c kx e vs (fun acc s2 => Q (.dict acc) s2) items [] (wipeS s1 vs)
theorem sim_lcKeys {j : Nat} {tl vs : List Nat} {g : TG} {x : D → S → (S → Prop) → Prop} {tt : TT} {c : DB} (hj : j ∉ C.M) (hg : SimG C false tl g x) (ht : SimT C tt c) (he : Sim C ca te t) (hv : ∀ j, j ∈ tl → j ∈ vs) (hM : ∀ v ∈ vs, v ∉ C.M) (hp : ∀ v ∈ vs, v ≠ C.ps) :
    Sim C .F (tLk (tLc (iKeys (tVar j)) g tt te vs)) (dLk j (dLc (dKeys j) x c t vs)) := by
  refine sim_lk hj ⟨fun H0 S0 Hs σ H s Q Q' a f xs kvs r e1 hs rk ej q k => ?_⟩
  simp only [dLc, dKeys, ej] at q
  exact ⟨_, e1, a, f, rfl, .inl ⟨xs, r.sub _ _ hs, lc_run r (itOk_keys hs rk) hg ht he hv hM hp q.1 q.2 k⟩⟩
theorem sim_dcItems {j : Nat} {tl vs : List Nat} {g : TG} {x : D → S → (S → Prop) → Prop} {tt : TT} {c : DB} {tk : TE} {kx : DT} {ck : Cat} (hj : j ∉ C.M) (hg : SimG C true tl g x) (ht : SimT C tt c) (hk : Sim C ck tk kx) (he : Sim C ca te t) (hv : ∀ j, j ∈ tl → j ∈ vs) (hM : ∀ v ∈ vs, v ∉ C.M) (hp : ∀ v ∈ vs, v ≠ C.ps) :
    Sim C .F (tLk (tDc (iItems (tVar j)) g tt tk te vs)) (dLk j (dDc (dItems j) x c kx t vs)) := by
  refine sim_lk hj ⟨fun H0 S0 Hs σ H s Q Q' a f xs kvs r e1 hs rk ej q k => ?_⟩
  simp only [dDc, dItems, ej] at q
  exact ⟨_, e1, a, f, xs, rfl, r.sub _ _ hs, dc_run r (itOk_items hs rk) hg ht hk he hv hM hp q.1 q.2 k⟩
end
/-! ### t += u, of tuples -/
theorem noI_tuple_add : typeLookup (.type "tuple") (dunderI "add") = pure none := by rw [typeLookup_type, builtinLookup_eq_fast]; kernel_rfl
theorem iop_catA {X : Cx} (K : PySem.W.Frag) (eK : X.K = K) : OpR X (inplaceOp .Add) (rCatZ K) := by
  subst eK
  intro pins s σ H x y v u Q I rx ry h
  obtain ⟨a, b, xs, ys, rfl, rfl, ha, hb, hz, q0, q1, q2⟩ := h
  cases rx
  cases ry
  obtain ⟨its, r1, p1, _⟩ := I.tuple ha
  obtain ⟨its2, r2, p2, _⟩ := I.tuple hb
  obtain ⟨⟨cls, dd, data, sl⟩, ho, hc, n, hd⟩ := id p1
  obtain ⟨⟨cls2, dd2, data2, sl2⟩, ho2, hc2, n2, hd2⟩ := id p2
  simp only at hc hd hc2 hd2
  subst hc hd hc2 hd2
  have e : its.toArray ++ its2.toArray = (its ++ its2).toArray := by simp
  by_cases hx : xs = []
  · subst hx
    cases r1
    exact wpAny_inplaceOp_concat ⟨_, ho, rfl⟩ ⟨_, ho2, rfl⟩ noI_tuple_add noFill_tuple_add seq_tuple_add (call_meets PySem.F.slot_tuple_add ⟨_, ho, rfl⟩ PySem.F.entry_tuple_add (PySem.F.args_tuple_add_2 _ _)
      (tuple_addW0 a b ([] : List Value).toArray its2.toArray n n2 dd dd2 sl sl2 (by simp)) ⟨ho, ho2, ⟨.ref b, H, I, rfl, q0 rfl⟩⟩)
  · have hv : its ≠ [] := fun z => hx (r1.nil_iff.mp z)
    by_cases hw : its2 = []
    · exact wpAny_inplaceOp_concat ⟨_, ho, rfl⟩ ⟨_, ho2, rfl⟩ noI_tuple_add noFill_tuple_add seq_tuple_add (call_meets PySem.F.slot_tuple_add ⟨_, ho, rfl⟩ PySem.F.entry_tuple_add (PySem.F.args_tuple_add_2 _ _)
        (tuple_addW1 a b its.toArray its2.toArray n n2 dd dd2 sl sl2 (by simpa using hv) (by simp [hw])) ⟨ho, ho2, ⟨.ref a, H, I, rfl, q1 hx (r2.nil_iff.mp hw)⟩⟩)
    · refine wpAny_inplaceOp_concat ⟨_, ho, rfl⟩ ⟨_, ho2, rfl⟩ noI_tuple_add noFill_tuple_add seq_tuple_add (call_meets PySem.F.slot_tuple_add ⟨_, ho, rfl⟩ PySem.F.entry_tuple_add (PySem.F.args_tuple_add_2 _ _)
        (tuple_addW2 a b its.toArray its2.toArray n n2 dd dd2 sl sl2 (by simpa using hv) (by simpa using hw) (by rw [List.size_toArray, List.size_toArray, ← r1.length, ← r2.length]; exact hz)) ⟨ho, ho2, ?_⟩)
      rw [e]
      obtain ⟨I2, hf⟩ := frz_new I (r1.append r2) (by rw [List.length_append]; exact hz) (h' := s.heap.push (tupObj (its ++ its2))) (fun b o e => Heap.get?_push_of_some _ e) (Nat.le_refl _) (Heap.get?_push_size _ rfl) (t := s.toks)
      exact ⟨.ref s.heap.objs.size, _, I2, rfl, q2 hx (fun w => hw (r2.nil_iff.mpr w)) _ _ hf rfl⟩
def catTD : DO := fun x y Q => match x, y with
  | .tuple xs, .tuple ys => xs.length + ys.length ≤ sizeLine ∧ Q (.tuple (xs ++ ys))
  | _, _ => False
theorem opA_catT {C : Cf} : OpA C (rCatZ C.K) catTD := by
  intro H0 S0 Hs σ H s x y dx dy Q Q' r hx hy q k
  cases dx <;> cases dy <;> first | exact q.elim | skip
  rename_i ds es
  cases (show Rp C.K Hs x (.tuple ds) from hx) with
  | @tup a xs _ h1 h2 =>
  cases (show Rp C.K Hs y (.tuple es) from hy) with
  | @tup b ys _ h3 h4 =>
    refine ⟨a, b, xs, ys, rfl, rfl, Same.sqT r.sub h1.sq, Same.sqT r.sub h3.sq, by rw [h2.len, h4.len]; exact q.1, fun e => ?_, fun _ e => ?_, fun _ _ p o np hd => ?_⟩
    · subst e
      cases h2
      exact k Hs H _ (.tuple ([] ++ es)) Go.refl r (Val.mkP (Rp.tup h3 h4) rfl) q.2
    · subst e
      cases h4
      exact k Hs H _ (.tuple (ds ++ [])) Go.refl r (Val.mkP (by rw [List.append_nil]; exact Rp.tup h1 h2) rfl) q.2
    · obtain ⟨r', g'⟩ := r.newTup (o := .frz o (.tup (xs ++ ys))) np
      exact k _ _ _ (.tuple (ds ++ es)) g' r' (Val.mkP (Rp.tup (TqT.of upd_same hd) (RpAll.mono g'.st (h2.app h4))) rfl) q.2
/-! ### a call that only reads lists and dicts of the caller's own, and tells a truth, a number, a text or None -/
def isFl : D → Bool
  | .none => true
  | .bool _ => true
  | .int _ => true
  | .str _ => true
  | _ => false
/-- arguments, some of them own slots (told by their place) -/
structure SimO' (C : Cf) (n : Nat) (ta : TA) (t : DA) : Prop where
  run : ∀ (H0 S0 Hs : Hp) (σ : L2.St) (H : Hp) (s : S) (Q : List D → S → Prop) (Q' : List V → Hp → Prop), R C H0 S0 Hs σ H s → t s Q →
    (∀ Hs' H' vs ds s', Go C σ Hs H Hs' H' → R C H0 S0 Hs' σ H' s' → ds.length = n → (∃ Ht, Same Hs' Ht ∧ Same Ht H' ∧ (∀ b o, Ht b = some o → Hs' b = some o ∨ Own C σ b) ∧ RpAll C.K Ht vs ds) → Q ds s' → Q' vs H') → ta σ H Q'
section
variable {C : Cf} {ca : Cat} {te : TE} {dt : DT}
theorem simO'_of {n : Nat} {ta : TA} {t : DA} (h : SimA C n ta t) : SimO' C n ta t :=
  ⟨fun H0 S0 Hs σ H s Q Q' r q k => h.run H0 S0 Hs σ H s _ _ r q fun Hs1 H1 vs ds s1 g1 r1 v1 l1 q1 => k Hs1 H1 vs ds s1 g1 r1 l1 ⟨Hs1, Same.refl _, r1.sub, fun b o e => .inl e, v1⟩ q1⟩
/-- f(xs, ..): xs an own slot, the others still -/
def dOwn (i : Nat) (r : DA) : DA := fun s Q => (∃ d, s.δ[i]? = some (some d)) ∧ r s fun ds s1 => match s1.δ[i]? with
  | some (some d) => Q (d :: ds) s1
  | _ => False
theorem simO'_own {i n : Nat} {ta : TA} {t : DA} (hi : i ∈ C.M) (h : SimA C n ta t) : SimO' C (n + 1) (tCons (tVar i) ta) (dOwn i t) := by
  refine ⟨fun H0 S0 Hs σ H s Q Q' r ⟨⟨d, e⟩, q⟩ k => ?_⟩
  obtain ⟨b, o, e1, _⟩ := r.mt i d e hi
  refine ⟨.ref b, e1, h.run H0 S0 Hs σ H s _ _ r q fun Hs1 H1 vs ds s1 g1 r1 v1 l1 q1 => ?_⟩
  split at q1
  · rename_i d1 ed
    obtain ⟨b', o', f1, f2, f3, f4, _⟩ := r1.mt i d1 ed hi
    rw [e1] at f1
    cases f1
    have sm : Same Hs1 (upd Hs1 b o') := same_upd f3
    refine k Hs1 H1 _ _ s1 g1 r1 (by rw [List.length_cons, l1]) ⟨upd Hs1 b o', sm, fun c u ec => ?_, fun c u ec => ?_, .cons ((f4.mono sm).rp upd_same) (RpAll.mono sm v1)⟩ q1
    · by_cases hc : c = b
      · subst hc; rw [upd_same] at ec; cases ec; exact f2
      · rw [upd_ne hc] at ec; exact r1.sub _ _ ec
    · by_cases hc : c = b
      · exact .inr ⟨i, hi, by rw [hc]; exact e1⟩
      · rw [upd_ne hc] at ec; exact .inl ec
  · exact q1.elim
def dCallO (F : DF) (a : DA) : DT := fun s Q => a s fun ds s1 => F ds fun d => isFl d = true ∧ Q d s1
theorem Rp.flat {K : PySem.W.Frag} {H H' : Hp} {v : V} {d : D} (h : Rp K H v d) (f : isFl d = true) : Rp K H' v d := by
  cases h with
  | non => exact .non
  | bl b => exact .bl b
  | int i => exact .int i
  | str z => exact .str z
  | lst _ _ => cases f
  | tup _ _ => cases f
  | dic _ _ => cases f
theorem sim_callO {n : Nat} {F : DF} {ta : TA} {a : DA} (h : SimO' C n ta a) : Sim C .F (tCall (spN C.K n .E F) [] E0 ta) (dCallO F a) := by
  refine ⟨fun H0 S0 Hs σ H s Q Q' r q k => h.run H0 S0 Hs σ H s _ _ r q fun Hs1 H1 vs ds s1 g1 r1 l1 ⟨Ht, st, sb, ho, v1⟩ q1 => ?_⟩
  rw [List.append_nil]
  refine ⟨Ht, ds, _, sb, v1, l1, q1, fun d Hs' H' v q2 st' sb' hh nw rv => ?_⟩
  obtain ⟨r2, g2⟩ := r1.step (Hs' := Hs1) (H' := H') (Same.refl _) (r1.sub.trans hh) hh (fun b e1 e2 => absurd e1 e2)
  have rp : Rp C.K Hs' v d := rv
  have hc : isC d = false := by cases d <;> first | rfl | (cases q2.1)
  exact k Hs1 H' v d s1 (g1.trans g2) r2 (Val.mkP (rp.flat q2.1) hc) q2.2
end
/-! ### x = a new list; two or three statements on; then it is still -/
section
variable {C : Cf} {cat : Cat} {ta : TE} {da : DT} {t1 t2 t3 us : TS} {a1 a2 a3 b : DSt}
theorem simS_phase2 (i : Nat) (hi : i ∉ C.M) (hp : i ≠ C.ps) (hb' : i ∉ C.bs) (h1 : Sim C .F ta da) (hA : SimS { C with M := i :: C.M } cat (tSeq t1 t2) a1) (hB : SimS C cat us b) : SimS C cat (tSeq (tAsg ta (gName i)) (tSeq t1 (tSeq t2 us))) (dPhase i da a1 b) := by
  have h := simS_phase (ts := tSeq t1 t2) i hi hp hb' h1 hA hB
  exact h
theorem simS_phase3 (i : Nat) (hi : i ∉ C.M) (hp : i ≠ C.ps) (hb' : i ∉ C.bs) (h1 : Sim C .F ta da) (hA : SimS { C with M := i :: C.M } cat (tSeq t1 (tSeq t2 t3)) a1) (hB : SimS C cat us b) : SimS C cat (tSeq (tAsg ta (gName i)) (tSeq t1 (tSeq t2 (tSeq t3 us)))) (dPhase i da a1 b) := by
  have h := simS_phase (ts := tSeq t1 (tSeq t2 t3)) i hi hp hb' h1 hA hB
  exact h
end
/-! ### x = {k: v for ..}; x = [.. for k in d] under a lock -/
section
variable {X : Cx}
theorem ps_lkSet {st : Stmt} {t : TE} {i : Nat} (h : PS X st (tAsg t (gName i))) : PS X st (tAsg (tLk t) (gName i)) :=
  ⟨fun pins s σ H D I q => (show tAsg t (gName i) D σ H ∨ tLock (tAsg t (gName i)) D σ H from q).elim (fun q => h.run pins s σ H D I q) fun q => (ps_lock h).run pins s σ H D I q⟩
theorem ps_setDc {i : Nat} {y : Str} {py : Pos} {kx vx tg iter : Expr} {ifs : List Expr} {scope : Scope} {own : List (Str × Nat)} {pos spos : Pos} {wi : TI} {g : TG} {tt : TT} {tk tv : TE} (hc : X.calm = true) (hN : X.N.Nodup) (hy : X.N[i]? = some y) (hyl : X.env.scope.names.lookup y = some .local)
    (hsw : swapsWith (.DictComp kx vx [⟨tg, iter, ifs, 0⟩] scope pos) (some (.Name y py)) spos.line X.env = pure true) (hi : PI X tg iter wi) (ok : BlkOk X.N X.env.scope scope own)
    (hg : ∀ (s : Shared) (H : Hp) (C : Addr) (cl : List (Str × Addr)) (fp : List Addr), PG (X.blk s H scope (compEnvC scope cl C X.env) fp) tg g) (ht : ∀ (s : Shared) (H : Hp) (C : Addr) (cl : List (Str × Addr)) (fp : List Addr), PTs (X.blk s H scope (compEnvC scope cl C X.env) fp) ifs tt)
    (hk : ∀ (s : Shared) (H : Hp) (C : Addr) (cl : List (Str × Addr)) (fp : List Addr), PE (X.blk s H scope (compEnvC scope cl C X.env) fp) kx tk)
    (he : ∀ (s : Shared) (H : Hp) (C : Addr) (cl : List (Str × Addr)) (fp : List Addr), PE (X.blk s H scope (compEnvC scope cl C X.env) fp) vx tv) (hs : ∀ x, foldedSetIterable iter X.env x = pure x := by intro _; rfl) :
    PS X (.Assign [.Name y py] (.DictComp kx vx [⟨tg, iter, ifs, 0⟩] scope pos) spos) (tAsg (tDc wi g tt tk tv (own.map (·.2))) (gName i)) := by
  refine ⟨fun pins s σ H D I h => ?_⟩
  rw [exec_Assign_Name_used _ _ _ _ hsw]
  refine wpAny_bind (wpAny_standAt (wpAny_bind ?_))
  show wpAny _ X.A (do let _ ← comprehension (.DictComp kx vx [⟨tg, iter, ifs, 0⟩] scope pos) scope X.env (firstIterPos [⟨tg, iter, ifs, 0⟩] pos) newDict false (eval iter X.env) (some (assign (.Name y py) X.env))) _ _ s
  have h : tDc wi g tt tk tv (own.map (·.2)) σ H (fun x H1 => gName i x σ H1 D.nx) := h
  refine wpAny_bind (thn (dc_core (Qf := fun _ s' => SP X pins D .next s') hc hN I hi ok hg ht hk he hs h fun L C s' m H' I' q hn f => ?_) fun _ s' hq => wpAny_pure (wpAny_pure hq))
  show wpAny _ _ (assign (.Name y py) X.env (.ref L)) _ _ _
  refine wpAny_assign_Name (store_ok2 (v := V.ref L) I' hN hy (.inl hyl) rfl (fun s2 I2 ⟨a, sb, ha⟩ => ?_) (.inr hyl))
  obtain ⟨f0, f1, f2, f3, f4, f5⟩ := f
  have haC : C ≠ a := by
    rcases ha with z | z
    · rw [z]; exact f1
    · exact fun e => f4 y a z e.symm
  refine ⟨m, hn.sameBut sb haC, fun h3 sb3 => ?_⟩
  exact ⟨_, H', I2.turned (t' := s2.toks) (fun b o hb e => (sb3.2 b hb).trans e) f0 f1 f3 f4 f5, q⟩
theorem sw_trueD {kx vx : Expr} {gs : List Comprehension} {scope : Scope} {pos py : Pos} {y : Str} {l : Nat} {env : Env} (hk : env.scope.kind = .function) (hy : env.scope.names.lookup y = some .local) (hl : (py.line == pos.line) = true)
    (ha : (scope.names.any fun (n, k) => n == y && (k == .local || k == .cell)) = false) : swapsWith (.DictComp kx vx gs scope pos) (some (.Name y py)) l env = pure true := by
  have ky : env.kindOf y = some .local := hy
  have hb : env.blockKind = .function := by unfold Env.blockKind; rw [hk]; rfl
  unfold swapsWith
  simp only [hb, ky, ha, Expr.pos, hl]
  rfl
end
theorem dcD_ind {g : D → S → (S → Prop) → Prop} {c : DB} {kx e : DT} {vs : List Nat} {Q : List (D × D) → S → Prop} {items : List D} (Inv : Nat → List (D × D) → S → Prop) {s : S} (h0 : Inv 0 [] s)
    (step : ∀ i d acc s (N : List (D × D) → S → Prop), items[i]? = some d → Inv i acc s → (∀ acc' s', Inv (i + 1) acc' s' → N acc' s') → g d s fun s1 => c s1 fun k s2 => if k = true then kx s2 fun y s3 => e s3 fun z s4 => isKey y = true ∧ N (putD acc y z) (wipeS s4 vs) else N acc (wipeS s2 vs))
    (fin : ∀ acc s, Inv items.length acc s → Q acc s) : dcD g c kx e vs Q items [] s := by
  have : ∀ (n i : Nat) (acc : List (D × D)) (s : S), i + n = items.length → Inv i acc s → dcD g c kx e vs Q (items.drop i) acc s := by
    intro n
    induction n with
    | zero =>
      intro i acc s e h
      rw [List.drop_of_length_le (by omega)]
      exact fin acc s (by rw [← e, Nat.add_zero]; exact h)
    | succ n ih =>
      intro i acc s e h
      have hi : i < items.length := by omega
      rw [List.drop_eq_getElem_cons hi]
      exact step i _ acc s (fun acc s => dcD g c kx _ vs Q (items.drop (i + 1)) acc s) (List.getElem?_eq_getElem hi) h fun acc' s' h' => ih (i + 1) acc' s' (by omega) h'
  exact this items.length 0 [] s (by omega) h0
theorem itemsD_get {kvs : List (D × D)} {i : Nat} {d : D} (h : (itemsD kvs)[i]? = some d) : ∃ kv, kvs[i]? = some kv ∧ d = .tuple [kv.1, kv.2] := by
  unfold itemsD at h
  rw [List.getElem?_map] at h
  cases e : kvs[i]? with
  | none => rw [e] at h; cases h
  | some kv => rw [e] at h; exact ⟨kv, rfl, (Option.some.inj h).symm⟩
theorem nd_take {kvs : List (D × D)} {i : Nat} {kv kv' : D × D} (nd : (kvs.map Prod.fst).Nodup) (h : kvs[i]? = some kv) (m : kv' ∈ kvs.take i) : kv'.1 ≠ kv.1 := fun z => by
  obtain ⟨n, hn⟩ := List.getElem?_of_mem m
  rw [List.getElem?_take] at hn
  split at hn
  · rename_i hni
    have h1 : (kvs.map Prod.fst)[n]? = some kv.1 := by rw [List.getElem?_map, hn, ← z]; rfl
    have h2 : (kvs.map Prod.fst)[i]? = some kv.1 := by rw [List.getElem?_map, h]; rfl
    have hil : n < (kvs.map Prod.fst).length := (List.getElem?_eq_some_iff.mp h1).1
    have := (List.getElem?_inj hil nd).mp (h1.trans h2.symm)
    omega
  · cases hn

/-! ### more: own lists handed to readers, d.pop(k), tuple * int -/
section
variable {C : Cf} {ca cb : Cat} {te ta tb : TE} {t da db : DT}
theorem simO'_cons {n : Nat} {tx : TE} {dx : DT} {tr : TA} {a : DA} (h : Sim C ca tx dx) (hr : SimO' C n tr a) : SimO' C (n + 1) (tCons tx tr) (dCons dx a) := by
  refine ⟨fun H0 S0 Hs σ H s Q Q' r q k => h.toE.run H0 S0 Hs σ H s _ _ r q fun Hs1 H1 v d s1 g1 r1 v1 q1 => ?_⟩
  refine hr.run H0 S0 Hs1 σ H1 s1 _ _ r1 q1 fun Hs2 H2 vs ds s2 g2 r2 l2 ⟨Ht, st, sb, ho, va⟩ q2 => ?_
  refine k Hs2 H2 _ _ s2 (g1.trans g2) r2 (by rw [List.length_cons, l2]) ⟨Ht, st, sb, ho, .cons (Rp.mono st (Rp.mono g2.st v1)) va⟩ q2
/-! d.pop(k), of its own -/
def dropD (kvs : List (D × D)) (k : D) : List (D × D) := kvs.filter fun kv => !keyIs kv.1 k
theorem RpKV.drop {K : PySem.W.Frag} {H : Hp} {k : Key} : ∀ {kvs : List (Key × V)} {ds : List (D × D)}, RpKV K H kvs ds → RpKV K H (dropK kvs k) (dropD ds (keyD k))
  | _, _, .nil => .nil
  | _, _, .cons (k := k') a b => by
    have e : keyIs (keyD k') (keyD k) = decide (k' = k) := keyIs_key _ _
    have ih := RpKV.drop (k := k) b
    unfold dropK dropD at ih ⊢
    by_cases h : k' = k
    · rw [List.filter_cons_of_neg (by simp [h]), List.filter_cons_of_neg (by show ¬ (!keyIs (keyD k') (keyD k)) = true; rw [e, decide_eq_true h]; decide)]
      exact ih
    · rw [List.filter_cons_of_pos (by simp [h]), List.filter_cons_of_pos (by show (!keyIs (keyD k') (keyD k)) = true; rw [e, decide_eq_false h]; rfl)]
      exact .cons a ih
def dDPop (i : Nat) (db : DT) : DT := fun s Q => (∃ z, s.δ[i]? = some (some (.dict z))) ∧ db s fun k s1 => isKey k = true ∧ match s1.δ[i]? with
  | some (some (.dict kvs)) => ∃ v, findD kvs k = some v ∧ Q v { s1 with δ := s1.δ.set i (some (.dict (dropD kvs k))) }
  | _ => False
theorem sim_dpop (i : Nat) (hi : i ∈ C.M) (hb : Sim C cb tb db) : Sim C .E (tDPop1 (tVar i) tb) (dDPop i db) := by
  refine ⟨fun H0 S0 Hs σ H s Q Q' r q k => ?_⟩
  obtain ⟨⟨z, ez⟩, q⟩ := q
  obtain ⟨b, o, e1, e2, e3, e4, _⟩ := r.mt i _ ez hi
  cases e4 with
  | dic e4 =>
  refine ⟨_, e1, b, rfl, .inl ⟨_, .inl e2⟩, hb.toE.run H0 S0 Hs σ H s _ _ r q fun Hs2 H2 y dy s2 g2 r2 v2 q2 => ?_⟩
  obtain ⟨hk, q2⟩ := q2
  obtain ⟨kx, rfl⟩ := isKey_of hk
  have v2' : Rp C.K Hs2 y (keyD kx) := v2
  obtain rfl := v2'.key
  split at q2
  · rename_i kvs ex
    obtain ⟨b', o', f1, f2, f3, f4, _⟩ := r2.mt i _ ex hi
    rw [e1] at f1
    cases f1
    cases f4 with
    | dic f4 =>
      rename_i xs
      obtain ⟨dv, fv, q2⟩ := q2
      rcases findD_rp (x := kx) f4 with ⟨f5, f6⟩ | ⟨d, v, f5, f6, f7⟩
      · rw [f5] at fv; cases fv
      · rw [f5] at fv
        cases fv
        obtain ⟨r3, g3⟩ := r2.upd hi ex e1 (.dic (f4.drop (k := kx)))
        exact ⟨xs, kx, v, f2, rfl, f6, k Hs2 _ v _ _ (g2.trans g3) r3 f7 q2⟩
  · exact q2.elim
end

/-! ### a reader of own lists that gives back a tuple of tuples, numbers, texts -/
mutual
def isTF : D → Bool
  | .tuple ds => isTFs ds
  | .list _ => false
  | .dict _ => false
  | _ => true
def isTFs : List D → Bool
  | [] => true
  | d :: ds => isTF d && isTFs ds
end
section
variable {K : PySem.W.Frag} {H H' : Hp}
mutual
theorem Rp.tf (e : ∀ a o xs, H a = some (.frz o (.tup xs)) → H' a = H a) : ∀ {x : V} {d : D}, Rp K H x d → isTF d = true → Rp K H' x d
  | _, _, .non, _ => .non
  | _, _, .bl b, _ => .bl b
  | _, _, .int i, _ => .int i
  | _, _, .str z, _ => .str z
  | _, _, .lst _ _, h => by cases h
  | _, _, .tup q a, h => .tup (by
      rcases q with ⟨o, q, d⟩ | q
      · exact .inl ⟨o, by rw [e _ _ _ q]; exact q, d⟩
      · exact .inr q) (RpAll.tf e a (by simpa only [isTF] using h))
  | _, _, .dic _ _, h => by cases h
theorem RpAll.tf (e : ∀ a o xs, H a = some (.frz o (.tup xs)) → H' a = H a) : ∀ {xs : List V} {ds : List D}, RpAll K H xs ds → isTFs ds = true → RpAll K H' xs ds
  | _, _, .nil, _ => .nil
  | _, _, .cons a b, h => by
    simp only [isTFs, Bool.and_eq_true] at h
    exact .cons (Rp.tf e a h.1) (RpAll.tf e b h.2)
end
end
section
variable {C : Cf}
def dCallT (F : DF) (a : DA) : DT := fun s Q => a s fun ds s1 => F ds fun d => isTF d = true ∧ Q d s1
theorem sim_callT {n : Nat} {F : DF} {ta : TA} {a : DA} (h : SimO' C n ta a) : Sim C .E (tCall (spN C.K n .E F) [] E0 ta) (dCallT F a) := by
  classical
  refine ⟨fun H0 S0 Hs σ H s Q Q' r q k => h.run H0 S0 Hs σ H s _ _ r q fun Hs1 H1 vs ds s1 g1 r1 l1 ⟨Ht, st, sb, ho, v1⟩ q1 => ?_⟩
  rw [List.append_nil]
  refine ⟨Ht, ds, _, sb, v1, l1, q1, fun d Hs' H' v q2 st' sb' hh nw rv => ?_⟩
  let Hn : Hp := fun b => if Ht b ≠ none ∧ Hs1 b = none then none else Hs' b
  have eN : ∀ b, ¬ (Ht b ≠ none ∧ Hs1 b = none) → Hn b = Hs' b := fun b c => if_neg c
  have sN : Same Hs1 Hn := fun b o e => by
    rw [eN b (fun z => by rw [z.2] at e; cases e)]
    exact st' _ _ (st _ _ e)
  have sH : Same Hn H' := fun b o e => by
    by_cases c : Ht b ≠ none ∧ Hs1 b = none
    · have : Hn b = none := if_pos c
      rw [this] at e
      cases e
    · rw [eN b c] at e
      exact sb' _ _ e
  have nN : ∀ b, Hs1 b = none → Hn b ≠ none → H1 b = none := fun b e1 e2 => by
    by_cases c : Ht b ≠ none ∧ Hs1 b = none
    · exact absurd (if_pos c) e2
    · rw [eN b c] at e2
      refine nw b ?_ e2
      cases q : Ht b with
      | none => rfl
      | some o => exact absurd ⟨by rw [q]; exact (fun z => nomatch z), e1⟩ c
  obtain ⟨r2, g2⟩ := r1.step sN sH hh nN
  have rp : Rp C.K Hs' v d := rv
  refine k Hn H' v d s1 (g1.trans g2) r2 ?_ q2.2
  refine Rp.tf (fun b o xs e => eN b fun c => ?_) rp q2.1
  obtain ⟨c1, c2⟩ := c
  cases q : Ht b with
  | none => exact c1 q
  | some u =>
    have e2 := st' _ _ q
    rw [e2] at e
    cases e
    rcases ho b _ q with z | ⟨i, mi, si⟩
    · rw [c2] at z; cases z
    · have il : i < s1.δ.length := by
        rw [← r1.len]
        exact (List.getElem?_eq_some_iff.mp si).1
      cases ed : s1.δ[i]? with
      | none => rw [List.getElem?_eq_none_iff] at ed; omega
      | some od =>
        cases od with
        | none =>
          have := r1.dead i mi ed
          rw [si] at this
          cases this
        | some d1 =>
          obtain ⟨b', o', f1, f2, f3, f4, _⟩ := r1.mt i d1 ed mi
          rw [si] at f1
          cases f1
          rw [sb _ _ q] at f2
          cases f2
          cases f4
end

def topS (i : Nat) : Stmt := PySem.Challenge.pw_leapwork_k02_worths_of_terms_and_rows.main.body.getD i (.Pass ⟨0, 0, 0, 0⟩)
abbrev s__wall : Stmt := topS 0
theorem sc__wall : FnScope ["k"] ["k"] (defScope s__wall) := ⟨rfl, rfl, rfl, by decide +kernel, rfl, by decide +kernel, by decide +kernel⟩
abbrev s_is_whole : Stmt := topS 3
theorem sc_is_whole : FnScope ["thing"] ["thing"] (defScope s_is_whole) := ⟨rfl, rfl, rfl, by decide +kernel, rfl, by decide +kernel, by decide +kernel⟩
abbrev s_sort_of : Stmt := topS 4
theorem sc_sort_of : FnScope ["word"] ["word"] (defScope s_sort_of) := ⟨rfl, rfl, rfl, by decide +kernel, rfl, by decide +kernel, by decide +kernel⟩
abbrev s_kinds_of : Stmt := topS 5
theorem sc_kinds_of : FnScope ["word"] ["word"] (defScope s_kinds_of) := ⟨rfl, rfl, rfl, by decide +kernel, rfl, by decide +kernel, by decide +kernel⟩
abbrev s_parts_of : Stmt := topS 6
theorem sc_parts_of : FnScope ["thing", "kind", "part"] ["thing"] (defScope s_parts_of) := ⟨rfl, rfl, rfl, by decide +kernel, rfl, by decide +kernel, by decide +kernel⟩
abbrev s_gather_notions : Stmt := topS 7
theorem sc_gather_notions : FnScope ["thing", "found", "part"] ["thing", "found"] (defScope s_gather_notions) := ⟨rfl, rfl, rfl, by decide +kernel, rfl, by decide +kernel, by decide +kernel⟩
abbrev s_notion_terms : Stmt := topS 8
theorem sc_notion_terms : FnScope ["thing", "found"] ["thing"] (defScope s_notion_terms) := ⟨rfl, rfl, rfl, by decide +kernel, rfl, by decide +kernel, by decide +kernel⟩
abbrev s_kind_of : Stmt := topS 11
theorem sc_kind_of : FnScope ["place"] ["place"] (defScope s_kind_of) := ⟨rfl, rfl, rfl, by decide +kernel, rfl, by decide +kernel, by decide +kernel⟩
abbrev s_takes : Stmt := topS 12
theorem sc_takes : FnScope ["notion", "places", "letter", "kind", "place"] ["notion", "places"] (defScope s_takes) := ⟨rfl, rfl, rfl, by decide +kernel, rfl, by decide +kernel, by decide +kernel⟩
abbrev s_own_term : Stmt := topS 13
theorem sc_own_term : FnScope ["notion", "term"] ["notion"] (defScope s_own_term) := ⟨rfl, rfl, rfl, by decide +kernel, rfl, by decide +kernel, by decide +kernel⟩
abbrev s_stands : Stmt := topS 14
theorem sc_stands : FnScope ["notion", "notions", "found", "own", "term"] ["notion", "notions", "found"] (defScope s_stands) := ⟨rfl, rfl, rfl, by decide +kernel, rfl, by decide +kernel, by decide +kernel⟩
abbrev s_firm : Stmt := topS 15
theorem sc_firm : FnScope ["notions", "found", "floor", "name"] ["notions"] (defScope s_firm) := ⟨rfl, rfl, rfl, by decide +kernel, rfl, by decide +kernel, by decide +kernel⟩
abbrev s_made_row : Stmt := topS 18
theorem sc_made_row : FnScope ["size", "numbers", "place", "number"] ["size", "numbers"] (defScope s_made_row) := ⟨rfl, rfl, rfl, by decide +kernel, rfl, by decide +kernel, by decide +kernel⟩
abbrev s_number_at : Stmt := topS 19
theorem sc_number_at : FnScope ["row", "place"] ["row", "place"] (defScope s_number_at) := ⟨rfl, rfl, rfl, by decide +kernel, rfl, by decide +kernel, by decide +kernel⟩
abbrev s_worth_of : Stmt := topS 21
theorem sc_worth_of : FnScope ["thing", "table", "notions", "look", "found"] ["thing", "table", "notions"] (defScope s_worth_of) := ⟨rfl, rfl, rfl, by decide +kernel, rfl, by decide +kernel, by decide +kernel⟩
abbrev s__law_spread : Stmt := topS 23
theorem sc__law_spread : FnScope ["_law_cell", "_law_at", "_law_primes", "_law_one", "_law_two", "_law_three"] ["_law_cell", "_law_at"] (defScope s__law_spread) := ⟨rfl, rfl, rfl, by decide +kernel, rfl, by decide +kernel, by decide +kernel⟩
abbrev s__law_open : Stmt := topS 24
theorem sc__law_open : FnScope ["_law_script", "_law_cells", "_law_k", "_law_cell"] ["_law_script"] (defScope s__law_open) := ⟨rfl, rfl, rfl, by decide +kernel, rfl, by decide +kernel, by decide +kernel⟩
abbrev s__law_take : Stmt := topS 25
theorem sc__law_take : FnScope ["_law_pen", "_law_many", "_law_at", "_law_cell", "_law_found"] ["_law_pen", "_law_many"] (defScope s__law_take) := ⟨rfl, rfl, rfl, by decide +kernel, rfl, by decide +kernel, by decide +kernel⟩
abbrev s__law_same : Stmt := topS 26
theorem sc__law_same : FnScope ["_law_found", "_law_due", "_law_one", "_law_other"] ["_law_found", "_law_due"] (defScope s__law_same) := ⟨rfl, rfl, rfl, by decide +kernel, rfl, by decide +kernel, by decide +kernel⟩
abbrev s__law_names : Stmt := topS 27
theorem sc__law_names : FnScope ["_law_pen", "_law_many", "_law_letters", "_law_stem", "_law_k", "_law_at", "_law_first", "_law_found", "_law_name"] ["_law_pen", "_law_many"] (defScope s__law_names) := ⟨rfl, rfl, rfl, by decide +kernel, rfl, by decide +kernel, by decide +kernel⟩
abbrev s__law_gnumber : Stmt := topS 28
theorem sc__law_gnumber : FnScope ["_law_pen", "_law_some"] ["_law_pen"] (defScope s__law_gnumber) := ⟨rfl, rfl, rfl, by decide +kernel, rfl, by decide +kernel, by decide +kernel⟩
abbrev s__law_gletters : Stmt := topS 29
theorem sc__law_gletters : FnScope ["_law_pen", "_law_names_here", "_law_numbers"] ["_law_pen"] (defScope s__law_gletters) := ⟨rfl, rfl, rfl, by decide +kernel, rfl, by decide +kernel, by decide +kernel⟩
abbrev s__law_gplaces : Stmt := topS 30
theorem sc__law_gplaces : FnScope ["_law_pen", "_law_deep", "_law_env", "_law_kinds", "_law_found", "_law_kind"] ["_law_pen", "_law_deep", "_law_env", "_law_kinds"] (defScope s__law_gplaces) := ⟨rfl, rfl, rfl, by decide +kernel, rfl, by decide +kernel, by decide +kernel⟩
abbrev s__law_gterm : Stmt := topS 31
theorem sc__law_gterm : FnScope ["_law_pen", "_law_deep", "_law_env", "_law_way", "_law_divisor_one", "_law_name"] ["_law_pen", "_law_deep", "_law_env"] (defScope s__law_gterm) := ⟨rfl, rfl, rfl, by decide +kernel, rfl, by decide +kernel, by decide +kernel⟩
abbrev s__law_grow : Stmt := topS 32
theorem sc__law_grow : FnScope ["_law_pen", "_law_deep", "_law_env", "_law_way", "_law_beneath"] ["_law_pen", "_law_deep", "_law_env"] (defScope s__law_grow) := ⟨rfl, rfl, rfl, by decide +kernel, rfl, by decide +kernel, by decide +kernel⟩
abbrev s__law_gtable : Stmt := topS 33
theorem sc__law_gtable : FnScope ["_law_pen", "_law_env", "_law_found", "_law_letter", "_law_some", "_law_k", "_law_places", "_law_place"] ["_law_pen", "_law_env"] (defScope s__law_gtable) := ⟨rfl, rfl, rfl, by decide +kernel, rfl, by decide +kernel, by decide +kernel⟩
abbrev s__law_gcan : Stmt := topS 34
theorem sc__law_gcan : FnScope ["_law_table", "_law_letter", "_law_of_row", "_law_found"] ["_law_table", "_law_letter", "_law_of_row"] (defScope s__law_gcan) := ⟨rfl, rfl, rfl, by decide +kernel, rfl, by decide +kernel, by decide +kernel⟩
abbrev s__law_gworth : Stmt := topS 35
theorem sc__law_gworth : FnScope ["_law_term", "_law_table", "_law_word", "_law_place", "_law_one", "_law_other", "_law_rest"] ["_law_term", "_law_table"] (defScope s__law_gworth) := ⟨rfl, rfl, rfl, by decide +kernel, rfl, by decide +kernel, by decide +kernel⟩
abbrev s__law_glacks : Stmt := topS 36
theorem sc__law_glacks : FnScope ["_law_row", "_law_table", "_law_parts"] ["_law_row", "_law_table"] (defScope s__law_glacks) := ⟨rfl, rfl, rfl, by decide +kernel, rfl, by decide +kernel, by decide +kernel⟩
abbrev s__law_gsize : Stmt := topS 37
theorem sc__law_gsize : FnScope ["_law_row", "_law_table"] ["_law_row", "_law_table"] (defScope s__law_gsize) := ⟨rfl, rfl, rfl, by decide +kernel, rfl, by decide +kernel, by decide +kernel⟩
abbrev s__law_gat : Stmt := topS 38
theorem sc__law_gat : FnScope ["_law_row", "_law_table", "_law_place", "_law_there", "_law_number"] ["_law_row", "_law_table", "_law_place"] (defScope s__law_gat) := ⟨rfl, rfl, rfl, by decide +kernel, rfl, by decide +kernel, by decide +kernel⟩
abbrev s__law_gfull : Stmt := topS 39
theorem sc__law_gfull : FnScope ["_law_row", "_law_table", "_law_some", "_law_beneath", "_law_place", "_law_number", "_law_places", "_law_pair"] ["_law_row", "_law_table"] (defScope s__law_gfull) := ⟨rfl, rfl, rfl, by decide +kernel, rfl, by decide +kernel, by decide +kernel⟩
abbrev s__law_lamed : Stmt := topS 40
theorem sc__law_lamed : FnScope ["_law_pen", "_law_table", "_law_env", "_law_found", "_law_letters", "_law_letter", "_law_way"] ["_law_pen", "_law_table", "_law_env"] (defScope s__law_lamed) := ⟨rfl, rfl, rfl, by decide +kernel, rfl, by decide +kernel, by decide +kernel⟩
abbrev s__law_right : Stmt := topS 41
theorem sc__law_right : FnScope ["_law_thing", "_law_table", "_law_due", "_law_seen", "_law_found"] ["_law_thing", "_law_table", "_law_due"] (defScope s__law_right) := ⟨rfl, rfl, rfl, by decide +kernel, rfl, by decide +kernel, by decide +kernel⟩
abbrev s_law : Stmt := topS 42
theorem sc_law : FnScope ["_law_script", "_law_pen", "_law_turn", "_law_env", "_law_table", "_law_again", "_law_deep", "_law_term", "_law_row", "_law_some", "_law_low"] ["_law_script"] (defScope s_law) := ⟨rfl, rfl, rfl, by decide +kernel, rfl, by decide +kernel, by decide +kernel⟩
abbrev s_Look___init__ : Stmt := inClass (topS 20) 0
theorem sc_Look___init__ : FnScope ["self", "notions"] ["self", "notions"] (defScope s_Look___init__) := ⟨rfl, rfl, rfl, by decide +kernel, rfl, by decide +kernel, by decide +kernel⟩
abbrev s_Look_one_more : Stmt := inClass (topS 20) 1
theorem sc_Look_one_more : FnScope ["self"] ["self"] (defScope s_Look_one_more) := ⟨rfl, rfl, rfl, by decide +kernel, rfl, by decide +kernel, by decide +kernel⟩
abbrev s_Look_letter_at : Stmt := inClass (topS 20) 2
theorem sc_Look_letter_at : FnScope ["self", "letter", "table", "of_row", "found"] ["self", "letter", "table", "of_row"] (defScope s_Look_letter_at) := ⟨rfl, rfl, rfl, by decide +kernel, rfl, by decide +kernel, by decide +kernel⟩
abbrev s_Look_reckon : Stmt := inClass (topS 20) 3
theorem sc_Look_reckon : FnScope ["self", "term", "table", "known", "word", "parts", "part"] ["self", "term", "table", "known"] (defScope s_Look_reckon) := ⟨rfl, rfl, rfl, by decide +kernel, rfl, by decide +kernel, by decide +kernel⟩
abbrev s_Look_reckon_number : Stmt := inClass (topS 20) 4
theorem sc_Look_reckon_number : FnScope ["self", "term", "parts", "word"] ["self", "term", "parts"] (defScope s_Look_reckon_number) := ⟨rfl, rfl, rfl, by decide +kernel, rfl, by decide +kernel, by decide +kernel⟩
abbrev s_Look_reckon_row : Stmt := inClass (topS 20) 5
theorem sc_Look_reckon_row : FnScope ["self", "term", "parts", "beneath", "place", "number", "numbers"] ["self", "term", "parts"] (defScope s_Look_reckon_row) := ⟨rfl, rfl, rfl, by decide +kernel, rfl, by decide +kernel, by decide +kernel⟩
abbrev s_Look_reckon_notion : Stmt := inClass (topS 20) 6
theorem sc_Look_reckon_notion : FnScope ["self", "term", "parts", "name"] ["self", "term", "parts"] (defScope s_Look_reckon_notion) := ⟨rfl, rfl, rfl, by decide +kernel, rfl, by decide +kernel, by decide +kernel⟩
abbrev s_Look_opened : Stmt := inClass (topS 20) 7
theorem sc_Look_opened : FnScope ["self", "notion", "parts", "name", "letters", "zero", "more", "own", "tables", "table", "letter", "part", "found", "place"] ["self", "notion", "parts"] (defScope s_Look_opened) := ⟨rfl, rfl, rfl, by decide +kernel, rfl, by decide +kernel, by decide +kernel⟩
abbrev s_Look_closing : Stmt := inClass (topS 20) 8
theorem sc_Look_closing : FnScope ["self", "name", "more", "tables", "found", "table"] ["self", "name", "more", "tables", "found"] (defScope s_Look_closing) := ⟨rfl, rfl, rfl, by decide +kernel, rfl, by decide +kernel, by decide +kernel⟩
abbrev s_Look_is_so : Stmt := inClass (topS 20) 9
theorem sc_Look_is_so : FnScope ["self", "saying", "table"] ["self", "saying", "table"] (defScope s_Look_is_so) := ⟨rfl, rfl, rfl, by decide +kernel, rfl, by decide +kernel, by decide +kernel⟩
abbrev s_Look_is_all_so : Stmt := inClass (topS 20) 10
theorem sc_Look_is_all_so : FnScope ["self", "saying", "table"] ["self", "saying", "table"] (defScope s_Look_is_all_so) := ⟨rfl, rfl, rfl, by decide +kernel, rfl, by decide +kernel, by decide +kernel⟩
/-- its fields: those that stay, the number a, the other thing b -/
def fF_Look (ls : List V) (a b : V) : List (Str × V) := [("notions", ls.getD 0 .non), ("firm", ls.getD 1 .non), ("count", a), ("first", b)]
theorem fk_Look_notions (ls : List V) : ∀ a b, (fF_Look ls a b).lookup ("notions" : Str) = some (ls.getD 0 .non) := fun a b => lk_hit
theorem fk_Look_firm (ls : List V) : ∀ a b, (fF_Look ls a b).lookup ("firm" : Str) = some (ls.getD 1 .non) := fun a b => (lk_skip (by decide +kernel)).trans (lk_hit)
theorem fk_Look_count (ls : List V) : ∀ a b, (fF_Look ls a b).lookup ("count" : Str) = some (a) := fun a b => (lk_skip (by decide +kernel)).trans ((lk_skip (by decide +kernel)).trans (lk_hit))
theorem fk_Look_first (ls : List V) : ∀ a b, (fF_Look ls a b).lookup ("first" : Str) = some (b) := fun a b => (lk_skip (by decide +kernel)).trans ((lk_skip (by decide +kernel)).trans ((lk_skip (by decide +kernel)).trans (lk_hit)))
theorem fm_Look___init__ (ls : List V) : ∀ a b, (fF_Look ls a b).lookup ("__init__" : Str) = none := fun a b => (lk_skip (by decide +kernel)).trans ((lk_skip (by decide +kernel)).trans ((lk_skip (by decide +kernel)).trans ((lk_skip (by decide +kernel)).trans (rfl))))
theorem fm_Look_one_more (ls : List V) : ∀ a b, (fF_Look ls a b).lookup ("one_more" : Str) = none := fun a b => (lk_skip (by decide +kernel)).trans ((lk_skip (by decide +kernel)).trans ((lk_skip (by decide +kernel)).trans ((lk_skip (by decide +kernel)).trans (rfl))))
theorem fm_Look_letter_at (ls : List V) : ∀ a b, (fF_Look ls a b).lookup ("letter_at" : Str) = none := fun a b => (lk_skip (by decide +kernel)).trans ((lk_skip (by decide +kernel)).trans ((lk_skip (by decide +kernel)).trans ((lk_skip (by decide +kernel)).trans (rfl))))
theorem fm_Look_reckon (ls : List V) : ∀ a b, (fF_Look ls a b).lookup ("reckon" : Str) = none := fun a b => (lk_skip (by decide +kernel)).trans ((lk_skip (by decide +kernel)).trans ((lk_skip (by decide +kernel)).trans ((lk_skip (by decide +kernel)).trans (rfl))))
theorem fm_Look_reckon_number (ls : List V) : ∀ a b, (fF_Look ls a b).lookup ("reckon_number" : Str) = none := fun a b => (lk_skip (by decide +kernel)).trans ((lk_skip (by decide +kernel)).trans ((lk_skip (by decide +kernel)).trans ((lk_skip (by decide +kernel)).trans (rfl))))
theorem fm_Look_reckon_row (ls : List V) : ∀ a b, (fF_Look ls a b).lookup ("reckon_row" : Str) = none := fun a b => (lk_skip (by decide +kernel)).trans ((lk_skip (by decide +kernel)).trans ((lk_skip (by decide +kernel)).trans ((lk_skip (by decide +kernel)).trans (rfl))))
theorem fm_Look_reckon_notion (ls : List V) : ∀ a b, (fF_Look ls a b).lookup ("reckon_notion" : Str) = none := fun a b => (lk_skip (by decide +kernel)).trans ((lk_skip (by decide +kernel)).trans ((lk_skip (by decide +kernel)).trans ((lk_skip (by decide +kernel)).trans (rfl))))
theorem fm_Look_opened (ls : List V) : ∀ a b, (fF_Look ls a b).lookup ("opened" : Str) = none := fun a b => (lk_skip (by decide +kernel)).trans ((lk_skip (by decide +kernel)).trans ((lk_skip (by decide +kernel)).trans ((lk_skip (by decide +kernel)).trans (rfl))))
theorem fm_Look_closing (ls : List V) : ∀ a b, (fF_Look ls a b).lookup ("closing" : Str) = none := fun a b => (lk_skip (by decide +kernel)).trans ((lk_skip (by decide +kernel)).trans ((lk_skip (by decide +kernel)).trans ((lk_skip (by decide +kernel)).trans (rfl))))
theorem fm_Look_is_so (ls : List V) : ∀ a b, (fF_Look ls a b).lookup ("is_so" : Str) = none := fun a b => (lk_skip (by decide +kernel)).trans ((lk_skip (by decide +kernel)).trans ((lk_skip (by decide +kernel)).trans ((lk_skip (by decide +kernel)).trans (rfl))))
theorem fm_Look_is_all_so (ls : List V) : ∀ a b, (fF_Look ls a b).lookup ("is_all_so" : Str) = none := fun a b => (lk_skip (by decide +kernel)).trans ((lk_skip (by decide +kernel)).trans ((lk_skip (by decide +kernel)).trans ((lk_skip (by decide +kernel)).trans (rfl))))
theorem fp_Look_count (ls : List V) : ∀ a b z, putF ("count" : Str) z (fF_Look ls a b) = fF_Look ls z b := fun a b z => (pf_skip (by decide +kernel)).trans (congrArg _ ((pf_skip (by decide +kernel)).trans (congrArg _ (pf_hit))))
theorem fp_Look_first (ls : List V) : ∀ a b z, putF ("first" : Str) z (fF_Look ls a b) = fF_Look ls a z := fun a b z => (pf_skip (by decide +kernel)).trans (congrArg _ ((pf_skip (by decide +kernel)).trans (congrArg _ ((pf_skip (by decide +kernel)).trans (congrArg _ (pf_hit))))))
theorem fl_Look (ls : List V) : ∀ a b, (fF_Look ls a b).length < 1000 := fun a b => by show 4 < 1000; decide
structure C_Look (K : PySem.W.Frag) (mg : Str → Option Value) (C : Addr) : Prop where
  k : Kl K mg C "Look" "Look.__init__" s_Look___init__ ["self", "notions"]
  n_notions : NoAttr K C "notions"
  n_firm : NoAttr K C "firm"
  n_count : NoAttr K C "count"
  n_first : NoAttr K C "first"
  m_one_more : MtB K (B0 K ["self"]) C "one_more" "Look.one_more" s_Look_one_more
  m_letter_at : MtB K (BK K ["self", "letter", "table", "of_row"] 3 ["of_row"]) C "letter_at" "Look.letter_at" s_Look_letter_at
  m_reckon : MtB K (fun fd => B0 K ["self", "term", "table", "known"] fd ∧ BD K ["self", "term", "table", "known"] [.non] fd) C "reckon" "Look.reckon" s_Look_reckon
  m_reckon_number : MtB K (B0 K ["self", "term", "parts"]) C "reckon_number" "Look.reckon_number" s_Look_reckon_number
  m_reckon_row : MtB K (B0 K ["self", "term", "parts"]) C "reckon_row" "Look.reckon_row" s_Look_reckon_row
  m_reckon_notion : MtB K (B0 K ["self", "term", "parts"]) C "reckon_notion" "Look.reckon_notion" s_Look_reckon_notion
  m_opened : MtB K (B0 K ["self", "notion", "parts"]) C "opened" "Look.opened" s_Look_opened
  m_closing : MtB K (B0 K ["self", "name", "more", "tables", "found"]) C "closing" "Look.closing" s_Look_closing
  m_is_so : MtB K (B0 K ["self", "saying", "table"]) C "is_so" "Look.is_so" s_Look_is_so
  m_is_all_so : MtB K (B0 K ["self", "saying", "table"]) C "is_all_so" "Look.is_all_so" s_Look_is_all_so
def tab_FORMS : List (Str × D) := [("num", .tuple [.str "term", .str "n"]), ("name", .tuple [.str "term", .str "x"]), ("add", .tuple [.str "term", .str "tt"]), ("mul", .tuple [.str "term", .str "nt"]), ("read", .tuple [.str "term", .str "rt"]), ("size", .tuple [.str "term", .str "r"]), ("div", .tuple [.str "term", .str "tk"]), ("mod", .tuple [.str "term", .str "tk"]), ("notion", .tuple [.str "term", .str "ab"]), ("row", .tuple [.str "row", .str "y"]), ("with", .tuple [.str "row", .str "rtt"]), ("room", .tuple [.str "row", .str "t"]), ("le", .tuple [.str "plain", .str "tt"]), ("eq", .tuple [.str "plain", .str "tt"]), ("not", .tuple [.str "plain", .str "p"]), ("and", .tuple [.str "plain", .str "pp"]), ("or", .tuple [.str "plain", .str "pp"]), ("all", .tuple [.str "all", .str "ttp"])]
structure Tx (w : World) (K : PySem.W.Frag) (mg : Str → Option Value) : Prop where
  d__wall : Df K mg "_wall" s__wall ["k"]
  d_is_whole : Df K mg "is_whole" s_is_whole ["thing"]
  d_sort_of : Df K mg "sort_of" s_sort_of ["word"]
  d_kinds_of : Df K mg "kinds_of" s_kinds_of ["word"]
  d_parts_of : Df K mg "parts_of" s_parts_of ["thing"]
  d_gather_notions : Df K mg "gather_notions" s_gather_notions ["thing", "found"]
  d_notion_terms : Df K mg "notion_terms" s_notion_terms ["thing"]
  d_kind_of : Df K mg "kind_of" s_kind_of ["place"]
  d_takes : Df K mg "takes" s_takes ["notion", "places"]
  d_own_term : Df K mg "own_term" s_own_term ["notion"]
  d_stands : Df K mg "stands" s_stands ["notion", "notions", "found"]
  d_firm : Df K mg "firm" s_firm ["notions"]
  d_made_row : Df K mg "made_row" s_made_row ["size", "numbers"]
  d_number_at : Df K mg "number_at" s_number_at ["row", "place"]
  d_worth_of : Df K mg "worth_of" s_worth_of ["thing", "table", "notions"]
  d__law_spread : Df K mg "_law_spread" s__law_spread ["_law_cell", "_law_at"]
  d__law_open : Df K mg "_law_open" s__law_open ["_law_script"]
  d__law_take : Df K mg "_law_take" s__law_take ["_law_pen", "_law_many"]
  d__law_same : Df K mg "_law_same" s__law_same ["_law_found", "_law_due"]
  d__law_names : Df K mg "_law_names" s__law_names ["_law_pen", "_law_many"]
  d__law_gnumber : Df K mg "_law_gnumber" s__law_gnumber ["_law_pen"]
  d__law_gletters : Df K mg "_law_gletters" s__law_gletters ["_law_pen"]
  d__law_gplaces : Df K mg "_law_gplaces" s__law_gplaces ["_law_pen", "_law_deep", "_law_env", "_law_kinds"]
  d__law_gterm : Df K mg "_law_gterm" s__law_gterm ["_law_pen", "_law_deep", "_law_env"]
  d__law_grow : Df K mg "_law_grow" s__law_grow ["_law_pen", "_law_deep", "_law_env"]
  d__law_gtable : Df K mg "_law_gtable" s__law_gtable ["_law_pen", "_law_env"]
  d__law_gcan : Df K mg "_law_gcan" s__law_gcan ["_law_table", "_law_letter", "_law_of_row"]
  d__law_gworth : Df K mg "_law_gworth" s__law_gworth ["_law_term", "_law_table"]
  d__law_glacks : Df K mg "_law_glacks" s__law_glacks ["_law_row", "_law_table"]
  d__law_gsize : Df K mg "_law_gsize" s__law_gsize ["_law_row", "_law_table"]
  d__law_gat : Df K mg "_law_gat" s__law_gat ["_law_row", "_law_table", "_law_place"]
  d__law_gfull : Df K mg "_law_gfull" s__law_gfull ["_law_row", "_law_table"]
  d__law_lamed : Df K mg "_law_lamed" s__law_lamed ["_law_pen", "_law_table", "_law_env"]
  d__law_right : Df K mg "_law_right" s__law_right ["_law_thing", "_law_table", "_law_due"]
  d_law : Df K mg "law" s_law ["_law_script"]
  z_bool : mg "bool" = none
  z_dict : mg "dict" = none
  z_enumerate : mg "enumerate" = none
  z_int : mg "int" = none
  z_isinstance : mg "isinstance" = none
  z_len : mg "len" = none
  z_list : mg "list" = none
  z_max : mg "max" = none
  z_range : mg "range" = none
  z_repr : mg "repr" = none
  z_sorted : mg "sorted" = none
  z_str : mg "str" = none
  z_sum : mg "sum" = none
  z_tuple : mg "tuple" = none
  z_zip : mg "zip" = none
  c_Look : ∃ C, C_Look K mg C
  t_FORMS : Gd w K mg "FORMS" tab_FORMS
  g_FLOORS : Gv mg "FLOORS" (.int 10)
  g_MOST_LOOK : Gv mg "MOST_LOOK" (.int 400)
/-! ### the draws: _law_spread, _law_open, _law_take -/
section
variable {P : Program} {w : World} {K : PySem.W.Frag} {mg : Str → Option Value} {base : Heap}
theorem pw_lt {x : Int} {n : Nat} (h0 : 0 ≤ x) (h : x < 2 ^ 64) : x.natAbs < 2 ^ 64 := by omega
theorem ok__law_spread (T : Tx w K mg) : Ok P w K mg base 1 "_law_spread" ["_law_cell", "_law_at"] spSpread := by
  refine Ok.mk T.d__law_spread sc__law_spread (fun vs H Q E h => ?_) (fun f cdv A outer s H vs Q E hr h => ?_)
  · obtain ⟨c, a, rfl, _⟩ := h
    rfl
  obtain ⟨c, a, rfl, h0, h1, q⟩ := h
  have hL : (2 : Int) ^ 100 ≤ (penLim : Int) := by have := pen100; omega
  generalize hLL : (penLim : Int) = L at h1 hL
  have ls : ∀ {x : Int}, 0 ≤ x → x ≤ 2 ^ 60 * L → x.natAbs < 2 ^ 9000 := fun a b => lim_small a (by rw [hLL]; exact b)
  refine ⟨_, (pss_cons (ps_if (pt_cmpR op_ge (pv 0) (pe_op op_powW (pe_int) (pe_int)) (nomark _))
 (pss_one (ps_ret (pv 0)))
 (pss_nil))
 (pss_cons (ps_set (i := 2) sc__law_spread.nd rfl (Or.inl rfl) (pe_lst (pa_cons (pe_int) (pa_cons (pe_int) (pa_cons (pe_int) (pa_cons (pe_int) (pa_cons (pe_int) (pa_cons (pe_int) (pa_cons (pe_int) (pa_cons (pe_int) (pa_nil)))))))))))
 (pss_cons (ps_set (i := 2) sc__law_spread.nd rfl (Or.inl rfl) (pe_op op_cat (pv 2) (pe_lst (pa_cons (pe_int) (pa_cons (pe_int) (pa_cons (pe_int) (pa_cons (pe_int) (pa_cons (pe_int) (pa_nil)))))))))
 (pss_cons (ps_set (i := 3) sc__law_spread.nd rfl (Or.inl rfl) (pe_op op_mod (pe_op op_powW (pe_op op_add (pe_op op_add (pe_op op_mul (pe_op op_mod (pv 0) (pe_int)) (pe_op op_add (pe_op op_mul (pe_int) (pv 1)) (pe_int))) (pe_op op_mul (pv 1) (pe_int))) (pe_int)) (pe_int)) (pe_ix (ixL K rfl) (pv 2) (pe_op op_mod (pv 1) (pe_int)) (fun _ _ => rfl))))
 (pss_cons (ps_set (i := 4) sc__law_spread.nd rfl (Or.inl rfl) (pe_op op_mod (pe_op op_powW (pe_op op_add (pe_op op_add (pe_op op_mul (pv 3) (pe_op op_add (pv 1) (pe_int))) (pe_op op_mod (pv 0) (pe_int))) (pe_int)) (pe_int)) (pe_ix (ixL K rfl) (pv 2) (pe_op op_mod (pe_op op_add (pv 1) (pe_int)) (pe_int)) (fun _ _ => rfl))))
 (pss_cons (ps_set (i := 5) sc__law_spread.nd rfl (Or.inl rfl) (pe_op op_mod (pe_op op_powW (pe_op op_add (pe_op op_add (pv 4) (pe_op op_mod (pv 3) (pe_int))) (pv 1)) (pe_int)) (pe_ix (ixL K rfl) (pv 2) (pe_op op_mod (pe_op op_add (pv 1) (pe_int)) (pe_int)) (fun _ _ => rfl))))
 (pss_one (ps_ret (pe_op op_add (pe_op op_mul (pe_op op_add (pe_op op_mul (pv 3) (pe_int)) (pv 4)) (pe_int)) (pv 5)))))))))), ?_⟩
  refine ⟨_, rfl, _, _, rfl, rfl, ⟨by decide, by decide, ls (by decide) (by omega)⟩, _, _, rfl, rfl, _, rfl, ite2 (fun e => ?_) (fun e => ?_)⟩
  · have e := of_decide_eq_true e
    refine ⟨_, rfl, ?_⟩
    refine q c H (Int.le_trans (by decide) e) (Same.refl H)
  · refine ⟨by show 8 ≤ sizeLine; decide, fun p1 n1 => ?_⟩
    have s1 := same_upd (o := .lst [V.int 2147483629, .int 2147483587, .int 2147483579, .int 2147483563, .int 2147483549, .int 2147483543, .int 2147483497, .int 2147483489]) n1
    refine ⟨_, rfl, ?_⟩
    refine ⟨by show 5 ≤ sizeLine; decide, fun p2 n2 => ?_⟩
    have s2 := same_upd (o := .lst [V.int 2147483477, .int 2147483423, .int 2147483399, .int 2147483353, .int 2147483323]) n2
    have n12 : p1 ≠ p2 := fun z => by rw [← z, upd_same] at n2; cases n2
    refine ⟨p1, p2, _, _, rfl, rfl, by rw [upd_ne n12]; exact upd_same, upd_same, by show 8 + 5 ≤ sizeLine; decide, fun p3 n3 => ?_⟩
    have s3 := same_upd (o := .lst ([V.int 2147483629, .int 2147483587, .int 2147483579, .int 2147483563, .int 2147483549, .int 2147483543, .int 2147483497, .int 2147483489] ++ [V.int 2147483477, .int 2147483423, .int 2147483399, .int 2147483353, .int 2147483323])) n3
    have hL : SqL K (upd (upd (upd H p1 (.lst [V.int 2147483629, .int 2147483587, .int 2147483579, .int 2147483563, .int 2147483549, .int 2147483543, .int 2147483497, .int 2147483489])) p2 (.lst [V.int 2147483477, .int 2147483423, .int 2147483399, .int 2147483353, .int 2147483323])) p3 (.lst ([V.int 2147483629, .int 2147483587, .int 2147483579, .int 2147483563, .int 2147483549, .int 2147483543, .int 2147483497, .int 2147483489] ++ [V.int 2147483477, .int 2147483423, .int 2147483399, .int 2147483353, .int 2147483323]))) p3 ([2147483629, 2147483587, 2147483579, 2147483563, 2147483549, 2147483543, 2147483497, 2147483489, 2147483477, 2147483423, 2147483399, 2147483353, 2147483323].map V.int) := SqL.of upd_same
    have sH := s1.trans (s2.trans s3)
    generalize (upd (upd (upd H p1 (.lst [V.int 2147483629, .int 2147483587, .int 2147483579, .int 2147483563, .int 2147483549, .int 2147483543, .int 2147483497, .int 2147483489])) p2 (.lst [V.int 2147483477, .int 2147483423, .int 2147483399, .int 2147483353, .int 2147483323])) p3 (.lst ([V.int 2147483629, .int 2147483587, .int 2147483579, .int 2147483563, .int 2147483549, .int 2147483543, .int 2147483497, .int 2147483489] ++ [V.int 2147483477, .int 2147483423, .int 2147483399, .int 2147483353, .int 2147483323]))) = H3 at hL sH ⊢
    have prime : ∀ i : Int, 0 ≤ i → ∃ pr : Int, atI ([2147483629, 2147483587, 2147483579, 2147483563, 2147483549, 2147483543, 2147483497, 2147483489, 2147483477, 2147483423, 2147483399, 2147483353, 2147483323].map V.int) (i % 13) = some (.int pr) ∧ 0 < pr ∧ pr < 2147483647 := fun i hi => by
      have h1 : 0 ≤ i % 13 := Int.emod_nonneg _ (by decide)
      have h2 : i % 13 < 13 := Int.emod_lt_of_pos _ (by decide)
      generalize i % 13 = k at h1 h2
      have hk : k = 0 ∨ k = 1 ∨ k = 2 ∨ k = 3 ∨ k = 4 ∨ k = 5 ∨ k = 6 ∨ k = 7 ∨ k = 8 ∨ k = 9 ∨ k = 10 ∨ k = 11 ∨ k = 12 := by omega
      rcases hk with rfl | rfl | rfl | rfl | rfl | rfl | rfl | rfl | rfl | rfl | rfl | rfl | rfl <;> exact ⟨_, rfl, by decide, by decide⟩
    obtain ⟨q1, a1, b1, c1⟩ := prime a h0
    obtain ⟨q2, a2, b2, c2⟩ := prime (a + 5) (by omega)
    obtain ⟨q3, a3, b3, c3⟩ := prime (a + 7) (by omega)
    have u0 : 0 ≤ c % 1000000007 := Int.emod_nonneg _ (by decide)
    have u1 : c % 1000000007 < 1000000007 := Int.emod_lt_of_pos _ (by decide)
    have v0 : 0 ≤ c % 65537 := Int.emod_nonneg _ (by decide)
    have v1 : c % 65537 < 65537 := Int.emod_lt_of_pos _ (by decide)
    have e1 : 0 ≤ c % 1000000007 * (2 * a + 69069) := Int.mul_nonneg u0 (by omega)
    have e2 : c % 1000000007 * (2 * a + 69069) ≤ 1000000007 * (2 * L + 69069) := Int.mul_le_mul (by omega) (by omega) (by omega) (by omega)
    -- one
    refine ⟨_, rfl, _, _, rfl, rfl, (by show (0 : Int) < _; decide), _, rfl, _, _, rfl, rfl, .inl ⟨by decide, by decide⟩, _, _, rfl, rfl, _, _, rfl, rfl, .inl ⟨by omega, by omega⟩, _, rfl, _, _, rfl, rfl, .inr ⟨by decide, by decide⟩, _, _, rfl, rfl, _, _, rfl, rfl, _, _, rfl, rfl, ⟨by decide, by decide, ls (by omega) (by omega)⟩,
      _, rfl, _, rfl, _, _, rfl, rfl, (by show (0 : Int) < _; decide), _, _, _, _, rfl, rfl, hL, a1, _, _, rfl, rfl, b1, ?_⟩
    have w0 : 0 ≤ (c % 1000000007 * (2 * a + 69069) + a * 40503 + 977) ^ 3 % q1 := Int.emod_nonneg _ (by omega)
    have w1 : (c % 1000000007 * (2 * a + 69069) + a * 40503 + 977) ^ 3 % q1 < q1 := Int.emod_lt_of_pos _ b1
    dsimp only [Int.reduceToNat]
    generalize (c % 1000000007 * (2 * a + 69069) + a * 40503 + 977) ^ 3 % q1 = o1 at w0 w1 ⊢
    have e3 : 0 ≤ o1 * (a + 3) := Int.mul_nonneg w0 (by omega)
    have e4 : o1 * (a + 3) ≤ 2147483647 * (L + 3) := Int.mul_le_mul (by omega) (by omega) (by omega) (by omega)
    -- two
    refine ⟨_, rfl, _, rfl, _, _, rfl, rfl, _, _, rfl, rfl, .inl ⟨by omega, by omega⟩, _, rfl, _, _, rfl, rfl, (by show (0 : Int) < _; decide), _, _, rfl, rfl, _, _, rfl, rfl, _, _, rfl, rfl, ⟨by decide, by decide, ls (by omega) (by omega)⟩,
      _, rfl, _, rfl, _, _, rfl, rfl, _, _, rfl, rfl, (by show (0 : Int) < _; decide), _, _, _, _, rfl, rfl, hL, a2, _, _, rfl, rfl, b2, ?_⟩
    have w2 : 0 ≤ (o1 * (a + 3) + c % 65537 + 5) ^ 5 % q2 := Int.emod_nonneg _ (by omega)
    have w3 : (o1 * (a + 3) + c % 65537 + 5) ^ 5 % q2 < q2 := Int.emod_lt_of_pos _ b2
    dsimp only [Int.reduceToNat]
    generalize (o1 * (a + 3) + c % 65537 + 5) ^ 5 % q2 = o2 at w2 w3 ⊢
    have x0 : 0 ≤ o1 % 1009 := Int.emod_nonneg _ (by decide)
    have x1 : o1 % 1009 < 1009 := Int.emod_lt_of_pos _ (by decide)
    -- three
    refine ⟨_, rfl, _, rfl, _, _, rfl, rfl, (by show (0 : Int) < _; decide), _, _, rfl, rfl, _, rfl, _, _, rfl, rfl, _, _, rfl, rfl, ⟨by decide, by decide, ls (by omega) (by omega)⟩,
      _, rfl, _, rfl, _, _, rfl, rfl, _, _, rfl, rfl, (by show (0 : Int) < _; decide), _, _, _, _, rfl, rfl, hL, a3, _, _, rfl, rfl, b3, ?_⟩
    have w4 : 0 ≤ (o2 + o1 % 1009 + a) ^ 3 % q3 := Int.emod_nonneg _ (by omega)
    dsimp only [Int.reduceToNat]
    generalize (o2 + o1 % 1009 + a) ^ 3 % q3 = o3 at w4 ⊢
    -- the answer
    refine ⟨_, rfl, _, _, rfl, rfl, .inr ⟨by decide, by decide⟩, _, rfl, _, _, rfl, rfl, _, _, rfl, rfl, .inr ⟨by decide, by decide⟩, _, rfl, _, _, rfl, rfl, ?_⟩
    exact q _ H3 (by omega) sH
theorem ok__law_open (T : Tx w K mg) : Ok P w K mg base 1 "_law_open" ["_law_script"] (spOpen K) := by
  refine Ok.mk T.d__law_open sc__law_open (fun vs H Q E h => ?_) (fun f cdv A outer s H vs Q E hr h => ?_)
  · obtain ⟨a, ns, rfl, _⟩ := h
    rfl
  obtain ⟨a, ns, rfl, hS, hl, q⟩ := h
  refine ⟨_, (pss_cons (ps_set (i := 1) sc__law_open.nd rfl (Or.inl rfl) (pe_callTy (listQ K rfl) (by rfl) T.z_list (by decide +kernel) (pa_cons (pe_slice (slL K rfl) (pv 0) po_none (po_some (pe_int))) (pa_nil))))
 (pss_cons (ps_for PassesOwn.never rfl (piE K rfl (by rfl) T.z_enumerate (pa_cons (pe_slice (slL K rfl) (pv 0) (po_some (pe_int)) (po_some (pe_int))) (pa_nil))) (pgT K rfl 2 rfl (pgs_cons (pg_nameL (i := 2) sc__law_open.nd rfl rfl) (pgs_cons (pg_nameL (i := 3) sc__law_open.nd rfl rfl) (pgs_nil))))
 (pss_one (ps_asg (pe_op op_add (pe_ix (ixL K rfl) (pv 1) (pe_op op_mod (pv 2) (pe_int)) (fun _ _ => rfl)) (pv 3)) (pg_sub (pv 1) (pe_op op_mod (pv 2) (pe_int)) set_list))))
 (pss_one (ps_ret (pe_lst (pa_cons (pv 1) (pa_cons (pe_int) (pa_cons (pe_int) (pa_nil))))))))), ?_⟩
  -- cells = list(script[:12])
  refine ⟨.ref a, rfl, _, rfl, a, ns.map V.int, rfl, hS, fun t1 n1 => ?_⟩
  have s1 := same_upd (o := .lst (cutV (ns.map V.int) none (some 12))) n1
  refine ⟨t1, _, rfl, .inl (SqL.of upd_same), fun c n2 => ?_⟩
  have s2 := same_upd (o := .lst (cutV (ns.map V.int) none (some 12))) n2
  have e12 : cutV (ns.map V.int) none (some 12) = (ns.take 12).map V.int := by
    rw [show (12 : Int) = ((12 : Nat) : Int) from rfl, cut_take, List.map_take]
  have sH := s1.trans s2
  have hc : upd (upd H t1 (.lst (cutV (ns.map V.int) none (some 12)))) c (.lst (cutV (ns.map V.int) none (some 12))) c = some (.lst ((ns.take 12).map V.int)) := by rw [upd_same, e12]
  have nc : H c = none := s1.free n2
  generalize upd (upd H t1 (.lst (cutV (ns.map V.int) none (some 12)))) c (.lst (cutV (ns.map V.int) none (some 12))) = H2 at sH hc ⊢
  -- the loop
  refine ⟨.ref a, rfl, _, rfl, _, rfl, a, ns.map V.int, rfl, sH.seq hS, fun t2 n3 => ?_⟩
  have e63 : cutV (ns.map V.int) (some 12) (some 63) = (ns.drop 12).map V.int := by
    rw [show (12 : Int) = ((12 : Nat) : Int) from rfl, show (63 : Int) = ((63 : Nat) : Int) from rfl, cut_drop _ _ _ (by decide), List.take_of_length_le (by rw [List.length_map]; exact hl), List.map_drop]
  rw [e63]
  have s3 := same_upd (o := .lst ((ns.drop 12).map V.int)) n3
  refine ⟨t2, (ns.drop 12).map V.int, rfl, SqL.of upd_same, for_it (walk_enum (K := K) (a := t2) (xs := (ns.drop 12).map V.int)) (fun i σ H3 => ∃ y2 y3 cs, σ = [some (.ref a), some (.ref c), y2, y3] ∧ But c H2 H3 ∧ H3 t2 = some (.lst ((ns.drop 12).map V.int)) ∧ H3 c = some (.lst (cs.map V.int)) ∧ (cs : List Int).length = (ns.take 12).length) ?_ ?_ ?_ ?_⟩
  · exact ⟨none, none, ns.take 12, rfl, But.of s3, upd_same, s3 _ _ hc, rfl⟩
  · rintro i σ H3 _ ⟨y2, y3, cs, _, _, h2, _⟩
    exact SqL.of h2
  · rintro i x σ H3 H4 hi ⟨y2, y3, cs, rfl, bt, h2, h3, hlc⟩ ⟨t, x1, x2, rfl, nt, rfl, z1, z2⟩
    cases z1
    have z2 : ((ns.drop 12).map V.int)[i]? = some x2 := z2
    have hx : ∃ m : Int, x2 = .int m := by
      rw [List.getElem?_map] at z2
      cases z3 : (ns.drop 12)[i]? with
      | none => rw [z3] at z2; cases z2
      | some m => rw [z3] at z2; exact ⟨m, (Option.some.inj z2).symm⟩
    obtain ⟨m, rfl⟩ := hx
    have hlen : cs.length = 12 := by
      rw [hlc, List.length_take]
      rw [List.length_map, List.length_drop] at hi
      omega
    have k0 : (i : Int) % 12 = ((i % 12 : Nat) : Int) := by omega
    have k1 : i % 12 < cs.length := by omega
    have ntc : c ≠ t := ne_of_none h3 nt
    have h3t : upd H3 t (.tup [V.int (i : Nat), .int m]) c = some (.lst (cs.map V.int)) := by rw [upd_ne ntc]; exact h3
    have g1 : (cs.map V.int)[i % 12]? = some (.int cs[i % 12]) := by rw [List.getElem?_map, List.getElem?_eq_getElem k1]; rfl
    refine ⟨t, _, rfl, SqT.of upd_same, rfl, _, _, rfl, _, _, rfl, rfl, ?_⟩
    refine ⟨_, rfl, _, rfl, _, _, rfl, rfl, (by show (0 : Int) < _; decide), c, _, _, _, rfl, rfl, SqL.of h3t, atI_of _ k0 g1, _, rfl, _, _, rfl, rfl, _, rfl, _, rfl, _, _, rfl, rfl, (by show (0 : Int) < _; decide), c, _, _, _, rfl, rfl, h3t, ixN_of _ k0 (by rw [List.length_map]; exact k1), ?_⟩
    have nct2 : t2 ≠ c := (ne_of_none hc n3).symm
    refine ⟨some (.int (i : Nat)), some (.int m), cs.set (i % 12) (cs[i % 12] + m), rfl, bt.trans ((But.new nt).trans But.upd), ?_, ?_, ?_⟩
    · rw [upd_ne nct2, upd_ne (ne_of_none h2 nt)]; exact h2
    · rw [upd_same, List.map_set]
    · rw [List.length_set]; exact hlc
  · rintro σ H3 ⟨y2, y3, cs, rfl, bt, h2, h3, hlc⟩
    refine ⟨_, rfl, by show 3 ≤ sizeLine; decide, fun p np => ?_⟩
    have ncp : c ≠ p := ne_of_none h3 np
    have npH : H p = none := (show Same H H2 from sH).free ((bt.free (Ne.symm ncp) np))
    refine q p c _ (fun b o e => ?_) npH nc ⟨⟨0, 0, upd_same, by decide, by decide, by decide⟩, ⟨cs, by rw [upd_ne ncp]; exact h3⟩, ncp⟩
    rw [upd_ne (ne_of_none e npH)]
    exact bt _ _ (ne_of_none e nc) (sH _ _ e)
theorem ok__law_take (T : Tx w K mg) (O__law_spread : Ok P w K mg base 1 "_law_spread" ["_law_cell", "_law_at"] spSpread) : Ok P w K mg base 2 "_law_take" ["_law_pen", "_law_many"] spTake := by
  refine Ok.mk T.d__law_take sc__law_take (fun vs H Q E h => ?_) (fun f cdv A outer s H vs Q E hr h => ?_)
  · obtain ⟨p, c, n, m, rfl, _⟩ := h
    rfl
  obtain ⟨p, c, n, m, rfl, pe, hn, hm, hw, q⟩ := h
  obtain ⟨⟨a, r, ep, a0, a1, r0⟩, ⟨ns, ec⟩, ncp⟩ := pe
  refine ⟨_, (pss_cons (ps_if (pt_cmpR op_lt (pe_ix (ixL K rfl) (pv 0) (pe_int) (fun _ _ => rfl)) (pv 1) (nomark _))
 (pss_cons (ps_set (i := 2) sc__law_take.nd rfl (Or.inl rfl) (pe_ix (ixL K rfl) (pv 0) (pe_int) (fun _ _ => rfl)))
 (pss_cons (ps_set (i := 3) sc__law_take.nd rfl (Or.inl rfl) (pe_int))
 (pss_cons (ps_if (pt_cmpR op_lt (pv 2) (pe_callB (lenQ K rfl) (by rfl) T.z_len PySem.boot_len (pa_cons (pe_ix (ixL K rfl) (pv 0) (pe_int) (fun _ _ => rfl)) (pa_nil))) (nomark _))
 (pss_one (ps_set (i := 3) sc__law_take.nd rfl (Or.inl rfl) (pe_ix (ixL K rfl) (pe_ix (ixL K rfl) (pv 0) (pe_int) (fun _ _ => rfl)) (pv 2) (fun _ _ => rfl))))
 (pss_one (ps_if (pt_cmpR op_gt (pe_callB (lenQ K rfl) (by rfl) T.z_len PySem.boot_len (pa_cons (pe_ix (ixL K rfl) (pv 0) (pe_int) (fun _ _ => rfl)) (pa_nil))) (pe_int) (nomark _))
 (pss_one (ps_set (i := 3) sc__law_take.nd rfl (Or.inl rfl) (pe_op op_mod (pe_ix (ixL K rfl) (pe_ix (ixL K rfl) (pv 0) (pe_int) (fun _ _ => rfl)) (pe_op op_mod (pe_op op_add (pe_op op_mul (pv 2) (pe_int)) (pe_int)) (pe_callB (lenQ K rfl) (by rfl) T.z_len PySem.boot_len (pa_cons (pe_ix (ixL K rfl) (pv 0) (pe_int) (fun _ _ => rfl)) (pa_nil)))) (fun _ _ => rfl)) (pe_op op_add (pe_op op_powW (pe_int) (pe_int)) (pv 2)))))
 (pss_nil))))
 (pss_cons (ps_asg (pe_op op_add (pv 2) (pe_int)) (pg_sub (pv 0) (pe_int) set_list))
 (pss_one (ps_asg (pe_fn O__law_spread (hr.mono (by omega)) (by rfl) (pa_cons (pv 3) (pa_cons (pv 2) (pa_nil)))) (pg_sub (pv 0) (pe_int) set_list)))))))
 (pss_nil))
 (pss_cons (ps_set (i := 4) sc__law_take.nd rfl (Or.inl rfl) (pe_op op_mod (pe_ix (ixL K rfl) (pv 0) (pe_int) (fun _ _ => rfl)) (pv 1)))
 (pss_cons (ps_asg (pe_op op_fdivW (pe_ix (ixL K rfl) (pv 0) (pe_int) (fun _ _ => rfl)) (pv 1)) (pg_sub (pv 0) (pe_int) set_list))
 (pss_one (ps_ret (pv 4)))))), ?_⟩
  have fin : ∀ (σ2 σ3 : Option V) (H1 : Hp) (a' r' : Int), But p H H1 → H1 p = some (.lst [.ref c, .int a', .int r']) → 0 ≤ a' → a' ≤ ((n + 1 : Nat) : Int) → 0 ≤ r' →
      (tSeq (tAsg (tOp (rI (fun _ j => 0 < j) fun i j => .int (i % j)) (tOp (rIxL K) (tVar 0) (tC (.int 2))) (tVar 1)) (gName 4)) (tSeq (tAsg (tOp (rI CDivW fun i j => .int (i / j)) (tOp (rIxL K) (tVar 0) (tC (.int 2))) (tVar 1)) (gSub (tVar 0) (tC (.int 2)) rSetL)) (tRet (tVar 4))) { nx := fun _ H' => Q .non H', rt := Q } [some (.ref p), some (.int m), σ2, σ3, none] H1) := by
    intro σ2 σ3 H1 a' r' bt e1 z0 z1 z2
    refine ⟨_, rfl, p, _, _, _, rfl, rfl, SqL.of e1, atI_of 2 rfl rfl, _, rfl, _, _, rfl, rfl, hm, ?_⟩
    refine ⟨_, rfl, p, _, _, _, rfl, rfl, SqL.of e1, atI_of 2 rfl rfl, _, rfl, _, _, rfl, rfl, wide_div hm hw (by decide) (by decide), _, rfl, p, _, _, _, rfl, rfl, e1, ixN_of 2 rfl (by show 2 < 3; decide), ?_⟩
    refine ⟨_, rfl, q _ _ (Int.emod_nonneg _ (by omega)) (Int.emod_lt_of_pos _ hm) (bt.trans But.upd) ⟨⟨a', r' / m, upd_same, z0, z1, Int.ediv_nonneg z2 (by omega)⟩, ⟨ns, ?_⟩, ncp⟩⟩
    rw [upd_ne ncp]
    exact bt _ _ ncp ec
  refine ⟨_, rfl, p, _, _, _, rfl, rfl, SqL.of ep, atI_of 2 rfl rfl, _, rfl, _, _, rfl, rfl, _, rfl, ite2 (fun e => ?_) (fun e => ?_)⟩
  · refine ⟨_, rfl, p, _, _, _, rfl, rfl, SqL.of ep, atI_of 1 rfl rfl, ?_⟩
    have fin2 : ∀ (cell : Int), (tSeq (tAsg (tOp (rI0 fun i j => .int (i + j)) (tVar 2) (tC (.int 1))) (gSub (tVar 0) (tC (.int 1)) rSetL)) (tAsg (tCall spSpread [] E0 (tCons (tVar 3) (tCons (tVar 2) tNil))) (gSub (tVar 0) (tC (.int 2)) rSetL)) { nx := fun σ1 H1 => (tSeq (tAsg (tOp (rI (fun _ j => 0 < j) fun i j => .int (i % j)) (tOp (rIxL K) (tVar 0) (tC (.int 2))) (tVar 1)) (gName 4)) (tSeq (tAsg (tOp (rI CDivW fun i j => .int (i / j)) (tOp (rIxL K) (tVar 0) (tC (.int 2))) (tVar 1)) (gSub (tVar 0) (tC (.int 2)) rSetL)) (tRet (tVar 4))) { nx := fun _ H' => Q .non H', rt := Q } σ1 H1), rt := Q } [some (.ref p), some (.int m), some (.int a), some (.int cell), none] H) := by
      intro cell
      refine ⟨_, rfl, _, _, rfl, rfl, _, rfl, p, _, _, _, rfl, rfl, ep, ixN_of 1 rfl (by show 1 < 3; decide), ?_⟩
      refine ⟨_, rfl, _, rfl, cell, a, rfl, a0, by omega, fun r' H2 hr0 sm => ?_⟩
      refine ⟨_, rfl, p, _, _, _, rfl, rfl, sm _ _ upd_same, ixN_of 2 rfl (by show 2 < 3; decide), ?_⟩
      exact fin _ _ _ (a + 1) r' (But.upd.trans ((But.of sm).trans But.upd)) upd_same (by omega) (by omega) hr0
    refine ⟨_, rfl, _, rfl, p, _, _, _, rfl, rfl, SqL.of ep, atI_of 0 rfl rfl, c, _, rfl, .inl (SqL.of ec), _, _, rfl, rfl, _, rfl, ite2 (fun e1 => ?_) (fun e1 => ?_)⟩
    · have e1 := of_decide_eq_true e1
      rw [List.length_map] at e1
      have k1 : a.toNat < ns.length := by omega
      have g1 : (ns.map V.int)[a.toNat]? = some (.int ns[a.toNat]) := by rw [List.getElem?_map, List.getElem?_eq_getElem k1]; rfl
      refine ⟨_, rfl, p, _, _, _, rfl, rfl, SqL.of ep, atI_of 0 rfl rfl, _, rfl, c, _, _, _, rfl, rfl, SqL.of ec, atI_of a.toNat (by omega) g1, ?_⟩
      exact fin2 _
    · refine ⟨_, rfl, p, _, _, _, rfl, rfl, SqL.of ep, atI_of 0 rfl rfl, c, _, rfl, .inl (SqL.of ec), _, _, rfl, rfl, _, rfl, ite2 (fun e2 => ?_) (fun e2 => ?_)⟩
      · have e2 := of_decide_eq_true e2
        rw [List.length_map] at e2
        have k0 : 0 ≤ (a * 5 + 3) % (ns.length : Int) := Int.emod_nonneg _ (by omega)
        have k1 : (a * 5 + 3) % (ns.length : Int) < ns.length := Int.emod_lt_of_pos _ e2
        have k2 : ((a * 5 + 3) % (ns.length : Int)).toNat < ns.length := by omega
        have g1 : (ns.map V.int)[((a * 5 + 3) % (ns.length : Int)).toNat]? = some (.int ns[((a * 5 + 3) % (ns.length : Int)).toNat]) := by rw [List.getElem?_map, List.getElem?_eq_getElem k2]; rfl
        refine ⟨_, rfl, p, _, _, _, rfl, rfl, SqL.of ep, atI_of 0 rfl rfl, _, rfl, _, _, rfl, rfl, .inr ⟨by decide, by decide⟩, _, _, rfl, rfl, _, rfl, p, _, _, _, rfl, rfl, SqL.of ep, atI_of 0 rfl rfl, c, _, rfl, .inl (SqL.of ec), _, _, rfl, rfl, by rw [List.length_map]; exact e2, c, _, _, _, rfl, rfl, SqL.of ec, atI_of _ (by rw [List.length_map]; omega) g1, _, _, rfl, rfl, ⟨by decide, by decide, lim_small (by decide) (by have := pen100; omega)⟩, _, rfl, _, _, rfl, rfl, _, _, rfl, rfl, ?_, ?_⟩
        · show (0 : Int) < 10 ^ (17 : Int).toNat + a
          have : (0 : Int) < 10 ^ (17 : Int).toNat := by decide
          omega
        · exact fin2 _
      · exact fin2 _
  · exact fin none none H a r (But.refl p H) ep a0 (by omega) r0
end

/-! ### texts and tests -/
open TL (tl)
open TL (numL joinL)
abbrev Sg (l : List Nat) : Str := ⟨l.toArray⟩
theorem tl_e : tl (Str.ofString "") = [] := by decide +kernel
theorem tl_small : tl (Str.ofString "abcdefghijklmnopqrstuvwxyz") = (List.range 26).map (97 + ·) := by decide +kernel
def ones (cs : List Nat) : List D := cs.map fun c => .str ⟨#[c]⟩
theorem strs_ones : ∀ cs : List Nat, strsOf (ones cs) = some (cs.map fun c => ⟨#[c]⟩)
  | [] => rfl
  | c :: cs => by
    show (strsOf (ones cs)).map _ = _
    rw [strs_ones cs]
    rfl
theorem joinL_nil : ∀ xs : List (List Nat), joinL [] xs = xs.flatten
  | [] => rfl
  | [x] => by simp [joinL]
  | x :: y :: r => by
    show x ++ ([] ++ joinL [] (y :: r)) = _
    rw [joinL_nil (y :: r)]
    simp
theorem join_ones (cs : List Nat) : Txt.join (Str.ofString "") (cs.map fun c => ⟨#[c]⟩) = Sg cs := by
  have h := SX.join_S [] (cs.map fun c => [c])
  rw [List.map_map, joinL_nil] at h
  have e : ∀ cs : List Nat, (cs.map fun c => [c]).flatten = cs := by
    intro cs
    induction cs with
    | nil => rfl
    | cons c cs ih => rw [List.map_cons, List.flatten_cons, ih]; rfl
  rw [e] at h
  have e2 : (Str.ofString "") = SX.S [] := TL.ext_tl tl_e
  rw [e2]
  exact h
theorem ones_sum (cs : List Nat) : ((cs.map fun c => (⟨#[c]⟩ : Str)).map (·.length)).sum = cs.length := by
  have e : (cs.map fun c => (⟨#[c]⟩ : Str)).map (·.length) = cs.map fun _ => 1 := by rw [List.map_map]; rfl
  rw [e]
  induction cs with
  | nil => rfl
  | cons c cs ih =>
    rw [List.map_cons, List.sum_cons, List.length_cons]
    have := ih (by rw [List.map_map]; rfl)
    omega
theorem in_textD {x : Str} {c : Nat} {Q : Bool → Prop} (h : Q (decide (c ∈ tl x))) : Q (xor false (!(Builtin.Str.occurrences x ⟨#[c]⟩ 0 x.length 1).isEmpty)) := by
  rw [Bool.false_xor, StrLaws.found_one]
  exact h
theorem cutS_to (l : List Nat) (j : Nat) : cutS (Sg l) none (some (j : Int)) = Sg (l.take j) := by
  unfold cutS
  rw [HT.sIx_none, HT.sIx_nat, TL.len_tl]
  refine congrArg Sg ?_
  show List.take _ (List.drop 0 l) = _
  rw [List.drop_zero, Nat.sub_zero]
  show List.take (min j l.length) l = _
  rcases Nat.le_total j l.length with h | h
  · rw [Nat.min_eq_left h]
  · rw [Nat.min_eq_right h, List.take_of_length_le (Nat.le_refl _), List.take_of_length_le h]
theorem cutS_from (l : List Nat) (j : Nat) (h : j ≤ l.length) : cutS (Sg l) (some (j : Int)) none = Sg (l.drop j) := by
  unfold cutS
  rw [HT.sIx_none, HT.sIx_nat, TL.len_tl]
  refine congrArg Sg ?_
  show List.take (l.length - min j l.length) (List.drop (min j l.length) l) = _
  rw [Nat.min_eq_left h]
  exact List.take_of_length_le (by rw [List.length_drop]; omega)
theorem sg_app (a b : List Nat) : (Sg a ++ Sg b : Str) = Sg (a ++ b) := by
  refine TL.ext_tl ?_
  rw [TL.tl_append]
theorem sg_len (a : List Nat) : (Sg a : Str).length = a.length := TL.len_tl _
theorem sg_tl (z : Str) : Sg (tl z) = z := TL.ext_tl rfl
theorem ite_either {b : Bool} {A B : Prop} (h1 : b = true → A) (h2 : b = false → B) : if b = true then A else B := by
  cases b with
  | true => exact h1 rfl
  | false => exact h2 rfl
/-! a test's worth, an expression's -/
def Tst (t : DB) (s : S) (b : Bool) : Prop := ∀ Q : Bool → S → Prop, Q b s → t s Q
def Exv (t : DT) (s : S) (d : D) : Prop := ∀ Q : D → S → Prop, Q d s → t s Q
theorem tst_and {a b : DB} {s : S} {x y : Bool} (h1 : Tst a s x) (h2 : x = true → Tst b s y) : Tst (dAnd a b) s (x && y) := fun Q q => h1 _ (by
  cases x with
  | true => exact ifp rfl (h2 rfl _ q)
  | false => exact ifn Bool.false_ne_true q)
theorem tst_or {a b : DB} {s : S} {x y : Bool} (h1 : Tst a s x) (h2 : x = false → Tst b s y) : Tst (dOr a b) s (x || y) := fun Q q => h1 _ (by
  cases x with
  | true => exact ifp rfl q
  | false => exact ifn Bool.false_ne_true (h2 rfl _ q))
theorem tst_not {a : DB} {s : S} {x : Bool} (h1 : Tst a s x) : Tst (dNot a) s (!x) := fun Q q => h1 _ q
theorem tst_ex {t : DT} {s : S} {b : Bool} (h : Exv t s (.bool b)) : Tst (dBl t) s b := fun Q q => h _ q
theorem exv_and {a b : DT} {s : S} {x y : Bool} (h1 : Exv a s (.bool x)) (h2 : x = true → Exv b s (.bool y)) : Exv (dAndV a b) s (.bool (x && y)) := fun Q q => h1 _ (by
  cases x with
  | true => exact h2 rfl _ q
  | false => exact q)
theorem exv_or {a b : DT} {s : S} {x y : Bool} (h1 : Exv a s (.bool x)) (h2 : x = false → Exv b s (.bool y)) : Exv (dOrV a b) s (.bool (x || y)) := fun Q q => h1 _ (by
  cases x with
  | true => exact q
  | false => exact h2 rfl _ q)
theorem exv_not {a : DT} {s : S} {x : Bool} (h1 : Exv a s (.bool x)) : Exv (dNotV a) s (.bool (!x)) := fun Q q => h1 _ q
theorem exv_if {c : DB} {a b : DT} {s : S} {k : Bool} {d : D} (h : Tst c s k) (h1 : k = true → Exv a s d) (h2 : k = false → Exv b s d) : Exv (dIf c a b) s d := fun Q q => h _ (by
  cases k with
  | true => exact ifp rfl (h1 rfl _ q)
  | false => exact ifn Bool.false_ne_true (h2 rfl _ q))
theorem exv_chain {a b c : DT} {f g : Int → Int → Bool} {s : S} {i j k : Int} (ha : Exv a s (.int i)) (hb : Exv b s (.int j)) (hc : Exv c s (.int k)) : Exv (dChain (cmpD f) (cmpD g) a b c) s (.bool (f i j && g j k)) := fun Q q => ha _ (hb _ (by
  show (cmpD f (.int i) (.int j) _)
  simp only [cmpD]
  cases h : f i j with
  | true => rw [h] at q; exact hc _ (by simp only [cmpD]; exact q)
  | false => rw [h] at q; exact q))
/-- if t: a (which leaves), then the rest -/
theorem seqIf {t : DB} {a r : DSt} {E : DEnds} {s : S} {b : Bool} (h : Tst t s b) (h1 : b = true → a { E with nx := r E } s) (h2 : b = false → r E s) : dSeq (dIfS t a dNext) r E s := h _ (by
  cases b with
  | true => exact ifp rfl (h1 rfl)
  | false => exact ifn Bool.false_ne_true (h2 rfl))
theorem ifS {t : DB} {a r : DSt} {E : DEnds} {s : S} {b : Bool} (h : Tst t s b) (h1 : b = true → a E s) (h2 : b = false → r E s) : dIfS t a r E s := h _ (by
  cases b with
  | true => exact ifp rfl (h1 rfl)
  | false => exact ifn Bool.false_ne_true (h2 rfl))
theorem retS {t : DT} {E : DEnds} {s : S} {d : D} (h : Exv t s d) (q : E.rt d s) : dRet t E s := h _ q
theorem boolsOf_map : ∀ bs : List Bool, boolsOf (bs.map PyData.bool) = some bs
  | [] => rfl
  | b :: bs => by
    show (boolsOf (bs.map PyData.bool)).map _ = _
    rw [boolsOf_map bs]
    rfl
theorem all_ok {bs : List Bool} {Q : D → Prop} (q : Q (.bool (bs.all id))) : allD [.list (bs.map PyData.bool)] Q := by
  exact ⟨bs, boolsOf_map bs, q⟩
/-! comprehensions with one name -/
theorem lc1 {i : Nat} {e : DT} {vs : List Nat} {Q : List D → S → Prop} {items : List D} (Inv : Nat → List D → S → Prop) {s : S} (h0 : Inv 0 [] s)
    (step : ∀ j d acc s (N : List D → S → Prop), items[j]? = some d → Inv j acc s → (∀ acc' s', Inv (j + 1) acc' s' → N acc' s') → e { s with δ := s.δ.set i (some d) } fun y s3 => N (acc ++ [y]) (wipeS s3 vs))
    (fin : ∀ acc s, Inv items.length acc s → Q acc s) : lcD (sName i) dYes e vs Q items [] s :=
  lcD_ind Inv h0 (fun j d acc s N hd hi hN => step j d acc s N hd hi hN) fin
theorem lc1if {i : Nat} {c : DB} {e : DT} {vs : List Nat} {Q : List D → S → Prop} {items : List D} (Inv : Nat → List D → S → Prop) {s : S} (h0 : Inv 0 [] s)
    (step : ∀ j d acc s (N : List D → S → Prop), items[j]? = some d → Inv j acc s → (∀ acc' s', Inv (j + 1) acc' s' → N acc' s') → c { s with δ := s.δ.set i (some d) } fun k s2 => if k = true then e s2 fun y s3 => N (acc ++ [y]) (wipeS s3 vs) else N acc (wipeS s2 vs))
    (fin : ∀ acc s, Inv items.length acc s → Q acc s) : lcD (sName i) c e vs Q items [] s :=
  lcD_ind Inv h0 (fun j d acc s N hd hi hN => step j d acc s N hd hi hN) fin
theorem orV_ok {a b : DT} {s : S} {x y : Bool} {Q : D → S → Prop} (h1 : Exv a s (.bool x)) (h2 : x = false → Exv b s (.bool y)) (q : Q (.bool (x || y)) s) : dOrV a b s Q := exv_or h1 h2 Q q
theorem andV_ok {a b : DT} {s : S} {x y : Bool} {Q : D → S → Prop} (h1 : Exv a s (.bool x)) (h2 : x = true → Exv b s (.bool y)) (q : Q (.bool (x && y)) s) : dAndV a b s Q := exv_and h1 h2 Q q
theorem seqPar {i j : Nat} {a : DA} {r : DSt} {E : DEnds} {s : S} {d e : D} (h : ∀ Q : List D → S → Prop, Q [d, e] s → a s Q) (k : r E { s with δ := (s.δ.set i (some d)).set j (some e) }) : dSeq (dPar i j a) r E s := h _ k
theorem seqSet {i : Nat} {a : DT} {r : DSt} {E : DEnds} {s : S} {d : D} (h : Exv a s d) (k : r E { s with δ := s.δ.set i (some d) }) : dSeq (dSet i a) r E s := h _ k

/-! ### forms: sort_of, kinds_of, is_whole, is_name, is_letter -/
open TL (tl)
theorem findT_mem {z : Str} {d : D} : ∀ {tab : List (Str × D)}, findT tab z = some d → (z, d) ∈ tab
  | (k, e) :: r, h => by
    by_cases hk : k = z
    · subst hk
      have : some e = some d := by rw [← h]; exact (if_pos rfl).symm
      cases this
      exact List.mem_cons_self ..
    · exact List.mem_cons_of_mem _ (findT_mem (by rw [← h]; exact (if_neg hk).symm))
def twoStr : D → Bool
  | .tuple [.str _, .str _] => true
  | _ => false
theorem forms_two {z : Str} {d : D} (h : findT tab_FORMS z = some d) : ∃ a b : Str, d = .tuple [.str a, .str b] := by
  have ha : (tab_FORMS.all fun p => twoStr p.2) = true := by decide +kernel
  have h2 := List.all_eq_true.mp ha _ (findT_mem h)
  dsimp only at h2
  unfold twoStr at h2
  split at h2
  · exact ⟨_, _, rfl⟩
  · cases h2
def pairT (w : Str) : Str × Str := match findT tab_FORMS w with
  | some (.tuple [.str a, .str b]) => (a, b)
  | _ => (Str.ofString "", Str.ofString "")
def sortOf : D → Str
  | .str w => (pairT w).1
  | _ => Str.ofString ""
def kindsOf : D → Str
  | .str w => (pairT w).2
  | _ => Str.ofString ""
def sortF : DF := fun ds Q => ∃ d, ds = [d] ∧ Q (.str (sortOf d))
def kindsF : DF := fun ds Q => ∃ d, ds = [d] ∧ Q (.str (kindsOf d))
section
variable {P : Program} {w : World} {K : PySem.W.Frag} {mg : Str → Option Value} {base : Heap}
theorem tab_pick {w : Str} {Q : D → Prop} (j : Nat) (x : Str) (e : ∀ a b : Str, pairT w = (a, b) → findT tab_FORMS w = some (.tuple [.str a, .str b]) → [PyData.str a, .str b][j]? = some (.str x)) (n : findT tab_FORMS w = none → x = Str.ofString "") (q : Q (.str x)) :
    if (findT tab_FORMS w).isSome = true then IxP (findT tab_FORMS w) fun d => (match d with | .tuple ds => IxP (atI ds (j : Int)) Q | _ => False) else Q (.str (Str.ofString "")) := by
  cases h : findT tab_FORMS w with
  | none => rw [n h] at q; exact ifn (by simp) q
  | some d =>
    obtain ⟨a, b, rfl⟩ := forms_two h
    refine ifp rfl ⟨_, rfl, ix_ok j rfl (e a b (by unfold pairT; rw [h]) h) q⟩
theorem ok_sort_of (T : Tx w K mg) : Ok P w K mg base 1 "sort_of" ["word"] (spN K 1 .E sortF) := by
  refine Ok.ofN (M := []) T.d_sort_of sc_sort_of rfl (by decide) fun f cdv A outer s H E hr => ⟨_, _, (pss_one (ps_ret (pe_ifExp (PW.pt (pw_and (pt_val (pe_callB (isiK K rfl) (by rfl) T.z_isinstance boot_isi (pa_cons (pv 0) (pa_cons (pe_bltn (v := .ty "str") (by rfl) T.z_str boot_str rfl) pa_nil)))) (pw_and1 (pt_cmpR (inTab T.t_FORMS) (pv 0) (pe_tab (by rfl) T.t_FORMS) (by rfl))))) (pe_ix (ixG K rfl (u65 hr.toRoom)) (pe_ix ixTab (pe_tab (by rfl) T.t_FORMS) (pv 0) (fun _ _ => rfl)) (pe_int) (fun _ _ => rfl)) (pe_str)))),
 (simS_ret (Sim.toE (sim_if (simT_and (simT_B (sim_isi .str (sim_var 0 (nm rfl)))) (simT_test (sim_tabIn false T.t_FORMS (sim_var 0 (nm rfl))))) (Sim.toE (opA_ix (sim_tabGet T.t_FORMS (sim_var 0 (nm rfl))) (sim_int _))) (Sim.toE (sim_str _))))), ?_⟩
  rintro ds Q hl ⟨d, rfl, q⟩
  cases d <;> first | exact q | skip
  rename_i x
  cases h : findT tab_FORMS x with
  | none =>
    have q : Q (.str (pairT x).1) := q
    have e : pairT x = (Str.ofString "", Str.ofString "") := by unfold pairT; rw [h]
    rw [e] at q
    show (if (xor false (findT tab_FORMS x).isSome) = true then _ else _)
    rw [h]
    exact ifn (by simp) q
  | some d =>
    obtain ⟨a, b, rfl⟩ := forms_two h
    have q : Q (.str (pairT x).1) := q
    have e : pairT x = (a, b) := by unfold pairT; rw [h]
    rw [e] at q
    show (if (xor false (findT tab_FORMS x).isSome) = true then IxP (findT tab_FORMS x) _ else _)
    rw [h]
    exact ifp rfl ⟨_, rfl, ix_ok 0 rfl rfl q⟩
theorem ok_kinds_of (T : Tx w K mg) : Ok P w K mg base 1 "kinds_of" ["word"] (spN K 1 .E kindsF) := by
  refine Ok.ofN (M := []) T.d_kinds_of sc_kinds_of rfl (by decide) fun f cdv A outer s H E hr => ⟨_, _, (pss_one (ps_ret (pe_ifExp (PW.pt (pw_and (pt_val (pe_callB (isiK K rfl) (by rfl) T.z_isinstance boot_isi (pa_cons (pv 0) (pa_cons (pe_bltn (v := .ty "str") (by rfl) T.z_str boot_str rfl) pa_nil)))) (pw_and1 (pt_cmpR (inTab T.t_FORMS) (pv 0) (pe_tab (by rfl) T.t_FORMS) (by rfl))))) (pe_ix (ixG K rfl (u65 hr.toRoom)) (pe_ix ixTab (pe_tab (by rfl) T.t_FORMS) (pv 0) (fun _ _ => rfl)) (pe_int) (fun _ _ => rfl)) (pe_str)))),
 (simS_ret (Sim.toE (sim_if (simT_and (simT_B (sim_isi .str (sim_var 0 (nm rfl)))) (simT_test (sim_tabIn false T.t_FORMS (sim_var 0 (nm rfl))))) (Sim.toE (opA_ix (sim_tabGet T.t_FORMS (sim_var 0 (nm rfl))) (sim_int _))) (Sim.toE (sim_str _))))), ?_⟩
  rintro ds Q hl ⟨d, rfl, q⟩
  cases d <;> first | exact q | skip
  rename_i x
  cases h : findT tab_FORMS x with
  | none =>
    have q : Q (.str (pairT x).2) := q
    have e : pairT x = (Str.ofString "", Str.ofString "") := by unfold pairT; rw [h]
    rw [e] at q
    show (if (xor false (findT tab_FORMS x).isSome) = true then _ else _)
    rw [h]
    exact ifn (by simp) q
  | some d =>
    obtain ⟨a, b, rfl⟩ := forms_two h
    have q : Q (.str (pairT x).2) := q
    have e : pairT x = (a, b) := by unfold pairT; rw [h]
    rw [e] at q
    show (if (xor false (findT tab_FORMS x).isSome) = true then IxP (findT tab_FORMS x) _ else _)
    rw [h]
    exact ifp rfl ⟨_, rfl, ix_ok 1 rfl rfl q⟩
end

/-! ### is_whole, is_name, is_letter -/
def isWhole : D → Bool
  | .int _ => true
  | _ => false
def kept : List Str := [Str.ofString "left", Str.ofString "given", Str.ofString "own"]
def isName : D → Bool
  | .str z => !(kept.contains z) && (decide (1 ≤ z.length) && decide (z.length ≤ 8)) && (tl z).all fun c => decide (c ∈ tl (Str.ofString "abcdefghijklmnopqrstuvwxyz"))
  | _ => false
def isLetter (row : Bool) : D → Bool
  | .int i => decide (0 ≤ i)
  | .str z => isName (.str z) || (decide (z = Str.ofString "given") || (!row && kept.contains z))
  | _ => false
def strS : D → Prop
  | .str z => z.length ≤ 1000000
  | _ => True
def wholeF : DF := fun ds Q => ∃ d, ds = [d] ∧ Q (.bool (isWhole d))
def nameF : DF := fun ds Q => ∃ d, ds = [d] ∧ strS d ∧ Q (.bool (isName d))
def letterF : DF := fun ds Q => ∃ d b, ds = [d, .bool b] ∧ strS d ∧ Q (.bool (isLetter b d))
theorem in_kept {z : Str} : ([PyData.str (Str.ofString "left"), .str (Str.ofString "given"), .str (Str.ofString "own")].any fun x => eqF x (.str z)) = kept.contains z := by
  simp only [List.any_cons, List.any_nil, eqF, kept, List.contains_cons, List.contains_nil, Bool.or_false]
  have e : ∀ a b : Str, (a == b) = (b == a) := fun a b => by
    rw [Bool.eq_iff_iff, beq_iff_eq, beq_iff_eq]
    exact eq_comm
  rw [e, e (Str.ofString "given"), e (Str.ofString "own")]
theorem signs_get {z : Str} {i : Nat} {d : D} (h : (signs z)[i]? = some d) : ∃ c, (tl z)[i]? = some c ∧ d = .str ⟨#[c]⟩ := by
  unfold signs at h
  rw [List.getElem?_map] at h
  cases e : z.cps.toList[i]? with
  | none => rw [e] at h; cases h
  | some c => rw [e] at h; exact ⟨c, rfl, (Option.some.inj h).symm⟩
theorem signs_len (z : Str) : (signs z).length = (tl z).length := by unfold signs; rw [List.length_map]
theorem map_take {α β : Type} {f : α → β} {l : List α} {i : Nat} {a : α} (h : l[i]? = some a) : (l.take (i + 1)).map f = (l.take i).map f ++ [f a] := by
  rw [List.take_add_one, h, List.map_append]
  rfl
section
variable {P : Program} {w : World} {K : PySem.W.Frag} {mg : Str → Option Value} {base : Heap}
theorem ok_is_whole (T : Tx w K mg) : Ok P w K mg base 1 "is_whole" ["thing"] (spN K 1 .E wholeF) := by
  refine Ok.ofN (M := []) T.d_is_whole sc_is_whole rfl (by decide) fun f cdv A outer s H E hr => ⟨_, _, (pss_one (ps_ret (pe_and (pe_callB (isiK K rfl) (by rfl) T.z_isinstance boot_isi (pa_cons (pv 0) (pa_cons (pe_bltn (v := .ty "int") (by rfl) T.z_int boot_int rfl) pa_nil))) (pe_one (pe_not (pe_callB (isiK K rfl) (by rfl) T.z_isinstance boot_isi (pa_cons (pv 0) (pa_cons (pe_bltn (v := .ty "bool") (by rfl) T.z_bool boot_bool rfl) pa_nil)))))))),
 (simS_ret (Sim.toE (sim_andV (sim_isi .int (sim_var 0 (nm rfl))) (sim_notV (sim_isi .bool (sim_var 0 (nm rfl))))))), ?_⟩
  rintro ds Q hl ⟨d, rfl, q⟩
  cases d <;> exact q
end

/-! ### has_form, is_part, is_term, is_row, is_plain -/
def inBy : D → Bool
  | .int i => decide (1 ≤ i) && decide (i ≤ 1000000000)
  | _ => false
def partB (rec : Str → D → Bool) (c : Nat) (p : D) : Bool :=
  if c = 116 then rec (Str.ofString "term") p else if c = 114 then rec (Str.ofString "row") p else if c = 112 then rec (Str.ofString "plain") p
  else if c = 120 ∨ c = 121 then isLetter (decide (c = 121)) p
  else if c = 97 then isName p
  else if c = 98 then (match p with
    | .tuple qs => qs.all fun q => rec (Str.ofString "term") q || rec (Str.ofString "row") q
    | _ => false)
  else isWhole p && (decide (c = 110) || inBy p)
def hf : Nat → Str → D → Bool
  | k + 1, s, .tuple (w :: ps) => decide (sortOf w = s) && (decide (ps.length = (tl (kindsOf w)).length) && ((tl (kindsOf w)).zip ps).all fun x => partB (hf k) x.1 x.2)
  | _, _, _ => false
/-- a tree that all these may look at -/
abbrev Ok1 (k : Nat) (d : D) : Prop := Bt k 1000000 d
def formF (k : Nat) : DF := fun ds Q => ∃ d s, ds = [d, .str s] ∧ s ≠ Str.ofString "" ∧ Ok1 k d ∧ Q (.bool (hf k s d))
def termF (k : Nat) (s : Str) : DF := fun ds Q => ∃ d, ds = [d] ∧ Ok1 k d ∧ Q (.bool (hf k s d))
def partF (k : Nat) : DF := fun ds Q => ∃ c d, ds = [.str ⟨#[c]⟩, d] ∧ Ok1 k d ∧ Q (.bool (partB (hf k) c d))
theorem one_is {c k : Nat} {x : Str} (h : tl x = [k]) : decide ((⟨#[c]⟩ : Str) = x) = decide (c = k) := by
  rw [Bool.eq_iff_iff, decide_eq_true_eq, decide_eq_true_eq]
  constructor
  · intro e
    have := congrArg tl e
    rw [h] at this
    have : [c] = [k] := this
    injection this
  · intro e
    refine TL.ext_tl ?_
    rw [h, e]
theorem Bt.strS {k t : Nat} {d : D} (h : Bt k t d) (l : t ≤ 1000000) : strS d := by
  cases d <;> first | trivial | skip
  have := h.t
  simp only [sz] at this
  show _ ≤ 1000000
  omega
theorem Bt.tlen {k t : Nat} {ds : List D} (h : Bt k t (.tuple ds)) : ds.length ≤ t := by
  have h1 := h.t
  simp only [sz] at h1
  have : ∀ ds : List D, ds.length ≤ szAll ds := by
    intro ds
    induction ds with
    | nil => exact Nat.le_refl _
    | cons d ds ih => simp only [szAll, List.length_cons]; omega
  have := this ds
  omega
theorem cut1 (d : D) (ds : List D) : cutD (d :: ds) (some 1) none = ds := by
  rw [show (1 : Int) = ((1 : Nat) : Int) from rfl, cutD_from (d :: ds) 1 (by simp)]
  rfl
theorem eq_nilT {ds : List D} : PyData.eqv (.tuple ds) (.tuple []) = ds.isEmpty := by
  cases ds with
  | nil => decide +kernel
  | cons d ds => simp [PyData.eqv, PyData.eqvAll]
section
variable {P : Program} {w : World} {K : PySem.W.Frag} {mg : Str → Option Value} {base : Heap}
end

/-! ### what is right in form; parts_of, gather, letters_of -/
theorem sort_ne {w : D} {s : Str} (h : sortOf w = s) (hs : s ≠ Str.ofString "") : ∃ x a b, w = .str x ∧ findT tab_FORMS x = some (.tuple [.str a, .str b]) ∧ sortOf w = a ∧ kindsOf w = b := by
  cases w <;> first | exact absurd h.symm hs | skip
  rename_i x
  have h : (pairT x).1 = s := h
  cases e : findT tab_FORMS x with
  | none =>
    unfold pairT at h
    rw [e] at h
    exact absurd h.symm hs
  | some d =>
    obtain ⟨a, b, rfl⟩ := forms_two e
    refine ⟨x, a, b, rfl, e, ?_, ?_⟩
    · show (pairT x).1 = a
      unfold pairT; rw [e]
    · show (pairT x).2 = b
      unfold pairT; rw [e]
/-- a thing right in form: its word, its kinds, its parts -/
theorem hf_inv {k : Nat} {s : Str} {d : D} (hs : s ≠ Str.ofString "") (h : hf k s d = true) : ∃ j x ps a b, k = j + 1 ∧ d = .tuple (.str x :: ps) ∧ findT tab_FORMS x = some (.tuple [.str a, .str b]) ∧ a = s ∧ kindsOf (.str x) = b ∧ ps.length = (tl b).length ∧ ∀ p ∈ (tl b).zip ps, partB (hf j) p.1 p.2 = true := by
  cases k with
  | zero => cases h
  | succ j =>
    cases d <;> first | (cases h; done) | skip
    rename_i ds
    cases ds with
    | nil => cases h
    | cons w ps =>
      simp only [hf, Bool.and_eq_true, decide_eq_true_eq, List.all_eq_true] at h
      obtain ⟨h1, h2, h3⟩ := h
      obtain ⟨x, a, b, rfl, e, e1, e2⟩ := sort_ne h1 hs
      rw [e2] at h2 h3
      exact ⟨j, x, ps, a, b, rfl, rfl, e, by rw [← e1, h1], e2, h2, h3⟩
def isThing (k : Nat) (d : D) : Prop := ∃ s : Str, s ≠ Str.ofString "" ∧ hf k s d = true
theorem isThing.t {k : Nat} {d : D} {s : Str} (h : hf k s d = true) (hs : s ≠ Str.ofString "" := by decide +kernel) : isThing k d := ⟨s, hs, h⟩
def goes (c : Nat) : Bool := decide (c ∈ tl (Str.ofString "trp"))
def partsOf : D → List D
  | .tuple (.str x :: ps) => if x = Str.ofString "notion" then (match ps with | [_, .tuple qs] => qs | _ => []) else (((tl (kindsOf (.str x))).zip ps).filter fun p => goes p.1).map Prod.snd
  | _ => []
theorem goes_t {c : Nat} (h : goes c = true) : c = 116 ∨ c = 114 ∨ c = 112 := by
  have h := of_decide_eq_true h
  have e : tl (Str.ofString "trp") = [116, 114, 112] := by decide +kernel
  rw [e] at h
  simpa using h
/-- its parts are things, one floor lower -/
theorem parts_things {k : Nat} {d : D} (h : isThing k d) : ∃ j, k = j + 1 ∧ ∀ p ∈ partsOf d, isThing j p := by
  obtain ⟨s, hs, h⟩ := h
  obtain ⟨j, x, ps, a, b, rfl, rfl, e, _, eb, hl, hp⟩ := hf_inv hs h
  refine ⟨j, rfl, fun p hm => ?_⟩
  simp only [partsOf] at hm
  split at hm
  · rename_i hx
    subst hx
    have e2 : kindsOf (.str (Str.ofString "notion")) = Str.ofString "ab" := by decide +kernel
    rw [e2] at eb
    subst eb
    have et : tl (Str.ofString "ab") = [97, 98] := by decide +kernel
    rw [et] at hl hp
    match ps, hl with
    | [p0, p1], _ =>
      have h2 := hp (98, p1) (by simp)
      simp only [partB] at h2
      simp only [show ¬ (98 : Nat) = 116 by decide, show ¬ (98 : Nat) = 114 by decide, show ¬ (98 : Nat) = 112 by decide, show ¬ ((98 : Nat) = 120 ∨ (98 : Nat) = 121) by decide, show ¬ (98 : Nat) = 97 by decide, if_false, if_true] at h2
      obtain ⟨qs, rfl⟩ : ∃ qs, p1 = .tuple qs := by cases p1 <;> first | exact ⟨_, rfl⟩ | (cases h2; done)
      have hm : p ∈ qs := hm
      have h2 : (qs.all fun q => hf j (Str.ofString "term") q || hf j (Str.ofString "row") q) = true := h2
      have h3 := List.all_eq_true.mp h2 p hm
      rw [Bool.or_eq_true] at h3
      rcases h3 with h3 | h3
      · exact .t h3
      · exact .t h3
  · rw [List.mem_map] at hm
    obtain ⟨⟨c, y⟩, hm, rfl⟩ := hm
    rw [List.mem_filter] at hm
    rw [eb] at hm
    have h2 := hp _ hm.1
    rcases goes_t hm.2 with h3 | h3 | h3
    · have h3 : c = 116 := h3
      subst h3
      exact .t (s := Str.ofString "term") h2
    · have h3 : c = 114 := h3
      subst h3
      exact .t (s := Str.ofString "row") h2
    · have h3 : c = 112 := h3
      subst h3
      exact .t (s := Str.ofString "plain") h2
theorem parts_bt {k t : Nat} {d : D} (h : Bt k t d) : ∀ p ∈ partsOf d, Bt (k - 1) t p := by
  intro p hm
  cases d <;> first | (simp [partsOf] at hm; done) | skip
  rename_i ds
  have hd := h.ofTup
  cases ds with
  | nil => simp [partsOf] at hm
  | cons w ps =>
    cases w <;> first | (simp [partsOf] at hm; done) | skip
    rename_i x
    simp only [partsOf] at hm
    split at hm
    · split at hm
      · rename_i y qs
        have := (hd.mem (.tuple qs) (by simp)).ofTup.mem p hm
        exact this.to (by omega) (Nat.le_refl _)
      · exact nomatch hm
    · rw [List.mem_map] at hm
      obtain ⟨⟨c, y⟩, hm, rfl⟩ := hm
      rw [List.mem_filter] at hm
      exact hd.mem y (List.mem_cons_of_mem _ (List.of_mem_zip hm.1).2)
theorem szAll_mem : ∀ {ds : List D} {d : D}, d ∈ ds → sz d ≤ szAll ds
  | e :: ds, d, m => by
    simp only [szAll]
    rcases List.mem_cons.mp m with rfl | m
    · omega
    · have := szAll_mem m
      omega
def partsF : DF := fun ds Q => ∃ k d, ds = [d] ∧ k ≤ 60 ∧ Ok1 k d ∧ isThing k d ∧ Q (.list (partsOf d))
section
variable {P : Program} {w : World} {K : PySem.W.Frag} {mg : Str → Option Value} {base : Heap}
theorem ok_parts_of (T : Tx w K mg) (O_kinds_of : Ok P w K mg base 1 "kinds_of" ["word"] (spN K 1 .E kindsF)) : Ok P w K mg base 2 "parts_of" ["thing"] (spN K 1 .E partsF) := by
  refine Ok.ofN (M := []) T.d_parts_of sc_parts_of rfl (by decide) fun f cdv A outer s H E hr => ⟨_, _, (pss_cons (ps_if (pt_cmpR (eqG K rfl hr.units) (pe_ix (ixG K rfl (u65 hr.toRoom)) (pv 0) (pe_int) (fun _ _ => rfl)) (pe_str) (nomark _))
 (pss_one (ps_ret (pe_callTy (listQ K rfl) (by rfl) T.z_list boot_list (pa_cons (pe_ix (ixG K rfl (u65 hr.toRoom)) (pv 0) (pe_int) (fun _ _ => rfl)) (pa_nil)))))
 (pss_nil))
 (pss_one (ps_ret (pe_lc (own := [("kind", 1), ("part", 2)]) rfl sc_parts_of.nd (pi_zipS (by rfl) T.z_zip (pa_cons (pe_fn O_kinds_of (hr.mono (by omega)) (by rfl) (pa_cons (pe_ix (ixG K rfl (u65 hr.toRoom)) (pv 0) (pe_int) (fun _ _ => rfl)) (pa_nil))) (pa_cons (pe_slice (slG K rfl) (pv 0) (po_some (pe_int)) po_none) pa_nil))) (blkOk_by (own := [("kind", 1), ("part", 2)]) (N := ["thing", "kind", "part"]) (sc := defScope s_parts_of) (by decide +kernel)) (fun _ _ _ _ _ => pgT K rfl 2 rfl (pgs_cons (pg_nameL (i := 1) sc_parts_of.nd rfl rfl) (pgs_cons (pg_nameL (i := 2) sc_parts_of.nd rfl rfl) (pgs_nil)))) (fun _ _ _ _ _ => pts_one (pt_cmpR (inG K rfl (u65 hr.toRoom)) (pv 1) (pe_str) (by rfl))) (fun _ _ _ _ _ => pv 2))))),
 (simS_seq (simS_if (simT_test (sim_op opA_eq (opA_ix (sim_var 0 (nm rfl)) (sim_int _)) (sim_str _)))
 (simS_ret (Sim.toE (sim_cb caA_list (simA_cons (opA_ix (sim_var 0 (nm rfl)) (sim_int _)) (simA_nil)))))
 (simS_next))
 (simS_ret (Sim.toE (sim_lc (simI_zipS (sim_call (simA_cons (opA_ix (sim_var 0 (nm rfl)) (sim_int _)) (simA_nil))) (sim_sl (sim_var 0 (nm rfl)) (simO_some (sim_int _)) simO_none)) (simG_tup (simGs_cons (simG_name 1 (nm rfl) (np rfl)) (simGs_cons (simG_name 2 (nm rfl) (np rfl)) (simGs_nil)))) (simT_test (sim_op opA_in (sim_var 1 (nm rfl)) (sim_str _))) (sim_var 2 (nm rfl)) (inv' rfl) (nmv rfl) (npv rfl))))), ?_⟩
  rintro ds Q hl ⟨k, d, rfl, hk, ho, ht, q⟩
  obtain ⟨s, hs, h⟩ := ht
  obtain ⟨j, x, ps, a, b, rfl, rfl, e, _, eb, hlp, hp⟩ := hf_inv hs h
  have htl := ho.tlen
  refine seqIf (b := decide (x = Str.ofString "notion")) (fun Q q => ix_ok 0 rfl rfl q) (fun hx => ?_) (fun hx => ?_)
  · have hx := of_decide_eq_true hx
    subst hx
    have e2 : kindsOf (.str (Str.ofString "notion")) = Str.ofString "ab" := by decide +kernel
    rw [e2] at eb
    subst eb
    have et : tl (Str.ofString "ab") = [97, 98] := by decide +kernel
    rw [et] at hlp hp
    match ps, hlp with
    | [p0, p1], _ =>
      have h2 := hp (98, p1) (by simp)
      simp only [partB] at h2
      simp only [show ¬ (98 : Nat) = 116 by decide, show ¬ (98 : Nat) = 114 by decide, show ¬ (98 : Nat) = 112 by decide, show ¬ ((98 : Nat) = 120 ∨ (98 : Nat) = 121) by decide, show ¬ (98 : Nat) = 97 by decide, if_false, if_true] at h2
      obtain ⟨qs, rfl⟩ : ∃ qs, p1 = .tuple qs := by cases p1 <;> first | exact ⟨_, rfl⟩ | (cases h2; done)
      have e3 : partsOf (.tuple [.str (Str.ofString "notion"), p0, .tuple qs]) = qs := by simp [partsOf]
      rw [e3] at q
      exact ix_ok 2 rfl rfl q
  · have hx := of_decide_eq_false hx
    simp only [partsOf, if_neg hx, eb] at q
    refine ix_ok 0 rfl rfl ⟨_, rfl, ?_⟩
    rw [eb]
    show (cutD (.str x :: ps) (some 1) none).length = (signs b).length ∧ _
    rw [cut1]
    refine ⟨by rw [signs_len, hlp], ?_, lcD_ind (fun i acc s' => acc = ((((tl b).zip ps).take i).filter fun p => goes p.1).map Prod.snd ∧ s' = { δ := [some (.tuple (.str x :: ps)), none, none], n := 0 }) ⟨rfl, rfl⟩ ?_ ?_⟩
    · rw [zip_len]
      have htl : (PyData.str x :: ps).length ≤ 1000000 := htl
      rw [List.length_cons] at htl
      exact Nat.le_trans (Nat.min_le_right _ _) (Nat.le_trans (show ps.length ≤ 1000000 by omega) (by decide))
    · rintro i d acc s' N hi ⟨rfl, rfl⟩ hN
      obtain ⟨y, z, h3, h4, rfl⟩ := prD_get hi
      obtain ⟨c, hc, rfl⟩ := signs_get h3
      have hz : ((tl b).zip ps)[i]? = some (c, z) := List.getElem?_zip_eq_some.mpr ⟨hc, h4⟩
      refine ⟨rfl, in_textD (Q := fun k => if k = true then N (_ ++ [z]) _ else N _ _) (ite_either (fun hg => hN _ _ ⟨?_, rfl⟩) (fun hg => hN _ _ ⟨?_, rfl⟩))⟩
      · rw [List.take_add_one, hz, List.filter_append, List.map_append]
        have : ([(c, z)].filter fun p : Nat × D => goes p.1) = [(c, z)] := by simp [List.filter, show goes c = true from hg]
        rw [show (some (c, z)).toList = [(c, z)] from rfl, this]
        rfl
      · rw [List.take_add_one, hz, List.filter_append, List.map_append]
        have : ([(c, z)].filter fun p : Nat × D => goes p.1) = [] := by simp [List.filter, show goes c = false from hg]
        rw [show (some (c, z)).toList = [(c, z)] from rfl, this]
        rw [List.map_nil, List.append_nil]
    · rintro acc s' ⟨rfl, rfl⟩
      have el : (prD (signs b) ps).length = ((tl b).zip ps).length := by rw [zip_len, List.length_zip, signs_len]
      rw [el, List.take_length]
      exact q
end

/-! ### gather, letters_of -/
def kindOf (x : Str) : Str := if x = Str.ofString "name" then Str.ofString "number" else Str.ofString "row"
def oneOf (x : Str) (l : D) : D := .tuple [l, .str (kindOf x)]
def isOwn : D → Bool
  | .str z => decide (z = Str.ofString "own")
  | _ => false
def gatL (rec : D → Bool → List D → List D) (all hid : Bool) : Nat → List D → List D → List D
  | _, [], acc => acc
  | i, p :: ps, acc => gatL rec all hid (i + 1) ps (rec p (hid || (all && decide (i = 2))) acc)
def gat : Nat → D → Bool → List D → List D
  | k + 1, .tuple (.str x :: ps), hid, acc => if x = Str.ofString "name" ∨ x = Str.ofString "row" then (match ps with
      | l :: _ => if (!(acc.any fun z => PyData.eqv z (oneOf x l)) && !(hid && isOwn l)) = true then acc ++ [oneOf x l] else acc
      | [] => acc) else gatL (gat k) (decide (x = Str.ofString "all")) hid 0 (partsOf (.tuple (.str x :: ps))) acc
  | _, _, _, acc => acc
def Fo (acc : List D) : Prop := bdAll acc = true ∧ PyData.depthAll acc ≤ 1
theorem szAll_sub {a b : List D} (h : a.Sublist b) : szAll a ≤ szAll b := by
  induction h with
  | slnil => exact Nat.le_refl _
  | cons x _ ih => simp only [szAll]; omega
  | cons_cons x _ ih => simp only [szAll]; omega
theorem zip_sub {α β : Type} : ∀ (a : List α) (b : List β), ((a.zip b).map Prod.snd).Sublist b
  | [], b => by simp
  | _ :: _, [] => by simp
  | x :: a, y :: b => by
    rw [List.zip_cons_cons, List.map_cons]
    exact (zip_sub a b).cons_cons y
theorem szAll_parts (d : D) : szAll (partsOf d) + 3 ≤ sz d ∨ partsOf d = [] := by
  cases d <;> first | exact .inr rfl | skip
  rename_i ds
  cases ds with
  | nil => exact .inr rfl
  | cons w ps =>
    cases w <;> first | exact .inr rfl | skip
    rename_i x
    refine .inl ?_
    simp only [partsOf, sz, szAll]
    split
    · split
      · simp only [szAll, sz]; omega
      · simp only [szAll]; omega
    · have h1 : ((((tl (kindsOf (.str x))).zip ps).filter fun p => goes p.1).map Prod.snd).Sublist ps := ((List.filter_sublist).map Prod.snd).trans (zip_sub _ _)
      have := szAll_sub h1
      omega
theorem letter_of {j : Nat} {x : Str} {ps : List D} {a b s : Str} (hn : x = Str.ofString "name" ∨ x = Str.ofString "row") (eb : kindsOf (.str x) = b) (hl : ps.length = (tl b).length) (hp : ∀ p ∈ (tl b).zip ps, partB (hf j) p.1 p.2 = true) :
    ∃ l, ps = [l] ∧ ((∃ i, l = .int i) ∨ ∃ z, l = .str z) := by
  have main : ∀ c, tl b = [c] → c = 120 ∨ c = 121 → ∃ l, ps = [l] ∧ ((∃ i, l = .int i) ∨ ∃ z, l = .str z) := fun c et hc => by
    rw [et] at hl hp
    match ps, hl with
    | [l], _ =>
      refine ⟨l, rfl, ?_⟩
      have h2 := hp (c, l) (by simp)
      have h3 : isLetter (decide (c = 121)) l = true := by
        rcases hc with rfl | rfl <;> simpa [partB] using h2
      cases l <;> first | exact .inl ⟨_, rfl⟩ | exact .inr ⟨_, rfl⟩ | (cases h3; done)
  rcases hn with rfl | rfl
  · have e2 : kindsOf (.str (Str.ofString "name")) = Str.ofString "x" := by decide +kernel
    rw [e2] at eb
    subst eb
    exact main 120 (by decide +kernel) (.inl rfl)
  · have e2 : kindsOf (.str (Str.ofString "row")) = Str.ofString "y" := by decide +kernel
    rw [e2] at eb
    subst eb
    exact main 121 (by decide +kernel) (.inr rfl)
theorem Fo.app {acc : List D} {d : D} (h : Fo acc) (b : bd d = true) (e : PyData.depth d ≤ 1) : Fo (acc ++ [d]) := by
  have x : BtL 1 (szAll acc) acc := ⟨h.1, h.2, Nat.le_refl _⟩
  have y : BtL 1 (sz d + 2) [d] := ⟨by simp [bdAll, b], by simp only [PyData.depthAll]; omega, by simp only [szAll]; omega⟩
  have r := x.app y
  exact ⟨r.b, r.h⟩
theorem kindOf_ok (x : Str) : PyData.strOk (kindOf x) = true := by unfold kindOf; split <;> decide +kernel
theorem one_fo {x : Str} {l : D} (hb : bd l = true) (hd : PyData.depth l = 0) : bd (oneOf x l) = true ∧ PyData.depth (oneOf x l) ≤ 1 := by
  refine ⟨by simp [oneOf, bd, bdAll, hb, kindOf_ok], ?_⟩
  simp only [oneOf, PyData.depth, PyData.depthAll]
  omega
theorem gatL_ok {rec : D → Bool → List D → List D} {all hid : Bool} : ∀ (ps : List D) (i : Nat) (acc : List D), (∀ p ∈ ps, ∀ h a, Fo a → Fo (rec p h a) ∧ (rec p h a).length ≤ a.length + sz p) → Fo acc → Fo (gatL rec all hid i ps acc) ∧ (gatL rec all hid i ps acc).length ≤ acc.length + szAll ps
  | [], i, acc, _, h => ⟨h, by simp only [gatL, szAll]; omega⟩
  | p :: ps, i, acc, hr, h => by
    obtain ⟨a1, a2⟩ := hr p (List.mem_cons_self ..) (hid || (all && decide (i = 2))) acc h
    obtain ⟨b1, b2⟩ := gatL_ok (rec := rec) (all := all) (hid := hid) ps (i + 1) _ (fun q m => hr q (List.mem_cons_of_mem _ m)) a1
    refine ⟨b1, ?_⟩
    simp only [gatL, szAll]
    omega
theorem gat_ok : ∀ {k : Nat} {d : D} {hid : Bool} {acc : List D}, bd d = true → isThing k d → Fo acc → Fo (gat k d hid acc) ∧ (gat k d hid acc).length ≤ acc.length + sz d
  | 0, d, hid, acc, hb, ht, hf' => ⟨hf', by simp only [gat]; omega⟩
  | k + 1, d, hid, acc, hb, ht, hf' => by
    have ht' := ht
    obtain ⟨s, hs, h⟩ := ht
    obtain ⟨j, x, ps, a, b, ej, rfl, e, _, eb, hl, hp⟩ := hf_inv hs h
    obtain rfl : k = j := by omega
    simp only [gat]
    by_cases hn : x = Str.ofString "name" ∨ x = Str.ofString "row"
    · rw [if_pos hn]
      obtain ⟨l, rfl, hle⟩ := letter_of (a := a) (s := s) hn eb hl hp
      dsimp only
      have hbl : bd l = true := by
        have : bd (.tuple [.str x, l]) = true := hb
        simp only [bd, bdAll, Bool.and_eq_true] at this
        exact this.2.1
      have hd : PyData.depth l = 0 := by rcases hle with ⟨i, rfl⟩ | ⟨z, rfl⟩ <;> rfl
      split
      · refine ⟨hf'.app (one_fo hbl hd).1 (one_fo hbl hd).2, ?_⟩
        rw [List.length_append]
        simp only [sz, szAll, List.length_singleton]
        omega
      · exact ⟨hf', by omega⟩
    · rw [if_neg hn]
      obtain ⟨j', ej', hpt⟩ := parts_things ht'
      obtain rfl : k = j' := by omega
      have hbp : ∀ p ∈ partsOf (.tuple (.str x :: ps)), bd p = true := fun p m => (parts_bt (k := PyData.depth (.tuple (.str x :: ps))) (t := sz (.tuple (.str x :: ps))) ⟨hb, Nat.le_refl _, Nat.le_refl _⟩ p m).b
      obtain ⟨r1, r2⟩ := gatL_ok (rec := gat k) (all := decide (x = Str.ofString "all")) (hid := hid) (partsOf (.tuple (.str x :: ps))) 0 acc (fun p m h a fa => gat_ok (hbp p m) (hpt p m) fa) hf'
      refine ⟨r1, ?_⟩
      rcases szAll_parts (.tuple (.str x :: ps)) with h3 | h3
      · omega
      · rw [h3] at r2 ⊢
        simp only [szAll] at r2
        omega
def gathF (k : Nat) : List D → (D → D → Prop) → Prop := fun ds Q => ∃ d acc hid, ds = [d, .list acc, .bool hid] ∧ Ok1 k d ∧ isThing k d ∧ Fo acc ∧ acc.length + sz d ≤ 10000000 ∧ Q .none (.list (gat k d hid acc))
theorem Fo.sh {acc : List D} (h : Fo acc) : Sh (.list acc) := by
  have x : BtL 1 (szAll acc) acc := ⟨h.1, h.2, Nat.le_refl _⟩
  exact (Bt.lst x).sh (by decide)
theorem gatL_snoc {rec : D → Bool → List D → List D} {all hid : Bool} : ∀ (ps : List D) (p : D) (i : Nat) (acc : List D), gatL rec all hid i (ps ++ [p]) acc = rec p (hid || (all && decide (i + ps.length = 2))) (gatL rec all hid i ps acc)
  | [], p, i, acc => by simp [gatL]
  | q :: ps, p, i, acc => by
    rw [List.cons_append, gatL, gatL_snoc ps p (i + 1), gatL, List.length_cons]
    rw [show i + 1 + ps.length = i + (ps.length + 1) by omega]
section
variable {P : Program} {w : World} {K : PySem.W.Frag} {mg : Str → Option Value} {base : Heap}
def lettersF (k : Nat) : DF := fun ds Q => ∃ d, ds = [d] ∧ Ok1 k d ∧ isThing k d ∧ Q (.list (gat k d false []))
end

/-! ### drawn things: helpers, names, numbers, letters -/
theorem ix_any {ds : List D} {r : Int} {Q : D → Prop} (h0 : 0 ≤ r) (h1 : r < (ds.length : Int)) (k : ∀ d ∈ ds, Q d) : IxP (atI ds r) Q := by
  have hr : r.toNat < ds.length := by omega
  exact ix_ok r.toNat (by omega) (List.getElem?_eq_getElem hr) (k _ (List.getElem_mem hr))
def wOk (w : Str) : Bool := PyData.strOk w && decide (w.length ≤ 8)
theorem bt_w {h : Nat} {w : Str} (e : wOk w = true) : Bt h 82 (.str w) := by
  rw [wOk, Bool.and_eq_true, decide_eq_true_eq] at e
  exact Bt.str e.1 e.2
theorem bt2 {h a : Nat} {w : Str} {x : D} (e : wOk w = true) (x1 : Bt h a x) : Bt (h + 1) (a + 89) (.tuple [.str w, x]) :=
  (Bt.tup (BtL.cons (bt_w e) (BtL.cons x1 (BtL.nil (t := 0))))).to (Nat.le_refl _) (by omega)
theorem bt3 {h a b : Nat} {w : Str} {x y : D} (e : wOk w = true) (x1 : Bt h a x) (x2 : Bt h b y) : Bt (h + 1) (a + b + 91) (.tuple [.str w, x, y]) :=
  (Bt.tup (BtL.cons (bt_w e) (BtL.cons x1 (BtL.cons x2 (BtL.nil (t := 0)))))).to (Nat.le_refl _) (by omega)
theorem bt4 {h a b c : Nat} {w : Str} {x y z : D} (e : wOk w = true) (x1 : Bt h a x) (x2 : Bt h b y) (x3 : Bt h c z) : Bt (h + 1) (a + b + c + 93) (.tuple [.str w, x, y, z]) :=
  (Bt.tup (BtL.cons (bt_w e) (BtL.cons x1 (BtL.cons x2 (BtL.cons x3 (BtL.nil (t := 0))))))).to (Nat.le_refl _) (by omega)
/-- small letters, one to so many -/
def wrd (hi : Nat) (z : Str) : Prop := 1 ≤ z.length ∧ z.length ≤ hi ∧ ∀ c ∈ tl z, 97 ≤ c ∧ c ≤ 122
theorem wrd.ok {hi : Nat} {z : Str} (h : wrd hi z) : PyData.strOk z = true := by
  unfold PyData.strOk
  rw [Array.all_eq_true']
  intro c hc
  have := h.2.2 c (by simpa using hc)
  simp
  omega
theorem wrd.lit {hi : Nat} {z : Str} (h : decide (1 ≤ z.length ∧ z.length ≤ hi ∧ ∀ c ∈ tl z, 97 ≤ c ∧ c ≤ 122) = true) : wrd hi z := @of_decide_eq_true (1 ≤ z.length ∧ z.length ≤ hi ∧ ∀ c ∈ tl z, 97 ≤ c ∧ c ≤ 122) _ h
def wrdL (hi : Nat) (xs : List D) : Prop := ∀ x ∈ xs, ∃ z, x = .str z ∧ wrd hi z
theorem wrdL.app {hi : Nat} {xs ys : List D} (h : wrdL hi xs) (h' : wrdL hi ys) : wrdL hi (xs ++ ys) := fun d m => (List.mem_append.mp m).elim (h d) (h' d)
theorem wrdL.one {hi : Nat} {z : Str} (h : wrd hi z) : wrdL hi [.str z] := fun d m => ⟨z, List.mem_singleton.mp m, h⟩
/-- its draws number at most b -/
def namesF (b : Nat) : DFP := fun ds n Q => ∃ m : Nat, ds = [.int (m : Int)] ∧ m ≤ 20 ∧ n + b ≤ penLim ∧ ∀ (xs : List D) (n' : Nat), xs.length = m → wrdL 9 xs → n' ≤ n + b → Q (.list xs) n'
def numF (b : Nat) : DFP := fun ds n Q => ds = [] ∧ n + b ≤ penLim ∧ ∀ (i : Int) (n' : Nat), i.natAbs < 10 ^ 40 → n' ≤ n + b → Q (.int i) n'
section
variable {P : Program} {w : World} {K : PySem.W.Frag} {mg : Str → Option Value} {base : Heap}
theorem ok__law_gnumber (T : Tx w K mg) (O__law_take : Ok P w K mg base 2 "_law_take" ["_law_pen", "_law_many"] (spP K 1 .E takeF)) : Ok P w K mg base 3 "_law_gnumber" ["_law_pen"] (spP K 0 .E (numF 100)) := by
  refine Ok.ofP (M := []) T.d__law_gnumber sc__law_gnumber rfl (by decide) (by decide) fun f cdv A outer s H E p c hr => ⟨_, _, (pss_cons (ps_set (i := 1) sc__law_gnumber.nd rfl (Or.inl rfl) (pe_lst (pa_cons (pe_int) (pa_cons (pe_int) (pa_cons (pe_un un_neg (pe_int)) (pa_cons (pe_int) (pa_cons (pe_int) (pa_cons (pe_un un_neg (pe_int)) (pa_cons (pe_op op_pow (pe_int) (pe_int)) (pa_cons (pe_op op_sub (pe_int) (pe_op op_pow (pe_int) (pe_int))) (pa_nil)))))))))))
 (pss_one (ps_ret (pe_ix (ixG K rfl (u65 hr.toRoom)) (pe_op (addG K rfl) (pv 1) (pe_lst (pa_cons (pe_op op_sub (pe_fn O__law_take (hr.mono (by omega)) (by rfl) (pa_cons (pv 0) (pa_cons (pe_int) (pa_nil)))) (pe_int)) (pa_nil)))) (pe_fn O__law_take (hr.mono (by omega)) (by rfl) (pa_cons (pv 0) (pa_cons (pe_int) (pa_nil)))) (fun _ _ => rfl))))),
 (simS_seq (simS_set 1 (nm rfl) (np rfl) (sim_lst (by decide) (simA_cons (sim_int _) (simA_cons (sim_int _) (simA_cons (sim_neg (sim_int _)) (simA_cons (sim_int _) (simA_cons (sim_int _) (simA_cons (sim_neg (sim_int _)) (simA_cons (sim_op opA_pow (sim_int _) (sim_int _)) (simA_cons (sim_op opA_sub (sim_int _) (sim_op opA_pow (sim_int _) (sim_int _))) (simA_nil)))))))))))
 (simS_ret (Sim.toE (opA_ix (sim_op opA_add (sim_var 1 (nm rfl)) (sim_lst (by decide) (simA_cons (sim_op opA_sub (sim_callP (by simp) rfl (simA_cons (sim_int _) (simA_nil))) (sim_int _)) (simA_nil)))) (sim_callP (by simp) rfl (simA_cons (sim_int _) (simA_nil))))))), ?_⟩
  rintro ds m Q hl ⟨rfl, hm, k⟩
  refine ⟨⟨by decide, by decide, by decide⟩, ⟨by decide, by decide, by decide⟩, ?_⟩
  refine tk_ok (by (first | omega | (dsimp only; omega) | (dsimp only at *; omega))) (by decide) (by decide) fun r r0 r1 => ?_
  refine ⟨by show 8 + 1 ≤ sizeLine; decide, tk_ok (by (first | omega | (dsimp only; omega) | (dsimp only at *; omega))) (by decide) (by decide) fun q q0 q1 => ?_⟩
  refine ix_any q0 q1 fun d hd => ?_
  have hi : ∃ i : Int, d = .int i ∧ i.natAbs < 10 ^ 40 := by
    simp only [List.cons_append, List.nil_append, List.mem_cons, List.not_mem_nil, or_false] at hd
    rcases hd with rfl | rfl | rfl | rfl | rfl | rfl | rfl | rfl | rfl
    · exact ⟨_, rfl, by decide⟩
    · exact ⟨_, rfl, by decide⟩
    · exact ⟨_, rfl, by decide⟩
    · exact ⟨_, rfl, by decide⟩
    · exact ⟨_, rfl, by decide⟩
    · exact ⟨_, rfl, by decide⟩
    · exact ⟨_, rfl, by decide⟩
    · exact ⟨_, rfl, by decide⟩
    · exact ⟨_, rfl, by omega⟩
  obtain ⟨i, rfl, hi⟩ := hi
  exact k i _ hi (by (first | omega | (dsimp only; omega) | (dsimp only at *; omega)))
theorem ok__law_names (T : Tx w K mg) (O__law_take : Ok P w K mg base 2 "_law_take" ["_law_pen", "_law_many"] (spP K 1 .E takeF)) : Ok P w K mg base 3 "_law_names" ["_law_pen", "_law_many"] (spP K 1 .E (namesF 100)) := by
  refine Ok.ofP (M := []) T.d__law_names sc__law_names rfl (by decide) (by decide) fun f cdv A outer s H E p c hr => ⟨_, _, (pss_cons (ps_set (i := 2) sc__law_names.nd rfl (Or.inr rfl) (pe_str))
 (pss_cons (ps_set (i := 3) sc__law_names.nd rfl (Or.inr rfl) (joinK K rfl (pe_str) (pe_lc (own := [("_law_k", 4)]) rfl sc__law_names.nd (pi_range1 (by rfl) T.z_range (pa_cons (pe_fn O__law_take (hr.mono (by omega)) (by rfl) (pa_cons (pv 0) (pa_cons (pe_int) (pa_nil)))) (pa_nil))) (blkOk_by (own := [("_law_k", 4)]) (N := ["_law_pen", "_law_many", "_law_letters", "_law_stem", "_law_k", "_law_at", "_law_first", "_law_found", "_law_name"]) (sc := defScope s__law_names) (by decide +kernel)) (fun _ _ _ _ _ => pg_nameL (i := 4) sc__law_names.nd rfl rfl) (fun _ _ _ _ _ => pts_nil) (fun _ _ _ _ _ => pe_ix (ixG K rfl (u65 hr.toRoom)) (pv 2) (pe_fn O__law_take (hr.mono (by omega)) (by rfl) (pa_cons (pv 0) (pa_cons (pe_int) (pa_nil)))) (fun _ _ => rfl)))))
 (pss_cons (ps_set (i := 5) sc__law_names.nd rfl (Or.inr rfl) (pe_fn O__law_take (hr.mono (by omega)) (by rfl) (pa_cons (pv 0) (pa_cons (pe_op (addG K rfl) (pe_callB (lenG K rfl) (by rfl) T.z_len boot_len (pa_cons (pv 3) (pa_nil))) (pe_int)) (pa_nil)))))
 (pss_cons (ps_set (i := 6) sc__law_names.nd rfl (Or.inr rfl) (pe_fn O__law_take (hr.mono (by omega)) (by rfl) (pa_cons (pv 0) (pa_cons (pe_int) (pa_nil)))))
 (pss_cons (ps_setLc (i := 7) (own := [("_law_k", 4)]) rfl sc__law_names.nd rfl rfl (sw_true rfl rfl rfl (by decide +kernel)) (pi_range1 (by rfl) T.z_range (pa_cons (pv 1) (pa_nil))) (blkOk_by (own := [("_law_k", 4)]) (N := ["_law_pen", "_law_many", "_law_letters", "_law_stem", "_law_k", "_law_at", "_law_first", "_law_found", "_law_name"]) (sc := defScope s__law_names) (by decide +kernel)) (fun _ _ _ _ _ => pg_nameL (i := 4) sc__law_names.nd rfl rfl) (fun _ _ _ _ _ => pts_nil) (fun _ _ _ _ _ => pe_op (addG K rfl) (pe_op (addG K rfl) (pe_slice (slG K rfl) (pv 3) po_none (po_some (pv 5))) (pe_ix (ixG K rfl (u65 hr.toRoom)) (pv 2) (pe_op op_mod (pe_op (addG K rfl) (pv 6) (pe_op mulG (pe_int) (pv 4))) (pe_int)) (fun _ _ => rfl))) (pe_slice (slG K rfl) (pv 3) (po_some (pv 5)) po_none)))
 (pss_one (ps_ret (pe_lc (own := [("_law_name", 8)]) rfl sc__law_names.nd (piL K rfl (pv 7)) (blkOk_by (own := [("_law_name", 8)]) (N := ["_law_pen", "_law_many", "_law_letters", "_law_stem", "_law_k", "_law_at", "_law_first", "_law_found", "_law_name"]) (sc := defScope s__law_names) (by decide +kernel)) (fun _ _ _ _ _ => pg_nameL (i := 8) sc__law_names.nd rfl rfl) (fun _ _ _ _ _ => pts_nil) (fun _ _ _ _ _ => pe_op (addG K rfl) (pv 8) (pe_op op_repS (pe_str) (pe_callTy call_int1 (by rfl) T.z_int boot_int (pa_cons (pe_cmpR (inG K rfl (u65 hr.toRoom)) (pv 8) (pe_lst (pa_cons (pe_str) (pa_cons (pe_str) (pa_cons (pe_str) (pa_nil))))) (by rfl)) (pa_nil))))))))))))),
 (simS_seq (simS_set 2 (nm rfl) (np rfl) (sim_str _))
 (simS_seq (simS_set 3 (nm rfl) (np rfl) (sim_join (sim_str _) (sim_lc (simI_range1 (sim_callP (by simp) rfl (simA_cons (sim_int _) (simA_nil)))) (simG_name 4 (nm rfl) (np rfl)) (simT_yes) (opA_ix (sim_var 2 (nm rfl)) (sim_callP (by simp) rfl (simA_cons (sim_int _) (simA_nil)))) (inv' rfl) (nmv rfl) (npv rfl))))
 (simS_seq (simS_set 5 (nm rfl) (np rfl) (sim_callP (by simp) rfl (simA_cons (sim_op opA_add (sim_cb caA_len (simA_cons (sim_var 3 (nm rfl)) (simA_nil))) (sim_int _)) (simA_nil))))
 (simS_seq (simS_set 6 (nm rfl) (np rfl) (sim_callP (by simp) rfl (simA_cons (sim_int _) (simA_nil))))
 (simS_seq (simS_set 7 (nm rfl) (np rfl) (sim_lc (simI_range1 (sim_var 1 (nm rfl))) (simG_name 4 (nm rfl) (np rfl)) (simT_yes) (sim_op opA_add (sim_op opA_add (sim_sl (sim_var 3 (nm rfl)) simO_none (simO_some (sim_var 5 (nm rfl)))) (opA_ix (sim_var 2 (nm rfl)) (sim_op opA_mod (sim_op opA_add (sim_var 6 (nm rfl)) (sim_op opA_mul (sim_int _) (sim_var 4 (nm rfl)))) (sim_int _)))) (sim_sl (sim_var 3 (nm rfl)) (simO_some (sim_var 5 (nm rfl))) simO_none)) (inv' rfl) (nmv rfl) (npv rfl)))
 (simS_ret (Sim.toE (sim_lc (simI_list (sim_var 7 (nm rfl))) (simG_name 8 (nm rfl) (np rfl)) (simT_yes) (sim_op opA_add (sim_var 8 (nm rfl)) (sim_op opA_repS (sim_str _) (sim_cb caA_int (simA_cons (sim_op opA_in (sim_var 8 (nm rfl)) (sim_lst (by decide) (simA_cons (sim_str _) (simA_cons (sim_str _) (simA_cons (sim_str _) (simA_nil)))))) (simA_nil))))) (inv' rfl) (nmv rfl) (npv rfl))))))))), ?_⟩
  rintro ds m Q hl ⟨many, rfl, hmany, hm, k⟩
  have zl : (Str.ofString "abcdefghijklmnopqrstuvwxyz").length ≤ sizeLine := by decide +kernel
  have zat : ∀ r : Int, 0 ≤ r → r < 26 → atI (tl (Str.ofString "abcdefghijklmnopqrstuvwxyz")) r = some (97 + r.toNat) := fun r r0 r1 => by
    refine atI_of r.toNat (by (first | omega | (dsimp only; omega) | (dsimp only at *; omega))) ?_
    rw [tl_small, List.getElem?_map, List.getElem?_range (by (first | omega | (dsimp only; omega) | (dsimp only at *; omega)))]
    rfl
  refine tk_ok (by (first | omega | (dsimp only; omega) | (dsimp only at *; omega))) (by decide) (by decide) fun q q0 q1 => ?_
  refine ⟨⟨by (first | omega | (dsimp only; omega) | (dsimp only at *; omega)), by (first | omega | (dsimp only; omega) | (dsimp only at *; omega))⟩, by rw [rgD_len]; exact small_line (by (first | omega | (dsimp only; omega) | (dsimp only at *; omega))), lcD_ind (fun i acc s => ∃ (cs : List Nat) (m' : Nat), acc = ones cs ∧ cs.length = i ∧ i ≤ 7 ∧ (∀ c ∈ cs, 97 ≤ c ∧ c ≤ 122) ∧ s = { δ := [none, some (.int many), some (.str (Str.ofString "abcdefghijklmnopqrstuvwxyz")), none, none, none, none, none, none], n := m' } ∧ m' ≤ m + 1 + i) ⟨[], _, rfl, rfl, by decide, (fun c h => nomatch h), rfl, Nat.le_refl _⟩ ?_ ?_⟩
  · rintro i d acc s N hi ⟨cs, m', rfl, hc, h8, hcs, rfl, hm'⟩ hN
    obtain ⟨hi, rfl⟩ := rgD_get hi
    refine tk_ok (by (first | omega | (dsimp only; omega) | (dsimp only at *; omega))) (by decide) (by decide) fun r r0 r1 => ?_
    refine ixs_ok zl (zat r r0 r1) ?_
    refine hN _ _ ⟨cs ++ [97 + r.toNat], _, by unfold ones; rw [List.map_append]; rfl, by rw [List.length_append, hc]; rfl, by (first | omega | (dsimp only; omega) | (dsimp only at *; omega)), fun c hc => ?_, rfl, by (first | omega | (dsimp only; omega) | (dsimp only at *; omega))⟩
    rcases List.mem_append.mp hc with h | h
    · exact hcs c h
    · rw [List.mem_singleton.mp h]; (first | omega | (dsimp only; omega) | (dsimp only at *; omega))
  rintro acc s ⟨cs, m', rfl, hc, h8, hcs, rfl, hm'⟩
  rw [rgD_len] at hc h8 hm'
  refine ⟨_, strs_ones cs, ?_, ?_⟩
  · rw [ones_sum, TL.len_tl, tl_e]
    simp
    (first | omega | (dsimp only; omega) | (dsimp only at *; omega))
  rw [join_ones]
  have ln : (Sg cs : Str).length = cs.length := sg_len cs
  have hcs7 : cs.length ≤ 7 := by (first | omega | (dsimp only; omega) | (dsimp only at *; omega))
  refine ⟨by rw [ln]; exact small_line (by (first | omega | (dsimp only; omega) | (dsimp only at *; omega))), ?_⟩
  rw [ln]
  refine tk_ok (by (first | omega | (dsimp only; omega) | (dsimp only at *; omega))) (by (first | omega | (dsimp only; omega) | (dsimp only at *; omega))) (by (first | omega | (dsimp only; omega) | (dsimp only at *; omega))) fun at_ a0 a1 => ?_
  refine tk_ok (by (first | omega | (dsimp only; omega) | (dsimp only at *; omega))) (by decide) (by decide) fun fst f0 f1 => ?_
  obtain ⟨j, rfl⟩ : ∃ j : Nat, at_ = (j : Int) := ⟨at_.toNat, by (first | omega | (dsimp only; omega) | (dsimp only at *; omega))⟩
  have hj : j ≤ cs.length := by (first | omega | (dsimp only; omega) | (dsimp only at *; omega))
  refine ⟨⟨by (first | omega | (dsimp only; omega) | (dsimp only at *; omega)), by (first | omega | (dsimp only; omega) | (dsimp only at *; omega))⟩, by rw [rgD_len]; exact small_line (by (first | omega | (dsimp only; omega) | (dsimp only at *; omega))), lcD_ind (fun i acc s => acc.length = i ∧ wrdL 8 acc ∧ s = { δ := [none, some (.int many), some (.str (Str.ofString "abcdefghijklmnopqrstuvwxyz")), some (.str (Sg cs)), none, some (.int (j : Nat)), some (.int fst), none, none], n := m' + 1 + 1 }) ⟨rfl, (fun d h => nomatch h), rfl⟩ ?_ ?_⟩
  · rintro i d acc s N hi ⟨hc, hw, rfl⟩ hN
    obtain ⟨hi, rfl⟩ := rgD_get hi
    refine ⟨by rw [ln]; exact small_line (by (first | omega | (dsimp only; omega) | (dsimp only at *; omega))), ?_⟩
    rw [cutS_to]
    refine ⟨mulOk (lt2000 (by decide)) (lt2000 (Nat.lt_of_le_of_lt (show (0 + (i : Nat) : Int).natAbs ≤ 100 by (first | omega | (dsimp only; omega) | (dsimp only at *; omega))) (by decide))), by decide, ?_⟩
    have hr := Int.emod_nonneg (fst + 5 * (0 + (i : Nat))) (show (26 : Int) ≠ 0 by decide)
    have hr' := Int.emod_lt_of_pos (fst + 5 * (0 + (i : Nat))) (show (0 : Int) < 26 by decide)
    refine ixs_ok zl (zat _ hr hr') ?_
    refine ⟨?_, ?_⟩
    · rw [sg_len]; show (cs.take j).length + 1 ≤ sizeLine; exact small_line (by rw [List.length_take]; (first | omega | (dsimp only; omega) | (dsimp only at *; omega)))
    refine ⟨by rw [ln]; exact small_line (by (first | omega | (dsimp only; omega) | (dsimp only at *; omega))), ?_⟩
    rw [cutS_from cs j hj]
    have e : (Sg (cs.take j) ++ (⟨#[97 + ((fst + 5 * (0 + (i : Nat))) % 26).toNat]⟩ : Str)) = Sg (cs.take j ++ [97 + ((fst + 5 * (0 + (i : Nat))) % 26).toNat]) := sg_app _ _
    refine ⟨?_, ?_⟩
    · rw [e, sg_len, sg_len]; refine small_line ?_; rw [List.length_append, List.length_take, List.length_drop, List.length_singleton]; (first | omega | (dsimp only; omega) | (dsimp only at *; omega))
    rw [e, sg_app]
    refine hN _ _ ⟨by rw [List.length_append, hc]; rfl, hw.app (.one ⟨?_, ?_, fun c hc => ?_⟩), rfl⟩
    · rw [sg_len, List.length_append, List.length_append, List.length_singleton]; (first | omega | (dsimp only; omega) | (dsimp only at *; omega))
    · rw [sg_len, List.length_append, List.length_append, List.length_singleton, List.length_take, List.length_drop]; (first | omega | (dsimp only; omega) | (dsimp only at *; omega))
    · have hc : c ∈ cs.take j ++ [97 + ((fst + 5 * (0 + (i : Nat))) % 26).toNat] ++ cs.drop j := hc
      rcases List.mem_append.mp hc with h | h
      · rcases List.mem_append.mp h with h | h
        · exact hcs c (List.mem_of_mem_take h)
        · rw [List.mem_singleton.mp h]; (first | omega | (dsimp only; omega) | (dsimp only at *; omega))
      · exact hcs c (List.mem_of_mem_drop h)
  rintro acc s ⟨hc, hw, rfl⟩
  rw [rgD_len] at hc
  have hla : acc.length ≤ sizeLine := small_line (by (first | omega | (dsimp only; omega) | (dsimp only at *; omega)))
  refine ⟨hla, lcD_ind (fun i acc2 s => acc2.length = i ∧ wrdL 9 acc2 ∧ ∃ o1 o2, s = { δ := [none, some (.int many), some (.str (Str.ofString "abcdefghijklmnopqrstuvwxyz")), some (.str (Sg cs)), none, some (.int (j : Nat)), some (.int fst), o1, o2], n := m' + 1 + 1 }) ⟨rfl, (fun d h => nomatch h), _, _, rfl⟩ ?_ ?_⟩
  · rintro i d acc2 s N hi ⟨hc2, hw2, o1, o2, rfl⟩ hN
    obtain ⟨z, rfl, hz⟩ := hw d (List.mem_of_getElem? hi)
    have hzl := hz.2.1
    refine .inl ⟨rfl, rfl, ?_⟩
    generalize (xor false ([PyData.str (Str.ofString "left"), .str (Str.ofString "given"), .str (Str.ofString "own")].any fun z_1 => eqF z_1 (.str z))) = bb
    have hone : (Str.ofString "x").length = 1 := by decide +kernel
    cases bb with
    | true =>
      refine ⟨by decide, by decide, by rw [hone]; decide, ?_⟩
      have e : repS (Str.ofString "x") (1 : Int).toNat = Str.ofString "x" := by decide +kernel
      show z.length + (repS (Str.ofString "x") (1 : Int).toNat).length ≤ sizeLine ∧ N (acc2 ++ [.str (z ++ repS (Str.ofString "x") (1 : Int).toNat)]) _
      rw [e]
      refine ⟨small_line (by rw [hone]; (first | omega | (dsimp only; omega) | (dsimp only at *; omega))), hN _ _ ⟨by rw [List.length_append, hc2]; rfl, hw2.app (.one ⟨?_, ?_, fun c hc => ?_⟩), _, _, rfl⟩⟩
      · rw [strLen_app]; have := hz.1; (first | omega | (dsimp only; omega) | (dsimp only at *; omega))
      · rw [strLen_app, hone]; (first | omega | (dsimp only; omega) | (dsimp only at *; omega))
      · rw [TL.tl_append] at hc
        rcases List.mem_append.mp hc with h | h
        · exact hz.2.2 c h
        · have e2 : tl (Str.ofString "x") = [120] := by decide +kernel
          rw [e2, List.mem_singleton] at h
          (first | omega | (dsimp only; omega) | (dsimp only at *; omega))
    | false =>
      refine ⟨by decide, by decide, by rw [hone]; decide, ?_⟩
      have e : repS (Str.ofString "x") (0 : Int).toNat = Str.ofString "" := by decide +kernel
      show z.length + (repS (Str.ofString "x") (0 : Int).toNat).length ≤ sizeLine ∧ N (acc2 ++ [.str (z ++ repS (Str.ofString "x") (0 : Int).toNat)]) _
      rw [e]
      have h0 : (Str.ofString "").length = 0 := by decide +kernel
      have e3 : z ++ Str.ofString "" = z := TL.ext_tl (by rw [TL.tl_append, tl_e, List.append_nil])
      rw [h0, e3]
      exact ⟨small_line (by (first | omega | (dsimp only; omega) | (dsimp only at *; omega))), hN _ _ ⟨by rw [List.length_append, hc2]; rfl, hw2.app (.one ⟨hz.1, by (first | omega | (dsimp only; omega) | (dsimp only at *; omega)), hz.2.2⟩), _, _, rfl⟩⟩
  · rintro acc2 s ⟨hc2, hw2, o1, o2, rfl⟩
    exact k acc2 _ (by (first | omega | (dsimp only; omega) | (dsimp only at *; omega))) hw2 (by (first | omega | (dsimp only; omega) | (dsimp only at *; omega)))
end

/-! ### drawn names, none of them kept -/
def nmL (xs : List D) : Prop := ∀ x ∈ xs, ∃ z, x = .str z ∧ isName (.str z) = true
theorem nmL.app {xs ys : List D} (h : nmL xs) (h' : nmL ys) : nmL (xs ++ ys) := fun d m => (List.mem_append.mp m).elim (h d) (h' d)
theorem nmL.one {z : Str} (h : isName (.str z) = true) : nmL [.str z] := fun d m => ⟨z, List.mem_singleton.mp m, h⟩
theorem name_of {z : Str} (h : wrd 8 z) (hk : kept.contains z = false) : isName (.str z) = true := by
  simp only [isName]
  rw [hk, Bool.and_eq_true, Bool.and_eq_true, Bool.and_eq_true, decide_eq_true_eq, decide_eq_true_eq, List.all_eq_true]
  refine ⟨⟨rfl, h.1, h.2.1⟩, fun c hc => ?_⟩
  have hc := h.2.2 c hc
  rw [decide_eq_true_eq, tl_small, List.mem_map]
  exact ⟨c - 97, List.mem_range.mpr (by omega), by omega⟩
theorem name_w {z : Str} (h : isName (.str z) = true) : wrd 8 z := by
  simp only [isName] at h
  rw [Bool.and_eq_true, Bool.and_eq_true, Bool.and_eq_true, decide_eq_true_eq, decide_eq_true_eq, List.all_eq_true] at h
  refine ⟨h.1.2.1, h.1.2.2, fun c hc => ?_⟩
  have := h.2 c hc
  rw [decide_eq_true_eq, tl_small, List.mem_map] at this
  obtain ⟨i, hi, rfl⟩ := this
  have := List.mem_range.mp hi
  omega
def namesG (b : Nat) : DFP := fun ds n Q => ∃ m : Nat, ds = [.int (m : Int)] ∧ m ≤ 20 ∧ n + b ≤ penLim ∧ ∀ (xs : List D) (n' : Nat), xs.length = m → nmL xs → n' ≤ n + b → Q (.list xs) n'
section
variable {P : Program} {w : World} {K : PySem.W.Frag} {mg : Str → Option Value} {base : Heap}
theorem ok__law_namesG (T : Tx w K mg) (O__law_take : Ok P w K mg base 2 "_law_take" ["_law_pen", "_law_many"] (spP K 1 .E takeF)) : Ok P w K mg base 3 "_law_names" ["_law_pen", "_law_many"] (spP K 1 .E (namesG 100)) := by
  refine Ok.ofP (M := []) T.d__law_names sc__law_names rfl (by decide) (by decide) fun f cdv A outer s H E p c hr => ⟨_, _, (pss_cons (ps_set (i := 2) sc__law_names.nd rfl (Or.inr rfl) (pe_str))
 (pss_cons (ps_set (i := 3) sc__law_names.nd rfl (Or.inr rfl) (joinK K rfl (pe_str) (pe_lc (own := [("_law_k", 4)]) rfl sc__law_names.nd (pi_range1 (by rfl) T.z_range (pa_cons (pe_fn O__law_take (hr.mono (by omega)) (by rfl) (pa_cons (pv 0) (pa_cons (pe_int) (pa_nil)))) (pa_nil))) (blkOk_by (own := [("_law_k", 4)]) (N := ["_law_pen", "_law_many", "_law_letters", "_law_stem", "_law_k", "_law_at", "_law_first", "_law_found", "_law_name"]) (sc := defScope s__law_names) (by decide +kernel)) (fun _ _ _ _ _ => pg_nameL (i := 4) sc__law_names.nd rfl rfl) (fun _ _ _ _ _ => pts_nil) (fun _ _ _ _ _ => pe_ix (ixG K rfl (u65 hr.toRoom)) (pv 2) (pe_fn O__law_take (hr.mono (by omega)) (by rfl) (pa_cons (pv 0) (pa_cons (pe_int) (pa_nil)))) (fun _ _ => rfl)))))
 (pss_cons (ps_set (i := 5) sc__law_names.nd rfl (Or.inr rfl) (pe_fn O__law_take (hr.mono (by omega)) (by rfl) (pa_cons (pv 0) (pa_cons (pe_op (addG K rfl) (pe_callB (lenG K rfl) (by rfl) T.z_len boot_len (pa_cons (pv 3) (pa_nil))) (pe_int)) (pa_nil)))))
 (pss_cons (ps_set (i := 6) sc__law_names.nd rfl (Or.inr rfl) (pe_fn O__law_take (hr.mono (by omega)) (by rfl) (pa_cons (pv 0) (pa_cons (pe_int) (pa_nil)))))
 (pss_cons (ps_setLc (i := 7) (own := [("_law_k", 4)]) rfl sc__law_names.nd rfl rfl (sw_true rfl rfl rfl (by decide +kernel)) (pi_range1 (by rfl) T.z_range (pa_cons (pv 1) (pa_nil))) (blkOk_by (own := [("_law_k", 4)]) (N := ["_law_pen", "_law_many", "_law_letters", "_law_stem", "_law_k", "_law_at", "_law_first", "_law_found", "_law_name"]) (sc := defScope s__law_names) (by decide +kernel)) (fun _ _ _ _ _ => pg_nameL (i := 4) sc__law_names.nd rfl rfl) (fun _ _ _ _ _ => pts_nil) (fun _ _ _ _ _ => pe_op (addG K rfl) (pe_op (addG K rfl) (pe_slice (slG K rfl) (pv 3) po_none (po_some (pv 5))) (pe_ix (ixG K rfl (u65 hr.toRoom)) (pv 2) (pe_op op_mod (pe_op (addG K rfl) (pv 6) (pe_op mulG (pe_int) (pv 4))) (pe_int)) (fun _ _ => rfl))) (pe_slice (slG K rfl) (pv 3) (po_some (pv 5)) po_none)))
 (pss_one (ps_ret (pe_lc (own := [("_law_name", 8)]) rfl sc__law_names.nd (piL K rfl (pv 7)) (blkOk_by (own := [("_law_name", 8)]) (N := ["_law_pen", "_law_many", "_law_letters", "_law_stem", "_law_k", "_law_at", "_law_first", "_law_found", "_law_name"]) (sc := defScope s__law_names) (by decide +kernel)) (fun _ _ _ _ _ => pg_nameL (i := 8) sc__law_names.nd rfl rfl) (fun _ _ _ _ _ => pts_nil) (fun _ _ _ _ _ => pe_op (addG K rfl) (pv 8) (pe_op op_repS (pe_str) (pe_callTy call_int1 (by rfl) T.z_int boot_int (pa_cons (pe_cmpR (inG K rfl (u65 hr.toRoom)) (pv 8) (pe_lst (pa_cons (pe_str) (pa_cons (pe_str) (pa_cons (pe_str) (pa_nil))))) (by rfl)) (pa_nil))))))))))))),
 (simS_seq (simS_set 2 (nm rfl) (np rfl) (sim_str _))
 (simS_seq (simS_set 3 (nm rfl) (np rfl) (sim_join (sim_str _) (sim_lc (simI_range1 (sim_callP (by simp) rfl (simA_cons (sim_int _) (simA_nil)))) (simG_name 4 (nm rfl) (np rfl)) (simT_yes) (opA_ix (sim_var 2 (nm rfl)) (sim_callP (by simp) rfl (simA_cons (sim_int _) (simA_nil)))) (inv' rfl) (nmv rfl) (npv rfl))))
 (simS_seq (simS_set 5 (nm rfl) (np rfl) (sim_callP (by simp) rfl (simA_cons (sim_op opA_add (sim_cb caA_len (simA_cons (sim_var 3 (nm rfl)) (simA_nil))) (sim_int _)) (simA_nil))))
 (simS_seq (simS_set 6 (nm rfl) (np rfl) (sim_callP (by simp) rfl (simA_cons (sim_int _) (simA_nil))))
 (simS_seq (simS_set 7 (nm rfl) (np rfl) (sim_lc (simI_range1 (sim_var 1 (nm rfl))) (simG_name 4 (nm rfl) (np rfl)) (simT_yes) (sim_op opA_add (sim_op opA_add (sim_sl (sim_var 3 (nm rfl)) simO_none (simO_some (sim_var 5 (nm rfl)))) (opA_ix (sim_var 2 (nm rfl)) (sim_op opA_mod (sim_op opA_add (sim_var 6 (nm rfl)) (sim_op opA_mul (sim_int _) (sim_var 4 (nm rfl)))) (sim_int _)))) (sim_sl (sim_var 3 (nm rfl)) (simO_some (sim_var 5 (nm rfl))) simO_none)) (inv' rfl) (nmv rfl) (npv rfl)))
 (simS_ret (Sim.toE (sim_lc (simI_list (sim_var 7 (nm rfl))) (simG_name 8 (nm rfl) (np rfl)) (simT_yes) (sim_op opA_add (sim_var 8 (nm rfl)) (sim_op opA_repS (sim_str _) (sim_cb caA_int (simA_cons (sim_op opA_in (sim_var 8 (nm rfl)) (sim_lst (by decide) (simA_cons (sim_str _) (simA_cons (sim_str _) (simA_cons (sim_str _) (simA_nil)))))) (simA_nil))))) (inv' rfl) (nmv rfl) (npv rfl))))))))), ?_⟩
  rintro ds m Q hl ⟨many, rfl, hmany, hm, k⟩
  have zl : (Str.ofString "abcdefghijklmnopqrstuvwxyz").length ≤ sizeLine := by decide +kernel
  have zat : ∀ r : Int, 0 ≤ r → r < 26 → atI (tl (Str.ofString "abcdefghijklmnopqrstuvwxyz")) r = some (97 + r.toNat) := fun r r0 r1 => by
    refine atI_of r.toNat (by (first | omega | (dsimp only; omega) | (dsimp only at *; omega))) ?_
    rw [tl_small, List.getElem?_map, List.getElem?_range (by (first | omega | (dsimp only; omega) | (dsimp only at *; omega)))]
    rfl
  refine tk_ok (by (first | omega | (dsimp only; omega) | (dsimp only at *; omega))) (by decide) (by decide) fun q q0 q1 => ?_
  refine ⟨⟨by (first | omega | (dsimp only; omega) | (dsimp only at *; omega)), by (first | omega | (dsimp only; omega) | (dsimp only at *; omega))⟩, by rw [rgD_len]; exact small_line (by (first | omega | (dsimp only; omega) | (dsimp only at *; omega))), lcD_ind (fun i acc s => ∃ (cs : List Nat) (m' : Nat), acc = ones cs ∧ cs.length = i ∧ i ≤ 7 ∧ (∀ c ∈ cs, 97 ≤ c ∧ c ≤ 122) ∧ s = { δ := [none, some (.int many), some (.str (Str.ofString "abcdefghijklmnopqrstuvwxyz")), none, none, none, none, none, none], n := m' } ∧ m' ≤ m + 1 + i) ⟨[], _, rfl, rfl, by decide, (fun c h => nomatch h), rfl, Nat.le_refl _⟩ ?_ ?_⟩
  · rintro i d acc s N hi ⟨cs, m', rfl, hc, h8, hcs, rfl, hm'⟩ hN
    obtain ⟨hi, rfl⟩ := rgD_get hi
    refine tk_ok (by (first | omega | (dsimp only; omega) | (dsimp only at *; omega))) (by decide) (by decide) fun r r0 r1 => ?_
    refine ixs_ok zl (zat r r0 r1) ?_
    refine hN _ _ ⟨cs ++ [97 + r.toNat], _, by unfold ones; rw [List.map_append]; rfl, by rw [List.length_append, hc]; rfl, by (first | omega | (dsimp only; omega) | (dsimp only at *; omega)), fun c hc => ?_, rfl, by (first | omega | (dsimp only; omega) | (dsimp only at *; omega))⟩
    rcases List.mem_append.mp hc with h | h
    · exact hcs c h
    · rw [List.mem_singleton.mp h]; (first | omega | (dsimp only; omega) | (dsimp only at *; omega))
  rintro acc s ⟨cs, m', rfl, hc, h8, hcs, rfl, hm'⟩
  rw [rgD_len] at hc h8 hm'
  refine ⟨_, strs_ones cs, ?_, ?_⟩
  · rw [ones_sum, TL.len_tl, tl_e]
    simp
    (first | omega | (dsimp only; omega) | (dsimp only at *; omega))
  rw [join_ones]
  have ln : (Sg cs : Str).length = cs.length := sg_len cs
  have hcs7 : cs.length ≤ 7 := by (first | omega | (dsimp only; omega) | (dsimp only at *; omega))
  refine ⟨by rw [ln]; exact small_line (by (first | omega | (dsimp only; omega) | (dsimp only at *; omega))), ?_⟩
  rw [ln]
  refine tk_ok (by (first | omega | (dsimp only; omega) | (dsimp only at *; omega))) (by (first | omega | (dsimp only; omega) | (dsimp only at *; omega))) (by (first | omega | (dsimp only; omega) | (dsimp only at *; omega))) fun at_ a0 a1 => ?_
  refine tk_ok (by (first | omega | (dsimp only; omega) | (dsimp only at *; omega))) (by decide) (by decide) fun fst f0 f1 => ?_
  obtain ⟨j, rfl⟩ : ∃ j : Nat, at_ = (j : Int) := ⟨at_.toNat, by (first | omega | (dsimp only; omega) | (dsimp only at *; omega))⟩
  have hj : j ≤ cs.length := by (first | omega | (dsimp only; omega) | (dsimp only at *; omega))
  refine ⟨⟨by (first | omega | (dsimp only; omega) | (dsimp only at *; omega)), by (first | omega | (dsimp only; omega) | (dsimp only at *; omega))⟩, by rw [rgD_len]; exact small_line (by (first | omega | (dsimp only; omega) | (dsimp only at *; omega))), lcD_ind (fun i acc s => acc.length = i ∧ wrdL 8 acc ∧ s = { δ := [none, some (.int many), some (.str (Str.ofString "abcdefghijklmnopqrstuvwxyz")), some (.str (Sg cs)), none, some (.int (j : Nat)), some (.int fst), none, none], n := m' + 1 + 1 }) ⟨rfl, (fun d h => nomatch h), rfl⟩ ?_ ?_⟩
  · rintro i d acc s N hi ⟨hc, hw, rfl⟩ hN
    obtain ⟨hi, rfl⟩ := rgD_get hi
    refine ⟨by rw [ln]; exact small_line (by (first | omega | (dsimp only; omega) | (dsimp only at *; omega))), ?_⟩
    rw [cutS_to]
    refine ⟨mulOk (lt2000 (by decide)) (lt2000 (Nat.lt_of_le_of_lt (show (0 + (i : Nat) : Int).natAbs ≤ 100 by (first | omega | (dsimp only; omega) | (dsimp only at *; omega))) (by decide))), by decide, ?_⟩
    have hr := Int.emod_nonneg (fst + 5 * (0 + (i : Nat))) (show (26 : Int) ≠ 0 by decide)
    have hr' := Int.emod_lt_of_pos (fst + 5 * (0 + (i : Nat))) (show (0 : Int) < 26 by decide)
    refine ixs_ok zl (zat _ hr hr') ?_
    refine ⟨?_, ?_⟩
    · rw [sg_len]; show (cs.take j).length + 1 ≤ sizeLine; exact small_line (by rw [List.length_take]; (first | omega | (dsimp only; omega) | (dsimp only at *; omega)))
    refine ⟨by rw [ln]; exact small_line (by (first | omega | (dsimp only; omega) | (dsimp only at *; omega))), ?_⟩
    rw [cutS_from cs j hj]
    have e : (Sg (cs.take j) ++ (⟨#[97 + ((fst + 5 * (0 + (i : Nat))) % 26).toNat]⟩ : Str)) = Sg (cs.take j ++ [97 + ((fst + 5 * (0 + (i : Nat))) % 26).toNat]) := sg_app _ _
    refine ⟨?_, ?_⟩
    · rw [e, sg_len, sg_len]; refine small_line ?_; rw [List.length_append, List.length_take, List.length_drop, List.length_singleton]; (first | omega | (dsimp only; omega) | (dsimp only at *; omega))
    rw [e, sg_app]
    refine hN _ _ ⟨by rw [List.length_append, hc]; rfl, hw.app (.one ⟨?_, ?_, fun c hc => ?_⟩), rfl⟩
    · rw [sg_len, List.length_append, List.length_append, List.length_singleton]; (first | omega | (dsimp only; omega) | (dsimp only at *; omega))
    · rw [sg_len, List.length_append, List.length_append, List.length_singleton, List.length_take, List.length_drop]; (first | omega | (dsimp only; omega) | (dsimp only at *; omega))
    · have hc : c ∈ cs.take j ++ [97 + ((fst + 5 * (0 + (i : Nat))) % 26).toNat] ++ cs.drop j := hc
      rcases List.mem_append.mp hc with h | h
      · rcases List.mem_append.mp h with h | h
        · exact hcs c (List.mem_of_mem_take h)
        · rw [List.mem_singleton.mp h]; (first | omega | (dsimp only; omega) | (dsimp only at *; omega))
      · exact hcs c (List.mem_of_mem_drop h)
  rintro acc s ⟨hc, hw, rfl⟩
  rw [rgD_len] at hc
  have hla : acc.length ≤ sizeLine := small_line (by (first | omega | (dsimp only; omega) | (dsimp only at *; omega)))
  refine ⟨hla, lcD_ind (fun i acc2 s => acc2.length = i ∧ nmL acc2 ∧ ∃ o1 o2, s = { δ := [none, some (.int many), some (.str (Str.ofString "abcdefghijklmnopqrstuvwxyz")), some (.str (Sg cs)), none, some (.int (j : Nat)), some (.int fst), o1, o2], n := m' + 1 + 1 }) ⟨rfl, (fun d h => nomatch h), _, _, rfl⟩ ?_ ?_⟩
  · rintro i d acc2 s N hi ⟨hc2, hw2, o1, o2, rfl⟩ hN
    obtain ⟨z, rfl, hz⟩ := hw d (List.mem_of_getElem? hi)
    have hzl := hz.2.1
    refine .inl ⟨rfl, rfl, ?_⟩
    rw [Bool.false_xor, in_kept]
    have hone : (Str.ofString "x").length = 1 := by decide +kernel
    cases hb : kept.contains z with
    | true =>
      refine ⟨by decide, by decide, by rw [hone]; decide, ?_⟩
      have e : repS (Str.ofString "x") (1 : Int).toNat = Str.ofString "x" := by decide +kernel
      show z.length + (repS (Str.ofString "x") (1 : Int).toNat).length ≤ sizeLine ∧ N (acc2 ++ [.str (z ++ repS (Str.ofString "x") (1 : Int).toNat)]) _
      rw [e]
      refine ⟨small_line (by rw [hone]; (first | omega | (dsimp only; omega) | (dsimp only at *; omega))), hN _ _ ⟨by rw [List.length_append, hc2]; rfl, hw2.app (.one ?_), _, _, rfl⟩⟩
      have hk := List.contains_iff_mem.mp hb
      simp only [kept, List.mem_cons, List.not_mem_nil, or_false] at hk
      rcases hk with rfl | rfl | rfl <;> decide +kernel
    | false =>
      refine ⟨by decide, by decide, by rw [hone]; decide, ?_⟩
      have e : repS (Str.ofString "x") (0 : Int).toNat = Str.ofString "" := by decide +kernel
      show z.length + (repS (Str.ofString "x") (0 : Int).toNat).length ≤ sizeLine ∧ N (acc2 ++ [.str (z ++ repS (Str.ofString "x") (0 : Int).toNat)]) _
      rw [e]
      have h0 : (Str.ofString "").length = 0 := by decide +kernel
      have e3 : z ++ Str.ofString "" = z := TL.ext_tl (by rw [TL.tl_append, tl_e, List.append_nil])
      rw [h0, e3]
      exact ⟨small_line (by (first | omega | (dsimp only; omega) | (dsimp only at *; omega))), hN _ _ ⟨by rw [List.length_append, hc2]; rfl, hw2.app (.one (name_of hz hb)), _, _, rfl⟩⟩
  · rintro acc2 s ⟨hc2, hw2, o1, o2, rfl⟩
    exact k acc2 _ (by (first | omega | (dsimp only; omega) | (dsimp only at *; omega))) hw2 (by (first | omega | (dsimp only; omega) | (dsimp only at *; omega)))
end

/-! ### drawn terms and rows, right by their form -/
theorem partB_up {r r' : Str → D → Bool} (h : ∀ s d, r s d = true → r' s d = true) {c : Nat} {p : D} (q : partB r c p = true) : partB r' c p = true := by
  unfold partB at q ⊢
  split at q
  · rename_i e; rw [if_pos e]; exact h _ _ q
  rename_i e; rw [if_neg e]
  split at q
  · rename_i e; rw [if_pos e]; exact h _ _ q
  rename_i e; rw [if_neg e]
  split at q
  · rename_i e; rw [if_pos e]; exact h _ _ q
  rename_i e; rw [if_neg e]
  split at q
  · rename_i e; rw [if_pos e]; exact q
  rename_i e; rw [if_neg e]
  split at q
  · rename_i e; rw [if_pos e]; exact q
  rename_i e; rw [if_neg e]
  split at q
  · rename_i e; rw [if_pos e]
    cases p <;> first | exact q | skip
    simp only [List.all_eq_true, Bool.or_eq_true] at q ⊢
    exact fun x hx => (q x hx).imp (h _ _) (h _ _)
  rename_i e; rw [if_neg e]; exact q
theorem hf_up : ∀ {k : Nat} {s : Str} {d : D}, hf k s d = true → hf (k + 1) s d = true
  | 0, s, d, h => by cases d <;> simp [hf] at h
  | k + 1, s, d, h => by
    cases d <;> try (simp [hf] at h; done)
    rename_i ds
    cases ds with
    | nil => simp [hf] at h
    | cons w ps =>
      simp only [hf, Bool.and_eq_true, List.all_eq_true] at h
      show (decide (sortOf w = s) && (decide (ps.length = (tl (kindsOf w)).length) && ((tl (kindsOf w)).zip ps).all fun x => partB (hf (k + 1)) x.1 x.2)) = true
      simp only [Bool.and_eq_true, List.all_eq_true]
      exact ⟨h.1, h.2.1, fun x hx => partB_up (fun s d => hf_up) (h.2.2 x hx)⟩
theorem hf_le {j k : Nat} {s : Str} {d : D} (l : j ≤ k) (h : hf j s d = true) : hf k s d = true := by
  induction l with
  | refl => exact h
  | step _ ih => exact hf_up ih
theorem hf_mk {k : Nat} {s w : Str} {ps : List D} {b : List Nat} (e1 : sortOf (.str w) = s ∧ tl (kindsOf (.str w)) = b) (h : ps.length = b.length) (hp : ∀ x ∈ b.zip ps, partB (hf k) x.1 x.2 = true) : hf (k + 1) s (.tuple (.str w :: ps)) = true := by
  show (decide (sortOf (.str w) = s) && (decide (ps.length = (tl (kindsOf (.str w))).length) && ((tl (kindsOf (.str w))).zip ps).all fun x => partB (hf k) x.1 x.2)) = true
  rw [e1.1, e1.2, Bool.and_eq_true, Bool.and_eq_true, decide_eq_true_eq, decide_eq_true_eq, List.all_eq_true]
  exact ⟨rfl, h, hp⟩
theorem hf1 {k : Nat} {s w : Str} {x : D} {a : Nat} (e1 : sortOf (.str w) = s ∧ tl (kindsOf (.str w)) = [a]) (hx : partB (hf k) a x = true) : hf (k + 1) s (.tuple [.str w, x]) = true :=
  hf_mk e1 rfl fun p hp => by
    simp only [List.zip_cons_cons, List.zip_nil_right, List.mem_singleton] at hp
    rw [hp]; exact hx
theorem hf2 {k : Nat} {s w : Str} {x y : D} {a b : Nat} (e1 : sortOf (.str w) = s ∧ tl (kindsOf (.str w)) = [a, b]) (hx : partB (hf k) a x = true) (hy : partB (hf k) b y = true) : hf (k + 1) s (.tuple [.str w, x, y]) = true :=
  hf_mk e1 rfl fun p hp => by
    simp only [List.zip_cons_cons, List.zip_nil_right, List.mem_cons, List.not_mem_nil, or_false] at hp
    rcases hp with rfl | rfl
    · exact hx
    · exact hy
theorem hf3 {k : Nat} {s w : Str} {x y z : D} {a b c : Nat} (e1 : sortOf (.str w) = s ∧ tl (kindsOf (.str w)) = [a, b, c]) (hx : partB (hf k) a x = true) (hy : partB (hf k) b y = true) (hz : partB (hf k) c z = true) : hf (k + 1) s (.tuple [.str w, x, y, z]) = true :=
  hf_mk e1 rfl fun p hp => by
    simp only [List.zip_cons_cons, List.zip_nil_right, List.mem_cons, List.not_mem_nil, or_false] at hp
    rcases hp with rfl | rfl | rfl
    · exact hx
    · exact hy
    · exact hz
abbrev sT : Str := Str.ofString "term"
abbrev sR : Str := Str.ofString "row"
abbrev sP : Str := Str.ofString "plain"
theorem pT {k : Nat} {x : D} (h : hf k sT x = true) : partB (hf k) 116 x = true := by unfold partB; rw [if_pos rfl]; exact h
theorem pR {k : Nat} {x : D} (h : hf k sR x = true) : partB (hf k) 114 x = true := by unfold partB; rw [if_neg (by decide), if_pos rfl]; exact h
theorem pP {k : Nat} {x : D} (h : hf k sP x = true) : partB (hf k) 112 x = true := by unfold partB; rw [if_neg (by decide), if_neg (by decide), if_pos rfl]; exact h
theorem pX {k : Nat} {x : D} (h : isLetter false x = true) : partB (hf k) 120 x = true := by unfold partB; rw [if_neg (by decide), if_neg (by decide), if_neg (by decide), if_pos (.inl rfl)]; exact h
theorem pY {k : Nat} {x : D} (h : isLetter true x = true) : partB (hf k) 121 x = true := by unfold partB; rw [if_neg (by decide), if_neg (by decide), if_neg (by decide), if_pos (.inr rfl)]; exact h
theorem pA {k : Nat} {x : D} (h : isName x = true) : partB (hf k) 97 x = true := by unfold partB; rw [if_neg (by decide), if_neg (by decide), if_neg (by decide), if_neg (by decide), if_pos rfl]; exact h
theorem pB {k : Nat} {qs : List D} (h : ∀ q ∈ qs, hf k sT q = true ∨ hf k sR q = true) : partB (hf k) 98 (.tuple qs) = true := by
  unfold partB; rw [if_neg (by decide), if_neg (by decide), if_neg (by decide), if_neg (by decide), if_neg (by decide), if_pos rfl]
  simp only [List.all_eq_true, Bool.or_eq_true]
  exact h
theorem pN {k : Nat} {i : Int} : partB (hf k) 110 (.int i) = true := by unfold partB; rw [if_neg (by decide), if_neg (by decide), if_neg (by decide), if_neg (by decide), if_neg (by decide), if_neg (by decide)]; rfl
theorem pK {k : Nat} {i : Int} (h : inBy (.int i) = true) : partB (hf k) 107 (.int i) = true := by unfold partB; rw [if_neg (by decide), if_neg (by decide), if_neg (by decide), if_neg (by decide), if_neg (by decide), if_neg (by decide), h]; rfl
def envKV (nums rows : List D) (nots : List (D × D)) : List (D × D) := [(.str (Str.ofString "numbers"), .list nums), (.str (Str.ofString "rows"), .list rows), (.str (Str.ofString "notions"), .dict nots)]
theorem kv_n {nums rows : List D} {nots : List (D × D)} : findD (envKV nums rows nots) (.str (Str.ofString "numbers")) = some (.list nums) := by
  have : keyIs (.str (Str.ofString "numbers")) (.str (Str.ofString "numbers")) = true := by decide +kernel
  unfold envKV
  rw [findD, if_pos this]
theorem kv_r {nums rows : List D} {nots : List (D × D)} : findD (envKV nums rows nots) (.str (Str.ofString "rows")) = some (.list rows) := by
  have h1 : ¬ keyIs (.str (Str.ofString "numbers")) (.str (Str.ofString "rows")) = true := by decide +kernel
  have h2 : keyIs (.str (Str.ofString "rows")) (.str (Str.ofString "rows")) = true := by decide +kernel
  unfold envKV
  rw [findD, if_neg h1, findD, if_pos h2]
theorem kv_o {nums rows : List D} {nots : List (D × D)} : findD (envKV nums rows nots) (.str (Str.ofString "notions")) = some (.dict nots) := by
  have h1 : ¬ keyIs (.str (Str.ofString "numbers")) (.str (Str.ofString "notions")) = true := by decide +kernel
  have h2 : ¬ keyIs (.str (Str.ofString "rows")) (.str (Str.ofString "notions")) = true := by decide +kernel
  have h3 : keyIs (.str (Str.ofString "notions")) (.str (Str.ofString "notions")) = true := by decide +kernel
  unfold envKV
  rw [findD, if_neg h1, findD, if_neg h2, findD, if_pos h3]
def isIS : D → Bool
  | .int _ => true
  | .str _ => true
  | _ => false
def Lets (row : Bool) (xs : List D) : Prop := xs ≠ [] ∧ xs.length ≤ 20 ∧ ∀ x ∈ xs, Bt 0 251 x ∧ isIS x = true ∧ isLetter row x = true
def Nots (nots : List (D × D)) : Prop := ∃ names : List Str, nots.map Prod.fst = names.map PyData.str ∧ names.length < 64 ∧ ∀ z ∈ names, (wOk z = true ∧ isName (.str z) = true) ∧ ∃ ks : List Str, findD nots (.str z) = some (.list (ks.map PyData.str)) ∧ ks.length ≤ 3
def EnvP (e : D) : Prop := ∃ nums rows nots, e = .dict (envKV nums rows nots) ∧ (Lets false nums ∧ ∃ i : Int, PyData.int i ∈ nums) ∧ Lets true rows ∧ Nots nots
def hh (j : Nat) : Nat := 2 * j + 1
def tt : Nat → Nat
  | 0 => 400
  | j + 1 => 3 * tt j + 400
def cst : Nat → Nat
  | 0 => 1000
  | j + 1 => 100 * cst j
theorem cst_le : ∀ j, 1000 ≤ cst j
  | 0 => Nat.le_refl _
  | j + 1 => by have := cst_le j; show 1000 ≤ 100 * cst j; omega
theorem tt_le : ∀ j, 400 ≤ tt j
  | 0 => Nat.le_refl _
  | j + 1 => by show 400 ≤ 3 * tt j + 400; omega
/-- a drawn thing of depth j -/
def Dr (s : Str) (j : Nat) (x : D) : Prop := Bt (hh j) (tt j) x ∧ hf (j + 1) s x = true
def gtF (s : Str) (j : Nat) : DFP := fun ds n Q => ∃ e, ds = [.int (j : Int), e] ∧ EnvP e ∧ n + cst j ≤ penLim ∧ ∀ (x : D) (n' : Nat), Dr s j x → n' ≤ n + cst j → Q x n'
def gpF (j : Nat) : DFP := fun ds n Q => ∃ (e : D) (ks : List Str), ds = [.int (j : Int), e, .list (ks.map PyData.str)] ∧ ks.length ≤ 3 ∧ EnvP e ∧ n + 10 * cst j ≤ penLim ∧ ∀ (xs : List D) (n' : Nat), xs.length ≤ 3 → (∀ x ∈ xs, Dr sT j x ∨ Dr sR j x) → n' ≤ n + 10 * cst j → Q (.tuple xs) n'
/-- at every depth up to b -/
def upF (F : Nat → DFP) (b : Nat) : DFP := fun ds n Q => ∃ j, j ≤ b ∧ F j ds n Q
section
variable {P : Program} {w : World} {K : PySem.W.Frag} {mg : Str → Option Value} {base : Heap}
abbrev gPs : List Str := ["_law_pen", "_law_deep", "_law_env"]
theorem grow_body (T : Tx w K mg) (O__law_take : Ok P w K mg base 2 "_law_take" ["_law_pen", "_law_many"] (spP K 1 .E takeF)) {b l : Nat} (hl2 : 2 ≤ l) {FT FR : DFP} (hT : ∀ i, i + 1 ≤ b → ∀ ds n Q, gtF sT i ds n Q → FT ds n Q) (hR : ∀ i, i + 1 ≤ b → ∀ ds n Q, gtF sR i ds n Q → FR ds n Q)
    (O__law_gterm : Ok P w K mg base l "_law_gterm" gPs (spP K 2 .E FT)) (O__law_grow : Ok P w K mg base l "_law_grow" gPs (spP K 2 .E FR)) : Ok P w K mg base (l + 1) "_law_grow" gPs (spP K 2 .E (upF (gtF sR) b)) := by
  refine Ok.ofP (M := []) T.d__law_grow sc__law_grow rfl (by decide) (by decide) fun f cdv A outer s H E p c hr => ⟨_, _, (pss_cons (ps_set (i := 3) sc__law_grow.nd rfl (Or.inl rfl) (pe_fn O__law_take (hr.mono (by omega)) (by rfl) (pa_cons (pv 0) (pa_cons (pe_int) (pa_nil)))))
 (pss_cons (ps_if (PW.pt (pw_or (pt_cmpR (eqG K rfl hr.units) (pv 1) (pe_int) (nomark _)) (pw_or1 (pt_cmpR op_lt (pv 3) (pe_int) (nomark _)))))
 (pss_one (ps_ret (pe_tupZ (pa_cons (pe_str) (pa_cons (pe_ix (ixG K rfl (u65 hr.toRoom)) (pe_ix (ixG K rfl (u65 hr.toRoom)) (pv 2) (pe_str) (fun _ _ => rfl)) (pe_fn O__law_take (hr.mono (by omega)) (by rfl) (pa_cons (pv 0) (pa_cons (pe_callB (lenG K rfl) (by rfl) T.z_len boot_len (pa_cons (pe_ix (ixG K rfl (u65 hr.toRoom)) (pv 2) (pe_str) (fun _ _ => rfl)) (pa_nil))) (pa_nil)))) (fun _ _ => rfl)) (pa_nil))))))
 (pss_nil))
 (pss_cons (ps_if (pt_cmpR (eqG K rfl hr.units) (pv 3) (pe_int) (nomark _))
 (pss_one (ps_ret (pe_tupZ (pa_cons (pe_str) (pa_cons (pe_fn O__law_gterm (hr.mono (by omega)) (by rfl) (pa_cons (pv 0) (pa_cons (pe_op op_sub (pv 1) (pe_int)) (pa_cons (pv 2) (pa_nil))))) (pa_nil))))))
 (pss_nil))
 (pss_cons (ps_set (i := 4) sc__law_grow.nd rfl (Or.inl rfl) (pe_fn O__law_grow (hr.mono (by omega)) (by rfl) (pa_cons (pv 0) (pa_cons (pe_op op_sub (pv 1) (pe_int)) (pa_cons (pv 2) (pa_nil))))))
 (pss_one (ps_ret (pe_tupZ (pa_cons (pe_str) (pa_cons (pv 4) (pa_cons (pe_fn O__law_gterm (hr.mono (by omega)) (by rfl) (pa_cons (pv 0) (pa_cons (pe_op op_sub (pv 1) (pe_int)) (pa_cons (pv 2) (pa_nil))))) (pa_cons (pe_fn O__law_gterm (hr.mono (by omega)) (by rfl) (pa_cons (pv 0) (pa_cons (pe_op op_sub (pv 1) (pe_int)) (pa_cons (pv 2) (pa_nil))))) (pa_nil)))))))))))),
 (simS_seq (simS_set 3 (nm rfl) (np rfl) (sim_callP (by simp) rfl (simA_cons (sim_int _) (simA_nil))))
 (simS_seq (simS_if (simT_or (simT_test (sim_op opA_eq (sim_var 1 (nm rfl)) (sim_int _))) (simT_test (sim_op (opA_cmp _) (sim_var 3 (nm rfl)) (sim_int _))))
 (simS_ret (Sim.toE (sim_tup (by decide) (simA_cons (sim_str _) (simA_cons (opA_ix (opA_ix (sim_var 2 (nm rfl)) (sim_str _)) (sim_callP (by simp) rfl (simA_cons (sim_cb caA_len (simA_cons (opA_ix (sim_var 2 (nm rfl)) (sim_str _)) (simA_nil))) (simA_nil)))) (simA_nil))))))
 (simS_next))
 (simS_seq (simS_if (simT_test (sim_op opA_eq (sim_var 3 (nm rfl)) (sim_int _)))
 (simS_ret (Sim.toE (sim_tup (by decide) (simA_cons (sim_str _) (simA_cons (sim_callP (by simp) rfl (simA_cons (sim_op opA_sub (sim_var 1 (nm rfl)) (sim_int _)) (simA_cons (sim_var 2 (nm rfl)) (simA_nil)))) (simA_nil))))))
 (simS_next))
 (simS_seq (simS_set 4 (nm rfl) (np rfl) (sim_callP (by simp) rfl (simA_cons (sim_op opA_sub (sim_var 1 (nm rfl)) (sim_int _)) (simA_cons (sim_var 2 (nm rfl)) (simA_nil)))))
 (simS_ret (Sim.toE (sim_tup (by decide) (simA_cons (sim_str _) (simA_cons (sim_var 4 (nm rfl)) (simA_cons (sim_callP (by simp) rfl (simA_cons (sim_op opA_sub (sim_var 1 (nm rfl)) (sim_int _)) (simA_cons (sim_var 2 (nm rfl)) (simA_nil)))) (simA_cons (sim_callP (by simp) rfl (simA_cons (sim_op opA_sub (sim_var 1 (nm rfl)) (sim_int _)) (simA_cons (sim_var 2 (nm rfl)) (simA_nil)))) (simA_nil)))))))))))), ?_⟩
  rintro ds m Q hl ⟨j, hjb, e, rfl, he, hm, k⟩
  have hc := cst_le j
  have htt := tt_le j
  have he' := he
  obtain ⟨nums, rows, nots, rfl, ⟨hn, hni⟩, hrw, hno⟩ := he
  refine tk_ok (by (first | omega | (dsimp only; omega) | (dsimp only at *; omega))) (by decide) (by decide) fun way w0 w1 => ?_
  dsimp only
  refine seqIf (b := decide ((j : Int) = 0) || decide (way < 2)) (tst_or (fun Q q => q) (fun _ => fun Q q => q)) (fun h => ?_) (fun h => ?_)
  · have hp : 0 < rows.length := List.length_pos_iff.mpr hrw.1
    have hp2 := hrw.2.1
    refine ⟨_, kv_r, ⟨_, kv_r, ?_⟩⟩
    refine tk_ok (by (first | omega | (dsimp only; omega) | (dsimp only at *; omega))) (by (first | omega | (dsimp only; omega) | (dsimp only at *; omega))) (by (first | omega | (dsimp only; omega) | (dsimp only at *; omega))) fun r r0 r1 => ix_any r0 r1 fun x hx => ?_
    exact k _ _ ⟨(bt2 (by decide +kernel) (hrw.2.2 x hx).1).to (by unfold hh; omega) (by (first | omega | (dsimp only; omega) | (dsimp only at *; omega))), hf1 ⟨by decide +kernel, by decide +kernel⟩ (pY (hrw.2.2 x hx).2.2)⟩ (by (first | omega | (dsimp only; omega) | (dsimp only at *; omega)))
  rw [Bool.or_eq_false_iff] at h
  have hj0 := of_decide_eq_false h.1
  obtain ⟨i, rfl⟩ : ∃ i, j = i + 1 := ⟨j - 1, by omega⟩
  have ec : cst (i + 1) = 100 * cst i := rfl
  have et : tt (i + 1) = 3 * tt i + 400 := rfl
  have hci := cst_le i
  have ei : ((i + 1 : Nat) : Int) - 1 = (i : Int) := by omega
  refine seqIf (b := decide (way = 2)) (fun Q q => q) (fun h2 => ?_) (fun h2 => ?_)
  · refine hT i hjb _ _ _ ⟨_, by rw [← ei], he', by (first | omega | (dsimp only; omega) | (dsimp only at *; omega)), fun x n1 hx hn1 => ?_⟩
    have hn1 : n1 ≤ m + 1 + cst i := hn1
    exact k _ _ ⟨(bt2 (by decide +kernel) hx.1).to (by unfold hh; omega) (by (first | omega | (dsimp only; omega) | (dsimp only at *; omega))), hf1 ⟨by decide +kernel, by decide +kernel⟩ (pT hx.2)⟩ (by (first | omega | (dsimp only; omega) | (dsimp only at *; omega)))
  refine hR i hjb _ _ _ ⟨_, by rw [← ei], he', by (first | omega | (dsimp only; omega) | (dsimp only at *; omega)), fun x n1 hx hn1 => ?_⟩
  have hn1 : n1 ≤ m + 1 + cst i := hn1
  refine hT i hjb _ _ _ ⟨_, by rw [← ei], he', by (first | omega | (dsimp only; omega) | (dsimp only at *; omega)), fun y n2 hy hn2 => ?_⟩
  have hn2 : n2 ≤ n1 + cst i := hn2
  refine hT i hjb _ _ _ ⟨_, by rw [← ei], he', by (first | omega | (dsimp only; omega) | (dsimp only at *; omega)), fun z n3 hz hn3 => ?_⟩
  have hn3 : n3 ≤ n2 + cst i := hn3
  exact k _ _ ⟨(bt4 (by decide +kernel) hx.1 hy.1 hz.1).to (by unfold hh; omega) (by (first | omega | (dsimp only; omega) | (dsimp only at *; omega))), hf3 ⟨by decide +kernel, by decide +kernel⟩ (pR hx.2) (pT hy.2) (pT hz.2)⟩ (by (first | omega | (dsimp only; omega) | (dsimp only at *; omega)))
theorem gplaces_body (T : Tx w K mg) {b l : Nat} (O__law_gterm : Ok P w K mg base l "_law_gterm" gPs (spP K 2 .E (upF (gtF sT) b))) (O__law_grow : Ok P w K mg base l "_law_grow" gPs (spP K 2 .E (upF (gtF sR) b))) : Ok P w K mg base (l + 1) "_law_gplaces" ["_law_pen", "_law_deep", "_law_env", "_law_kinds"] (spP K 3 .E (upF gpF b)) := by
  refine Ok.ofP (M := [4]) T.d__law_gplaces sc__law_gplaces rfl (by decide) (by decide) fun f cdv A outer s H E p c hr => ⟨_, _, (pss_cons (ps_set (i := 4) sc__law_gplaces.nd rfl (Or.inl rfl) (pe_lst (pa_nil)))
 (pss_cons (ps_for PassesOwn.never rfl (piL K rfl (pv 3)) (pg_nameL (i := 5) sc__law_gplaces.nd rfl rfl)
 (pss_one (ps_expr (appK K rfl (pv 4) (pe_ifExp (pt_cmpR (eqG K rfl hr.units) (pv 5) (pe_str) (nomark _)) (pe_fn O__law_grow (hr.mono (by omega)) (by rfl) (pa_cons (pv 0) (pa_cons (pv 1) (pa_cons (pv 2) (pa_nil))))) (pe_fn O__law_gterm (hr.mono (by omega)) (by rfl) (pa_cons (pv 0) (pa_cons (pv 1) (pa_cons (pv 2) (pa_nil))))))))))
 (pss_one (ps_ret (pe_callTy (tupQ K rfl) (by rfl) T.z_tuple boot_tuple (pa_cons (pv 4) pa_nil)))))),
 (simS_seq (simS_setM 4 (ym rfl) (nb rfl) (sim_lst (by decide) (simA_nil)))
 (simS_cut (simS_for (simI_list (sim_var 3 (nm rfl))) (simG_name 5 (nm rfl) (np rfl))
 (simS_drop (sim_mt 4 (ym rfl) mtA_app (simA_cons (sim_if (simT_test (sim_op opA_eq (sim_var 5 (nm rfl)) (sim_str _))) (Sim.toE (sim_callP (by simp) rfl (simA_cons (sim_var 1 (nm rfl)) (simA_cons (sim_var 2 (nm rfl)) (simA_nil))))) (Sim.toE (sim_callP (by simp) rfl (simA_cons (sim_var 1 (nm rfl)) (simA_cons (sim_var 2 (nm rfl)) (simA_nil)))))) simA_nil))))
 (simS_ret (Sim.toE (sim_cbM 4 (ym rfl) caA_tup))))), ?_⟩
  rintro ds m Q hl ⟨j, hjb, e, ks, rfl, hks, he, hm, k⟩
  have hc := cst_le j
  refine ⟨rfl, fun s => ∃ (xs : List D) (n1 : Nat) (o : Option D), s = { δ := [none, some (.int (j : Int)), some e, some (.list (ks.map PyData.str)), some (.list xs), o], n := n1 } ∧ xs.length ≤ 3 ∧ (∀ x ∈ xs, Dr sT j x ∨ Dr sR j x) ∧ n1 ≤ m + 10 * cst j, ?_, ?_⟩
  · refine forD_ind (fun i s => ∃ (xs : List D) (n1 : Nat) (o : Option D), s = { δ := [none, some (.int (j : Int)), some e, some (.list (ks.map PyData.str)), some (.list xs), o], n := n1 } ∧ xs.length = i ∧ (∀ x ∈ xs, Dr sT j x ∨ Dr sR j x) ∧ n1 ≤ m + i * cst j) ⟨[], m, none, rfl, rfl, (fun x h => nomatch h), by omega⟩ ?_ ?_
    · rintro i d s N hd ⟨xs, n1, o, rfl, hx, hb, hn1⟩ hN
      have hi : i < ks.length := by
        have := (List.getElem?_eq_some_iff.mp hd).1
        rwa [List.length_map] at this
      obtain ⟨z, rfl⟩ : ∃ z, d = .str z := by
        obtain ⟨z, _, rfl⟩ := List.mem_map.mp (List.mem_of_getElem? hd)
        exact ⟨z, rfl⟩
      have hi3 : i * cst j ≤ 2 * cst j := Nat.mul_le_mul_right _ (by omega)
      have es : (i + 1) * cst j = i * cst j + cst j := Nat.succ_mul _ _
      refine ⟨⟨_, rfl⟩, ite_either (fun h => ?_) (fun h => ?_)⟩
      · refine ⟨j, hjb, e, rfl, he, by (first | omega | (dsimp only; omega) | (dsimp only at *; omega)), fun x n2 hx2 hn2 => ⟨small1000 (by (first | omega | (dsimp only; omega) | (dsimp only at *; omega))), hN _ ⟨xs ++ [x], n2, _, rfl, by rw [List.length_append, hx]; rfl, fun y hy => ?_, by have hn2 : n2 ≤ n1 + cst j := hn2; (first | omega | (dsimp only; omega) | (dsimp only at *; omega))⟩⟩⟩
        rcases List.mem_append.mp hy with hy | hy
        · exact hb y hy
        · rw [List.mem_singleton.mp hy]; exact .inr hx2
      · refine ⟨j, hjb, e, rfl, he, by (first | omega | (dsimp only; omega) | (dsimp only at *; omega)), fun x n2 hx2 hn2 => ⟨small1000 (by (first | omega | (dsimp only; omega) | (dsimp only at *; omega))), hN _ ⟨xs ++ [x], n2, _, rfl, by rw [List.length_append, hx]; rfl, fun y hy => ?_, by have hn2 : n2 ≤ n1 + cst j := hn2; (first | omega | (dsimp only; omega) | (dsimp only at *; omega))⟩⟩⟩
        rcases List.mem_append.mp hy with hy | hy
        · exact hb y hy
        · rw [List.mem_singleton.mp hy]; exact .inl hx2
    · rintro s ⟨xs, n1, o, rfl, hx, hb, hn1⟩
      rw [List.length_map] at hx hn1
      have hi3 : ks.length * cst j ≤ 3 * cst j := Nat.mul_le_mul_right _ hks
      exact ⟨xs, n1, o, rfl, by omega, hb, by omega⟩
  rintro s ⟨xs, n1, o, rfl, hx, hb, hn1⟩
  exact k xs n1 hx hb hn1
theorem gterm_body (T : Tx w K mg) (O__law_take : Ok P w K mg base 2 "_law_take" ["_law_pen", "_law_many"] (spP K 1 .E takeF)) (O__law_gnumber : Ok P w K mg base 3 "_law_gnumber" ["_law_pen"] (spP K 0 .E (numF 100))) {b l : Nat} (hl3 : 3 ≤ l) {FT FR FP : DFP} (hT : ∀ i, i + 1 ≤ b → ∀ ds n Q, gtF sT i ds n Q → FT ds n Q) (hR : ∀ i, i + 1 ≤ b → ∀ ds n Q, gtF sR i ds n Q → FR ds n Q) (hP : ∀ i, i + 1 ≤ b → ∀ ds n Q, gpF i ds n Q → FP ds n Q)
    (O__law_gterm : Ok P w K mg base l "_law_gterm" gPs (spP K 2 .E FT)) (O__law_grow : Ok P w K mg base l "_law_grow" gPs (spP K 2 .E FR)) (O__law_gplaces : Ok P w K mg base l "_law_gplaces" ["_law_pen", "_law_deep", "_law_env", "_law_kinds"] (spP K 3 .E FP)) : Ok P w K mg base (l + 1) "_law_gterm" gPs (spP K 2 .E (upF (gtF sT) b)) := by
  refine Ok.ofP (M := []) T.d__law_gterm sc__law_gterm rfl (by decide) (by decide) fun f cdv A outer s H E p c hr => ⟨_, _, (pss_cons (ps_set (i := 3) sc__law_gterm.nd rfl (Or.inl rfl) (pe_fn O__law_take (hr.mono (by omega)) (by rfl) (pa_cons (pv 0) (pa_cons (pe_op (addG K rfl) (pe_int) (pe_callTy call_int1 (by rfl) T.z_int boot_int (pa_cons (pe_cmpR (neG K rfl hr.units) (pe_ix (ixG K rfl (u65 hr.toRoom)) (pv 2) (pe_str) (fun _ _ => rfl)) (pe_dnewK) (nomark _)) (pa_nil)))) (pa_nil)))))
 (pss_cons (ps_if (PW.pt (pw_or (pt_cmpR (eqG K rfl hr.units) (pv 1) (pe_int) (nomark _)) (pw_or1 (pt_cmpR op_lt (pv 3) (pe_int) (nomark _)))))
 (pss_cons (ps_if (pt_cmpR (eqG K rfl hr.units) (pe_fn O__law_take (hr.mono (by omega)) (by rfl) (pa_cons (pv 0) (pa_cons (pe_int) (pa_nil)))) (pe_int) (nomark _))
 (pss_one (ps_ret (pe_tupZ (pa_cons (pe_str) (pa_cons (pe_fn O__law_gnumber (hr.mono (by omega)) (by rfl) (pa_cons (pv 0) (pa_nil))) (pa_nil))))))
 (pss_nil))
 (pss_one (ps_ret (pe_tupZ (pa_cons (pe_str) (pa_cons (pe_ix (ixG K rfl (u65 hr.toRoom)) (pe_ix (ixG K rfl (u65 hr.toRoom)) (pv 2) (pe_str) (fun _ _ => rfl)) (pe_fn O__law_take (hr.mono (by omega)) (by rfl) (pa_cons (pv 0) (pa_cons (pe_callB (lenG K rfl) (by rfl) T.z_len boot_len (pa_cons (pe_ix (ixG K rfl (u65 hr.toRoom)) (pv 2) (pe_str) (fun _ _ => rfl)) (pa_nil))) (pa_nil)))) (fun _ _ => rfl)) (pa_nil)))))))
 (pss_nil))
 (pss_cons (ps_if (pt_cmpR (eqG K rfl hr.units) (pv 3) (pe_int) (nomark _))
 (pss_one (ps_ret (pe_tupZ (pa_cons (pe_str) (pa_cons (pe_fn O__law_gnumber (hr.mono (by omega)) (by rfl) (pa_cons (pv 0) (pa_nil))) (pa_cons (pe_fn O__law_gterm (hr.mono (by omega)) (by rfl) (pa_cons (pv 0) (pa_cons (pe_op op_sub (pv 1) (pe_int)) (pa_cons (pv 2) (pa_nil))))) (pa_nil)))))))
 (pss_nil))
 (pss_cons (ps_if (pt_cmpR (eqG K rfl hr.units) (pv 3) (pe_int) (nomark _))
 (pss_one (ps_ret (pe_tupZ (pa_cons (pe_str) (pa_cons (pe_fn O__law_grow (hr.mono (by omega)) (by rfl) (pa_cons (pv 0) (pa_cons (pe_op op_sub (pv 1) (pe_int)) (pa_cons (pv 2) (pa_nil))))) (pa_nil))))))
 (pss_nil))
 (pss_cons (ps_if (pt_cmpR op_lt (pv 3) (pe_int) (nomark _))
 (pss_one (ps_ret (pe_tupZ (pa_cons (pe_str) (pa_cons (pe_fn O__law_grow (hr.mono (by omega)) (by rfl) (pa_cons (pv 0) (pa_cons (pe_op op_sub (pv 1) (pe_int)) (pa_cons (pv 2) (pa_nil))))) (pa_cons (pe_fn O__law_gterm (hr.mono (by omega)) (by rfl) (pa_cons (pv 0) (pa_cons (pe_op op_sub (pv 1) (pe_int)) (pa_cons (pv 2) (pa_nil))))) (pa_nil)))))))
 (pss_nil))
 (pss_cons (ps_if (pt_cmpR (eqG K rfl hr.units) (pv 3) (pe_int) (nomark _))
 (pss_cons (ps_set (i := 4) sc__law_gterm.nd rfl (Or.inl rfl) (pe_ix (ixG K rfl (u65 hr.toRoom)) (pe_lst (pa_cons (pe_int) (pa_cons (pe_int) (pa_cons (pe_int) (pa_cons (pe_int) (pa_cons (pe_op op_pow (pe_int) (pe_int)) (pa_nil))))))) (pe_fn O__law_take (hr.mono (by omega)) (by rfl) (pa_cons (pv 0) (pa_cons (pe_int) (pa_nil)))) (fun _ _ => rfl)))
 (pss_one (ps_ret (pe_tupZ (pa_cons (pe_ix (ixG K rfl (u65 hr.toRoom)) (pe_lst (pa_cons (pe_str) (pa_cons (pe_str) (pa_nil)))) (pe_fn O__law_take (hr.mono (by omega)) (by rfl) (pa_cons (pv 0) (pa_cons (pe_int) (pa_nil)))) (fun _ _ => rfl)) (pa_cons (pe_fn O__law_gterm (hr.mono (by omega)) (by rfl) (pa_cons (pv 0) (pa_cons (pe_op op_sub (pv 1) (pe_int)) (pa_cons (pv 2) (pa_nil))))) (pa_cons (pv 4) (pa_nil))))))))
 (pss_nil))
 (pss_cons (ps_if (pt_cmpR op_lt (pv 3) (pe_int) (nomark _))
 (pss_one (ps_ret (pe_tupZ (pa_cons (pe_str) (pa_cons (pe_fn O__law_gterm (hr.mono (by omega)) (by rfl) (pa_cons (pv 0) (pa_cons (pe_op op_sub (pv 1) (pe_int)) (pa_cons (pv 2) (pa_nil))))) (pa_cons (pe_fn O__law_gterm (hr.mono (by omega)) (by rfl) (pa_cons (pv 0) (pa_cons (pe_op op_sub (pv 1) (pe_int)) (pa_cons (pv 2) (pa_nil))))) (pa_nil)))))))
 (pss_nil))
 (pss_cons (ps_set (i := 5) sc__law_gterm.nd rfl (Or.inl rfl) (pe_ix (ixG K rfl (u65 hr.toRoom)) (pe_callB (sortG K rfl rfl) (by rfl) T.z_sorted boot_sorted (pa_cons (pe_ix (ixG K rfl (u65 hr.toRoom)) (pv 2) (pe_str) (fun _ _ => rfl)) (pa_nil))) (pe_fn O__law_take (hr.mono (by omega)) (by rfl) (pa_cons (pv 0) (pa_cons (pe_callB (lenG K rfl) (by rfl) T.z_len boot_len (pa_cons (pe_ix (ixG K rfl (u65 hr.toRoom)) (pv 2) (pe_str) (fun _ _ => rfl)) (pa_nil))) (pa_nil)))) (fun _ _ => rfl)))
 (pss_one (ps_ret (pe_tupZ (pa_cons (pe_str) (pa_cons (pv 5) (pa_cons (pe_fn O__law_gplaces (hr.mono (by omega)) (by rfl) (pa_cons (pv 0) (pa_cons (pe_op op_sub (pv 1) (pe_int)) (pa_cons (pv 2) (pa_cons (pe_ix (ixG K rfl (u65 hr.toRoom)) (pe_ix (ixG K rfl (u65 hr.toRoom)) (pv 2) (pe_str) (fun _ _ => rfl)) (pv 5) (fun _ _ => rfl)) (pa_nil)))))) (pa_nil))))))))))))))),
 (simS_seq (simS_set 3 (nm rfl) (np rfl) (sim_callP (by simp) rfl (simA_cons (sim_op opA_add (sim_int _) (sim_cb caA_int (simA_cons (sim_op opA_ne (opA_ix (sim_var 2 (nm rfl)) (sim_str _)) (sim_dnew)) (simA_nil)))) (simA_nil))))
 (simS_seq (simS_if (simT_or (simT_test (sim_op opA_eq (sim_var 1 (nm rfl)) (sim_int _))) (simT_test (sim_op (opA_cmp _) (sim_var 3 (nm rfl)) (sim_int _))))
 (simS_seq (simS_if (simT_test (sim_op opA_eq (sim_callP (by simp) rfl (simA_cons (sim_int _) (simA_nil))) (sim_int _)))
 (simS_ret (Sim.toE (sim_tup (by decide) (simA_cons (sim_str _) (simA_cons (sim_callP (by simp) rfl (simA_nil)) (simA_nil))))))
 (simS_next))
 (simS_ret (Sim.toE (sim_tup (by decide) (simA_cons (sim_str _) (simA_cons (opA_ix (opA_ix (sim_var 2 (nm rfl)) (sim_str _)) (sim_callP (by simp) rfl (simA_cons (sim_cb caA_len (simA_cons (opA_ix (sim_var 2 (nm rfl)) (sim_str _)) (simA_nil))) (simA_nil)))) (simA_nil)))))))
 (simS_next))
 (simS_seq (simS_if (simT_test (sim_op opA_eq (sim_var 3 (nm rfl)) (sim_int _)))
 (simS_ret (Sim.toE (sim_tup (by decide) (simA_cons (sim_str _) (simA_cons (sim_callP (by simp) rfl (simA_nil)) (simA_cons (sim_callP (by simp) rfl (simA_cons (sim_op opA_sub (sim_var 1 (nm rfl)) (sim_int _)) (simA_cons (sim_var 2 (nm rfl)) (simA_nil)))) (simA_nil)))))))
 (simS_next))
 (simS_seq (simS_if (simT_test (sim_op opA_eq (sim_var 3 (nm rfl)) (sim_int _)))
 (simS_ret (Sim.toE (sim_tup (by decide) (simA_cons (sim_str _) (simA_cons (sim_callP (by simp) rfl (simA_cons (sim_op opA_sub (sim_var 1 (nm rfl)) (sim_int _)) (simA_cons (sim_var 2 (nm rfl)) (simA_nil)))) (simA_nil))))))
 (simS_next))
 (simS_seq (simS_if (simT_test (sim_op (opA_cmp _) (sim_var 3 (nm rfl)) (sim_int _)))
 (simS_ret (Sim.toE (sim_tup (by decide) (simA_cons (sim_str _) (simA_cons (sim_callP (by simp) rfl (simA_cons (sim_op opA_sub (sim_var 1 (nm rfl)) (sim_int _)) (simA_cons (sim_var 2 (nm rfl)) (simA_nil)))) (simA_cons (sim_callP (by simp) rfl (simA_cons (sim_op opA_sub (sim_var 1 (nm rfl)) (sim_int _)) (simA_cons (sim_var 2 (nm rfl)) (simA_nil)))) (simA_nil)))))))
 (simS_next))
 (simS_seq (simS_if (simT_test (sim_op opA_eq (sim_var 3 (nm rfl)) (sim_int _)))
 (simS_cut (simS_set 4 (nm rfl) (np rfl) (opA_ix (sim_lst (by decide) (simA_cons (sim_int _) (simA_cons (sim_int _) (simA_cons (sim_int _) (simA_cons (sim_int _) (simA_cons (sim_op opA_pow (sim_int _) (sim_int _)) (simA_nil))))))) (sim_callP (by simp) rfl (simA_cons (sim_int _) (simA_nil)))))
 (simS_ret (Sim.toE (sim_tup (by decide) (simA_cons (opA_ix (sim_lst (by decide) (simA_cons (sim_str _) (simA_cons (sim_str _) (simA_nil)))) (sim_callP (by simp) rfl (simA_cons (sim_int _) (simA_nil)))) (simA_cons (sim_callP (by simp) rfl (simA_cons (sim_op opA_sub (sim_var 1 (nm rfl)) (sim_int _)) (simA_cons (sim_var 2 (nm rfl)) (simA_nil)))) (simA_cons (sim_var 4 (nm rfl)) (simA_nil))))))))
 (simS_next))
 (simS_seq (simS_if (simT_test (sim_op (opA_cmp _) (sim_var 3 (nm rfl)) (sim_int _)))
 (simS_ret (Sim.toE (sim_tup (by decide) (simA_cons (sim_str _) (simA_cons (sim_callP (by simp) rfl (simA_cons (sim_op opA_sub (sim_var 1 (nm rfl)) (sim_int _)) (simA_cons (sim_var 2 (nm rfl)) (simA_nil)))) (simA_cons (sim_callP (by simp) rfl (simA_cons (sim_op opA_sub (sim_var 1 (nm rfl)) (sim_int _)) (simA_cons (sim_var 2 (nm rfl)) (simA_nil)))) (simA_nil)))))))
 (simS_next))
 (simS_seq (simS_set 5 (nm rfl) (np rfl) (opA_ix (sim_cb caA_sort (simA_cons (opA_ix (sim_var 2 (nm rfl)) (sim_str _)) (simA_nil))) (sim_callP (by simp) rfl (simA_cons (sim_cb caA_len (simA_cons (opA_ix (sim_var 2 (nm rfl)) (sim_str _)) (simA_nil))) (simA_nil)))))
 (simS_ret (Sim.toE (sim_tup (by decide) (simA_cons (sim_str _) (simA_cons (sim_var 5 (nm rfl)) (simA_cons (sim_callP (by simp) rfl (simA_cons (sim_op opA_sub (sim_var 1 (nm rfl)) (sim_int _)) (simA_cons (sim_var 2 (nm rfl)) (simA_cons (opA_ix (opA_ix (sim_var 2 (nm rfl)) (sim_str _)) (sim_var 5 (nm rfl))) (simA_nil))))) (simA_nil))))))))))))))), ?_⟩
  rintro ds m Q hl ⟨j, hjb, e, rfl, he, hm, k⟩
  have hc := cst_le j
  have htt := tt_le j
  have he' := he
  obtain ⟨nums, rows, nots, rfl, ⟨hn, hni⟩, hrw, hno⟩ := he
  have hp : 0 < nums.length := List.length_pos_iff.mpr hn.1
  have hp2 := hn.2.1
  refine ⟨_, kv_o, ?_⟩
  have hbi : ∀ b : Bool, (0 : Int) < 9 + (if b then 1 else 0) ∧ (9 + (if b then 1 else 0) : Int) ≤ 10 := fun b => by cases b <;> decide
  have hb2 := hbi (!nots.isEmpty)
  refine tk_ok (by (first | omega | (dsimp only; omega) | (dsimp only at *; omega))) hb2.1 (by omega) fun way w0 w1 => ?_
  dsimp only
  have num : ∀ {i : Int}, i.natAbs < 10 ^ 40 → ∀ {h : Nat}, Bt h 251 (.int i) := fun {i} hi {h} => Bt.int (Nat.lt_of_lt_of_le hi (Nat.pow_le_pow_right (by decide) (by decide)))
  refine seqIf (b := decide ((j : Int) = 0) || decide (way < 2)) (tst_or (fun Q q => q) (fun _ => fun Q q => q)) (fun h => ?_) (fun h => ?_)
  · refine tk_ok (by (first | omega | (dsimp only; omega) | (dsimp only at *; omega))) (by decide) (by decide) fun r r0 r1 => ite_either (fun h1 => ?_) (fun h1 => ?_)
    · refine ⟨rfl, by (first | omega | (dsimp only; omega) | (dsimp only at *; omega)), fun i n1 hi hn1 => ?_⟩
      have hn1 : n1 ≤ m + 1 + 1 + 100 := hn1
      exact k _ _ ⟨(bt2 (h := 0) (by decide +kernel) (num hi)).to (by unfold hh; omega) (by (first | omega | (dsimp only; omega) | (dsimp only at *; omega))), hf1 ⟨by decide +kernel, by decide +kernel⟩ pN⟩ (by (first | omega | (dsimp only; omega) | (dsimp only at *; omega)))
    · refine ⟨_, kv_n, ⟨_, kv_n, ?_⟩⟩
      refine tk_ok (by (first | omega | (dsimp only; omega) | (dsimp only at *; omega))) (by (first | omega | (dsimp only; omega) | (dsimp only at *; omega))) (by (first | omega | (dsimp only; omega) | (dsimp only at *; omega))) fun r r0 r1 => ix_any r0 r1 fun x hx => ?_
      exact k _ _ ⟨(bt2 (by decide +kernel) (hn.2.2 x hx).1).to (by unfold hh; omega) (by (first | omega | (dsimp only; omega) | (dsimp only at *; omega))), hf1 ⟨by decide +kernel, by decide +kernel⟩ (pX (hn.2.2 x hx).2.2)⟩ (by (first | omega | (dsimp only; omega) | (dsimp only at *; omega)))
  rw [Bool.or_eq_false_iff] at h
  have hj0 := of_decide_eq_false h.1
  obtain ⟨i, rfl⟩ : ∃ i, j = i + 1 := ⟨j - 1, by omega⟩
  have ec : cst (i + 1) = 100 * cst i := rfl
  have et : tt (i + 1) = 3 * tt i + 400 := rfl
  have hci := cst_le i
  have hti := tt_le i
  have ei : ((i + 1 : Nat) : Int) - 1 = (i : Int) := by omega
  have eh : hh (i + 1) = hh i + 2 := by unfold hh; omega
  -- mul
  refine seqIf (b := decide (way = 2)) (fun Q q => q) (fun h2 => ?_) (fun h2 => ?_)
  · refine ⟨rfl, by (first | omega | (dsimp only; omega) | (dsimp only at *; omega)), fun a n1 ha hn1 => ?_⟩
    have hn1 : n1 ≤ m + 1 + 100 := hn1
    refine hT i hjb _ _ _ ⟨_, by rw [← ei], he', by (first | omega | (dsimp only; omega) | (dsimp only at *; omega)), fun x n2 hx hn2 => ?_⟩
    have hn2 : n2 ≤ n1 + cst i := hn2
    exact k _ _ ⟨(bt3 (by decide +kernel) (num ha) hx.1).to (by omega) (by (first | omega | (dsimp only; omega) | (dsimp only at *; omega))), hf2 ⟨by decide +kernel, by decide +kernel⟩ pN (pT hx.2)⟩ (by (first | omega | (dsimp only; omega) | (dsimp only at *; omega)))
  -- size
  refine seqIf (b := decide (way = 3)) (fun Q q => q) (fun h2 => ?_) (fun h2 => ?_)
  · refine hR i hjb _ _ _ ⟨_, by rw [← ei], he', by (first | omega | (dsimp only; omega) | (dsimp only at *; omega)), fun x n1 hx hn1 => ?_⟩
    have hn1 : n1 ≤ m + 1 + cst i := hn1
    exact k _ _ ⟨(bt2 (by decide +kernel) hx.1).to (by omega) (by (first | omega | (dsimp only; omega) | (dsimp only at *; omega))), hf1 ⟨by decide +kernel, by decide +kernel⟩ (pR hx.2)⟩ (by (first | omega | (dsimp only; omega) | (dsimp only at *; omega)))
  -- read
  refine seqIf (b := decide (way < 6)) (fun Q q => q) (fun h2 => ?_) (fun h2 => ?_)
  · refine hR i hjb _ _ _ ⟨_, by rw [← ei], he', by (first | omega | (dsimp only; omega) | (dsimp only at *; omega)), fun x n1 hx hn1 => ?_⟩
    have hn1 : n1 ≤ m + 1 + cst i := hn1
    refine hT i hjb _ _ _ ⟨_, by rw [← ei], he', by (first | omega | (dsimp only; omega) | (dsimp only at *; omega)), fun y n2 hy hn2 => ?_⟩
    have hn2 : n2 ≤ n1 + cst i := hn2
    exact k _ _ ⟨(bt3 (by decide +kernel) hx.1 hy.1).to (by omega) (by (first | omega | (dsimp only; omega) | (dsimp only at *; omega))), hf2 ⟨by decide +kernel, by decide +kernel⟩ (pR hx.2) (pT hy.2)⟩ (by (first | omega | (dsimp only; omega) | (dsimp only at *; omega)))
  -- div, mod
  refine seqIf (b := decide (way = 6)) (fun Q q => q) (fun h2 => ?_) (fun h2 => ?_)
  · refine ⟨fun s => ∃ (v : Int) (n1 : Nat), (v.natAbs < 10 ^ 40 ∧ inBy (.int v) = true) ∧ n1 ≤ m + 10 ∧ s = { δ := [none, some (.int ((i + 1 : Nat) : Int)), some (.dict (envKV nums rows nots)), some (.int way), some (.int v), none], n := n1 }, ?_, ?_⟩
    · refine ⟨⟨by decide, by decide, by decide⟩, ?_⟩
      refine tk_ok (by (first | omega | (dsimp only; omega) | (dsimp only at *; omega))) (by decide) (by decide) fun q q0 q1 => ix_any q0 q1 fun d hd => ?_
      have hi : ∃ i : Int, d = .int i ∧ (i.natAbs < 10 ^ 40 ∧ inBy (.int i) = true) := by
        simp only [List.mem_cons, List.not_mem_nil, or_false] at hd
        rcases hd with rfl | rfl | rfl | rfl | rfl
        · exact ⟨_, rfl, by decide, by decide +kernel⟩
        · exact ⟨_, rfl, by decide, by decide +kernel⟩
        · exact ⟨_, rfl, by decide, by decide +kernel⟩
        · exact ⟨_, rfl, by decide, by decide +kernel⟩
        · exact ⟨_, rfl, by decide, by decide +kernel⟩
      obtain ⟨v, rfl, hv⟩ := hi
      exact ⟨v, _, hv, by (first | omega | (dsimp only; omega) | (dsimp only at *; omega)), rfl⟩
    rintro s ⟨v, n1, hv, hn1, rfl⟩
    refine tk_ok (by (first | omega | (dsimp only; omega) | (dsimp only at *; omega))) (by decide) (by decide) fun q q0 q1 => ix_any q0 q1 fun d hd => ?_
    refine hT i hjb _ _ _ ⟨_, by rw [← ei], he', by (first | omega | (dsimp only; omega) | (dsimp only at *; omega)), fun x n2 hx hn2 => ?_⟩
    have hn2 : n2 ≤ n1 + 1 + cst i := hn2
    simp only [List.mem_cons, List.not_mem_nil, or_false] at hd
    rcases hd with rfl | rfl
    · exact k _ _ ⟨(bt3 (by decide +kernel) hx.1 (num hv.1)).to (by omega) (by (first | omega | (dsimp only; omega) | (dsimp only at *; omega))), hf2 ⟨by decide +kernel, by decide +kernel⟩ (pT hx.2) (pK hv.2)⟩ (by (first | omega | (dsimp only; omega) | (dsimp only at *; omega)))
    · exact k _ _ ⟨(bt3 (by decide +kernel) hx.1 (num hv.1)).to (by omega) (by (first | omega | (dsimp only; omega) | (dsimp only at *; omega))), hf2 ⟨by decide +kernel, by decide +kernel⟩ (pT hx.2) (pK hv.2)⟩ (by (first | omega | (dsimp only; omega) | (dsimp only at *; omega)))
  -- add
  refine seqIf (b := decide (way < 9)) (fun Q q => q) (fun h2 => ?_) (fun h2 => ?_)
  · refine hT i hjb _ _ _ ⟨_, by rw [← ei], he', by (first | omega | (dsimp only; omega) | (dsimp only at *; omega)), fun x n1 hx hn1 => ?_⟩
    have hn1 : n1 ≤ m + 1 + cst i := hn1
    refine hT i hjb _ _ _ ⟨_, by rw [← ei], he', by (first | omega | (dsimp only; omega) | (dsimp only at *; omega)), fun y n2 hy hn2 => ?_⟩
    have hn2 : n2 ≤ n1 + cst i := hn2
    exact k _ _ ⟨(bt3 (by decide +kernel) hx.1 hy.1).to (by omega) (by (first | omega | (dsimp only; omega) | (dsimp only at *; omega))), hf2 ⟨by decide +kernel, by decide +kernel⟩ (pT hx.2) (pT hy.2)⟩ (by (first | omega | (dsimp only; omega) | (dsimp only at *; omega)))
  -- notion
  have h9 := of_decide_eq_false h2
  have hne : nots.isEmpty = false := by
    cases hx : nots.isEmpty with
    | false => rfl
    | true =>
      rw [hx] at w1
      have w1 : way < 9 + 0 := w1
      omega
  obtain ⟨names, en, hl64, hnm⟩ := hno
  have hlen : nots.length = names.length := by
    have := congrArg List.length en
    rwa [List.length_map, List.length_map] at this
  have hpos : 0 < nots.length := by
    cases nots with
    | nil => cases hne
    | cons a b => simp
  refine ⟨_, kv_o, names, en, hl64, fun ys hperm hsrt => ⟨_, kv_o, ?_⟩⟩
  refine tk_ok (by (first | omega | (dsimp only; omega) | (dsimp only at *; omega))) (by (first | omega | (dsimp only; omega) | (dsimp only at *; omega))) (by (first | omega | (dsimp only; omega) | (dsimp only at *; omega))) fun q q0 q1 => ix_any q0 (by rw [List.length_map, hperm.length_eq, ← hlen]; exact q1) fun d hd => ?_
  obtain ⟨z, hz, rfl⟩ := List.mem_map.mp hd
  obtain ⟨hzo, ks, hks, hk3⟩ := hnm z (hperm.mem_iff.mp hz)
  refine ⟨_, kv_o, ⟨_, hks, ?_⟩⟩
  refine hP i hjb _ _ _ ⟨_, ks, by rw [← ei], hk3, he', by (first | omega | (dsimp only; omega) | (dsimp only at *; omega)), fun xs n1 hx3 hxs hn1 => ?_⟩
  have hn1 : n1 ≤ m + 1 + 1 + 10 * cst i := hn1
  have hm3 : xs.length * (tt i + 2) ≤ 3 * (tt i + 2) := Nat.mul_le_mul_right _ hx3
  have hxs2 : Bt (hh i + 1) (3 * (tt i + 2) + 3) (.tuple xs) := (Bt.tup (BtL.all fun x hx => (hxs x hx).elim And.left And.left)).to (Nat.le_refl _) (by omega)
  exact k _ _ ⟨(bt3 (by decide +kernel) (bt_w hzo.1) hxs2).to (by omega) (by (first | omega | (dsimp only; omega) | (dsimp only at *; omega))), hf2 ⟨by decide +kernel, by decide +kernel⟩ (pA hzo.2) (pB fun q hq => (hxs q hq).imp And.right And.right)⟩ (by (first | omega | (dsimp only; omega) | (dsimp only at *; omega)))
theorem ok_gt (T : Tx w K mg) (O__law_take : Ok P w K mg base 2 "_law_take" ["_law_pen", "_law_many"] (spP K 1 .E takeF)) (O__law_gnumber : Ok P w K mg base 3 "_law_gnumber" ["_law_pen"] (spP K 0 .E (numF 100))) : ∀ j, Ok P w K mg base (2 * j + 4) "_law_gterm" gPs (spP K 2 .E (upF (gtF sT) j)) ∧ Ok P w K mg base (2 * j + 4) "_law_grow" gPs (spP K 2 .E (upF (gtF sR) j)) := by
  intro j
  induction j with
  | zero =>
    have N1 : Ok P w K mg base 3 "_law_gterm" gPs (spP K 2 .E fun _ _ _ => False) := (Ok.no T.d__law_gterm sc__law_gterm (spP_no fun ds n Q h => h)).mono (by omega)
    have N2 : Ok P w K mg base 3 "_law_grow" gPs (spP K 2 .E fun _ _ _ => False) := (Ok.no T.d__law_grow sc__law_grow (spP_no fun ds n Q h => h)).mono (by omega)
    have N3 : Ok P w K mg base 3 "_law_gplaces" ["_law_pen", "_law_deep", "_law_env", "_law_kinds"] (spP K 3 .E fun _ _ _ => False) := (Ok.no T.d__law_gplaces sc__law_gplaces (spP_no fun ds n Q h => h)).mono (by omega)
    exact ⟨gterm_body T O__law_take O__law_gnumber (Nat.le_refl _) (fun i h => by omega) (fun i h => by omega) (fun i h => by omega) N1 N2 N3, grow_body T O__law_take (by omega) (fun i h => by omega) (fun i h => by omega) N1 N2⟩
  | succ j ih =>
    obtain ⟨h1, h2⟩ := ih
    have h3 := gplaces_body T h1 h2
    have cl : ∀ {F : Nat → DFP} i, i + 1 ≤ j + 1 → ∀ ds n Q, F i ds n Q → upF F j ds n Q := fun i e ds n Q h => ⟨i, by omega, h⟩
    exact ⟨gterm_body T O__law_take O__law_gnumber (by omega) (cl (F := gtF sT)) (cl (F := gtF sR)) (cl (F := gpF)) (h1.mono (by omega)) (h2.mono (by omega)) h3, grow_body T O__law_take (by omega) (cl (F := gtF sT)) (cl (F := gtF sR)) (h1.mono (by omega)) (h2.mono (by omega))⟩
end

/-! ### drawn sayings, letters -/
def tp (j : Nat) : Nat := 3 * tt j
def gqF (j : Nat) : DFP := fun ds n Q => ∃ e, ds = [.int (j : Int), e] ∧ EnvP e ∧ n + 10 * cst j ≤ penLim ∧ ∀ (x : D) (n' : Nat), Bt (hh j + 1) (tp j) x ∧ hf (j + 2) sP x = true → n' ≤ n + 10 * cst j → Q x n'
def gsF (j : Nat) : DFP := fun ds n Q => ∃ e, ds = [.int (j : Int), e] ∧ EnvP e ∧ n + 20 * cst j + 10 * cst 1 ≤ penLim ∧ ∀ (x : D) (n' : Nat), Bt (hh j + 5) (tp j + 8000) x ∧ (hf (j + 2) sP x = true ∨ hf (j + 4) (Str.ofString "all") x = true) → n' ≤ n + 20 * cst j + 10 * cst 1 → Q x n'
theorem max_sub (j : Nat) : (if (j : Int) - 1 > 0 then (j : Int) - 1 else 0) = ((j - 1 : Nat) : Int) := by
  split <;> omega
theorem cst_mono {i j : Nat} (h : i ≤ j) : cst i ≤ cst j := by
  induction h with
  | refl => exact Nat.le_refl _
  | step _ ih => show _ ≤ 100 * cst _; omega
theorem tt_mono {i j : Nat} (h : i ≤ j) : tt i ≤ tt j := by
  induction h with
  | refl => exact Nat.le_refl _
  | step _ ih => show _ ≤ 3 * tt _ + 400; omega
section
variable {P : Program} {w : World} {K : PySem.W.Frag} {mg : Str → Option Value} {base : Heap}
theorem neOwn {x : D} {Q : D → Prop} (h : isIS x = true) (q : ∀ b, Q (.bool b)) : neD x (.str (Str.ofString "own")) Q := by
  cases x <;> first | (cases h; done) | exact q _
theorem neOwn_int {i : Int} {Q : D → Prop} (q : Q (.bool true)) : neD (.int i) (.str (Str.ofString "own")) Q := q
theorem put_n {nums rows : List D} {nots : List (D × D)} {v : D} : putD (envKV nums rows nots) (.str (Str.ofString "numbers")) v = [(.str (Str.ofString "numbers"), v), (.str (Str.ofString "rows"), .list rows), (.str (Str.ofString "notions"), .dict nots)] := by
  have h0 : keyIs (.str (Str.ofString "numbers")) (.str (Str.ofString "numbers")) = true := by decide +kernel
  have h1 : ¬ keyIs (.str (Str.ofString "rows")) (.str (Str.ofString "numbers")) = true := by decide +kernel
  have h2 : ¬ keyIs (.str (Str.ofString "notions")) (.str (Str.ofString "numbers")) = true := by decide +kernel
  unfold putD
  rw [kv_n]
  simp only [Option.isSome_some, if_true]
  simp only [envKV, List.map_cons, List.map_nil, if_pos h0, if_neg h1, if_neg h2]
theorem put_o {nums rows : List D} {nots : List (D × D)} {v : D} : putD (envKV nums rows nots) (.str (Str.ofString "notions")) v = [(.str (Str.ofString "numbers"), .list nums), (.str (Str.ofString "rows"), .list rows), (.str (Str.ofString "notions"), v)] := by
  have h0 : ¬ keyIs (.str (Str.ofString "numbers")) (.str (Str.ofString "notions")) = true := by decide +kernel
  have h1 : ¬ keyIs (.str (Str.ofString "rows")) (.str (Str.ofString "notions")) = true := by decide +kernel
  have h2 : keyIs (.str (Str.ofString "notions")) (.str (Str.ofString "notions")) = true := by decide +kernel
  unfold putD
  rw [kv_o]
  simp only [Option.isSome_some, if_true]
  simp only [envKV, List.map_cons, List.map_nil, if_neg h0, if_neg h1, if_pos h2]
end

/-! ### terms and rows as such, what they are worth at a table -/
mutual
inductive Tm
  | num (i : Int) | name (x : D) | mul (i : Int) (t : Tm) | size (r : Rw) | read (r : Rw) (t : Tm) | dv (t : Tm) (k : Int) | md (t : Tm) (k : Int) | add (a b : Tm)
inductive Rw
  | row (y : D) | room (t : Tm) | wth (r : Rw) (a b : Tm)
end
mutual
def Tm.d : Tm → D
  | .num i => .tuple [.str "num", .int i]
  | .name x => .tuple [.str "name", x]
  | .mul i t => .tuple [.str "mul", .int i, t.d]
  | .size r => .tuple [.str "size", r.d]
  | .read r t => .tuple [.str "read", r.d, t.d]
  | .dv t k => .tuple [.str "div", t.d, .int k]
  | .md t k => .tuple [.str "mod", t.d, .int k]
  | .add a b => .tuple [.str "add", a.d, b.d]
def Rw.d : Rw → D
  | .row y => .tuple [.str "row", y]
  | .room t => .tuple [.str "room", t.d]
  | .wth r a b => .tuple [.str "with", r.d, a.d, b.d]
end
/-- a row's worth: its size, its numbers by their places -/
abbrev RV2 := Int × (Int → Int)
abbrev Pl := List (Int × Int)

def rowD (s : Int) (ps : Pl) : D := .tuple [.int s, .tuple (ps.map ipT)]
def getP (ps : Pl) (p : Int) : Int := ((ps.find? fun q => decide (q.1 = p)).map (·.2)).getD 0
/-- in order, none of them 0 -/
structure RowIs (f : Int → Int) (ps : Pl) : Prop where
  srt : ps.Pairwise (fun a b => a.1 < b.1)
  nz : ∀ q ∈ ps, q.2 ≠ 0
  get : ∀ p, getP ps p = f p
abbrev Wv := Int ⊕ (Int × Pl)
def wD : Wv → D
  | .inl i => .int i
  | .inr (s, ps) => rowD s ps
abbrev Tab := List (D × Wv)
def tabD (t : Tab) : List (D × D) := t.map fun p => (p.1, wD p.2)
def findW : Tab → D → Option Wv
  | [], _ => none
  | (k, d) :: r, x => if keyIs k x = true then some d else findW r x
theorem findW_D (x : D) : ∀ t : Tab, findD (tabD t) x = (findW t x).map wD
  | [] => rfl
  | (k, d) :: r => by
    show (if keyIs k x = true then some (wD d) else findD (tabD r) x) = ((if keyIs k x = true then some d else findW r x).map wD)
    split
    · rfl
    · exact findW_D x r
def updF (f : Int → Int) (p n : Int) : Int → Int := fun q => if q = p then n else f q
mutual
def ev (t : Tab) : Tm → Option Int
  | .num i => some i
  | .name x => match findW t x with
    | some (.inl i) => some i
    | _ => none
  | .mul i a => (ev t a).map (i * ·)
  | .size r => (evR t r).map (·.1)
  | .read r a => (evR t r).bind fun u => (ev t a).map u.2
  | .dv a k => (ev t a).map (· / k)
  | .md a k => (ev t a).map (· % k)
  | .add a b => (ev t a).bind fun i => (ev t b).map (i + ·)
def evR (t : Tab) : Rw → Option RV2
  | .row y => match findW t y with
    | some (.inr (s, ps)) => some (s, getP ps)
    | _ => none
  | .room a => (ev t a).map fun i => (max i 0, fun _ => 0)
  | .wth r a b => (evR t r).bind fun u => (ev t a).bind fun p => (ev t b).map fun n => (u.1, updF u.2 p n)
end
mutual
/-- well made, at depth n: the numbers not too great -/
def Tm.ok : Nat → Tm → Prop
  | _, .num i => i.natAbs ≤ 10 ^ 40
  | _, .name x => isKey x = true
  | n + 1, .mul i a => i.natAbs ≤ 10 ^ 40 ∧ a.ok n
  | n + 1, .size r => r.ok n
  | n + 1, .read r a => r.ok n ∧ a.ok n
  | n + 1, .dv a k => 0 < k ∧ k ≤ 10 ^ 9 ∧ a.ok n
  | n + 1, .md a k => 0 < k ∧ k ≤ 10 ^ 9 ∧ a.ok n
  | n + 1, .add a b => a.ok n ∧ b.ok n
  | 0, _ => False
def Rw.ok : Nat → Rw → Prop
  | _, .row y => isKey y = true
  | n + 1, .room a => a.ok n
  | n + 1, .wth r a b => r.ok n ∧ a.ok n ∧ b.ok n
  | 0, _ => False
end
def vb (n : Nat) : Nat := 10 ^ (40 * (n + 1))
theorem vb_pos (n : Nat) : 0 < vb n := Nat.pow_pos (by decide)
theorem vb_le {m n : Nat} (h : m ≤ n) : vb m ≤ vb n := Nat.pow_le_pow_right (by decide) (by omega)
theorem vb_succ (n : Nat) : vb (n + 1) = 10 ^ 40 * vb n := by
  unfold vb
  rw [← Nat.pow_add]
  congr 1
  omega
/-- a row's list: how long, how great -/
structure PlOk (n : Nat) (ps : Pl) : Prop where
  len : ps.length ≤ 10 + n
  abs : ∀ q ∈ ps, q.1.natAbs ≤ vb n ∧ q.2.natAbs ≤ vb n
structure TabOk (t : Tab) : Prop where
  key : ∀ p ∈ t, isKey p.1 = true
  int : ∀ k i, (k, Sum.inl i) ∈ t → i.natAbs ≤ 10 ^ 40
  row : ∀ k s ps, (k, Sum.inr (s, ps)) ∈ t → s.natAbs ≤ 10 ^ 40 ∧ RowIs (getP ps) ps ∧ PlOk 0 ps
theorem findW_mem {x : D} : ∀ {t : Tab} {v : Wv}, findW t x = some v → ∃ k, (k, v) ∈ t
  | [], _, h => by cases h
  | (k, d) :: r, v, h => by
    have h : (if keyIs k x = true then some d else findW r x) = some v := h
    split at h
    · cases h
      exact ⟨k, List.mem_cons_self ..⟩
    · obtain ⟨k', m⟩ := findW_mem h
      exact ⟨k', List.mem_cons_of_mem _ m⟩
/-! places -/
theorem getP_nil (p : Int) : getP [] p = 0 := rfl
theorem getP_cons (q : Int × Int) (ps : Pl) (p : Int) : getP (q :: ps) p = if q.1 = p then q.2 else getP ps p := by
  unfold getP
  rw [List.find?_cons]
  by_cases h : q.1 = p
  · rw [if_pos h, decide_eq_true h]; rfl
  · rw [if_neg h, decide_eq_false h]
theorem getP_out {ps : Pl} {p : Int} (h : ∀ q ∈ ps, q.1 ≠ p) : getP ps p = 0 := by
  induction ps with
  | nil => rfl
  | cons q ps ih =>
    rw [getP_cons, if_neg (h q (List.mem_cons_self ..))]
    exact ih fun r m => h r (List.mem_cons_of_mem _ m)
theorem getP_in {ps : Pl} (hs : ps.Pairwise (fun a b => a.1 < b.1)) {q : Int × Int} (m : q ∈ ps) : getP ps q.1 = q.2 := by
  induction ps with
  | nil => cases m
  | cons r ps ih =>
    rw [getP_cons]
    obtain ⟨h1, h2⟩ := List.pairwise_cons.mp hs
    rcases List.mem_cons.mp m with rfl | m
    · rw [if_pos rfl]
    · rw [if_neg (by have := h1 q m; omega)]
      exact ih h2 m
theorem RowIs.uniq {f : Int → Int} : ∀ {ps qs : Pl}, RowIs f ps → RowIs f qs → ps = qs := by
  intro ps
  induction ps generalizing f with
  | nil =>
    intro qs hp hq
    cases qs with
    | nil => rfl
    | cons q qs =>
      exfalso
      have h1 := hq.get q.1
      rw [getP_cons, if_pos rfl, ← hp.get q.1] at h1
      exact hq.nz q (List.mem_cons_self ..) h1
  | cons p ps ih =>
    intro qs hp hq
    cases qs with
    | nil =>
      exfalso
      have h1 := hp.get p.1
      rw [getP_cons, if_pos rfl, ← hq.get p.1] at h1
      exact hp.nz p (List.mem_cons_self ..) h1
    | cons q qs =>
      obtain ⟨p1, p2⟩ := List.pairwise_cons.mp hp.srt
      obtain ⟨q1, q2⟩ := List.pairwise_cons.mp hq.srt
      have fp : getP (p :: ps) p.1 = p.2 := by rw [getP_cons, if_pos rfl]
      have fq : getP (q :: qs) q.1 = q.2 := by rw [getP_cons, if_pos rfl]
      have ep : getP (q :: qs) p.1 = p.2 := by rw [hq.get, ← hp.get, fp]
      have eq : getP (p :: ps) q.1 = q.2 := by rw [hp.get, ← hq.get, fq]
      have e1 : p.1 = q.1 := by
        rcases Int.lt_trichotomy p.1 q.1 with h | h | h
        · exfalso
          have z : getP (q :: qs) p.1 = 0 := getP_out fun r m => by
            rcases List.mem_cons.mp m with rfl | m
            · omega
            · have := q1 r m; omega
          rw [z] at ep
          exact hp.nz p (List.mem_cons_self ..) ep.symm
        · exact h
        · exfalso
          have z : getP (p :: ps) q.1 = 0 := getP_out fun r m => by
            rcases List.mem_cons.mp m with rfl | m
            · omega
            · have := p1 r m; omega
          rw [z] at eq
          exact hq.nz q (List.mem_cons_self ..) eq.symm
      have e2 : p = q := Prod.ext e1 (by rw [← fp, ← fq, hp.get, hq.get, e1])
      subst e2
      congr 1
      refine ih (f := fun x => if x = p.1 then 0 else f x) ⟨p2, fun r m => hp.nz r (List.mem_cons_of_mem _ m), fun x => ?_⟩ ⟨q2, fun r m => hq.nz r (List.mem_cons_of_mem _ m), fun x => ?_⟩
      · by_cases h : x = p.1
        · rw [if_pos h]
          exact getP_out fun r m => by have := p1 r m; omega
        · rw [if_neg h, ← hp.get, getP_cons, if_neg (fun z => h z.symm)]
      · by_cases h : x = p.1
        · rw [if_pos h]
          exact getP_out fun r m => by have := q1 r m; omega
        · rw [if_neg h, ← hq.get, getP_cons, if_neg (fun z => h z.symm)]
theorem getP_le {n : Nat} {ps : Pl} (h : PlOk n ps) (p : Int) : (getP ps p).natAbs ≤ vb n := by
  unfold getP
  cases e : ps.find? fun q => decide (q.1 = p) with
  | none => exact Nat.zero_le _
  | some q => exact (h.abs q (List.mem_of_find?_eq_some e)).2
theorem PlOk.mono {m n : Nat} {ps : Pl} (h : PlOk m ps) (l : m ≤ n) : PlOk n ps := ⟨by have := h.len; omega, fun q hq => ⟨Nat.le_trans (h.abs q hq).1 (vb_le l), Nat.le_trans (h.abs q hq).2 (vb_le l)⟩⟩
/-- a row's worth that a list of places bears out -/
def RvOk (n : Nat) (u : RV2) : Prop := u.1.natAbs ≤ vb n ∧ ∃ ps, RowIs u.2 ps ∧ PlOk n ps
/-! the numbers of a row anew -/
theorem getP_filter {ps : Pl} (nd : (ps.map (·.1)).Nodup) (p : Int) : getP (ps.filter fun q => decide (q.2 ≠ 0)) p = getP ps p := by
  induction ps with
  | nil => rfl
  | cons q ps ih =>
    rw [List.map_cons, List.nodup_cons] at nd
    rw [List.filter_cons, getP_cons]
    by_cases h0 : q.2 = 0
    · rw [if_neg (by simp [h0]), ih nd.2]
      by_cases h : q.1 = p
      · rw [if_pos h, h0]
        refine getP_out fun r m e => nd.1 ?_
        rw [h, ← e]
        exact List.mem_map.mpr ⟨r, m, rfl⟩
      · rw [if_neg h]
    · rw [if_pos (by simp [h0]), getP_cons, ih nd.2]
theorem getP_perm {ps qs : Pl} (h : ps.Perm qs) (nd : (ps.map (·.1)).Nodup) (p : Int) : getP ps p = getP qs p := by
  induction h with
  | nil => rfl
  | cons x h ih =>
    rw [List.map_cons, List.nodup_cons] at nd
    rw [getP_cons, getP_cons, ih nd.2]
  | swap x y l =>
    rw [List.map_cons, List.map_cons, List.nodup_cons] at nd
    rw [getP_cons, getP_cons, getP_cons, getP_cons]
    by_cases h1 : y.1 = p
    · by_cases h2 : x.1 = p
      · exfalso
        exact nd.1 (by rw [h1, ← h2]; exact List.mem_cons_self ..)
      · rw [if_pos h1, if_neg h2, if_pos h1]
    · rw [if_neg h1, if_neg h1]
  | trans h1 h2 ih1 ih2 => exact (ih1 nd).trans (ih2 ((h1.map _).nodup_iff.mp nd))
theorem srt_of {qs : Pl} (h : SrtO.Srtd SrtO.lexB qs) (nd : (qs.map (·.1)).Nodup) : qs.Pairwise (fun a b => a.1 < b.1) := by
  unfold SrtO.Srtd at h
  unfold List.Nodup at nd
  rw [List.pairwise_map] at nd
  refine (h.and nd).imp fun {a b} ⟨h1, h2⟩ => ?_
  have := SrtO.lexB_no.mp h1
  omega
theorem rowIs_of {ps qs : Pl} (hp : qs.Perm ps) (hs : SrtO.Srtd SrtO.lexB qs) (nd : (ps.map (·.1)).Nodup) : RowIs (getP ps) (qs.filter fun q => decide (q.2 ≠ 0)) := by
  have nq : (qs.map (·.1)).Nodup := (hp.map _).nodup_iff.mpr nd
  refine ⟨(srt_of hs nq).filter _, fun q m => ?_, fun p => ?_⟩
  · simpa using (List.mem_filter.mp m).2
  · rw [getP_filter nq, getP_perm hp nq]
/-- put a number at a place -/
def putP (ps : Pl) (p n : Int) : Pl := if (ps.any fun q => decide (q.1 = p)) = true then ps.map fun q => if q.1 = p then (q.1, n) else q else ps ++ [(p, n)]
theorem putP_get (ps : Pl) (p n x : Int) : getP (putP ps p n) x = updF (getP ps) p n x := by
  unfold putP updF
  split
  · rename_i h
    induction ps with
    | nil => cases h
    | cons q ps ih =>
      rw [List.map_cons, getP_cons, getP_cons]
      by_cases e : q.1 = p
      · rw [if_pos e]
        by_cases hx : x = p
        · subst hx
          rw [if_pos e, if_pos rfl]
        · rw [if_neg (show ¬ q.1 = x by omega), if_neg hx, if_neg (show ¬ q.1 = x by omega)]
          by_cases ha : (ps.any fun q => decide (q.1 = p)) = true
          · rw [ih ha, if_neg hx]
          · have : (ps.map fun q => if q.1 = p then (q.1, n) else q) = ps := by
              rw [List.map_congr_left (g := id), List.map_id]
              intro r m
              rw [if_neg]
              · rfl
              · intro e'
                exact ha (List.any_eq_true.mpr ⟨r, m, decide_eq_true e'⟩)
            rw [this]
      · have ha : (ps.any fun q => decide (q.1 = p)) = true := by
          rw [List.any_cons, decide_eq_false e, Bool.false_or] at h
          exact h
        rw [if_neg e, ih ha]
        by_cases hx : q.1 = x
        · rw [if_pos hx, if_neg (by omega), if_pos hx]
        · rw [if_neg hx, if_neg hx]
  · rename_i h
    induction ps with
    | nil =>
      rw [List.nil_append, getP_cons]
      by_cases hx : x = p
      · rw [if_pos hx.symm, if_pos hx]
      · rw [if_neg (fun z => hx z.symm), if_neg hx]
    | cons q ps ih =>
      have h' : ¬ (ps.any fun q => decide (q.1 = p)) = true ∧ q.1 ≠ p := by
        rw [List.any_cons, Bool.or_eq_true, not_or, decide_eq_true_eq] at h
        exact ⟨h.2, h.1⟩
      rw [List.cons_append, getP_cons, ih h'.1, getP_cons]
      by_cases hx : x = p
      · rw [if_pos hx, if_neg (by rw [hx]; exact h'.2), if_pos hx]
      · rw [if_neg hx, if_neg hx]
theorem putP_nd {ps : Pl} (nd : (ps.map (·.1)).Nodup) (p n : Int) : ((putP ps p n).map (·.1)).Nodup := by
  unfold putP
  split
  · have : (ps.map fun q => if q.1 = p then (q.1, n) else q).map (·.1) = ps.map (·.1) := by
      rw [List.map_map]
      refine List.map_congr_left fun q _ => ?_
      show (if q.1 = p then (q.1, n) else q).1 = q.1
      split <;> rfl
    rw [this]
    exact nd
  · rename_i h
    rw [List.map_append, List.nodup_append]
    refine ⟨nd, by simp, fun a m b m' => ?_⟩
    obtain ⟨q, hq, rfl⟩ := List.mem_map.mp m
    rw [List.map_cons, List.map_nil, List.mem_singleton] at m'
    subst m'
    intro e
    exact h (List.any_eq_true.mpr ⟨q, hq, decide_eq_true e⟩)
theorem putP_len (ps : Pl) (p n : Int) : (putP ps p n).length ≤ ps.length + 1 := by
  unfold putP
  split
  · rw [List.length_map]; omega
  · rw [List.length_append]; exact Nat.le_refl _
theorem putP_mem {ps : Pl} {p n : Int} {q : Int × Int} (h : q ∈ putP ps p n) : q ∈ ps ∨ q = (p, n) := by
  unfold putP at h
  split at h
  · obtain ⟨r, m, e⟩ := List.mem_map.mp h
    split at e
    · rename_i h1
      exact .inr (by rw [← e, h1])
    · exact .inl (by rw [← e]; exact m)
  · rcases List.mem_append.mp h with h | h
    · exact .inl h
    · exact .inr (List.mem_singleton.mp h)
theorem nd_of {ps : Pl} (h : ps.Pairwise (fun a b => a.1 < b.1)) : (ps.map (·.1)).Nodup := by
  unfold List.Nodup
  rw [List.pairwise_map]
  exact h.imp fun h => by omega
/-- what evaluation gives, is borne out -/
theorem ev_ok {t : Tab} (h : TabOk t) : ∀ n, (∀ a : Tm, a.ok n → ∀ i, ev t a = some i → i.natAbs ≤ vb n) ∧ (∀ r : Rw, r.ok n → ∀ u, evR t r = some u → RvOk n u) := by
  have nm : ∀ n x i, ev t (.name x) = some i → i.natAbs ≤ vb n := fun n x i e => by
    simp only [ev] at e
    split at e
    · rename_i j hj
      cases e
      obtain ⟨k, m⟩ := findW_mem hj
      exact Nat.le_trans (h.int k i m) (show 10 ^ 40 ≤ vb n from vb_le (m := 0) (Nat.zero_le n))
    · cases e
  have rw_ : ∀ n y u, evR t (.row y) = some u → RvOk n u := fun n y u e => by
    simp only [evR] at e
    split at e
    · rename_i s ps hj
      cases e
      obtain ⟨k, m⟩ := findW_mem hj
      obtain ⟨h1, h2, h3⟩ := h.row k s ps m
      exact ⟨Nat.le_trans h1 (show 10 ^ 40 ≤ vb n from vb_le (m := 0) (Nat.zero_le n)), ps, h2, h3.mono (Nat.zero_le n)⟩
    · cases e
  have nu : ∀ n (i : Int), i.natAbs ≤ 10 ^ 40 → i.natAbs ≤ vb n := fun n i e => Nat.le_trans e (show 10 ^ 40 ≤ vb n from vb_le (m := 0) (Nat.zero_le n))
  intro n
  induction n with
  | zero =>
    refine ⟨fun a ha i e => ?_, fun r hr u e => ?_⟩
    · cases a <;> first | (simp only [Tm.ok] at ha; done) | skip
      · simp only [ev, Option.some.injEq] at e
        subst e
        exact nu 0 _ (by simpa only [Tm.ok] using ha)
      · exact nm 0 _ _ e
    · cases r <;> first | (simp only [Rw.ok] at hr; done) | skip
      exact rw_ 0 _ _ e
  | succ n ih =>
    obtain ⟨ihT, ihR⟩ := ih
    have up := vb_succ n
    have p0 := vb_pos n
    refine ⟨fun a ha i e => ?_, fun r hr u e => ?_⟩
    · cases a with
      | num j =>
        simp only [ev, Option.some.injEq] at e
        subst e
        exact nu _ _ (by simpa only [Tm.ok] using ha)
      | name x => exact nm _ _ _ e
      | mul j a =>
        simp only [Tm.ok] at ha
        simp only [ev, Option.map_eq_some_iff] at e
        obtain ⟨k, e1, rfl⟩ := e
        rw [Int.natAbs_mul, up]
        exact Nat.mul_le_mul ha.1 (ihT a ha.2 k e1)
      | size r =>
        simp only [Tm.ok] at ha
        simp only [ev, Option.map_eq_some_iff] at e
        obtain ⟨u, e1, rfl⟩ := e
        exact Nat.le_trans (ihR r ha u e1).1 (vb_le (Nat.le_succ n))
      | read r a =>
        simp only [Tm.ok] at ha
        simp only [ev, Option.bind_eq_some_iff, Option.map_eq_some_iff] at e
        obtain ⟨u, e1, p, e2, rfl⟩ := e
        obtain ⟨_, ps, h1, h2⟩ := ihR r ha.1 u e1
        rw [← h1.get p]
        exact Nat.le_trans (getP_le h2 p) (vb_le (Nat.le_succ n))
      | dv a k =>
        simp only [Tm.ok] at ha
        simp only [ev, Option.map_eq_some_iff] at e
        obtain ⟨j, e1, rfl⟩ := e
        have h1 := ihT a ha.2.2 j e1
        have h2 := Int.natAbs_ediv_le_natAbs j k
        exact Nat.le_trans h2 (Nat.le_trans h1 (vb_le (Nat.le_succ n)))
      | md a k =>
        simp only [Tm.ok] at ha
        simp only [ev, Option.map_eq_some_iff] at e
        obtain ⟨j, e1, rfl⟩ := e
        have h1 := Int.emod_nonneg j (show k ≠ 0 by omega)
        have h2 := Int.emod_lt_of_pos j ha.1
        have h3 : 10 ^ 40 ≤ vb (n + 1) := vb_le (m := 0) (Nat.zero_le _)
        omega
      | add a b =>
        simp only [Tm.ok] at ha
        simp only [ev, Option.bind_eq_some_iff, Option.map_eq_some_iff] at e
        obtain ⟨j, e1, k, e2, rfl⟩ := e
        have h1 := ihT a ha.1 j e1
        have h2 := ihT b ha.2 k e2
        omega
    · cases r with
      | row y => exact rw_ _ _ _ e
      | room a =>
        simp only [Rw.ok] at hr
        simp only [evR, Option.map_eq_some_iff] at e
        obtain ⟨i, e1, rfl⟩ := e
        have h1 := ihT a hr i e1
        have h2 := vb_le (Nat.le_succ n)
        refine ⟨?_, [], ⟨List.Pairwise.nil, (fun q m => by cases m), fun p => rfl⟩, ⟨Nat.zero_le _, (fun q m => by cases m)⟩⟩
        show (max i 0).natAbs ≤ _
        omega
      | wth r a b =>
        simp only [Rw.ok] at hr
        simp only [evR, Option.bind_eq_some_iff, Option.map_eq_some_iff] at e
        obtain ⟨u, e1, p, e2, m, e3, rfl⟩ := e
        obtain ⟨h0, ps, h1, h2⟩ := ihR r hr.1 u e1
        have hp := ihT a hr.2.1 p e2
        have hm := ihT b hr.2.2 m e3
        have l := vb_le (Nat.le_succ n)
        have nd := putP_nd (nd_of h1.srt) p m
        refine ⟨Nat.le_trans h0 l, ((putP ps p m).mergeSort fun x y => decide (x.1 ≤ y.1)).filter fun q => decide (q.2 ≠ 0), ⟨?_, fun q hq => by simpa using (List.mem_filter.mp hq).2, fun x => ?_⟩, ⟨?_, fun q hq => ?_⟩⟩
        · refine List.Pairwise.filter _ ?_
          have hs := List.pairwise_mergeSort (le := fun (x y : Int × Int) => decide (x.1 ≤ y.1)) (fun a b c h1 h2 => by simp at *; omega) (fun a b => by simp; omega) (putP ps p m)
          have nd2 := ((List.mergeSort_perm (putP ps p m) fun x y => decide (x.1 ≤ y.1)).map (·.1)).nodup_iff.mpr nd
          unfold List.Nodup at nd2
          rw [List.pairwise_map] at nd2
          exact (hs.and nd2).imp fun {a b} ⟨h1, h2⟩ => by simp at h1; omega
        · rw [getP_filter (((List.mergeSort_perm _ _).map _).nodup_iff.mpr nd), getP_perm (List.mergeSort_perm _ _) (((List.mergeSort_perm _ _).map _).nodup_iff.mpr nd), putP_get]
          show (if x = p then m else getP ps x) = (if x = p then m else u.2 x)
          rw [h1.get]
        · refine Nat.le_trans (List.length_filter_le _ _) ?_
          rw [(List.mergeSort_perm _ _).length_eq]
          have := putP_len ps p m
          have := h2.len
          omega
        · have m1 := (List.mergeSort_perm _ _).mem_iff.mp (List.mem_filter.mp hq).1
          rcases putP_mem m1 with m1 | rfl
          · exact (h2.mono (Nat.le_succ n)).abs q m1
          · exact ⟨Nat.le_trans hp l, Nat.le_trans hm l⟩

/-! ### class Look at terms without notions -/
theorem putD_new {kvs : List (D × D)} {k d : D} (hk : isKey k = true) (h : ∀ kv ∈ kvs, isKey kv.1 = true ∧ kv.1 ≠ k) : putD kvs k d = kvs ++ [(k, d)] := by
  unfold putD
  have : findD kvs k = none := by
    induction kvs with
    | nil => rfl
    | cons kv r ih =>
      obtain ⟨h1, h2⟩ := h kv (List.mem_cons_self ..)
      obtain ⟨a, ea⟩ := isKey_of h1
      obtain ⟨b, eb⟩ := isKey_of hk
      rw [findD, if_neg]
      · exact ih fun x m => h x (List.mem_cons_of_mem _ m)
      · rw [ea, eb, keyIs_key]
        intro z
        rw [ea, eb, of_decide_eq_true z] at h2
        exact h2 rfl
  rw [this]
  rfl
theorem mergeD_nd : ∀ (kvs acc : List (D × D)), (∀ kv ∈ acc ++ kvs, isKey kv.1 = true) → ((acc ++ kvs).map Prod.fst).Nodup → mergeD acc kvs = acc ++ kvs
  | [], acc, _, _ => by rw [List.append_nil]; rfl
  | (k0, d0) :: r, acc, hk, nd => by
    have e : mergeD acc ((k0, d0) :: r) = mergeD (putD acc k0 d0) r := rfl
    have h0 := hk (k0, d0) (List.mem_append_right _ (List.mem_cons_self ..))
    have hn : ∀ kv ∈ acc, isKey kv.1 = true ∧ kv.1 ≠ k0 := fun kv m => by
      refine ⟨hk kv (List.mem_append_left _ m), fun z => ?_⟩
      rw [List.map_append, List.map_cons, List.nodup_append] at nd
      exact nd.2.2 kv.1 (List.mem_map.mpr ⟨kv, m, rfl⟩) k0 (List.mem_cons_self ..) z
    rw [e, putD_new h0 hn]
    have := mergeD_nd r (acc ++ [(k0, d0)]) (by simpa using hk) (by simpa using nd)
    rw [this, List.append_assoc]
    rfl
/-- a row's numbers as a dict -/
def pkD (ps : Pl) : List (D × D) := ps.map fun q => (.int q.1, .int q.2)
theorem pk_pairs : ∀ ps : Pl, pairsOf (ps.map ipT) = some (pkD ps)
  | [] => rfl
  | q :: ps => by
    show (if isKey (.int q.1) = true then (pairsOf (ps.map ipT)).map ((PyData.int q.1, PyData.int q.2) :: ·) else none) = _
    rw [if_pos (show isKey (PyData.int q.1) = true from rfl), pk_pairs ps]
    rfl
theorem pk_int : ∀ ps : Pl, intPairs (pkD ps) = some ps
  | [] => rfl
  | q :: ps => by
    show (intPairs (pkD ps)).map ((q.1, q.2) :: ·) = _
    rw [pk_int ps]
    rfl
theorem pk_key {ps : Pl} : ∀ kv ∈ pkD ps, isKey kv.1 = true := fun kv m => by
  obtain ⟨q, _, rfl⟩ := List.mem_map.mp m
  rfl
theorem pk_nd {ps : Pl} (nd : (ps.map (·.1)).Nodup) : ((pkD ps).map Prod.fst).Nodup := by
  have e : (pkD ps).map Prod.fst = (ps.map (·.1)).map PyData.int := by
    unfold pkD
    rw [List.map_map, List.map_map]
    rfl
  rw [e]
  unfold List.Nodup at nd ⊢
  rw [List.pairwise_map]
  exact nd.imp fun h z => h (PyData.int.inj z)
theorem pk_merge {ps : Pl} (nd : (ps.map (·.1)).Nodup) : mergeD [] (pkD ps) = pkD ps := by
  rw [mergeD_nd (pkD ps) [] (by simpa using pk_key) (by simpa using pk_nd nd), List.nil_append]
theorem pk_find (p : Int) : ∀ ps : Pl, (findD (pkD ps) (.int p)).getD (.int 0) = .int (getP ps p)
  | [] => rfl
  | q :: ps => by
    show (if decide (q.1 = p) = true then some (PyData.int q.2) else findD (pkD ps) (.int p)).getD (.int 0) = _
    rw [getP_cons]
    by_cases h : q.1 = p
    · rw [if_pos (show decide (q.1 = p) = true from decide_eq_true h), if_pos h]; rfl
    · rw [if_neg (show ¬ decide (q.1 = p) = true by simpa using h), if_neg h]
      exact pk_find p ps
theorem pk_some (p : Int) : ∀ ps : Pl, (findD (pkD ps) (.int p)).isSome = ps.any fun q => decide (q.1 = p)
  | [] => rfl
  | q :: ps => by
    show (if decide (q.1 = p) = true then some (PyData.int q.2) else findD (pkD ps) (.int p)).isSome = _
    rw [List.any_cons]
    by_cases h : q.1 = p
    · rw [if_pos (show decide (q.1 = p) = true from decide_eq_true h), decide_eq_true h]; rfl
    · rw [if_neg (show ¬ decide (q.1 = p) = true by simpa using h), decide_eq_false h, Bool.false_or]
      exact pk_some p ps
theorem pk_put (ps : Pl) (p n : Int) : putD (pkD ps) (.int p) (.int n) = pkD (putP ps p n) := by
  unfold putD putP
  rw [pk_some]
  split
  · unfold pkD
    rw [List.map_map, List.map_map]
    refine List.map_congr_left fun q _ => ?_
    show (if decide (q.1 = p) = true then (PyData.int q.1, PyData.int n) else (PyData.int q.1, PyData.int q.2)) = _
    show _ = ((PyData.int (if q.1 = p then (q.1, n) else q).1, PyData.int (if q.1 = p then (q.1, n) else q).2) : D × D)
    by_cases h : q.1 = p
    · rw [if_pos (decide_eq_true h), if_pos h]
    · rw [if_neg (by simpa using h), if_neg h]
  · unfold pkD
    rw [List.map_append]
    rfl
section
variable {P : Program} {w : World} {K : PySem.W.Frag} {mg : Str → Option Value} {base : Heap} {Cc : Addr}
def parts2F : DF := fun ds Q => ∃ (x : Str) (ps : List D), ds = [.tuple (.str x :: ps)] ∧ x ≠ Str.ofString "notion" ∧ (tl (kindsOf (.str x))).length = ps.length ∧ ps.length ≤ 1000 ∧ Q (.list ((((tl (kindsOf (.str x))).zip ps).filter fun p => goes p.1).map Prod.snd))
theorem ok_parts2 (T : Tx w K mg) (O_kinds_of : Ok P w K mg base 1 "kinds_of" ["word"] (spN K 1 .E kindsF)) : Ok P w K mg base 2 "parts_of" ["thing"] (spN K 1 .E parts2F) := by
  refine Ok.ofN (M := []) T.d_parts_of sc_parts_of rfl (by decide) fun f cdv A outer s H E hr => ⟨_, _, (pss_cons (ps_if (pt_cmpR (eqG K rfl hr.units) (pe_ix (ixG K rfl (u65 hr.toRoom)) (pv 0) (pe_int) (fun _ _ => rfl)) (pe_str) (nomark _))
 (pss_one (ps_ret (pe_callTy (listQ K rfl) (by rfl) T.z_list boot_list (pa_cons (pe_ix (ixG K rfl (u65 hr.toRoom)) (pv 0) (pe_int) (fun _ _ => rfl)) (pa_nil)))))
 (pss_nil))
 (pss_one (ps_ret (pe_lc (own := [("kind", 1), ("part", 2)]) rfl sc_parts_of.nd (pi_zipS (by rfl) T.z_zip (pa_cons (pe_fn O_kinds_of (hr.mono (by omega)) (by rfl) (pa_cons (pe_ix (ixG K rfl (u65 hr.toRoom)) (pv 0) (pe_int) (fun _ _ => rfl)) (pa_nil))) (pa_cons (pe_slice (slG K rfl) (pv 0) (po_some (pe_int)) po_none) pa_nil))) (blkOk_by (own := [("kind", 1), ("part", 2)]) (N := ["thing", "kind", "part"]) (sc := defScope s_parts_of) (by decide +kernel)) (fun _ _ _ _ _ => pgT K rfl 2 rfl (pgs_cons (pg_nameL (i := 1) sc_parts_of.nd rfl rfl) (pgs_cons (pg_nameL (i := 2) sc_parts_of.nd rfl rfl) (pgs_nil)))) (fun _ _ _ _ _ => pts_one (pt_cmpR (inG K rfl (u65 hr.toRoom)) (pv 1) (pe_str) (by rfl))) (fun _ _ _ _ _ => pv 2))))),
 (simS_seq (simS_if (simT_test (sim_op opA_eq (opA_ix (sim_var 0 (nm rfl)) (sim_int _)) (sim_str _)))
 (simS_ret (Sim.toE (sim_cb caA_list (simA_cons (opA_ix (sim_var 0 (nm rfl)) (sim_int _)) (simA_nil)))))
 (simS_next))
 (simS_ret (Sim.toE (sim_lc (simI_zipS (sim_call (simA_cons (opA_ix (sim_var 0 (nm rfl)) (sim_int _)) (simA_nil))) (sim_sl (sim_var 0 (nm rfl)) (simO_some (sim_int _)) simO_none)) (simG_tup (simGs_cons (simG_name 1 (nm rfl) (np rfl)) (simGs_cons (simG_name 2 (nm rfl) (np rfl)) (simGs_nil)))) (simT_test (sim_op opA_in (sim_var 1 (nm rfl)) (sim_str _))) (sim_var 2 (nm rfl)) (inv' rfl) (nmv rfl) (npv rfl))))), ?_⟩
  rintro ds Q hl ⟨x, ps, rfl, hx, hlp, h1000, q⟩
  refine seqIf (b := decide (x = Str.ofString "notion")) (fun Q q => ix_ok 0 rfl rfl q) (fun hx' => absurd (of_decide_eq_true hx') hx) (fun _ => ?_)
  generalize eb : kindsOf (.str x) = b at hlp q
  refine ix_ok 0 rfl rfl ⟨_, rfl, ?_⟩
  rw [eb]
  show (cutD (.str x :: ps) (some 1) none).length = (signs b).length ∧ _
  rw [cut1]
  refine ⟨by rw [signs_len, hlp], ?_, lcD_ind (fun i acc s' => acc = ((((tl b).zip ps).take i).filter fun p => goes p.1).map Prod.snd ∧ s' = { δ := [some (.tuple (.str x :: ps)), none, none], n := 0 }) ⟨rfl, rfl⟩ ?_ ?_⟩
  · rw [zip_len]
    exact Nat.le_trans (Nat.min_le_right _ _) (Nat.le_trans h1000 (by decide))
  · rintro i d acc s' N hi ⟨rfl, rfl⟩ hN
    obtain ⟨y, z, h3, h4, rfl⟩ := prD_get hi
    obtain ⟨c, hc, rfl⟩ := signs_get h3
    have hz : ((tl b).zip ps)[i]? = some (c, z) := List.getElem?_zip_eq_some.mpr ⟨hc, h4⟩
    refine ⟨rfl, in_textD (Q := fun k => if k = true then N (_ ++ [z]) _ else N _ _) (ite_either (fun hg => hN _ _ ⟨?_, rfl⟩) (fun hg => hN _ _ ⟨?_, rfl⟩))⟩
    · rw [List.take_add_one, hz, List.filter_append, List.map_append]
      have : ([(c, z)].filter fun p : Nat × D => goes p.1) = [(c, z)] := by simp [List.filter, show goes c = true from hg]
      rw [show (some (c, z)).toList = [(c, z)] from rfl, this]
      rfl
    · rw [List.take_add_one, hz, List.filter_append, List.map_append]
      have : ([(c, z)].filter fun p : Nat × D => goes p.1) = [] := by simp [List.filter, show goes c = false from hg]
      rw [show (some (c, z)).toList = [(c, z)] from rfl, this]
      rw [List.map_nil, List.append_nil]
  · rintro acc s' ⟨rfl, rfl⟩
    have el : (prD (signs b) ps).length = ((tl b).zip ps).length := by rw [zip_len, List.length_zip, signs_len]
    rw [el, List.take_length]
    exact q
def naF : DF := fun ds Q => ∃ (s p : Int) (ps : Pl), ds = [rowD s ps, .int p] ∧ (ps.map (·.1)).Nodup ∧ Q (.int (getP ps p))
theorem ok_number_at (T : Tx w K mg) : Ok P w K mg base 1 "number_at" ["row", "place"] (spN K 2 .E naF) := by
  refine Ok.ofN (M := []) T.d_number_at sc_number_at rfl (by decide) fun f cdv A outer s H E hr => ⟨_, _, (pss_one (ps_ret (pe_dget2 (lt_u1 (u65 hr.toRoom)) (pe_callTy (dictG K rfl rfl) (by rfl) T.z_dict boot_dict (pa_cons (pe_ix (ixG K rfl (u65 hr.toRoom)) (pv 0) (pe_int) (fun _ _ => rfl)) (pa_nil))) (pv 1) (pe_int) ⟨by rfl, by rfl, by rfl, by rfl⟩))),
 (simS_ret (Sim.toE (sim_dget2 (sim_cb caA_dict (simA_cons (opA_ix (sim_var 0 (nm rfl)) (sim_int _)) (simA_nil))) (sim_var 1 (nm rfl)) (sim_int _)))), ?_⟩
  rintro ds Q hl ⟨s', p, ps, rfl, nd, q⟩
  refine ix_ok 1 rfl rfl ⟨_, pk_pairs ps, ?_⟩
  rw [pk_merge nd]
  refine ⟨rfl, ?_⟩
  rw [pk_find]
  exact q
def mrF : DF := fun ds Q => ∃ (s : Int) (ps : Pl), ds = [.int s, .dict (pkD ps)] ∧ (ps.map (·.1)).Nodup ∧ ps.length ≤ 1000 ∧ ∀ rs, RowIs (getP ps) rs → Q (rowD s rs)
theorem ok_made_row (T : Tx w K mg) : Ok P w K mg base 1 "made_row" ["size", "numbers"] (spN K 2 .E mrF) := by
  refine Ok.ofN (M := []) T.d_made_row sc_made_row rfl (by decide) fun f cdv A outer s H E hr => ⟨_, _, (pss_one (ps_ret (pe_tupZ (pa_cons (pv 0) (pa_cons (pe_callTy (tupQ K rfl) (by rfl) T.z_tuple boot_tuple (pa_cons (pe_lc (own := [("place", 2), ("number", 3)]) rfl sc_made_row.nd (piL K rfl (pe_callB (cr_sortII rfl) (by rfl) T.z_sorted boot_sorted (pa_cons (pe_itemsV (pv 1)) pa_nil))) (blkOk_by (own := [("place", 2), ("number", 3)]) (N := ["size", "numbers", "place", "number"]) (sc := defScope s_made_row) (by decide +kernel)) (fun _ _ _ _ _ => pgT K rfl 2 rfl (pgs_cons (pg_nameL (i := 2) sc_made_row.nd rfl rfl) (pgs_cons (pg_nameL (i := 3) sc_made_row.nd rfl rfl) (pgs_nil)))) (fun _ _ _ _ _ => pts_one (pt_cmpR (neG K rfl hr.units) (pv 3) (pe_int) (nomark _))) (fun _ _ _ _ _ => pe_tupZ (pa_cons (pv 2) (pa_cons (pv 3) (pa_nil))))) (pa_nil))) (pa_nil)))))),
 (simS_ret (Sim.toE (sim_tup (by decide) (simA_cons (sim_var 0 (nm rfl)) (simA_cons (sim_cb caA_tup (simA_cons (sim_lc (simI_list (sim_sortIt (sim_var 1 (nm rfl)))) (simG_tup (simGs_cons (simG_name 2 (nm rfl) (np rfl)) (simGs_cons (simG_name 3 (nm rfl) (np rfl)) (simGs_nil)))) (simT_test (sim_op opA_ne (sim_var 3 (nm rfl)) (sim_int _))) (sim_tup (by decide) (simA_cons (sim_var 2 (nm rfl)) (simA_cons (sim_var 3 (nm rfl)) (simA_nil)))) (inv' rfl) (nmv rfl) (npv rfl)) (simA_nil))) (simA_nil)))))), ?_⟩
  rintro ds Q hl ⟨s', ps, rfl, nd, h1000, q⟩
  refine ⟨ps, pk_int ps, fun qs hp hs => ⟨?_, lcD_ind (fun i acc st => acc = ((qs.take i).filter fun q => decide (q.2 ≠ 0)).map ipT ∧ st = { δ := [some (.int s'), some (.dict (pkD ps)), none, none], n := 0 }) ⟨rfl, rfl⟩ ?_ ?_⟩⟩
  · rw [List.length_map, hp.length_eq]
    exact Nat.le_trans h1000 (by decide)
  · rintro i d acc st N hi ⟨rfl, rfl⟩ hN
    rw [List.getElem?_map, Option.map_eq_some_iff] at hi
    obtain ⟨u, hu, rfl⟩ := hi
    refine ⟨rfl, ?_⟩
    by_cases h0 : u.2 = 0
    · refine ifn (by simp [h0]) (hN _ _ ⟨?_, rfl⟩)
      rw [List.take_add_one, hu, List.filter_append, List.map_append]
      simp [h0]
    · refine ifp (by simpa using h0) (hN _ _ ⟨?_, rfl⟩)
      rw [List.take_add_one, hu, List.filter_append, List.map_append]
      simp [h0, ipT]
  · rintro acc st ⟨rfl, rfl⟩
    rw [List.length_map, List.take_length]
    exact q _ (rowIs_of hp hs nd)
/-- a letter's worth -/
def latW (t : Tab) (x : D) (b : Bool) : D := match findW t x with
  | some (.inl i) => if b = true then .none else .int i
  | some (.inr (s, ps)) => if b = true then rowD s ps else .none
  | none => .none
def latF : List D → DFM := fun fs ds n h Q => ∃ (t : Tab) (x : D) (b : Bool), isKey x = true ∧ ds = [x, .dict (tabD t), .bool b] ∧ Q (latW t x b) n h
theorem ok_letter_at (T : Tx w K mg) (CL : C_Look K mg Cc) (O_is_whole : Ok P w K mg base 1 "is_whole" ["thing"] (spN K 1 .E wholeF)) : OkB P w K mg base (BK K ["self", "letter", "table", "of_row"] 3 ["of_row"]) Cc 2 "letter_at" ["self", "letter", "table", "of_row"] (spM K Cc fF_Look 3 .E latF) := by
  refine OkB.ofM (M := []) CL.m_letter_at sc_Look_letter_at rfl (by decide) (by decide) fun f cdv A outer s H E p c ls fs hls hr => ?_
  have L : Slf { K := K, pen := some (p, c), ps := 0, M := [], pk := .obj Cc (fF_Look ls) (ls.zip fs) } Cc fF_Look ls fs := ⟨by simp, rfl, hls, rfl⟩
  refine ⟨_, _, (pss_cons (ps_set (i := 4) sc_Look_letter_at.nd rfl (Or.inl rfl) (pe_dget1 (lt_u1 (u65 hr.toRoom)) (pv 2) (pv 1) ⟨by rfl, by rfl, by rfl, by rfl⟩))
 (pss_one (ps_ret (pe_ifExp (PW.pt (pw_and (pt_cmpR (eqG K rfl hr.units) (pe_callB (isiK K rfl) (by rfl) T.z_isinstance boot_isi (pa_cons (pv 4) (pa_cons (pe_bltn (v := .ty "tuple") (by rfl) T.z_tuple boot_tuple rfl) pa_nil))) (pv 3) (nomark _)) (pw_and1 (PW.pt (pw_or (pt_val (pv 3)) (pw_or1 (pt_val (pe_fn O_is_whole (hr.mono (by omega)) (by rfl) (pa_cons (pv 4) (pa_nil)))))))))) (pv 4) (pe_non))))),
 (simS_seq (simS_set 4 (nm rfl) (np rfl) (sim_dget1 (sim_var 2 (nm rfl)) (sim_var 1 (nm rfl))))
 (simS_ret (Sim.toE (sim_if (simT_and (simT_test (sim_op opA_eq (sim_isi .tuple (sim_var 4 (nm rfl))) (sim_var 3 (nm rfl)))) (simT_or (simT_B (sim_var 3 (nm rfl))) (simT_B (sim_call (simA_cons (sim_var 4 (nm rfl)) (simA_nil)))))) (Sim.toE (sim_var 4 (nm rfl))) (Sim.toE (sim_non)))))), ?_⟩
  rintro ds m h Q hl ⟨t, x, b, hk, rfl, k⟩
  have hf := findW_D x t
  unfold latW at k
  refine ⟨hk, ?_⟩
  rw [hf]
  cases e : findW t x with
  | none =>
    rw [e] at k
    cases b with
    | true => exact k
    | false => exact ⟨_, rfl, k⟩
  | some v =>
    rw [e] at k
    cases v with
    | inl i =>
      cases b with
      | true => exact k
      | false => exact ⟨_, rfl, k⟩
    | inr u =>
      cases b with
      | true => exact k
      | false => exact k
end

theorem vb_lt {n : Nat} (h : n ≤ 10) {k : Nat} (l : k ≤ vb n) : k < 2 ^ 2000 := Nat.lt_of_le_of_lt (Nat.le_trans l (vb_le h)) (by decide +kernel)
theorem log_small {k : Int} (h0 : 0 < k) (h : k ≤ 10 ^ 9) : k.natAbs.log2 < 9000 := by
  have e : (10 : Int) ^ 9 = 1000000000 := by decide
  have h1 : k.natAbs ≤ 1000000000 := by omega
  exact log_lt (Nat.lt_of_le_of_lt h1 (Nat.lt_of_lt_of_le (show 1000000000 < 2 ^ 40 by decide) (Nat.pow_le_pow_right (by decide) (by decide)))) (by decide)
theorem le30_lt {k : Nat} (l : k ≤ 10 ^ 40) : k < 2 ^ 2000 := vb_lt (n := 0) (by decide) l
theorem row_tf (s : Int) (ps : Pl) : isTF (rowD s ps) = true := by
  have : ∀ ps : Pl, isTFs (ps.map ipT) = true := fun ps => by
    induction ps with
    | nil => simp [isTFs]
    | cons q ps ih => simp [isTFs, isTF, ipT, ih]
  simp [rowD, isTF, isTFs, this]
/-! one test known, one putting in -/
theorem seqSetK {i : Nat} {a j : DT} {r : DSt} {E : DEnds} {s : S} {kvs kvs' : List (D × D)} {k d : D} (hz : s.δ[i]? = some (some (.dict kvs))) (hk : isKey k = true) (hl : kvs.length < sizeLine) (ha : Exv a s d) (hj : Exv j s k) (e : putD kvs k d = kvs')
    (q : r E { s with δ := s.δ.set i (some (.dict kvs')) }) : dSeq (dSetK i a j) r E s := by
  subst e
  refine ha _ ⟨⟨_, hz⟩, hj _ ⟨hk, ?_⟩⟩
  simp only [hz]
  exact ⟨hl, q⟩
theorem seqY {t : DB} {a r : DSt} {E : DEnds} {s : S} (h : Tst t s true) (k : a { E with nx := r E } s) : dSeq (dIfS t a dNext) r E s := seqIf (b := true) h (fun _ => k) (fun z => nomatch z)
theorem seqN {t : DB} {a r : DSt} {E : DEnds} {s : S} (h : Tst t s false) (k : r E s) : dSeq (dIfS t a dNext) r E s := seqIf (b := false) h (fun z => nomatch z) (fun _ => k)
theorem seqSetX {i : Nat} {a : DT} {d : D} {r : DSt} {E : DEnds} {s : S} (h : Exv a s d) (k : r E { s with δ := s.δ.set i (some d) }) : dSeq (dSet i a) r E s := h _ k
theorem seqSetMX {i : Nat} {a : DT} {d : D} {r : DSt} {E : DEnds} {s : S} (h : Exv a s d) (hc : isC d = true) (k : r E { s with δ := s.δ.set i (some d) }) : dSeq (dSetM i a) r E s := h _ ⟨hc, k⟩
theorem retY {c : DB} {a b : DT} {E : DEnds} {s : S} (h : Tst c s true) (k : dRet a E s) : dRet (dIf c a b) E s := h _ (ifp rfl k)
theorem retN {c : DB} {a b : DT} {E : DEnds} {s : S} (h : Tst c s false) (k : dRet b E s) : dRet (dIf c a b) E s := h _ (ifn Bool.false_ne_true k)
theorem tw {i : Nat} {x y : Str} {s : S} {b : Bool} (hs : s.δ[i]? = some (some (.str x))) (hb : decide (x = y) = b) : Tst (dBl (dOp eqD (dV i) (dC (.str y)))) s b := by
  subst hb
  intro Q q
  unfold dBl dOp dV
  simp only [hs]
  exact q
theorem tw0 {i : Nat} {x y : Str} {ps : List D} {s : S} {b : Bool} (hs : s.δ[i]? = some (some (.tuple (.str x :: ps)))) (hb : decide (x = y) = b) : Tst (dBl (dOp eqD (dOp ixD (dV i) (dC (.int 0))) (dC (.str y)))) s b := by
  subst hb
  intro Q q
  unfold dBl dOp dV
  simp only [hs]
  exact ix_ok 0 rfl rfl q
section
variable {P : Program} {w : World} {K : PySem.W.Frag} {mg : Str → Option Value} {base : Heap} {Cc : Addr}
abbrev sLk (Cc : Addr) (ls : List V) (fs : List D) (K : PySem.W.Frag) (p c : Addr) (M : List Nat) : Cf := { K := K, pen := some (p, c), ps := 0, M := M, pk := .obj Cc (fF_Look ls) (ls.zip fs) }
/-- a number's worth from its parts' -/
def rnF : List D → DFM := fun fs ds n h Q => ∃ (x : Str) (r ps : List D), ds = [.tuple (.str x :: r), .list ps] ∧
  ((x = Str.ofString "add" ∧ ∃ i j, ps = [.int i, .int j] ∧ Q (.int (i + j)) n h) ∨
   (x = Str.ofString "mul" ∧ ∃ k i y, r = [.int k, y] ∧ ps = [.int i] ∧ k.natAbs < 2 ^ 2000 ∧ i.natAbs < 2 ^ 2000 ∧ Q (.int (k * i)) n h) ∨
   (x = Str.ofString "read" ∧ ∃ s l i, ps = [rowD s l, .int i] ∧ (l.map (·.1)).Nodup ∧ Q (.int (getP l i)) n h) ∨
   (x = Str.ofString "size" ∧ ∃ s l, ps = [rowD s l] ∧ Q (.int s) n h) ∨
   (x = Str.ofString "div" ∧ ∃ k i y, r = [y, .int k] ∧ ps = [.int i] ∧ 0 < k ∧ k ≤ 10 ^ 9 ∧ i.natAbs < 2 ^ 2000 ∧ Q (.int (i / k)) n h) ∨
   (x = Str.ofString "mod" ∧ ∃ k i y, r = [y, .int k] ∧ ps = [.int i] ∧ 0 < k ∧ Q (.int (i % k)) n h))
theorem ok_reckon_number (T : Tx w K mg) (CL : C_Look K mg Cc) (O_number_at : Ok P w K mg base 1 "number_at" ["row", "place"] (spN K 2 .E naF)) : OkB P w K mg base (B0 K ["self", "term", "parts"]) Cc 2 "reckon_number" ["self", "term", "parts"] (spM K Cc fF_Look 2 .E rnF) := by
  refine OkB.ofM (M := []) CL.m_reckon_number sc_Look_reckon_number rfl (by decide) (by decide) fun f cdv A outer s H E p c ls fs hls hr => ?_
  have L : Slf (sLk Cc ls fs K p c []) Cc fF_Look ls fs := ⟨by simp, rfl, hls, rfl⟩
  refine ⟨_, _, (pss_cons (ps_set (i := 3) sc_Look_reckon_number.nd rfl (Or.inl rfl) (pe_ix (ixG K rfl (u65 hr.toRoom)) (pv 1) (pe_int) (fun _ _ => rfl)))
 (pss_cons (ps_if (pt_cmpR (eqG K rfl hr.units) (pv 3) (pe_str) (nomark _))
 (pss_one (ps_ret (pe_op (addG K rfl) (pe_ix (ixG K rfl (u65 hr.toRoom)) (pv 2) (pe_int) (fun _ _ => rfl)) (pe_ix (ixG K rfl (u65 hr.toRoom)) (pv 2) (pe_int) (fun _ _ => rfl)))))
 (pss_nil))
 (pss_cons (ps_if (pt_cmpR (eqG K rfl hr.units) (pv 3) (pe_str) (nomark _))
 (pss_one (ps_ret (pe_op mulG (pe_ix (ixG K rfl (u65 hr.toRoom)) (pv 1) (pe_int) (fun _ _ => rfl)) (pe_ix (ixG K rfl (u65 hr.toRoom)) (pv 2) (pe_int) (fun _ _ => rfl)))))
 (pss_nil))
 (pss_cons (ps_if (pt_cmpR (eqG K rfl hr.units) (pv 3) (pe_str) (nomark _))
 (pss_one (ps_ret (pe_fn O_number_at (hr.mono (by omega)) (by rfl) (pa_cons (pe_ix (ixG K rfl (u65 hr.toRoom)) (pv 2) (pe_int) (fun _ _ => rfl)) (pa_cons (pe_ix (ixG K rfl (u65 hr.toRoom)) (pv 2) (pe_int) (fun _ _ => rfl)) (pa_nil))))))
 (pss_nil))
 (pss_cons (ps_if (pt_cmpR (eqG K rfl hr.units) (pv 3) (pe_str) (nomark _))
 (pss_one (ps_ret (pe_ix (ixG K rfl (u65 hr.toRoom)) (pe_ix (ixG K rfl (u65 hr.toRoom)) (pv 2) (pe_int) (fun _ _ => rfl)) (pe_int) (fun _ _ => rfl))))
 (pss_nil))
 (pss_one (ps_ret (pe_ifExp (pt_cmpR (eqG K rfl hr.units) (pv 3) (pe_str) (nomark _)) (pe_op op_fdivW (pe_ix (ixG K rfl (u65 hr.toRoom)) (pv 2) (pe_int) (fun _ _ => rfl)) (pe_ix (ixG K rfl (u65 hr.toRoom)) (pv 1) (pe_int) (fun _ _ => rfl))) (pe_op op_mod (pe_ix (ixG K rfl (u65 hr.toRoom)) (pv 2) (pe_int) (fun _ _ => rfl)) (pe_ix (ixG K rfl (u65 hr.toRoom)) (pv 1) (pe_int) (fun _ _ => rfl))))))))))),
 (simS_seq (simS_set 3 (nm rfl) (np rfl) (opA_ix (sim_var 1 (nm rfl)) (sim_int _)))
 (simS_seq (simS_if (simT_test (sim_op opA_eq (sim_var 3 (nm rfl)) (sim_str _)))
 (simS_ret (Sim.toE (sim_op opA_add (opA_ix (sim_var 2 (nm rfl)) (sim_int _)) (opA_ix (sim_var 2 (nm rfl)) (sim_int _)))))
 (simS_next))
 (simS_seq (simS_if (simT_test (sim_op opA_eq (sim_var 3 (nm rfl)) (sim_str _)))
 (simS_ret (Sim.toE (sim_op opA_mul (opA_ix (sim_var 1 (nm rfl)) (sim_int _)) (opA_ix (sim_var 2 (nm rfl)) (sim_int _)))))
 (simS_next))
 (simS_seq (simS_if (simT_test (sim_op opA_eq (sim_var 3 (nm rfl)) (sim_str _)))
 (simS_ret (Sim.toE (sim_call (simA_cons (opA_ix (sim_var 2 (nm rfl)) (sim_int _)) (simA_cons (opA_ix (sim_var 2 (nm rfl)) (sim_int _)) (simA_nil))))))
 (simS_next))
 (simS_seq (simS_if (simT_test (sim_op opA_eq (sim_var 3 (nm rfl)) (sim_str _)))
 (simS_ret (Sim.toE (opA_ix (opA_ix (sim_var 2 (nm rfl)) (sim_int _)) (sim_int _))))
 (simS_next))
 (simS_ret (Sim.toE (sim_if (simT_test (sim_op opA_eq (sim_var 3 (nm rfl)) (sim_str _))) (sim_op opA_fdiv (opA_ix (sim_var 2 (nm rfl)) (sim_int _)) (opA_ix (sim_var 1 (nm rfl)) (sim_int _))) (sim_op opA_mod (opA_ix (sim_var 2 (nm rfl)) (sim_int _)) (opA_ix (sim_var 1 (nm rfl)) (sim_int _))))))))))), ?_⟩
  rintro ds m h Q hl ⟨x, r, ps, rfl, k⟩
  refine seqSetX (d := .str x) (fun Q q => ix_ok 0 rfl rfl q) ?_
  rcases k with ⟨rfl, i, j, rfl, k⟩ | ⟨rfl, a, i, y, rfl, rfl, h1, h2, k⟩ | ⟨rfl, s', l, i, rfl, nd, k⟩ | ⟨rfl, s', l, rfl, k⟩ | ⟨rfl, a, i, y, rfl, rfl, h0, h1, h2, k⟩ | ⟨rfl, a, i, y, rfl, rfl, h0, k⟩
  · exact seqY (tw rfl (by decide +kernel)) (ix_ok 0 rfl rfl (ix_ok 1 rfl rfl k))
  · exact seqN (tw rfl (by decide +kernel)) (seqY (tw rfl (by decide +kernel)) (ix_ok 1 rfl rfl (ix_ok 0 rfl rfl ⟨mulOk h1 h2, k⟩)))
  · exact seqN (tw rfl (by decide +kernel)) (seqN (tw rfl (by decide +kernel)) (seqY (tw rfl (by decide +kernel)) (ix_ok 0 rfl rfl (ix_ok 1 rfl rfl ⟨s', i, l, rfl, nd, k⟩))))
  · exact seqN (tw rfl (by decide +kernel)) (seqN (tw rfl (by decide +kernel)) (seqN (tw rfl (by decide +kernel)) (seqY (tw rfl (by decide +kernel)) (ix_ok 0 rfl rfl (ix_ok 0 rfl rfl k)))))
  · exact seqN (tw rfl (by decide +kernel)) (seqN (tw rfl (by decide +kernel)) (seqN (tw rfl (by decide +kernel)) (seqN (tw rfl (by decide +kernel)) (retY (tw rfl (by decide +kernel)) (ix_ok 0 rfl rfl (ix_ok 2 rfl rfl ⟨⟨h0, log_small h0 h1⟩, k⟩))))))
  · exact seqN (tw rfl (by decide +kernel)) (seqN (tw rfl (by decide +kernel)) (seqN (tw rfl (by decide +kernel)) (seqN (tw rfl (by decide +kernel)) (retN (tw rfl (by decide +kernel)) (ix_ok 0 rfl rfl (ix_ok 2 rfl rfl ⟨h0, k⟩))))))
/-- a row's worth from its parts' -/
def rrF : List D → DFM := fun fs ds n h Q => ∃ (x : Str) (r ps : List D), ds = [.tuple (.str x :: r), .list ps] ∧
  ((x = Str.ofString "room" ∧ ∃ i, ps = [.int i] ∧ Q (rowD (max i 0) []) n h) ∨
   (x = Str.ofString "with" ∧ ∃ s l i j, ps = [rowD s l, .int i, .int j] ∧ (l.map (·.1)).Nodup ∧ l.length ≤ 500 ∧ ∀ rs, RowIs (updF (getP l) i j) rs → Q (rowD s rs) n h))
theorem ok_reckon_row (T : Tx w K mg) (CL : C_Look K mg Cc) (O_made_row : Ok P w K mg base 1 "made_row" ["size", "numbers"] (spN K 2 .E mrF)) : OkB P w K mg base (B0 K ["self", "term", "parts"]) Cc 2 "reckon_row" ["self", "term", "parts"] (spM K Cc fF_Look 2 .E rrF) := by
  refine OkB.ofM (M := [6]) CL.m_reckon_row sc_Look_reckon_row rfl (by decide) (by decide) fun f cdv A outer s H E p c ls fs hls hr => ?_
  have L : Slf (sLk Cc ls fs K p c [6]) Cc fF_Look ls fs := ⟨by simp, rfl, hls, rfl⟩
  refine ⟨_, _, (pss_cons (ps_if (pt_cmpR (eqG K rfl hr.units) (pe_ix (ixG K rfl (u65 hr.toRoom)) (pv 1) (pe_int) (fun _ _ => rfl)) (pe_str) (nomark _))
 (pss_one (ps_ret (pe_tupZ (pa_cons (pe_callB (call_max2 rfl) (by rfl) T.z_max boot_max (pa_cons (pe_ix (ixG K rfl (u65 hr.toRoom)) (pv 2) (pe_int) (fun _ _ => rfl)) (pa_cons (pe_int) (pa_nil)))) (pa_cons (pe_tupZ (pa_nil)) (pa_nil))))))
 (pss_nil))
 (pss_cons (ps_asg (pv 2) (pgU K rfl 3 rfl (pgs_cons (pg_nameL (i := 3) sc_Look_reckon_row.nd rfl rfl) (pgs_cons (pg_nameL (i := 4) sc_Look_reckon_row.nd rfl rfl) (pgs_cons (pg_nameL (i := 5) sc_Look_reckon_row.nd rfl rfl) (pgs_nil))))))
 (pss_cons (ps_set (i := 6) sc_Look_reckon_row.nd rfl (Or.inl rfl) (pe_callTy (dictG K rfl rfl) (by rfl) T.z_dict boot_dict (pa_cons (pe_ix (ixG K rfl (u65 hr.toRoom)) (pv 3) (pe_int) (fun _ _ => rfl)) (pa_nil))))
 (pss_cons (ps_dput (lt_u1 (u65 hr.toRoom)) (pv 6) (pv 4) (pv 5) rfl)
 (pss_one (ps_ret (pe_fn O_made_row (hr.mono (by omega)) (by rfl) (pa_cons (pe_ix (ixG K rfl (u65 hr.toRoom)) (pv 3) (pe_int) (fun _ _ => rfl)) (pa_cons (pv 6) (pa_nil)))))))))),
 (simS_seq (simS_if (simT_test (sim_op opA_eq (opA_ix (sim_var 1 (nm rfl)) (sim_int _)) (sim_str _)))
 (simS_ret (Sim.toE (sim_tup (by decide) (simA_cons (sim_cb caA_max (simA_cons (opA_ix (sim_var 2 (nm rfl)) (sim_int _)) (simA_cons (sim_int _) (simA_nil)))) (simA_cons (sim_tup (by decide) (simA_nil)) (simA_nil))))))
 (simS_next))
 (simS_seq (simS_asg (sim_var 2 (nm rfl)) (simG_unl (simGs_cons (simG_name 3 (nm rfl) (np rfl)) (simGs_cons (simG_name 4 (nm rfl) (np rfl)) (simGs_cons (simG_name 5 (nm rfl) (np rfl)) (simGs_nil))))))
 (simS_seq (simS_setM 6 (ym rfl) (nb rfl) (sim_cb caA_dict (simA_cons (opA_ix (sim_var 3 (nm rfl)) (sim_int _)) (simA_nil))))
 (simS_seq (simS_setK 6 (ym rfl) (sim_var 5 (nm rfl)) (sim_var 4 (nm rfl)))
 (simS_ret (Sim.toE (sim_callT (simO'_cons (opA_ix (sim_var 3 (nm rfl)) (sim_int _)) (simO'_own (ym rfl) (simA_nil)))))))))), ?_⟩
  rintro ds m h Q hl ⟨x, r, ps, rfl, k⟩
  rcases k with ⟨rfl, i, rfl, k⟩ | ⟨rfl, s', l, i, j, rfl, nd, l500, k⟩
  · refine seqY (tw0 rfl (by decide +kernel)) (ix_ok 0 rfl rfl ?_)
    have e : (if (0 : Int) > i then 0 else i) = max i 0 := by
      show (if (0 : Int) > i then 0 else i) = if i ≤ 0 then 0 else i
      split <;> split <;> omega
    show Q (.tuple [.int (if (0 : Int) > i then 0 else i), .tuple []]) m h
    rw [e]
    exact k
  · refine seqN (tw0 rfl (by decide +kernel)) ⟨rfl, ?_⟩
    show dSeq (dSetM 6 (dCB dictD (dCons (dOp ixD (dV 3) (dC (.int 1))) dNil))) (dSeq (dSetK 6 (dV 5) (dV 4)) (dRet (dCallT mrF (dCons (dOp ixD (dV 3) (dC (.int 0))) (dOwn 6 dNil))))) { nx := fun s => Q .none s.n s.h, rt := fun z s => Q z s.n s.h }
      { δ := [none, some (.tuple (.str (Str.ofString "with") :: r)), some (.list [rowD s' l, .int i, .int j]), some (rowD s' l), some (.int i), some (.int j), none], n := m, h := h }
    refine seqSetMX (d := .dict (pkD l)) (fun Q q => ix_ok 1 rfl rfl ⟨_, pk_pairs l, ?_⟩) rfl ?_
    · rw [pk_merge nd]
      exact q
    have hl5 : (pkD l).length < sizeLine := by
      unfold pkD
      rw [List.length_map]
      exact Nat.lt_of_le_of_lt l500 (by decide)
    refine seqSetK (kvs := pkD l) (k := .int i) (d := .int j) rfl rfl hl5 (fun Q q => q) (fun Q q => q) (pk_put l i j) ?_
    refine ix_ok 0 rfl rfl ⟨⟨_, rfl⟩, s', putP l i j, rfl, putP_nd nd i j, Nat.le_trans (putP_len l i j) (by omega), fun rs hrs => ⟨?_, k rs ?_⟩⟩
    · exact row_tf s' rs
    · exact ⟨hrs.srt, hrs.nz, fun x => by rw [hrs.get, putP_get]⟩
end

theorem sh_list {xs : List D} {h : Nat} (hh : h ≤ 63) (b : ∀ x ∈ xs, bd x = true ∧ PyData.depth x ≤ h) : Sh (.list xs) := by
  have : ∀ xs : List D, (∀ x ∈ xs, bd x = true ∧ PyData.depth x ≤ h) → bdAll xs = true ∧ PyData.depthAll xs ≤ h := by
    intro xs
    induction xs with
    | nil => exact fun _ => ⟨rfl, Nat.zero_le _⟩
    | cons d ds ih =>
      intro z
      obtain ⟨a1, a2⟩ := z d (List.mem_cons_self ..)
      obtain ⟨b1, b2⟩ := ih fun x m => z x (List.mem_cons_of_mem _ m)
      refine ⟨by rw [bdAll, a1, b1]; rfl, ?_⟩
      simp only [PyData.depthAll]
      omega
  obtain ⟨h1, h2⟩ := this xs b
  refine (Bt.mk (h := h + 1) (t := sz (.list xs)) ?_ ?_ (Nat.le_refl _)).sh (by omega)
  · simp only [bd]; exact h1
  · simp only [PyData.depth]; omega
def isN : D → Bool
  | .none => true
  | _ => false
def numW : Option Int → D
  | some i => .int i
  | none => .none
def RowV : Option RV2 → D → Prop
  | none, d => d = .none
  | some u, d => ∃ ps, d = rowD u.1 ps ∧ RowIs u.2 ps
abbrev TR := Tm ⊕ Rw
def dTR : TR → D
  | .inl a => a.d
  | .inr r => r.d
def okTR (n : Nat) : TR → Prop
  | .inl a => a.ok n
  | .inr r => r.ok n
def PV (t : Tab) : TR → D → Prop
  | .inl a, d => d = numW (ev t a)
  | .inr r, d => RowV (evR t r) d
def AllV (t : Tab) : List TR → List D → Prop
  | [], [] => True
  | x :: xs, d :: ds => PV t x d ∧ AllV t xs ds
  | _, _ => False
theorem AllV.snoc {t : Tab} {x : TR} {d : D} (h : PV t x d) : ∀ {xs : List TR} {ds : List D}, AllV t xs ds → AllV t (xs ++ [x]) (ds ++ [d])
  | [], [], _ => ⟨h, True.intro⟩
  | _ :: _, _ :: _, ⟨a, b⟩ => ⟨a, AllV.snoc h b⟩
  | [], _ :: _, a => a.elim
  | _ :: _, [], a => a.elim
theorem AllV.each {t : Tab} {p : D → Prop} {q : TR → Prop} (h : ∀ x d, q x → PV t x d → p d) : ∀ {xs : List TR} {ds : List D}, AllV t xs ds → (∀ x ∈ xs, q x) → ∀ d ∈ ds, p d
  | [], [], _, _, d, m => by cases m
  | x :: _, _ :: _, ⟨a, b⟩, hq, d, m => by
    rcases List.mem_cons.mp m with rfl | m
    · exact h x _ (hq x (List.mem_cons_self ..)) a
    · exact AllV.each h b (fun y my => hq y (List.mem_cons_of_mem _ my)) d m
  | [], _ :: _, a, _, _, _ => a.elim
  | _ :: _, [], a, _, _, _ => a.elim
theorem int_bd {n : Nat} (hn : n ≤ 9) {i : Int} (h : i.natAbs ≤ vb n) : bd (.int i) = true := by
  have h1 := Nat.le_trans h (vb_le hn)
  have h2 : vb 9 < 10 ^ 420 := by decide +kernel
  simp only [bd]
  exact decide_eq_true (Nat.lt_of_le_of_lt h1 h2)
theorem row_bd {n : Nat} (hn : n ≤ 9) {s : Int} {ps : Pl} (h : s.natAbs ≤ vb n) (hp : PlOk n ps) : bd (rowD s ps) = true ∧ PyData.depth (rowD s ps) ≤ 3 := by
  have key : ∀ ps : Pl, (∀ q ∈ ps, q.1.natAbs ≤ vb n ∧ q.2.natAbs ≤ vb n) → bdAll (ps.map ipT) = true ∧ PyData.depthAll (ps.map ipT) ≤ 1 := by
    intro ps
    induction ps with
    | nil => exact fun _ => ⟨rfl, Nat.zero_le _⟩
    | cons q ps ih =>
      intro z
      obtain ⟨a1, a2⟩ := z q (List.mem_cons_self ..)
      obtain ⟨b1, b2⟩ := ih fun x m => z x (List.mem_cons_of_mem _ m)
      refine ⟨?_, ?_⟩
      · rw [List.map_cons, bdAll, b1]
        have e : bd (ipT q) = true := by
          unfold ipT
          rw [bd, bdAll, bdAll, bdAll, int_bd hn a1, int_bd hn a2]
          rfl
        rw [e]
        rfl
      · rw [List.map_cons]
        simp only [PyData.depthAll, ipT, PyData.depth] at b2 ⊢
        omega
  obtain ⟨k1, k2⟩ := key ps hp.abs
  refine ⟨?_, ?_⟩
  · unfold rowD
    rw [bd, bdAll, bdAll, bdAll, int_bd hn h, bd, k1]
    rfl
  · unfold rowD
    simp only [PyData.depth, PyData.depthAll]
    omega
theorem pv_bd {t : Tab} (ht : TabOk t) {n : Nat} (hn : n ≤ 9) (x : TR) (d : D) (hx : okTR n x) (h : PV t x d) : bd d = true ∧ PyData.depth d ≤ 3 := by
  cases x with
  | inl a =>
    have h : d = numW (ev t a) := h
    subst h
    cases e : ev t a with
    | none => exact ⟨rfl, Nat.zero_le _⟩
    | some i => exact ⟨int_bd hn ((ev_ok ht n).1 a hx i e), Nat.zero_le _⟩
  | inr r =>
    have h : RowV (evR t r) d := h
    cases e : evR t r with
    | none =>
      rw [e] at h
      have h : d = .none := h
      subst h
      exact ⟨rfl, Nat.zero_le _⟩
    | some u =>
      rw [e] at h
      obtain ⟨ps, rfl, h1⟩ := h
      obtain ⟨h2, qs, h3, h4⟩ := (ev_ok ht n).2 r hx u e
      rw [h1.uniq h3]
      exact row_bd hn h2 h4
theorem eqv_none {t : Tab} {x : TR} {d : D} (h : PV t x d) : PyData.eqv d .none = isN d := by
  cases x with
  | inl a =>
    have h : d = numW (ev t a) := h
    subst h
    cases ev t a <;> simp [numW, PyData.eqv, isN]
  | inr r =>
    have h : RowV (evR t r) d := h
    cases e : evR t r with
    | none =>
      rw [e] at h
      have h : d = .none := h
      subst h
      simp [PyData.eqv, isN]
    | some u =>
      rw [e] at h
      obtain ⟨ps, rfl, h1⟩ := h
      simp [rowD, PyData.eqv, isN]
theorem none_in {t : Tab} (ht : TabOk t) {n i : Nat} (hn : n ≤ 9) {xs : List TR} {ds : List D} {s : S} (hx : ∀ x ∈ xs, okTR n x) (h : AllV t xs ds) (hs : s.δ[i]? = some (some (.list ds))) : Tst (dBl (dOp (inD false) (dC .none) (dV i))) s (ds.any isN) := by
  intro Q q
  unfold dBl dOp dV dC
  simp only [hs]
  refine Or.inr ⟨by show SeqAt.shaped _ = true; decide +kernel, sh_list (h := 3) (by decide) (AllV.each (q := okTR n) (fun x d h1 h2 => pv_bd ht hn x d h1 h2) h hx), ?_⟩
  have e : (ds.any fun z => PyData.eqv z .none) = ds.any isN := by
    have := AllV.each (p := fun d => PyData.eqv d .none = isN d) (q := fun _ => True) (fun x d _ h2 => eqv_none h2) h (fun _ _ => True.intro)
    clear h hs hx q
    induction ds with
    | nil => rfl
    | cons d ds ih => rw [List.any_cons, List.any_cons, this d (List.mem_cons_self ..), ih fun x m => this x (List.mem_cons_of_mem _ m)]
  rw [e, Bool.false_xor]
  exact q
theorem tandN {a b : DB} {s : S} (h : Tst a s false) : Tst (dAnd a b) s false := fun Q q => h _ (ifn Bool.false_ne_true q)
theorem tin2 {i : Nat} {x y z : Str} {s : S} {b : Bool} (hs : s.δ[i]? = some (some (.str x))) (hb : ([PyData.str y, .str z].any fun d => eqF d (.str x)) = b) : Tst (dBl (dOp (inD false) (dV i) (dTup (dCons (dC (.str y)) (dCons (dC (.str z)) dNil))))) s b := by
  subst hb
  intro Q q
  unfold dBl dOp dV
  simp only [hs]
  refine ⟨rfl, rfl, ?_⟩
  rw [Bool.false_xor]
  exact q
theorem tsort {i : Nat} {x y : Str} {s : S} {b : Bool} (hs : s.δ[i]? = some (some (.str x))) (hb : decide (sortOf (.str x) = y) = b) : Tst (dBl (dOp eqD (dCall sortF (dCons (dV i) dNil)) (dC (.str y)))) s b := by
  subst hb
  intro Q q
  unfold dBl dOp dCall dCons dV
  simp only [hs]
  exact ⟨_, rfl, q⟩
/-- the worth of a term or a row -/
def rkF (n : Nat) : List D → DFM := fun fs ds m h Q => ∃ (t : Tab) (x : TR), TabOk t ∧ okTR n x ∧ ds = [dTR x, .dict (tabD t), .none] ∧ ∀ d, PV t x d → Q d m h
abbrev BR (K : PySem.W.Frag) : FuncData → Prop := fun fd => B0 K ["self", "term", "table", "known"] fd ∧ BD K ["self", "term", "table", "known"] [.non] fd
abbrev wS (x : String) : D := .str (Str.ofString x)
/-- reckon's body -/
def dReckon (FR : List D → DFM) (fs : List D) : DSt :=
  dSeq (dSet 4 (dOp ixD (dV 1) (dC (.int 0))))
  (dSeq (dIfS (dBl (dOp eqD (dV 4) (dC (wS "num")))) (dRet (dOp ixD (dV 1) (dC (.int 1)))) dNext)
  (dSeq (dIfS (dBl (dOp (inD false) (dV 4) (dTup (dCons (dC (wS "name")) (dCons (dC (wS "row")) dNil))))) (dRet (dCallM latF fs (dApp (dCons (dOp ixD (dV 1) (dC (.int 1))) (dCons (dV 2) dNil)) (dCons (dOp eqD (dV 4) (dC (wS "row"))) dNil)))) dNext)
  (dSeq (dIfS (dAnd (dBl (dOp eqD (dV 4) (dC (wS "notion")))) (dAnd (dBl (dOp notND (dV 3) (dC .none))) (dBl (dOp eqD (dOp ixD (dV 3) (dC (.int 0))) (dOp ixD (dV 1) (dC (.int 1))))))) (dRet (dOp ixD (dV 3) (dC (.int 1)))) dNext)
  (dSeq (dSet 5 (dLc (fun s Q => dCall parts2F (dCons (dV 1) dNil) s fun d s1 => match d with | .list ds => Q ds s1 | _ => False) (sName 6) dYes (dCallM FR fs (dCons (dV 6) (dCons (dV 2) (dCons (dV 3) dNil)))) [6]))
  (dSeq (dIfS (dBl (dOp eqD (dV 4) (dC (wS "notion")))) (dRet (dCallM (fun _ _ _ _ _ => False) fs (dCons (dV 1) (dCons (dV 5) dNil)))) dNext)
  (dSeq (dIfS (dBl (dOp (inD false) (dC .none) (dV 5))) (dRet (dC .none)) dNext)
  (dRet (dIf (dBl (dOp eqD (dCall sortF (dCons (dV 4) dNil)) (dC (wS "row")))) (dCallM rrF fs (dCons (dV 1) (dCons (dV 5) dNil))) (dCallM rnF fs (dCons (dV 1) (dCons (dV 5) dNil)))))))))))
def sRk (d dt : D) (m : Nat) (h : D) : S := { δ := [none, some d, some dt, some .none, none, none, none], n := m, h := h }
def eRk (Q : D → Nat → D → Prop) : DEnds := { nx := fun s => Q .none s.n s.h, rt := fun z s => Q z s.n s.h }
theorem rk_comp {FR : List D → DFM} {fs : List D} {t : Tab} (ht : TabOk t) {n m : Nat} {h : D} {Q : D → Nat → D → Prop} (hn : n ≤ 9) (hFR : ∀ fs ds m h Q, rkF n fs ds m h Q → FR fs ds m h Q)
    (x : Str) (r : List D) (xs : List TR) (b : Bool) (h1 : decide (x = Str.ofString "num") = false) (h2 : ([wS "name", wS "row"].any fun d => eqF d (.str x)) = false) (h3 : decide (x = Str.ofString "notion") = false)
    (h4 : (tl (kindsOf (.str x))).length = r.length) (h5 : r.length ≤ 3) (h6 : (((tl (kindsOf (.str x))).zip r).filter fun p => goes p.1).map Prod.snd = xs.map dTR) (h7 : ∀ x ∈ xs, okTR n x) (h8 : decide (sortOf (.str x) = Str.ofString "row") = b)
    (k : ∀ ds, AllV t xs ds → (ds.any isN = true → Q .none m h) ∧ (ds.any isN = false → if b = true then rrF fs [.tuple (.str x :: r), .list ds] m h Q else rnF fs [.tuple (.str x :: r), .list ds] m h Q)) :
    dReckon FR fs (eRk Q) (sRk (.tuple (.str x :: r)) (.dict (tabD t)) m h) := by
  refine seqSetX (d := .str x) (fun Q q => ix_ok 0 rfl rfl q) ?_
  refine seqN (tw rfl h1) ?_
  refine seqN (tin2 rfl h2) ?_
  refine seqN (tandN (tw rfl h3)) ?_
  have hx3 : x ≠ Str.ofString "notion" := of_decide_eq_false h3
  have hlen : xs.length ≤ 3 := by
    have e := congrArg List.length h6
    rw [List.length_map, List.length_map] at e
    rw [← e]
    refine Nat.le_trans (List.length_filter_le _ _) ?_
    rw [List.length_zip]
    exact Nat.le_trans (Nat.min_le_right _ _) h5
  refine ⟨x, r, rfl, hx3, h4, Nat.le_trans h5 (by decide), ?_⟩
  rw [h6]
  refine ⟨by rw [List.length_map]; exact Nat.le_trans hlen (by decide), lcD_ind (fun i acc s => AllV t (xs.take i) acc ∧ s = { δ := [none, some (.tuple (.str x :: r)), some (.dict (tabD t)), some .none, some (.str x), none, none], n := m, h := h }) ⟨True.intro, rfl⟩ ?_ ?_⟩
  · rintro i d acc s N hi ⟨ha, rfl⟩ hN
    rw [List.getElem?_map, Option.map_eq_some_iff] at hi
    obtain ⟨y, hy, rfl⟩ := hi
    refine hFR _ _ _ _ _ ⟨t, y, ht, h7 y (List.mem_of_getElem? hy), rfl, fun d hd => hN _ _ ⟨?_, rfl⟩⟩
    rw [List.take_add_one, hy]
    exact ha.snoc hd
  · rintro acc s ⟨ha, rfl⟩
    rw [List.length_map, List.take_length] at ha
    obtain ⟨k1, k2⟩ := k acc ha
    show dSeq (dIfS (dBl (dOp eqD (dV 4) (dC (wS "notion")))) (dRet (dCallM (fun _ _ _ _ _ => False) fs (dCons (dV 1) (dCons (dV 5) dNil)))) dNext)
      (dSeq (dIfS (dBl (dOp (inD false) (dC .none) (dV 5))) (dRet (dC .none)) dNext)
      (dRet (dIf (dBl (dOp eqD (dCall sortF (dCons (dV 4) dNil)) (dC (wS "row")))) (dCallM rrF fs (dCons (dV 1) (dCons (dV 5) dNil))) (dCallM rnF fs (dCons (dV 1) (dCons (dV 5) dNil)))))) (eRk Q)
      { δ := [none, some (.tuple (.str x :: r)), some (.dict (tabD t)), some .none, some (.str x), some (.list acc), none], n := m, h := h }
    refine seqN (tw rfl h3) ?_
    have ti := none_in (i := 5) (s := { δ := [none, some (.tuple (.str x :: r)), some (.dict (tabD t)), some .none, some (.str x), some (.list acc), none], n := m, h := h }) ht hn h7 ha rfl
    cases e : acc.any isN with
    | true =>
      rw [e] at ti
      exact seqY ti (k1 e)
    | false =>
      rw [e] at ti
      refine seqN ti ?_
      have k2 := k2 e
      cases b with
      | true => exact retY (tsort rfl h8) k2
      | false =>
        have k3 : rnF fs [.tuple (.str x :: r), .list acc] m h Q := by simpa using k2
        exact retN (tsort rfl h8) k3
theorem goes_n : goes 110 = false := by decide +kernel
theorem goes_k : goes 107 = false := by decide +kernel
theorem goes_t' : goes 116 = true := by decide +kernel
theorem goes_r : goes 114 = true := by decide +kernel
theorem any1 {a : D} : [a].any isN = isN a := by simp
theorem any2 {a b : D} : [a, b].any isN = (isN a || isN b) := by simp
theorem any3 {a b c : D} : [a, b, c].any isN = (isN a || (isN b || isN c)) := by simp
theorem isN_num {o : Option Int} : isN (numW o) = o.isNone := by cases o <;> rfl
theorem isN_row {o : Option RV2} {d : D} (h : RowV o d) : isN d = o.isNone := by
  cases o with
  | none => have h : d = .none := h; subst h; rfl
  | some u => obtain ⟨ps, rfl, _⟩ := h; rfl
theorem AllV.one {t : Tab} {x : TR} {ds : List D} (h : AllV t [x] ds) : ∃ d, ds = [d] ∧ PV t x d := by
  match ds, h with
  | [d], ⟨a, _⟩ => exact ⟨d, rfl, a⟩
theorem AllV.two {t : Tab} {x y : TR} {ds : List D} (h : AllV t [x, y] ds) : ∃ d e, ds = [d, e] ∧ PV t x d ∧ PV t y e := by
  match ds, h with
  | [d, e], ⟨a, b, _⟩ => exact ⟨d, e, rfl, a, b⟩
theorem AllV.three {t : Tab} {x y z : TR} {ds : List D} (h : AllV t [x, y, z] ds) : ∃ d e f, ds = [d, e, f] ∧ PV t x d ∧ PV t y e ∧ PV t z f := by
  match ds, h with
  | [d, e, f], ⟨a, b, c, _⟩ => exact ⟨d, e, f, rfl, a, b, c⟩
theorem kd_mul : tl (kindsOf (wS "mul")) = [110, 116] := by decide +kernel
theorem kd_size : tl (kindsOf (wS "size")) = [114] := by decide +kernel
theorem kd_read : tl (kindsOf (wS "read")) = [114, 116] := by decide +kernel
theorem kd_div : tl (kindsOf (wS "div")) = [116, 107] := by decide +kernel
theorem kd_mod : tl (kindsOf (wS "mod")) = [116, 107] := by decide +kernel
theorem kd_add : tl (kindsOf (wS "add")) = [116, 116] := by decide +kernel
theorem kd_room : tl (kindsOf (wS "room")) = [116] := by decide +kernel
theorem kd_with : tl (kindsOf (wS "with")) = [114, 116, 116] := by decide +kernel
theorem rk_plain {FR : List D → DFM} {fs : List D} {n m : Nat} {h : D} {Q : D → Nat → D → Prop} (hn : n ≤ 9) (hFR : ∀ k, k + 1 = n → ∀ fs ds m h Q, rkF k fs ds m h Q → FR fs ds m h Q) {t : Tab} {x : TR} (ht : TabOk t) (hx : okTR n x) (k : ∀ d, PV t x d → Q d m h) :
    dReckon FR fs (eRk Q) (sRk (dTR x) (.dict (tabD t)) m h) := by
  have lt : ∀ {j : Nat} {i : Int}, j ≤ 10 → i.natAbs ≤ vb j → i.natAbs < 2 ^ 2000 := fun hj hi => vb_lt hj hi
  cases x with
  | inl a =>
    cases a with
    | num i =>
      simp only [dTR, Tm.d]
      exact seqSetX (d := wS "num") (fun Q q => ix_ok 0 rfl rfl q) (seqY (tw rfl (by decide +kernel)) (ix_ok 1 rfl rfl (k _ (by simp [PV, ev, numW]))))
    | name y =>
      simp only [dTR, Tm.d]
      refine seqSetX (d := wS "name") (fun Q q => ix_ok 0 rfl rfl q) (seqN (tw rfl (by decide +kernel)) (seqY (tin2 rfl (b := true) (by decide +kernel)) ?_))
      have hy : isKey y = true := by cases n <;> simpa only [okTR, Tm.ok] using hx
      refine ix_ok 1 rfl rfl ⟨t, y, _, hy, rfl, k _ ?_⟩
      show latW t y (decide (Str.ofString "name" = Str.ofString "row")) = numW (ev t (.name y))
      rw [show decide (Str.ofString "name" = Str.ofString "row") = false by decide +kernel]
      simp only [latW, ev]
      cases findW t y with
      | none => rfl
      | some v => cases v <;> rfl
    | mul i a =>
      cases n with
      | zero => simp only [okTR, Tm.ok] at hx
      | succ n =>
      simp only [okTR, Tm.ok] at hx
      simp only [dTR, Tm.d]
      refine rk_comp ht (by omega) (hFR n rfl) _ _ [.inl a] false (by decide +kernel) (by decide +kernel) (by decide +kernel) (by rw [kd_mul]; rfl) (by simp) (by rw [kd_mul]; simp [List.filter, goes_n, goes_t', dTR]) (fun x m => by rw [List.mem_singleton.mp m]; exact hx.2) (by decide +kernel) fun ds hd => ?_
      obtain ⟨d, rfl, e⟩ := hd.one
      have e : d = numW (ev t a) := e
      subst e
      rw [any1, isN_num]
      cases ea : ev t a with
      | none => exact ⟨fun _ => k _ (by simp [PV, ev, ea, numW]), fun z => by cases z⟩
      | some j => exact ⟨(fun z => by cases z), fun _ => ifn Bool.false_ne_true ⟨_, _, _, rfl, .inr (.inl ⟨rfl, i, j, _, rfl, rfl, le30_lt hx.1, lt (by omega) ((ev_ok ht n).1 a hx.2 j ea), k _ (by simp [PV, ev, ea, numW])⟩)⟩⟩
    | size r =>
      cases n with
      | zero => simp only [okTR, Tm.ok] at hx
      | succ n =>
      simp only [okTR, Tm.ok] at hx
      simp only [dTR, Tm.d]
      refine rk_comp ht (by omega) (hFR n rfl) _ _ [.inr r] false (by decide +kernel) (by decide +kernel) (by decide +kernel) (by rw [kd_size]; rfl) (by simp) (by rw [kd_size]; simp [List.filter, goes_r, dTR]) (fun x m => by rw [List.mem_singleton.mp m]; exact hx) (by decide +kernel) fun ds hd => ?_
      obtain ⟨d, rfl, e⟩ := hd.one
      have e : RowV (evR t r) d := e
      rw [any1, isN_row e]
      cases ea : evR t r with
      | none => exact ⟨fun _ => k _ (by simp [PV, ev, ea, numW]), fun z => by cases z⟩
      | some u =>
        rw [ea] at e
        obtain ⟨ps, rfl, h1⟩ := e
        exact ⟨(fun z => by cases z), fun _ => ifn Bool.false_ne_true ⟨_, _, _, rfl, .inr (.inr (.inr (.inl ⟨rfl, _, _, rfl, k _ (by simp [PV, ev, ea, numW])⟩)))⟩⟩
    | read r a =>
      cases n with
      | zero => simp only [okTR, Tm.ok] at hx
      | succ n =>
      simp only [okTR, Tm.ok] at hx
      simp only [dTR, Tm.d]
      refine rk_comp ht (by omega) (hFR n rfl) _ _ [.inr r, .inl a] false (by decide +kernel) (by decide +kernel) (by decide +kernel) (by rw [kd_read]; rfl) (by simp) (by rw [kd_read]; simp [List.filter, goes_r, goes_t', dTR]) (fun x m => by simp only [List.mem_cons, List.not_mem_nil, or_false] at m; rcases m with rfl | rfl; exact hx.1; exact hx.2) (by decide +kernel) fun ds hd => ?_
      obtain ⟨d, e2, rfl, e, e'⟩ := hd.two
      have e : RowV (evR t r) d := e
      have e' : e2 = numW (ev t a) := e'
      subst e'
      rw [any2, isN_row e, isN_num]
      cases ea : evR t r with
      | none => exact ⟨fun _ => k _ (by simp [PV, ev, ea, numW]), fun z => by cases z⟩
      | some u =>
        cases eb : ev t a with
        | none => exact ⟨fun _ => k _ (by simp [PV, ev, ea, eb, numW]), fun z => by cases z⟩
        | some j =>
          rw [ea] at e
          obtain ⟨ps, rfl, h1⟩ := e
          exact ⟨(fun z => by cases z), fun _ => ifn Bool.false_ne_true ⟨_, _, _, rfl, .inr (.inr (.inl ⟨rfl, _, ps, j, rfl, nd_of h1.srt, k _ (by simp [PV, ev, ea, eb, numW, h1.get])⟩))⟩⟩
    | dv a i =>
      cases n with
      | zero => simp only [okTR, Tm.ok] at hx
      | succ n =>
      simp only [okTR, Tm.ok] at hx
      simp only [dTR, Tm.d]
      refine rk_comp ht (by omega) (hFR n rfl) _ _ [.inl a] false (by decide +kernel) (by decide +kernel) (by decide +kernel) (by rw [kd_div]; rfl) (by simp) (by rw [kd_div]; simp [List.filter, goes_k, goes_t', dTR]) (fun x m => by rw [List.mem_singleton.mp m]; exact hx.2.2) (by decide +kernel) fun ds hd => ?_
      obtain ⟨d, rfl, e⟩ := hd.one
      have e : d = numW (ev t a) := e
      subst e
      rw [any1, isN_num]
      cases ea : ev t a with
      | none => exact ⟨fun _ => k _ (by simp [PV, ev, ea, numW]), fun z => by cases z⟩
      | some j => exact ⟨(fun z => by cases z), fun _ => ifn Bool.false_ne_true ⟨_, _, _, rfl, .inr (.inr (.inr (.inr (.inl ⟨rfl, i, j, _, rfl, rfl, hx.1, hx.2.1, lt (by omega) ((ev_ok ht n).1 a hx.2.2 j ea), k _ (by simp [PV, ev, ea, numW])⟩))))⟩⟩
    | md a i =>
      cases n with
      | zero => simp only [okTR, Tm.ok] at hx
      | succ n =>
      simp only [okTR, Tm.ok] at hx
      simp only [dTR, Tm.d]
      refine rk_comp ht (by omega) (hFR n rfl) _ _ [.inl a] false (by decide +kernel) (by decide +kernel) (by decide +kernel) (by rw [kd_mod]; rfl) (by simp) (by rw [kd_mod]; simp [List.filter, goes_k, goes_t', dTR]) (fun x m => by rw [List.mem_singleton.mp m]; exact hx.2.2) (by decide +kernel) fun ds hd => ?_
      obtain ⟨d, rfl, e⟩ := hd.one
      have e : d = numW (ev t a) := e
      subst e
      rw [any1, isN_num]
      cases ea : ev t a with
      | none => exact ⟨fun _ => k _ (by simp [PV, ev, ea, numW]), fun z => by cases z⟩
      | some j => exact ⟨(fun z => by cases z), fun _ => ifn Bool.false_ne_true ⟨_, _, _, rfl, .inr (.inr (.inr (.inr (.inr ⟨rfl, i, j, _, rfl, rfl, hx.1, k _ (by simp [PV, ev, ea, numW])⟩))))⟩⟩
    | add a b =>
      cases n with
      | zero => simp only [okTR, Tm.ok] at hx
      | succ n =>
      simp only [okTR, Tm.ok] at hx
      simp only [dTR, Tm.d]
      refine rk_comp ht (by omega) (hFR n rfl) _ _ [.inl a, .inl b] false (by decide +kernel) (by decide +kernel) (by decide +kernel) (by rw [kd_add]; rfl) (by simp) (by rw [kd_add]; simp [List.filter, goes_t', dTR]) (fun x m => by simp only [List.mem_cons, List.not_mem_nil, or_false] at m; rcases m with rfl | rfl; exact hx.1; exact hx.2) (by decide +kernel) fun ds hd => ?_
      obtain ⟨d, e2, rfl, e, e'⟩ := hd.two
      have e : d = numW (ev t a) := e
      have e' : e2 = numW (ev t b) := e'
      subst e e'
      rw [any2, isN_num, isN_num]
      cases ea : ev t a with
      | none => exact ⟨fun _ => k _ (by simp [PV, ev, ea, numW]), fun z => by cases z⟩
      | some i =>
        cases eb : ev t b with
        | none => exact ⟨fun _ => k _ (by simp [PV, ev, ea, eb, numW]), fun z => by cases z⟩
        | some j => exact ⟨(fun z => by cases z), fun _ => ifn Bool.false_ne_true ⟨_, _, _, rfl, .inl ⟨rfl, i, j, rfl, k _ (by simp [PV, ev, ea, eb, numW])⟩⟩⟩
  | inr r =>
    cases r with
    | row y =>
      simp only [dTR, Rw.d]
      refine seqSetX (d := wS "row") (fun Q q => ix_ok 0 rfl rfl q) (seqN (tw rfl (by decide +kernel)) (seqY (tin2 rfl (b := true) (by decide +kernel)) ?_))
      have hy : isKey y = true := by cases n <;> simpa only [okTR, Rw.ok] using hx
      refine ix_ok 1 rfl rfl ⟨t, y, _, hy, rfl, k _ ?_⟩
      show RowV (evR t (.row y)) (latW t y (decide (Str.ofString "row" = Str.ofString "row")))
      rw [show decide (Str.ofString "row" = Str.ofString "row") = true by decide +kernel]
      simp only [latW, evR]
      cases e : findW t y with
      | none => rfl
      | some v =>
        cases v with
        | inl i => rfl
        | inr u =>
          obtain ⟨k', mm⟩ := findW_mem e
          exact ⟨u.2, rfl, (ht.row k' u.1 u.2 mm).2.1⟩
    | room a =>
      cases n with
      | zero => simp only [okTR, Rw.ok] at hx
      | succ n =>
      simp only [okTR, Rw.ok] at hx
      simp only [dTR, Rw.d]
      refine rk_comp ht (by omega) (hFR n rfl) _ _ [.inl a] true (by decide +kernel) (by decide +kernel) (by decide +kernel) (by rw [kd_room]; rfl) (by simp) (by rw [kd_room]; simp [List.filter, goes_t', dTR]) (fun x m => by rw [List.mem_singleton.mp m]; exact hx) (by decide +kernel) fun ds hd => ?_
      obtain ⟨d, rfl, e⟩ := hd.one
      have e : d = numW (ev t a) := e
      subst e
      rw [any1, isN_num]
      cases ea : ev t a with
      | none => exact ⟨fun _ => k _ (by simp [PV, evR, ea, RowV]), fun z => by cases z⟩
      | some j =>
        refine ⟨(fun z => by cases z), fun _ => ifp rfl ⟨_, _, _, rfl, .inl ⟨rfl, j, rfl, k _ ?_⟩⟩⟩
        show RowV (evR t (.room a)) _
        simp only [evR, ea, Option.map_some, RowV]
        exact ⟨[], rfl, ⟨List.Pairwise.nil, (fun q m => by cases m), fun p => rfl⟩⟩
    | wth r a b =>
      cases n with
      | zero => simp only [okTR, Rw.ok] at hx
      | succ n =>
      simp only [okTR, Rw.ok] at hx
      simp only [dTR, Rw.d]
      refine rk_comp ht (by omega) (hFR n rfl) _ _ [.inr r, .inl a, .inl b] true (by decide +kernel) (by decide +kernel) (by decide +kernel) (by rw [kd_with]; rfl) (by simp) (by rw [kd_with]; simp [List.filter, goes_r, goes_t', dTR]) (fun x m => by simp only [List.mem_cons, List.not_mem_nil, or_false] at m; rcases m with rfl | rfl | rfl; exact hx.1; exact hx.2.1; exact hx.2.2) (by decide +kernel) fun ds hd => ?_
      obtain ⟨d, e2, e3, rfl, e, e', e''⟩ := hd.three
      have e : RowV (evR t r) d := e
      have e' : e2 = numW (ev t a) := e'
      have e'' : e3 = numW (ev t b) := e''
      subst e' e''
      rw [any3, isN_row e, isN_num, isN_num]
      cases ea : evR t r with
      | none => exact ⟨fun _ => k _ (by simp [PV, evR, ea, RowV]), fun z => by cases z⟩
      | some u =>
        cases eb : ev t a with
        | none => exact ⟨fun _ => k _ (by simp [PV, evR, ea, eb, RowV]), fun z => by cases z⟩
        | some i =>
          cases ec : ev t b with
          | none => exact ⟨fun _ => k _ (by simp [PV, evR, ea, eb, ec, RowV]), fun z => by cases z⟩
          | some j =>
            rw [ea] at e
            obtain ⟨ps, rfl, h1⟩ := e
            obtain ⟨_, qs, h3, h4⟩ := (ev_ok ht n).2 r hx.1 u ea
            have hlen : ps.length ≤ 500 := by
              rw [h1.uniq h3]
              have := h4.len
              omega
            refine ⟨(fun z => by cases z), fun _ => ifp rfl ⟨_, _, _, rfl, .inr ⟨rfl, _, ps, i, j, rfl, nd_of h1.srt, hlen, fun rs hrs => k _ ?_⟩⟩⟩
            show RowV (evR t (.wth r a b)) _
            simp only [evR, ea, eb, ec, Option.bind_some, Option.map_some, RowV]
            exact ⟨rs, rfl, ⟨hrs.srt, hrs.nz, fun x => by rw [hrs.get]; unfold updF; split; rfl; exact h1.get x⟩⟩

/-! ### making a Look, worth_of -/
section
variable {P : Program} {w : World} {K : PySem.W.Frag} {mg : Str → Option Value} {base : Heap} {Cc : Addr}
theorem ok_reckon (T : Tx w K mg) (CL : C_Look K mg Cc)
    (O_parts_of : Ok P w K mg base 2 "parts_of" ["thing"] (spN K 1 .E parts2F)) (O_sort_of : Ok P w K mg base 1 "sort_of" ["word"] (spN K 1 .E sortF))
    (O_Look_letter_at : OkB P w K mg base (BK K ["self", "letter", "table", "of_row"] 3 ["of_row"]) Cc 2 "letter_at" ["self", "letter", "table", "of_row"] (spM K Cc fF_Look 3 .E latF))
    (O_Look_reckon_number : OkB P w K mg base (B0 K ["self", "term", "parts"]) Cc 2 "reckon_number" ["self", "term", "parts"] (spM K Cc fF_Look 2 .E rnF))
    (O_Look_reckon_row : OkB P w K mg base (B0 K ["self", "term", "parts"]) Cc 2 "reckon_row" ["self", "term", "parts"] (spM K Cc fF_Look 2 .E rrF)) : ∀ n, n ≤ 9 → OkB P w K mg base (BR K) Cc (n + 3) "reckon" ["self", "term", "table", "known"] (spM K Cc fF_Look 3 .E (rkF n)) := by
  have NM : ∀ {B : FuncData → Prop} {m q : Str} {st : Stmt} {N ps : List Str} {k n : Nat}, MtB K B Cc m q st → FnScope N ps (defScope st) → OkB P w K mg base B Cc (k + 1) m ps (spM K Cc fF_Look n .E fun _ _ _ _ _ => False) := fun D S => by
    obtain ⟨f, fd, a, b, c⟩ := OkB.no (P := P) (w := w) (mg := mg) (base := base) D S
    refine ⟨f, fd, a, b, c.imp fun vs H Q E h => ?_⟩
    obtain ⟨_, _, _, _, _, _, _, _, _, _, _, _, _, _, _, _, _, h, _⟩ := h
    exact h
  have O_Look_reckon_notion : OkB P w K mg base (B0 K ["self", "term", "parts"]) Cc 2 "reckon_notion" ["self", "term", "parts"] (spM K Cc fF_Look 2 .E fun _ _ _ _ _ => False) := NM CL.m_reckon_notion sc_Look_reckon_notion
  have body : ∀ {n l : Nat} (hn : n ≤ 9) (hl2 : 2 ≤ l) {FR : List D → DFM} (hFR : ∀ k, k + 1 = n → ∀ fs ds m h Q, rkF k fs ds m h Q → FR fs ds m h Q) (O_Look_reckon : OkB P w K mg base (BR K) Cc l "reckon" ["self", "term", "table", "known"] (spM K Cc fF_Look 3 .E FR)),
      OkB P w K mg base (BR K) Cc (l + 1) "reckon" ["self", "term", "table", "known"] (spM K Cc fF_Look 3 .E (rkF n)) := by
    intro n l hn hl2 FR hFR O_Look_reckon
    refine OkB.ofM (M := []) CL.m_reckon sc_Look_reckon rfl (by decide) (by decide) fun f cdv A outer s H E p c ls fs hls hr => ?_
    have L : Slf (sLk Cc ls fs K p c []) Cc fF_Look ls fs := ⟨by simp, rfl, hls, rfl⟩
    refine ⟨_, _, (pss_cons (ps_set (i := 4) sc_Look_reckon.nd rfl (Or.inl rfl) (pe_ix (ixG K rfl (u65 hr.toRoom)) (pv 1) (pe_int) (fun _ _ => rfl)))
 (pss_cons (ps_if (pt_cmpR (eqG K rfl hr.units) (pv 4) (pe_str) (nomark _))
 (pss_one (ps_ret (pe_ix (ixG K rfl (u65 hr.toRoom)) (pv 1) (pe_int) (fun _ _ => rfl))))
 (pss_nil))
 (pss_cons (ps_if (pt_cmpR (inG K rfl (u65 hr.toRoom)) (pv 4) (pe_tupZ (pa_cons (pe_str) (pa_cons (pe_str) (pa_nil)))) (by rfl))
 (pss_one (ps_ret (pe_mthK (pv 0) CL.k.cl O_Look_letter_at (hr.mono (by omega)) (pa_cons (pe_ix (ixG K rfl (u65 hr.toRoom)) (pv 1) (pe_int) (fun _ _ => rfl)) (pa_cons (pv 2) (pa_nil))) (pk_cons (pe_cmpR (eqG K rfl hr.units) (pv 4) (pe_str) (nomark _)) (pk_nil)))))
 (pss_nil))
 (pss_cons (ps_if (PW.pt (pw_and (pt_cmpR (eqG K rfl hr.units) (pv 4) (pe_str) (nomark _)) (pw_and (pt_cmpR op_notN (pv 3) (pe_non) (nomark _)) (pw_and1 (pt_cmpR (eqG K rfl hr.units) (pe_ix (ixG K rfl (u65 hr.toRoom)) (pv 3) (pe_int) (fun _ _ => rfl)) (pe_ix (ixG K rfl (u65 hr.toRoom)) (pv 1) (pe_int) (fun _ _ => rfl)) (nomark _))))))
 (pss_one (ps_ret (pe_ix (ixG K rfl (u65 hr.toRoom)) (pv 3) (pe_int) (fun _ _ => rfl))))
 (pss_nil))
 (pss_cons (ps_setLc (i := 5) (own := [("part", 6)]) rfl sc_Look_reckon.nd rfl rfl (sw_true rfl rfl rfl (by decide +kernel)) (piL K rfl (pe_fn O_parts_of (hr.mono (by omega)) (by rfl) (pa_cons (pv 1) (pa_nil)))) (blkOk_by (own := [("part", 6)]) (N := ["self", "term", "table", "known", "word", "parts", "part"]) (sc := defScope s_Look_reckon) (by decide +kernel)) (fun _ _ _ _ _ => pg_nameL (i := 6) sc_Look_reckon.nd rfl rfl) (fun _ _ _ _ _ => pts_nil) (fun _ _ _ _ _ => pe_mth (pv 0) CL.k.cl (OkB.ok (O_Look_reckon.imp fun _ h => h.1)) (hr.mono (by omega)) (pa_cons (pv 6) (pa_cons (pv 2) (pa_cons (pv 3) (pa_nil))))))
 (pss_cons (ps_if (pt_cmpR (eqG K rfl hr.units) (pv 4) (pe_str) (nomark _))
 (pss_one (ps_ret (pe_mth (pv 0) CL.k.cl (OkB.ok O_Look_reckon_notion) (hr.mono (by omega)) (pa_cons (pv 1) (pa_cons (pv 5) (pa_nil))))))
 (pss_nil))
 (pss_cons (ps_if (pt_cmpR (inG K rfl (u65 hr.toRoom)) (pe_non) (pv 5) (by rfl))
 (pss_one (ps_ret (pe_non)))
 (pss_nil))
 (pss_one (ps_ret (pe_ifExp (pt_cmpR (eqG K rfl hr.units) (pe_fn O_sort_of (hr.mono (by omega)) (by rfl) (pa_cons (pv 4) (pa_nil))) (pe_str) (nomark _)) (pe_mth (pv 0) CL.k.cl (OkB.ok O_Look_reckon_row) (hr.mono (by omega)) (pa_cons (pv 1) (pa_cons (pv 5) (pa_nil)))) (pe_mth (pv 0) CL.k.cl (OkB.ok O_Look_reckon_number) (hr.mono (by omega)) (pa_cons (pv 1) (pa_cons (pv 5) (pa_nil)))))))))))))),
 (simS_seq (simS_set 4 (nm rfl) (np rfl) (opA_ix (sim_var 1 (nm rfl)) (sim_int _)))
 (simS_seq (simS_if (simT_test (sim_op opA_eq (sim_var 4 (nm rfl)) (sim_str _)))
 (simS_ret (Sim.toE (opA_ix (sim_var 1 (nm rfl)) (sim_int _))))
 (simS_next))
 (simS_seq (simS_if (simT_test (sim_op opA_in (sim_var 4 (nm rfl)) (sim_tup (by decide) (simA_cons (sim_str _) (simA_cons (sim_str _) (simA_nil))))))
 (simS_ret (Sim.toE (sim_callMK L (fm_Look_letter_at ls) (simA_cons (opA_ix (sim_var 1 (nm rfl)) (sim_int _)) (simA_cons (sim_var 2 (nm rfl)) (simA_nil))) (simA_cons (sim_op opA_eq (sim_var 4 (nm rfl)) (sim_str _)) (simA_nil)))))
 (simS_next))
 (simS_seq (simS_if (simT_and (simT_test (sim_op opA_eq (sim_var 4 (nm rfl)) (sim_str _))) (simT_and (simT_test (sim_op opA_notN (sim_var 3 (nm rfl)) (sim_non))) (simT_test (sim_op opA_eq (opA_ix (sim_var 3 (nm rfl)) (sim_int _)) (opA_ix (sim_var 1 (nm rfl)) (sim_int _))))))
 (simS_ret (Sim.toE (opA_ix (sim_var 3 (nm rfl)) (sim_int _))))
 (simS_next))
 (simS_seq (simS_set 5 (nm rfl) (np rfl) (sim_lc (simI_list (sim_call (simA_cons (sim_var 1 (nm rfl)) (simA_nil)))) (simG_name 6 (nm rfl) (np rfl)) (simT_yes) (sim_callM L (fm_Look_reckon ls) (simA_cons (sim_var 6 (nm rfl)) (simA_cons (sim_var 2 (nm rfl)) (simA_cons (sim_var 3 (nm rfl)) (simA_nil))))) (inv' rfl) (nmv rfl) (npv rfl)))
 (simS_seq (simS_if (simT_test (sim_op opA_eq (sim_var 4 (nm rfl)) (sim_str _)))
 (simS_ret (Sim.toE (sim_callM L (fm_Look_reckon_notion ls) (simA_cons (sim_var 1 (nm rfl)) (simA_cons (sim_var 5 (nm rfl)) (simA_nil))))))
 (simS_next))
 (simS_seq (simS_if (simT_test (sim_op opA_in (sim_non) (sim_var 5 (nm rfl))))
 (simS_ret (Sim.toE (sim_non)))
 (simS_next))
 (simS_ret (Sim.toE (sim_if (simT_test (sim_op opA_eq (sim_call (simA_cons (sim_var 4 (nm rfl)) (simA_nil))) (sim_str _))) (Sim.toE (sim_callM L (fm_Look_reckon_row ls) (simA_cons (sim_var 1 (nm rfl)) (simA_cons (sim_var 5 (nm rfl)) (simA_nil))))) (Sim.toE (sim_callM L (fm_Look_reckon_number ls) (simA_cons (sim_var 1 (nm rfl)) (simA_cons (sim_var 5 (nm rfl)) (simA_nil))))))))))))))), ?_⟩
    rintro ds m h Q hl ⟨t, x, ht, hx, rfl, k⟩
    exact rk_plain hn hFR ht hx k
  intro n
  induction n with
  | zero => exact fun hn => body (FR := fun _ _ _ _ _ => False) hn (Nat.le_refl 2) (fun k e => by omega) (NM CL.m_reckon sc_Look_reckon)
  | succ n ih => exact fun hn => body (FR := rkF n) hn (by omega) (fun k e => by rw [show k = n by omega]; exact fun _ _ _ _ _ h => h) (ih (by omega))
end

section
variable {P : Program} {w : World} {K : PySem.W.Frag} {mg : Str → Option Value} {base : Heap} {Cc : Addr}
def firm0F : DF := fun ds Q => ds = [.dict []] ∧ Q (.list [])
theorem ok_firm0 (T : Tx w K mg) : Ok P w K mg base 2 "firm" ["notions"] (spN K 1 .F firm0F) := by
  have O_stands : Ok P w K mg base 1 "stands" ["notion", "notions", "found"] (spN K 3 .E fun _ _ => False) := (Ok.no T.d_stands sc_stands (spN_no fun ds Q h => h))
  refine Ok.ofN (M := [1]) T.d_firm sc_firm rfl (by decide) fun f cdv A outer s H E hr => ⟨_, _, (pss_cons (ps_set (i := 1) sc_firm.nd rfl (Or.inl rfl) (pe_lst (pa_nil)))
 (pss_cons (ps_for PassesOwn.never rfl (pi_range1 (by rfl) T.z_range (pa_cons (pe_gv (by rfl) T.g_FLOORS) (pa_nil))) (pg_nameL (i := 2) sc_firm.nd rfl rfl)
 (pss_one (ps_for PassesOwn.never rfl (piL K rfl (pe_callB (sortG K rfl rfl) (by rfl) T.z_sorted boot_sorted (pa_cons (pv 0) (pa_nil)))) (pg_nameL (i := 3) sc_firm.nd rfl rfl)
 (pss_one (ps_if (PW.pt (pw_and (pt_cmpR (eqG K rfl hr.units) (pe_ix (ixG K rfl (u65 hr.toRoom)) (pe_ix (ixG K rfl (u65 hr.toRoom)) (pv 0) (pv 3) (fun _ _ => rfl)) (pe_int) (fun _ _ => rfl)) (pv 2) (nomark _)) (pw_and1 (pt_val (pe_fn O_stands (hr.mono (by omega)) (by rfl) (pa_cons (pe_ix (ixG K rfl (u65 hr.toRoom)) (pv 0) (pv 3) (fun _ _ => rfl)) (pa_cons (pv 0) (pa_cons (pv 1) (pa_nil)))))))))
 (pss_one (ps_expr (appK K rfl (pv 1) (pv 3))))
 (pss_nil))))))
 (pss_one (ps_ret (pe_callB (sortG K rfl rfl) (by rfl) T.z_sorted boot_sorted (pa_cons (pv 1) pa_nil)))))),
 (simS_seq (simS_setM 1 (ym rfl) (nb rfl) (sim_lst (by decide) (simA_nil)))
 (simS_cut (simS_for (simI_range1 (sim_int _)) (simG_name 2 (nm rfl) (np rfl))
 (simS_for (simI_list (sim_cb caA_sort (simA_cons (sim_var 0 (nm rfl)) (simA_nil)))) (simG_name 3 (nm rfl) (np rfl))
 (simS_if (simT_and (simT_test (sim_op opA_eq (opA_ix (opA_ix (sim_var 0 (nm rfl)) (sim_var 3 (nm rfl))) (sim_int _)) (sim_var 2 (nm rfl)))) (simT_B (sim_callO (simO'_cons (opA_ix (sim_var 0 (nm rfl)) (sim_var 3 (nm rfl))) (simO'_cons (sim_var 0 (nm rfl)) (simO'_own (ym rfl) (simA_nil)))))))
 (simS_drop (sim_mt 1 (ym rfl) mtA_app (simA_cons (sim_var 3 (nm rfl)) simA_nil)))
 (simS_next))))
 (simS_ret (sim_cbM 1 (ym rfl) caA_sort)))), ?_⟩
  rintro ds Q hl ⟨rfl, q⟩
  have e : ∀ ys : List Str, ys.Perm [] → ys = [] := fun ys h => List.perm_nil.mp h
  refine ⟨rfl, fun s => ∃ o2 o3, s = { δ := [some (.dict []), some (.list []), o2, o3], n := 0 }, ?_, ?_⟩
  · refine ⟨⟨by decide, by decide⟩, forD_ind (fun j s => ∃ o2 o3, s = { δ := [some (.dict []), some (.list []), o2, o3], n := 0 }) ⟨none, none, rfl⟩ ?_ ?_⟩
    · rintro j d s N hd ⟨o2, o3, rfl⟩ hN
      refine ⟨[], rfl, by decide, fun ys hp hs => ?_⟩
      rw [e ys hp]
      exact hN _ ⟨_, _, rfl⟩
    · rintro s ⟨o2, o3, rfl⟩
      exact ⟨_, _, rfl⟩
  · rintro s ⟨o2, o3, rfl⟩
    refine ⟨[], rfl, by decide, fun ys hp hs => ?_⟩
    rw [e ys hp]
    exact q
/-- a new Look, its notions none -/
def spLkI (K : PySem.W.Frag) (Cc : Addr) : Sp := fun vs H Q _ => ∃ (p dx : Addr) (a : V) (Hs : Hp), vs = [.ref p, a] ∧ H p = some (.ins Cc dx []) ∧ Hs p = none ∧ Same Hs H ∧ Rp K Hs a (.dict []) ∧
  ∀ Hs' H' b, Same Hs Hs' → Same Hs' H' → But p H H' → (∀ x, Hs x = none → Hs' x ≠ none → H x = none) → Hs' p = none → H' p = some (.ins Cc dx (fF_Look [a, b] (.int 0) .non)) → Rp K Hs' b (.list []) → Q .non H'
theorem ok_lookI (T : Tx w K mg) (CL : C_Look K mg Cc) : OkM P w K mg base Cc 3 "__init__" ["self", "notions"] (spLkI K Cc) := by
  have O_firm : Ok P w K mg base 2 "firm" ["notions"] (spN K 1 .F firm0F) := ok_firm0 T
  refine OkM.mk CL.k.init sc_Look___init__ (fun vs H Q E h => ?_) (fun f cdv A outer s H vs Q E hr h => ?_)
  · obtain ⟨p, dx, a, Hs, rfl, _⟩ := h; rfl
  · obtain ⟨p, dx, a, Hs, rfl, hp, np, sub, ra, k⟩ := h
    refine ⟨_, pss_cons (ps_fld (pv 0) (pv 1) rfl) (pss_cons (ps_fld (pv 0) (pe_fn O_firm (hr.mono (by omega)) (by rfl) (pa_cons (pv 1) pa_nil)) rfl) (pss_cons (ps_fld (pv 0) pe_int rfl) (pss_one (ps_fld (pv 0) pe_non rfl)))), ?_⟩
    refine ⟨a, rfl, .ref p, rfl, p, Cc, dx, _, rfl, hp, CL.k.cl, CL.n_notions, (by show 0 < 1000; decide), ?_⟩
    refine ⟨a, rfl, ?_⟩
    have sm1 : Same Hs (L2.upd H p (.ins Cc dx [("notions", a)])) := fun b o e => by
      rw [upd_ne (fun z => by subst z; rw [np] at e; cases e)]
      exact sub _ _ e
    refine ⟨Hs, [.dict []], fun d => d = .list [], sm1, .cons ra .nil, rfl, ⟨rfl, rfl⟩, fun d Hs1 H1 v e st sb hh nw rv => ?_⟩
    subst e
    obtain ⟨b', o, rfl, e1, e2, e3, e4⟩ := (show ∃ b' o, v = .ref b' ∧ H1 b' = some o ∧ Hs1 b' = none ∧ L2.upd H p (.ins Cc dx [("notions", a)]) b' = none ∧ Cn K Hs1 o (.list []) from rv)
    have hp1 : H1 p = some (.ins Cc dx [("notions", a)]) := hh _ _ upd_same
    have np1 : Hs1 p = none := by
      cases q : Hs1 p with
      | none => rfl
      | some u => exact absurd (nw p np (by rw [q]; exact (fun z => nomatch z))) (by rw [upd_same]; exact (fun z => nomatch z))
    have bp : b' ≠ p := fun z => by subst z; rw [upd_same] at e3; cases e3
    have hb0 : H b' = none := by rwa [upd_ne bp] at e3
    refine ⟨.ref p, rfl, p, Cc, dx, _, rfl, hp1, CL.k.cl, CL.n_firm, (by show 1 < 1000; decide), ?_⟩
    refine ⟨.ref p, rfl, p, Cc, dx, _, rfl, upd_same, CL.k.cl, CL.n_count, ?_, ?_⟩
    · rw [pf_skip (by decide +kernel)]
      show 2 < 1000
      decide
    refine ⟨.ref p, rfl, p, Cc, dx, _, rfl, upd_same, CL.k.cl, CL.n_first, ?_, ?_⟩
    · rw [pf_skip (x := "firm") (by decide +kernel), pf_skip (x := "count") (by decide +kernel), show putF ("firm" : Str) (V.ref b') [] = [(("firm" : Str), V.ref b')] from rfl, pf_skip (x := "count") (by decide +kernel)]
      show 3 < 1000
      decide
    have ef : putF ("first" : Str) V.non (putF "count" (V.int 0) (putF "firm" (V.ref b') [("notions", a)])) = fF_Look [a, .ref b'] (.int 0) .non := by
      rw [pf_skip (x := "firm") (by decide +kernel), pf_skip (x := "count") (by decide +kernel), show putF ("firm" : Str) (V.ref b') [] = [(("firm" : Str), V.ref b')] from rfl, pf_skip (x := "count") (by decide +kernel),
        show putF ("count" : Str) (V.int 0) [] = [(("count" : Str), V.int 0)] from rfl, pf_skip (x := "first") (by decide +kernel), pf_skip (x := "first") (by decide +kernel), pf_skip (x := "first") (by decide +kernel)]
      rfl
    rw [ef]
    refine k (L2.upd Hs1 b' o) _ (.ref b') (st.trans (same_upd e2)) (fun c u ec => ?_) (fun c u n ec => ?_) (fun c h1 h2 => ?_) ?_ upd_same ((e4.mono (same_upd e2)).rp upd_same)
    · have cp : c ≠ p := fun z => by subst z; rw [upd_ne (Ne.symm bp), np1] at ec; cases ec
      rw [upd_ne cp, upd_ne cp, upd_ne cp]
      by_cases hc : c = b'
      · subst hc; rw [upd_same] at ec; cases ec; exact e1
      · rw [upd_ne hc] at ec; exact sb _ _ ec
    · rw [upd_ne n, upd_ne n, upd_ne n]
      exact hh _ _ (by rw [upd_ne n]; exact ec)
    · by_cases hc : c = b'
      · rw [hc]; exact hb0
      · rw [upd_ne hc] at h2
        have h3 := nw c h1 h2
        by_cases cp : c = p
        · subst cp; exact absurd np1 h2
        · rwa [upd_ne cp] at h3
    · rw [upd_ne (Ne.symm bp)]; exact np1
end

section
variable {P : Program} {w : World} {K : PySem.W.Frag} {mg : Str → Option Value} {base : Heap} {Cc : Addr}
def woF : DF := fun ds Q => ∃ (t : Tab) (x : TR), TabOk t ∧ okTR 6 x ∧ ds = [dTR x, .dict (tabD t), .dict []] ∧ ∀ d, PV t x d → Q d
theorem ok_worth_of (T : Tx w K mg) (CL : C_Look K mg Cc) (O_Look_reckon : OkB P w K mg base (BR K) Cc 9 "reckon" ["self", "term", "table", "known"] (spM K Cc fF_Look 3 .E (rkF 6))) : Ok P w K mg base 12 "worth_of" ["thing", "table", "notions"] (spN K 3 .E woF) := by
  have O_lookI : OkM P w K mg base Cc 3 "__init__" ["self", "notions"] (spLkI K Cc) := ok_lookI T CL
  refine Ok.mk T.d_worth_of sc_worth_of (fun vs H Q E h => ?_) (fun f cdv A outer s H vs Q E hr h => ?_)
  · obtain ⟨Hs, ds, Q0, _, h2, h3, _⟩ := h
    rw [h2.len, h3]
    rfl
  · obtain ⟨Hs, ds, Q0, sub, h2, h3, ⟨t, x, ht, hx, rfl, q⟩, k⟩ := h
    match vs, h2 with
    | [va, vb', vc], .cons ra (.cons rb (.cons rc .nil)) =>
    refine ⟨_, pss_cons (ps_set (i := 3) sc_worth_of.nd rfl (Or.inl rfl) (pe_new CL.k O_lookI (hr.mono (by omega)) (by rfl) (pa_cons (pv 2) pa_nil)))
      (pss_cons (ps_set (i := 4) sc_worth_of.nd rfl (Or.inl rfl) (pe_mthD (pv 3) CL.k.cl (O_Look_reckon.imp fun _ h => h.2) (hr.mono (by omega)) (pa_cons (pv 0) (pa_cons (pv 1) pa_nil))))
      (pss_one (ps_ret (pe_ifExp (pt_cmpR op_le (pe_fld (pv 3) rfl) (pe_gv (by rfl) T.g_MOST_LOOK) (nomark _)) (pv 4) pe_non)))), ?_⟩
    refine ⟨vc, rfl, fun p dx hp hd ne => ?_⟩
    have n0 : ∀ {b : Addr}, H b = none → Hs b = none := fun {b} e => by
      cases q : Hs b with
      | none => rfl
      | some o => rw [sub _ _ q] at e; cases e
    have up : ∀ b o, H b = some o → L2.upd (L2.upd H dx (.own p)) p (.ins Cc dx []) b = some o := fun b o e => by
      rw [upd_ne (fun z => by subst z; rw [hp] at e; cases e), upd_ne (fun z => by subst z; rw [hd] at e; cases e)]
      exact e
    refine ⟨p, dx, vc, Hs, rfl, upd_same, n0 hp, fun b o e => up _ _ (sub _ _ e), rc, fun Hs1 H1 bb st sb bt nw np hp1 rbb => ⟨rfl, ?_⟩⟩
    have hd1 : H1 dx = some (.own p) := bt _ _ ne (by rw [upd_ne ne]; exact upd_same)
    have h01 : ∀ b o, H b = some o → H1 b = some o := fun b o e => bt _ _ (fun z => by subst z; rw [hp] at e; cases e) (up _ _ e)
    refine ⟨.ref p, rfl, p, dx, _, rfl, hp1, fm_Look_reckon _ _ _, va, rfl, vb', rfl, ?_⟩
    refine ⟨Hs1, p, dx, 0, .none, [vc, bb], [.dict [], .list []], [va, vb', .non], [dTR x, .dict (tabD t), .none], fun d k' h' => k' = 0 ∧ Q0 d, rfl, rfl,
      ⟨⟨.non, .non, hp1⟩, hd1, ne, fun y m => ?_⟩, np, sb, .cons (Rp.mono st ra) (.cons (Rp.mono st rb) (.cons .non .nil)), rfl, ⟨t, x, ht, hx, rfl, fun d hd => ⟨rfl, q d hd⟩⟩, fun d k' h' Hs2 H2 v q2 st2 sb2 bt2 nw2 np2 pe2 rv2 => ?_⟩
    · have m : y ∈ [(vc, PyData.dict []), (bb, PyData.list [])] := m
      simp only [List.mem_cons, List.not_mem_nil, or_false] at m
      rcases m with rfl | rfl
      · exact Rp.mono st rc
      · exact rbb
    · obtain ⟨rfl, q2⟩ := q2
      obtain ⟨⟨hv, _, ei⟩, _⟩ := pe2
      refine ⟨.ref p, rfl, p, Cc, dx, _, .int 0, rfl, ei, CL.k.cl, CL.n_count, fk_Look_count _ _ _, 0, 400, rfl, rfl, _, rfl, ifp (by decide) ⟨v, rfl, ?_⟩⟩
      have h02 : ∀ b o, H b = some o → H2 b = some o := fun b o e => bt2 _ _ (fun z => by subst z; rw [hp] at e; cases e) (h01 _ _ e)
      refine k d Hs2 H2 v q2 (st.trans st2) sb2 h02 (fun b e1 e2 => ?_) rv2
      cases e3 : H b with
      | none => rfl
      | some o =>
        exfalso
        cases e4 : Hs1 b with
        | some u =>
          have := nw b e1 (by rw [e4]; exact (fun z => nomatch z))
          rw [up _ _ e3] at this
          cases this
        | none =>
          have := nw2 b e4 e2
          rw [h01 _ _ e3] at this
          cases this
end

/-! ### drawn terms and rows without notions, as terms and rows -/
def EnvW (e : D) : Prop := ∃ nums rows, e = .dict (envKV nums rows []) ∧ (Lets false nums ∧ ∃ i : Int, PyData.int i ∈ nums) ∧ Lets true rows
def DrT (j : Nat) (x : D) : Prop := Dr sT j x ∧ ∃ a : Tm, x = a.d ∧ a.ok j
def DrR (j : Nat) (x : D) : Prop := Dr sR j x ∧ ∃ r : Rw, x = r.d ∧ r.ok j
def gtW (j : Nat) : DFP := fun ds n Q => ∃ e, ds = [.int (j : Int), e] ∧ EnvW e ∧ n + cst j ≤ penLim ∧ ∀ (x : D) (n' : Nat), DrT j x → n' ≤ n + cst j → Q x n'
def grW (j : Nat) : DFP := fun ds n Q => ∃ e, ds = [.int (j : Int), e] ∧ EnvW e ∧ n + cst j ≤ penLim ∧ ∀ (x : D) (n' : Nat), DrR j x → n' ≤ n + cst j → Q x n'
theorem isIS_key {x : D} (h : isIS x = true) : isKey x = true := by cases x <;> first | rfl | cases h
theorem ok_row (j : Nat) {y : D} (h : isIS y = true) : (Rw.row y).ok j := by cases j <;> simpa only [Rw.ok] using isIS_key h
theorem ok_name (j : Nat) {y : D} (h : isIS y = true) : (Tm.name y).ok j := by cases j <;> simpa only [Tm.ok] using isIS_key h
theorem ok_num (j : Nat) {i : Int} (h : i.natAbs ≤ 10 ^ 40) : (Tm.num i).ok j := by cases j <;> simpa only [Tm.ok] using h
section
variable {P : Program} {w : World} {K : PySem.W.Frag} {mg : Str → Option Value} {base : Heap}
theorem grow_bodyW (T : Tx w K mg) (O__law_take : Ok P w K mg base 2 "_law_take" ["_law_pen", "_law_many"] (spP K 1 .E takeF)) {b l : Nat} (hl2 : 2 ≤ l) {FT FR : DFP} (hT : ∀ i, i + 1 ≤ b → ∀ ds n Q, gtW i ds n Q → FT ds n Q) (hR : ∀ i, i + 1 ≤ b → ∀ ds n Q, grW i ds n Q → FR ds n Q)
    (O__law_gterm : Ok P w K mg base l "_law_gterm" gPs (spP K 2 .E FT)) (O__law_grow : Ok P w K mg base l "_law_grow" gPs (spP K 2 .E FR)) : Ok P w K mg base (l + 1) "_law_grow" gPs (spP K 2 .E (upF grW b)) := by
  refine Ok.ofP (M := []) T.d__law_grow sc__law_grow rfl (by decide) (by decide) fun f cdv A outer s H E p c hr => ⟨_, _, (pss_cons (ps_set (i := 3) sc__law_grow.nd rfl (Or.inl rfl) (pe_fn O__law_take (hr.mono (by omega)) (by rfl) (pa_cons (pv 0) (pa_cons (pe_int) (pa_nil)))))
 (pss_cons (ps_if (PW.pt (pw_or (pt_cmpR (eqG K rfl hr.units) (pv 1) (pe_int) (nomark _)) (pw_or1 (pt_cmpR op_lt (pv 3) (pe_int) (nomark _)))))
 (pss_one (ps_ret (pe_tupZ (pa_cons (pe_str) (pa_cons (pe_ix (ixG K rfl (u65 hr.toRoom)) (pe_ix (ixG K rfl (u65 hr.toRoom)) (pv 2) (pe_str) (fun _ _ => rfl)) (pe_fn O__law_take (hr.mono (by omega)) (by rfl) (pa_cons (pv 0) (pa_cons (pe_callB (lenG K rfl) (by rfl) T.z_len boot_len (pa_cons (pe_ix (ixG K rfl (u65 hr.toRoom)) (pv 2) (pe_str) (fun _ _ => rfl)) (pa_nil))) (pa_nil)))) (fun _ _ => rfl)) (pa_nil))))))
 (pss_nil))
 (pss_cons (ps_if (pt_cmpR (eqG K rfl hr.units) (pv 3) (pe_int) (nomark _))
 (pss_one (ps_ret (pe_tupZ (pa_cons (pe_str) (pa_cons (pe_fn O__law_gterm (hr.mono (by omega)) (by rfl) (pa_cons (pv 0) (pa_cons (pe_op op_sub (pv 1) (pe_int)) (pa_cons (pv 2) (pa_nil))))) (pa_nil))))))
 (pss_nil))
 (pss_cons (ps_set (i := 4) sc__law_grow.nd rfl (Or.inl rfl) (pe_fn O__law_grow (hr.mono (by omega)) (by rfl) (pa_cons (pv 0) (pa_cons (pe_op op_sub (pv 1) (pe_int)) (pa_cons (pv 2) (pa_nil))))))
 (pss_one (ps_ret (pe_tupZ (pa_cons (pe_str) (pa_cons (pv 4) (pa_cons (pe_fn O__law_gterm (hr.mono (by omega)) (by rfl) (pa_cons (pv 0) (pa_cons (pe_op op_sub (pv 1) (pe_int)) (pa_cons (pv 2) (pa_nil))))) (pa_cons (pe_fn O__law_gterm (hr.mono (by omega)) (by rfl) (pa_cons (pv 0) (pa_cons (pe_op op_sub (pv 1) (pe_int)) (pa_cons (pv 2) (pa_nil))))) (pa_nil)))))))))))),
 (simS_seq (simS_set 3 (nm rfl) (np rfl) (sim_callP (by simp) rfl (simA_cons (sim_int _) (simA_nil))))
 (simS_seq (simS_if (simT_or (simT_test (sim_op opA_eq (sim_var 1 (nm rfl)) (sim_int _))) (simT_test (sim_op (opA_cmp _) (sim_var 3 (nm rfl)) (sim_int _))))
 (simS_ret (Sim.toE (sim_tup (by decide) (simA_cons (sim_str _) (simA_cons (opA_ix (opA_ix (sim_var 2 (nm rfl)) (sim_str _)) (sim_callP (by simp) rfl (simA_cons (sim_cb caA_len (simA_cons (opA_ix (sim_var 2 (nm rfl)) (sim_str _)) (simA_nil))) (simA_nil)))) (simA_nil))))))
 (simS_next))
 (simS_seq (simS_if (simT_test (sim_op opA_eq (sim_var 3 (nm rfl)) (sim_int _)))
 (simS_ret (Sim.toE (sim_tup (by decide) (simA_cons (sim_str _) (simA_cons (sim_callP (by simp) rfl (simA_cons (sim_op opA_sub (sim_var 1 (nm rfl)) (sim_int _)) (simA_cons (sim_var 2 (nm rfl)) (simA_nil)))) (simA_nil))))))
 (simS_next))
 (simS_seq (simS_set 4 (nm rfl) (np rfl) (sim_callP (by simp) rfl (simA_cons (sim_op opA_sub (sim_var 1 (nm rfl)) (sim_int _)) (simA_cons (sim_var 2 (nm rfl)) (simA_nil)))))
 (simS_ret (Sim.toE (sim_tup (by decide) (simA_cons (sim_str _) (simA_cons (sim_var 4 (nm rfl)) (simA_cons (sim_callP (by simp) rfl (simA_cons (sim_op opA_sub (sim_var 1 (nm rfl)) (sim_int _)) (simA_cons (sim_var 2 (nm rfl)) (simA_nil)))) (simA_cons (sim_callP (by simp) rfl (simA_cons (sim_op opA_sub (sim_var 1 (nm rfl)) (sim_int _)) (simA_cons (sim_var 2 (nm rfl)) (simA_nil)))) (simA_nil)))))))))))), ?_⟩
  rintro ds m Q hl ⟨j, hjb, e, rfl, he, hm, k⟩
  have hc := cst_le j
  have htt := tt_le j
  have he' := he
  obtain ⟨nums, rows, rfl, ⟨hn, hni⟩, hrw⟩ := he
  refine tk_ok (by (first | omega | (dsimp only; omega) | (dsimp only at *; omega))) (by decide) (by decide) fun way w0 w1 => ?_
  dsimp only
  refine seqIf (b := decide ((j : Int) = 0) || decide (way < 2)) (tst_or (fun Q q => q) (fun _ => fun Q q => q)) (fun h => ?_) (fun h => ?_)
  · have hp : 0 < rows.length := List.length_pos_iff.mpr hrw.1
    have hp2 := hrw.2.1
    refine ⟨_, kv_r, ⟨_, kv_r, ?_⟩⟩
    refine tk_ok (by (first | omega | (dsimp only; omega) | (dsimp only at *; omega))) (by (first | omega | (dsimp only; omega) | (dsimp only at *; omega))) (by (first | omega | (dsimp only; omega) | (dsimp only at *; omega))) fun r r0 r1 => ix_any r0 r1 fun x hx => ?_
    exact k _ _ ⟨⟨(bt2 (by decide +kernel) (hrw.2.2 x hx).1).to (by unfold hh; omega) (by (first | omega | (dsimp only; omega) | (dsimp only at *; omega))), hf1 ⟨by decide +kernel, by decide +kernel⟩ (pY (hrw.2.2 x hx).2.2)⟩, .row x, by simp only [Rw.d], ok_row j (hrw.2.2 x hx).2.1⟩ (by (first | omega | (dsimp only; omega) | (dsimp only at *; omega)))
  rw [Bool.or_eq_false_iff] at h
  have hj0 := of_decide_eq_false h.1
  obtain ⟨i, rfl⟩ : ∃ i, j = i + 1 := ⟨j - 1, by omega⟩
  have ec : cst (i + 1) = 100 * cst i := rfl
  have et : tt (i + 1) = 3 * tt i + 400 := rfl
  have hci := cst_le i
  have ei : ((i + 1 : Nat) : Int) - 1 = (i : Int) := by omega
  refine seqIf (b := decide (way = 2)) (fun Q q => q) (fun h2 => ?_) (fun h2 => ?_)
  · refine hT i hjb _ _ _ ⟨_, by rw [← ei], he', by (first | omega | (dsimp only; omega) | (dsimp only at *; omega)), fun x n1 hx hn1 => ?_⟩
    have hn1 : n1 ≤ m + 1 + cst i := hn1
    obtain ⟨hx, a, rfl, ha⟩ := hx
    exact k _ _ ⟨⟨(bt2 (by decide +kernel) hx.1).to (by unfold hh; omega) (by (first | omega | (dsimp only; omega) | (dsimp only at *; omega))), hf1 ⟨by decide +kernel, by decide +kernel⟩ (pT hx.2)⟩, .room a, by simp only [Rw.d], by simpa only [Rw.ok] using ha⟩ (by (first | omega | (dsimp only; omega) | (dsimp only at *; omega)))
  refine hR i hjb _ _ _ ⟨_, by rw [← ei], he', by (first | omega | (dsimp only; omega) | (dsimp only at *; omega)), fun x n1 hx hn1 => ?_⟩
  have hn1 : n1 ≤ m + 1 + cst i := hn1
  refine hT i hjb _ _ _ ⟨_, by rw [← ei], he', by (first | omega | (dsimp only; omega) | (dsimp only at *; omega)), fun y n2 hy hn2 => ?_⟩
  have hn2 : n2 ≤ n1 + cst i := hn2
  refine hT i hjb _ _ _ ⟨_, by rw [← ei], he', by (first | omega | (dsimp only; omega) | (dsimp only at *; omega)), fun z n3 hz hn3 => ?_⟩
  have hn3 : n3 ≤ n2 + cst i := hn3
  obtain ⟨hx, r, rfl, hr'⟩ := hx
  obtain ⟨hy, a, rfl, ha⟩ := hy
  obtain ⟨hz, b', rfl, hb⟩ := hz
  exact k _ _ ⟨⟨(bt4 (by decide +kernel) hx.1 hy.1 hz.1).to (by unfold hh; omega) (by (first | omega | (dsimp only; omega) | (dsimp only at *; omega))), hf3 ⟨by decide +kernel, by decide +kernel⟩ (pR hx.2) (pT hy.2) (pT hz.2)⟩, .wth r a b', by simp only [Rw.d], by simp only [Rw.ok]; exact ⟨hr', ha, hb⟩⟩ (by (first | omega | (dsimp only; omega) | (dsimp only at *; omega)))
theorem gterm_bodyW (T : Tx w K mg) (O__law_take : Ok P w K mg base 2 "_law_take" ["_law_pen", "_law_many"] (spP K 1 .E takeF)) (O__law_gnumber : Ok P w K mg base 3 "_law_gnumber" ["_law_pen"] (spP K 0 .E (numF 100))) {b l : Nat} (hl3 : 3 ≤ l) {FT FR : DFP} (hT : ∀ i, i + 1 ≤ b → ∀ ds n Q, gtW i ds n Q → FT ds n Q) (hR : ∀ i, i + 1 ≤ b → ∀ ds n Q, grW i ds n Q → FR ds n Q)
    (O__law_gterm : Ok P w K mg base l "_law_gterm" gPs (spP K 2 .E FT)) (O__law_grow : Ok P w K mg base l "_law_grow" gPs (spP K 2 .E FR)) (O__law_gplaces : Ok P w K mg base l "_law_gplaces" ["_law_pen", "_law_deep", "_law_env", "_law_kinds"] (spP K 3 .E fun _ _ _ => False)) : Ok P w K mg base (l + 1) "_law_gterm" gPs (spP K 2 .E (upF gtW b)) := by
  refine Ok.ofP (M := []) T.d__law_gterm sc__law_gterm rfl (by decide) (by decide) fun f cdv A outer s H E p c hr => ⟨_, _, (pss_cons (ps_set (i := 3) sc__law_gterm.nd rfl (Or.inl rfl) (pe_fn O__law_take (hr.mono (by omega)) (by rfl) (pa_cons (pv 0) (pa_cons (pe_op (addG K rfl) (pe_int) (pe_callTy call_int1 (by rfl) T.z_int boot_int (pa_cons (pe_cmpR (neG K rfl hr.units) (pe_ix (ixG K rfl (u65 hr.toRoom)) (pv 2) (pe_str) (fun _ _ => rfl)) (pe_dnewK) (nomark _)) (pa_nil)))) (pa_nil)))))
 (pss_cons (ps_if (PW.pt (pw_or (pt_cmpR (eqG K rfl hr.units) (pv 1) (pe_int) (nomark _)) (pw_or1 (pt_cmpR op_lt (pv 3) (pe_int) (nomark _)))))
 (pss_cons (ps_if (pt_cmpR (eqG K rfl hr.units) (pe_fn O__law_take (hr.mono (by omega)) (by rfl) (pa_cons (pv 0) (pa_cons (pe_int) (pa_nil)))) (pe_int) (nomark _))
 (pss_one (ps_ret (pe_tupZ (pa_cons (pe_str) (pa_cons (pe_fn O__law_gnumber (hr.mono (by omega)) (by rfl) (pa_cons (pv 0) (pa_nil))) (pa_nil))))))
 (pss_nil))
 (pss_one (ps_ret (pe_tupZ (pa_cons (pe_str) (pa_cons (pe_ix (ixG K rfl (u65 hr.toRoom)) (pe_ix (ixG K rfl (u65 hr.toRoom)) (pv 2) (pe_str) (fun _ _ => rfl)) (pe_fn O__law_take (hr.mono (by omega)) (by rfl) (pa_cons (pv 0) (pa_cons (pe_callB (lenG K rfl) (by rfl) T.z_len boot_len (pa_cons (pe_ix (ixG K rfl (u65 hr.toRoom)) (pv 2) (pe_str) (fun _ _ => rfl)) (pa_nil))) (pa_nil)))) (fun _ _ => rfl)) (pa_nil)))))))
 (pss_nil))
 (pss_cons (ps_if (pt_cmpR (eqG K rfl hr.units) (pv 3) (pe_int) (nomark _))
 (pss_one (ps_ret (pe_tupZ (pa_cons (pe_str) (pa_cons (pe_fn O__law_gnumber (hr.mono (by omega)) (by rfl) (pa_cons (pv 0) (pa_nil))) (pa_cons (pe_fn O__law_gterm (hr.mono (by omega)) (by rfl) (pa_cons (pv 0) (pa_cons (pe_op op_sub (pv 1) (pe_int)) (pa_cons (pv 2) (pa_nil))))) (pa_nil)))))))
 (pss_nil))
 (pss_cons (ps_if (pt_cmpR (eqG K rfl hr.units) (pv 3) (pe_int) (nomark _))
 (pss_one (ps_ret (pe_tupZ (pa_cons (pe_str) (pa_cons (pe_fn O__law_grow (hr.mono (by omega)) (by rfl) (pa_cons (pv 0) (pa_cons (pe_op op_sub (pv 1) (pe_int)) (pa_cons (pv 2) (pa_nil))))) (pa_nil))))))
 (pss_nil))
 (pss_cons (ps_if (pt_cmpR op_lt (pv 3) (pe_int) (nomark _))
 (pss_one (ps_ret (pe_tupZ (pa_cons (pe_str) (pa_cons (pe_fn O__law_grow (hr.mono (by omega)) (by rfl) (pa_cons (pv 0) (pa_cons (pe_op op_sub (pv 1) (pe_int)) (pa_cons (pv 2) (pa_nil))))) (pa_cons (pe_fn O__law_gterm (hr.mono (by omega)) (by rfl) (pa_cons (pv 0) (pa_cons (pe_op op_sub (pv 1) (pe_int)) (pa_cons (pv 2) (pa_nil))))) (pa_nil)))))))
 (pss_nil))
 (pss_cons (ps_if (pt_cmpR (eqG K rfl hr.units) (pv 3) (pe_int) (nomark _))
 (pss_cons (ps_set (i := 4) sc__law_gterm.nd rfl (Or.inl rfl) (pe_ix (ixG K rfl (u65 hr.toRoom)) (pe_lst (pa_cons (pe_int) (pa_cons (pe_int) (pa_cons (pe_int) (pa_cons (pe_int) (pa_cons (pe_op op_pow (pe_int) (pe_int)) (pa_nil))))))) (pe_fn O__law_take (hr.mono (by omega)) (by rfl) (pa_cons (pv 0) (pa_cons (pe_int) (pa_nil)))) (fun _ _ => rfl)))
 (pss_one (ps_ret (pe_tupZ (pa_cons (pe_ix (ixG K rfl (u65 hr.toRoom)) (pe_lst (pa_cons (pe_str) (pa_cons (pe_str) (pa_nil)))) (pe_fn O__law_take (hr.mono (by omega)) (by rfl) (pa_cons (pv 0) (pa_cons (pe_int) (pa_nil)))) (fun _ _ => rfl)) (pa_cons (pe_fn O__law_gterm (hr.mono (by omega)) (by rfl) (pa_cons (pv 0) (pa_cons (pe_op op_sub (pv 1) (pe_int)) (pa_cons (pv 2) (pa_nil))))) (pa_cons (pv 4) (pa_nil))))))))
 (pss_nil))
 (pss_cons (ps_if (pt_cmpR op_lt (pv 3) (pe_int) (nomark _))
 (pss_one (ps_ret (pe_tupZ (pa_cons (pe_str) (pa_cons (pe_fn O__law_gterm (hr.mono (by omega)) (by rfl) (pa_cons (pv 0) (pa_cons (pe_op op_sub (pv 1) (pe_int)) (pa_cons (pv 2) (pa_nil))))) (pa_cons (pe_fn O__law_gterm (hr.mono (by omega)) (by rfl) (pa_cons (pv 0) (pa_cons (pe_op op_sub (pv 1) (pe_int)) (pa_cons (pv 2) (pa_nil))))) (pa_nil)))))))
 (pss_nil))
 (pss_cons (ps_set (i := 5) sc__law_gterm.nd rfl (Or.inl rfl) (pe_ix (ixG K rfl (u65 hr.toRoom)) (pe_callB (sortG K rfl rfl) (by rfl) T.z_sorted boot_sorted (pa_cons (pe_ix (ixG K rfl (u65 hr.toRoom)) (pv 2) (pe_str) (fun _ _ => rfl)) (pa_nil))) (pe_fn O__law_take (hr.mono (by omega)) (by rfl) (pa_cons (pv 0) (pa_cons (pe_callB (lenG K rfl) (by rfl) T.z_len boot_len (pa_cons (pe_ix (ixG K rfl (u65 hr.toRoom)) (pv 2) (pe_str) (fun _ _ => rfl)) (pa_nil))) (pa_nil)))) (fun _ _ => rfl)))
 (pss_one (ps_ret (pe_tupZ (pa_cons (pe_str) (pa_cons (pv 5) (pa_cons (pe_fn O__law_gplaces (hr.mono (by omega)) (by rfl) (pa_cons (pv 0) (pa_cons (pe_op op_sub (pv 1) (pe_int)) (pa_cons (pv 2) (pa_cons (pe_ix (ixG K rfl (u65 hr.toRoom)) (pe_ix (ixG K rfl (u65 hr.toRoom)) (pv 2) (pe_str) (fun _ _ => rfl)) (pv 5) (fun _ _ => rfl)) (pa_nil)))))) (pa_nil))))))))))))))),
 (simS_seq (simS_set 3 (nm rfl) (np rfl) (sim_callP (by simp) rfl (simA_cons (sim_op opA_add (sim_int _) (sim_cb caA_int (simA_cons (sim_op opA_ne (opA_ix (sim_var 2 (nm rfl)) (sim_str _)) (sim_dnew)) (simA_nil)))) (simA_nil))))
 (simS_seq (simS_if (simT_or (simT_test (sim_op opA_eq (sim_var 1 (nm rfl)) (sim_int _))) (simT_test (sim_op (opA_cmp _) (sim_var 3 (nm rfl)) (sim_int _))))
 (simS_seq (simS_if (simT_test (sim_op opA_eq (sim_callP (by simp) rfl (simA_cons (sim_int _) (simA_nil))) (sim_int _)))
 (simS_ret (Sim.toE (sim_tup (by decide) (simA_cons (sim_str _) (simA_cons (sim_callP (by simp) rfl (simA_nil)) (simA_nil))))))
 (simS_next))
 (simS_ret (Sim.toE (sim_tup (by decide) (simA_cons (sim_str _) (simA_cons (opA_ix (opA_ix (sim_var 2 (nm rfl)) (sim_str _)) (sim_callP (by simp) rfl (simA_cons (sim_cb caA_len (simA_cons (opA_ix (sim_var 2 (nm rfl)) (sim_str _)) (simA_nil))) (simA_nil)))) (simA_nil)))))))
 (simS_next))
 (simS_seq (simS_if (simT_test (sim_op opA_eq (sim_var 3 (nm rfl)) (sim_int _)))
 (simS_ret (Sim.toE (sim_tup (by decide) (simA_cons (sim_str _) (simA_cons (sim_callP (by simp) rfl (simA_nil)) (simA_cons (sim_callP (by simp) rfl (simA_cons (sim_op opA_sub (sim_var 1 (nm rfl)) (sim_int _)) (simA_cons (sim_var 2 (nm rfl)) (simA_nil)))) (simA_nil)))))))
 (simS_next))
 (simS_seq (simS_if (simT_test (sim_op opA_eq (sim_var 3 (nm rfl)) (sim_int _)))
 (simS_ret (Sim.toE (sim_tup (by decide) (simA_cons (sim_str _) (simA_cons (sim_callP (by simp) rfl (simA_cons (sim_op opA_sub (sim_var 1 (nm rfl)) (sim_int _)) (simA_cons (sim_var 2 (nm rfl)) (simA_nil)))) (simA_nil))))))
 (simS_next))
 (simS_seq (simS_if (simT_test (sim_op (opA_cmp _) (sim_var 3 (nm rfl)) (sim_int _)))
 (simS_ret (Sim.toE (sim_tup (by decide) (simA_cons (sim_str _) (simA_cons (sim_callP (by simp) rfl (simA_cons (sim_op opA_sub (sim_var 1 (nm rfl)) (sim_int _)) (simA_cons (sim_var 2 (nm rfl)) (simA_nil)))) (simA_cons (sim_callP (by simp) rfl (simA_cons (sim_op opA_sub (sim_var 1 (nm rfl)) (sim_int _)) (simA_cons (sim_var 2 (nm rfl)) (simA_nil)))) (simA_nil)))))))
 (simS_next))
 (simS_seq (simS_if (simT_test (sim_op opA_eq (sim_var 3 (nm rfl)) (sim_int _)))
 (simS_cut (simS_set 4 (nm rfl) (np rfl) (opA_ix (sim_lst (by decide) (simA_cons (sim_int _) (simA_cons (sim_int _) (simA_cons (sim_int _) (simA_cons (sim_int _) (simA_cons (sim_op opA_pow (sim_int _) (sim_int _)) (simA_nil))))))) (sim_callP (by simp) rfl (simA_cons (sim_int _) (simA_nil)))))
 (simS_ret (Sim.toE (sim_tup (by decide) (simA_cons (opA_ix (sim_lst (by decide) (simA_cons (sim_str _) (simA_cons (sim_str _) (simA_nil)))) (sim_callP (by simp) rfl (simA_cons (sim_int _) (simA_nil)))) (simA_cons (sim_callP (by simp) rfl (simA_cons (sim_op opA_sub (sim_var 1 (nm rfl)) (sim_int _)) (simA_cons (sim_var 2 (nm rfl)) (simA_nil)))) (simA_cons (sim_var 4 (nm rfl)) (simA_nil))))))))
 (simS_next))
 (simS_seq (simS_if (simT_test (sim_op (opA_cmp _) (sim_var 3 (nm rfl)) (sim_int _)))
 (simS_ret (Sim.toE (sim_tup (by decide) (simA_cons (sim_str _) (simA_cons (sim_callP (by simp) rfl (simA_cons (sim_op opA_sub (sim_var 1 (nm rfl)) (sim_int _)) (simA_cons (sim_var 2 (nm rfl)) (simA_nil)))) (simA_cons (sim_callP (by simp) rfl (simA_cons (sim_op opA_sub (sim_var 1 (nm rfl)) (sim_int _)) (simA_cons (sim_var 2 (nm rfl)) (simA_nil)))) (simA_nil)))))))
 (simS_next))
 (simS_seq (simS_set 5 (nm rfl) (np rfl) (opA_ix (sim_cb caA_sort (simA_cons (opA_ix (sim_var 2 (nm rfl)) (sim_str _)) (simA_nil))) (sim_callP (by simp) rfl (simA_cons (sim_cb caA_len (simA_cons (opA_ix (sim_var 2 (nm rfl)) (sim_str _)) (simA_nil))) (simA_nil)))))
 (simS_ret (Sim.toE (sim_tup (by decide) (simA_cons (sim_str _) (simA_cons (sim_var 5 (nm rfl)) (simA_cons (sim_callP (by simp) rfl (simA_cons (sim_op opA_sub (sim_var 1 (nm rfl)) (sim_int _)) (simA_cons (sim_var 2 (nm rfl)) (simA_cons (opA_ix (opA_ix (sim_var 2 (nm rfl)) (sim_str _)) (sim_var 5 (nm rfl))) (simA_nil))))) (simA_nil))))))))))))))), ?_⟩
  rintro ds m Q hl ⟨j, hjb, e, rfl, he, hm, k⟩
  have hc := cst_le j
  have htt := tt_le j
  have he' := he
  obtain ⟨nums, rows, rfl, ⟨hn, hni⟩, hrw⟩ := he
  have hp : 0 < nums.length := List.length_pos_iff.mpr hn.1
  have hp2 := hn.2.1
  refine ⟨_, kv_o, ?_⟩
  have hbi : ∀ b : Bool, (0 : Int) < 9 + (if b then 1 else 0) ∧ (9 + (if b then 1 else 0) : Int) ≤ 10 := fun b => by cases b <;> decide
  have hb2 := hbi false
  refine tk_ok (by (first | omega | (dsimp only; omega) | (dsimp only at *; omega))) hb2.1 (by omega) fun way w0 w1 => ?_
  dsimp only
  have num : ∀ {i : Int}, i.natAbs < 10 ^ 40 → ∀ {h : Nat}, Bt h 251 (.int i) := fun {i} hi {h} => Bt.int (Nat.lt_of_lt_of_le hi (Nat.pow_le_pow_right (by decide) (by decide)))
  refine seqIf (b := decide ((j : Int) = 0) || decide (way < 2)) (tst_or (fun Q q => q) (fun _ => fun Q q => q)) (fun h => ?_) (fun h => ?_)
  · refine tk_ok (by (first | omega | (dsimp only; omega) | (dsimp only at *; omega))) (by decide) (by decide) fun r r0 r1 => ite_either (fun h1 => ?_) (fun h1 => ?_)
    · refine ⟨rfl, by (first | omega | (dsimp only; omega) | (dsimp only at *; omega)), fun i n1 hi hn1 => ?_⟩
      have hn1 : n1 ≤ m + 1 + 1 + 100 := hn1
      exact k _ _ ⟨⟨(bt2 (h := 0) (by decide +kernel) (num hi)).to (by unfold hh; omega) (by (first | omega | (dsimp only; omega) | (dsimp only at *; omega))), hf1 ⟨by decide +kernel, by decide +kernel⟩ pN⟩, .num i, by simp only [Tm.d], ok_num j (Nat.le_of_lt hi)⟩ (by (first | omega | (dsimp only; omega) | (dsimp only at *; omega)))
    · refine ⟨_, kv_n, ⟨_, kv_n, ?_⟩⟩
      refine tk_ok (by (first | omega | (dsimp only; omega) | (dsimp only at *; omega))) (by (first | omega | (dsimp only; omega) | (dsimp only at *; omega))) (by (first | omega | (dsimp only; omega) | (dsimp only at *; omega))) fun r r0 r1 => ix_any r0 r1 fun x hx => ?_
      exact k _ _ ⟨⟨(bt2 (by decide +kernel) (hn.2.2 x hx).1).to (by unfold hh; omega) (by (first | omega | (dsimp only; omega) | (dsimp only at *; omega))), hf1 ⟨by decide +kernel, by decide +kernel⟩ (pX (hn.2.2 x hx).2.2)⟩, .name x, by simp only [Tm.d], ok_name j (hn.2.2 x hx).2.1⟩ (by (first | omega | (dsimp only; omega) | (dsimp only at *; omega)))
  rw [Bool.or_eq_false_iff] at h
  have hj0 := of_decide_eq_false h.1
  obtain ⟨i, rfl⟩ : ∃ i, j = i + 1 := ⟨j - 1, by omega⟩
  have ec : cst (i + 1) = 100 * cst i := rfl
  have et : tt (i + 1) = 3 * tt i + 400 := rfl
  have hci := cst_le i
  have hti := tt_le i
  have ei : ((i + 1 : Nat) : Int) - 1 = (i : Int) := by omega
  have eh : hh (i + 1) = hh i + 2 := by unfold hh; omega
  -- mul
  refine seqIf (b := decide (way = 2)) (fun Q q => q) (fun h2 => ?_) (fun h2 => ?_)
  · refine ⟨rfl, by (first | omega | (dsimp only; omega) | (dsimp only at *; omega)), fun a n1 ha hn1 => ?_⟩
    have hn1 : n1 ≤ m + 1 + 100 := hn1
    refine hT i hjb _ _ _ ⟨_, by rw [← ei], he', by (first | omega | (dsimp only; omega) | (dsimp only at *; omega)), fun x n2 hx hn2 => ?_⟩
    have hn2 : n2 ≤ n1 + cst i := hn2
    obtain ⟨hx, x', rfl, hx'⟩ := hx
    exact k _ _ ⟨⟨(bt3 (by decide +kernel) (num ha) hx.1).to (by omega) (by (first | omega | (dsimp only; omega) | (dsimp only at *; omega))), hf2 ⟨by decide +kernel, by decide +kernel⟩ pN (pT hx.2)⟩, .mul a x', by simp only [Tm.d], by simp only [Tm.ok]; exact ⟨Nat.le_of_lt ha, hx'⟩⟩ (by (first | omega | (dsimp only; omega) | (dsimp only at *; omega)))
  -- size
  refine seqIf (b := decide (way = 3)) (fun Q q => q) (fun h2 => ?_) (fun h2 => ?_)
  · refine hR i hjb _ _ _ ⟨_, by rw [← ei], he', by (first | omega | (dsimp only; omega) | (dsimp only at *; omega)), fun x n1 hx hn1 => ?_⟩
    have hn1 : n1 ≤ m + 1 + cst i := hn1
    obtain ⟨hx, x', rfl, hx'⟩ := hx
    exact k _ _ ⟨⟨(bt2 (by decide +kernel) hx.1).to (by omega) (by (first | omega | (dsimp only; omega) | (dsimp only at *; omega))), hf1 ⟨by decide +kernel, by decide +kernel⟩ (pR hx.2)⟩, .size x', by simp only [Tm.d], by simpa only [Tm.ok] using hx'⟩ (by (first | omega | (dsimp only; omega) | (dsimp only at *; omega)))
  -- read
  refine seqIf (b := decide (way < 6)) (fun Q q => q) (fun h2 => ?_) (fun h2 => ?_)
  · refine hR i hjb _ _ _ ⟨_, by rw [← ei], he', by (first | omega | (dsimp only; omega) | (dsimp only at *; omega)), fun x n1 hx hn1 => ?_⟩
    have hn1 : n1 ≤ m + 1 + cst i := hn1
    refine hT i hjb _ _ _ ⟨_, by rw [← ei], he', by (first | omega | (dsimp only; omega) | (dsimp only at *; omega)), fun y n2 hy hn2 => ?_⟩
    have hn2 : n2 ≤ n1 + cst i := hn2
    obtain ⟨hx, x', rfl, hx'⟩ := hx
    obtain ⟨hy, y', rfl, hy'⟩ := hy
    exact k _ _ ⟨⟨(bt3 (by decide +kernel) hx.1 hy.1).to (by omega) (by (first | omega | (dsimp only; omega) | (dsimp only at *; omega))), hf2 ⟨by decide +kernel, by decide +kernel⟩ (pR hx.2) (pT hy.2)⟩, .read x' y', by simp only [Tm.d], by simp only [Tm.ok]; exact ⟨hx', hy'⟩⟩ (by (first | omega | (dsimp only; omega) | (dsimp only at *; omega)))
  -- div, mod
  refine seqIf (b := decide (way = 6)) (fun Q q => q) (fun h2 => ?_) (fun h2 => ?_)
  · refine ⟨fun s => ∃ (v : Int) (n1 : Nat), ((v.natAbs < 10 ^ 40 ∧ inBy (.int v) = true) ∧ 0 < v ∧ v ≤ 10 ^ 9) ∧ n1 ≤ m + 10 ∧ s = { δ := [none, some (.int ((i + 1 : Nat) : Int)), some (.dict (envKV nums rows [])), some (.int way), some (.int v), none], n := n1 }, ?_, ?_⟩
    · refine ⟨⟨by decide, by decide, by decide⟩, ?_⟩
      refine tk_ok (by (first | omega | (dsimp only; omega) | (dsimp only at *; omega))) (by decide) (by decide) fun q q0 q1 => ix_any q0 q1 fun d hd => ?_
      have hi : ∃ i : Int, d = .int i ∧ ((i.natAbs < 10 ^ 40 ∧ inBy (.int i) = true) ∧ 0 < i ∧ i ≤ 10 ^ 9) := by
        simp only [List.mem_cons, List.not_mem_nil, or_false] at hd
        rcases hd with rfl | rfl | rfl | rfl | rfl
        · exact ⟨_, rfl, ⟨by decide, by decide +kernel⟩, by decide, by decide⟩
        · exact ⟨_, rfl, ⟨by decide, by decide +kernel⟩, by decide, by decide⟩
        · exact ⟨_, rfl, ⟨by decide, by decide +kernel⟩, by decide, by decide⟩
        · exact ⟨_, rfl, ⟨by decide, by decide +kernel⟩, by decide, by decide⟩
        · exact ⟨_, rfl, ⟨by decide, by decide +kernel⟩, by decide, by decide⟩
      obtain ⟨v, rfl, hv⟩ := hi
      exact ⟨v, _, hv, by (first | omega | (dsimp only; omega) | (dsimp only at *; omega)), rfl⟩
    rintro s ⟨v, n1, hv, hn1, rfl⟩
    refine tk_ok (by (first | omega | (dsimp only; omega) | (dsimp only at *; omega))) (by decide) (by decide) fun q q0 q1 => ix_any q0 q1 fun d hd => ?_
    refine hT i hjb _ _ _ ⟨_, by rw [← ei], he', by (first | omega | (dsimp only; omega) | (dsimp only at *; omega)), fun x n2 hx hn2 => ?_⟩
    have hn2 : n2 ≤ n1 + 1 + cst i := hn2
    obtain ⟨hx, x', rfl, hx'⟩ := hx
    simp only [List.mem_cons, List.not_mem_nil, or_false] at hd
    rcases hd with rfl | rfl
    · exact k _ _ ⟨⟨(bt3 (by decide +kernel) hx.1 (num hv.1.1)).to (by omega) (by (first | omega | (dsimp only; omega) | (dsimp only at *; omega))), hf2 ⟨by decide +kernel, by decide +kernel⟩ (pT hx.2) (pK hv.1.2)⟩, .dv x' v, by simp only [Tm.d], by simp only [Tm.ok]; exact ⟨hv.2.1, hv.2.2, hx'⟩⟩ (by (first | omega | (dsimp only; omega) | (dsimp only at *; omega)))
    · exact k _ _ ⟨⟨(bt3 (by decide +kernel) hx.1 (num hv.1.1)).to (by omega) (by (first | omega | (dsimp only; omega) | (dsimp only at *; omega))), hf2 ⟨by decide +kernel, by decide +kernel⟩ (pT hx.2) (pK hv.1.2)⟩, .md x' v, by simp only [Tm.d], by simp only [Tm.ok]; exact ⟨hv.2.1, hv.2.2, hx'⟩⟩ (by (first | omega | (dsimp only; omega) | (dsimp only at *; omega)))
  -- add
  refine seqIf (b := decide (way < 9)) (fun Q q => q) (fun h2 => ?_) (fun h2 => ?_)
  · refine hT i hjb _ _ _ ⟨_, by rw [← ei], he', by (first | omega | (dsimp only; omega) | (dsimp only at *; omega)), fun x n1 hx hn1 => ?_⟩
    have hn1 : n1 ≤ m + 1 + cst i := hn1
    refine hT i hjb _ _ _ ⟨_, by rw [← ei], he', by (first | omega | (dsimp only; omega) | (dsimp only at *; omega)), fun y n2 hy hn2 => ?_⟩
    have hn2 : n2 ≤ n1 + cst i := hn2
    obtain ⟨hx, x', rfl, hx'⟩ := hx
    obtain ⟨hy, y', rfl, hy'⟩ := hy
    exact k _ _ ⟨⟨(bt3 (by decide +kernel) hx.1 hy.1).to (by omega) (by (first | omega | (dsimp only; omega) | (dsimp only at *; omega))), hf2 ⟨by decide +kernel, by decide +kernel⟩ (pT hx.2) (pT hy.2)⟩, .add x' y', by simp only [Tm.d], by simp only [Tm.ok]; exact ⟨hx', hy'⟩⟩ (by (first | omega | (dsimp only; omega) | (dsimp only at *; omega)))
  -- notion
  have h9 := of_decide_eq_false h2
  have w1 : way < 9 + 0 := w1
  exact absurd w1 (by omega)
theorem ok_gtW (T : Tx w K mg) (O__law_take : Ok P w K mg base 2 "_law_take" ["_law_pen", "_law_many"] (spP K 1 .E takeF)) (O__law_gnumber : Ok P w K mg base 3 "_law_gnumber" ["_law_pen"] (spP K 0 .E (numF 100))) : ∀ j, Ok P w K mg base (j + 4) "_law_gterm" gPs (spP K 2 .E (upF gtW j)) ∧ Ok P w K mg base (j + 4) "_law_grow" gPs (spP K 2 .E (upF grW j)) := by
  have N3 : Ok P w K mg base 3 "_law_gplaces" ["_law_pen", "_law_deep", "_law_env", "_law_kinds"] (spP K 3 .E fun _ _ _ => False) := (Ok.no T.d__law_gplaces sc__law_gplaces (spP_no fun ds n Q h => h)).mono (by omega)
  intro j
  induction j with
  | zero =>
    have N1 : Ok P w K mg base 3 "_law_gterm" gPs (spP K 2 .E fun _ _ _ => False) := (Ok.no T.d__law_gterm sc__law_gterm (spP_no fun ds n Q h => h)).mono (by omega)
    have N2 : Ok P w K mg base 3 "_law_grow" gPs (spP K 2 .E fun _ _ _ => False) := (Ok.no T.d__law_grow sc__law_grow (spP_no fun ds n Q h => h)).mono (by omega)
    exact ⟨gterm_bodyW T O__law_take O__law_gnumber (Nat.le_refl _) (fun i h => by omega) (fun i h => by omega) N1 N2 N3, grow_bodyW T O__law_take (by omega) (fun i h => by omega) (fun i h => by omega) N1 N2⟩
  | succ j ih =>
    obtain ⟨h1, h2⟩ := ih
    have cl : ∀ {F : Nat → DFP} i, i + 1 ≤ j + 1 → ∀ ds n Q, F i ds n Q → upF F j ds n Q := fun i e ds n Q h => ⟨i, by omega, h⟩
    exact ⟨gterm_bodyW T O__law_take O__law_gnumber (by omega) (cl (F := gtW)) (cl (F := grW)) h1 h2 (N3.mono (by omega)), grow_bodyW T O__law_take (by omega) (cl (F := gtW)) (cl (F := grW)) h1 h2⟩
end

/-! ### the law's own worths -/
theorem none_inV {t : Tab} (ht : TabOk t) {n i : Nat} (hn : n ≤ 9) {xs : List TR} {ds : List D} {s : S} (hx : ∀ x ∈ xs, okTR n x) (h : AllV t xs ds) (hs : s.δ[i]? = some (some (.list ds))) : Exv (dOp (inD false) (dC .none) (dV i)) s (.bool (ds.any isN)) := by
  intro Q q
  unfold dOp dV dC
  simp only [hs]
  refine Or.inr ⟨by show SeqAt.shaped _ = true; decide +kernel, sh_list (h := 3) (by decide) (AllV.each (q := okTR n) (fun x d h1 h2 => pv_bd ht hn x d h1 h2) h hx), ?_⟩
  have e : (ds.any fun z => PyData.eqv z .none) = ds.any isN := by
    have := AllV.each (p := fun d => PyData.eqv d .none = isN d) (q := fun _ => True) (fun x d _ h2 => eqv_none h2) h (fun _ _ => True.intro)
    clear h hs hx q
    induction ds with
    | nil => rfl
    | cons d ds ih => rw [List.any_cons, List.any_cons, this d (List.mem_cons_self ..), ih fun x m => this x (List.mem_cons_of_mem _ m)]
  rw [e, Bool.false_xor]
  exact q
section
variable {P : Program} {w : World} {K : PySem.W.Frag} {mg : Str → Option Value} {base : Heap}
def gcF : DF := fun ds Q => ∃ (t : Tab) (x : D) (b : Bool), isKey x = true ∧ ds = [.dict (tabD t), x, .bool b] ∧ Q (latW t x b)
theorem ok__law_gcan (T : Tx w K mg) : Ok P w K mg base 1 "_law_gcan" ["_law_table", "_law_letter", "_law_of_row"] (spN K 3 .E gcF) := by
  refine Ok.ofN (M := []) T.d__law_gcan sc__law_gcan rfl (by decide) fun f cdv A outer s H E hr => ⟨_, _, (pss_cons (ps_set (i := 3) sc__law_gcan.nd rfl (Or.inl rfl) (pe_dget2 (lt_u1 (u65 hr.toRoom)) (pv 0) (pv 1) (pe_non) ⟨by rfl, by rfl, by rfl, by rfl⟩))
 (pss_cons (ps_if (pt_val (pv 2))
 (pss_one (ps_ret (pe_ifExp (pt_val (pe_callB (isiK K rfl) (by rfl) T.z_isinstance boot_isi (pa_cons (pv 3) (pa_cons (pe_bltn (v := .ty "tuple") (by rfl) T.z_tuple boot_tuple rfl) pa_nil)))) (pv 3) (pe_non))))
 (pss_nil))
 (pss_one (ps_ret (pe_ifExp (PW.pt (pw_and (pt_val (pe_callB (isiK K rfl) (by rfl) T.z_isinstance boot_isi (pa_cons (pv 3) (pa_cons (pe_bltn (v := .ty "int") (by rfl) T.z_int boot_int rfl) pa_nil)))) (pw_and1 (pt_not (pt_val (pe_callB (isiK K rfl) (by rfl) T.z_isinstance boot_isi (pa_cons (pv 3) (pa_cons (pe_bltn (v := .ty "bool") (by rfl) T.z_bool boot_bool rfl) pa_nil)))))))) (pv 3) (pe_non)))))),
 (simS_seq (simS_set 3 (nm rfl) (np rfl) (sim_dget2 (sim_var 0 (nm rfl)) (sim_var 1 (nm rfl)) (sim_non)))
 (simS_seq (simS_if (simT_B (sim_var 2 (nm rfl)))
 (simS_ret (Sim.toE (sim_if (simT_B (sim_isi .tuple (sim_var 3 (nm rfl)))) (Sim.toE (sim_var 3 (nm rfl))) (Sim.toE (sim_non)))))
 (simS_next))
 (simS_ret (Sim.toE (sim_if (simT_and (simT_B (sim_isi .int (sim_var 3 (nm rfl)))) (simT_not (simT_B (sim_isi .bool (sim_var 3 (nm rfl)))))) (Sim.toE (sim_var 3 (nm rfl))) (Sim.toE (sim_non))))))), ?_⟩
  rintro ds Q hl ⟨t, x, b, hk, rfl, k⟩
  have hf := findW_D x t
  unfold latW at k
  refine ⟨hk, ?_⟩
  rw [hf]
  cases e : findW t x with
  | none =>
    rw [e] at k
    cases b with
    | true => exact k
    | false => exact k
  | some v =>
    rw [e] at k
    cases v with
    | inl i =>
      cases b with
      | true => exact k
      | false => exact k
    | inr u =>
      cases b with
      | true => exact k
      | false => exact k
end
theorem ok_up : ∀ n : Nat, (∀ a : Tm, a.ok n → a.ok (n + 1)) ∧ (∀ r : Rw, r.ok n → r.ok (n + 1)) := by
  intro n
  induction n with
  | zero =>
    refine ⟨fun a h => ?_, fun r h => ?_⟩
    · cases a <;> first | (simp only [Tm.ok] at h; done) | (simp only [Tm.ok] at h ⊢; exact h)
    · cases r <;> first | (simp only [Rw.ok] at h; done) | (simp only [Rw.ok] at h ⊢; exact h)
  | succ n ih =>
    obtain ⟨i1, i2⟩ := ih
    refine ⟨fun a h => ?_, fun r h => ?_⟩
    · cases a with
      | num i => simpa only [Tm.ok] using h
      | name x => simpa only [Tm.ok] using h
      | mul i a => simp only [Tm.ok] at h ⊢; exact ⟨h.1, i1 _ h.2⟩
      | size r => simp only [Tm.ok] at h ⊢; exact i2 _ h
      | read r a => simp only [Tm.ok] at h ⊢; exact ⟨i2 _ h.1, i1 _ h.2⟩
      | dv a k => simp only [Tm.ok] at h ⊢; exact ⟨h.1, h.2.1, i1 _ h.2.2⟩
      | md a k => simp only [Tm.ok] at h ⊢; exact ⟨h.1, h.2.1, i1 _ h.2.2⟩
      | add a b => simp only [Tm.ok] at h ⊢; exact ⟨i1 _ h.1, i1 _ h.2⟩
    · cases r with
      | row y => simpa only [Rw.ok] using h
      | room a => simp only [Rw.ok] at h ⊢; exact i1 _ h
      | wth r a b => simp only [Rw.ok] at h ⊢; exact ⟨i2 _ h.1, i1 _ h.2.1, i1 _ h.2.2⟩
theorem ok_mono {m n : Nat} (h : m ≤ n) : (∀ a : Tm, a.ok m → a.ok n) ∧ (∀ r : Rw, r.ok m → r.ok n) := by
  induction h with
  | refl => exact ⟨fun _ h => h, fun _ h => h⟩
  | step _ ih => exact ⟨fun a h => (ok_up _).1 a (ih.1 a h), fun r h => (ok_up _).2 r (ih.2 r h)⟩
theorem intsOf_map : ∀ ns : List Int, intsOf (ns.map PyData.int) = some ns
  | [] => rfl
  | n :: ns => by
    show (intsOf (ns.map PyData.int)).map (n :: ·) = _
    rw [intsOf_map ns]
    rfl
theorem sum_at {p : Int} : ∀ {ps : Pl}, ps.Pairwise (fun a b => a.1 < b.1) → ((ps.filter fun q => decide (q.1 = p)).map (·.2)).sum = getP ps p
  | [], _ => rfl
  | q :: ps, h => by
    obtain ⟨h1, h2⟩ := List.pairwise_cons.mp h
    rw [getP_cons, List.filter_cons]
    by_cases e : q.1 = p
    · rw [if_pos e, if_pos (decide_eq_true e)]
      have : (ps.filter fun q => decide (q.1 = p)) = [] := List.filter_eq_nil_iff.mpr fun r m => by have := h1 r m; simp; omega
      rw [this]
      simp
    · rw [if_neg e, if_neg (by simpa using e)]
      exact sum_at h2
theorem retOrY {a b : DT} {E : DEnds} {s : S} (h : Exv a s (.bool true)) (k : E.rt (.bool true) s) : dRet (dOrV a b) E s := h _ k
theorem retOrN {a b : DT} {E : DEnds} {s : S} (h : Exv a s (.bool false)) (k : dRet b E s) : dRet (dOrV a b) E s := h _ k
theorem cutSetX {i : Nat} {a : DT} {d : D} {r : DSt} {E : DEnds} {s : S} (h : Exv a s d) (k : r E { s with δ := s.δ.set i (some d) }) : dCut (dSet i a) r E s := ⟨fun s' => s' = { s with δ := s.δ.set i (some d) }, h _ rfl, fun s' e => by rw [e]; exact k⟩
theorem exIfY {c : DB} {a b : DT} {s : S} {d : D} (h : Tst c s true) (k : Exv a s d) : Exv (dIf c a b) s d := fun Q q => h _ (ifp rfl (k Q q))
theorem exIfN {c : DB} {a b : DT} {s : S} {d : D} (h : Tst c s false) (k : Exv b s d) : Exv (dIf c a b) s d := fun Q q => h _ (ifn Bool.false_ne_true (k Q q))
theorem exIx {i j : Nat} {ds : List D} {d : D} {s : S} (hs : s.δ[i]? = some (some (.tuple ds))) (hd : ds[j]? = some d) : Exv (dOp ixD (dV i) (dC (.int (j : Nat)))) s d := fun Q q => by
  unfold dOp dV
  simp only [hs]
  exact ix_ok j rfl hd q
theorem exCall2 {F : DF} {X : DT} {x dt d : D} {s : S} (h : Exv X s x) (hs : s.δ[1]? = some (some dt)) (hF : ∀ Q : D → Prop, Q d → F [x, dt] Q) : Exv (dCall F (dCons X (dCons (dV 1) dNil))) s d := fun Q q => h _ (by
  show dCons (dV 1) dNil s _
  unfold dCons dV
  simp only [hs]
  exact hF _ q)
theorem tBl {a : DT} {s : S} {b : Bool} (h : Exv a s (.bool b)) : Tst (dBl a) s b := fun Q q => h _ q
theorem tNon {i : Nat} {s : S} {o : Option Int} (hs : s.δ[i]? = some (some (numW o))) : Tst (dBl (dOp isND (dV i) (dC .none))) s o.isNone := fun Q q => by
  unfold dBl dOp dV
  simp only [hs]
  cases o <;> exact q
section
variable {P : Program} {w : World} {K : PySem.W.Frag} {mg : Str → Option Value} {base : Heap}
def gwF (n : Nat) : DF := fun ds Q => ∃ (t : Tab) (a : Tm), TabOk t ∧ a.ok n ∧ ds = [a.d, .dict (tabD t)] ∧ Q (numW (ev t a))
def glF (n : Nat) : DF := fun ds Q => ∃ (t : Tab) (r : Rw), TabOk t ∧ r.ok n ∧ ds = [r.d, .dict (tabD t)] ∧ Q (.bool (evR t r).isNone)
def gzF (n : Nat) : DF := fun ds Q => ∃ (t : Tab) (r : Rw) (u : RV2), TabOk t ∧ r.ok n ∧ evR t r = some u ∧ ds = [r.d, .dict (tabD t)] ∧ Q (.int u.1)
def gaF (n : Nat) : DF := fun ds Q => ∃ (t : Tab) (r : Rw) (u : RV2) (p : Int), TabOk t ∧ r.ok n ∧ evR t r = some u ∧ ds = [r.d, .dict (tabD t), .int p] ∧ Q (.int (u.2 p))
abbrev gWp : List Str := ["_law_term", "_law_table"]
abbrev gRp : List Str := ["_law_row", "_law_table"]
abbrev gAp : List Str := ["_law_row", "_law_table", "_law_place"]
theorem glacks_body (T : Tx w K mg) {n l : Nat} (hl1 : 1 ≤ l) {FW FL : DF} (hW : ∀ k, k + 1 = n → ∀ ds Q, gwF k ds Q → FW ds Q) (hL : ∀ k, k + 1 = n → ∀ ds Q, glF k ds Q → FL ds Q) (hn : n ≤ 9)
    (O__law_gworth : Ok P w K mg base l "_law_gworth" gWp (spN K 2 .E FW)) (O__law_glacks : Ok P w K mg base l "_law_glacks" gRp (spN K 2 .E FL)) : Ok P w K mg base (l + 1) "_law_glacks" gRp (spN K 2 .E (glF n)) := by
  have O__law_gcan : Ok P w K mg base 1 "_law_gcan" ["_law_table", "_law_letter", "_law_of_row"] (spN K 3 .E gcF) := ok__law_gcan T
  refine Ok.ofN (M := []) T.d__law_glacks sc__law_glacks rfl (by decide) fun f cdv A outer s H E hr => ⟨_, _, (pss_cons (ps_if (pt_cmpR (eqG K rfl hr.units) (pe_ix (ixG K rfl (u65 hr.toRoom)) (pv 0) (pe_int) (fun _ _ => rfl)) (pe_str) (nomark _))
 (pss_one (ps_ret (pe_cmpR op_isN (pe_fn O__law_gcan (hr.mono (by omega)) (by rfl) (pa_cons (pv 1) (pa_cons (pe_ix (ixG K rfl (u65 hr.toRoom)) (pv 0) (pe_int) (fun _ _ => rfl)) (pa_cons (pe_bl) (pa_nil))))) (pe_non) (nomark _))))
 (pss_nil))
 (pss_cons (ps_if (pt_cmpR (eqG K rfl hr.units) (pe_ix (ixG K rfl (u65 hr.toRoom)) (pv 0) (pe_int) (fun _ _ => rfl)) (pe_str) (nomark _))
 (pss_one (ps_ret (pe_cmpR op_isN (pe_fn O__law_gworth (hr.mono (by omega)) (by rfl) (pa_cons (pe_ix (ixG K rfl (u65 hr.toRoom)) (pv 0) (pe_int) (fun _ _ => rfl)) (pa_cons (pv 1) (pa_nil)))) (pe_non) (nomark _))))
 (pss_nil))
 (pss_cons (ps_set (i := 2) sc__law_glacks.nd rfl (Or.inl rfl) (pe_lst (pa_cons (pe_fn O__law_gworth (hr.mono (by omega)) (by rfl) (pa_cons (pe_ix (ixG K rfl (u65 hr.toRoom)) (pv 0) (pe_int) (fun _ _ => rfl)) (pa_cons (pv 1) (pa_nil)))) (pa_cons (pe_fn O__law_gworth (hr.mono (by omega)) (by rfl) (pa_cons (pe_ix (ixG K rfl (u65 hr.toRoom)) (pv 0) (pe_int) (fun _ _ => rfl)) (pa_cons (pv 1) (pa_nil)))) (pa_nil)))))
 (pss_one (ps_ret (pe_or (pe_cmpR (inG K rfl (u65 hr.toRoom)) (pe_non) (pv 2) (by rfl)) (pe_one (pe_fn O__law_glacks (hr.mono (by omega)) (by rfl) (pa_cons (pe_ix (ixG K rfl (u65 hr.toRoom)) (pv 0) (pe_int) (fun _ _ => rfl)) (pa_cons (pv 1) (pa_nil))))))))))),
 (simS_seq (simS_if (simT_test (sim_op opA_eq (opA_ix (sim_var 0 (nm rfl)) (sim_int _)) (sim_str _)))
 (simS_ret (Sim.toE (sim_op opA_isN (sim_call (simA_cons (sim_var 1 (nm rfl)) (simA_cons (opA_ix (sim_var 0 (nm rfl)) (sim_int _)) (simA_cons (sim_bl _) (simA_nil))))) (sim_non))))
 (simS_next))
 (simS_seq (simS_if (simT_test (sim_op opA_eq (opA_ix (sim_var 0 (nm rfl)) (sim_int _)) (sim_str _)))
 (simS_ret (Sim.toE (sim_op opA_isN (sim_call (simA_cons (opA_ix (sim_var 0 (nm rfl)) (sim_int _)) (simA_cons (sim_var 1 (nm rfl)) (simA_nil)))) (sim_non))))
 (simS_next))
 (simS_seq (simS_set 2 (nm rfl) (np rfl) (sim_lst (by decide) (simA_cons (sim_call (simA_cons (opA_ix (sim_var 0 (nm rfl)) (sim_int _)) (simA_cons (sim_var 1 (nm rfl)) (simA_nil)))) (simA_cons (sim_call (simA_cons (opA_ix (sim_var 0 (nm rfl)) (sim_int _)) (simA_cons (sim_var 1 (nm rfl)) (simA_nil)))) (simA_nil)))))
 (simS_ret (Sim.toE (sim_orV (sim_op opA_in (sim_non) (sim_var 2 (nm rfl))) (sim_call (simA_cons (opA_ix (sim_var 0 (nm rfl)) (sim_int _)) (simA_cons (sim_var 1 (nm rfl)) (simA_nil)))))))))), ?_⟩
  rintro ds Q hl ⟨t, r, ht, hx, rfl, k⟩
  cases r with
  | row y =>
    have hy : isKey y = true := by cases n <;> simpa only [Rw.ok] using hx
    simp only [Rw.d]
    refine seqY (tw0 rfl (by decide +kernel)) (ix_ok 1 rfl rfl ⟨t, y, true, hy, rfl, ?_⟩)
    simp only [evR] at k
    unfold latW
    cases e : findW t y with
    | none => rw [e] at k; exact k
    | some v =>
      rw [e] at k
      cases v with
      | inl i => exact k
      | inr u => exact k
  | room a =>
    cases n with
    | zero => simp only [Rw.ok] at hx
    | succ n =>
    simp only [Rw.ok] at hx
    simp only [Rw.d]
    refine seqN (tw0 rfl (by decide +kernel)) (seqY (tw0 rfl (by decide +kernel)) (ix_ok 1 rfl rfl (hW n rfl _ _ ⟨t, a, ht, hx, rfl, ?_⟩)))
    simp only [evR] at k
    cases e : ev t a with
    | none => rw [e] at k; exact k
    | some v => rw [e] at k; exact k
  | wth r a b =>
    cases n with
    | zero => simp only [Rw.ok] at hx
    | succ n =>
    simp only [Rw.ok] at hx
    simp only [Rw.d]
    refine seqN (tw0 rfl (by decide +kernel)) (seqN (tw0 rfl (by decide +kernel)) ?_)
    refine ix_ok 2 rfl rfl (hW n rfl _ _ ⟨t, a, ht, hx.2.1, rfl, ?_⟩)
    refine ix_ok 3 rfl rfl (hW n rfl _ _ ⟨t, b, ht, hx.2.2, rfl, ?_⟩)
    show dRet (dOrV (dOp (inD false) (dC .none) (dV 2)) (dCall FL (dCons (dOp ixD (dV 0) (dC (.int 1))) (dCons (dV 1) dNil)))) { nx := fun _ => Q .none, rt := fun z _ => Q z }
      { δ := [some (.tuple [wS "with", r.d, a.d, b.d]), some (.dict (tabD t)), some (.list [numW (ev t a), numW (ev t b)])], n := 0 }
    have hv := none_inV (i := 2) (s := { δ := [some (.tuple [wS "with", r.d, a.d, b.d]), some (.dict (tabD t)), some (.list [numW (ev t a), numW (ev t b)])], n := 0 }) ht (by omega : n ≤ 9) (xs := [.inl a, .inl b]) (fun x m => by simp only [List.mem_cons, List.not_mem_nil, or_false] at m; rcases m with rfl | rfl; exact hx.2.1; exact hx.2.2) (ds := [numW (ev t a), numW (ev t b)]) (show PV t _ _ ∧ PV t _ _ ∧ True from ⟨rfl, rfl, True.intro⟩) rfl
    rw [any2, isN_num, isN_num] at hv
    simp only [evR] at k
    cases ea : ev t a with
    | none =>
      rw [ea] at hv k
      refine retOrY hv ?_
      have e : ((evR t r).bind fun u => (none : Option Int).bind fun p => (ev t b).map fun n => (u.1, updF u.2 p n)).isNone = true := by cases evR t r <;> rfl
      rw [e] at k
      exact k
    | some i =>
      rw [ea] at hv k
      cases eb : ev t b with
      | none =>
        rw [eb] at hv k
        refine retOrY hv ?_
        have e : ((evR t r).bind fun u => (some i).bind fun p => (none : Option Int).map fun n => (u.1, updF u.2 p n)).isNone = true := by cases evR t r <;> rfl
        rw [e] at k
        exact k
      | some j =>
        rw [eb] at hv k
        refine retOrN hv ?_
        refine ix_ok 1 rfl rfl (hL n rfl _ _ ⟨t, r, ht, hx.1, rfl, ?_⟩)
        have e : ((evR t r).bind fun u => (some i).bind fun p => (some j).map fun n => (u.1, updF u.2 p n)).isNone = (evR t r).isNone := by cases evR t r <;> rfl
        rw [e] at k
        exact k
theorem gsize_body (T : Tx w K mg) {n l : Nat} (hl1 : 1 ≤ l) {FW FZ : DF} (hW : ∀ k, k + 1 = n → ∀ ds Q, gwF k ds Q → FW ds Q) (hZ : ∀ k, k + 1 = n → ∀ ds Q, gzF k ds Q → FZ ds Q) (hn : n ≤ 9)
    (O__law_gworth : Ok P w K mg base l "_law_gworth" gWp (spN K 2 .E FW)) (O__law_gsize : Ok P w K mg base l "_law_gsize" gRp (spN K 2 .E FZ)) : Ok P w K mg base (l + 1) "_law_gsize" gRp (spN K 2 .E (gzF n)) := by
  refine Ok.ofN (M := []) T.d__law_gsize sc__law_gsize rfl (by decide) fun f cdv A outer s H E hr => ⟨_, _, (pss_cons (ps_if (pt_cmpR (eqG K rfl hr.units) (pe_ix (ixG K rfl (u65 hr.toRoom)) (pv 0) (pe_int) (fun _ _ => rfl)) (pe_str) (nomark _))
 (pss_one (ps_ret (pe_ix (ixG K rfl (u65 hr.toRoom)) (pe_ix (ixG K rfl (u65 hr.toRoom)) (pv 1) (pe_ix (ixG K rfl (u65 hr.toRoom)) (pv 0) (pe_int) (fun _ _ => rfl)) (fun _ _ => rfl)) (pe_int) (fun _ _ => rfl))))
 (pss_nil))
 (pss_one (ps_ret (pe_ifExp (pt_cmpR (eqG K rfl hr.units) (pe_ix (ixG K rfl (u65 hr.toRoom)) (pv 0) (pe_int) (fun _ _ => rfl)) (pe_str) (nomark _)) (pe_callB (call_max2 rfl) (by rfl) T.z_max boot_max (pa_cons (pe_int) (pa_cons (pe_fn O__law_gworth (hr.mono (by omega)) (by rfl) (pa_cons (pe_ix (ixG K rfl (u65 hr.toRoom)) (pv 0) (pe_int) (fun _ _ => rfl)) (pa_cons (pv 1) (pa_nil)))) (pa_nil)))) (pe_fn O__law_gsize (hr.mono (by omega)) (by rfl) (pa_cons (pe_ix (ixG K rfl (u65 hr.toRoom)) (pv 0) (pe_int) (fun _ _ => rfl)) (pa_cons (pv 1) (pa_nil)))))))),
 (simS_seq (simS_if (simT_test (sim_op opA_eq (opA_ix (sim_var 0 (nm rfl)) (sim_int _)) (sim_str _)))
 (simS_ret (Sim.toE (opA_ix (opA_ix (sim_var 1 (nm rfl)) (opA_ix (sim_var 0 (nm rfl)) (sim_int _))) (sim_int _))))
 (simS_next))
 (simS_ret (Sim.toE (sim_if (simT_test (sim_op opA_eq (opA_ix (sim_var 0 (nm rfl)) (sim_int _)) (sim_str _))) (Sim.toE (sim_cb caA_max (simA_cons (sim_int _) (simA_cons (sim_call (simA_cons (opA_ix (sim_var 0 (nm rfl)) (sim_int _)) (simA_cons (sim_var 1 (nm rfl)) (simA_nil)))) (simA_nil))))) (Sim.toE (sim_call (simA_cons (opA_ix (sim_var 0 (nm rfl)) (sim_int _)) (simA_cons (sim_var 1 (nm rfl)) (simA_nil))))))))), ?_⟩
  rintro ds Q hl ⟨t, r, u, ht, hx, hu, rfl, k⟩
  cases r with
  | row y =>
    have hy : isKey y = true := by cases n <;> simpa only [Rw.ok] using hx
    simp only [Rw.d]
    refine seqY (tw0 rfl (by decide +kernel)) (ix_ok 1 rfl rfl ?_)
    simp only [evR] at hu
    have hf := findW_D y t
    cases e : findW t y with
    | none => rw [e] at hu; cases hu
    | some v =>
      rw [e] at hu hf
      cases v with
      | inl i => cases hu
      | inr v =>
        cases hu
        cases y <;> first | (cases hy; done) | exact ⟨⟨_, hf, ix_ok 0 rfl rfl k⟩⟩ | exact ⟨_, hf, ix_ok 0 rfl rfl k⟩
  | room a =>
    cases n with
    | zero => simp only [Rw.ok] at hx
    | succ n =>
    simp only [Rw.ok] at hx
    simp only [Rw.d]
    refine seqN (tw0 rfl (by decide +kernel)) (retY (tw0 rfl (by decide +kernel)) ?_)
    simp only [evR, Option.map_eq_some_iff] at hu
    obtain ⟨i, e, rfl⟩ := hu
    refine ix_ok 1 rfl rfl (hW n rfl _ _ ⟨t, a, ht, hx, rfl, ?_⟩)
    rw [e]
    have e2 : (if i > (0 : Int) then i else 0) = max i 0 := by
      show _ = if i ≤ 0 then 0 else i
      split <;> split <;> omega
    show Q (.int (if i > (0 : Int) then i else 0))
    rw [e2]
    exact k
  | wth r a b =>
    cases n with
    | zero => simp only [Rw.ok] at hx
    | succ n =>
    simp only [Rw.ok] at hx
    simp only [Rw.d]
    refine seqN (tw0 rfl (by decide +kernel)) (retN (tw0 rfl (by decide +kernel)) ?_)
    simp only [evR, Option.bind_eq_some_iff, Option.map_eq_some_iff] at hu
    obtain ⟨v, e, p, _, q, _, rfl⟩ := hu
    exact ix_ok 1 rfl rfl (hZ n rfl _ _ ⟨t, r, v, ht, hx.1, e, rfl, k⟩)
theorem gat_body (T : Tx w K mg) {n l : Nat} (hl1 : 1 ≤ l) {FW : DF} (hW : ∀ k, k + 1 = n → ∀ ds Q, gwF k ds Q → FW ds Q) (hn : n ≤ 9)
    (O__law_gworth : Ok P w K mg base l "_law_gworth" gWp (spN K 2 .E FW)) : Ok P w K mg base (l + 1) "_law_gat" gAp (spN K 3 .E (gaF n)) := by
  refine Ok.ofN (M := []) T.d__law_gat sc__law_gat rfl (by decide) fun f cdv A outer s H E hr => ⟨_, _, (pss_cons (ps_while PassesOwn.never (pt_cmpR (eqG K rfl hr.units) (pe_ix (ixG K rfl (u65 hr.toRoom)) (pv 0) (pe_int) (fun _ _ => rfl)) (pe_str) (nomark _))
 (pss_cons (ps_if (pt_cmpR (eqG K rfl hr.units) (pe_fn O__law_gworth (hr.mono (by omega)) (by rfl) (pa_cons (pe_ix (ixG K rfl (u65 hr.toRoom)) (pv 0) (pe_int) (fun _ _ => rfl)) (pa_cons (pv 1) (pa_nil)))) (pv 2) (nomark _))
 (pss_one (ps_ret (pe_fn O__law_gworth (hr.mono (by omega)) (by rfl) (pa_cons (pe_ix (ixG K rfl (u65 hr.toRoom)) (pv 0) (pe_int) (fun _ _ => rfl)) (pa_cons (pv 1) (pa_nil))))))
 (pss_nil))
 (pss_one (ps_set (i := 0) sc__law_gat.nd rfl (Or.inl rfl) (pe_ix (ixG K rfl (u65 hr.toRoom)) (pv 0) (pe_int) (fun _ _ => rfl))))))
 (pss_cons (ps_if (pt_cmpR (eqG K rfl hr.units) (pe_ix (ixG K rfl (u65 hr.toRoom)) (pv 0) (pe_int) (fun _ _ => rfl)) (pe_str) (nomark _))
 (pss_one (ps_ret (pe_int)))
 (pss_nil))
 (pss_one (ps_ret (pe_callB (sumG K rfl rfl) (by rfl) T.z_sum boot_sum (pa_cons (pe_lc (own := [("_law_there", 3), ("_law_number", 4)]) rfl sc__law_gat.nd (piT K rfl (pe_ix (ixG K rfl (u65 hr.toRoom)) (pe_ix (ixG K rfl (u65 hr.toRoom)) (pv 1) (pe_ix (ixG K rfl (u65 hr.toRoom)) (pv 0) (pe_int) (fun _ _ => rfl)) (fun _ _ => rfl)) (pe_int) (fun _ _ => rfl))) (blkOk_by (own := [("_law_there", 3), ("_law_number", 4)]) (N := ["_law_row", "_law_table", "_law_place", "_law_there", "_law_number"]) (sc := defScope s__law_gat) (by decide +kernel)) (fun _ _ _ _ _ => pgT K rfl 2 rfl (pgs_cons (pg_nameL (i := 3) sc__law_gat.nd rfl rfl) (pgs_cons (pg_nameL (i := 4) sc__law_gat.nd rfl rfl) (pgs_nil)))) (fun _ _ _ _ _ => pts_one (pt_cmpR (eqG K rfl hr.units) (pv 3) (pv 2) (nomark _))) (fun _ _ _ _ _ => pv 4)) (pa_nil))))))),
 (simS_cut (simS_while (simT_test (sim_op opA_eq (opA_ix (sim_var 0 (nm rfl)) (sim_int _)) (sim_str _)))
 (simS_seq (simS_if (simT_test (sim_op opA_eq (sim_call (simA_cons (opA_ix (sim_var 0 (nm rfl)) (sim_int _)) (simA_cons (sim_var 1 (nm rfl)) (simA_nil)))) (sim_var 2 (nm rfl))))
 (simS_ret (Sim.toE (sim_call (simA_cons (opA_ix (sim_var 0 (nm rfl)) (sim_int _)) (simA_cons (sim_var 1 (nm rfl)) (simA_nil))))))
 (simS_next))
 (simS_set 0 (nm rfl) (np rfl) (opA_ix (sim_var 0 (nm rfl)) (sim_int _)))))
 (simS_seq (simS_if (simT_test (sim_op opA_eq (opA_ix (sim_var 0 (nm rfl)) (sim_int _)) (sim_str _)))
 (simS_ret (Sim.toE (sim_int _)))
 (simS_next))
 (simS_ret (Sim.toE (sim_cb caA_sumG (simA_cons (sim_lc (simI_tup (opA_ix (opA_ix (sim_var 1 (nm rfl)) (opA_ix (sim_var 0 (nm rfl)) (sim_int _))) (sim_int _))) (simG_tup (simGs_cons (simG_name 3 (nm rfl) (np rfl)) (simGs_cons (simG_name 4 (nm rfl) (np rfl)) (simGs_nil)))) (simT_test (sim_op opA_eq (sim_var 3 (nm rfl)) (sim_var 2 (nm rfl)))) (sim_var 4 (nm rfl)) (inv' rfl) (nmv rfl) (npv rfl)) (simA_nil))))))), ?_⟩
  rintro ds Q hl ⟨t, r, u, p, ht, hx, hu, rfl, k⟩
  refine ⟨fun s => ∃ (r : Rw) (u' : RV2), (∀ r' a b, r ≠ .wth r' a b) ∧ r.ok n ∧ evR t r = some u' ∧ u'.2 p = u.2 p ∧ s = { δ := [some r.d, some (.dict (tabD t)), some (.int p), none, none], n := 0 }, ?_, ?_⟩
  · refine ⟨fun m s => ∃ (r : Rw) (u' : RV2), r.ok m ∧ m ≤ n ∧ evR t r = some u' ∧ u'.2 p = u.2 p ∧ s = { δ := [some r.d, some (.dict (tabD t)), some (.int p), none, none], n := 0 }, ⟨n, r, u, hx, Nat.le_refl _, hu, rfl, rfl⟩, ?_⟩
    rintro m s ⟨r, u', hr', hm, hu', he, rfl⟩
    cases r with
    | row y =>
      simp only [Rw.d]
      exact tw0 rfl (b := false) (by decide +kernel) _ (ifn Bool.false_ne_true ⟨.row y, u', (fun _ _ _ z => by cases z), (ok_mono hm).2 _ hr', hu', he, by simp only [Rw.d]⟩)
    | room a =>
      simp only [Rw.d]
      exact tw0 rfl (b := false) (by decide +kernel) _ (ifn Bool.false_ne_true ⟨.room a, u', (fun _ _ _ z => by cases z), (ok_mono hm).2 _ hr', hu', he, by simp only [Rw.d]⟩)
    | wth r a b =>
      cases m with
      | zero => simp only [Rw.ok] at hr'
      | succ m =>
      simp only [Rw.ok] at hr'
      obtain ⟨n', rfl⟩ : ∃ n', n = n' + 1 := ⟨n - 1, by omega⟩
      simp only [evR, Option.bind_eq_some_iff, Option.map_eq_some_iff] at hu'
      obtain ⟨v, e1, i, e2, j, e3, rfl⟩ := hu'
      have he : updF v.2 i j p = u.2 p := he
      simp only [Rw.d]
      refine tw0 rfl (b := true) (by decide +kernel) _ (ifp rfl ?_)
      have hm' : m ≤ n' := by omega
      have tt' : Tst (dBl (dOp eqD (dCall FW (dCons (dOp ixD (dV 0) (dC (.int 2))) (dCons (dV 1) dNil))) (dV 2))) { δ := [some (.tuple [wS "with", r.d, a.d, b.d]), some (.dict (tabD t)), some (.int p), none, none], n := 0 } (decide (i = p)) := fun Q q => by
        refine exCall2 (F := FW) (d := .int i) (s := { δ := [some (.tuple [wS "with", r.d, a.d, b.d]), some (.dict (tabD t)), some (.int p), none, none], n := 0 }) (exIx (i := 0) (j := 2) rfl rfl) rfl (fun Q q => hW n' rfl _ _ ⟨t, a, ht, (ok_mono hm').1 _ hr'.2.1, rfl, by rw [e2]; exact q⟩) _ ?_
        exact q
      by_cases h : i = p
      · rw [decide_eq_true h] at tt'
        refine seqY tt' ?_
        refine ix_ok 3 rfl rfl (hW n' rfl _ _ ⟨t, b, ht, (ok_mono hm').1 _ hr'.2.2, rfl, ?_⟩)
        rw [e3]
        have : u.2 p = j := by rw [← he]; unfold updF; rw [if_pos h.symm]
        rw [this] at k
        exact k
      · rw [decide_eq_false h] at tt'
        refine seqN tt' ?_
        refine ix_ok 1 rfl rfl ⟨m, Nat.lt_succ_self m, r, v, hr'.1, by omega, e1, ?_, rfl⟩
        rw [← he]
        unfold updF
        rw [if_neg (fun z => h z.symm)]
  rintro s ⟨r, u', hnw, hr', hu', he, rfl⟩
  cases r with
  | wth r a b => exact absurd rfl (hnw r a b)
  | room a =>
    simp only [evR, Option.map_eq_some_iff] at hu'
    obtain ⟨i, _, rfl⟩ := hu'
    simp only [Rw.d]
    refine seqY (tw0 rfl (by decide +kernel)) ?_
    rw [← he] at k
    exact k
  | row y =>
    have hy : isKey y = true := by cases n <;> simpa only [Rw.ok] using hr'
    simp only [evR] at hu'
    have hf := findW_D y t
    cases e : findW t y with
    | none => rw [e] at hu'; cases hu'
    | some v =>
      rw [e] at hu' hf
      cases v with
      | inl i => cases hu'
      | inr v =>
        cases hu'
        obtain ⟨k', mm⟩ := findW_mem e
        obtain ⟨_, h2, h3⟩ := ht.row k' v.1 v.2 mm
        have he : getP v.2 p = u.2 p := he
        simp only [Rw.d]
        refine seqN (tw0 rfl (by decide +kernel)) ?_
        have fin : dCB sumGD (dCons (dLc (fun s Q => dOp ixD (dOp ixD (dV 1) (dOp ixD (dV 0) (dC (.int 1)))) (dC (.int 1)) s fun d s1 => match d with | .tuple ds => Q ds s1 | _ => False) (sTup 2 (sCons (sName 3) (sCons (sName 4) sNil))) (dBl (dOp eqD (dV 3) (dV 2))) (dV 4) [3, 4]) dNil)
            { δ := [some (.tuple [wS "row", y]), some (.dict (tabD t)), some (.int p), none, none], n := 0 } (fun d _ => Q d) := by
          refine ix_ok 1 rfl rfl ?_
          have key : ∀ Q' : D → Prop, Q' (rowD v.1 v.2) → ixD (.dict (tabD t)) y Q' := fun Q' q' => by
            cases y <;> first | (cases hy; done) | exact ⟨⟨_, hf, q'⟩⟩ | exact ⟨_, hf, q'⟩
          refine key _ (ix_ok 1 rfl rfl ⟨?_, lcD_ind (fun i acc s => acc = (((v.2.take i).filter fun q => decide (q.1 = p)).map (·.2)).map PyData.int ∧ s = { δ := [some (.tuple [wS "row", y]), some (.dict (tabD t)), some (.int p), none, none], n := 0 }) ⟨rfl, rfl⟩ ?_ ?_⟩)
          · rw [List.length_map]
            exact Nat.le_trans h3.len (by decide)
          · rintro i d acc s N hi ⟨rfl, rfl⟩ hN
            rw [List.getElem?_map, Option.map_eq_some_iff] at hi
            obtain ⟨q, hq, rfl⟩ := hi
            refine ⟨rfl, ?_⟩
            by_cases h : q.1 = p
            · refine ifp (decide_eq_true h) (hN _ _ ⟨?_, rfl⟩)
              rw [List.take_add_one, hq, List.filter_append, List.map_append, List.map_append]
              simp [h]
            · refine ifn (by simpa using h) (hN _ _ ⟨?_, rfl⟩)
              rw [List.take_add_one, hq, List.filter_append, List.map_append, List.map_append]
              simp [h]
          · rintro acc s ⟨rfl, rfl⟩
            rw [List.length_map, List.take_length]
            refine ⟨_, intsOf_map _, ?_⟩
            rw [sum_at h2.srt, he]
            exact k
        exact fin
theorem gworth_body (T : Tx w K mg) {n l : Nat} (hl1 : 1 ≤ l) {FW FL FZ FA : DF} (hW : ∀ k, k + 1 = n → ∀ ds Q, gwF k ds Q → FW ds Q) (hL : ∀ k, k + 1 = n → ∀ ds Q, glF k ds Q → FL ds Q) (hZ : ∀ k, k + 1 = n → ∀ ds Q, gzF k ds Q → FZ ds Q) (hA : ∀ k, k + 1 = n → ∀ ds Q, gaF k ds Q → FA ds Q) (hn : n ≤ 9)
    (O__law_gworth : Ok P w K mg base l "_law_gworth" gWp (spN K 2 .E FW)) (O__law_glacks : Ok P w K mg base l "_law_glacks" gRp (spN K 2 .E FL)) (O__law_gsize : Ok P w K mg base l "_law_gsize" gRp (spN K 2 .E FZ)) (O__law_gat : Ok P w K mg base l "_law_gat" gAp (spN K 3 .E FA)) : Ok P w K mg base (l + 1) "_law_gworth" gWp (spN K 2 .E (gwF n)) := by
  have O__law_gcan : Ok P w K mg base 1 "_law_gcan" ["_law_table", "_law_letter", "_law_of_row"] (spN K 3 .E gcF) := ok__law_gcan T
  refine Ok.ofN (M := []) T.d__law_gworth sc__law_gworth rfl (by decide) fun f cdv A outer s H E hr => ⟨_, _, (pss_cons (ps_set (i := 2) sc__law_gworth.nd rfl (Or.inl rfl) (pe_ix (ixG K rfl (u65 hr.toRoom)) (pv 0) (pe_int) (fun _ _ => rfl)))
 (pss_cons (ps_if (pt_cmpR (eqG K rfl hr.units) (pv 2) (pe_str) (nomark _))
 (pss_one (ps_ret (pe_ix (ixG K rfl (u65 hr.toRoom)) (pv 0) (pe_int) (fun _ _ => rfl))))
 (pss_nil))
 (pss_cons (ps_if (pt_cmpR (eqG K rfl hr.units) (pv 2) (pe_str) (nomark _))
 (pss_one (ps_ret (pe_fn O__law_gcan (hr.mono (by omega)) (by rfl) (pa_cons (pv 1) (pa_cons (pe_ix (ixG K rfl (u65 hr.toRoom)) (pv 0) (pe_int) (fun _ _ => rfl)) (pa_cons (pe_bl) (pa_nil)))))))
 (pss_nil))
 (pss_cons (ps_if (pt_cmpR (eqG K rfl hr.units) (pv 2) (pe_str) (nomark _))
 (pss_one (ps_ret (pe_ifExp (pt_val (pe_fn O__law_glacks (hr.mono (by omega)) (by rfl) (pa_cons (pe_ix (ixG K rfl (u65 hr.toRoom)) (pv 0) (pe_int) (fun _ _ => rfl)) (pa_cons (pv 1) (pa_nil))))) (pe_non) (pe_fn O__law_gsize (hr.mono (by omega)) (by rfl) (pa_cons (pe_ix (ixG K rfl (u65 hr.toRoom)) (pv 0) (pe_int) (fun _ _ => rfl)) (pa_cons (pv 1) (pa_nil)))))))
 (pss_nil))
 (pss_cons (ps_if (pt_cmpR (eqG K rfl hr.units) (pv 2) (pe_str) (nomark _))
 (pss_cons (ps_set (i := 3) sc__law_gworth.nd rfl (Or.inl rfl) (pe_fn O__law_gworth (hr.mono (by omega)) (by rfl) (pa_cons (pe_ix (ixG K rfl (u65 hr.toRoom)) (pv 0) (pe_int) (fun _ _ => rfl)) (pa_cons (pv 1) (pa_nil)))))
 (pss_one (ps_ret (pe_ifExp (PW.pt (pw_or (pt_cmpR op_isN (pv 3) (pe_non) (nomark _)) (pw_or1 (pt_val (pe_fn O__law_glacks (hr.mono (by omega)) (by rfl) (pa_cons (pe_ix (ixG K rfl (u65 hr.toRoom)) (pv 0) (pe_int) (fun _ _ => rfl)) (pa_cons (pv 1) (pa_nil)))))))) (pe_non) (pe_fn O__law_gat (hr.mono (by omega)) (by rfl) (pa_cons (pe_ix (ixG K rfl (u65 hr.toRoom)) (pv 0) (pe_int) (fun _ _ => rfl)) (pa_cons (pv 1) (pa_cons (pv 3) (pa_nil)))))))))
 (pss_nil))
 (pss_cons (ps_set (i := 4) sc__law_gworth.nd rfl (Or.inl rfl) (pe_fn O__law_gworth (hr.mono (by omega)) (by rfl) (pa_cons (pe_ifExp (pt_cmpR (eqG K rfl hr.units) (pv 2) (pe_str) (nomark _)) (pe_ix (ixG K rfl (u65 hr.toRoom)) (pv 0) (pe_int) (fun _ _ => rfl)) (pe_ix (ixG K rfl (u65 hr.toRoom)) (pv 0) (pe_int) (fun _ _ => rfl))) (pa_cons (pv 1) (pa_nil)))))
 (pss_cons (ps_if (pt_cmpR op_isN (pv 4) (pe_non) (nomark _))
 (pss_one (ps_ret (pe_non)))
 (pss_nil))
 (pss_cons (ps_if (pt_cmpR (eqG K rfl hr.units) (pv 2) (pe_str) (nomark _))
 (pss_one (ps_ret (pe_op mulG (pe_ix (ixG K rfl (u65 hr.toRoom)) (pv 0) (pe_int) (fun _ _ => rfl)) (pv 4))))
 (pss_nil))
 (pss_cons (ps_if (pt_cmpR (eqG K rfl hr.units) (pv 2) (pe_str) (nomark _))
 (pss_cons (ps_set (i := 5) sc__law_gworth.nd rfl (Or.inl rfl) (pe_fn O__law_gworth (hr.mono (by omega)) (by rfl) (pa_cons (pe_ix (ixG K rfl (u65 hr.toRoom)) (pv 0) (pe_int) (fun _ _ => rfl)) (pa_cons (pv 1) (pa_nil)))))
 (pss_one (ps_ret (pe_ifExp (pt_cmpR op_isN (pv 5) (pe_non) (nomark _)) (pe_non) (pe_op (addG K rfl) (pv 4) (pv 5))))))
 (pss_nil))
 (pss_cons (ps_set (i := 6) sc__law_gworth.nd rfl (Or.inl rfl) (pe_op op_mod (pv 4) (pe_ix (ixG K rfl (u65 hr.toRoom)) (pv 0) (pe_int) (fun _ _ => rfl))))
 (pss_one (ps_ret (pe_ifExp (pt_cmpR (eqG K rfl hr.units) (pv 2) (pe_str) (nomark _)) (pv 6) (pe_op op_fdivW (pe_op op_sub (pv 4) (pv 6)) (pe_ix (ixG K rfl (u65 hr.toRoom)) (pv 0) (pe_int) (fun _ _ => rfl)))))))))))))))),
 (simS_seq (simS_set 2 (nm rfl) (np rfl) (opA_ix (sim_var 0 (nm rfl)) (sim_int _)))
 (simS_seq (simS_if (simT_test (sim_op opA_eq (sim_var 2 (nm rfl)) (sim_str _)))
 (simS_ret (Sim.toE (opA_ix (sim_var 0 (nm rfl)) (sim_int _))))
 (simS_next))
 (simS_seq (simS_if (simT_test (sim_op opA_eq (sim_var 2 (nm rfl)) (sim_str _)))
 (simS_ret (Sim.toE (sim_call (simA_cons (sim_var 1 (nm rfl)) (simA_cons (opA_ix (sim_var 0 (nm rfl)) (sim_int _)) (simA_cons (sim_bl _) (simA_nil)))))))
 (simS_next))
 (simS_seq (simS_if (simT_test (sim_op opA_eq (sim_var 2 (nm rfl)) (sim_str _)))
 (simS_ret (Sim.toE (sim_if (simT_B (sim_call (simA_cons (opA_ix (sim_var 0 (nm rfl)) (sim_int _)) (simA_cons (sim_var 1 (nm rfl)) (simA_nil))))) (Sim.toE (sim_non)) (Sim.toE (sim_call (simA_cons (opA_ix (sim_var 0 (nm rfl)) (sim_int _)) (simA_cons (sim_var 1 (nm rfl)) (simA_nil))))))))
 (simS_next))
 (simS_seq (simS_if (simT_test (sim_op opA_eq (sim_var 2 (nm rfl)) (sim_str _)))
 (simS_seq (simS_set 3 (nm rfl) (np rfl) (sim_call (simA_cons (opA_ix (sim_var 0 (nm rfl)) (sim_int _)) (simA_cons (sim_var 1 (nm rfl)) (simA_nil)))))
 (simS_ret (Sim.toE (sim_if (simT_or (simT_test (sim_op opA_isN (sim_var 3 (nm rfl)) (sim_non))) (simT_B (sim_call (simA_cons (opA_ix (sim_var 0 (nm rfl)) (sim_int _)) (simA_cons (sim_var 1 (nm rfl)) (simA_nil)))))) (Sim.toE (sim_non)) (Sim.toE (sim_call (simA_cons (opA_ix (sim_var 0 (nm rfl)) (sim_int _)) (simA_cons (sim_var 1 (nm rfl)) (simA_cons (sim_var 3 (nm rfl)) (simA_nil))))))))))
 (simS_next))
 (simS_cut (simS_set 4 (nm rfl) (np rfl) (sim_call (simA_cons (sim_if (simT_test (sim_op opA_eq (sim_var 2 (nm rfl)) (sim_str _))) (Sim.toE (opA_ix (sim_var 0 (nm rfl)) (sim_int _))) (Sim.toE (opA_ix (sim_var 0 (nm rfl)) (sim_int _)))) (simA_cons (sim_var 1 (nm rfl)) (simA_nil)))))
 (simS_seq (simS_if (simT_test (sim_op opA_isN (sim_var 4 (nm rfl)) (sim_non)))
 (simS_ret (Sim.toE (sim_non)))
 (simS_next))
 (simS_seq (simS_if (simT_test (sim_op opA_eq (sim_var 2 (nm rfl)) (sim_str _)))
 (simS_ret (Sim.toE (sim_op opA_mul (opA_ix (sim_var 0 (nm rfl)) (sim_int _)) (sim_var 4 (nm rfl)))))
 (simS_next))
 (simS_seq (simS_if (simT_test (sim_op opA_eq (sim_var 2 (nm rfl)) (sim_str _)))
 (simS_seq (simS_set 5 (nm rfl) (np rfl) (sim_call (simA_cons (opA_ix (sim_var 0 (nm rfl)) (sim_int _)) (simA_cons (sim_var 1 (nm rfl)) (simA_nil)))))
 (simS_ret (Sim.toE (sim_if (simT_test (sim_op opA_isN (sim_var 5 (nm rfl)) (sim_non))) (sim_non) (sim_op opA_add (sim_var 4 (nm rfl)) (sim_var 5 (nm rfl)))))))
 (simS_next))
 (simS_seq (simS_set 6 (nm rfl) (np rfl) (sim_op opA_mod (sim_var 4 (nm rfl)) (opA_ix (sim_var 0 (nm rfl)) (sim_int _))))
 (simS_ret (Sim.toE (sim_if (simT_test (sim_op opA_eq (sim_var 2 (nm rfl)) (sim_str _))) (Sim.toE (sim_var 6 (nm rfl))) (Sim.toE (sim_op opA_fdiv (sim_op opA_sub (sim_var 4 (nm rfl)) (sim_var 6 (nm rfl))) (opA_ix (sim_var 0 (nm rfl)) (sim_int _))))))))))))))))), ?_⟩
  rintro ds Q hl ⟨t, a, ht, hx, rfl, k⟩
  cases a with
  | num i =>
    simp only [Tm.d]
    exact seqSetX (d := wS "num") (fun Q q => ix_ok 0 rfl rfl q) (seqY (tw rfl (by decide +kernel)) (ix_ok 1 rfl rfl (by simpa [ev, numW] using k)))
  | name y =>
    have hy : isKey y = true := by cases n <;> simpa only [Tm.ok] using hx
    simp only [Tm.d]
    refine seqSetX (d := wS "name") (fun Q q => ix_ok 0 rfl rfl q) (seqN (tw rfl (by decide +kernel)) (seqY (tw rfl (by decide +kernel)) (ix_ok 1 rfl rfl ⟨t, y, false, hy, rfl, ?_⟩)))
    simp only [ev] at k
    unfold latW
    cases e : findW t y with
    | none => rw [e] at k; exact k
    | some v =>
      rw [e] at k
      cases v <;> exact k
  | size r =>
    cases n with
    | zero => simp only [Tm.ok] at hx
    | succ n =>
    simp only [Tm.ok] at hx
    simp only [Tm.d]
    refine seqSetX (d := wS "size") (fun Q q => ix_ok 0 rfl rfl q) (seqN (tw rfl (by decide +kernel)) (seqN (tw rfl (by decide +kernel)) (seqY (tw rfl (by decide +kernel)) ?_)))
    have tl' := tBl (exCall2 (F := FL) (s := { δ := [some (.tuple [wS "size", r.d]), some (.dict (tabD t)), some (wS "size"), none, none, none, none], n := 0 }) (exIx (i := 0) (j := 1) rfl rfl) rfl (fun Q q => hL n rfl _ _ ⟨t, r, ht, hx, rfl, q⟩))
    simp only [ev] at k
    cases e : evR t r with
    | none =>
      rw [e] at tl' k
      exact retY tl' k
    | some u =>
      rw [e] at tl' k
      exact retN tl' (ix_ok 1 rfl rfl (hZ n rfl _ _ ⟨t, r, u, ht, hx, e, rfl, k⟩))
  | read r a =>
    cases n with
    | zero => simp only [Tm.ok] at hx
    | succ n =>
    simp only [Tm.ok] at hx
    simp only [Tm.d]
    refine seqSetX (d := wS "read") (fun Q q => ix_ok 0 rfl rfl q) (seqN (tw rfl (by decide +kernel)) (seqN (tw rfl (by decide +kernel)) (seqN (tw rfl (by decide +kernel)) (seqY (tw rfl (by decide +kernel)) ?_))))
    refine seqSetX (d := numW (ev t a)) (exCall2 (exIx (i := 0) (j := 2) rfl rfl) rfl (fun Q q => hW n rfl _ _ ⟨t, a, ht, hx.2, rfl, q⟩)) ?_
    have tl' := tst_or (tNon (i := 3) (o := ev t a) (s := { δ := [some (.tuple [wS "read", r.d, a.d]), some (.dict (tabD t)), some (wS "read"), some (numW (ev t a)), none, none, none], n := 0 }) rfl) (fun _ => tBl (exCall2 (F := FL) (s := { δ := [some (.tuple [wS "read", r.d, a.d]), some (.dict (tabD t)), some (wS "read"), some (numW (ev t a)), none, none, none], n := 0 }) (exIx (i := 0) (j := 1) rfl rfl) rfl (fun Q q => hL n rfl _ _ ⟨t, r, ht, hx.1, rfl, q⟩)))
    simp only [ev] at k
    cases e : evR t r with
    | none =>
      rw [e] at tl' k
      rw [show ((ev t a).isNone || (none : Option RV2).isNone) = true by simp] at tl'
      exact retY tl' k
    | some u =>
      cases e2 : ev t a with
      | none =>
        rw [e, e2] at tl' k
        exact retY tl' k
      | some p =>
        rw [e, e2] at tl' k
        exact retN tl' (ix_ok 1 rfl rfl (hA n rfl _ _ ⟨t, r, u, p, ht, hx.1, e, rfl, k⟩))
  | mul i a =>
    cases n with
    | zero => simp only [Tm.ok] at hx
    | succ n =>
    simp only [Tm.ok] at hx
    simp only [Tm.d]
    refine seqSetX (d := wS "mul") (fun Q q => ix_ok 0 rfl rfl q) (seqN (tw rfl (by decide +kernel)) (seqN (tw rfl (by decide +kernel)) (seqN (tw rfl (by decide +kernel)) (seqN (tw rfl (by decide +kernel)) ?_))))
    refine cutSetX (d := numW (ev t a)) (exCall2 (exIfY (tw rfl (by decide +kernel)) (exIx (i := 0) (j := 2) rfl rfl)) rfl (fun Q q => hW n rfl _ _ ⟨t, a, ht, hx.2, rfl, q⟩)) ?_
    simp only [ev] at k
    cases e : ev t a with
    | none => rw [e] at k; exact seqY (tNon (o := none) rfl) k
    | some j =>
      rw [e] at k
      exact seqN (tNon (o := some j) rfl) (seqY (tw rfl (by decide +kernel)) (ix_ok 1 rfl rfl ⟨mulOk (le30_lt hx.1) (vb_lt (by omega) ((ev_ok ht n).1 a hx.2 j e)), k⟩))
  | dv a i =>
    cases n with
    | zero => simp only [Tm.ok] at hx
    | succ n =>
    simp only [Tm.ok] at hx
    simp only [Tm.d]
    refine seqSetX (d := wS "div") (fun Q q => ix_ok 0 rfl rfl q) (seqN (tw rfl (by decide +kernel)) (seqN (tw rfl (by decide +kernel)) (seqN (tw rfl (by decide +kernel)) (seqN (tw rfl (by decide +kernel)) ?_))))
    refine cutSetX (d := numW (ev t a)) (exCall2 (exIfN (tw rfl (by decide +kernel)) (exIx (i := 0) (j := 1) rfl rfl)) rfl (fun Q q => hW n rfl _ _ ⟨t, a, ht, hx.2.2, rfl, q⟩)) ?_
    simp only [ev] at k
    cases e : ev t a with
    | none => rw [e] at k; exact seqY (tNon (o := none) rfl) k
    | some j =>
      rw [e] at k
      refine seqN (tNon (o := some j) rfl) (seqN (tw rfl (by decide +kernel)) (seqN (tw rfl (by decide +kernel)) ?_))
      refine seqSetX (d := .int (j % i)) (fun Q q => ix_ok 2 rfl rfl ⟨hx.1, q⟩) (retN (tw rfl (by decide +kernel)) (ix_ok 2 rfl rfl ⟨⟨hx.1, log_small hx.1 hx.2.1⟩, ?_⟩))
      have : (j - j % i) / i = j / i := by
        have h1 := Int.emod_add_mul_ediv j i
        rw [show j - j % i = i * (j / i) by omega]
        exact Int.mul_ediv_cancel_left _ (by omega)
      rw [this]
      exact k
  | md a i =>
    cases n with
    | zero => simp only [Tm.ok] at hx
    | succ n =>
    simp only [Tm.ok] at hx
    simp only [Tm.d]
    refine seqSetX (d := wS "mod") (fun Q q => ix_ok 0 rfl rfl q) (seqN (tw rfl (by decide +kernel)) (seqN (tw rfl (by decide +kernel)) (seqN (tw rfl (by decide +kernel)) (seqN (tw rfl (by decide +kernel)) ?_))))
    refine cutSetX (d := numW (ev t a)) (exCall2 (exIfN (tw rfl (by decide +kernel)) (exIx (i := 0) (j := 1) rfl rfl)) rfl (fun Q q => hW n rfl _ _ ⟨t, a, ht, hx.2.2, rfl, q⟩)) ?_
    simp only [ev] at k
    cases e : ev t a with
    | none => rw [e] at k; exact seqY (tNon (o := none) rfl) k
    | some j =>
      rw [e] at k
      refine seqN (tNon (o := some j) rfl) (seqN (tw rfl (by decide +kernel)) (seqN (tw rfl (by decide +kernel)) ?_))
      exact seqSetX (d := .int (j % i)) (fun Q q => ix_ok 2 rfl rfl ⟨hx.1, q⟩) (retY (tw rfl (by decide +kernel)) k)
  | add a b =>
    cases n with
    | zero => simp only [Tm.ok] at hx
    | succ n =>
    simp only [Tm.ok] at hx
    simp only [Tm.d]
    refine seqSetX (d := wS "add") (fun Q q => ix_ok 0 rfl rfl q) (seqN (tw rfl (by decide +kernel)) (seqN (tw rfl (by decide +kernel)) (seqN (tw rfl (by decide +kernel)) (seqN (tw rfl (by decide +kernel)) ?_))))
    refine cutSetX (d := numW (ev t a)) (exCall2 (exIfN (tw rfl (by decide +kernel)) (exIx (i := 0) (j := 1) rfl rfl)) rfl (fun Q q => hW n rfl _ _ ⟨t, a, ht, hx.1, rfl, q⟩)) ?_
    simp only [ev] at k
    cases e : ev t a with
    | none => rw [e] at k; exact seqY (tNon (o := none) rfl) k
    | some j =>
      rw [e] at k
      refine seqN (tNon (o := some j) rfl) (seqN (tw rfl (by decide +kernel)) (seqY (tw rfl (by decide +kernel)) ?_))
      refine seqSetX (d := numW (ev t b)) (exCall2 (exIx (i := 0) (j := 2) rfl rfl) rfl (fun Q q => hW n rfl _ _ ⟨t, b, ht, hx.2, rfl, q⟩)) ?_
      cases e2 : ev t b with
      | none => rw [e2] at k; exact retY (tNon (o := none) rfl) k
      | some v => rw [e2] at k; exact retN (tNon (o := some v) rfl) k
end

/-! ### keys of a dict of marks -/
def kD (ks : List Int) : List (D × D) := ks.map fun i => (.int i, .bool true)
def addK (ks : List Int) (p : Int) : List Int := if p ∈ ks then ks else ks ++ [p]
theorem kD_some (p : Int) : ∀ ks : List Int, (findD (kD ks) (.int p)).isSome = decide (p ∈ ks)
  | [] => rfl
  | i :: ks => by
    show (if decide (i = p) = true then some (PyData.bool true) else findD (kD ks) (.int p)).isSome = _
    by_cases h : i = p
    · rw [if_pos (decide_eq_true h), decide_eq_true (by rw [h]; exact List.mem_cons_self ..)]; rfl
    · rw [if_neg (by simpa using h), kD_some p ks]
      have h' : ¬ p = i := fun z => h z.symm
      simp [h']
theorem kD_put (ks : List Int) (p : Int) : putD (kD ks) (.int p) (.bool true) = kD (addK ks p) := by
  unfold putD addK
  rw [kD_some]
  by_cases h : p ∈ ks
  · rw [if_pos (decide_eq_true h), if_pos h]
    unfold kD
    rw [List.map_map]
    refine List.map_congr_left fun q _ => ?_
    show (if decide (q = p) = true then (PyData.int q, PyData.bool true) else (PyData.int q, PyData.bool true)) = _
    split <;> rfl
  · rw [if_neg (by simpa using h), if_neg h]
    unfold kD
    rw [List.map_append]
    rfl
theorem addK_nd {ks : List Int} (nd : ks.Nodup) (p : Int) : (addK ks p).Nodup := by
  unfold addK
  split
  · exact nd
  · rename_i h
    rw [List.nodup_append]
    exact ⟨nd, by simp, fun a m b m' e => h (by rw [List.mem_singleton] at m'; rw [← m', ← e]; exact m)⟩
theorem addK_len (ks : List Int) (p : Int) : (addK ks p).length ≤ ks.length + 1 := by
  unfold addK
  split
  · omega
  · rw [List.length_append]; exact Nat.le_refl _
theorem addK_mem {ks : List Int} {p q : Int} : q ∈ addK ks p ↔ q ∈ ks ∨ q = p := by
  unfold addK
  split
  · rename_i h
    exact ⟨.inl, fun z => z.elim id fun e => by rw [e]; exact h⟩
  · simp
theorem kD_keys (ks : List Int) : (kD ks).map Prod.fst = ks.map PyData.int := by
  unfold kD
  rw [List.map_map]
  rfl
section
variable {P : Program} {w : World} {K : PySem.W.Frag} {mg : Str → Option Value} {base : Heap}
theorem ok_gw (T : Tx w K mg) : ∀ n, n ≤ 9 → Ok P w K mg base (n + 2) "_law_gworth" gWp (spN K 2 .E (gwF n)) ∧ Ok P w K mg base (n + 2) "_law_glacks" gRp (spN K 2 .E (glF n)) ∧ Ok P w K mg base (n + 2) "_law_gsize" gRp (spN K 2 .E (gzF n)) ∧ Ok P w K mg base (n + 2) "_law_gat" gAp (spN K 3 .E (gaF n)) := by
  intro n
  induction n with
  | zero =>
    intro hn
    have N1 : Ok P w K mg base 1 "_law_gworth" gWp (spN K 2 .E fun _ _ => False) := Ok.no T.d__law_gworth sc__law_gworth (spN_no fun ds Q h => h)
    have N2 : Ok P w K mg base 1 "_law_glacks" gRp (spN K 2 .E fun _ _ => False) := Ok.no T.d__law_glacks sc__law_glacks (spN_no fun ds Q h => h)
    have N3 : Ok P w K mg base 1 "_law_gsize" gRp (spN K 2 .E fun _ _ => False) := Ok.no T.d__law_gsize sc__law_gsize (spN_no fun ds Q h => h)
    have N4 : Ok P w K mg base 1 "_law_gat" gAp (spN K 3 .E fun _ _ => False) := Ok.no T.d__law_gat sc__law_gat (spN_no fun ds Q h => h)
    exact ⟨gworth_body T (Nat.le_refl _) (fun k e => by omega) (fun k e => by omega) (fun k e => by omega) (fun k e => by omega) hn N1 N2 N3 N4, glacks_body T (Nat.le_refl _) (fun k e => by omega) (fun k e => by omega) hn N1 N2, gsize_body T (Nat.le_refl _) (fun k e => by omega) (fun k e => by omega) hn N1 N3, gat_body T (Nat.le_refl _) (fun k e => by omega) hn N1⟩
  | succ n ih =>
    intro hn
    obtain ⟨h1, h2, h3, h4⟩ := ih (by omega)
    have cl : ∀ {F : Nat → DF} k, k + 1 = n + 1 → ∀ ds Q, F k ds Q → F n ds Q := fun k e ds Q h => by rw [show n = k by omega]; exact h
    exact ⟨gworth_body T (by omega) (cl (F := gwF)) (cl (F := glF)) (cl (F := gzF)) (cl (F := gaF)) hn h1 h2 h3 h4, glacks_body T (by omega) (cl (F := gwF)) (cl (F := glF)) hn h1 h2, gsize_body T (by omega) (cl (F := gwF)) (cl (F := gzF)) hn h1 h3, gat_body T (by omega) (cl (F := gwF)) hn h1⟩
def gfF (n : Nat) : DF := fun ds Q => ∃ (t : Tab) (r : Rw), TabOk t ∧ r.ok n ∧ ds = [r.d, .dict (tabD t)] ∧ ∀ d, RowV (evR t r) d → Q d
theorem ok__law_gfull (T : Tx w K mg) {n : Nat} (hn : n ≤ 9) : Ok P w K mg base (n + 3) "_law_gfull" gRp (spN K 2 .E (gfF n)) := by
  obtain ⟨O__law_gworth, O__law_glacks, O__law_gsize, O__law_gat⟩ := ok_gw (P := P) (w := w) (base := base) T n hn
  refine Ok.ofN (M := [2]) T.d__law_gfull sc__law_gfull rfl (by decide) fun f cdv A outer s H E hr => ⟨_, _, (pss_cons (ps_if (pt_val (pe_fn O__law_glacks (hr.mono (by omega)) (by rfl) (pa_cons (pv 0) (pa_cons (pv 1) (pa_nil)))))
 (pss_one (ps_ret (pe_non)))
 (pss_nil))
 (pss_cons (ps_set (i := 2) sc__law_gfull.nd rfl (Or.inl rfl) (pe_dnewK))
 (pss_cons (ps_set (i := 3) sc__law_gfull.nd rfl (Or.inl rfl) (pv 0))
 (pss_cons (ps_while PassesOwn.never (pt_cmpR (eqG K rfl hr.units) (pe_ix (ixG K rfl (u65 hr.toRoom)) (pv 3) (pe_int) (fun _ _ => rfl)) (pe_str) (nomark _))
 (pss_cons (ps_dput (lt_u1 (u65 hr.toRoom)) (pv 2) (pe_fn O__law_gworth (hr.mono (by omega)) (by rfl) (pa_cons (pe_ix (ixG K rfl (u65 hr.toRoom)) (pv 3) (pe_int) (fun _ _ => rfl)) (pa_cons (pv 1) (pa_nil)))) (pe_bl) rfl)
 (pss_one (ps_set (i := 3) sc__law_gfull.nd rfl (Or.inl rfl) (pe_ix (ixG K rfl (u65 hr.toRoom)) (pv 3) (pe_int) (fun _ _ => rfl))))))
 (pss_cons (ps_if (pt_cmpR (eqG K rfl hr.units) (pe_ix (ixG K rfl (u65 hr.toRoom)) (pv 3) (pe_int) (fun _ _ => rfl)) (pe_str) (nomark _))
 (pss_one (ps_for PassesOwn.never rfl (piT K rfl (pe_ix (ixG K rfl (u65 hr.toRoom)) (pe_ix (ixG K rfl (u65 hr.toRoom)) (pv 1) (pe_ix (ixG K rfl (u65 hr.toRoom)) (pv 3) (pe_int) (fun _ _ => rfl)) (fun _ _ => rfl)) (pe_int) (fun _ _ => rfl))) (pgT K rfl 2 rfl (pgs_cons (pg_nameL (i := 4) sc__law_gfull.nd rfl rfl) (pgs_cons (pg_nameL (i := 5) sc__law_gfull.nd rfl rfl) (pgs_nil))))
 (pss_one (ps_dput (lt_u1 (u65 hr.toRoom)) (pv 2) (pv 4) (pe_bl) rfl))))
 (pss_nil))
 (pss_cons (ps_setLc (i := 6) (own := [("_law_place", 4)]) rfl sc__law_gfull.nd rfl rfl (sw_true rfl rfl rfl (by decide +kernel)) (piL K rfl (pe_callB (call_sortedDI rfl) (by rfl) T.z_sorted boot_sorted (pa_cons (pv 2) pa_nil))) (blkOk_by (own := [("_law_place", 4)]) (N := ["_law_row", "_law_table", "_law_some", "_law_beneath", "_law_place", "_law_number", "_law_places", "_law_pair"]) (sc := defScope s__law_gfull) (by decide +kernel)) (fun _ _ _ _ _ => pg_nameL (i := 4) sc__law_gfull.nd rfl rfl) (fun _ _ _ _ _ => pts_nil) (fun _ _ _ _ _ => pe_tupZ (pa_cons (pv 4) (pa_cons (pe_fn O__law_gat (hr.mono (by omega)) (by rfl) (pa_cons (pv 0) (pa_cons (pv 1) (pa_cons (pv 4) (pa_nil))))) (pa_nil)))))
 (pss_one (ps_ret (pe_tupZ (pa_cons (pe_fn O__law_gsize (hr.mono (by omega)) (by rfl) (pa_cons (pv 0) (pa_cons (pv 1) (pa_nil)))) (pa_cons (pe_callTy (tupQ K rfl) (by rfl) T.z_tuple boot_tuple (pa_cons (pe_lc (own := [("_law_pair", 7)]) rfl sc__law_gfull.nd (piL K rfl (pv 6)) (blkOk_by (own := [("_law_pair", 7)]) (N := ["_law_row", "_law_table", "_law_some", "_law_beneath", "_law_place", "_law_number", "_law_places", "_law_pair"]) (sc := defScope s__law_gfull) (by decide +kernel)) (fun _ _ _ _ _ => pg_nameL (i := 7) sc__law_gfull.nd rfl rfl) (fun _ _ _ _ _ => pts_one (pt_cmpR (neG K rfl hr.units) (pe_ix (ixG K rfl (u65 hr.toRoom)) (pv 7) (pe_int) (fun _ _ => rfl)) (pe_int) (nomark _))) (fun _ _ _ _ _ => pv 7)) (pa_nil))) (pa_nil)))))))))))),
 (simS_seq (simS_if (simT_B (sim_call (simA_cons (sim_var 0 (nm rfl)) (simA_cons (sim_var 1 (nm rfl)) (simA_nil)))))
 (simS_ret (Sim.toE (sim_non)))
 (simS_next))
 (simS_seq (simS_setM 2 (ym rfl) (nb rfl) (sim_dnew))
 (simS_seq (simS_set 3 (nm rfl) (np rfl) (sim_var 0 (nm rfl)))
 (simS_cut (simS_while (simT_test (sim_op opA_eq (opA_ix (sim_var 3 (nm rfl)) (sim_int _)) (sim_str _)))
 (simS_seq (simS_setK 2 (ym rfl) (sim_bl _) (sim_call (simA_cons (opA_ix (sim_var 3 (nm rfl)) (sim_int _)) (simA_cons (sim_var 1 (nm rfl)) (simA_nil)))))
 (simS_set 3 (nm rfl) (np rfl) (opA_ix (sim_var 3 (nm rfl)) (sim_int _)))))
 (simS_cut (simS_if (simT_test (sim_op opA_eq (opA_ix (sim_var 3 (nm rfl)) (sim_int _)) (sim_str _)))
 (simS_for (simI_tup (opA_ix (opA_ix (sim_var 1 (nm rfl)) (opA_ix (sim_var 3 (nm rfl)) (sim_int _))) (sim_int _))) (simG_tup (simGs_cons (simG_name 4 (nm rfl) (np rfl)) (simGs_cons (simG_name 5 (nm rfl) (np rfl)) (simGs_nil))))
 (simS_setK 2 (ym rfl) (sim_bl _) (sim_var 4 (nm rfl))))
 (simS_next))
 (simS_seq (simS_set 6 (nm rfl) (np rfl) (sim_lc (simI_list (sim_cbM 2 (ym rfl) caA_sortI)) (simG_name 4 (nm rfl) (np rfl)) (simT_yes) (sim_tup (by decide) (simA_cons (sim_var 4 (nm rfl)) (simA_cons (sim_call (simA_cons (sim_var 0 (nm rfl)) (simA_cons (sim_var 1 (nm rfl)) (simA_cons (sim_var 4 (nm rfl)) (simA_nil))))) (simA_nil)))) (inv' rfl) (nmv rfl) (npv rfl)))
 (simS_ret (Sim.toE (sim_tup (by decide) (simA_cons (sim_call (simA_cons (sim_var 0 (nm rfl)) (simA_cons (sim_var 1 (nm rfl)) (simA_nil)))) (simA_cons (sim_cb caA_tup (simA_cons (sim_lc (simI_list (sim_var 6 (nm rfl))) (simG_name 7 (nm rfl) (np rfl)) (simT_test (sim_op opA_ne (opA_ix (sim_var 7 (nm rfl)) (sim_int _)) (sim_int _))) (sim_var 7 (nm rfl)) (inv' rfl) (nmv rfl) (npv rfl)) (simA_nil))) (simA_nil)))))))))))), ?_⟩
  rintro ds Q hl ⟨t, r, ht, hx, rfl, k⟩
  have tl' := tBl (s := { δ := [some r.d, some (.dict (tabD t)), none, none, none, none, none, none], n := 0 }) (a := dCall (glF n) (dCons (dV 0) (dCons (dV 1) dNil))) (b := (evR t r).isNone) (fun Q q => ⟨t, r, ht, hx, rfl, q⟩)
  cases hu : evR t r with
  | none =>
    rw [hu] at tl' k
    exact seqY tl' (k _ rfl)
  | some u =>
  rw [hu] at tl' k
  refine seqN tl' ⟨rfl, ?_⟩
  refine ⟨fun s => ∃ (r' : Rw) (u' : RV2) (ks : List Int), (∀ r1 a b, r' ≠ .wth r1 a b) ∧ r'.ok n ∧ evR t r' = some u' ∧ ks.Nodup ∧ ks.length ≤ n ∧ (∀ p, p ∉ ks → u.2 p = u'.2 p) ∧ s = { δ := [some r.d, some (.dict (tabD t)), some (.dict (kD ks)), some r'.d, none, none, none, none], n := 0 }, ?_, ?_⟩
  · refine ⟨fun m s => ∃ (r' : Rw) (u' : RV2) (ks : List Int), r'.ok m ∧ ks.length + m ≤ n ∧ evR t r' = some u' ∧ ks.Nodup ∧ (∀ p, p ∉ ks → u.2 p = u'.2 p) ∧ s = { δ := [some r.d, some (.dict (tabD t)), some (.dict (kD ks)), some r'.d, none, none, none, none], n := 0 }, ⟨n, r, u, [], hx, by simp, hu, List.nodup_nil, fun _ _ => rfl, rfl⟩, ?_⟩
    rintro m s ⟨r', u', ks, hr', hm, hu', nd, he, rfl⟩
    cases r' with
    | row y =>
      simp only [Rw.d]
      exact tw0 rfl (b := false) (by decide +kernel) _ (ifn Bool.false_ne_true ⟨.row y, u', ks, (fun _ _ _ z => by cases z), (ok_mono (by omega)).2 _ hr', hu', nd, by omega, he, by simp only [Rw.d]⟩)
    | room a =>
      simp only [Rw.d]
      exact tw0 rfl (b := false) (by decide +kernel) _ (ifn Bool.false_ne_true ⟨.room a, u', ks, (fun _ _ _ z => by cases z), (ok_mono (by omega)).2 _ hr', hu', nd, by omega, he, by simp only [Rw.d]⟩)
    | wth r1 a b =>
      cases m with
      | zero => simp only [Rw.ok] at hr'
      | succ m =>
      simp only [Rw.ok] at hr'
      simp only [evR, Option.bind_eq_some_iff, Option.map_eq_some_iff] at hu'
      obtain ⟨v, e1, i, e2, j, e3, rfl⟩ := hu'
      have he : ∀ p, p ∉ ks → u.2 p = updF v.2 i j p := he
      simp only [Rw.d]
      refine tw0 rfl (b := true) (by decide +kernel) _ (ifp rfl ?_)
      refine seqSetK (kvs := kD ks) (k := .int i) (d := .bool true) rfl rfl (by unfold kD; rw [List.length_map]; exact Nat.lt_of_le_of_lt (show ks.length ≤ 9 by omega) (by decide)) (fun Q q => q) (exCall2 (s := { δ := [some r.d, some (.dict (tabD t)), some (.dict (kD ks)), some (.tuple [wS "with", r1.d, a.d, b.d]), none, none, none, none], n := 0 }) (exIx (i := 3) (j := 2) rfl rfl) rfl (fun Q q => ⟨t, a, ht, (ok_mono (by omega)).1 _ hr'.2.1, rfl, by rw [e2]; exact q⟩)) (kD_put ks i) ?_
      refine ix_ok 1 rfl rfl ⟨m, Nat.lt_succ_self m, r1, v, addK ks i, hr'.1, ?_, e1, addK_nd nd i, fun p hp => ?_, rfl⟩
      · have := addK_len ks i
        omega
      · rw [addK_mem, not_or] at hp
        rw [he p hp.1]
        unfold updF
        rw [if_neg hp.2]
  rintro s ⟨r', u', ks, hnw, hr', hu', nd, hlen, he, rfl⟩
  refine ⟨fun s => ∃ (ks : List Int) (o3 o4 o5 : Option D), ks.Nodup ∧ ks.length ≤ n + 10 ∧ (∀ p, p ∉ ks → u.2 p = 0) ∧ s = { δ := [some r.d, some (.dict (tabD t)), some (.dict (kD ks)), o3, o4, o5, none, none], n := 0 }, ?_, ?_⟩
  · cases r' with
    | wth r a b => exact absurd rfl (hnw r a b)
    | room a =>
      simp only [evR, Option.map_eq_some_iff] at hu'
      obtain ⟨i, _, rfl⟩ := hu'
      simp only [Rw.d]
      exact tw0 rfl (b := false) (by decide +kernel) _ (ifn Bool.false_ne_true ⟨ks, _, _, _, nd, by omega, fun p hp => he p hp, rfl⟩)
    | row y =>
      have hy : isKey y = true := by cases n <;> simpa only [Rw.ok] using hr'
      simp only [evR] at hu'
      have hf := findW_D y t
      cases e : findW t y with
      | none => rw [e] at hu'; cases hu'
      | some v =>
        rw [e] at hu' hf
        cases v with
        | inl i => cases hu'
        | inr v =>
          cases hu'
          obtain ⟨k', mm⟩ := findW_mem e
          obtain ⟨_, h2, h3⟩ := ht.row k' v.1 v.2 mm
          have he : ∀ p, p ∉ ks → u.2 p = getP v.2 p := he
          have hl10 := h3.len
          simp only [Rw.d]
          refine tw0 rfl (b := true) (by decide +kernel) _ (ifp rfl ?_)
          refine ix_ok 1 rfl rfl ?_
          have key : ∀ Q' : D → Prop, Q' (rowD v.1 v.2) → ixD (.dict (tabD t)) y Q' := fun Q' q' => by
            cases y <;> first | (cases hy; done) | exact ⟨⟨_, hf, q'⟩⟩ | exact ⟨_, hf, q'⟩
          refine key _ (ix_ok 1 rfl rfl (forD_ind (fun i s => ∃ (ks' : List Int) (o4 o5 : Option D), ks'.Nodup ∧ ks'.length ≤ ks.length + i ∧ i ≤ 10 ∧ (∀ p, p ∉ ks' → p ∉ ks ∧ ∀ q ∈ v.2.take i, q.1 ≠ p) ∧ s = { δ := [some r.d, some (.dict (tabD t)), some (.dict (kD ks')), some (.tuple [wS "row", y]), o4, o5, none, none], n := 0 }) ⟨ks, none, none, nd, Nat.le_refl _, by omega, fun p hp => ⟨hp, (fun q m => by cases m)⟩, rfl⟩ ?_ ?_))
          · rintro i d s N hi ⟨ks', o4, o5, nd', hl', hi10, hk', rfl⟩ hN
            rw [List.getElem?_map, Option.map_eq_some_iff] at hi
            obtain ⟨q, hq, rfl⟩ := hi
            have hil := (List.getElem?_eq_some_iff.mp hq).1
            refine ⟨rfl, ?_⟩
            refine ⟨⟨_, rfl⟩, rfl, ?_, ?_⟩
            · unfold kD; rw [List.length_map]; exact Nat.lt_of_le_of_lt (show ks'.length ≤ 30 by omega) (by decide)
            · refine hN _ ⟨addK ks' q.1, _, _, addK_nd nd' q.1, ?_, by omega, fun p hp => ?_, by rw [← kD_put]; rfl⟩
              · have := addK_len ks' q.1
                omega
              · rw [addK_mem, not_or] at hp
                obtain ⟨a1, a2⟩ := hk' p hp.1
                refine ⟨a1, fun q' m => ?_⟩
                rw [List.take_add_one, hq] at m
                rcases List.mem_append.mp m with m | m
                · exact a2 q' m
                · have : q' = q := by simpa using m
                  rw [this]
                  exact fun z => hp.2 z.symm
          · rintro s ⟨ks', o4, o5, nd', hl', hi10, hk', rfl⟩
            rw [List.length_map] at hl' hk' hi10
            refine ⟨ks', _, _, _, nd', by omega, fun p hp => ?_, rfl⟩
            obtain ⟨a1, a2⟩ := hk' p hp
            rw [he p a1]
            rw [List.take_length] at a2
            exact getP_out a2
  rintro s ⟨ks, o3, o4, o5, nd, hlen, h0, rfl⟩
  have goal : ∀ ys : List Int, ys.Perm ks → ys.Pairwise (· ≤ ·) → RowIs u.2 ((ys.map fun p => (p, u.2 p)).filter fun q => decide (q.2 ≠ 0)) := fun ys hp hs => by
    have ndy : ys.Nodup := hp.nodup_iff.mpr nd
    have e1 : (ys.map fun p => (p, u.2 p)).map (·.1) = ys := by rw [List.map_map]; exact List.map_id _
    have srt : (ys.map fun p => (p, u.2 p)).Pairwise (fun a b => a.1 < b.1) := by
      rw [List.pairwise_map]
      unfold List.Nodup at ndy
      exact (hs.and ndy).imp fun {a b} ⟨h1, h2⟩ => by show a < b; omega
    refine ⟨srt.filter _, fun q m => by simpa using (List.mem_filter.mp m).2, fun p => ?_⟩
    rw [getP_filter (by rw [e1]; exact ndy)]
    by_cases h : p ∈ ys
    · exact getP_in srt (q := (p, u.2 p)) (List.mem_map.mpr ⟨p, h, rfl⟩)
    · rw [h0 p (fun z => h (hp.mem_iff.mpr z))]
      refine getP_out fun q m e => ?_
      obtain ⟨p', m', rfl⟩ := List.mem_map.mp m
      exact h (by rw [← e]; exact m')
  refine ⟨ks, kD_keys ks, by omega, fun ys hp hs => ?_⟩
  have hly : ys.length ≤ 19 := by rw [hp.length_eq]; omega
  refine ⟨by rw [List.length_map]; exact Nat.le_trans hly (by decide), lcD_ind (fun i acc s => acc = ((ys.take i).map fun p => (p, u.2 p)).map ipT ∧ s = { δ := [some r.d, some (.dict (tabD t)), some (.dict (kD ks)), o3, none, o5, none, none], n := 0 }) ⟨rfl, rfl⟩ ?_ ?_⟩
  · rintro i d acc s N hi ⟨rfl, rfl⟩ hN
    rw [List.getElem?_map, Option.map_eq_some_iff] at hi
    obtain ⟨p, hpp, rfl⟩ := hi
    refine ⟨t, r, u, p, ht, hx, hu, rfl, hN _ _ ⟨?_, rfl⟩⟩
    rw [List.take_add_one, hpp]
    simp [ipT]
  · rintro acc s ⟨rfl, rfl⟩
    rw [List.length_map, List.take_length]
    refine ⟨t, r, u, ht, hx, hu, rfl, ?_⟩
    refine ⟨by rw [List.length_map, List.length_map]; exact Nat.le_trans hly (by decide), lcD_ind (fun i acc s => acc = (((ys.map fun p => (p, u.2 p)).take i).filter fun q => decide (q.2 ≠ 0)).map ipT ∧ s = { δ := [some r.d, some (.dict (tabD t)), some (.dict (kD ks)), o3, none, o5, some (.list ((ys.map fun p => (p, u.2 p)).map ipT)), none], n := 0 }) ⟨rfl, rfl⟩ ?_ ?_⟩
    · rintro i d acc s N hi ⟨rfl, rfl⟩ hN
      rw [List.getElem?_map, Option.map_eq_some_iff] at hi
      obtain ⟨q, hq, rfl⟩ := hi
      refine ix_ok 1 rfl rfl ?_
      by_cases h : q.2 = 0
      · refine ifn (by simp [h]) (hN _ _ ⟨?_, rfl⟩)
        rw [List.take_add_one, hq, List.filter_append, List.map_append]
        simp [h]
      · refine ifp (by simpa using h) (hN _ _ ⟨?_, rfl⟩)
        rw [List.take_add_one, hq, List.filter_append, List.map_append]
        simp [h]
    · rintro acc s ⟨rfl, rfl⟩
      rw [List.length_map, List.take_length]
      exact k _ ⟨_, rfl, goal ys hp hs⟩
end

/-! ### drawn tables -/
def putW (t : Tab) (k : D) (v : Wv) : Tab := if (findW t k).isSome = true then t.map fun p => if keyIs p.1 k = true then (p.1, v) else p else t ++ [(k, v)]
theorem putW_D (t : Tab) (k : D) (v : Wv) : putD (tabD t) k (wD v) = tabD (putW t k v) := by
  unfold putD putW
  rw [findW_D, Option.isSome_map]
  split
  · unfold tabD
    rw [List.map_map, List.map_map]
    refine List.map_congr_left fun p _ => ?_
    show (if keyIs p.1 k = true then (p.1, wD v) else (p.1, wD p.2)) = ((if keyIs p.1 k = true then (p.1, v) else p).1, wD (if keyIs p.1 k = true then (p.1, v) else p).2)
    split <;> rfl
  · unfold tabD
    rw [List.map_append]
    rfl
theorem putW_mem {t : Tab} {k : D} {v : Wv} {p : D × Wv} (h : p ∈ putW t k v) : p ∈ t ∨ (p.2 = v ∧ (p.1 = k ∨ ∃ q ∈ t, q.1 = p.1)) := by
  unfold putW at h
  split at h
  · obtain ⟨q, m, e⟩ := List.mem_map.mp h
    split at e
    · rw [← e]; exact .inr ⟨rfl, .inr ⟨q, m, rfl⟩⟩
    · rw [← e]; exact .inl m
  · rcases List.mem_append.mp h with h | h
    · exact .inl h
    · rw [List.mem_singleton.mp h]; exact .inr ⟨rfl, .inl rfl⟩
theorem keyIs_refl {k : D} (h : isKey k = true) : keyIs k k = true := by cases k <;> first | (cases h; done) | exact decide_eq_true rfl
theorem findW_any {x : D} : ∀ t : Tab, (findW t x).isSome = t.any fun p => keyIs p.1 x
  | [] => rfl
  | (k, d) :: r => by
    show (if keyIs k x = true then some d else findW r x).isSome = _
    rw [List.any_cons]
    by_cases h : keyIs k x = true
    · rw [if_pos h]; simp [h]
    · rw [if_neg h, findW_any r]; simp [h]
theorem putW_find {t : Tab} {k : D} {v : Wv} (hk : isKey k = true) (x : D) (h : x = k ∨ (findW t x).isSome = true) : (findW (putW t k v) x).isSome = true := by
  rw [findW_any]
  unfold putW
  split
  · rename_i h1
    have : (findW t x).isSome = true := h.elim (fun e => by rw [e]; exact h1) id
    rw [findW_any, List.any_eq_true] at this
    obtain ⟨p, m, e⟩ := this
    rw [List.any_map, List.any_eq_true]
    refine ⟨p, m, ?_⟩
    show keyIs (if keyIs p.1 k = true then (p.1, v) else p).1 x = true
    split <;> exact e
  · rw [List.any_append, Bool.or_eq_true]
    rcases h with rfl | h
    · exact .inr (by simp [keyIs_refl hk])
    · rw [findW_any] at h
      exact .inl h
theorem TabOk.put {t : Tab} (h : TabOk t) {k : D} (hk : isKey k = true) {v : Wv} (hv : (∀ i, v = .inl i → i.natAbs ≤ 10 ^ 40) ∧ ∀ s ps, v = .inr (s, ps) → s.natAbs ≤ 10 ^ 40 ∧ RowIs (getP ps) ps ∧ PlOk 0 ps) : TabOk (putW t k v) := by
  refine ⟨fun p m => ?_, fun k' i m => ?_, fun k' s ps m => ?_⟩
  · rcases putW_mem m with m | ⟨_, e | ⟨q, m, e⟩⟩
    · exact h.key p m
    · rw [e]; exact hk
    · rw [← e]; exact h.key q m
  · rcases putW_mem m with m | ⟨e, _⟩
    · exact h.int k' i m
    · exact hv.1 i e.symm
  · rcases putW_mem m with m | ⟨e, _⟩
    · exact h.row k' s ps m
    · exact hv.2 s ps e.symm
theorem putW_len (t : Tab) (k : D) (v : Wv) : (putW t k v).length ≤ t.length + 1 := by
  unfold putW
  split
  · rw [List.length_map]; omega
  · rw [List.length_append]; exact Nat.le_refl _
theorem TabOk.nil : TabOk [] := ⟨(fun p m => by cases m), (fun k i m => by cases m), (fun k s ps m => by cases m)⟩
theorem pk_get {ps : Pl} {p : Int} (h : p ∈ ps.map (·.1)) : findD (pkD ps) (.int p) = some (.int (getP ps p)) := by
  have h1 := pk_find p ps
  have h2 := pk_some p ps
  have h3 : (ps.any fun q => decide (q.1 = p)) = true := by
    obtain ⟨q, m, e⟩ := List.mem_map.mp h
    exact List.any_eq_true.mpr ⟨q, m, decide_eq_true e⟩
  rw [h3] at h2
  cases e : findD (pkD ps) (.int p) with
  | none => rw [e] at h2; cases h2
  | some d => rw [e] at h1; exact congrArg some h1
theorem pk_keys (ps : Pl) : (pkD ps).map Prod.fst = (ps.map (·.1)).map PyData.int := by
  unfold pkD
  rw [List.map_map, List.map_map]
  rfl
theorem le_vb0 {k : Nat} (h : k < 10 ^ 40) : k ≤ vb 0 := Nat.le_of_lt (Nat.lt_of_lt_of_le h (by decide +kernel))
/-- in order, without the noughts -/
theorem row_pick {ps : Pl} {ys : List Int} (nd : (ps.map (·.1)).Nodup) (hp : ys.Perm (ps.map (·.1))) (hs : ys.Pairwise (· ≤ ·)) : RowIs (getP ps) ((ys.map fun p => (p, getP ps p)).filter fun q => decide (q.2 ≠ 0)) := by
  have ndy : ys.Nodup := hp.nodup_iff.mpr nd
  have e1 : (ys.map fun p => (p, getP ps p)).map (·.1) = ys := by rw [List.map_map]; exact List.map_id _
  have srt : (ys.map fun p => (p, getP ps p)).Pairwise (fun a b => a.1 < b.1) := by
    rw [List.pairwise_map]
    unfold List.Nodup at ndy
    exact (hs.and ndy).imp fun {a b} ⟨h1, h2⟩ => by show a < b; omega
  refine ⟨srt.filter _, fun q m => by simpa using (List.mem_filter.mp m).2, fun p => ?_⟩
  rw [getP_filter (by rw [e1]; exact ndy)]
  by_cases h : p ∈ ys
  · exact getP_in srt (q := (p, getP ps p)) (List.mem_map.mpr ⟨p, h, rfl⟩)
  · have h0 : getP ps p = 0 := getP_out fun q m e => h (hp.mem_iff.mpr (List.mem_map.mpr ⟨q, m, e⟩))
    rw [h0]
    refine getP_out fun q m e => ?_
    obtain ⟨p', m', rfl⟩ := List.mem_map.mp m
    exact h (by rw [← e]; exact m')
def gtbF : DFP := fun ds n Q => ∃ nums rows, ds = [.dict (envKV nums rows [])] ∧ Lets false nums ∧ Lets true rows ∧ n + 20000 ≤ penLim ∧ ∀ (t : Tab) (n' : Nat), TabOk t → t.length ≤ 40 → (∀ p ∈ t, p.1 ∈ nums ∨ p.1 ∈ rows) → (∀ x ∈ nums ++ rows, (findW t x).isSome = true) → n' ≤ n + 20000 → Q (.dict (tabD t)) n'
section
variable {P : Program} {w : World} {K : PySem.W.Frag} {mg : Str → Option Value} {base : Heap}
theorem ok__law_gtable (T : Tx w K mg) (O__law_take : Ok P w K mg base 2 "_law_take" ["_law_pen", "_law_many"] (spP K 1 .E takeF)) (O__law_gnumber : Ok P w K mg base 3 "_law_gnumber" ["_law_pen"] (spP K 0 .E (numF 100))) : Ok P w K mg base 4 "_law_gtable" ["_law_pen", "_law_env"] (spP K 1 .E gtbF) := by
  refine Ok.ofP (M := [2, 4]) T.d__law_gtable sc__law_gtable rfl (by decide) (by decide) fun f cdv A outer s H E p c hr => ⟨_, _, (pss_cons (ps_set (i := 2) sc__law_gtable.nd rfl (Or.inl rfl) (pe_dnewK))
 (pss_cons (ps_for PassesOwn.never rfl (piL K rfl (pe_ix (ixG K rfl (u65 hr.toRoom)) (pv 1) (pe_str) (fun _ _ => rfl))) (pg_nameL (i := 3) sc__law_gtable.nd rfl rfl)
 (pss_one (ps_dput (lt_u1 (u65 hr.toRoom)) (pv 2) (pv 3) (pe_fn O__law_gnumber (hr.mono (by omega)) (by rfl) (pa_cons (pv 0) (pa_nil))) rfl)))
 (pss_cons (ps_for PassesOwn.never rfl (piL K rfl (pe_ix (ixG K rfl (u65 hr.toRoom)) (pv 1) (pe_str) (fun _ _ => rfl))) (pg_nameL (i := 3) sc__law_gtable.nd rfl rfl)
 (pss_cons (ps_set (i := 4) sc__law_gtable.nd rfl (Or.inr rfl) (pe_dnewK))
 (pss_cons (ps_for PassesOwn.never rfl (pi_range1 (by rfl) T.z_range (pa_cons (pe_fn O__law_take (hr.mono (by omega)) (by rfl) (pa_cons (pv 0) (pa_cons (pe_int) (pa_nil)))) (pa_nil))) (pg_nameL (i := 5) sc__law_gtable.nd rfl rfl)
 (pss_one (ps_dput (lt_u1 (u65 hr.toRoom)) (pv 4) (pe_ix (ixG K rfl (u65 hr.toRoom)) (pe_lst (pa_cons (pe_fn O__law_take (hr.mono (by omega)) (by rfl) (pa_cons (pv 0) (pa_cons (pe_int) (pa_nil)))) (pa_cons (pe_fn O__law_gnumber (hr.mono (by omega)) (by rfl) (pa_cons (pv 0) (pa_nil))) (pa_nil)))) (pe_op op_fdivW (pe_fn O__law_take (hr.mono (by omega)) (by rfl) (pa_cons (pv 0) (pa_cons (pe_int) (pa_nil)))) (pe_int)) (fun _ _ => rfl)) (pe_fn O__law_gnumber (hr.mono (by omega)) (by rfl) (pa_cons (pv 0) (pa_nil))) rfl)))
 (pss_cons (ps_set (i := 6) sc__law_gtable.nd rfl (Or.inl rfl) (pe_callTy (tupQ K rfl) (by rfl) T.z_tuple boot_tuple (pa_cons (pe_lc (own := [("_law_place", 7)]) rfl sc__law_gtable.nd (piL K rfl (pe_callB (call_sortedDI rfl) (by rfl) T.z_sorted boot_sorted (pa_cons (pv 4) pa_nil))) (blkOk_by (own := [("_law_place", 7)]) (N := ["_law_pen", "_law_env", "_law_found", "_law_letter", "_law_some", "_law_k", "_law_places", "_law_place"]) (sc := defScope s__law_gtable) (by decide +kernel)) (fun _ _ _ _ _ => pg_nameL (i := 7) sc__law_gtable.nd rfl rfl) (fun _ _ _ _ _ => pts_one (pt_cmpR (neG K rfl hr.units) (pe_ix (ixG K rfl (u65 hr.toRoom)) (pv 4) (pv 7) (fun _ _ => rfl)) (pe_int) (nomark _))) (fun _ _ _ _ _ => pe_tupZ (pa_cons (pv 7) (pa_cons (pe_ix (ixG K rfl (u65 hr.toRoom)) (pv 4) (pv 7) (fun _ _ => rfl)) (pa_nil))))) (pa_nil))))
 (pss_one (ps_dput (lt_u1 (u65 hr.toRoom)) (pv 2) (pv 3) (pe_tupZ (pa_cons (pe_ix (ixG K rfl (u65 hr.toRoom)) (pe_lst (pa_cons (pe_fn O__law_take (hr.mono (by omega)) (by rfl) (pa_cons (pv 0) (pa_cons (pe_int) (pa_nil)))) (pa_cons (pe_op op_pow (pe_int) (pe_int)) (pa_nil)))) (pe_op op_fdivW (pe_fn O__law_take (hr.mono (by omega)) (by rfl) (pa_cons (pv 0) (pa_cons (pe_int) (pa_nil)))) (pe_int)) (fun _ _ => rfl)) (pa_cons (pv 6) (pa_nil)))) rfl))))))
 (pss_one (ps_ret (pv 2)))))),
 (simS_seq (simS_setM 2 (ym rfl) (nb rfl) (sim_dnew))
 (simS_cut (simS_for (simI_list (opA_ix (sim_var 1 (nm rfl)) (sim_str _))) (simG_name 3 (nm rfl) (np rfl))
 (simS_setK 2 (ym rfl) (sim_callP (by simp) rfl (simA_nil)) (sim_var 3 (nm rfl))))
 (simS_cut (simS_for (simI_list (opA_ix (sim_var 1 (nm rfl)) (sim_str _))) (simG_name 3 (nm rfl) (np rfl))
 (simS_seq (simS_setM 4 (ym rfl) (nb rfl) (sim_dnew))
 (simS_cut (simS_for (simI_range1 (sim_callP (by simp) rfl (simA_cons (sim_int _) (simA_nil)))) (simG_name 5 (nm rfl) (np rfl))
 (simS_setK 4 (ym rfl) (sim_callP (by simp) rfl (simA_nil)) (opA_ix (sim_lst (by decide) (simA_cons (sim_callP (by simp) rfl (simA_cons (sim_int _) (simA_nil))) (simA_cons (sim_callP (by simp) rfl (simA_nil)) (simA_nil)))) (sim_op opA_fdiv (sim_callP (by simp) rfl (simA_cons (sim_int _) (simA_nil))) (sim_int _)))))
 (simS_seq (simS_set 6 (nm rfl) (np rfl) (sim_cb caA_tup (simA_cons (sim_lc (simI_list (sim_cbM 4 (ym rfl) caA_sortI)) (simG_name 7 (nm rfl) (np rfl)) (simT_test (sim_op opA_ne (opA_ixM 4 (ym rfl) (sim_var 7 (nm rfl))) (sim_int _))) (sim_tup (by decide) (simA_cons (sim_var 7 (nm rfl)) (simA_cons (opA_ixM 4 (ym rfl) (sim_var 7 (nm rfl))) (simA_nil)))) (inv' rfl) (nmv rfl) (npv rfl)) (simA_nil))))
 (simS_setK 2 (ym rfl) (sim_tup (by decide) (simA_cons (opA_ix (sim_lst (by decide) (simA_cons (sim_callP (by simp) rfl (simA_cons (sim_int _) (simA_nil))) (simA_cons (sim_op opA_pow (sim_int _) (sim_int _)) (simA_nil)))) (sim_op opA_fdiv (sim_callP (by simp) rfl (simA_cons (sim_int _) (simA_nil))) (sim_int _))) (simA_cons (sim_var 6 (nm rfl)) (simA_nil)))) (sim_var 3 (nm rfl)))))))
 (simS_retM 2 (ym rfl) (nb rfl))))), ?_⟩
  rintro ds m Q hl ⟨nums, rows, rfl, hn, hrw, hm, k⟩
  have hn20 := hn.2.1
  have hr20 := hrw.2.1
  have mem1 : ∀ {i : Nat} {d x : D} {xs : List D}, xs[i]? = some d → x ∈ xs.take (i + 1) → x = d ∨ x ∈ xs.take i := fun {i d x xs} h m => by
    rw [List.take_add_one, h] at m
    rcases List.mem_append.mp m with m | m
    · exact .inr m
    · exact .inl (by simpa using m)
  refine ⟨rfl, fun s => ∃ (t : Tab) (o3 : Option D) (n1 : Nat), TabOk t ∧ t.length ≤ 20 ∧ (∀ p ∈ t, p.1 ∈ nums ∨ p.1 ∈ rows) ∧ (∀ x ∈ nums, (findW t x).isSome = true) ∧ n1 ≤ m + 2000 ∧ s = { δ := [none, some (.dict (envKV nums rows [])), some (.dict (tabD t)), o3, none, none, none, none], n := n1 }, ?_, ?_⟩
  · refine ⟨_, kv_n, forD_ind (fun i s => ∃ (t : Tab) (o3 : Option D) (n1 : Nat), TabOk t ∧ t.length ≤ i ∧ (∀ p ∈ t, p.1 ∈ nums ∨ p.1 ∈ rows) ∧ (∀ x ∈ nums.take i, (findW t x).isSome = true) ∧ n1 ≤ m + 100 * i ∧ s = { δ := [none, some (.dict (envKV nums rows [])), some (.dict (tabD t)), o3, none, none, none, none], n := n1 }) ⟨[], none, m, TabOk.nil, Nat.le_refl _, (fun p h => by cases h), (fun x h => by cases h), by omega, rfl⟩ ?_ ?_⟩
    · rintro i d s N hd ⟨t, o3, n1, ht, hlt, hks, hfs, hn1, rfl⟩ hN
      have hi := (List.getElem?_eq_some_iff.mp hd).1
      have dm := List.mem_of_getElem? hd
      have hk : isKey d = true := isIS_key (hn.2.2 d dm).2.1
      refine ⟨rfl, by (first | omega | (dsimp only; omega) | (dsimp only at *; omega)), fun v n2 hv hn2 => ?_⟩
      have hn2 : n2 ≤ n1 + 100 := hn2
      refine ⟨⟨_, rfl⟩, hk, ?_, ?_⟩
      · unfold tabD; rw [List.length_map]; exact Nat.lt_of_le_of_lt (show t.length ≤ 20 by omega) (by decide)
      · refine hN _ ⟨putW t d (.inl v), _, n2, ht.put hk ⟨fun i e => by cases e; exact Nat.le_of_lt hv, fun s ps e => by cases e⟩, ?_, fun p mp => ?_, fun x mx => putW_find hk x ?_, by omega, by rw [← putW_D]; rfl⟩
        · have := putW_len t d (.inl v)
          omega
        · rcases putW_mem mp with mp | ⟨_, e | ⟨q, mq, e⟩⟩
          · exact hks p mp
          · rw [e]; exact .inl dm
          · rw [← e]; exact hks q mq
        · exact (mem1 hd mx).imp id (hfs x)
    · rintro s ⟨t, o3, n1, ht, hlt, hks, hfs, hn1, rfl⟩
      rw [List.take_length] at hfs
      exact ⟨t, o3, n1, ht, by omega, hks, hfs, by omega, rfl⟩
  rintro s ⟨t0, o3, n1, ht0, hlt0, hks0, hfs0, hn1, rfl⟩
  refine ⟨fun s => ∃ (t : Tab) (o3 o4 o5 o6 : Option D) (n1 : Nat), TabOk t ∧ t.length ≤ 40 ∧ (∀ p ∈ t, p.1 ∈ nums ∨ p.1 ∈ rows) ∧ (∀ x ∈ nums ++ rows, (findW t x).isSome = true) ∧ n1 ≤ m + 20000 ∧ s = { δ := [none, some (.dict (envKV nums rows [])), some (.dict (tabD t)), o3, o4, o5, o6, none], n := n1 }, ?_, ?_⟩
  · refine ⟨_, kv_r, forD_ind (fun i s => ∃ (t : Tab) (o3 o4 o5 o6 : Option D) (n1 : Nat), TabOk t ∧ t.length ≤ 20 + i ∧ (∀ p ∈ t, p.1 ∈ nums ∨ p.1 ∈ rows) ∧ (∀ x ∈ nums, (findW t x).isSome = true) ∧ (∀ x ∈ rows.take i, (findW t x).isSome = true) ∧ n1 ≤ m + 2000 + 900 * i ∧ s = { δ := [none, some (.dict (envKV nums rows [])), some (.dict (tabD t)), o3, o4, o5, o6, none], n := n1 }) ⟨t0, o3, none, none, none, n1, ht0, by omega, hks0, hfs0, (fun x h => by cases h), by omega, rfl⟩ ?_ ?_⟩
    · rintro i d s N hd ⟨t, o3, o4, o5, o6, n2, ht, hlt, hks, hfn, hfs, hn2, rfl⟩ hN
      have hi := (List.getElem?_eq_some_iff.mp hd).1
      have dm := List.mem_of_getElem? hd
      have hk : isKey d = true := isIS_key (hrw.2.2 d dm).2.1
      refine ⟨rfl, ?_⟩
      refine ⟨fun s => ∃ (ps : Pl) (o5 : Option D) (n3 : Nat), (ps.map (·.1)).Nodup ∧ ps.length ≤ 5 ∧ (∀ q ∈ ps, q.1.natAbs ≤ vb 0 ∧ q.2.natAbs ≤ vb 0) ∧ n3 ≤ n2 + 820 ∧ s = { δ := [none, some (.dict (envKV nums rows [])), some (.dict (tabD t)), some d, some (.dict (pkD ps)), o5, o6, none], n := n3 }, ?_, ?_⟩
      · refine tk_ok (by (first | omega | (dsimp only; omega) | (dsimp only at *; omega))) (by decide) (by decide) fun r r0 r1 => ⟨⟨by (first | omega | (dsimp only; omega) | (dsimp only at *; omega)), by (first | omega | (dsimp only; omega) | (dsimp only at *; omega))⟩, forD_ind (fun j s => ∃ (ps : Pl) (o5 : Option D) (n3 : Nat), (ps.map (·.1)).Nodup ∧ ps.length ≤ j ∧ j ≤ 4 ∧ (∀ q ∈ ps, q.1.natAbs ≤ vb 0 ∧ q.2.natAbs ≤ vb 0) ∧ n3 ≤ n2 + 1 + 202 * j ∧ s = { δ := [none, some (.dict (envKV nums rows [])), some (.dict (tabD t)), some d, some (.dict (pkD ps)), o5, o6, none], n := n3 }) ⟨[], _, n2 + 1, List.nodup_nil, Nat.le_refl _, by omega, (fun q h => by cases h), by omega, rfl⟩ ?_ ?_⟩
        · rintro j d' s N' hd' ⟨ps, o5', n3, nd, hlp, hj4, hab, hn3, rfl⟩ hN'
          obtain ⟨hj, rfl⟩ := rgD_get hd'
          have hj : j < 4 := by
            have : (j : Int) < r := by omega
            omega
          refine ⟨rfl, by (first | omega | (dsimp only; omega) | (dsimp only at *; omega)), fun v n4 hv hn4 => ?_⟩
          have hn4 : n4 ≤ n3 + 100 := hn4
          refine ⟨⟨_, rfl⟩, ?_⟩
          refine tk_ok (by (first | omega | (dsimp only; omega) | (dsimp only at *; omega))) (by decide) (by decide) fun q q0 q1 => ⟨rfl, by (first | omega | (dsimp only; omega) | (dsimp only at *; omega)), fun v2 n5 hv2 hn5 => ?_⟩
          have hn5 : n5 ≤ n4 + 1 + 100 := hn5
          refine tk_ok (by (first | omega | (dsimp only; omega) | (dsimp only at *; omega))) (by decide) (by decide) fun q4 q40 q41 => ⟨⟨by decide, by decide⟩, ix_any (by omega) (by show q4 / 3 < 2; omega) fun x hx => ?_⟩
          have hxi : ∃ i : Int, x = .int i ∧ i.natAbs < 10 ^ 40 := by
            simp only [List.mem_cons, List.not_mem_nil, or_false] at hx
            rcases hx with rfl | rfl
            · exact ⟨q, rfl, Nat.lt_of_lt_of_le (show q.natAbs < 10 by omega) (by decide)⟩
            · exact ⟨v2, rfl, hv2⟩
          obtain ⟨x', rfl, hx'⟩ := hxi
          refine ⟨rfl, ?_, ?_⟩
          · unfold pkD; rw [List.length_map]; exact Nat.lt_of_le_of_lt (show ps.length ≤ 5 by omega) (by decide)
          · refine hN' _ ⟨putP ps x' v, _, n5 + 1, putP_nd nd x' v, ?_, by omega, fun q' mq => ?_, by omega, by rw [← pk_put]; rfl⟩
            · have := putP_len ps x' v
              omega
            · rcases putP_mem mq with mq | rfl
              · exact hab q' mq
              · exact ⟨le_vb0 hx', le_vb0 hv⟩
        · rintro s ⟨ps, o5', n3, nd, hlp, hj4, hab, hn3, rfl⟩
          exact ⟨ps, o5', n3, nd, by omega, hab, by omega, rfl⟩
      rintro s ⟨ps, o5', n3, nd, hlp, hab, hn3, rfl⟩
      refine ⟨ps.map (·.1), pk_keys ps, by rw [List.length_map]; omega, fun ys hp hs => ?_⟩
      have hly : ys.length ≤ 5 := by rw [hp.length_eq, List.length_map]; exact hlp
      have gx : ∀ {p : Int} {Q' : D → Prop}, p ∈ ys → Q' (.int (getP ps p)) → ixD (.dict (pkD ps)) (.int p) Q' := fun {p Q'} mp q' => by
        have e := pk_get (hp.mem_iff.mp mp)
        first | exact ⟨⟨_, e, q'⟩⟩ | exact ⟨_, e, q'⟩
      refine ⟨by rw [List.length_map]; exact Nat.le_trans hly (by decide), lcD_ind (fun i acc s => acc = (((ys.map fun p => (p, getP ps p)).take i).filter fun q => decide (q.2 ≠ 0)).map ipT ∧ s = { δ := [none, some (.dict (envKV nums rows [])), some (.dict (tabD t)), some d, some (.dict (pkD ps)), o5', o6, none], n := n3 }) ⟨rfl, rfl⟩ ?_ ?_⟩
      · rintro i' d' acc s N' hd' ⟨rfl, rfl⟩ hN'
        rw [List.getElem?_map, Option.map_eq_some_iff] at hd'
        obtain ⟨p, hpp, rfl⟩ := hd'
        have hq : (ys.map fun p => (p, getP ps p))[i']? = some (p, getP ps p) := by rw [List.getElem?_map, hpp]; rfl
        have mp := List.mem_of_getElem? hpp
        refine ⟨⟨_, rfl⟩, gx mp ?_⟩
        by_cases h : getP ps p = 0
        · refine ifn (by simp [h]) (hN' _ _ ⟨?_, rfl⟩)
          rw [List.take_add_one, hq, List.filter_append, List.map_append]
          simp [h]
        · refine ifp (by simpa using h) ⟨⟨_, rfl⟩, gx mp (hN' _ _ ⟨?_, rfl⟩)⟩
          rw [List.take_add_one, hq, List.filter_append, List.map_append]
          simp [h, ipT]
      · rintro acc s ⟨rfl, rfl⟩
        rw [List.length_map, show ys.length = (ys.map fun p => (p, getP ps p)).length by rw [List.length_map], List.take_length]
        have ri := row_pick nd hp hs
        generalize hrs : ((ys.map fun p => (p, getP ps p)).filter fun q => decide (q.2 ≠ 0)) = rs at ri
        refine tk_ok (by (first | omega | (dsimp only; omega) | (dsimp only at *; omega))) (by decide) (by decide) fun q q0 q1 => ⟨⟨by decide, by decide, by decide⟩, ?_⟩
        refine tk_ok (by (first | omega | (dsimp only; omega) | (dsimp only at *; omega))) (by decide) (by decide) fun q4 q40 q41 => ⟨⟨by decide, by decide⟩, ix_any (by omega) (by show q4 / 7 < 2; omega) fun x hx => ?_⟩
        have hxi : ∃ i : Int, x = .int i ∧ i.natAbs ≤ 10 ^ 40 := by
          simp only [List.mem_cons, List.not_mem_nil, or_false] at hx
          rcases hx with rfl | rfl
          · exact ⟨q, rfl, Nat.le_trans (show q.natAbs ≤ 10 by omega) (by decide)⟩
          · exact ⟨_, rfl, by decide⟩
        obtain ⟨x', rfl, hx'⟩ := hxi
        have pok : PlOk 0 rs := by
          rw [← hrs]
          refine ⟨?_, fun q' mq => ?_⟩
          · refine Nat.le_trans (List.length_filter_le _ _) ?_
            rw [List.length_map]
            omega
          · obtain ⟨p, mp, rfl⟩ := List.mem_map.mp (List.mem_filter.mp mq).1
            obtain ⟨q2, m2, e2⟩ := List.mem_map.mp (hp.mem_iff.mp mp)
            refine ⟨by rw [← e2]; exact (hab q2 m2).1, ?_⟩
            exact getP_le (n := 0) ⟨by omega, hab⟩ p
        refine ⟨⟨_, rfl⟩, hk, ?_, ?_⟩
        · unfold tabD; rw [List.length_map]; exact Nat.lt_of_le_of_lt (show t.length ≤ 40 by omega) (by decide)
        · refine hN _ ⟨putW t d (.inr (x', rs)), _, _, _, _, n3 + 1 + 1, ht.put hk ⟨(fun i e => by cases e), fun s ps e => by cases e; exact ⟨hx', ⟨ri.srt, ri.nz, fun _ => rfl⟩, pok⟩⟩, ?_, fun p mp => ?_, fun x mx => putW_find hk x (.inr (hfn x mx)), fun x mx => putW_find hk x ?_, by omega, by rw [← putW_D]; rfl⟩
          · have := putW_len t d (.inr (x', rs))
            omega
          · rcases putW_mem mp with mp | ⟨_, e | ⟨q, mq, e⟩⟩
            · exact hks p mp
            · rw [e]; exact .inr dm
            · rw [← e]; exact hks q mq
          · exact (mem1 hd mx).imp id (hfs x)
    · rintro s ⟨t, o3, o4, o5, o6, n2, ht, hlt, hks, hfn, hfs, hn2, rfl⟩
      rw [List.take_length] at hfs
      exact ⟨t, o3, o4, o5, o6, n2, ht, by omega, hks, fun x mx => (List.mem_append.mp mx).elim (hfn x) (hfs x), by omega, rfl⟩
  rintro s ⟨t, o3, o4, o5, o6, n2, ht, hlt, hks, hfs, hn2, rfl⟩
  exact k t n2 ht hlt hks hfs hn2
end

/-! ### _law_same, by (int, str) -/
section
variable {P : Program} {w : World} {K : PySem.W.Frag} {mg : Str → Option Value} {base : Heap}
theorem ok__law_same (T : Tx w K mg) : ∀ k : Nat, Ok P w K mg base (k + 1) "_law_same" ["_law_found", "_law_due"] (spN K 2 .E (sameF k))
  | 0 => Ok.no T.d__law_same sc__law_same (spN_no fun ds Q h => h)
  | k + 1 => by
    have O__law_same : Ok P w K mg base (k + 1) "_law_same" ["_law_found", "_law_due"] (spN K 2 .E (sameF k)) := ok__law_same T k
    refine Ok.ofN (M := []) T.d__law_same sc__law_same rfl (by decide) fun f cdv A outer s H E hr => ⟨_, _, (pss_cons (ps_if (PW.pt (pw_or (pt_cmpR op_isN (pv 1) (pe_non) (nomark _)) (pw_or1 (pt_cmpR op_isN (pv 0) (pe_non) (nomark _)))))
 (pss_one (ps_ret (pe_and (pe_cmpR op_isN (pv 1) (pe_non) (nomark _)) (pe_one (pe_cmpR op_isN (pv 0) (pe_non) (nomark _))))))
 (pss_nil))
 (pss_cons (ps_if (PW.pt (pw_or (pt_val (pe_callB (isiK K rfl) (by rfl) T.z_isinstance boot_isi (pa_cons (pv 1) (pa_cons (pe_bltn (v := .ty "bool") (by rfl) T.z_bool boot_bool rfl) pa_nil)))) (pw_or1 (pt_val (pe_callB (isiK K rfl) (by rfl) T.z_isinstance boot_isi (pa_cons (pv 0) (pa_cons (pe_bltn (v := .ty "bool") (by rfl) T.z_bool boot_bool rfl) pa_nil)))))))
 (pss_one (ps_ret (pe_and (pe_callB (isiK K rfl) (by rfl) T.z_isinstance boot_isi (pa_cons (pv 1) (pa_cons (pe_bltn (v := .ty "bool") (by rfl) T.z_bool boot_bool rfl) pa_nil))) (pe_and (pe_callB (isiK K rfl) (by rfl) T.z_isinstance boot_isi (pa_cons (pv 0) (pa_cons (pe_bltn (v := .ty "bool") (by rfl) T.z_bool boot_bool rfl) pa_nil))) (pe_one (pe_cmpR (eqG K rfl hr.units) (pv 0) (pv 1) (nomark _)))))))
 (pss_nil))
 (pss_cons (ps_if (pt_val (pe_callB (isiTK K rfl) (by rfl) T.z_isinstance boot_isi (pa_cons (pv 1) (pa_cons (pe_tup (pa_cons (pe_bltn (v := .ty "int") (by rfl) T.z_int boot_int rfl) (pa_cons (pe_bltn (v := .ty "str") (by rfl) T.z_str boot_str rfl) (pa_nil)))) pa_nil))))
 (pss_cons (ps_if (pt_cmpR (neG K rfl hr.units) (pe_callB (isiK K rfl) (by rfl) T.z_isinstance boot_isi (pa_cons (pv 0) (pa_cons (pe_bltn (v := .ty "int") (by rfl) T.z_int boot_int rfl) pa_nil))) (pe_callB (isiK K rfl) (by rfl) T.z_isinstance boot_isi (pa_cons (pv 1) (pa_cons (pe_bltn (v := .ty "int") (by rfl) T.z_int boot_int rfl) pa_nil))) (nomark _))
 (pss_one (ps_ret (pe_bl)))
 (pss_nil))
 (pss_one (ps_ret (pe_and (pe_callB (isiTK K rfl) (by rfl) T.z_isinstance boot_isi (pa_cons (pv 0) (pa_cons (pe_tup (pa_cons (pe_bltn (v := .ty "int") (by rfl) T.z_int boot_int rfl) (pa_cons (pe_bltn (v := .ty "str") (by rfl) T.z_str boot_str rfl) (pa_nil)))) pa_nil))) (pe_one (pe_cmpR (eqG K rfl hr.units) (pv 0) (pv 1) (nomark _)))))))
 (pss_nil))
 (pss_cons (ps_if (PW.pt (pw_or (pt_cmpR (neG K rfl hr.units) (pe_callB (isiK K rfl) (by rfl) T.z_isinstance boot_isi (pa_cons (pv 1) (pa_cons (pe_bltn (v := .ty "tuple") (by rfl) T.z_tuple boot_tuple rfl) pa_nil))) (pe_callB (isiK K rfl) (by rfl) T.z_isinstance boot_isi (pa_cons (pv 0) (pa_cons (pe_bltn (v := .ty "tuple") (by rfl) T.z_tuple boot_tuple rfl) pa_nil))) (nomark _)) (pw_or1 (pt_cmpR (neG K rfl hr.units) (pe_callB (isiK K rfl) (by rfl) T.z_isinstance boot_isi (pa_cons (pv 1) (pa_cons (pe_bltn (v := .ty "list") (by rfl) T.z_list boot_list rfl) pa_nil))) (pe_callB (isiK K rfl) (by rfl) T.z_isinstance boot_isi (pa_cons (pv 0) (pa_cons (pe_bltn (v := .ty "list") (by rfl) T.z_list boot_list rfl) pa_nil))) (nomark _)))))
 (pss_one (ps_ret (pe_bl)))
 (pss_nil))
 (pss_cons (ps_if (pt_cmpR (neG K rfl hr.units) (pe_callB (lenG K rfl) (by rfl) T.z_len boot_len (pa_cons (pv 0) (pa_nil))) (pe_callB (lenG K rfl) (by rfl) T.z_len boot_len (pa_cons (pv 1) (pa_nil))) (nomark _))
 (pss_one (ps_ret (pe_bl)))
 (pss_nil))
 (pss_one (ps_ret (pe_cmpR (ninG K rfl (u65 hr.toRoom)) (pe_bl) (pe_lc (own := [("_law_one", 2), ("_law_other", 3)]) rfl sc__law_same.nd (piZ K rfl (by rfl) T.z_zip (pa_cons (pv 0) (pa_cons (pv 1) pa_nil))) (blkOk_by (own := [("_law_one", 2), ("_law_other", 3)]) (N := ["_law_found", "_law_due", "_law_one", "_law_other"]) (sc := defScope s__law_same) (by decide +kernel)) (fun _ _ _ _ _ => pgT K rfl 2 rfl (pgs_cons (pg_nameL (i := 2) sc__law_same.nd rfl rfl) (pgs_cons (pg_nameL (i := 3) sc__law_same.nd rfl rfl) (pgs_nil)))) (fun _ _ _ _ _ => pts_nil) (fun _ _ _ _ _ => pe_fn O__law_same (hr.mono (by omega)) (by rfl) (pa_cons (pv 2) (pa_cons (pv 3) (pa_nil))))) (by rfl))))))))),
 (simS_seq (simS_if (simT_or (simT_test (sim_op opA_isN (sim_var 1 (nm rfl)) (sim_non))) (simT_test (sim_op opA_isN (sim_var 0 (nm rfl)) (sim_non))))
 (simS_ret (Sim.toE (sim_andV (sim_op opA_isN (sim_var 1 (nm rfl)) (sim_non)) (sim_op opA_isN (sim_var 0 (nm rfl)) (sim_non)))))
 (simS_next))
 (simS_seq (simS_if (simT_or (simT_B (sim_isi .bool (sim_var 1 (nm rfl)))) (simT_B (sim_isi .bool (sim_var 0 (nm rfl)))))
 (simS_ret (Sim.toE (sim_andV (sim_isi .bool (sim_var 1 (nm rfl))) (sim_andV (sim_isi .bool (sim_var 0 (nm rfl))) (sim_op opA_eq (sim_var 0 (nm rfl)) (sim_var 1 (nm rfl)))))))
 (simS_next))
 (simS_seq (simS_if (simT_B (sim_isiT2 .int .str (sim_var 1 (nm rfl))))
 (simS_seq (simS_if (simT_test (sim_op opA_ne (sim_isi .int (sim_var 0 (nm rfl))) (sim_isi .int (sim_var 1 (nm rfl)))))
 (simS_ret (Sim.toE (sim_bl _)))
 (simS_next))
 (simS_ret (Sim.toE (sim_andV (sim_isiT2 .int .str (sim_var 0 (nm rfl))) (sim_op opA_eq (sim_var 0 (nm rfl)) (sim_var 1 (nm rfl)))))))
 (simS_next))
 (simS_seq (simS_if (simT_or (simT_test (sim_op opA_ne (sim_isi .tuple (sim_var 1 (nm rfl))) (sim_isi .tuple (sim_var 0 (nm rfl))))) (simT_test (sim_op opA_ne (sim_isi .list (sim_var 1 (nm rfl))) (sim_isi .list (sim_var 0 (nm rfl))))))
 (simS_ret (Sim.toE (sim_bl _)))
 (simS_next))
 (simS_seq (simS_if (simT_test (sim_op opA_ne (sim_cb caA_len (simA_cons (sim_var 0 (nm rfl)) (simA_nil))) (sim_cb caA_len (simA_cons (sim_var 1 (nm rfl)) (simA_nil)))))
 (simS_ret (Sim.toE (sim_bl _)))
 (simS_next))
 (simS_ret (Sim.toE (sim_op opA_nin (sim_bl _) (sim_lc (simI_zip (sim_var 0 (nm rfl)) (sim_var 1 (nm rfl))) (simG_tup (simGs_cons (simG_name 2 (nm rfl) (np rfl)) (simGs_cons (simG_name 3 (nm rfl) (np rfl)) (simGs_nil)))) (simT_yes) (sim_call (simA_cons (sim_var 2 (nm rfl)) (simA_cons (sim_var 3 (nm rfl)) (simA_nil)))) (inv' rfl) (nmv rfl) (npv rfl)))))))))), ?_⟩
    intro ds Q hl hF
    match ds, hl, hF with
    | [a, b], _, hF =>
    obtain ⟨rfl, hd, q⟩ := hF
    cases a with
    | none => exact q
    | bool x =>
      show Q (.bool (decide (x = x)))
      rw [decide_eq_true rfl]
      exact q
    | int x =>
      show Q (.bool (decide (x = x)))
      rw [decide_eq_true rfl]
      exact q
    | str x =>
      show Q (.bool (decide (x = x)))
      rw [decide_eq_true rfl]
      exact q
    | dict x => cases k <;> exact hd.elim
    | list xs =>
      cases k with
      | zero => exact hd.elim
      | succ k =>
      obtain ⟨hx, hd⟩ := hd
      refine ifn (by simp) ?_
      refine ⟨by rw [zip_len, Nat.min_self]; exact hx, lcD_ind (fun i acc s => acc = List.replicate i (.bool true) ∧ s = { δ := [some (.list xs), some (.list xs), none, none], n := 0 }) ⟨rfl, rfl⟩ ?_ ?_⟩
      · rintro i d acc s N hi ⟨rfl, rfl⟩ hN
        obtain ⟨x, y, e1, e2, rfl⟩ := prD_get hi
        rw [e1] at e2
        cases e2
        refine ⟨rfl, rfl, hd x (List.mem_of_getElem? e1), ?_⟩
        exact hN _ _ ⟨by rw [← List.replicate_succ'], rfl⟩
      · rintro acc s ⟨rfl, rfl⟩
        exact nin_true q
    | tuple xs =>
      cases k with
      | zero => exact hd.elim
      | succ k =>
      obtain ⟨hx, hd⟩ := hd
      refine ifn (by simp) ?_
      refine ⟨by rw [zip_len, Nat.min_self]; exact hx, lcD_ind (fun i acc s => acc = List.replicate i (.bool true) ∧ s = { δ := [some (.tuple xs), some (.tuple xs), none, none], n := 0 }) ⟨rfl, rfl⟩ ?_ ?_⟩
      · rintro i d acc s N hi ⟨rfl, rfl⟩ hN
        obtain ⟨x, y, e1, e2, rfl⟩ := prD_get hi
        rw [e1] at e2
        cases e2
        refine ⟨rfl, rfl, hd x (List.mem_of_getElem? e1), ?_⟩
        exact hN _ _ ⟨by rw [← List.replicate_succ'], rfl⟩
      · rintro acc s ⟨rfl, rfl⟩
        exact nin_true q
end

/-! ### a table shown; a lamed table; the law's look -/
theorem dk_all {h1 h2 t1 t2 : Nat} : ∀ {kvs : List (D × D)}, (∀ kv ∈ kvs, Bt h1 t1 kv.1 ∧ Bt h2 t2 kv.2) → PyData.showableKv kvs = true ∧ PyData.depthKv kvs ≤ max h1 h2 ∧ (Str.join ", " (PyData.shownKv kvs)).length ≤ kvs.length * (t1 + t2 + 4) := by
  intro kvs hh
  have main : PyData.showableKv kvs = true ∧ PyData.depthKv kvs ≤ max h1 h2 ∧ piled (PyData.shownKv kvs) ≤ kvs.length * (t1 + t2 + 4) := by
    induction kvs with
    | nil => exact ⟨rfl, Nat.zero_le _, by simp [PyData.shownKv, piled]⟩
    | cons kv r ih =>
      obtain ⟨k, v⟩ := kv
      obtain ⟨i1, i2, i3⟩ := ih fun kv m => hh kv (List.mem_cons_of_mem _ m)
      obtain ⟨a, b⟩ := hh (k, v) (List.mem_cons_self ..)
      refine ⟨?_, ?_, ?_⟩
      · simp only [PyData.showableKv, (bd_lay _ a.b).2, (bd_lay _ b.b).2, i1, Bool.and_self]
      · simp only [PyData.depthKv]
        have := a.h
        have := b.h
        simp only at *
        omega
      · simp only [PyData.shownKv, piled_cons, List.length_cons]
        rw [strLen_app, strLen_app]
        have e : (((": " : String) : Str)).length = 2 := by decide +kernel
        have h3 := shown_le _ a.b
        have h4 := shown_le _ b.b
        have h5 := a.t
        have h6 := b.t
        rw [e, Nat.succ_mul]
        simp only at *
        omega
  exact ⟨main.1, main.2.1, Nat.le_trans (join_le _) main.2.2⟩
theorem repr_twoW {d : D} {kvs : List (D × D)} {Q : D → Prop} (hd : Bt 60 1000000 d) (hkv : ∀ kv ∈ kvs, Bt 0 251 kv.1 ∧ Bt 3 8000 kv.2) (hl : kvs.length ≤ 100) (q : Q (.str (PyData.list [d, .dict kvs]).shown)) : reprTD [.list [d, .dict kvs]] Q := by
  obtain ⟨i1, i2, i3⟩ := dk_all (h1 := 0) (t1 := 251) (h2 := 3) (t2 := 8000) hkv
  refine ⟨?_, ?_, ?_, q⟩
  · have := hd.h
    simp only [PyData.depth, PyData.depthAll]
    omega
  · simp only [PyData.showable, PyData.showableAll, (bd_lay _ hd.b).2, i1, Bool.and_self]
  · have e := textFrom_le (PyData.shownAll [d, .dict kvs]) 0 "["
    simp only [PyData.shown, listText]
    rw [strLen_app]
    have e1 : ((("[" : String) : Str)).length = 1 := by decide +kernel
    have e2 : ((("]" : String) : Str)).length = 1 := by decide +kernel
    have e3 : ((("{" : String) : Str)).length = 1 := by decide +kernel
    have e4 : ((("}" : String) : Str)).length = 1 := by decide +kernel
    have h4 := shown_le _ hd.b
    have h6 := hd.t
    rw [e1] at e
    have e5 : piled (PyData.shownAll [d, .dict kvs]) = d.shown.length + 2 + ((PyData.dict kvs).shown.length + 2) := by
      simp only [PyData.shownAll, piled_cons, piled_nil, Nat.add_zero]
    have e6 : (PyData.dict kvs).shown.length = 1 + (Str.join ", " (PyData.shownKv kvs)).length + 1 := by
      simp only [PyData.shown, dictText]
      rw [strLen_app, strLen_app, e3, e4]
    rw [e5, e6] at e
    have h7 : kvs.length * (251 + 8000 + 4) ≤ 100 * (251 + 8000 + 4) := Nat.mul_le_mul_right _ hl
    exact Nat.le_trans (show _ ≤ 3000000 by omega) (by decide)
theorem row_bt {s : Int} {ps : Pl} (h : s.natAbs ≤ 10 ^ 40) (hp : PlOk 0 ps) : Bt 3 8000 (rowD s ps) := by
  have i250' : ∀ {i : Int}, i.natAbs ≤ vb 0 → ∀ {h : Nat}, Bt h 251 (.int i) := fun {i} hi {h} => Bt.int (Nat.lt_of_le_of_lt hi (by decide +kernel))
  have h1 : BtL 1 ((ps.map ipT).length * (509 + 2)) (ps.map ipT) := BtL.all fun d m => by
    obtain ⟨q, mq, rfl⟩ := List.mem_map.mp m
    exact (Bt.tup (BtL.cons (i250' (hp.abs q mq).1) (BtL.cons (i250' (hp.abs q mq).2) (BtL.nil (t := 0))))).to (Nat.le_refl _) (by omega)
  have hl := hp.len
  have hm : (ps.map ipT).length * (509 + 2) ≤ 10 * (509 + 2) := Nat.mul_le_mul_right _ (by rw [List.length_map]; omega)
  exact (Bt.tup (BtL.cons (i250' (h := 2) (Nat.le_trans h (by decide +kernel))) (BtL.cons (Bt.tup h1) (BtL.nil (t := 0))))).to (Nat.le_refl _) (by omega)
theorem tab_bt {t : Tab} (ht : TabOk t) (hk : ∀ p ∈ t, Bt 0 251 p.1) : ∀ kv ∈ tabD t, Bt 0 251 kv.1 ∧ Bt 3 8000 kv.2 := fun kv m => by
  obtain ⟨⟨k, v⟩, mp, rfl⟩ := List.mem_map.mp m
  refine ⟨hk _ mp, ?_⟩
  cases v with
  | inl i => exact (Bt.int (h := 3) (Nat.lt_of_le_of_lt (ht.int k i mp) (by decide +kernel))).to (Nat.le_refl _) (by omega)
  | inr u => exact row_bt (ht.row k u.1 u.2 mp).1 (ht.row k u.1 u.2 mp).2.2
theorem drop_D (k : D) (t : Tab) : dropD (tabD t) k = tabD (t.filter fun p => !keyIs p.1 k) := by
  unfold dropD tabD
  rw [List.filter_map]
  rfl
theorem TabOk.filter {t : Tab} (h : TabOk t) (f : D × Wv → Bool) : TabOk (t.filter f) := ⟨fun p m => h.key p (List.mem_filter.mp m).1, fun k i m => h.int k i (List.mem_filter.mp m).1, fun k s ps m => h.row k s ps (List.mem_filter.mp m).1⟩
theorem ifS_either {c : DB} {a b : DSt} {E : DEnds} {s : S} {k : Bool} (h : Tst c s k) (h1 : k = true → a E s) (h2 : k = false → b E s) : dIfS c a b E s := h _ (by
  cases k with
  | true => exact ifp rfl (h1 rfl)
  | false => exact ifn Bool.false_ne_true (h2 rfl))
def lmF : DFP := fun ds n Q => ∃ (t : Tab) (nums rows : List D), ds = [.dict (tabD t), .dict (envKV nums rows [])] ∧ TabOk t ∧ t.length ≤ 40 ∧ Lets false nums ∧ Lets true rows ∧ (∀ p ∈ t, p.1 ∈ nums ∨ p.1 ∈ rows) ∧ (∀ x ∈ nums ++ rows, (findW t x).isSome = true) ∧ n + 2 ≤ penLim ∧
  ∀ (t' : Tab) (n' : Nat), TabOk t' → t'.length ≤ 41 → (∀ p ∈ t', p.1 ∈ nums ∨ p.1 ∈ rows) → n' ≤ n + 2 → Q (.dict (tabD t')) n'
def rtF : DF := fun ds Q => ∃ (t : Tab) (x : TR) (due : D), ds = [dTR x, .dict (tabD t), due] ∧ TabOk t ∧ t.length ≤ 41 ∧ (∀ p ∈ t, Bt 0 251 p.1) ∧ okTR 6 x ∧ Bt 60 1000000 (dTR x) ∧ PV t x due ∧ Q (.bool true)
theorem pv_uniq {t : Tab} {x : TR} {d e : D} (h : PV t x d) (h' : PV t x e) : d = e := by
  cases x with
  | inl a => exact (show d = numW (ev t a) from h).trans (show e = numW (ev t a) from h').symm
  | inr r =>
    have h : RowV (evR t r) d := h
    have h' : RowV (evR t r) e := h'
    cases q : evR t r with
    | none =>
      rw [q] at h h'
      exact (show d = .none from h).trans (show e = .none from h').symm
    | some u =>
      rw [q] at h h'
      obtain ⟨ps, rfl, h1⟩ := h
      obtain ⟨qs, rfl, h2⟩ := h'
      rw [h1.uniq h2]
theorem pv_dat {t : Tab} (ht : TabOk t) {n : Nat} {x : TR} {d : D} (hx : okTR n x) (hn : n ≤ 9) (h : PV t x d) : dat 3 d := by
  cases x with
  | inl a =>
    have h : d = numW (ev t a) := h
    subst h
    cases ev t a <;> trivial
  | inr r =>
    have h : RowV (evR t r) d := h
    cases q : evR t r with
    | none =>
      rw [q] at h
      have h : d = .none := h
      subst h
      trivial
    | some u =>
      rw [q] at h
      obtain ⟨ps, rfl, h1⟩ := h
      obtain ⟨_, qs, h3, h4⟩ := (ev_ok ht n).2 r hx u q
      rw [h1.uniq h3]
      have hl := h4.len
      refine ⟨by show 2 ≤ sizeLine; rw [sizeLine_eq]; omega, fun d m => ?_⟩
      simp only [List.mem_cons, List.not_mem_nil, or_false] at m
      rcases m with rfl | rfl
      · trivial
      · refine ⟨by rw [List.length_map]; exact Nat.le_trans (show qs.length ≤ 19 by omega) (by decide), fun d m => ?_⟩
        obtain ⟨q', _, rfl⟩ := List.mem_map.mp m
        refine ⟨by show 2 ≤ sizeLine; rw [sizeLine_eq]; omega, fun d m => ?_⟩
        simp only [List.mem_cons, List.not_mem_nil, or_false] at m
        rcases m with rfl | rfl <;> trivial
section
variable {P : Program} {w : World} {K : PySem.W.Frag} {mg : Str → Option Value} {base : Heap}
theorem ok__law_right (T : Tx w K mg) (O_worth_of : Ok P w K mg base 12 "worth_of" ["thing", "table", "notions"] (spN K 3 .E woF)) : Ok P w K mg base 13 "_law_right" ["_law_thing", "_law_table", "_law_due"] (spN K 3 .E rtF) := by
  have O__law_same : Ok P w K mg base 6 "_law_same" ["_law_found", "_law_due"] (spN K 2 .E (sameF 5)) := ok__law_same T 5
  refine Ok.ofN (M := []) T.d__law_right sc__law_right rfl (by decide) fun f cdv A outer s H E hr => ⟨_, _, (pss_cons (ps_set (i := 3) sc__law_right.nd rfl (Or.inl rfl) (pe_callB (reprT K rfl hr.gd (u65 hr.toRoom)) (by rfl) T.z_repr boot_repr (pa_cons (pe_lst (pa_cons (pv 0) (pa_cons (pv 1) (pa_nil)))) (pa_nil))))
 (pss_cons (ps_set (i := 4) sc__law_right.nd rfl (Or.inl rfl) (pe_lst (pa_cons (pe_fn O_worth_of (hr.mono (by omega)) (by rfl) (pa_cons (pv 0) (pa_cons (pv 1) (pa_cons (pe_dnewK) (pa_nil))))) (pa_cons (pe_fn O_worth_of (hr.mono (by omega)) (by rfl) (pa_cons (pv 0) (pa_cons (pv 1) (pa_cons (pe_dnewK) (pa_nil))))) (pa_nil)))))
 (pss_one (ps_ret (pe_and (pe_fn O__law_same (hr.mono (by omega)) (by rfl) (pa_cons (pv 4) (pa_cons (pe_lst (pa_cons (pv 2) (pa_cons (pv 2) (pa_nil)))) (pa_nil)))) (pe_one (pe_cmpR (eqG K rfl hr.units) (pe_callB (reprT K rfl hr.gd (u65 hr.toRoom)) (by rfl) T.z_repr boot_repr (pa_cons (pe_lst (pa_cons (pv 0) (pa_cons (pv 1) (pa_nil)))) (pa_nil))) (pv 3) (nomark _)))))))),
 (simS_seq (simS_set 3 (nm rfl) (np rfl) (sim_cb caA_reprT (simA_cons (sim_lst (by decide) (simA_cons (sim_var 0 (nm rfl)) (simA_cons (sim_var 1 (nm rfl)) (simA_nil)))) (simA_nil))))
 (simS_seq (simS_set 4 (nm rfl) (np rfl) (sim_lst (by decide) (simA_cons (sim_call (simA_cons (sim_var 0 (nm rfl)) (simA_cons (sim_var 1 (nm rfl)) (simA_cons (sim_dnew) (simA_nil))))) (simA_cons (sim_call (simA_cons (sim_var 0 (nm rfl)) (simA_cons (sim_var 1 (nm rfl)) (simA_cons (sim_dnew) (simA_nil))))) (simA_nil)))))
 (simS_ret (Sim.toE (sim_andV (sim_call (simA_cons (sim_var 4 (nm rfl)) (simA_cons (sim_lst (by decide) (simA_cons (sim_var 2 (nm rfl)) (simA_cons (sim_var 2 (nm rfl)) (simA_nil)))) (simA_nil)))) (sim_op opA_eq (sim_cb caA_reprT (simA_cons (sim_lst (by decide) (simA_cons (sim_var 0 (nm rfl)) (simA_cons (sim_var 1 (nm rfl)) (simA_nil)))) (simA_nil))) (sim_var 3 (nm rfl)))))))), ?_⟩
  rintro ds Q hl ⟨t, x, due, rfl, ht, hlt, hkb, hx, hb, hd, k⟩
  have hl100 : (tabD t).length ≤ 100 := by unfold tabD; rw [List.length_map]; omega
  refine seqSetX (d := .str (PyData.list [dTR x, .dict (tabD t)]).shown) (fun Q q => show reprTD [.list [dTR x, .dict (tabD t)]] (fun d => Q d _) from repr_twoW hb (tab_bt ht hkb) hl100 q) ?_
  refine seqSetX (d := .list [due, due]) (fun Q q => ⟨t, x, ht, hx, rfl, fun d1 h1 => ⟨t, x, ht, hx, rfl, fun d2 h2 => by rw [pv_uniq h1 hd, pv_uniq h2 hd]; exact q⟩⟩) ?_
  refine ⟨rfl, ⟨by show 2 ≤ sizeLine; rw [sizeLine_eq]; omega, fun d m => ?_⟩, ?_⟩
  · have := pv_dat ht hx (by decide) hd
    simp only [List.mem_cons, List.not_mem_nil, or_false] at m
    rcases m with rfl | rfl <;> exact this
  refine (show reprTD [.list [dTR x, .dict (tabD t)]] (fun d => eqD d (.str (PyData.list [dTR x, .dict (tabD t)]).shown) fun z => Q z) from repr_twoW hb (tab_bt ht hkb) hl100 ?_)
  show Q (.bool (decide ((PyData.list [dTR x, .dict (tabD t)]).shown = (PyData.list [dTR x, .dict (tabD t)]).shown)))
  rw [decide_eq_true rfl]
  exact k
theorem ok__law_lamed (T : Tx w K mg) (O__law_take : Ok P w K mg base 2 "_law_take" ["_law_pen", "_law_many"] (spP K 1 .E takeF)) : Ok P w K mg base 3 "_law_lamed" ["_law_pen", "_law_table", "_law_env"] (spP K 2 .E lmF) := by
  refine Ok.ofP (M := [3]) T.d__law_lamed sc__law_lamed rfl (by decide) (by decide) fun f cdv A outer s H E p c hr => ⟨_, _, (pss_cons (ps_set (i := 3) sc__law_lamed.nd rfl (Or.inl rfl) (pe_callTy (dictG K rfl rfl) (by rfl) T.z_dict boot_dict (pa_cons (pv 1) (pa_nil))))
 (pss_cons (ps_set (i := 4) sc__law_lamed.nd rfl (Or.inl rfl) (pe_op (addG K rfl) (pe_ix (ixG K rfl (u65 hr.toRoom)) (pv 2) (pe_str) (fun _ _ => rfl)) (pe_ix (ixG K rfl (u65 hr.toRoom)) (pv 2) (pe_str) (fun _ _ => rfl))))
 (pss_cons (ps_set (i := 5) sc__law_lamed.nd rfl (Or.inl rfl) (pe_ix (ixG K rfl (u65 hr.toRoom)) (pv 4) (pe_fn O__law_take (hr.mono (by omega)) (by rfl) (pa_cons (pv 0) (pa_cons (pe_callB (lenG K rfl) (by rfl) T.z_len boot_len (pa_cons (pv 4) (pa_nil))) (pa_nil)))) (fun _ _ => rfl)))
 (pss_cons (ps_set (i := 6) sc__law_lamed.nd rfl (Or.inl rfl) (pe_fn O__law_take (hr.mono (by omega)) (by rfl) (pa_cons (pv 0) (pa_cons (pe_int) (pa_nil)))))
 (pss_cons (ps_if (pt_cmpR (eqG K rfl hr.units) (pv 6) (pe_int) (nomark _))
 (pss_one (ps_expr (pe_dpop1 (pv 3) (pv 5) ⟨by rfl, by rfl, by rfl, by rfl⟩)))
 (pss_one (ps_if (pt_cmpR (eqG K rfl hr.units) (pv 6) (pe_int) (nomark _))
 (pss_one (ps_dput (lt_u1 (u65 hr.toRoom)) (pv 3) (pv 5) (pe_ifExp (pt_cmpR (inG K rfl (u65 hr.toRoom)) (pv 5) (pe_ix (ixG K rfl (u65 hr.toRoom)) (pv 2) (pe_str) (fun _ _ => rfl)) (by rfl)) (pe_tupZ (pa_cons (pe_int) (pa_cons (pe_tupZ (pa_cons (pe_tupZ (pa_cons (pe_int) (pa_cons (pe_int) (pa_nil)))) (pa_nil))) (pa_nil)))) (pe_int)) rfl))
 (pss_nil))))
 (pss_one (ps_ret (pv 3)))))))),
 (simS_seq (simS_setM 3 (ym rfl) (nb rfl) (sim_cb caA_dict (simA_cons (sim_var 1 (nm rfl)) (simA_nil))))
 (simS_seq (simS_set 4 (nm rfl) (np rfl) (sim_op opA_add (opA_ix (sim_var 2 (nm rfl)) (sim_str _)) (opA_ix (sim_var 2 (nm rfl)) (sim_str _))))
 (simS_seq (simS_set 5 (nm rfl) (np rfl) (opA_ix (sim_var 4 (nm rfl)) (sim_callP (by simp) rfl (simA_cons (sim_cb caA_len (simA_cons (sim_var 4 (nm rfl)) (simA_nil))) (simA_nil)))))
 (simS_seq (simS_set 6 (nm rfl) (np rfl) (sim_callP (by simp) rfl (simA_cons (sim_int _) (simA_nil))))
 (simS_cut (simS_if (simT_test (sim_op opA_eq (sim_var 6 (nm rfl)) (sim_int _)))
 (simS_drop (sim_dpop 3 (ym rfl) (sim_var 5 (nm rfl))))
 (simS_if (simT_test (sim_op opA_eq (sim_var 6 (nm rfl)) (sim_int _)))
 (simS_setK 3 (ym rfl) (sim_if (simT_test (sim_op opA_in (sim_var 5 (nm rfl)) (opA_ix (sim_var 2 (nm rfl)) (sim_str _)))) (sim_tup (by decide) (simA_cons (sim_int _) (simA_cons (sim_tup (by decide) (simA_cons (sim_tup (by decide) (simA_cons (sim_int _) (simA_cons (sim_int _) (simA_nil)))) (simA_nil))) (simA_nil)))) (sim_int _)) (sim_var 5 (nm rfl)))
 (simS_next)))
 (simS_retM 3 (ym rfl) (nb rfl))))))), ?_⟩
  rintro ds m Q hl ⟨t, nums, rows, rfl, ht, hlt, hn, hrw, hks, hfs, hm, k⟩
  have h20 := hn.2.1
  have r20 := hrw.2.1
  have hp : 0 < nums.length := List.length_pos_iff.mpr hn.1
  refine ⟨rfl, ⟨_, kv_n, ⟨_, kv_r, ⟨Nat.le_trans (show nums.length + rows.length ≤ 40 by omega) (by decide), ?_⟩⟩⟩⟩
  refine tk_ok (by (first | omega | (dsimp only; omega) | (dsimp only at *; omega))) (by rw [List.length_append]; omega) (by rw [List.length_append]; omega) fun r r0 r1 => ix_any r0 r1 fun x hx => ?_
  refine tk_ok (by (first | omega | (dsimp only; omega) | (dsimp only at *; omega))) (by decide) (by decide) fun way w0 w1 => ?_
  have hk : isKey x = true := by
    rcases List.mem_append.mp hx with h | h
    · exact isIS_key (hn.2.2 x h).2.1
    · exact isIS_key (hrw.2.2 x h).2.1
  refine ⟨fun s => ∃ (t' : Tab), TabOk t' ∧ t'.length ≤ 41 ∧ (∀ p ∈ t', p.1 ∈ nums ∨ p.1 ∈ rows) ∧ s = { δ := [none, some (.dict (tabD t)), some (.dict (envKV nums rows [])), some (.dict (tabD t')), some (.list (nums ++ rows)), some x, some (.int way)], n := m + 1 + 1 }, ?_, ?_⟩
  · refine ifS_either (k := decide (way = 0)) (fun Q q => q) (fun h => ?_) (fun h => ?_)
    · refine ⟨⟨_, rfl⟩, hk, ?_⟩
      have hf := findW_D x t
      have h2 := hfs x hx
      cases e : findW t x with
      | none => rw [e] at h2; cases h2
      | some v =>
        rw [e] at hf
        refine ⟨wD v, hf, ⟨t.filter fun p => !keyIs p.1 x, ht.filter _, Nat.le_trans (List.length_filter_le _ _) (by omega), fun p m => hks p (List.mem_filter.mp m).1, by rw [← drop_D]; rfl⟩⟩
    · refine ifS_either (k := decide (way = 1)) (fun Q q => q) (fun h => ?_) (fun h => ?_)
      · have put : ∀ v : Wv, ((∀ i, v = .inl i → i.natAbs ≤ 10 ^ 40) ∧ ∀ s ps, v = .inr (s, ps) → s.natAbs ≤ 10 ^ 40 ∧ RowIs (getP ps) ps ∧ PlOk 0 ps) → dSetK 3 (dC (wD v)) (dV 5) { nx := fun s => ∃ (t' : Tab), TabOk t' ∧ t'.length ≤ 41 ∧ (∀ p ∈ t', p.1 ∈ nums ∨ p.1 ∈ rows) ∧ s = { δ := [none, some (.dict (tabD t)), some (.dict (envKV nums rows [])), some (.dict (tabD t')), some (.list (nums ++ rows)), some x, some (.int way)], n := m + 1 + 1 }, rt := fun z s => Q z s.n }
            { δ := [none, some (.dict (tabD t)), some (.dict (envKV nums rows [])), some (.dict (tabD t)), some (.list (nums ++ rows)), some x, some (.int way)], n := m + 1 + 1 } := fun v hv => by
          refine ⟨⟨_, rfl⟩, hk, ?_, ?_⟩
          · unfold tabD; rw [List.length_map]; exact Nat.lt_of_le_of_lt hlt (by decide)
          · refine ⟨putW t x v, ht.put hk hv, Nat.le_trans (putW_len t x v) (by omega), fun p mp => ?_, by rw [← putW_D]; rfl⟩
            rcases putW_mem mp with mp | ⟨_, e | ⟨q, mq, e⟩⟩
            · exact hks p mp
            · rw [e]; exact List.mem_append.mp hx
            · rw [← e]; exact hks q mq
        have one : (PyData.tuple [.int 3, .tuple [.tuple [.int 0, .int 1]]]) = wD (.inr (3, [(0, 1)])) := rfl
        refine ⟨_, kv_n, ?_⟩
        have fl : ∀ {y : D}, isIS y = true → flatD y = true := fun {y} h => by cases y <;> first | rfl | cases h
        have fx : flatD x = true := by
          rcases List.mem_append.mp hx with h | h
          · exact fl (hn.2.2 x h).2.1
          · exact fl (hrw.2.2 x h).2.1
        refine (show _ ∨ _ from Or.inl ⟨fx, List.all_eq_true.mpr fun y my => fl (hn.2.2 y my).2.1, ?_⟩)
        refine ite_either (b := xor false (nums.any fun z => eqF z x)) (fun h => ?_) (fun h => ?_)
        · exact put (.inr (3, [(0, 1)])) ⟨(fun i e => by cases e), fun s ps e => by cases e; exact ⟨by decide, ⟨List.pairwise_singleton _ _, (fun q m => by rw [List.mem_singleton.mp m]; decide), fun _ => rfl⟩, ⟨by decide, fun q m => by rw [List.mem_singleton.mp m]; exact ⟨Nat.zero_le _, vb_pos 0⟩⟩⟩⟩
        · exact put (.inl 4) ⟨(fun i e => by cases e; decide), fun s ps e => by cases e⟩
      · exact ⟨t, ht, by omega, hks, rfl⟩
  · rintro s ⟨t', h1, h2, h3, rfl⟩
    exact k t' _ h1 h2 h3 (show m + 1 + 1 ≤ m + 2 by omega)
end

/-! ### the law -/
section
variable {P : Program} {w : World} {K : PySem.W.Frag} {mg : Str → Option Value} {base : Heap}
theorem name_let {r : Bool} {z : Str} (h : isName (.str z) = true) : Bt 0 251 (.str z) ∧ isIS (.str z) = true ∧ isLetter r (.str z) = true := by
  have hz := name_w h
  refine ⟨(Bt.str hz.ok hz.2.1).to (Nat.le_refl _) (by omega), rfl, ?_⟩
  simp only [isLetter, h, Bool.true_or]
theorem ok__law_gletters (T : Tx w K mg) (O__law_take : Ok P w K mg base 2 "_law_take" ["_law_pen", "_law_many"] (spP K 1 .E takeF)) (O__law_names : Ok P w K mg base 3 "_law_names" ["_law_pen", "_law_many"] (spP K 1 .E (namesG 100))) : Ok P w K mg base 4 "_law_gletters" ["_law_pen"] (spP K 0 .F fun ds n Q => ds = [] ∧ n + 200 ≤ penLim ∧ ∀ (nums rows : List D) (n' : Nat), (Lets false nums ∧ ∃ i : Int, PyData.int i ∈ nums) → Lets true rows → n' ≤ n + 200 → Q (.dict (envKV nums rows [])) n') := by
  refine Ok.ofP (M := []) T.d__law_gletters sc__law_gletters rfl (by decide) (by decide) fun f cdv A outer s H E p c hr => ⟨_, _, (pss_cons (ps_set (i := 1) sc__law_gletters.nd rfl (Or.inl rfl) (pe_fn O__law_names (hr.mono (by omega)) (by rfl) (pa_cons (pv 0) (pa_cons (pe_int) (pa_nil)))))
 (pss_cons (ps_set (i := 2) sc__law_gletters.nd rfl (Or.inl rfl) (pe_lst (pa_cons (pe_ix (ixG K rfl (u65 hr.toRoom)) (pv 1) (pe_int) (fun _ _ => rfl)) (pa_cons (pe_ix (ixG K rfl (u65 hr.toRoom)) (pv 1) (pe_int) (fun _ _ => rfl)) (pa_cons (pe_int) (pa_cons (pe_op (addG K rfl) (pe_int) (pe_fn O__law_take (hr.mono (by omega)) (by rfl) (pa_cons (pv 0) (pa_cons (pe_int) (pa_nil))))) (pa_cons (pe_str) (pa_cons (pe_str) (pa_nil)))))))))
 (pss_one (ps_ret (pe_disp (pps_cons pe_str (pv 2) (pps_cons pe_str (pe_lst (pa_cons (pe_ix (ixG K rfl (u65 hr.toRoom)) (pv 1) (pe_int) (fun _ _ => rfl)) (pa_cons (pe_int) (pa_cons (pe_str) (pa_cons (pe_int) (pa_nil)))))) (pps_cons pe_str (pe_dnewK) (pps_nil)))) rfl rfl (by simp) (by decide)))))),
 (simS_seq (simS_set 1 (nm rfl) (np rfl) (sim_callP (by simp) rfl (simA_cons (sim_int _) (simA_nil))))
 (simS_seq (simS_set 2 (nm rfl) (np rfl) (sim_lst (by decide) (simA_cons (opA_ix (sim_var 1 (nm rfl)) (sim_int _)) (simA_cons (opA_ix (sim_var 1 (nm rfl)) (sim_int _)) (simA_cons (sim_int _) (simA_cons (sim_op opA_add (sim_int _) (sim_callP (by simp) rfl (simA_cons (sim_int _) (simA_nil)))) (simA_cons (sim_str _) (simA_cons (sim_str _) (simA_nil)))))))))
 (simS_ret (sim_disp (by decide +kernel) (by decide) (simP_cons (sim_var 2 (nm rfl)) (simP_cons (sim_lst (by decide) (simA_cons (opA_ix (sim_var 1 (nm rfl)) (sim_int _)) (simA_cons (sim_int _) (simA_cons (sim_str _) (simA_cons (sim_int _) (simA_nil)))))) (simP_cons (sim_dnew) (simP_nil)))))))), ?_⟩
  rintro ds m Q hl ⟨rfl, hm, k⟩
  refine ⟨5, rfl, by decide, by (first | omega | (dsimp only; omega) | (dsimp only at *; omega)), fun xs n1 hx hw hn1 => ?_⟩
  have hn1 : n1 ≤ m + 100 := hn1
  match xs, hx with
  | [a, b, c, d, e], _ =>
    have hw' : ∀ (r : Bool), ∀ x ∈ [a, b, c, d, e], Bt 0 251 x ∧ isIS x = true ∧ isLetter r x = true := fun r x hx => by
      obtain ⟨z, rfl, hz⟩ := hw x hx
      exact name_let hz
    refine ix_ok 0 rfl rfl (ix_ok 1 rfl rfl (tk_ok (by (first | omega | (dsimp only; omega) | (dsimp only at *; omega))) (by decide) (by decide) fun q q0 q1 => ix_ok 2 rfl rfl ?_))
    refine k [a, b, .int 0, .int (3 + q), .str (Str.ofString "left"), .str (Str.ofString "own")] [c, .int 1, .str (Str.ofString "given"), .int 40] _ ⟨⟨by simp, by simp, fun x hx => ?_⟩, 0, by simp⟩ ⟨by simp, by simp, fun x hx => ?_⟩ (by (first | omega | (dsimp only; omega) | (dsimp only at *; omega)))
    · simp only [List.mem_cons, List.not_mem_nil, or_false] at hx
      rcases hx with rfl | rfl | rfl | rfl | rfl | rfl
      · exact hw' _ _ (by simp)
      · exact hw' _ _ (by simp)
      · exact ⟨Bt.int (by decide), rfl, by decide⟩
      · refine ⟨Bt.int (Nat.lt_of_lt_of_le (show (3 + q).natAbs < 10 ^ 2 by omega) (Nat.pow_le_pow_right (by decide) (by decide))), rfl, ?_⟩
        simp only [isLetter]
        exact decide_eq_true (by omega)
      · exact ⟨Bt.lit (by decide +kernel), rfl, by decide +kernel⟩
      · exact ⟨Bt.lit (by decide +kernel), rfl, by decide +kernel⟩
    · simp only [List.mem_cons, List.not_mem_nil, or_false] at hx
      rcases hx with rfl | rfl | rfl | rfl
      · exact hw' _ _ (by simp)
      · exact ⟨Bt.int (by decide), rfl, by decide⟩
      · exact ⟨Bt.lit (by decide +kernel), rfl, by decide +kernel⟩
      · exact ⟨Bt.int (by decide), rfl, by decide⟩
theorem ok_law {fa : Addr} {fda : FuncData} (T : Tx w K mg) (F : Fun K "law" "law" s_law fa fda) : FnG P w K mg base 60 fa fda ["_law_script"] (spLaw K) := by
  obtain ⟨Cc, CL⟩ := T.c_Look
  have O__law_open : Ok P w K mg base 1 "_law_open" ["_law_script"] (spOpen K) := ok__law_open T
  have O__law_take : Ok P w K mg base 2 "_law_take" ["_law_pen", "_law_many"] (spP K 1 .E takeF) := ok_takeP (ok__law_take T (ok__law_spread T))
  have O__law_gnumber : Ok P w K mg base 3 "_law_gnumber" ["_law_pen"] (spP K 0 .E (numF 100)) := ok__law_gnumber T O__law_take
  have O_reckon := ok_reckon (P := P) (w := w) (base := base) T CL (ok_parts2 T (ok_kinds_of T)) (ok_sort_of T) (ok_letter_at T CL (ok_is_whole T)) (ok_reckon_number T CL (ok_number_at T)) (ok_reckon_row T CL (ok_made_row T)) 6 (by omega)
  have O_worth_of : Ok P w K mg base 12 "worth_of" ["thing", "table", "notions"] (spN K 3 .E woF) := ok_worth_of T CL O_reckon
  have O__law_right : Ok P w K mg base 13 "_law_right" ["_law_thing", "_law_table", "_law_due"] (spN K 3 .E rtF) := ok__law_right T O_worth_of
  have O__law_gtable := ok__law_gtable (P := P) (w := w) (base := base) T O__law_take O__law_gnumber
  have O__law_lamed := ok__law_lamed (P := P) (w := w) (base := base) T O__law_take
  have O__law_gworth : Ok P w K mg base 12 "_law_gworth" gWp (spN K 2 .E (gwF 6)) := (ok_gw T 6 (by omega)).1.mono (by omega)
  have O__law_gfull : Ok P w K mg base 12 "_law_gfull" gRp (spN K 2 .E (gfF 6)) := (ok__law_gfull T (n := 6) (by omega)).mono (by omega)
  have O__law_gterm : Ok P w K mg base 12 "_law_gterm" gPs (spP K 2 .E (upF gtW 4)) := (ok_gtW T O__law_take O__law_gnumber 4).1.mono (by omega)
  have O__law_grow : Ok P w K mg base 12 "_law_grow" gPs (spP K 2 .E (upF grW 4)) := (ok_gtW T O__law_take O__law_gnumber 4).2.mono (by omega)
  have O__law_gletters := ok__law_gletters (P := P) (w := w) (base := base) T O__law_take (ok__law_namesG T O__law_take)
  refine Ok.ofLaw (M := []) F sc_law (by decide) fun f cdv A outer s H E hr => ⟨_, (pss_cons (ps_set (i := 1) sc_law.nd rfl (Or.inl rfl) (pe_fn O__law_open (hr.mono (by omega)) (by rfl) (pa_cons (pv 0) pa_nil)))
 (pss_cons (ps_for PassesOwn.never rfl (pi_range1 (by rfl) T.z_range (pa_cons (pe_int) (pa_nil))) (pg_nameL (i := 2) sc_law.nd rfl rfl)
 (pss_cons (ps_set (i := 3) sc_law.nd rfl (Or.inl rfl) (pe_fn O__law_gletters (hr.mono (by omega)) (by rfl) (pa_cons (pv 1) (pa_nil))))
 (pss_cons (ps_set (i := 4) sc_law.nd rfl (Or.inl rfl) (pe_fn O__law_gtable (hr.mono (by omega)) (by rfl) (pa_cons (pv 1) (pa_cons (pv 3) (pa_nil)))))
 (pss_one (ps_for PassesOwn.never rfl (pi_range1 (by rfl) T.z_range (pa_cons (pe_int) (pa_nil))) (pg_nameL (i := 5) sc_law.nd rfl rfl)
 (pss_cons (ps_set (i := 6) sc_law.nd rfl (Or.inl rfl) (pe_fn O__law_take (hr.mono (by omega)) (by rfl) (pa_cons (pv 1) (pa_cons (pe_int) (pa_nil)))))
 (pss_cons (ps_par rfl sc_law.nd rfl rfl (by decide) rfl rfl (pa_cons (pe_fn O__law_gterm (hr.mono (by omega)) (by rfl) (pa_cons (pv 1) (pa_cons (pv 6) (pa_cons (pv 3) (pa_nil))))) (pa_cons (pe_fn O__law_grow (hr.mono (by omega)) (by rfl) (pa_cons (pv 1) (pa_cons (pv 6) (pa_cons (pv 3) (pa_nil))))) (pa_nil))) rfl)
 (pss_one (ps_for PassesOwn.never rfl (piL K rfl (pe_lst (pa_cons (pv 4) (pa_cons (pe_fn O__law_lamed (hr.mono (by omega)) (by rfl) (pa_cons (pv 1) (pa_cons (pv 4) (pa_cons (pv 3) (pa_nil))))) (pa_nil))))) (pg_nameL (i := 9) sc_law.nd rfl rfl)
 (pss_cons (ps_if (pt_not (pt_val (pe_fn O__law_right (hr.mono (by omega)) (by rfl) (pa_cons (pv 7) (pa_cons (pv 9) (pa_cons (pe_fn O__law_gworth (hr.mono (by omega)) (by rfl) (pa_cons (pv 7) (pa_cons (pv 9) (pa_nil)))) (pa_nil)))))))
 (pss_one (ps_ret (pe_bl)))
 (pss_nil))
 (pss_one (ps_if (pt_not (pt_val (pe_fn O__law_right (hr.mono (by omega)) (by rfl) (pa_cons (pv 8) (pa_cons (pv 9) (pa_cons (pe_fn O__law_gfull (hr.mono (by omega)) (by rfl) (pa_cons (pv 8) (pa_cons (pv 9) (pa_nil)))) (pa_nil)))))))
 (pss_one (ps_ret (pe_bl)))
 (pss_nil)))))))))))))
 (pss_cons (ps_set (i := 10) sc_law.nd rfl (Or.inl rfl) (pe_tupZ (pa_cons (pe_str) (pa_cons (pe_tupZ (pa_cons (pe_str) (pa_cons (pe_op op_sub (pe_int) (pe_int)) (pa_nil)))) (pa_cons (pe_int) (pa_nil))))))
 (pss_one (ps_ret (pe_and (pe_cmpR (eqG K rfl hr.units) (pe_fn O_worth_of (hr.mono (by omega)) (by rfl) (pa_cons (pv 10) (pa_cons (pe_dnewK) (pa_cons (pe_dnewK) (pa_nil))))) (pe_int) (nomark _)) (pe_one (pe_cmpR (eqG K rfl hr.units) (pe_fn O_worth_of (hr.mono (by omega)) (by rfl) (pa_cons (pe_tupZ (pa_cons (pe_str) (pa_cons (pe_tupZ (pa_cons (pe_str) (pa_cons (pe_op op_sub (pe_int) (pe_int)) (pa_nil)))) (pa_cons (pe_int) (pa_nil))))) (pa_cons (pe_dnewK) (pa_cons (pe_dnewK) (pa_nil))))) (pe_op op_sub (pe_int) (pe_int)) (nomark _))))))))),
 fun p c => ⟨_, (simS_cut (simS_for (simI_range1 (sim_int _)) (simG_name 2 (nm rfl) (np rfl))
 (simS_seq (simS_set 3 (nm rfl) (np rfl) (sim_callP (by simp) rfl (simA_nil)))
 (simS_seq (simS_set 4 (nm rfl) (np rfl) (sim_callP (by simp) rfl (simA_cons (sim_var 3 (nm rfl)) (simA_nil))))
 (simS_for (simI_range1 (sim_int _)) (simG_name 5 (nm rfl) (np rfl))
 (simS_seq (simS_set 6 (nm rfl) (np rfl) (sim_callP (by simp) rfl (simA_cons (sim_int _) (simA_nil))))
 (simS_seq (simS_par 7 8 (nm rfl) (nm rfl) (np rfl) (np rfl) (simA_cons (sim_callP (by simp) rfl (simA_cons (sim_var 6 (nm rfl)) (simA_cons (sim_var 3 (nm rfl)) (simA_nil)))) (simA_cons (sim_callP (by simp) rfl (simA_cons (sim_var 6 (nm rfl)) (simA_cons (sim_var 3 (nm rfl)) (simA_nil)))) (simA_nil))))
 (simS_for (simI_list (sim_lst (by decide) (simA_cons (sim_var 4 (nm rfl)) (simA_cons (sim_callP (by simp) rfl (simA_cons (sim_var 4 (nm rfl)) (simA_cons (sim_var 3 (nm rfl)) (simA_nil)))) (simA_nil))))) (simG_name 9 (nm rfl) (np rfl))
 (simS_seq (simS_if (simT_not (simT_B (sim_call (simA_cons (sim_var 7 (nm rfl)) (simA_cons (sim_var 9 (nm rfl)) (simA_cons (sim_call (simA_cons (sim_var 7 (nm rfl)) (simA_cons (sim_var 9 (nm rfl)) (simA_nil)))) (simA_nil)))))))
 (simS_ret (Sim.toE (sim_bl _)))
 (simS_next))
 (simS_if (simT_not (simT_B (sim_call (simA_cons (sim_var 8 (nm rfl)) (simA_cons (sim_var 9 (nm rfl)) (simA_cons (sim_call (simA_cons (sim_var 8 (nm rfl)) (simA_cons (sim_var 9 (nm rfl)) (simA_nil)))) (simA_nil)))))))
 (simS_ret (Sim.toE (sim_bl _)))
 (simS_next))))))))))
 (simS_seq (simS_set 10 (nm rfl) (np rfl) (sim_tup (by decide) (simA_cons (sim_str _) (simA_cons (sim_tup (by decide) (simA_cons (sim_str _) (simA_cons (sim_op opA_sub (sim_int _) (sim_int _)) (simA_nil)))) (simA_cons (sim_int _) (simA_nil))))))
 (simS_ret (Sim.toE (sim_andV (sim_op opA_eq (sim_call (simA_cons (sim_var 10 (nm rfl)) (simA_cons (sim_dnew) (simA_cons (sim_dnew) (simA_nil))))) (sim_int _)) (sim_op opA_eq (sim_call (simA_cons (sim_tup (by decide) (simA_cons (sim_str _) (simA_cons (sim_tup (by decide) (simA_cons (sim_str _) (simA_cons (sim_op opA_sub (sim_int _) (sim_int _)) (simA_nil)))) (simA_cons (sim_int _) (simA_nil))))) (simA_cons (sim_dnew) (simA_cons (sim_dnew) (simA_nil))))) (sim_op opA_sub (sim_int _) (sim_int _)))))))), ?_⟩⟩
  have hlim : 1000000000000000000 ≤ penLim := Nat.le_trans (show 1000000000000000000 ≤ 2 ^ 100 by decide) (Nat.pow_le_pow_right (by decide) (by decide))
  refine ⟨fun s => ∃ (n : Nat) (a b c d e g h i j : Option D), s = { δ := [none, none, a, b, c, d, e, g, h, i, j], n := n }, ?_, ?_⟩
  · refine ⟨⟨by decide, by decide⟩, forD_ind (fun v s => ∃ (n : Nat) (a b c d e g h i j : Option D), s = { δ := [none, none, a, b, c, d, e, g, h, i, j], n := n } ∧ n ≤ v * 10000000000000 ∧ v ≤ 6) ⟨0, none, none, none, none, none, none, none, none, none, rfl, by omega, by omega⟩ ?_ (fun _ ⟨n, a, b, c, d, e, g, h, i, j, hh, _⟩ => ⟨n, a, b, c, d, e, g, h, i, j, hh⟩)⟩
    rintro v d0 s N hd ⟨n, a, b, c, d, e, g, h, i, j, rfl, hn, _⟩ hN
    obtain ⟨hv, rfl⟩ := rgD_get hd
    have hv : v < 6 := by simpa using hv
    refine ⟨rfl, by (first | omega | (dsimp only; omega) | (dsimp only at *; omega)), fun nums rows n1 hnu hrw hn1 => ?_⟩
    have hn1 : n1 ≤ n + 200 := hn1
    refine ⟨nums, rows, rfl, hnu.1, hrw, by (first | omega | (dsimp only; omega) | (dsimp only at *; omega)), fun t n2 ht hlt hks hfs hn2 => ?_⟩
    have hn2 : n2 ≤ n1 + 20000 := hn2
    have hkb : ∀ {t' : Tab}, (∀ p ∈ t', p.1 ∈ nums ∨ p.1 ∈ rows) → ∀ p ∈ t', Bt 0 251 p.1 := fun hk p m => (hk p m).elim (fun h => (hnu.1.2.2 _ h).1) (fun h => (hrw.2.2 _ h).1)
    refine ⟨⟨by decide, by decide⟩, forD_ind (fun u s => ∃ (n3 : Nat) (d e g h i j : Option D), s = { δ := [none, none, some (.int (0 + (v : Nat))), some (.dict (envKV nums rows [])), some (.dict (tabD t)), d, e, g, h, i, j], n := n3 } ∧ n3 ≤ n2 + u * 1000000000000 ∧ u ≤ 3) ⟨n2, d, e, g, h, i, j, rfl, by omega, by omega⟩ ?_ ?_⟩
    · rintro u d1 s N1 hd1 ⟨n3, d, e, g, h, i, j, rfl, hn3, _⟩ hN1
      obtain ⟨hu, rfl⟩ := rgD_get hd1
      have hu : u < 3 := by simpa using hu
      refine tk_ok (by (first | omega | (dsimp only; omega) | (dsimp only at *; omega))) (by decide) (by decide) fun dp p0 p1 => ?_
      obtain ⟨q, rfl⟩ : ∃ q : Nat, dp = (q : Int) := ⟨dp.toNat, by (first | omega | (dsimp only; omega) | (dsimp only at *; omega))⟩
      have hq : q ≤ 4 := by (first | omega | (dsimp only; omega) | (dsimp only at *; omega))
      have hcst : cst q ≤ 100000000000 := by
        have : cst q ≤ cst 4 := cst_mono hq
        exact this
      refine ⟨q, hq, _, rfl, ⟨nums, rows, rfl, hnu, hrw⟩, by (first | omega | (dsimp only; omega) | (dsimp only at *; omega)), fun x n4 hx hn4 => ?_⟩
      have hn4 : n4 ≤ n3 + 1 + cst q := hn4
      refine ⟨q, hq, _, rfl, ⟨nums, rows, rfl, hnu, hrw⟩, by (first | omega | (dsimp only; omega) | (dsimp only at *; omega)), fun y n5 hy hn5 => ?_⟩
      have hn5 : n5 ≤ n4 + cst q := hn5
      obtain ⟨hx, ta, rfl, hta⟩ := hx
      obtain ⟨hy, ra, rfl, hra⟩ := hy
      have bt : ∀ {s : Str} {x : D}, Dr s q x → Bt 60 1000000 x := fun h => h.1.to (by unfold hh; omega) (by
        have : ∀ k, k ≤ 4 → tt k ≤ 1000000 := fun k hk => by
          match k, hk with
          | 0, _ => decide
          | 1, _ => decide
          | 2, _ => decide
          | 3, _ => decide
          | 4, _ => decide
        exact this q hq)
      have ok6a : ta.ok 6 := (ok_mono (by omega : q ≤ 6)).1 _ hta
      have ok6r : ra.ok 6 := (ok_mono (by omega : q ≤ 6)).2 _ hra
      refine ⟨t, nums, rows, rfl, ht, hlt, hnu.1, hrw, hks, hfs, by (first | omega | (dsimp only; omega) | (dsimp only at *; omega)), fun t' n6 ht' hlt' hks' hn6 => ?_⟩
      have hn6 : n6 ≤ n5 + 2 := hn6
      refine forD_ind (fun _ s => ∃ (i : Option D), s = { δ := [none, none, some (.int (0 + (v : Nat))), some (.dict (envKV nums rows [])), some (.dict (tabD t)), some (.int (0 + (u : Nat))), some (.int (q : Int)), some ta.d, some ra.d, i, j], n := n6 }) ⟨i, rfl⟩ ?_ ?_
      · rintro z d2 s N2 hd2 ⟨i, rfl⟩ hN2
        have : ∃ tb : Tab, d2 = .dict (tabD tb) ∧ TabOk tb ∧ tb.length ≤ 41 ∧ ∀ p ∈ tb, Bt 0 251 p.1 := by
          have m := List.mem_of_getElem? hd2
          simp only [List.mem_cons, List.not_mem_nil, or_false] at m
          rcases m with rfl | rfl
          · exact ⟨t, rfl, ht, by omega, hkb hks⟩
          · exact ⟨t', rfl, ht', hlt', hkb hks'⟩
        obtain ⟨tb, rfl, htb, hltb, hkbb⟩ := this
        refine seqN (fun Q q' => ⟨tb, ta, htb, ok6a, rfl, ⟨tb, .inl ta, _, rfl, htb, hltb, hkbb, ok6a, bt hx, rfl, q'⟩⟩) ?_
        refine ifS_either (k := false) (fun Q q' => ⟨tb, ra, htb, ok6r, rfl, fun d hd => ⟨tb, .inr ra, d, rfl, htb, hltb, hkbb, ok6r, bt hy, hd, q'⟩⟩) (fun z => by cases z) (fun _ => ?_)
        exact hN2 _ ⟨_, rfl⟩
      · rintro s ⟨i, rfl⟩
        exact hN1 _ ⟨n6, _, _, _, _, _, _, rfl, by omega, by omega⟩
    · rintro s ⟨n3, d, e, g, h, i, j, rfl, hn3, hu3⟩
      have key : n3 ≤ n2 + 3 * 1000000000000 := Nat.le_trans hn3 (Nat.add_le_add_left (Nat.mul_le_mul_right _ hu3) _)
      clear hn3 hu3
      exact hN _ ⟨n3, _, _, _, _, _, _, _, _, _, rfl, by omega, by omega⟩
  · rintro s ⟨n, a, b, c, d, e, g, h, i, j, rfl⟩
    refine seqSetX (d := .tuple [wS "mod", .tuple [wS "num", .int (0 - 7)], .int 2]) (fun Q q => q) ?_
    have w1 : PyData.tuple [wS "mod", .tuple [wS "num", .int (0 - 7)], .int 2] = dTR (.inl (.md (.num (0 - 7)) 2)) := by simp only [dTR, Tm.d]
    have w2 : PyData.tuple [wS "div", .tuple [wS "num", .int (0 - 7)], .int 2] = dTR (.inl (.dv (.num (0 - 7)) 2)) := by simp only [dTR, Tm.d]
    refine ⟨[], .inl (.md (.num (0 - 7)) 2), TabOk.nil, by simp only [okTR, Tm.ok]; decide, by rw [← w1]; rfl, fun d hd => ?_⟩
    have hd : d = numW (ev [] (.md (.num (0 - 7)) 2)) := hd
    have e1 : numW (ev [] (.md (.num (0 - 7)) 2)) = .int 1 := by simp [ev, numW]
    rw [e1] at hd
    subst hd
    refine ⟨[], .inl (.dv (.num (0 - 7)) 2), TabOk.nil, by simp only [okTR, Tm.ok]; decide, by rw [← w2]; rfl, fun d hd => ?_⟩
    have hd : d = numW (ev [] (.dv (.num (0 - 7)) 2)) := hd
    have e2 : numW (ev [] (.dv (.num (0 - 7)) 2)) = .int (-4) := by simp [ev, numW]
    rw [e2] at hd
    subst hd
    rfl
end
theorem law_end {l : PySem.W.OpenLaw} {w : World} {K : PySem.W.Frag} {mg : Str → Option Value} {fa : Addr} (T : Tx w K mg) (hmg : mg "law" = some (.ref fa)) :
    ∃ fd : FuncData, (∀ (s : Shared) (v : Value), BindsTo s fd ⟨[v], []⟩ [("_law_script", v)]) ∧ ∀ base : Heap, K.In base → base.Ns mainGlobals mg → FnG l.prog w K mg base 60 fa fd ["_law_script"] (spLaw K) := by
  obtain ⟨f, fd, F, b, g⟩ := T.d_law
  rw [hmg] at g
  cases g
  have F' := F
  obtain ⟨oc, od, kV, doc, pm, an, cdv, ct, osl, rfl, lk, hcd⟩ := F.ex
  exact ⟨_, fun s v => .of_eq rfl, fun base _ _ => ok_law T F'⟩

theorem all_mk {w : World} {K : PySem.W.Frag} {h : Heap} {mg : Str → Option Value} {f1 f2 f3 f4 f5 f6 f7 f8 f9 f10 f11 f12 f13 f14 f15 f16 f17 f18 f19 f20 f21 f22 f23 f24 f25 f26 f27 f28 f29 f30 f31 f32 f33 f34 f35 : Addr} {mC0 : Addr} {fmmC0_0 : Addr} {odmmC0_0 anmmC0_0 : Option Addr} {slmmC0_0 : Array (Option Value)} {ocmmC0_0 kVmmC0_0 dcmmC0_0 pmmmC0_0 cdmmC0_0 ctmmC0_0 : Value} {fmmC0_1 : Addr} {odmmC0_1 anmmC0_1 : Option Addr} {slmmC0_1 : Array (Option Value)} {ocmmC0_1 kVmmC0_1 dcmmC0_1 pmmmC0_1 cdmmC0_1 ctmmC0_1 : Value} {fmmC0_2 : Addr} {odmmC0_2 anmmC0_2 : Option Addr} {slmmC0_2 : Array (Option Value)} {ocmmC0_2 kVmmC0_2 dcmmC0_2 pmmmC0_2 cdmmC0_2 ctmmC0_2 : Value} {fmmC0_3 : Addr} {odmmC0_3 anmmC0_3 : Option Addr} {slmmC0_3 : Array (Option Value)} {ocmmC0_3 kVmmC0_3 dcmmC0_3 pmmmC0_3 cdmmC0_3 ctmmC0_3 : Value} {tDmC0_3 : Addr} {ocDmC0_3 : Value} {odDmC0_3 : Option Addr} {nDmC0_3 : Nat} {slDmC0_3 : Array (Option Value)} {fmmC0_4 : Addr} {odmmC0_4 anmmC0_4 : Option Addr} {slmmC0_4 : Array (Option Value)} {ocmmC0_4 kVmmC0_4 dcmmC0_4 pmmmC0_4 cdmmC0_4 ctmmC0_4 : Value} {fmmC0_5 : Addr} {odmmC0_5 anmmC0_5 : Option Addr} {slmmC0_5 : Array (Option Value)} {ocmmC0_5 kVmmC0_5 dcmmC0_5 pmmmC0_5 cdmmC0_5 ctmmC0_5 : Value} {fmmC0_6 : Addr} {odmmC0_6 anmmC0_6 : Option Addr} {slmmC0_6 : Array (Option Value)} {ocmmC0_6 kVmmC0_6 dcmmC0_6 pmmmC0_6 cdmmC0_6 ctmmC0_6 : Value} {fmmC0_7 : Addr} {odmmC0_7 anmmC0_7 : Option Addr} {slmmC0_7 : Array (Option Value)} {ocmmC0_7 kVmmC0_7 dcmmC0_7 pmmmC0_7 cdmmC0_7 ctmmC0_7 : Value} {fmmC0_8 : Addr} {odmmC0_8 anmmC0_8 : Option Addr} {slmmC0_8 : Array (Option Value)} {ocmmC0_8 kVmmC0_8 dcmmC0_8 pmmmC0_8 cdmmC0_8 ctmmC0_8 : Value} {fmmC0_9 : Addr} {odmmC0_9 anmmC0_9 : Option Addr} {slmmC0_9 : Array (Option Value)} {ocmmC0_9 kVmmC0_9 dcmmC0_9 pmmmC0_9 cdmmC0_9 ctmmC0_9 : Value} {fmmC0_10 : Addr} {odmmC0_10 anmmC0_10 : Option Addr} {slmmC0_10 : Array (Option Value)} {ocmmC0_10 kVmmC0_10 dcmmC0_10 pmmmC0_10 cdmmC0_10 ctmmC0_10 : Value} {tf0 : Addr} {te0 : Array DictEntry} {tn0 : Nat} {tg0 : Tok} {tg1 : Tok} (X : K.In h) (G : h.Ns mainGlobals mg)
    {od1 an1 od2 an2 od3 an3 od4 an4 od5 an5 od6 an6 od7 an7 od8 an8 od9 an9 od10 an10 od11 an11 od12 an12 od13 an13 od14 an14 od15 an15 od16 an16 od17 an17 od18 an18 od19 an19 od20 an20 od21 an21 od22 an22 od23 an23 od24 an24 od25 an25 od26 an26 od27 an27 od28 an28 od29 an29 od30 an30 od31 an31 od32 an32 od33 an33 od34 an34 od35 an35 : Option Addr} {sl1 sl2 sl3 sl4 sl5 sl6 sl7 sl8 sl9 sl10 sl11 sl12 sl13 sl14 sl15 sl16 sl17 sl18 sl19 sl20 sl21 sl22 sl23 sl24 sl25 sl26 sl27 sl28 sl29 sl30 sl31 sl32 sl33 sl34 sl35 : Array (Option Value)} {oc1 kV1 dc1 pm1 cd1 ct1 oc2 kV2 dc2 pm2 cd2 ct2 oc3 kV3 dc3 pm3 cd3 ct3 oc4 kV4 dc4 pm4 cd4 ct4 oc5 kV5 dc5 pm5 cd5 ct5 oc6 kV6 dc6 pm6 cd6 ct6 oc7 kV7 dc7 pm7 cd7 ct7 oc8 kV8 dc8 pm8 cd8 ct8 oc9 kV9 dc9 pm9 cd9 ct9 oc10 kV10 dc10 pm10 cd10 ct10 oc11 kV11 dc11 pm11 cd11 ct11 oc12 kV12 dc12 pm12 cd12 ct12 oc13 kV13 dc13 pm13 cd13 ct13 oc14 kV14 dc14 pm14 cd14 ct14 oc15 kV15 dc15 pm15 cd15 ct15 oc16 kV16 dc16 pm16 cd16 ct16 oc17 kV17 dc17 pm17 cd17 ct17 oc18 kV18 dc18 pm18 cd18 ct18 oc19 kV19 dc19 pm19 cd19 ct19 oc20 kV20 dc20 pm20 cd20 ct20 oc21 kV21 dc21 pm21 cd21 ct21 oc22 kV22 dc22 pm22 cd22 ct22 oc23 kV23 dc23 pm23 cd23 ct23 oc24 kV24 dc24 pm24 cd24 ct24 oc25 kV25 dc25 pm25 cd25 ct25 oc26 kV26 dc26 pm26 cd26 ct26 oc27 kV27 dc27 pm27 cd27 ct27 oc28 kV28 dc28 pm28 cd28 ct28 oc29 kV29 dc29 pm29 cd29 ct29 oc30 kV30 dc30 pm30 cd30 ct30 oc31 kV31 dc31 pm31 cd31 ct31 oc32 kV32 dc32 pm32 cd32 ct32 oc33 kV33 dc33 pm33 cd33 ct33 oc34 kV34 dc34 pm34 cd34 ct34 oc35 kV35 dc35 pm35 cd35 ct35 : Value}
    (a1 : PySem.W.nsIn K mainGlobals "_wall" = some (some (.ref f1))) (l1 : K.lookup f1 = some ⟨oc1, od1, .func (PySem.W.fnOf "_wall" "_wall" (defArgs s__wall) (defBody s__wall) (defScope s__wall) .none kV1 dc1 pm1 an1 cd1 ct1), sl1⟩) (c1 : PySem.W.codeIn K cd1 "_wall" = true) (k1 : PySem.W.keepIn K (.ref f1) = true)
    (a2 : PySem.W.nsIn K mainGlobals "is_whole" = some (some (.ref f2))) (l2 : K.lookup f2 = some ⟨oc2, od2, .func (PySem.W.fnOf "is_whole" "is_whole" (defArgs s_is_whole) (defBody s_is_whole) (defScope s_is_whole) .none kV2 dc2 pm2 an2 cd2 ct2), sl2⟩) (c2 : PySem.W.codeIn K cd2 "is_whole" = true) (k2 : PySem.W.keepIn K (.ref f2) = true)
    (a3 : PySem.W.nsIn K mainGlobals "sort_of" = some (some (.ref f3))) (l3 : K.lookup f3 = some ⟨oc3, od3, .func (PySem.W.fnOf "sort_of" "sort_of" (defArgs s_sort_of) (defBody s_sort_of) (defScope s_sort_of) .none kV3 dc3 pm3 an3 cd3 ct3), sl3⟩) (c3 : PySem.W.codeIn K cd3 "sort_of" = true) (k3 : PySem.W.keepIn K (.ref f3) = true)
    (a4 : PySem.W.nsIn K mainGlobals "kinds_of" = some (some (.ref f4))) (l4 : K.lookup f4 = some ⟨oc4, od4, .func (PySem.W.fnOf "kinds_of" "kinds_of" (defArgs s_kinds_of) (defBody s_kinds_of) (defScope s_kinds_of) .none kV4 dc4 pm4 an4 cd4 ct4), sl4⟩) (c4 : PySem.W.codeIn K cd4 "kinds_of" = true) (k4 : PySem.W.keepIn K (.ref f4) = true)
    (a5 : PySem.W.nsIn K mainGlobals "parts_of" = some (some (.ref f5))) (l5 : K.lookup f5 = some ⟨oc5, od5, .func (PySem.W.fnOf "parts_of" "parts_of" (defArgs s_parts_of) (defBody s_parts_of) (defScope s_parts_of) .none kV5 dc5 pm5 an5 cd5 ct5), sl5⟩) (c5 : PySem.W.codeIn K cd5 "parts_of" = true) (k5 : PySem.W.keepIn K (.ref f5) = true)
    (a6 : PySem.W.nsIn K mainGlobals "gather_notions" = some (some (.ref f6))) (l6 : K.lookup f6 = some ⟨oc6, od6, .func (PySem.W.fnOf "gather_notions" "gather_notions" (defArgs s_gather_notions) (defBody s_gather_notions) (defScope s_gather_notions) .none kV6 dc6 pm6 an6 cd6 ct6), sl6⟩) (c6 : PySem.W.codeIn K cd6 "gather_notions" = true) (k6 : PySem.W.keepIn K (.ref f6) = true)
    (a7 : PySem.W.nsIn K mainGlobals "notion_terms" = some (some (.ref f7))) (l7 : K.lookup f7 = some ⟨oc7, od7, .func (PySem.W.fnOf "notion_terms" "notion_terms" (defArgs s_notion_terms) (defBody s_notion_terms) (defScope s_notion_terms) .none kV7 dc7 pm7 an7 cd7 ct7), sl7⟩) (c7 : PySem.W.codeIn K cd7 "notion_terms" = true) (k7 : PySem.W.keepIn K (.ref f7) = true)
    (a8 : PySem.W.nsIn K mainGlobals "kind_of" = some (some (.ref f8))) (l8 : K.lookup f8 = some ⟨oc8, od8, .func (PySem.W.fnOf "kind_of" "kind_of" (defArgs s_kind_of) (defBody s_kind_of) (defScope s_kind_of) .none kV8 dc8 pm8 an8 cd8 ct8), sl8⟩) (c8 : PySem.W.codeIn K cd8 "kind_of" = true) (k8 : PySem.W.keepIn K (.ref f8) = true)
    (a9 : PySem.W.nsIn K mainGlobals "takes" = some (some (.ref f9))) (l9 : K.lookup f9 = some ⟨oc9, od9, .func (PySem.W.fnOf "takes" "takes" (defArgs s_takes) (defBody s_takes) (defScope s_takes) .none kV9 dc9 pm9 an9 cd9 ct9), sl9⟩) (c9 : PySem.W.codeIn K cd9 "takes" = true) (k9 : PySem.W.keepIn K (.ref f9) = true)
    (a10 : PySem.W.nsIn K mainGlobals "own_term" = some (some (.ref f10))) (l10 : K.lookup f10 = some ⟨oc10, od10, .func (PySem.W.fnOf "own_term" "own_term" (defArgs s_own_term) (defBody s_own_term) (defScope s_own_term) .none kV10 dc10 pm10 an10 cd10 ct10), sl10⟩) (c10 : PySem.W.codeIn K cd10 "own_term" = true) (k10 : PySem.W.keepIn K (.ref f10) = true)
    (a11 : PySem.W.nsIn K mainGlobals "stands" = some (some (.ref f11))) (l11 : K.lookup f11 = some ⟨oc11, od11, .func (PySem.W.fnOf "stands" "stands" (defArgs s_stands) (defBody s_stands) (defScope s_stands) .none kV11 dc11 pm11 an11 cd11 ct11), sl11⟩) (c11 : PySem.W.codeIn K cd11 "stands" = true) (k11 : PySem.W.keepIn K (.ref f11) = true)
    (a12 : PySem.W.nsIn K mainGlobals "firm" = some (some (.ref f12))) (l12 : K.lookup f12 = some ⟨oc12, od12, .func (PySem.W.fnOf "firm" "firm" (defArgs s_firm) (defBody s_firm) (defScope s_firm) .none kV12 dc12 pm12 an12 cd12 ct12), sl12⟩) (c12 : PySem.W.codeIn K cd12 "firm" = true) (k12 : PySem.W.keepIn K (.ref f12) = true)
    (a13 : PySem.W.nsIn K mainGlobals "made_row" = some (some (.ref f13))) (l13 : K.lookup f13 = some ⟨oc13, od13, .func (PySem.W.fnOf "made_row" "made_row" (defArgs s_made_row) (defBody s_made_row) (defScope s_made_row) .none kV13 dc13 pm13 an13 cd13 ct13), sl13⟩) (c13 : PySem.W.codeIn K cd13 "made_row" = true) (k13 : PySem.W.keepIn K (.ref f13) = true)
    (a14 : PySem.W.nsIn K mainGlobals "number_at" = some (some (.ref f14))) (l14 : K.lookup f14 = some ⟨oc14, od14, .func (PySem.W.fnOf "number_at" "number_at" (defArgs s_number_at) (defBody s_number_at) (defScope s_number_at) .none kV14 dc14 pm14 an14 cd14 ct14), sl14⟩) (c14 : PySem.W.codeIn K cd14 "number_at" = true) (k14 : PySem.W.keepIn K (.ref f14) = true)
    (a15 : PySem.W.nsIn K mainGlobals "worth_of" = some (some (.ref f15))) (l15 : K.lookup f15 = some ⟨oc15, od15, .func (PySem.W.fnOf "worth_of" "worth_of" (defArgs s_worth_of) (defBody s_worth_of) (defScope s_worth_of) .none kV15 dc15 pm15 an15 cd15 ct15), sl15⟩) (c15 : PySem.W.codeIn K cd15 "worth_of" = true) (k15 : PySem.W.keepIn K (.ref f15) = true)
    (a16 : PySem.W.nsIn K mainGlobals "_law_spread" = some (some (.ref f16))) (l16 : K.lookup f16 = some ⟨oc16, od16, .func (PySem.W.fnOf "_law_spread" "_law_spread" (defArgs s__law_spread) (defBody s__law_spread) (defScope s__law_spread) .none kV16 dc16 pm16 an16 cd16 ct16), sl16⟩) (c16 : PySem.W.codeIn K cd16 "_law_spread" = true) (k16 : PySem.W.keepIn K (.ref f16) = true)
    (a17 : PySem.W.nsIn K mainGlobals "_law_open" = some (some (.ref f17))) (l17 : K.lookup f17 = some ⟨oc17, od17, .func (PySem.W.fnOf "_law_open" "_law_open" (defArgs s__law_open) (defBody s__law_open) (defScope s__law_open) .none kV17 dc17 pm17 an17 cd17 ct17), sl17⟩) (c17 : PySem.W.codeIn K cd17 "_law_open" = true) (k17 : PySem.W.keepIn K (.ref f17) = true)
    (a18 : PySem.W.nsIn K mainGlobals "_law_take" = some (some (.ref f18))) (l18 : K.lookup f18 = some ⟨oc18, od18, .func (PySem.W.fnOf "_law_take" "_law_take" (defArgs s__law_take) (defBody s__law_take) (defScope s__law_take) .none kV18 dc18 pm18 an18 cd18 ct18), sl18⟩) (c18 : PySem.W.codeIn K cd18 "_law_take" = true) (k18 : PySem.W.keepIn K (.ref f18) = true)
    (a19 : PySem.W.nsIn K mainGlobals "_law_same" = some (some (.ref f19))) (l19 : K.lookup f19 = some ⟨oc19, od19, .func (PySem.W.fnOf "_law_same" "_law_same" (defArgs s__law_same) (defBody s__law_same) (defScope s__law_same) .none kV19 dc19 pm19 an19 cd19 ct19), sl19⟩) (c19 : PySem.W.codeIn K cd19 "_law_same" = true) (k19 : PySem.W.keepIn K (.ref f19) = true)
    (a20 : PySem.W.nsIn K mainGlobals "_law_names" = some (some (.ref f20))) (l20 : K.lookup f20 = some ⟨oc20, od20, .func (PySem.W.fnOf "_law_names" "_law_names" (defArgs s__law_names) (defBody s__law_names) (defScope s__law_names) .none kV20 dc20 pm20 an20 cd20 ct20), sl20⟩) (c20 : PySem.W.codeIn K cd20 "_law_names" = true) (k20 : PySem.W.keepIn K (.ref f20) = true)
    (a21 : PySem.W.nsIn K mainGlobals "_law_gnumber" = some (some (.ref f21))) (l21 : K.lookup f21 = some ⟨oc21, od21, .func (PySem.W.fnOf "_law_gnumber" "_law_gnumber" (defArgs s__law_gnumber) (defBody s__law_gnumber) (defScope s__law_gnumber) .none kV21 dc21 pm21 an21 cd21 ct21), sl21⟩) (c21 : PySem.W.codeIn K cd21 "_law_gnumber" = true) (k21 : PySem.W.keepIn K (.ref f21) = true)
    (a22 : PySem.W.nsIn K mainGlobals "_law_gletters" = some (some (.ref f22))) (l22 : K.lookup f22 = some ⟨oc22, od22, .func (PySem.W.fnOf "_law_gletters" "_law_gletters" (defArgs s__law_gletters) (defBody s__law_gletters) (defScope s__law_gletters) .none kV22 dc22 pm22 an22 cd22 ct22), sl22⟩) (c22 : PySem.W.codeIn K cd22 "_law_gletters" = true) (k22 : PySem.W.keepIn K (.ref f22) = true)
    (a23 : PySem.W.nsIn K mainGlobals "_law_gplaces" = some (some (.ref f23))) (l23 : K.lookup f23 = some ⟨oc23, od23, .func (PySem.W.fnOf "_law_gplaces" "_law_gplaces" (defArgs s__law_gplaces) (defBody s__law_gplaces) (defScope s__law_gplaces) .none kV23 dc23 pm23 an23 cd23 ct23), sl23⟩) (c23 : PySem.W.codeIn K cd23 "_law_gplaces" = true) (k23 : PySem.W.keepIn K (.ref f23) = true)
    (a24 : PySem.W.nsIn K mainGlobals "_law_gterm" = some (some (.ref f24))) (l24 : K.lookup f24 = some ⟨oc24, od24, .func (PySem.W.fnOf "_law_gterm" "_law_gterm" (defArgs s__law_gterm) (defBody s__law_gterm) (defScope s__law_gterm) .none kV24 dc24 pm24 an24 cd24 ct24), sl24⟩) (c24 : PySem.W.codeIn K cd24 "_law_gterm" = true) (k24 : PySem.W.keepIn K (.ref f24) = true)
    (a25 : PySem.W.nsIn K mainGlobals "_law_grow" = some (some (.ref f25))) (l25 : K.lookup f25 = some ⟨oc25, od25, .func (PySem.W.fnOf "_law_grow" "_law_grow" (defArgs s__law_grow) (defBody s__law_grow) (defScope s__law_grow) .none kV25 dc25 pm25 an25 cd25 ct25), sl25⟩) (c25 : PySem.W.codeIn K cd25 "_law_grow" = true) (k25 : PySem.W.keepIn K (.ref f25) = true)
    (a26 : PySem.W.nsIn K mainGlobals "_law_gtable" = some (some (.ref f26))) (l26 : K.lookup f26 = some ⟨oc26, od26, .func (PySem.W.fnOf "_law_gtable" "_law_gtable" (defArgs s__law_gtable) (defBody s__law_gtable) (defScope s__law_gtable) .none kV26 dc26 pm26 an26 cd26 ct26), sl26⟩) (c26 : PySem.W.codeIn K cd26 "_law_gtable" = true) (k26 : PySem.W.keepIn K (.ref f26) = true)
    (a27 : PySem.W.nsIn K mainGlobals "_law_gcan" = some (some (.ref f27))) (l27 : K.lookup f27 = some ⟨oc27, od27, .func (PySem.W.fnOf "_law_gcan" "_law_gcan" (defArgs s__law_gcan) (defBody s__law_gcan) (defScope s__law_gcan) .none kV27 dc27 pm27 an27 cd27 ct27), sl27⟩) (c27 : PySem.W.codeIn K cd27 "_law_gcan" = true) (k27 : PySem.W.keepIn K (.ref f27) = true)
    (a28 : PySem.W.nsIn K mainGlobals "_law_gworth" = some (some (.ref f28))) (l28 : K.lookup f28 = some ⟨oc28, od28, .func (PySem.W.fnOf "_law_gworth" "_law_gworth" (defArgs s__law_gworth) (defBody s__law_gworth) (defScope s__law_gworth) .none kV28 dc28 pm28 an28 cd28 ct28), sl28⟩) (c28 : PySem.W.codeIn K cd28 "_law_gworth" = true) (k28 : PySem.W.keepIn K (.ref f28) = true)
    (a29 : PySem.W.nsIn K mainGlobals "_law_glacks" = some (some (.ref f29))) (l29 : K.lookup f29 = some ⟨oc29, od29, .func (PySem.W.fnOf "_law_glacks" "_law_glacks" (defArgs s__law_glacks) (defBody s__law_glacks) (defScope s__law_glacks) .none kV29 dc29 pm29 an29 cd29 ct29), sl29⟩) (c29 : PySem.W.codeIn K cd29 "_law_glacks" = true) (k29 : PySem.W.keepIn K (.ref f29) = true)
    (a30 : PySem.W.nsIn K mainGlobals "_law_gsize" = some (some (.ref f30))) (l30 : K.lookup f30 = some ⟨oc30, od30, .func (PySem.W.fnOf "_law_gsize" "_law_gsize" (defArgs s__law_gsize) (defBody s__law_gsize) (defScope s__law_gsize) .none kV30 dc30 pm30 an30 cd30 ct30), sl30⟩) (c30 : PySem.W.codeIn K cd30 "_law_gsize" = true) (k30 : PySem.W.keepIn K (.ref f30) = true)
    (a31 : PySem.W.nsIn K mainGlobals "_law_gat" = some (some (.ref f31))) (l31 : K.lookup f31 = some ⟨oc31, od31, .func (PySem.W.fnOf "_law_gat" "_law_gat" (defArgs s__law_gat) (defBody s__law_gat) (defScope s__law_gat) .none kV31 dc31 pm31 an31 cd31 ct31), sl31⟩) (c31 : PySem.W.codeIn K cd31 "_law_gat" = true) (k31 : PySem.W.keepIn K (.ref f31) = true)
    (a32 : PySem.W.nsIn K mainGlobals "_law_gfull" = some (some (.ref f32))) (l32 : K.lookup f32 = some ⟨oc32, od32, .func (PySem.W.fnOf "_law_gfull" "_law_gfull" (defArgs s__law_gfull) (defBody s__law_gfull) (defScope s__law_gfull) .none kV32 dc32 pm32 an32 cd32 ct32), sl32⟩) (c32 : PySem.W.codeIn K cd32 "_law_gfull" = true) (k32 : PySem.W.keepIn K (.ref f32) = true)
    (a33 : PySem.W.nsIn K mainGlobals "_law_lamed" = some (some (.ref f33))) (l33 : K.lookup f33 = some ⟨oc33, od33, .func (PySem.W.fnOf "_law_lamed" "_law_lamed" (defArgs s__law_lamed) (defBody s__law_lamed) (defScope s__law_lamed) .none kV33 dc33 pm33 an33 cd33 ct33), sl33⟩) (c33 : PySem.W.codeIn K cd33 "_law_lamed" = true) (k33 : PySem.W.keepIn K (.ref f33) = true)
    (a34 : PySem.W.nsIn K mainGlobals "_law_right" = some (some (.ref f34))) (l34 : K.lookup f34 = some ⟨oc34, od34, .func (PySem.W.fnOf "_law_right" "_law_right" (defArgs s__law_right) (defBody s__law_right) (defScope s__law_right) .none kV34 dc34 pm34 an34 cd34 ct34), sl34⟩) (c34 : PySem.W.codeIn K cd34 "_law_right" = true) (k34 : PySem.W.keepIn K (.ref f34) = true)
    (a35 : PySem.W.nsIn K mainGlobals "law" = some (some (.ref f35))) (l35 : K.lookup f35 = some ⟨oc35, od35, .func (PySem.W.fnOf "law" "law" (defArgs s_law) (defBody s_law) (defScope s_law) .none kV35 dc35 pm35 an35 cd35 ct35), sl35⟩) (c35 : PySem.W.codeIn K cd35 "law" = true) (k35 : PySem.W.keepIn K (.ref f35) = true)
    (z1 : PySem.W.nsIn K mainGlobals "bool" = some none)
    (z2 : PySem.W.nsIn K mainGlobals "dict" = some none)
    (z3 : PySem.W.nsIn K mainGlobals "enumerate" = some none)
    (z4 : PySem.W.nsIn K mainGlobals "int" = some none)
    (z5 : PySem.W.nsIn K mainGlobals "isinstance" = some none)
    (z6 : PySem.W.nsIn K mainGlobals "len" = some none)
    (z7 : PySem.W.nsIn K mainGlobals "list" = some none)
    (z8 : PySem.W.nsIn K mainGlobals "max" = some none)
    (z9 : PySem.W.nsIn K mainGlobals "range" = some none)
    (z10 : PySem.W.nsIn K mainGlobals "repr" = some none)
    (z11 : PySem.W.nsIn K mainGlobals "sorted" = some none)
    (z12 : PySem.W.nsIn K mainGlobals "str" = some none)
    (z13 : PySem.W.nsIn K mainGlobals "sum" = some none)
    (z14 : PySem.W.nsIn K mainGlobals "tuple" = some none)
    (z15 : PySem.W.nsIn K mainGlobals "zip" = some none)
    (mC0aC : PySem.W.nsIn K mainGlobals "Look" = some (some (.ref mC0)))
    (mC0pg : PySem.W.plainGet K mC0 Str.empty = true)
    (mC0hd : PySem.W.hasDictIn K mC0 = true)
    (mC0po : PySem.W.plainOver K mC0 = true)
    (mC0sa : PySem.W.findIn K (.ref mC0) "__setattr__" = some (some (.builtin "object.__setattr__")))
    (mC0mk : PySem.W.makesIn K mC0 = true)
    (mC0kc : PySem.W.keepIn K (.ref mC0) = true)
    (mC0n_notions : PySem.W.findIn K (.ref mC0) "notions" = some none)
    (mC0n_firm : PySem.W.findIn K (.ref mC0) "firm" = some none)
    (mC0n_count : PySem.W.findIn K (.ref mC0) "count" = some none)
    (mC0n_first : PySem.W.findIn K (.ref mC0) "first" = some none)
    (mC0a0 : PySem.W.findIn K (.ref mC0) "__init__" = some (some (.ref fmmC0_0)))
    (mC0i0 : PySem.W.isFn K (.ref fmmC0_0) = true)
    (mC0l0 : K.lookup fmmC0_0 = some ⟨ocmmC0_0, odmmC0_0, .func (PySem.W.fnOf "__init__" "Look.__init__" (defArgs s_Look___init__) (defBody s_Look___init__) (defScope s_Look___init__) .none kVmmC0_0 dcmmC0_0 pmmmC0_0 anmmC0_0 cdmmC0_0 ctmmC0_0), slmmC0_0⟩)
    (mC0c0 : PySem.W.codeIn K cdmmC0_0 "Look.__init__" = true)
    (mC0k0 : PySem.W.keepIn K (.ref fmmC0_0) = true)
    (mC0a1 : PySem.W.findIn K (.ref mC0) "one_more" = some (some (.ref fmmC0_1)))
    (mC0i1 : PySem.W.isFn K (.ref fmmC0_1) = true)
    (mC0l1 : K.lookup fmmC0_1 = some ⟨ocmmC0_1, odmmC0_1, .func (PySem.W.fnOf "one_more" "Look.one_more" (defArgs s_Look_one_more) (defBody s_Look_one_more) (defScope s_Look_one_more) .none kVmmC0_1 dcmmC0_1 pmmmC0_1 anmmC0_1 cdmmC0_1 ctmmC0_1), slmmC0_1⟩)
    (mC0c1 : PySem.W.codeIn K cdmmC0_1 "Look.one_more" = true)
    (mC0k1 : PySem.W.keepIn K (.ref fmmC0_1) = true)
    (mC0a2 : PySem.W.findIn K (.ref mC0) "letter_at" = some (some (.ref fmmC0_2)))
    (mC0i2 : PySem.W.isFn K (.ref fmmC0_2) = true)
    (mC0l2 : K.lookup fmmC0_2 = some ⟨ocmmC0_2, odmmC0_2, .func (PySem.W.fnOf "letter_at" "Look.letter_at" (defArgs s_Look_letter_at) (defBody s_Look_letter_at) (defScope s_Look_letter_at) .none kVmmC0_2 dcmmC0_2 pmmmC0_2 anmmC0_2 cdmmC0_2 ctmmC0_2), slmmC0_2⟩)
    (mC0c2 : PySem.W.codeIn K cdmmC0_2 "Look.letter_at" = true)
    (mC0k2 : PySem.W.keepIn K (.ref fmmC0_2) = true)
    (mC0a3 : PySem.W.findIn K (.ref mC0) "reckon" = some (some (.ref fmmC0_3)))
    (mC0i3 : PySem.W.isFn K (.ref fmmC0_3) = true)
    (mC0l3 : K.lookup fmmC0_3 = some ⟨ocmmC0_3, odmmC0_3, .func (PySem.W.fnOf "reckon" "Look.reckon" (defArgs s_Look_reckon) (defBody s_Look_reckon) (defScope s_Look_reckon) (.ref tDmC0_3) kVmmC0_3 dcmmC0_3 pmmmC0_3 anmmC0_3 cdmmC0_3 ctmmC0_3), slmmC0_3⟩)
    (mC0c3 : PySem.W.codeIn K cdmmC0_3 "Look.reckon" = true)
    (mC0k3 : PySem.W.keepIn K (.ref fmmC0_3) = true)
    (mC0t3 : K.lookup tDmC0_3 = some ⟨ocDmC0_3, odDmC0_3, .seq #[.none] nDmC0_3, slDmC0_3⟩)
    (mC0a4 : PySem.W.findIn K (.ref mC0) "reckon_number" = some (some (.ref fmmC0_4)))
    (mC0i4 : PySem.W.isFn K (.ref fmmC0_4) = true)
    (mC0l4 : K.lookup fmmC0_4 = some ⟨ocmmC0_4, odmmC0_4, .func (PySem.W.fnOf "reckon_number" "Look.reckon_number" (defArgs s_Look_reckon_number) (defBody s_Look_reckon_number) (defScope s_Look_reckon_number) .none kVmmC0_4 dcmmC0_4 pmmmC0_4 anmmC0_4 cdmmC0_4 ctmmC0_4), slmmC0_4⟩)
    (mC0c4 : PySem.W.codeIn K cdmmC0_4 "Look.reckon_number" = true)
    (mC0k4 : PySem.W.keepIn K (.ref fmmC0_4) = true)
    (mC0a5 : PySem.W.findIn K (.ref mC0) "reckon_row" = some (some (.ref fmmC0_5)))
    (mC0i5 : PySem.W.isFn K (.ref fmmC0_5) = true)
    (mC0l5 : K.lookup fmmC0_5 = some ⟨ocmmC0_5, odmmC0_5, .func (PySem.W.fnOf "reckon_row" "Look.reckon_row" (defArgs s_Look_reckon_row) (defBody s_Look_reckon_row) (defScope s_Look_reckon_row) .none kVmmC0_5 dcmmC0_5 pmmmC0_5 anmmC0_5 cdmmC0_5 ctmmC0_5), slmmC0_5⟩)
    (mC0c5 : PySem.W.codeIn K cdmmC0_5 "Look.reckon_row" = true)
    (mC0k5 : PySem.W.keepIn K (.ref fmmC0_5) = true)
    (mC0a6 : PySem.W.findIn K (.ref mC0) "reckon_notion" = some (some (.ref fmmC0_6)))
    (mC0i6 : PySem.W.isFn K (.ref fmmC0_6) = true)
    (mC0l6 : K.lookup fmmC0_6 = some ⟨ocmmC0_6, odmmC0_6, .func (PySem.W.fnOf "reckon_notion" "Look.reckon_notion" (defArgs s_Look_reckon_notion) (defBody s_Look_reckon_notion) (defScope s_Look_reckon_notion) .none kVmmC0_6 dcmmC0_6 pmmmC0_6 anmmC0_6 cdmmC0_6 ctmmC0_6), slmmC0_6⟩)
    (mC0c6 : PySem.W.codeIn K cdmmC0_6 "Look.reckon_notion" = true)
    (mC0k6 : PySem.W.keepIn K (.ref fmmC0_6) = true)
    (mC0a7 : PySem.W.findIn K (.ref mC0) "opened" = some (some (.ref fmmC0_7)))
    (mC0i7 : PySem.W.isFn K (.ref fmmC0_7) = true)
    (mC0l7 : K.lookup fmmC0_7 = some ⟨ocmmC0_7, odmmC0_7, .func (PySem.W.fnOf "opened" "Look.opened" (defArgs s_Look_opened) (defBody s_Look_opened) (defScope s_Look_opened) .none kVmmC0_7 dcmmC0_7 pmmmC0_7 anmmC0_7 cdmmC0_7 ctmmC0_7), slmmC0_7⟩)
    (mC0c7 : PySem.W.codeIn K cdmmC0_7 "Look.opened" = true)
    (mC0k7 : PySem.W.keepIn K (.ref fmmC0_7) = true)
    (mC0a8 : PySem.W.findIn K (.ref mC0) "closing" = some (some (.ref fmmC0_8)))
    (mC0i8 : PySem.W.isFn K (.ref fmmC0_8) = true)
    (mC0l8 : K.lookup fmmC0_8 = some ⟨ocmmC0_8, odmmC0_8, .func (PySem.W.fnOf "closing" "Look.closing" (defArgs s_Look_closing) (defBody s_Look_closing) (defScope s_Look_closing) .none kVmmC0_8 dcmmC0_8 pmmmC0_8 anmmC0_8 cdmmC0_8 ctmmC0_8), slmmC0_8⟩)
    (mC0c8 : PySem.W.codeIn K cdmmC0_8 "Look.closing" = true)
    (mC0k8 : PySem.W.keepIn K (.ref fmmC0_8) = true)
    (mC0a9 : PySem.W.findIn K (.ref mC0) "is_so" = some (some (.ref fmmC0_9)))
    (mC0i9 : PySem.W.isFn K (.ref fmmC0_9) = true)
    (mC0l9 : K.lookup fmmC0_9 = some ⟨ocmmC0_9, odmmC0_9, .func (PySem.W.fnOf "is_so" "Look.is_so" (defArgs s_Look_is_so) (defBody s_Look_is_so) (defScope s_Look_is_so) .none kVmmC0_9 dcmmC0_9 pmmmC0_9 anmmC0_9 cdmmC0_9 ctmmC0_9), slmmC0_9⟩)
    (mC0c9 : PySem.W.codeIn K cdmmC0_9 "Look.is_so" = true)
    (mC0k9 : PySem.W.keepIn K (.ref fmmC0_9) = true)
    (mC0a10 : PySem.W.findIn K (.ref mC0) "is_all_so" = some (some (.ref fmmC0_10)))
    (mC0i10 : PySem.W.isFn K (.ref fmmC0_10) = true)
    (mC0l10 : K.lookup fmmC0_10 = some ⟨ocmmC0_10, odmmC0_10, .func (PySem.W.fnOf "is_all_so" "Look.is_all_so" (defArgs s_Look_is_all_so) (defBody s_Look_is_all_so) (defScope s_Look_is_all_so) .none kVmmC0_10 dcmmC0_10 pmmmC0_10 anmmC0_10 cdmmC0_10 ctmmC0_10), slmmC0_10⟩)
    (mC0c10 : PySem.W.codeIn K cdmmC0_10 "Look.is_all_so" = true)
    (mC0k10 : PySem.W.keepIn K (.ref fmmC0_10) = true)
    (tba0 : PySem.W.nsIn K mainGlobals "FORMS" = some (some (.ref tf0))) (tbl0 : K.lookup tf0 = some ⟨.type "dict", none, .dict te0 tn0, #[]⟩) (tbk0 : PySem.W.KeysLit w.params te0.toList) (tbo0 : (tf0 == sysModules) = false) (tbt0 : tabIn K tab_FORMS te0.toList = true)
    (kglb0 : PySem.W.nsIn K mainGlobals "FLOORS" = some (some (.int 10 tg0)))
    (kglb1 : PySem.W.nsIn K mainGlobals "MOST_LOOK" = some (some (.int 400 tg1)))
    : Tx w K mg := by
  exact ⟨
    ⟨f1, _, fun_mk (st := s__wall) l1 c1 k1, (fun_mk (st := s__wall) l1 c1 k1).binds (ps := ["k"]) (fun _ _ _ _ _ _ us hl => match us, hl with | [_], _ => rfl), PySem.W.mg_of X G a1⟩,
    ⟨f2, _, fun_mk (st := s_is_whole) l2 c2 k2, (fun_mk (st := s_is_whole) l2 c2 k2).binds (ps := ["thing"]) (fun _ _ _ _ _ _ us hl => match us, hl with | [_], _ => rfl), PySem.W.mg_of X G a2⟩,
    ⟨f3, _, fun_mk (st := s_sort_of) l3 c3 k3, (fun_mk (st := s_sort_of) l3 c3 k3).binds (ps := ["word"]) (fun _ _ _ _ _ _ us hl => match us, hl with | [_], _ => rfl), PySem.W.mg_of X G a3⟩,
    ⟨f4, _, fun_mk (st := s_kinds_of) l4 c4 k4, (fun_mk (st := s_kinds_of) l4 c4 k4).binds (ps := ["word"]) (fun _ _ _ _ _ _ us hl => match us, hl with | [_], _ => rfl), PySem.W.mg_of X G a4⟩,
    ⟨f5, _, fun_mk (st := s_parts_of) l5 c5 k5, (fun_mk (st := s_parts_of) l5 c5 k5).binds (ps := ["thing"]) (fun _ _ _ _ _ _ us hl => match us, hl with | [_], _ => rfl), PySem.W.mg_of X G a5⟩,
    ⟨f6, _, fun_mk (st := s_gather_notions) l6 c6 k6, (fun_mk (st := s_gather_notions) l6 c6 k6).binds (ps := ["thing", "found"]) (fun _ _ _ _ _ _ us hl => match us, hl with | [_, _], _ => rfl), PySem.W.mg_of X G a6⟩,
    ⟨f7, _, fun_mk (st := s_notion_terms) l7 c7 k7, (fun_mk (st := s_notion_terms) l7 c7 k7).binds (ps := ["thing"]) (fun _ _ _ _ _ _ us hl => match us, hl with | [_], _ => rfl), PySem.W.mg_of X G a7⟩,
    ⟨f8, _, fun_mk (st := s_kind_of) l8 c8 k8, (fun_mk (st := s_kind_of) l8 c8 k8).binds (ps := ["place"]) (fun _ _ _ _ _ _ us hl => match us, hl with | [_], _ => rfl), PySem.W.mg_of X G a8⟩,
    ⟨f9, _, fun_mk (st := s_takes) l9 c9 k9, (fun_mk (st := s_takes) l9 c9 k9).binds (ps := ["notion", "places"]) (fun _ _ _ _ _ _ us hl => match us, hl with | [_, _], _ => rfl), PySem.W.mg_of X G a9⟩,
    ⟨f10, _, fun_mk (st := s_own_term) l10 c10 k10, (fun_mk (st := s_own_term) l10 c10 k10).binds (ps := ["notion"]) (fun _ _ _ _ _ _ us hl => match us, hl with | [_], _ => rfl), PySem.W.mg_of X G a10⟩,
    ⟨f11, _, fun_mk (st := s_stands) l11 c11 k11, (fun_mk (st := s_stands) l11 c11 k11).binds (ps := ["notion", "notions", "found"]) (fun _ _ _ _ _ _ us hl => match us, hl with | [_, _, _], _ => rfl), PySem.W.mg_of X G a11⟩,
    ⟨f12, _, fun_mk (st := s_firm) l12 c12 k12, (fun_mk (st := s_firm) l12 c12 k12).binds (ps := ["notions"]) (fun _ _ _ _ _ _ us hl => match us, hl with | [_], _ => rfl), PySem.W.mg_of X G a12⟩,
    ⟨f13, _, fun_mk (st := s_made_row) l13 c13 k13, (fun_mk (st := s_made_row) l13 c13 k13).binds (ps := ["size", "numbers"]) (fun _ _ _ _ _ _ us hl => match us, hl with | [_, _], _ => rfl), PySem.W.mg_of X G a13⟩,
    ⟨f14, _, fun_mk (st := s_number_at) l14 c14 k14, (fun_mk (st := s_number_at) l14 c14 k14).binds (ps := ["row", "place"]) (fun _ _ _ _ _ _ us hl => match us, hl with | [_, _], _ => rfl), PySem.W.mg_of X G a14⟩,
    ⟨f15, _, fun_mk (st := s_worth_of) l15 c15 k15, (fun_mk (st := s_worth_of) l15 c15 k15).binds (ps := ["thing", "table", "notions"]) (fun _ _ _ _ _ _ us hl => match us, hl with | [_, _, _], _ => rfl), PySem.W.mg_of X G a15⟩,
    ⟨f16, _, fun_mk (st := s__law_spread) l16 c16 k16, (fun_mk (st := s__law_spread) l16 c16 k16).binds (ps := ["_law_cell", "_law_at"]) (fun _ _ _ _ _ _ us hl => match us, hl with | [_, _], _ => rfl), PySem.W.mg_of X G a16⟩,
    ⟨f17, _, fun_mk (st := s__law_open) l17 c17 k17, (fun_mk (st := s__law_open) l17 c17 k17).binds (ps := ["_law_script"]) (fun _ _ _ _ _ _ us hl => match us, hl with | [_], _ => rfl), PySem.W.mg_of X G a17⟩,
    ⟨f18, _, fun_mk (st := s__law_take) l18 c18 k18, (fun_mk (st := s__law_take) l18 c18 k18).binds (ps := ["_law_pen", "_law_many"]) (fun _ _ _ _ _ _ us hl => match us, hl with | [_, _], _ => rfl), PySem.W.mg_of X G a18⟩,
    ⟨f19, _, fun_mk (st := s__law_same) l19 c19 k19, (fun_mk (st := s__law_same) l19 c19 k19).binds (ps := ["_law_found", "_law_due"]) (fun _ _ _ _ _ _ us hl => match us, hl with | [_, _], _ => rfl), PySem.W.mg_of X G a19⟩,
    ⟨f20, _, fun_mk (st := s__law_names) l20 c20 k20, (fun_mk (st := s__law_names) l20 c20 k20).binds (ps := ["_law_pen", "_law_many"]) (fun _ _ _ _ _ _ us hl => match us, hl with | [_, _], _ => rfl), PySem.W.mg_of X G a20⟩,
    ⟨f21, _, fun_mk (st := s__law_gnumber) l21 c21 k21, (fun_mk (st := s__law_gnumber) l21 c21 k21).binds (ps := ["_law_pen"]) (fun _ _ _ _ _ _ us hl => match us, hl with | [_], _ => rfl), PySem.W.mg_of X G a21⟩,
    ⟨f22, _, fun_mk (st := s__law_gletters) l22 c22 k22, (fun_mk (st := s__law_gletters) l22 c22 k22).binds (ps := ["_law_pen"]) (fun _ _ _ _ _ _ us hl => match us, hl with | [_], _ => rfl), PySem.W.mg_of X G a22⟩,
    ⟨f23, _, fun_mk (st := s__law_gplaces) l23 c23 k23, (fun_mk (st := s__law_gplaces) l23 c23 k23).binds (ps := ["_law_pen", "_law_deep", "_law_env", "_law_kinds"]) (fun _ _ _ _ _ _ us hl => match us, hl with | [_, _, _, _], _ => rfl), PySem.W.mg_of X G a23⟩,
    ⟨f24, _, fun_mk (st := s__law_gterm) l24 c24 k24, (fun_mk (st := s__law_gterm) l24 c24 k24).binds (ps := ["_law_pen", "_law_deep", "_law_env"]) (fun _ _ _ _ _ _ us hl => match us, hl with | [_, _, _], _ => rfl), PySem.W.mg_of X G a24⟩,
    ⟨f25, _, fun_mk (st := s__law_grow) l25 c25 k25, (fun_mk (st := s__law_grow) l25 c25 k25).binds (ps := ["_law_pen", "_law_deep", "_law_env"]) (fun _ _ _ _ _ _ us hl => match us, hl with | [_, _, _], _ => rfl), PySem.W.mg_of X G a25⟩,
    ⟨f26, _, fun_mk (st := s__law_gtable) l26 c26 k26, (fun_mk (st := s__law_gtable) l26 c26 k26).binds (ps := ["_law_pen", "_law_env"]) (fun _ _ _ _ _ _ us hl => match us, hl with | [_, _], _ => rfl), PySem.W.mg_of X G a26⟩,
    ⟨f27, _, fun_mk (st := s__law_gcan) l27 c27 k27, (fun_mk (st := s__law_gcan) l27 c27 k27).binds (ps := ["_law_table", "_law_letter", "_law_of_row"]) (fun _ _ _ _ _ _ us hl => match us, hl with | [_, _, _], _ => rfl), PySem.W.mg_of X G a27⟩,
    ⟨f28, _, fun_mk (st := s__law_gworth) l28 c28 k28, (fun_mk (st := s__law_gworth) l28 c28 k28).binds (ps := ["_law_term", "_law_table"]) (fun _ _ _ _ _ _ us hl => match us, hl with | [_, _], _ => rfl), PySem.W.mg_of X G a28⟩,
    ⟨f29, _, fun_mk (st := s__law_glacks) l29 c29 k29, (fun_mk (st := s__law_glacks) l29 c29 k29).binds (ps := ["_law_row", "_law_table"]) (fun _ _ _ _ _ _ us hl => match us, hl with | [_, _], _ => rfl), PySem.W.mg_of X G a29⟩,
    ⟨f30, _, fun_mk (st := s__law_gsize) l30 c30 k30, (fun_mk (st := s__law_gsize) l30 c30 k30).binds (ps := ["_law_row", "_law_table"]) (fun _ _ _ _ _ _ us hl => match us, hl with | [_, _], _ => rfl), PySem.W.mg_of X G a30⟩,
    ⟨f31, _, fun_mk (st := s__law_gat) l31 c31 k31, (fun_mk (st := s__law_gat) l31 c31 k31).binds (ps := ["_law_row", "_law_table", "_law_place"]) (fun _ _ _ _ _ _ us hl => match us, hl with | [_, _, _], _ => rfl), PySem.W.mg_of X G a31⟩,
    ⟨f32, _, fun_mk (st := s__law_gfull) l32 c32 k32, (fun_mk (st := s__law_gfull) l32 c32 k32).binds (ps := ["_law_row", "_law_table"]) (fun _ _ _ _ _ _ us hl => match us, hl with | [_, _], _ => rfl), PySem.W.mg_of X G a32⟩,
    ⟨f33, _, fun_mk (st := s__law_lamed) l33 c33 k33, (fun_mk (st := s__law_lamed) l33 c33 k33).binds (ps := ["_law_pen", "_law_table", "_law_env"]) (fun _ _ _ _ _ _ us hl => match us, hl with | [_, _, _], _ => rfl), PySem.W.mg_of X G a33⟩,
    ⟨f34, _, fun_mk (st := s__law_right) l34 c34 k34, (fun_mk (st := s__law_right) l34 c34 k34).binds (ps := ["_law_thing", "_law_table", "_law_due"]) (fun _ _ _ _ _ _ us hl => match us, hl with | [_, _, _], _ => rfl), PySem.W.mg_of X G a34⟩,
    ⟨f35, _, fun_mk (st := s_law) l35 c35 k35, (fun_mk (st := s_law) l35 c35 k35).binds (ps := ["_law_script"]) (fun _ _ _ _ _ _ us hl => match us, hl with | [_], _ => rfl), PySem.W.mg_of X G a35⟩,
    PySem.W.mg_none_of X G z1,
    PySem.W.mg_none_of X G z2,
    PySem.W.mg_none_of X G z3,
    PySem.W.mg_none_of X G z4,
    PySem.W.mg_none_of X G z5,
    PySem.W.mg_none_of X G z6,
    PySem.W.mg_none_of X G z7,
    PySem.W.mg_none_of X G z8,
    PySem.W.mg_none_of X G z9,
    PySem.W.mg_none_of X G z10,
    PySem.W.mg_none_of X G z11,
    PySem.W.mg_none_of X G z12,
    PySem.W.mg_none_of X G z13,
    PySem.W.mg_none_of X G z14,
    PySem.W.mg_none_of X G z15,
    ⟨mC0, ⟨⟨⟨mC0pg, mC0hd, mC0po, mC0sa⟩, PySem.W.mg_of X G mC0aC, mC0mk, mC0kc, ⟨fmmC0_0, _, fun_mk (st := s_Look___init__) mC0l0 mC0c0 mC0k0, (fun_mk (st := s_Look___init__) mC0l0 mC0c0 mC0k0).binds (ps := ["self", "notions"]) (fun _ _ _ _ _ _ us hl => match us, hl with | [_, _], _ => rfl), ⟨mC0a0, mC0i0, mC0k0⟩⟩⟩, mC0n_notions, mC0n_firm, mC0n_count, mC0n_first, ⟨fmmC0_1, _, _, funD_mk (st := s_Look_one_more) mC0l1 mC0c1 mC0k1, (funD_mk (st := s_Look_one_more) mC0l1 mC0c1 mC0k1).bindsN (ps := ["self"]) (fun _ _ _ _ _ _ us hl => match us, hl with | [_], _ => rfl), ⟨mC0a1, mC0i1, mC0k1⟩⟩, ⟨fmmC0_2, _, _, funD_mk (st := s_Look_letter_at) mC0l2 mC0c2 mC0k2, ⟨fun s us ws _ h1 h2 => match us, ws, h1, h2 with | [_, _, _], [_], _, _ => .of_eq rfl, fun r1 r2 => vals_app r1 r2⟩, ⟨mC0a2, mC0i2, mC0k2⟩⟩, ⟨fmmC0_3, _, _, funD_mk1 (st := s_Look_reckon) mC0l3 mC0c3 mC0k3 mC0t3, ⟨(by obtain ⟨ds, h1, h2⟩ := ((funD_mk1 (st := s_Look_reckon) mC0l3 mC0c3 mC0k3 mC0t3).binds1 (ps := ["self", "term", "table", "known"]) 4 1 (by simp) rfl (fun _ _ _ _ _ _ _ us its h1 h2 => match us, its, h1, h2 with | [_, _, _, _], [_], _, _ => ⟨_, rfl, rfl⟩)); rw [vals_nil' h1] at h2; exact h2), ((funD_mk1 (st := s_Look_reckon) mC0l3 mC0c3 mC0k3 mC0t3).binds1 (ps := ["self", "term", "table", "known"]) 3 0 (by simp) rfl (fun _ _ _ _ _ _ _ us its h1 h2 => match us, its, h1, h2 with | [_, _, _], [_], _, _ => ⟨_, rfl, rfl⟩))⟩, ⟨mC0a3, mC0i3, mC0k3⟩⟩, ⟨fmmC0_4, _, _, funD_mk (st := s_Look_reckon_number) mC0l4 mC0c4 mC0k4, (funD_mk (st := s_Look_reckon_number) mC0l4 mC0c4 mC0k4).bindsN (ps := ["self", "term", "parts"]) (fun _ _ _ _ _ _ us hl => match us, hl with | [_, _, _], _ => rfl), ⟨mC0a4, mC0i4, mC0k4⟩⟩, ⟨fmmC0_5, _, _, funD_mk (st := s_Look_reckon_row) mC0l5 mC0c5 mC0k5, (funD_mk (st := s_Look_reckon_row) mC0l5 mC0c5 mC0k5).bindsN (ps := ["self", "term", "parts"]) (fun _ _ _ _ _ _ us hl => match us, hl with | [_, _, _], _ => rfl), ⟨mC0a5, mC0i5, mC0k5⟩⟩, ⟨fmmC0_6, _, _, funD_mk (st := s_Look_reckon_notion) mC0l6 mC0c6 mC0k6, (funD_mk (st := s_Look_reckon_notion) mC0l6 mC0c6 mC0k6).bindsN (ps := ["self", "term", "parts"]) (fun _ _ _ _ _ _ us hl => match us, hl with | [_, _, _], _ => rfl), ⟨mC0a6, mC0i6, mC0k6⟩⟩, ⟨fmmC0_7, _, _, funD_mk (st := s_Look_opened) mC0l7 mC0c7 mC0k7, (funD_mk (st := s_Look_opened) mC0l7 mC0c7 mC0k7).bindsN (ps := ["self", "notion", "parts"]) (fun _ _ _ _ _ _ us hl => match us, hl with | [_, _, _], _ => rfl), ⟨mC0a7, mC0i7, mC0k7⟩⟩, ⟨fmmC0_8, _, _, funD_mk (st := s_Look_closing) mC0l8 mC0c8 mC0k8, (funD_mk (st := s_Look_closing) mC0l8 mC0c8 mC0k8).bindsN (ps := ["self", "name", "more", "tables", "found"]) (fun _ _ _ _ _ _ us hl => match us, hl with | [_, _, _, _, _], _ => rfl), ⟨mC0a8, mC0i8, mC0k8⟩⟩, ⟨fmmC0_9, _, _, funD_mk (st := s_Look_is_so) mC0l9 mC0c9 mC0k9, (funD_mk (st := s_Look_is_so) mC0l9 mC0c9 mC0k9).bindsN (ps := ["self", "saying", "table"]) (fun _ _ _ _ _ _ us hl => match us, hl with | [_, _, _], _ => rfl), ⟨mC0a9, mC0i9, mC0k9⟩⟩, ⟨fmmC0_10, _, _, funD_mk (st := s_Look_is_all_so) mC0l10 mC0c10 mC0k10, (funD_mk (st := s_Look_is_all_so) mC0l10 mC0c10 mC0k10).bindsN (ps := ["self", "saying", "table"]) (fun _ _ _ _ _ _ us hl => match us, hl with | [_, _, _], _ => rfl), ⟨mC0a10, mC0i10, mC0k10⟩⟩⟩⟩,
    ⟨tf0, ⟨PySem.W.mg_of X G tba0, ⟨te0, tn0, tbl0, tbk0, tbt0⟩, tbo0⟩⟩,
    ⟨_, PySem.W.mg_of X G kglb0, ⟨_, rfl⟩⟩,
    ⟨_, PySem.W.mg_of X G kglb1, ⟨_, rfl⟩⟩⟩
end LW
open PySem PySem.W PyProof.Rows
set_option maxRecDepth 100000 in
set_option maxHeartbeats 0 in
theorem PySem.Challenge.cw_leapwork_k02_worths_of_terms_and_rows_holds : PySem.Challenge.rw_leapwork_k02_worths_of_terms_and_rows.Holds := by
  w_on; o_law; k_head; (case hw => w_witness2)
  k_fill
  refine LW.walkG (l := PySem.Challenge.rw_leapwork_k02_worths_of_terms_and_rows) (n := 63) (k := 60) (x := "_law_script") (sp := fun w => LW.spLaw _) rfl (by decide) rfl ⟨rfl, by decide, by decide⟩ (fun w h Y => PySem.W.kIn_of Y) ?F (fun _ _ a ns hl _ hS => ⟨a, ns, rfl, hS, hl, fun _ => rfl⟩)
  case F =>
    intro w mg fa h KX G hmg
    refine' LW.law_end (LW.all_mk (w := w) KX G ?a1 ?l1 ?c1 ?k1 ?a2 ?l2 ?c2 ?k2 ?a3 ?l3 ?c3 ?k3 ?a4 ?l4 ?c4 ?k4 ?a5 ?l5 ?c5 ?k5 ?a6 ?l6 ?c6 ?k6 ?a7 ?l7 ?c7 ?k7 ?a8 ?l8 ?c8 ?k8 ?a9 ?l9 ?c9 ?k9 ?a10 ?l10 ?c10 ?k10 ?a11 ?l11 ?c11 ?k11 ?a12 ?l12 ?c12 ?k12 ?a13 ?l13 ?c13 ?k13 ?a14 ?l14 ?c14 ?k14 ?a15 ?l15 ?c15 ?k15 ?a16 ?l16 ?c16 ?k16 ?a17 ?l17 ?c17 ?k17 ?a18 ?l18 ?c18 ?k18 ?a19 ?l19 ?c19 ?k19 ?a20 ?l20 ?c20 ?k20 ?a21 ?l21 ?c21 ?k21 ?a22 ?l22 ?c22 ?k22 ?a23 ?l23 ?c23 ?k23 ?a24 ?l24 ?c24 ?k24 ?a25 ?l25 ?c25 ?k25 ?a26 ?l26 ?c26 ?k26 ?a27 ?l27 ?c27 ?k27 ?a28 ?l28 ?c28 ?k28 ?a29 ?l29 ?c29 ?k29 ?a30 ?l30 ?c30 ?k30 ?a31 ?l31 ?c31 ?k31 ?a32 ?l32 ?c32 ?k32 ?a33 ?l33 ?c33 ?k33 ?a34 ?l34 ?c34 ?k34 ?a35 ?l35 ?c35 ?k35 ?z1 ?z2 ?z3 ?z4 ?z5 ?z6 ?z7 ?z8 ?z9 ?z10 ?z11 ?z12 ?z13 ?z14 ?z15 ?mC0aC ?mC0pg ?mC0hd ?mC0po ?mC0sa ?mC0mk ?mC0kc ?mC0n_notions ?mC0n_firm ?mC0n_count ?mC0n_first ?mC0a0 ?mC0i0 ?mC0l0 ?mC0c0 ?mC0k0 ?mC0a1 ?mC0i1 ?mC0l1 ?mC0c1 ?mC0k1 ?mC0a2 ?mC0i2 ?mC0l2 ?mC0c2 ?mC0k2 ?mC0a3 ?mC0i3 ?mC0l3 ?mC0c3 ?mC0k3 ?mC0t3 ?mC0a4 ?mC0i4 ?mC0l4 ?mC0c4 ?mC0k4 ?mC0a5 ?mC0i5 ?mC0l5 ?mC0c5 ?mC0k5 ?mC0a6 ?mC0i6 ?mC0l6 ?mC0c6 ?mC0k6 ?mC0a7 ?mC0i7 ?mC0l7 ?mC0c7 ?mC0k7 ?mC0a8 ?mC0i8 ?mC0l8 ?mC0c8 ?mC0k8 ?mC0a9 ?mC0i9 ?mC0l9 ?mC0c9 ?mC0k9 ?mC0a10 ?mC0i10 ?mC0l10 ?mC0c10 ?mC0k10 ?tba0 ?tbl0 ?tbk0 ?tbo0 ?tbt0 ?kglb0 ?kglb1) hmg
    (case a1 => k_is); (case l1 => k_is); (case c1 => k_is); (case k1 => k_is)
    (case a2 => k_is); (case l2 => k_is); (case c2 => k_is); (case k2 => k_is)
    (case a3 => k_is); (case l3 => k_is); (case c3 => k_is); (case k3 => k_is)
    (case a4 => k_is); (case l4 => k_is); (case c4 => k_is); (case k4 => k_is)
    (case a5 => k_is); (case l5 => k_is); (case c5 => k_is); (case k5 => k_is)
    (case a6 => k_is); (case l6 => k_is); (case c6 => k_is); (case k6 => k_is)
    (case a7 => k_is); (case l7 => k_is); (case c7 => k_is); (case k7 => k_is)
    (case a8 => k_is); (case l8 => k_is); (case c8 => k_is); (case k8 => k_is)
    (case a9 => k_is); (case l9 => k_is); (case c9 => k_is); (case k9 => k_is)
    (case a10 => k_is); (case l10 => k_is); (case c10 => k_is); (case k10 => k_is)
    (case a11 => k_is); (case l11 => k_is); (case c11 => k_is); (case k11 => k_is)
    (case a12 => k_is); (case l12 => k_is); (case c12 => k_is); (case k12 => k_is)
    (case a13 => k_is); (case l13 => k_is); (case c13 => k_is); (case k13 => k_is)
    (case a14 => k_is); (case l14 => k_is); (case c14 => k_is); (case k14 => k_is)
    (case a15 => k_is); (case l15 => k_is); (case c15 => k_is); (case k15 => k_is)
    (case a16 => k_is); (case l16 => k_is); (case c16 => k_is); (case k16 => k_is)
    (case a17 => k_is); (case l17 => k_is); (case c17 => k_is); (case k17 => k_is)
    (case a18 => k_is); (case l18 => k_is); (case c18 => k_is); (case k18 => k_is)
    (case a19 => k_is); (case l19 => k_is); (case c19 => k_is); (case k19 => k_is)
    (case a20 => k_is); (case l20 => k_is); (case c20 => k_is); (case k20 => k_is)
    (case a21 => k_is); (case l21 => k_is); (case c21 => k_is); (case k21 => k_is)
    (case a22 => k_is); (case l22 => k_is); (case c22 => k_is); (case k22 => k_is)
    (case a23 => k_is); (case l23 => k_is); (case c23 => k_is); (case k23 => k_is)
    (case a24 => k_is); (case l24 => k_is); (case c24 => k_is); (case k24 => k_is)
    (case a25 => k_is); (case l25 => k_is); (case c25 => k_is); (case k25 => k_is)
    (case a26 => k_is); (case l26 => k_is); (case c26 => k_is); (case k26 => k_is)
    (case a27 => k_is); (case l27 => k_is); (case c27 => k_is); (case k27 => k_is)
    (case a28 => k_is); (case l28 => k_is); (case c28 => k_is); (case k28 => k_is)
    (case a29 => k_is); (case l29 => k_is); (case c29 => k_is); (case k29 => k_is)
    (case a30 => k_is); (case l30 => k_is); (case c30 => k_is); (case k30 => k_is)
    (case a31 => k_is); (case l31 => k_is); (case c31 => k_is); (case k31 => k_is)
    (case a32 => k_is); (case l32 => k_is); (case c32 => k_is); (case k32 => k_is)
    (case a33 => k_is); (case l33 => k_is); (case c33 => k_is); (case k33 => k_is)
    (case a34 => k_is); (case l34 => k_is); (case c34 => k_is); (case k34 => k_is)
    (case a35 => k_is); (case l35 => k_is); (case c35 => k_is); (case k35 => k_is)
    (case z1 => k_is)
    (case z2 => k_is)
    (case z3 => k_is)
    (case z4 => k_is)
    (case z5 => k_is)
    (case z6 => k_is)
    (case z7 => k_is)
    (case z8 => k_is)
    (case z9 => k_is)
    (case z10 => k_is)
    (case z11 => k_is)
    (case z12 => k_is)
    (case z13 => k_is)
    (case z14 => k_is)
    (case z15 => k_is)
    (case mC0aC => k_is)
    (case mC0pg => k_is)
    (case mC0hd => k_is)
    (case mC0po => k_is)
    (case mC0sa => k_is)
    (case mC0mk => k_is)
    (case mC0kc => k_is)
    (case mC0n_notions => k_is)
    (case mC0n_firm => k_is)
    (case mC0n_count => k_is)
    (case mC0n_first => k_is)
    (case mC0a0 => k_is)
    (case mC0i0 => k_is)
    (case mC0l0 => k_is)
    (case mC0c0 => k_is)
    (case mC0k0 => k_is)
    (case mC0a1 => k_is)
    (case mC0i1 => k_is)
    (case mC0l1 => k_is)
    (case mC0c1 => k_is)
    (case mC0k1 => k_is)
    (case mC0a2 => k_is)
    (case mC0i2 => k_is)
    (case mC0l2 => k_is)
    (case mC0c2 => k_is)
    (case mC0k2 => k_is)
    (case mC0a3 => k_is)
    (case mC0i3 => k_is)
    (case mC0l3 => k_is)
    (case mC0c3 => k_is)
    (case mC0k3 => k_is)
    (case mC0t3 => k_is)
    (case mC0a4 => k_is)
    (case mC0i4 => k_is)
    (case mC0l4 => k_is)
    (case mC0c4 => k_is)
    (case mC0k4 => k_is)
    (case mC0a5 => k_is)
    (case mC0i5 => k_is)
    (case mC0l5 => k_is)
    (case mC0c5 => k_is)
    (case mC0k5 => k_is)
    (case mC0a6 => k_is)
    (case mC0i6 => k_is)
    (case mC0l6 => k_is)
    (case mC0c6 => k_is)
    (case mC0k6 => k_is)
    (case mC0a7 => k_is)
    (case mC0i7 => k_is)
    (case mC0l7 => k_is)
    (case mC0c7 => k_is)
    (case mC0k7 => k_is)
    (case mC0a8 => k_is)
    (case mC0i8 => k_is)
    (case mC0l8 => k_is)
    (case mC0c8 => k_is)
    (case mC0k8 => k_is)
    (case mC0a9 => k_is)
    (case mC0i9 => k_is)
    (case mC0l9 => k_is)
    (case mC0c9 => k_is)
    (case mC0k9 => k_is)
    (case mC0a10 => k_is)
    (case mC0i10 => k_is)
    (case mC0l10 => k_is)
    (case mC0c10 => k_is)
    (case mC0k10 => k_is)
    (case tba0 => k_is)
    (case tbl0 => k_is)
    (case tbk0 => k_keys)
    (case tbo0 => decide)
    (case tbt0 => first | k_is | rfl | decide +kernel)
    (case kglb0 => k_is)
    (case kglb1 => k_is)
#print axioms PySem.Challenge.cw_leapwork_k02_worths_of_terms_and_rows_holds
