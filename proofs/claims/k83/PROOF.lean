
import PyProof.Rows.All
import Wide.All
import OpenK.AllK
import Wide.FinOn
import HandS.ForMost
import HandS.IsInst
import HandS.Conv
import HandS.Style
import HandS.Wide
import HandS.Walk
import HandS.Zip
import HandS.Deep
import HandS.TupMul
import HandS.RaiseMore
import HandS.TupAny
import HandS.ExcInit
import HandS.Exc
import HandS.ExcOwn
import HandS.ExcIs
import HandS.WordsExc
import HandS.ExcField
import HandS.More
import HandS.DictComp
import HandS.DictEq
import HandS.Small
import HandS.Defaults
import KE.KExcIs
import KE.KDictPairs
import HandS.NoneIn
import HandS.DictTup
import HandS.SortRule
import KE.GoesEnumKw
import HandS.Codes
import PySem.Challenge.RW_leapwork_k83_each_list_has_its_number
set_option Elab.async false
set_option linter.all false
set_option maxRecDepth 100000
set_option maxHeartbeats 4000000
namespace LW
open PySem PySem.Spec PyProof.Rows L2 RZ
/-! ### promises that are asked only where no repr is under way (A.guards = some []) -/
structure FnG (P : Program) (w : World) (K : PySem.W.Frag) (mg : Str → Option Value) (base : Heap) (k : Nat) (f : Addr) (fd : FuncData) (ps : List Str) (sp : Sp) : Prop where
  len : ∀ vs H Q E, sp vs H Q E → vs.length = ps.length
  run : ∀ (A : Around) (fs : List Env) (s : Shared) (H : Hp) (ar : Args) (us : List Value) (vs : List V) (Q : VK) (E : XK), Room k A → A.guards = some [] → Env0 P w K mg base A fs s H → BindsTo s fd ar (ps.zip us) → Vals vs us → sp vs H Q E →
    codeAny (model P w) A (.call (.ref f) ar) (CR CX0 fs P w H s Q E) s
section
variable {P : Program} {w : World} {K : PySem.W.Frag} {mg : Str → Option Value} {base : Heap}
theorem FnG.mono {j k : Nat} {f : Addr} {fd : FuncData} {ps : List Str} {sp : Sp} (F : FnG P w K mg base j f fd ps sp) (h : j ≤ k) : FnG P w K mg base k f fd ps sp :=
  ⟨F.len, fun A fs s H ar us vs Q E hr => F.run A fs s H ar us vs Q E (hr.mono h)⟩
theorem FnG.imp {k : Nat} {f : Addr} {fd : FuncData} {ps : List Str} {sp sp' : Sp} (F : FnG P w K mg base k f fd ps sp) (h : ∀ vs H Q E, sp' vs H Q E → sp vs H Q E) : FnG P w K mg base k f fd ps sp' :=
  ⟨fun vs H Q E q => F.len vs H Q E (h _ _ _ _ q), fun A fs s H ar us vs Q E hr hg he hb hv q => F.run A fs s H ar us vs Q E hr hg he hb hv (h _ _ _ _ q)⟩
theorem FnOk.g {k : Nat} {f : Addr} {fd : FuncData} {ps : List Str} {sp : Sp} (F : FnOk P w K mg base CX0 k f fd ps sp) : FnG P w K mg base k f fd ps sp :=
  ⟨F.len, fun A fs s H ar us vs Q E hr _ => F.run A fs s H ar us vs Q E hr⟩
/-- a def by its body -/
theorem Fun.okG {x q : Str} {st : Stmt} {f : Addr} {fd : FuncData} {N ps : List Str} {k : Nat} {sp : Sp} (F : Fun K x q st f fd) (S : FnScope N ps (defScope st)) (len : ∀ vs H Q E, sp vs H Q E → vs.length = ps.length)
    (hbody : ∀ (cdv : Value) (A : Around) (fs : List Env) (s : Shared) (H : Hp) (vs : List V) (Q : VK) (E : XK), Room k (A.deeper (envOfC q (defScope st) s.heap.objs.size f cdv)) → A.guards = some [] → sp vs H Q E →
      ∃ t, PSs (cxOf CX0 P w K mg base N q (defScope st) f cdv A fs s H E).nox (defBody st) t ∧ t { nx := fun _ H' => Q .non H', rt := Q } (start N vs) H) : FnG P w K mg base (k + 1) f fd ps sp := by
  obtain ⟨oc, od, kV, doc, pm, an, cdv, ct, osl, rfl, lk, hcd⟩ := F.ex
  refine ⟨len, fun A fs s H ar us vs Q E hr hg e0 hb rv hsp => ?_⟩
  have kin : K.In s.heap := e0.mod.kin.keeps fun b o z => (e0.bs b o z).1
  have nl : s.heap.NoLimit := e0.mod.nolimit.keeps fun b o z => (e0.bs b o z).1
  have loc : ∀ y ∈ ps.zip us, (defScope st).names.lookup y.1 = some .local ∨ ((defScope st).names.lookup y.1 = some .cell ∧ ((cellsFrom (s.heap.objs.size + 1) (defScope st).names []).lookup y.1).isSome = true) := by
    rintro ⟨n, v⟩ hy
    exact (S.par n (List.of_mem_zip hy).1).imp_right fun z => ⟨z, PySem.W.cellsFrom_some _ _ _ (.inl z)⟩
  refine codeAny_call_function hr.depth (kin _ _ lk) rfl S.co S.gen rfl (PySem.W.codeRec_of kin hcd) (hb _ _ _ _ (wpAny_newFunctionEnv_cells S.kind loc fun env he s1 x => ?_))
  subst he
  refine ⟨nl.keeps x.toInCall.keep, codeAny_func ?_⟩
  obtain ⟨t, ht, hq⟩ := hbody cdv A fs s H vs Q E (hr.deeper _) hg hsp
  have J0 := inv_start (CX := CX0) (E := E) S hr.hd e0 (len _ _ _ _ hsp) rv x
  refine wpAny_mono (ht.nox.run [] s1 (start N vs) H _ J0 hq) (fun fl s' hs => ?_) (fun _ _ z => z)
  cases fl with
  | ret u =>
    obtain ⟨v, σ', H', J, r', q'⟩ := hs
    exact ⟨v, H', J.os, J.bare, J.base, J.hok, r', q'⟩
  | next =>
    obtain ⟨σ', H', J, q'⟩ := hs
    exact ⟨V.non, H', J.os, J.bare, J.base, J.hok, rfl, q'⟩
  | brk => exact (hs.elim fun _ z => z.elim fun _ z => z.2.elim)
  | cont => exact (hs.elim fun _ z => z.elim fun _ z => z.2.elim)
end
section
variable {X : Cx} {k : Nat} {f : Addr} {fd : FuncData} {ps : List Str} {sp : Sp}
theorem runG {pins : List (Addr × Obj)} {σ : L2.St} {H : Hp} {s : Shared} {Q : VK} {us : List Value} {vs : List V} (F : FnG X.prog X.w X.K X.mg X.base k f fd ps sp) (hr : Room k X.A) (hg : X.A.guards = some []) (hb : Binds X.K fd ps [])
    (I : Inv X pins σ H s) (rv : Vals vs us) (h : sp vs H Q E0) : wpAny (model X.prog X.w) X.A (call (.ref f) us) (EP X pins σ Q) X.xe s := by
  have hl : (us ++ []).length = ps.length := by rw [List.append_nil, ← rv.length]; exact F.len _ _ _ _ h
  have b := hb s us I.kIn hl
  rw [List.append_nil] at b
  refine wpAny_call (codeAny_mono (F.run X.A X.stack s H ⟨us, []⟩ us vs Q E0 hr hg I.env0 b rv h) fun r s' z => ?_)
  match r, z with
  | .ok (.ret u), z => exact I.after z
  | .ok .next, z => exact False.elim z
  | .ok .brk, z => exact False.elim z
  | .ok .cont, z => exact False.elim z
  | .error e, z => exact False.elim z
end
section
variable {X : Cx} {k : Nat} {f : Addr} {fd : FuncData} {ps : List Str} {sp : Sp} {x : Str} {e : Expr} {es : List Expr} {t : TA} {p pos : Pos}
theorem pe_callG (F : FnG X.prog X.w X.K X.mg X.base k f fd ps sp) (hr : Room k X.A) (hg : X.A.guards = some []) (gl : Gl X x) (hm : X.mg x = some (.ref f)) (hk : PySem.W.keepIn X.K (.ref f) = true) (hb : Binds X.K fd ps [])
    (ha : PA X (e :: es) t) (hdb : (x == ("__debug__" : Str)) = false := by decide) (he : starEach (e :: es) X.env = (false, eval e X.env) :: starEach es X.env := by rfl) (hpl : (backTo pos (starEach es X.env)).any (·.1) = false := by rfl) :
    PE X (.Call (.Name x p) (e :: es) [] pos) (tCall sp [] E0 t) :=
  ⟨fun pins s σ H Q I h => wpAny_Call_Name_kw (ld_glob I gl hm (PySem.W.callWith_K (h₀ := X.base) I.ok.mod.kin hk (thn (ha.run pos pins s σ H _ I h) fun us s1 ⟨vs, H1, I1, r, q⟩ => ⟨I1.kIn, runG F hr hg hb I1 r (by have q' : sp (vs ++ []) H1 Q E0 := q; rwa [List.append_nil] at q')⟩) he hpl) hdb)⟩
theorem pe_callG0 (F : FnG X.prog X.w X.K X.mg X.base k f fd ps sp) (hr : Room k X.A) (hg : X.A.guards = some []) (gl : Gl X x) (hm : X.mg x = some (.ref f)) (hk : PySem.W.keepIn X.K (.ref f) = true) (hb : Binds X.K fd ps [])
    (hdb : (x == ("__debug__" : Str)) = false := by decide) : PE X (.Call (.Name x p) [] [] pos) (tCall sp [] E0 tNil) :=
  ⟨fun pins s σ H Q I h => wpAny_Call_Name_kw (ld_glob I gl hm (PySem.W.callWith_K0 I.kIn hk (runG (us := []) (vs := []) F hr hg hb I .nil h)) hdb)⟩
end
/-! ### the law's call -/
theorem lawG {P : Program} {w : World} {K : PySem.W.Frag} {mg mb : Str → Option Value} {k : Nat} {fa a : Addr} {fd : FuncData} {x : Str} {sp : Sp} {s1 : Shared} {vs : List Value} {ns : List Int}
    (KX : K.In s1.heap) (g1 : s1.heap.Ns mainGlobals mg) (g2 : s1.heap.Ns builtinsNs mb) (g3 : ∀ x : Str, x ≠ "__name__" → mb x = bootBuiltins x) (g4 : s1.heap.NoLimit) (g5 : s1.gens = #[])
    (ha : s1.heap.get? a = some { cls := .type "list", data := .seq vs.toArray }) (hi : IntsAre vs ns) (hl : ns.length ≤ sizeLine) (hr : Room k callerA)
    (F : ∀ base : Heap, K.In base → base.Ns mainGlobals mg → FnG P w K mg base k fa fd [x] sp) (bi : ∀ (s : Shared) (u : Value), BindsTo s fd ⟨[u], []⟩ [(x, u)])
    (hsp : ∀ H : Hp, Only H → SqL K H a (ns.map V.int) → sp [.ref a] H (fun v _ => v = .bl true) fun _ _ _ => False) :
    codeAny (model P w) callerA (.call (.ref fa) ⟨[.ref a], []⟩) (fun r s' => r = .ok (.ret (.bool true)) ∧ OldK s1.heap s'.heap ∧ s'.os = s1.os ∧ AllBare s'.gens) s1 := by
  have rv := vals_ints hi
  have lv := hi.length
  suffices core : ∀ H : Hp, Only H → SqL K H a (ns.map V.int) → HOk P w H s1.heap → (∀ b, H b ≠ none → b = a) → (H a ≠ none → K.lookup a = none) →
      codeAny (model P w) callerA (.call (.ref fa) ⟨[.ref a], []⟩) (fun r s' => r = .ok (.ret (.bool true)) ∧ OldK s1.heap s'.heap ∧ s'.os = s1.os ∧ AllBare s'.gens) s1 by
    rcases hk : K.lookup a with _ | o
    · let H1 : Hp := fun b => if b = a then some (.frz { cls := .type "list", data := .seq vs.toArray } (.lst (ns.map V.int))) else none
      have h1 : H1 a = some (.frz { cls := .type "list", data := .seq vs.toArray } (.lst (ns.map V.int))) := if_pos rfl
      have h2 : ∀ b, b ≠ a → H1 b = none := fun b n => if_neg n
      refine core H1 (fun b => ?_) (.inl (.inr ⟨_, h1⟩)) (fun b u z => ?_) (fun b z => Classical.byContradiction fun n => z (h2 b n)) (fun _ => hk)
      · rcases Classical.em (b = a) with rfl | n
        · exact .inr ⟨_, _, h1⟩
        · exact .inl (h2 b n)
      · rcases Classical.em (b = a) with rfl | n
        · rw [h1] at z
          cases z
          exact ⟨ha, by rw [List.length_map]; exact hl, vs, _, rv, ha⟩
        · rw [h2 b n] at z
          cases z
    · have e := KX a o hk
      rw [ha] at e
      cases e
      exact core (fun _ => none) (fun _ => .inl rfl) (.inr ⟨_, vs.toArray, _, hk, rfl, rfl, rfl, by rw [List.size_toArray, lv]; exact hl, by simpa using rv⟩) (fun b u z => by cases (show (none : Option HO) = some u from z)) (fun b z => absurd rfl z) (fun z => absurd rfl z)
  intro H hO hS hok hA hK
  have free : ∀ {b : Addr}, b ≠ a → H b = none := fun {b} n => Classical.byContradiction fun z => n (hA b z)
  have nodict : ∀ {b : Addr} {o : Obj} {es : Array DictEntry} {ep : Nat}, s1.heap.get? b = some o → o.data = .dict es ep → H b = none := fun {b o es ep} z d => free fun y => by
    subst y
    rw [ha] at z
    cases z
    cases (show Data.seq vs.toArray _ = Data.dict es ep from d)
  have ns' : ∀ {b : Addr} {m : Str → Option Value}, s1.heap.Ns b m → (hidT s1.heap H).Ns b m := fun ⟨o, es, ep, z, d, r⟩ => ⟨o, es, ep, hidT_get z (nodict z d), d, r⟩
  have kin : K.In (hidT s1.heap H) := fun b o z => hidT_get (KX b o z) (Classical.byContradiction fun y => by
    have e := hA b y
    subst e
    rw [hK y] at z
    cases z)
  have e0 : Env0 P w K mg (hidT s1.heap H) callerA [] s1 H := ⟨rfl, ⟨kin, ns' g1, ⟨mb, ns' g2, g3⟩, let ⟨mc, z1, z2⟩ := g4; ⟨mc, ns' z1, z2⟩⟩, (fun b o z => of_hidT z), Nat.le_of_eq (hidT_size _ _), trivial, (fun b z => nomatch (show b ∈ ([] : List Addr) from z)), hok, .of_eq g5⟩
  refine codeAny_mono ((F _ kin (ns' g1)).run callerA [] s1 H ⟨[.ref a], []⟩ [.ref a] [.ref a] _ _ hr rfl e0 (bi s1 (.ref a)) (.cons rfl .nil) (hsp H hO hS)) fun r s' z => ?_
  match r, z with
  | .ok .next, z => exact False.elim z
  | .ok .brk, z => exact False.elim z
  | .ok .cont, z => exact False.elim z
  | .error e, z => exact False.elim z
  | .ok (.ret u), z =>
    obtain ⟨v, H', os, bare, un, hok', r', q⟩ := z
    have q : v = .bl true := q
    subst q
    obtain rfl : u = Value.bool true := r'
    refine ⟨rfl, OldK.of_keep fun b o z => ?_, os, bare⟩
    rcases hO b with y | ⟨ob, xs, y⟩
    · exact un.keep b o z y (fun y => nomatch (show b ∈ ([] : List Addr) from y)) (by simp)
    · obtain ⟨z1, _⟩ := hok b _ y
      obtain ⟨z2, _⟩ := hok' b _ (un.frzs b ob _ y)
      rw [z] at z1
      cases z1
      exact z2
theorem walkG {l : PySem.W.OpenLaw} {n k : Nat} {q : Program} {loose : List Str} {XP : (Str → Option Value) → Heap → Prop} {YP : World → Heap → Prop} {d : DefRec} {K : Params → PySem.W.Frag} {sp : World → Sp} {x : Str}
    (hn : l.most = some n) (hn2 : n ≤ sizeLine) (hdf : d.params.defaults = []) (hr : Room k callerA) (hY : ∀ (w : World) (h : Heap), YP w h → (K w.params).In h)
    (F : ∀ (w : World) (mg : Str → Option Value) (fa : Addr) (h : Heap), (K w.params).In h → h.Ns mainGlobals mg → mg d.name = some (.ref fa) →
      ∃ fd : FuncData, (∀ (s : Shared) (u : Value), BindsTo s fd ⟨[u], []⟩ [(x, u)]) ∧ ∀ base : Heap, (K w.params).In base → base.Ns mainGlobals mg → FnG l.prog w (K w.params) mg base k fa fd [x] (sp w))
    (hsp : ∀ (w : World) (H : Hp) (a : Addr) (ns : List Int), ns.length ≤ n → Only H → SqL (K w.params) H a (ns.map V.int) → sp w [.ref a] H (fun v _ => v = .bl true) fun _ _ _ => False) :
    PySem.W.WalkO q loose XP YP l.row.toRowW d [] (fun f vs => PySem.call f vs) :=
  Att.attach_call hn hdf fun w s0 s1 mg mb fa o pm cd doc a vs ns G Y ho hd hcd hmg hobj hints hlen hg => by
    obtain ⟨fd, hb, hF⟩ := F w mg fa _ (hY w _ Y) G.T.g hmg
    exact lawG (hY w _ Y) G.T.g G.T.b G.T.builtins G.T.nolimit hg hobj hints (Nat.le_trans hlen hn2) hr hF hb fun H hO hS => hsp w H a ns hlen hO hS
/-- room, and no repr under way -/
structure Rm (k : Nat) (A : Around) : Prop extends Room k A where
  gd : A.guards = some []
theorem Rm.mono {j k : Nat} {A : Around} (r : Rm k A) (h : j ≤ k) : Rm j A := ⟨r.toRoom.mono h, r.gd⟩

/-! ### shared words: a def of the text, its promise, calls -/
/-- a def of the text as it stands behind the top -/
def Df (K : PySem.W.Frag) (mg : Str → Option Value) (x : Str) (st : Stmt) (ps : List Str) : Prop :=
  ∃ (f : Addr) (fd : FuncData), Fun K x x st f fd ∧ Binds K fd ps [] ∧ mg x = some (.ref f)
/-- a def that keeps a promise -/
def Ok (P : Program) (w : World) (K : PySem.W.Frag) (mg : Str → Option Value) (base : Heap) (k : Nat) (x : Str) (ps : List Str) (sp : Sp) : Prop :=
  ∃ (f : Addr) (fd : FuncData), mg x = some (.ref f) ∧ PySem.W.keepIn K (.ref f) = true ∧ Binds K fd ps [] ∧ FnG P w K mg base k f fd ps sp
section
variable {P : Program} {w : World} {K : PySem.W.Frag} {mg : Str → Option Value} {base : Heap}
theorem Ok.mk {x : Str} {st : Stmt} {N ps : List Str} {k : Nat} {sp : Sp} (D : Df K mg x st ps) (S : FnScope N ps (defScope st)) (len : ∀ vs H Q E, sp vs H Q E → vs.length = ps.length)
    (hbody : ∀ (f : Addr) (cdv : Value) (A : Around) (outer : List Env) (s : Shared) (H : Hp) (vs : List V) (Q : VK) (E : XK), Rm k (A.deeper (envOfC x (defScope st) s.heap.objs.size f cdv)) → sp vs H Q E →
      ∃ t, PSs (cxOf CX0 P w K mg base N x (defScope st) f cdv A outer s H E).nox (defBody st) t ∧ t { nx := fun _ H' => Q .non H', rt := Q } (start N vs) H) : Ok P w K mg base (k + 1) x ps sp := by
  obtain ⟨f, fd, F, b, g⟩ := D
  exact ⟨f, fd, g, F.kp, b, Fun.okG F S len fun cdv A outer s H vs Q E hr hg h => hbody f cdv A outer s H vs Q E ⟨hr, hg⟩ h⟩
theorem Fn.mk {x : Str} {st : Stmt} {f : Addr} {fd : FuncData} {N ps : List Str} {k : Nat} {sp : Sp} (F : Fun K x x st f fd) (S : FnScope N ps (defScope st)) (len : ∀ vs H Q E, sp vs H Q E → vs.length = ps.length)
    (hbody : ∀ (f : Addr) (cdv : Value) (A : Around) (outer : List Env) (s : Shared) (H : Hp) (vs : List V) (Q : VK) (E : XK), Rm k (A.deeper (envOfC x (defScope st) s.heap.objs.size f cdv)) → sp vs H Q E →
      ∃ t, PSs (cxOf CX0 P w K mg base N x (defScope st) f cdv A outer s H E).nox (defBody st) t ∧ t { nx := fun _ H' => Q .non H', rt := Q } (start N vs) H) : FnG P w K mg base (k + 1) f fd ps sp :=
  Fun.okG F S len fun cdv A outer s H vs Q E hr hg h => hbody f cdv A outer s H vs Q E ⟨hr, hg⟩ h
theorem Ok.mono {x : Str} {ps : List Str} {j k : Nat} {sp : Sp} (h : Ok P w K mg base j x ps sp) (l : j ≤ k) : Ok P w K mg base k x ps sp := by
  obtain ⟨f, fd, hm, hk, hb, F⟩ := h
  exact ⟨f, fd, hm, hk, hb, F.mono l⟩
theorem Ok.imp {x : Str} {ps : List Str} {k : Nat} {sp sp' : Sp} (h : Ok P w K mg base k x ps sp) (q : ∀ vs H Q E, sp' vs H Q E → sp vs H Q E) : Ok P w K mg base k x ps sp' := by
  obtain ⟨f, fd, hm, hk, hb, F⟩ := h
  exact ⟨f, fd, hm, hk, hb, F.imp q⟩
end
section
variable {X : Cx}
theorem pe_fn {k : Nat} {x : Str} {ps : List Str} {sp : Sp} {e : Expr} {es : List Expr} {t : TA} {p pos : Pos} (O : Ok X.prog X.w X.K X.mg X.base k x ps sp) (hr : Rm k X.A) (hg : Gl X x) (ha : PA X (e :: es) t)
    (hdb : (x == ("__debug__" : Str)) = false := by decide) (he : starEach (e :: es) X.env = (false, eval e X.env) :: starEach es X.env := by rfl) (hpl : (backTo pos (starEach es X.env)).any (·.1) = false := by rfl) :
    PE X (.Call (.Name x p) (e :: es) [] pos) (tCall sp [] E0 t) := by
  obtain ⟨f, fd, hm, hk, hb, F⟩ := O
  exact pe_callG F hr.toRoom hr.gd hg hm hk hb ha hdb he hpl
theorem pe_fn0 {k : Nat} {x : Str} {ps : List Str} {sp : Sp} {p pos : Pos} (O : Ok X.prog X.w X.K X.mg X.base k x ps sp) (hr : Rm k X.A) (hg : Gl X x) (hdb : (x == ("__debug__" : Str)) = false := by decide) :
    PE X (.Call (.Name x p) [] [] pos) (tCall sp [] E0 tNil) := by
  obtain ⟨f, fd, hm, hk, hb, F⟩ := O
  exact pe_callG0 F hr.toRoom hr.gd hg hm hk hb hdb
/-- a name that is a local -/
theorem pg_nameL {i : Nat} {x : Str} {pos : Pos} (hN : X.N.Nodup) (hi : X.N[i]? = some x) (hx : X.env.scope.names.lookup x = some .local) : PG X (.Name x pos) (gName i) := pg_name hN hi (.inl hx) (.inr hx)
/-- xs[i], for xs[i] op= e -/
theorem get_list : PGet X (rIxL X.K) := by
  intro pins s σ H x y v u Q I rx ry h
  obtain ⟨p, xs, i, z, rfl, rfl, hq, he, q⟩ := h
  cases rx
  obtain ⟨t, rfl⟩ := ry
  obtain ⟨its, r, pl, hz⟩ := I.list hq
  obtain ⟨j, h1, h2, h3, h4, h5⟩ := atI_get he
  obtain ⟨w, ew, rw'⟩ := r.get h2
  have hl := r.length
  have hn := line63
  have fin : EP X pins σ Q w s := ⟨z, H, I, rw', q⟩
  by_cases h0 : 0 ≤ i
  · have hj : i.toNat = j := by
      rw [seqIndex_of h0 h5] at h1
      exact Option.some.inj h1
    exact wpAny_getItem_list pl.isList h0 (by omega) (by rw [hj]; simpa using ew) fin
  · have hj : (i + (its.toArray.size : Int)).toNat = j := by
      rw [seqIndex_neg (by omega) h4] at h1
      rw [List.size_toArray, ← hl]
      exact Option.some.inj h1
    exact wpAny_getItem_list_neg pl.isList (by omega) (by rw [List.size_toArray] <;> omega) (by omega) (by rw [hj]; simpa using ew) fin
end
/-! ### heaps -/
theorem same_upd {H : Hp} {p : Addr} {o : HO} (h : H p = none) : Same H (upd H p o) := fun b x e => by
  rw [upd_ne (ne_of_none e h)]
  exact e
/-- all but p is as it was -/
def But (p : Addr) (H H' : Hp) : Prop := ∀ b o, b ≠ p → H b = some o → H' b = some o
theorem But.refl (p : Addr) (H : Hp) : But p H H := fun _ _ _ h => h
theorem But.of {p : Addr} {H H' : Hp} (h : Same H H') : But p H H' := fun b o _ e => h b o e
theorem But.trans {p : Addr} {H H1 H2 : Hp} (a : But p H H1) (b : But p H1 H2) : But p H H2 := fun c o n h => b c o n (a c o n h)
theorem But.upd {p : Addr} {H : Hp} {o : HO} : But p H (upd H p o) := fun b x n e => by rw [upd_ne n]; exact e
theorem But.new {p q : Addr} {H : Hp} {o : HO} (h : H q = none) : But p H (L2.upd H q o) := But.of (same_upd h)
theorem But.free {p : Addr} {H H' : Hp} (e : But p H H') {l : Addr} (n : l ≠ p) (h : H' l = none) : H l = none := by
  cases q : H l with
  | none => rfl
  | some o => rw [e l o n q] at h; cases h
/-! ### the pen: [cells, at, rest] -/
/-- a pen at p, its cells at c, of which at most n were taken -/
structure Pen (H : Hp) (p c : Addr) (n : Nat) : Prop where
  pen : ∃ (at_ rest : Int), H p = some (.lst [.ref c, .int at_, .int rest]) ∧ 0 ≤ at_ ∧ at_ ≤ (n : Int) ∧ 0 ≤ rest
  cells : ∃ ns : List Int, H c = some (.lst (ns.map V.int))
  ne : c ≠ p
theorem Pen.but {H H' : Hp} {p c q : Addr} {n : Nat} (h : Pen H p c n) (b : But q H H') (n1 : p ≠ q) (n2 : c ≠ q) : Pen H' p c n := by
  obtain ⟨⟨a, r, e, z⟩, ⟨ns, e2⟩, ne⟩ := h
  exact ⟨⟨a, r, b _ _ n1 e, z⟩, ⟨ns, b _ _ n2 e2⟩, ne⟩
theorem Pen.same {H H' : Hp} {p c : Addr} {n : Nat} (h : Pen H p c n) (b : Same H H') : Pen H' p c n := by
  obtain ⟨⟨a, r, e, z⟩, ⟨ns, e2⟩, ne⟩ := h
  exact ⟨⟨a, r, b _ _ e, z⟩, ⟨ns, b _ _ e2⟩, ne⟩
theorem Pen.mono {H : Hp} {p c : Addr} {n m : Nat} (h : Pen H p c n) (l : n ≤ m) : Pen H p c m := by
  obtain ⟨⟨a, r, e, z1, z2, z3⟩, ns, ne⟩ := h
  exact ⟨⟨a, r, e, z1, by omega, z3⟩, ns, ne⟩
theorem Pen.new {H : Hp} {p c q : Addr} {n : Nat} (h : Pen H p c n) (e : H q = none) : p ≠ q ∧ c ≠ q := by
  obtain ⟨⟨a, r, e1, _⟩, ⟨ns, e2⟩, ne⟩ := h
  exact ⟨ne_of_none e1 e, ne_of_none e2 e⟩
theorem Pen.free {H : Hp} {p c q : Addr} {n : Nat} (h : Pen H p c n) (e : H q = none) : q ≠ p ∧ q ≠ c := ⟨(h.new e).1.symm, (h.new e).2.symm⟩
/-- the law's script -/
def spLaw (K : PySem.W.Frag) : Sp := fun vs H Q _ => ∃ (a : Addr) (ns : List Int), vs = [.ref a] ∧ SqL K H a (ns.map V.int) ∧ ns.length ≤ 63 ∧ ∀ H', Q (.bl true) H'
/-- so many draws at most -/
def penLim : Nat := 2 ^ 4000
theorem pen9 : 1000000000 ≤ penLim := Nat.le_trans (show 1000000000 ≤ 2 ^ 100 by decide) (Nat.pow_le_pow_right (by decide) (by decide))
theorem pen100 : 2 ^ 100 ≤ penLim := Nat.pow_le_pow_right (by decide) (by decide)
theorem lim_small {x : Int} (h0 : 0 ≤ x) (h : x ≤ 2 ^ 60 * (penLim : Int)) : x.natAbs < 2 ^ 9000 := by
  have h1 : x.natAbs ≤ 2 ^ 60 * penLim := by omega
  refine Nat.lt_of_le_of_lt h1 ?_
  unfold penLim
  rw [← Nat.pow_add]
  exact Nat.pow_lt_pow_right (by decide) (by decide)
def CPowW (i j : Int) : Prop := 0 ≤ j ∧ j ≤ 1000 ∧ i.natAbs < 2 ^ 9000
theorem powBits {a n : Int} (h : CPowW a n) : (Builtin.Int.intBits a : Int) * n ≤ 2 ^ 27 := by
  obtain ⟨h0, h1, h2⟩ := h
  have hb : Builtin.Int.intBits a ≤ 9000 := intBits_le h2
  have h3 : (Builtin.Int.intBits a : Int) * n ≤ 9000 * n := Int.mul_le_mul_of_nonneg_right (by omega) h0
  omega
theorem op_powW {X : Cx} : OpR X (binaryOp .Pow) (rI CPowW fun i j => .int (i ^ j.toNat)) := opI fun _ _ _ _ _ _ _ hc q => pow_int hc.1 (powBits hc) q
def spSpread : Sp := fun vs H Q _ => ∃ c a : Int, vs = [.int c, .int a] ∧ 0 ≤ a ∧ a ≤ (penLim : Int) ∧ ∀ (r : Int) (H' : Hp), 0 ≤ r → Same H H' → Q (.int r) H'
def spOpen (K : PySem.W.Frag) : Sp := fun vs H Q _ => ∃ (a : Addr) (ns : List Int), vs = [.ref a] ∧ SqL K H a (ns.map V.int) ∧ ns.length ≤ 63 ∧ ∀ p c H', Same H H' → H p = none → H c = none → Pen H' p c 0 → Q (.ref p) H'
def spTake : Sp := fun vs H Q _ => ∃ (p c : Addr) (n : Nat) (m : Int), vs = [.ref p, .int m] ∧ Pen H p c n ∧ n ≤ penLim ∧ 0 < m ∧ m.natAbs < 2 ^ 9000 ∧
  ∀ (r : Int) (H' : Hp), 0 ≤ r → r < m → But p H H' → Pen H' p c (n + 1) → Q (.int r) H'
theorem cut_take (xs : List V) (b : Nat) : cutV xs none (some (b : Int)) = xs.take b := by
  unfold cutV
  rw [HT.sIx_none, HT.sIx_nat, List.drop_zero, Nat.sub_zero]
  rcases Nat.le_total b xs.length with h | h
  · rw [Nat.min_eq_left h]
  · rw [Nat.min_eq_right h, List.take_of_length_le (Nat.le_refl _), List.take_of_length_le h]
theorem cut_drop (xs : List V) (a b : Nat) (h : a ≤ b) : cutV xs (some (a : Int)) (some (b : Int)) = (xs.take b).drop a := by
  unfold cutV
  rw [HT.sIx_nat, HT.sIx_nat]
  apply List.ext_getElem?
  intro i
  rw [List.getElem?_take, List.getElem?_drop, List.getElem?_drop, List.getElem?_take]
  by_cases h1 : a ≤ xs.length
  · rw [Nat.min_eq_left h1]
    by_cases h2 : b ≤ xs.length
    · rw [Nat.min_eq_left h2]
      by_cases h3 : i < b - a
      · rw [if_pos h3, if_pos (by omega)]
      · rw [if_neg h3, if_neg (by omega)]
    · rw [Nat.min_eq_right (by omega)]
      by_cases h3 : a + i < xs.length
      · rw [if_pos (by omega), if_pos (by omega)]
      · rw [List.getElem?_eq_none (by omega)]
        simp
  · rw [Nat.min_eq_right (by omega), List.getElem?_eq_none (by omega), List.getElem?_eq_none (show xs.length ≤ a + i by omega)]
    simp
theorem atI_of {α : Type} {xs : List α} {i : Int} {v : α} (j : Nat) (e : i = (j : Int)) (h : xs[j]? = some v) : atI xs i = some v := by subst e; exact atI_nat h
theorem ixN_of {n : Nat} {i : Int} (j : Nat) (e : i = (j : Int)) (h : j < n) : ixN n i = some j := by
  subst e
  unfold ixN
  rw [if_pos (by omega), if_pos (by omega)]
  simp

/-! ### data: values as trees -/
/-- less than n deep, no list too long -/
def fit : Nat → PyData → Prop
  | 0, _ => False
  | n + 1, .list xs => xs.length < sizeLine ∧ ∀ x ∈ xs, fit n x
  | n + 1, .tuple xs => xs.length < sizeLine ∧ ∀ x ∈ xs, fit n x
  | _ + 1, _ => True
theorem fit_mono : ∀ {n m : Nat} {d : PyData}, fit n d → n ≤ m → fit m d
  | 0, _, _, h, _ => False.elim h
  | n + 1, 0, _, _, l => absurd l (by omega)
  | n + 1, m + 1, .list xs, h, l => ⟨h.1, fun x hx => fit_mono (h.2 x hx) (by omega)⟩
  | n + 1, m + 1, .tuple xs, h, l => ⟨h.1, fun x hx => fit_mono (h.2 x hx) (by omega)⟩
  | n + 1, m + 1, .none, _, _ => True.intro
  | n + 1, m + 1, .bool _, _, _ => True.intro
  | n + 1, m + 1, .int _, _, _ => True.intro
  | n + 1, m + 1, .str _, _, _ => True.intro
  | n + 1, m + 1, .dict _, _, _ => True.intro
theorem ifn {c A B : Prop} [Decidable c] (h : ¬ c) (b : B) : if c then A else B := by rw [if_neg h]; exact b
theorem ifp {c A B : Prop} [Decidable c] (h : c) (a : A) : if c then A else B := by rw [if_pos h]; exact a
theorem yes {σ : L2.St} {H : Hp} {Q : Bool → Hp → Prop} (h : Q true H) : tYes σ H Q := h
inductive Cl where | bool | int | str | tuple | list | dict
def Cl.name : Cl → String
  | .bool => "bool" | .int => "int" | .str => "str" | .tuple => "tuple" | .list => "list" | .dict => "dict"
/-- isinstance of data -/
def isB : Cl → PyData → Bool
  | .bool, .bool _ => true
  | .int, .bool _ => true
  | .int, .int _ => true
  | .str, .str _ => true
  | .tuple, .tuple _ => true
  | .list, .list _ => true
  | .dict, .dict _ => true
  | _, _ => false
def tyD : PyData → String
  | .none => "NoneType" | .bool _ => "bool" | .int _ => "int" | .str _ => "str" | .list _ => "list" | .tuple _ => "tuple" | .dict _ => "dict"
theorem kitB_nn (c : Cl) (d : PyData) : kitB (tyD d) c.name = some (isB c d) := by
  cases c <;> cases d <;> (simp only [tyD, Cl.name, isB]; decide +kernel)
section
variable {K : PySem.W.Frag} {H H' : Hp}
theorem tyX_list {a : Addr} {xs : List V} (h : SqL K H a xs) : TyX K H (.ref a) (.type "list") := by
  rcases h with (h | ⟨o, h⟩) | ⟨o, its, n, h, c, _⟩
  · exact .base (.lst h)
  · exact .base (.frz h)
  · exact .kList h c
theorem tyX_tup {a : Addr} {xs : List V} (h : SqT K H a xs) : TyX K H (.ref a) (.type "tuple") := by
  rcases h with (h | ⟨o, h⟩) | ⟨o, its, n, h, c, _⟩
  · exact .base (.tup h)
  · exact .fTuple h
  · exact .kTuple h c
theorem tyX_of {x : V} {d : PyData} (h : Dp K H x d) : TyX K H x (.type (tyD d)) := by
  cases h with
  | non => exact .base .non
  | bl b => exact .base (.bl b)
  | int i => exact .base (.int i)
  | str z => exact .base (.str z)
  | lst q _ => exact tyX_list q
  | tup q _ => exact tyX_tup q
/-- isinstance(x, T) of data -/
def rIsiD (K : PySem.W.Frag) : List V → Hp → VK → Prop := fun xs H Q => ∃ (c : Cl) (x : V) (d : PyData), xs = [x, .ty c.name] ∧ Dp K H x d ∧ Q (.bl (isB c d)) H
theorem call_isiD {X : Cx} : CallR X (.builtin "isinstance") (rIsiD X.K) := by
  intro pins s σ H xs us Q I r h
  obtain ⟨c, x, d, rfl, hd, q⟩ := h
  exact call_isi pins s σ H _ us Q I r ⟨x, _, _, _, _, rfl, .ty _, tyX_of hd, kit_ty (kitB_nn c d), q⟩
theorem Same.sqT {a : Addr} {xs : List V} (e : Same H H') (h : SqT K H a xs) : SqT K H' a xs := by
  rcases h with (h | ⟨o, h⟩) | h
  · exact .inl (.inl (e _ _ h))
  · exact .inl (.inr ⟨o, e _ _ h⟩)
  · exact .inr h
mutual
theorem Dp_same (e : Same H H') : ∀ {x : V} {d : PyData}, Dp K H x d → Dp K H' x d
  | _, _, .non => .non
  | _, _, .bl b => .bl b
  | _, _, .int i => .int i
  | _, _, .str z => .str z
  | _, _, .lst q a => .lst (e.seq q) (DpAll_same e a)
  | _, _, .tup q a => .tup (Same.sqT e q) (DpAll_same e a)
theorem DpAll_same (e : Same H H') : ∀ {xs : List V} {ds : List PyData}, DpAll K H xs ds → DpAll K H' xs ds
  | _, _, .nil => .nil
  | _, _, .cons a b => .cons (Dp_same e a) (DpAll_same e b)
end
theorem DpAll_len : ∀ {xs : List V} {ds : List PyData}, DpAll K H xs ds → xs.length = ds.length
  | _, _, .nil => rfl
  | _, _, .cons _ b => by rw [List.length_cons, List.length_cons, DpAll_len b]
theorem DpAll_get : ∀ {xs : List V} {ds : List PyData} {i : Nat} {x : V}, DpAll K H xs ds → xs[i]? = some x → ∃ d, ds[i]? = some d ∧ Dp K H x d
  | _, _, 0, _, .cons a _, e => by
    cases e
    exact ⟨_, rfl, a⟩
  | _, _, i + 1, x, .cons _ b, e => DpAll_get (i := i) b e
theorem DpAll_ints : ∀ ns : List Int, DpAll K H (ns.map V.int) (ns.map PyData.int)
  | [] => .nil
  | n :: ns => .cons (.int n) (DpAll_ints ns)
theorem walk_zipT {a b : Addr} {xs ys : List V} {n : Nat} (hn : n = min xs.length ys.length) : Walk (ItzT K a b) n (fun H => SqT K H a xs ∧ SqT K H b ys) (YPair (fun i => xs[i]?) (fun i => ys[i]?)) := by
  subst hn
  refine ⟨fun i _ hi q => ?_, fun _ q => ⟨xs, ys, q.1, q.2, by omega⟩, fun i H v H' _ q y => ?_⟩
  · have h1 : i < xs.length := by omega
    have h2 : i < ys.length := by omega
    exact ⟨xs, ys, xs[i], ys[i], q.1, q.2, by simp [h1], by simp [h2]⟩
  · obtain ⟨T, x, z, h1, h2, h3, h4, h5⟩ := y
    exact ⟨T, x, z, h1, h2, h3, h4 xs q.1, h5 ys q.2⟩
theorem inV_trues (n : Nat) : inV (.bl false) (List.replicate n (V.bl true)) = false := by
  unfold inV
  rw [List.any_eq_false]
  intro x hx
  rw [List.eq_of_mem_replicate hx]
  decide
theorem flat_trues (n : Nat) : (List.replicate n (V.bl true)).all flatV = true := by
  rw [List.all_eq_true]
  intro x hx
  rw [List.eq_of_mem_replicate hx]
  rfl
end
/-- _law_same: equal data are alike -/
def spSame (K : PySem.W.Frag) (n : Nat) : Sp := fun vs H Q _ => ∃ (x y : V) (d : PyData), vs = [x, y] ∧ Dp K H x d ∧ Dp K H y d ∧ fit n d ∧ ∀ H', Same H H' → Q (.bl true) H'

/-! ### rules with the written part told (for comprehensions' blocks) -/
section
variable {X : Cx} (K : PySem.W.Frag) (eK : X.K = K)
include eK
theorem ixL : IxR X (rIxL K) := eK ▸ ix_list
theorem ixT : IxR X (rIxT K) := eK ▸ ix_tup
theorem inQ : OpR X (compareOp .In) (rIn K false) := eK ▸ op_in_seq
theorem ninQ : OpR X (compareOp .NotIn) (rIn K true) := eK ▸ op_notIn_seq
def rLenQ (K : PySem.W.Frag) : List V → Hp → VK → Prop := fun xs H Q => ∃ p ys, xs = [.ref p] ∧ (SqL K H p ys ∨ SqT K H p ys) ∧ Q (.int ys.length) H
theorem lenQ : CallR X (.builtin "len") (rLenQ K) := by subst eK; exact call_len_seq
def rListQ (K : PySem.W.Frag) : List V → Hp → VK → Prop := fun xs H Q => ∃ p ys, xs = [.ref p] ∧ (SqL K H p ys ∨ SqT K H p ys) ∧ ∀ l, H l = none → Q (.ref l) (upd H l (.lst ys))
theorem listQ : CallR X (.type "list") (rListQ K) := by subst eK; exact call_list_of
theorem slL : SlR X (rSlL K) := by subst eK; exact sl_list
theorem isiQ : CallR X (.builtin "isinstance") (rIsiD K) := by subst eK; exact call_isiD
theorem getL : PGet X (rIxL K) := eK ▸ get_list
theorem pgT {es : List Expr} {k : Nat} {t : TGs} (n : Nat) {pos : Pos} (hc : X.calm = true) (h : PGs X es t) (hn : (assignEach es X.env).length = n := by rfl) (hst : (assignEach es X.env).findIdx? (·.1) = none := by rfl) : PG X (.Tuple es k pos) (gTup K n t) := by
  subst eK
  exact pg_tup hc h hn hst
theorem piL {tg l : Expr} {tl : TE} (hl : PE X l tl) : PI X tg l (iList K tl) := eK ▸ pi_list hl
theorem piT {tg l : Expr} {tl : TE} (hl : PE X l tl) : PI X tg l (iTup K tl) := eK ▸ pi_tup hl
theorem piZ {e e2 : Expr} {ta : TA} {p pos tpos : Pos} {elts : List Expr} {kk : Nat} (hg : Gl X "zip") (hm : X.mg "zip" = none) (ha : PA X [e, e2] ta)
    (hs : starEach [e, e2] X.env = (false, eval e X.env) :: starEach [e2] X.env := by rfl) (hpl : (backTo pos (starEach [e2] X.env)).any (·.1) = false := by rfl) :
    PI X (.Tuple elts kk tpos) (.Call (.Name "zip" p) [e, e2] [] pos) (iZipA K ta) := by
  subst eK
  exact pi_zipA hg hm ha hs hpl
theorem piE {e : Expr} {ta : TA} {p pos tpos : Pos} {elts : List Expr} {kk : Nat} (hg : Gl X "enumerate") (hm : X.mg "enumerate" = none) (ha : PA X [e] ta) (hs : starEach [e] X.env = [(false, eval e X.env)] := by rfl) :
    PI X (.Tuple elts kk tpos) (.Call (.Name "enumerate" p) [e] [] pos) (iEnum K ta) := by
  subst eK
  exact pi_enum hg hm ha hs
theorem revL {e : Expr} {te : TE} {k : Nat} {p1 p2 p3 pos : Pos} (he : PE X e te) : PE X (.Subscript e (.Slice none none (some (.UnaryOp .USub (.Constant (.int 1) k p1) p2)) p3) pos) (tRevL K te) := by
  subst eK
  exact pe_revL he
theorem appK {o e : Expr} {to te : TE} {apos cpos : Pos} (ho : PE X o to) (he : PE X e te) (hbase : attributeBase o "append" X.env (eval o X.env) = eval o X.env := by rfl)
    (hfew : ((backTo cpos (starEach [e] X.env)).all (fun x => !x.1) && (backToKw cpos (keywordEach [] X.env)).all (fun x => x.1.isSome)
      && decide ([e].length + ([] : List Keyword).length + (if ([] : List Keyword).isEmpty then 0 else 1) < 30)) = true := by rfl)
    (hline : (apos.endLine == cpos.line) = true := by rfl) (hs : starEach [e] X.env = (false, eval e X.env) :: starEach [] X.env := by rfl) :
    PE X (.Call (.Attribute o "append" apos) [e] [] cpos) (tBM K "list" rAppend to (tCons te tNil)) := by
  subst eK
  exact pe_bm PySem.F.plainAttrs_list PySem.F.slot_list_append PySem.F.type_list_append mt_append ho (pa_cons he pa_nil hs) hbase hfew hline hs rfl
end

/-! ### tuples that keep their object: it is known to have no dict of its own -/
def tupObj (its : List Value) : Obj := { cls := .type "tuple", data := .seq its.toArray }
/-- a tuple, its object known to have no dict -/
def TqT (K : PySem.W.Frag) (H : Hp) (a : Addr) (xs : List V) : Prop :=
  (∃ o, H a = some (.frz o (.tup xs)) ∧ o.dict = none) ∨
    ∃ (o : Obj) (its : Array Value) (n : Nat), K.lookup a = some o ∧ o.cls = .type "tuple" ∧ o.dict = none ∧ o.data = .seq its n ∧ its.size ≤ sizeLine ∧ Vals xs its.toList
theorem TqT.of {K : PySem.W.Frag} {H : Hp} {a : Addr} {xs : List V} {o : Obj} (h : H a = some (.frz o (.tup xs))) (d : o.dict = none) : TqT K H a xs := .inl ⟨o, h, d⟩
theorem TqT.sq {K : PySem.W.Frag} {H : Hp} {a : Addr} {xs : List V} (h : TqT K H a xs) : SqT K H a xs := by
  rcases h with ⟨o, h, _⟩ | ⟨o, its, n, h1, h2, _, h4, h5, h6⟩
  · exact .inl (.inr ⟨o, h⟩)
  · exact .inr ⟨o, its, n, h1, h2, h4, h5, h6⟩
theorem Same.tqT {K : PySem.W.Frag} {H H' : Hp} {a : Addr} {xs : List V} (e : Same H H') (h : TqT K H a xs) : TqT K H' a xs := by
  rcases h with ⟨o, h, d⟩ | h
  · exact .inl ⟨o, e _ _ h, d⟩
  · exact .inr h
section
variable {X : Cx} {pins : List (Addr × Obj)} {σ : L2.St} {H : Hp} {s : Shared}
/-- its object in the heap -/
theorem TqT.obj (I : Inv X pins σ H s) {a : Addr} {xs : List V} (h : TqT X.K H a xs) : ∃ (o : Obj) (its : List Value) (n : Nat), Vals xs its ∧ s.heap.get? a = some o ∧ o.cls = .type "tuple" ∧ o.dict = none ∧ o.data = .seq its.toArray n ∧ xs.length ≤ sizeLine := by
  rcases h with ⟨o, h, d⟩ | ⟨o, its, n, h1, h2, h3, h4, h5, h6⟩
  · obtain ⟨e, z, its, r, o', e', c, n, dat⟩ := I.hok a _ h
    rw [e] at e'
    cases e'
    exact ⟨o, its, n, r, e, c, d, dat, z⟩
  · refine ⟨o, its.toList, n, h6, I.kIn a o h1, h2, h3, by simpa using h4, ?_⟩
    have := h6.length
    simp only [Array.length_toList] at this
    omega
/-- a new tuple laid down -/
theorem frz_new (I : Inv X pins σ H s) {xs : List V} {its : List Value} (r : Vals xs its) (z : xs.length ≤ sizeLine) {h' : Heap} (hk : ∀ b o, s.heap.get? b = some o → h'.get? b = some o) {a : Addr} (ha : s.heap.objs.size ≤ a) (hn : h'.get? a = some (tupObj its)) {t : Nat} :
    Inv X pins σ (L2.upd H a (.frz (tupObj its) (.tup xs))) { s with heap := h', toks := t } ∧ H a = none := by
  have hf := I.hok.fresh ha
  refine ⟨I.laid (t' := t) hk ha ?_, hf⟩
  exact ⟨hn, z, its, r, tupObj its, hn, rfl, _, rfl⟩
end
section
variable {X : Cx}
/-- a display -/
def tTupZ (t : TA) : TE := fun σ H Q => t σ H fun xs H1 => xs.length ≤ sizeLine ∧ ∀ p o, H1 p = none → o.dict = none → Q (.ref p) (L2.upd H1 p (.frz o (.tup xs)))
theorem pe_tupZ {es : List Expr} {t : TA} {k : Nat} {pos : Pos} (h : PA X es t) : PE X (.Tuple es k pos) (tTupZ t) := by
  refine ⟨fun pins s σ H Q I hq => wpAny_Tuple_spliced (thn (h.run pos pins s σ H _ I hq) fun us s1 ⟨xs, H1, I1, r, z, q⟩ => ⟨by rw [← r.length]; exact z, ?_⟩)⟩
  obtain ⟨I2, hf⟩ := frz_new I1 r z (h' := s1.heap.push (tupObj us)) (fun b u e => Heap.get?_push_of_some _ e) (Nat.le_refl _) (Heap.get?_push_size _ rfl) (t := s1.toks)
  exact ⟨.ref s1.heap.objs.size, _, I2, rfl, q _ _ hf rfl⟩
variable (K : PySem.W.Frag) (eK : X.K = K)
/-- tuple(xs) -/
def rTupQ (K : PySem.W.Frag) : List V → Hp → VK → Prop := fun xs H Q => ∃ p ys, xs = [.ref p] ∧ ((SqL K H p ys ∧ ∀ l o, H l = none → o.dict = none → Q (.ref l) (L2.upd H l (.frz o (.tup ys)))) ∨ (SqT K H p ys ∧ Q (.ref p) H))
include eK in
theorem tupQ : CallR X (.type "tuple") (rTupQ K) := by
  subst eK
  intro pins s σ H xs us Q I r h
  obtain ⟨p, ys, rfl, h⟩ := h
  obtain ⟨u, rfl, rx⟩ := vals1 r
  cases rx
  rcases h with ⟨hq, q⟩ | ⟨hq, q⟩
  · obtain ⟨its, rv, pl, hz⟩ := I.list hq
    have hlen := rv.length
    refine call_tuple_list pl.isList (fun h' kp => ?_) (by rw [List.size_toArray, ← hlen]; exact hz)
    have I1 : Inv X pins σ H { s with heap := h' } := I.kept (t' := s.toks) kp
    obtain ⟨I2, hf⟩ := frz_new I1 rv hz (h' := h'.push (tupObj its)) (fun b o e => Heap.get?_push_of_some _ e) (Nat.le_refl _) (Heap.get?_push_size _ rfl) (t := s.toks)
    exact ⟨.ref h'.objs.size, _, I2, rfl, q _ _ hf rfl⟩
  · obtain ⟨its, rv, pl, hz⟩ := I.tuple hq
    exact call_tuple_same pl ⟨.ref p, H, I, rfl, q⟩
/-- t + u -/
def rCatZ (K : PySem.W.Frag) : R2 := fun x y H Q => ∃ a b xs ys, x = .ref a ∧ y = .ref b ∧ SqT K H a xs ∧ SqT K H b ys ∧ xs.length + ys.length ≤ sizeLine ∧
  (xs = [] → Q (.ref b) H) ∧ (xs ≠ [] → ys = [] → Q (.ref a) H) ∧ (xs ≠ [] → ys ≠ [] → ∀ p o, H p = none → o.dict = none → Q (.ref p) (L2.upd H p (.frz o (.tup (xs ++ ys)))))
include eK in
theorem op_catZ : OpR X (binaryOp .Add) (rCatZ K) := by
  subst eK
  intro pins s σ H x y v u Q I rx ry h
  obtain ⟨a, b, xs, ys, rfl, rfl, ha, hb, hz, q0, q1, q2⟩ := h
  by_cases hx : xs = []
  · exact op_catA pins s σ H _ _ v u Q I rx ry ⟨a, b, xs, ys, rfl, rfl, ha, hb, hz, q0, q1, fun n => absurd hx n⟩
  by_cases hy : ys = []
  · exact op_catA pins s σ H _ _ v u Q I rx ry ⟨a, b, xs, ys, rfl, rfl, ha, hb, hz, q0, q1, fun _ n => absurd hy n⟩
  cases rx
  cases ry
  obtain ⟨i1, r1, p1, _⟩ := I.tuple ha
  obtain ⟨i2, r2, p2, _⟩ := I.tuple hb
  refine HT.cat_tup p1 p2 (fun z => hx (r1.nil_iff.mp z)) (fun z => absurd (r2.nil_iff.mp z) hy) (fun _ => ?_) (by rw [← r1.length, ← r2.length]; exact hz)
  obtain ⟨I2, hf⟩ := frz_new I (r1.append r2) (by rw [List.length_append]; exact hz) (h' := s.heap.push (tupObj (i1 ++ i2))) (fun b o e => Heap.get?_push_of_some _ e) (Nat.le_refl _) (Heap.get?_push_size _ rfl) (t := s.toks)
  exact ⟨.ref s.heap.objs.size, _, I2, rfl, q2 hx hy _ _ hf rfl⟩
/-- t[lo:hi] -/
def rSlZ (K : PySem.W.Frag) : V → Option Int → Option Int → Hp → VK → Prop := fun x lo hi H Q => ∃ a xs, x = .ref a ∧ SqT K H a xs ∧
  (HT.sIx xs.length 0 lo = 0 ∧ HT.sIx xs.length xs.length hi = xs.length → Q (.ref a) H) ∧ (¬ (HT.sIx xs.length 0 lo = 0 ∧ HT.sIx xs.length xs.length hi = xs.length) → ∀ p o, H p = none → o.dict = none → Q (.ref p) (L2.upd H p (.frz o (.tup (cutV xs lo hi)))))
include eK in
theorem sl_tupZ : SlR X (rSlZ K) := by
  subst eK
  intro pins s σ H x v vl vu lo hi sl Q I rx hs pl pu h
  obtain ⟨a, xs, rfl, hx, q1, q2⟩ := h
  by_cases hw : HT.sIx xs.length 0 lo = 0 ∧ HT.sIx xs.length xs.length hi = xs.length
  · exact sl_tupA pins s σ H _ v vl vu lo hi sl Q I rx hs pl pu ⟨a, xs, rfl, hx, q1, fun n => absurd hw n⟩
  cases rx
  obtain ⟨its, r, ht, hz⟩ := I.tuple hx
  have el : its.toArray.size = xs.length := by rw [List.size_toArray, r.length]
  refine ⟨"tuple", _, PyProof.Rows.slot_tuple_getitem.lookup, ht.typeIs, HT.getItem_tuple_cut ht hs pl pu (by rw [el]; exact hw) ?_ (by rw [el]; exact hz)⟩
  rw [el]
  have rc : Vals (cutV xs lo hi) ((its.drop (HT.sIx xs.length 0 lo)).take (HT.sIx xs.length xs.length hi - HT.sIx xs.length 0 lo)) := (r.drop (HT.sIx xs.length 0 lo)).take (HT.sIx xs.length xs.length hi - HT.sIx xs.length 0 lo)
  obtain ⟨I2, hf⟩ := frz_new I rc (Nat.le_trans (cutV_length xs lo hi) hz) (h' := s.heap.push (tupObj ((its.drop (HT.sIx xs.length 0 lo)).take (HT.sIx xs.length xs.length hi - HT.sIx xs.length 0 lo)))) (fun b o e => Heap.get?_push_of_some _ e) (Nat.le_refl _) (Heap.get?_push_size _ rfl) (t := s.toks)
  exact ⟨.ref s.heap.objs.size, _, I2, rfl, q2 hw _ _ hf rfl⟩
end

/-! ### the plain layer: values as trees, no heap in sight -/
abbrev D := PyData
def keyD : Key → D
  | .inl i => .int i
  | .inr x => .str x
mutual
inductive Rp (K : PySem.W.Frag) (H : Hp) : V → D → Prop
  | non : Rp K H .non .none
  | bl (b : Bool) : Rp K H (.bl b) (.bool b)
  | int (i : Int) : Rp K H (.int i) (.int i)
  | str (x : Str) : Rp K H (.str x) (.str x)
  | lst {a : Addr} {xs : List V} {ds : List D} : H a = some (.lst xs) → RpAll K H xs ds → Rp K H (.ref a) (.list ds)
  | tup {a : Addr} {xs : List V} {ds : List D} : TqT K H a xs → RpAll K H xs ds → Rp K H (.ref a) (.tuple ds)
  | dic {a : Addr} {kvs : List (Key × V)} {ds : List (D × D)} : Rd H a (.dK kvs) → RpKV K H kvs ds → Rp K H (.ref a) (.dict ds)
inductive RpAll (K : PySem.W.Frag) (H : Hp) : List V → List D → Prop
  | nil : RpAll K H [] []
  | cons {v : V} {vs : List V} {d : D} {ds : List D} : Rp K H v d → RpAll K H vs ds → RpAll K H (v :: vs) (d :: ds)
inductive RpKV (K : PySem.W.Frag) (H : Hp) : List (Key × V) → List (D × D) → Prop
  | nil : RpKV K H [] []
  | cons {k : Key} {v : V} {vs : List (Key × V)} {d : D} {ds : List (D × D)} : Rp K H v d → RpKV K H vs ds → RpKV K H ((k, v) :: vs) ((keyD k, d) :: ds)
end
theorem rd_same {H H' : Hp} {a : Addr} {u : HO} (e : Same H H') (h : Rd H a u) : Rd H' a u := by
  rcases h with h | ⟨o, h⟩
  · exact .inl (e _ _ h)
  · exact .inr ⟨o, e _ _ h⟩
section
variable {K : PySem.W.Frag} {H H' : Hp}
mutual
theorem Rp.mono (e : Same H H') : ∀ {x : V} {d : D}, Rp K H x d → Rp K H' x d
  | _, _, .non => .non
  | _, _, .bl b => .bl b
  | _, _, .int i => .int i
  | _, _, .str z => .str z
  | _, _, .lst q a => .lst (e _ _ q) (RpAll.mono e a)
  | _, _, .tup q a => .tup (Same.tqT e q) (RpAll.mono e a)
  | _, _, .dic q a => .dic (rd_same e q) (RpKV.mono e a)
theorem RpAll.mono (e : Same H H') : ∀ {xs : List V} {ds : List D}, RpAll K H xs ds → RpAll K H' xs ds
  | _, _, .nil => .nil
  | _, _, .cons a b => .cons (Rp.mono e a) (RpAll.mono e b)
theorem RpKV.mono (e : Same H H') : ∀ {xs : List (Key × V)} {ds : List (D × D)}, RpKV K H xs ds → RpKV K H' xs ds
  | _, _, .nil => .nil
  | _, _, .cons a b => .cons (Rp.mono e a) (RpKV.mono e b)
end
/-- the same; true: or a pair that an iterator has made -/
def RqB : Bool → PySem.W.Frag → Hp → V → D → Prop
  | false, K, H, v, d => Rp K H v d
  | true, K, H, v, d => Rp K H v d ∨ ∃ a xs ds, v = .ref a ∧ d = .tuple ds ∧ SqT K H a xs ∧ RpAll K H xs ds
theorem Rp.rq {b : Bool} {v : V} {d : D} (h : Rp K H v d) : RqB b K H v d := by
  cases b with
  | false => exact h
  | true => exact .inl h
theorem RqB.tup {b : Bool} {v : V} {ds : List D} (h : RqB b K H v (.tuple ds)) : ∃ a xs, v = .ref a ∧ SqT K H a xs ∧ RpAll K H xs ds := by
  have main : Rp K H v (.tuple ds) → ∃ a xs, v = .ref a ∧ SqT K H a xs ∧ RpAll K H xs ds := fun h => by
    cases h with
    | tup q a => exact ⟨_, _, rfl, q.sq, a⟩
  cases b with
  | false => exact main h
  | true =>
    rcases h with h | ⟨a, xs, ds', rfl, e, h1, h2⟩
    · exact main h
    · cases e
      exact ⟨a, xs, rfl, h1, h2⟩
theorem RpAll.len : ∀ {xs : List V} {ds : List D}, RpAll K H xs ds → xs.length = ds.length
  | _, _, .nil => rfl
  | _, _, .cons _ b => by rw [List.length_cons, List.length_cons, RpAll.len b]
theorem RpAll.get : ∀ {xs : List V} {ds : List D} {i : Nat} {d : D}, RpAll K H xs ds → ds[i]? = some d → ∃ x, xs[i]? = some x ∧ Rp K H x d
  | _, _, 0, _, .cons a _, e => by
    cases e
    exact ⟨_, rfl, a⟩
  | _, _, i + 1, d, .cons _ b, e => RpAll.get (i := i) b e
theorem RpAll.getV : ∀ {xs : List V} {ds : List D} {i : Nat} {x : V}, RpAll K H xs ds → xs[i]? = some x → ∃ d, ds[i]? = some d ∧ Rp K H x d
  | _, _, 0, _, .cons a _, e => by
    cases e
    exact ⟨_, rfl, a⟩
  | _, _, i + 1, d, .cons _ b, e => RpAll.getV (i := i) b e
theorem RpAll.app : ∀ {xs : List V} {ds : List D} {ys : List V} {es : List D}, RpAll K H xs ds → RpAll K H ys es → RpAll K H (xs ++ ys) (ds ++ es)
  | _, _, _, _, .nil, h => h
  | _, _, _, _, .cons a b, h => .cons a (RpAll.app b h)
theorem RpAll.take : ∀ {xs : List V} {ds : List D} (n : Nat), RpAll K H xs ds → RpAll K H (xs.take n) (ds.take n)
  | _, _, 0, _ => by simp only [List.take_zero]; exact .nil
  | _, _, n + 1, .nil => .nil
  | _, _, n + 1, .cons a b => .cons a (RpAll.take n b)
theorem RpAll.drop : ∀ {xs : List V} {ds : List D} (n : Nat), RpAll K H xs ds → RpAll K H (xs.drop n) (ds.drop n)
  | _, _, 0, h => h
  | _, _, n + 1, .nil => .nil
  | _, _, n + 1, .cons a b => RpAll.drop n b
theorem RpAll.set : ∀ {xs : List V} {ds : List D} {v : V} {d : D} (n : Nat), RpAll K H xs ds → Rp K H v d → RpAll K H (xs.set n v) (ds.set n d)
  | _, _, _, _, _, .nil, _ => .nil
  | _, _, _, _, 0, .cons a b, h => .cons h b
  | _, _, _, _, n + 1, .cons a b, h => .cons a (RpAll.set n b h)
theorem RpAll.rev : ∀ {xs : List V} {ds : List D}, RpAll K H xs ds → RpAll K H xs.reverse ds.reverse
  | _, _, .nil => .nil
  | _, _, .cons a b => by rw [List.reverse_cons, List.reverse_cons]; exact (RpAll.rev b).app (.cons a .nil)
end
/-- the state: each slot's tree, and how many draws at most were taken -/
structure S where
  δ : List (Option D)
  n : Nat
  /-- what an object of one's own holds besides -/
  h : D := .none
/-- a pen of draws, or an object of a class of one's own: its class, its fields by its number and by its other thing, the trees of those fields that stay -/
inductive PKind
  | draw
  | obj (Cc : Addr) (f : V → V → List (Str × V)) (fd : List (V × D))
/-- what stays the same through a def's body: M, the slots of its own lists and dicts (changed in place); the pen and its slot; bor, bs: lists and dicts that were handed in to be changed, and their slots -/
structure Cf where
  K : PySem.W.Frag
  pen : Option (Addr × Addr)
  ps : Nat
  M : List Nat
  bor : List Addr := []
  bs : List Nat := []
  pk : PKind := .draw
  ex : Hp → Prop := fun _ => False
def IsPen (C : Cf) (b : Addr) : Prop := (∃ c, C.pen = some (b, c)) ∨ b ∈ C.bor
def Own (C : Cf) (σ : L2.St) (b : Addr) : Prop := ∃ i, i ∈ C.M ∧ σ[i]? = some (some (.ref b))
/-- a list's or a dict's object, and its tree -/
inductive Cn (K : PySem.W.Frag) (Hs : Hp) : HO → D → Prop
  | lst {xs : List V} {ds : List D} : RpAll K Hs xs ds → Cn K Hs (.lst xs) (.list ds)
  | dic {kvs : List (Key × V)} {ds : List (D × D)} : RpKV K Hs kvs ds → Cn K Hs (.dK kvs) (.dict ds)
/-- the same, or a dict that is walked through -/
inductive Cr (K : PySem.W.Frag) (Hs : Hp) : HO → D → Prop
  | lst {xs : List V} {ds : List D} : RpAll K Hs xs ds → Cr K Hs (.lst xs) (.list ds)
  | dic {kvs : List (Key × V)} {ds : List (D × D)} : RpKV K Hs kvs ds → Cr K Hs (.dK kvs) (.dict ds)
  | frz {f : Obj} {kvs : List (Key × V)} {ds : List (D × D)} : RpKV K Hs kvs ds → Cr K Hs (.frz f (.dK kvs)) (.dict ds)
theorem Cn.cr {K : PySem.W.Frag} {Hs : Hp} {o : HO} {d : D} (h : Cn K Hs o d) : Cr K Hs o d := by
  cases h with
  | lst a => exact .lst a
  | dic a => exact .dic a
def isC : D → Bool
  | .list _ => true
  | .dict _ => true
  | _ => false
theorem Cn.mono {K : PySem.W.Frag} {Hs Hs' : Hp} (e : Same Hs Hs') {o : HO} {d : D} (h : Cn K Hs o d) : Cn K Hs' o d := by
  cases h with
  | lst a => exact .lst (RpAll.mono e a)
  | dic a => exact .dic (RpKV.mono e a)
theorem Cn.is {K : PySem.W.Frag} {Hs : Hp} {o : HO} {d : D} (h : Cn K Hs o d) : isC d = true := by cases h <;> rfl
theorem Cn.rp {K : PySem.W.Frag} {Hs : Hp} {o : HO} {d : D} {a : Addr} (h : Cn K Hs o d) (e : Hs a = some o) : Rp K Hs (.ref a) d := by
  cases h with
  | lst q => exact .lst e q
  | dic q => exact .dic (.inl e) q
theorem Cr.is {K : PySem.W.Frag} {Hs : Hp} {o : HO} {d : D} (h : Cr K Hs o d) : isC d = true := by cases h <;> rfl
theorem Rp.cn {K : PySem.W.Frag} {Hs : Hp} {v : V} {d : D} (h : Rp K Hs v d) (c : isC d = true) : ∃ a o, v = .ref a ∧ Hs a = some o ∧ Cr K Hs o d := by
  cases h with
  | lst q a => exact ⟨_, _, rfl, q, .lst a⟩
  | dic q a =>
    rcases q with q | ⟨o, q⟩
    · exact ⟨_, _, rfl, q, .dic a⟩
    · exact ⟨_, _, rfl, q, .frz a⟩
  | non => cases c
  | bl _ => cases c
  | int _ => cases c
  | str _ => cases c
  | tup _ _ => cases c
def PenK (K : PySem.W.Frag) : PKind → Hp → Hp → Addr → Addr → Nat → D → Prop
  | .draw, _, H, p, c, n, _ => Pen H p c n
  | .obj Cc f fd, Hs, H, p, c, n, h => (∃ hv, Rp K Hs hv h ∧ H p = some (.ins Cc c (f (.int (n : Int)) hv))) ∧ H c = some (.own p) ∧ c ≠ p ∧ ∀ x ∈ fd, Rp K Hs x.1 x.2
section
variable {K : PySem.W.Frag} {k : PKind} {Hs Hs' H H' : Hp} {p c q : Addr} {n : Nat} {h : D}
theorem PenK.mono (x : PenK K k Hs H p c n h) (st : Same Hs Hs') (hh : Same H H') : PenK K k Hs' H' p c n h := by
  cases k with
  | draw => exact Pen.same x hh
  | obj Cc f fd =>
    obtain ⟨⟨hv, a, b⟩, e, ne, z⟩ := x
    exact ⟨⟨hv, Rp.mono st a, hh _ _ b⟩, hh _ _ e, ne, fun y m => Rp.mono st (z y m)⟩
theorem PenK.same (x : PenK K k Hs H p c n h) (hh : Same H H') : PenK K k Hs H' p c n h := x.mono (Same.refl _) hh
theorem PenK.but (x : PenK K k Hs H p c n h) (b : But q H H') (n1 : p ≠ q) (n2 : c ≠ q) : PenK K k Hs H' p c n h := by
  cases k with
  | draw => exact Pen.but x b n1 n2
  | obj Cc f fd =>
    obtain ⟨⟨hv, a, z⟩, e, ne, y⟩ := x
    exact ⟨⟨hv, a, b _ _ n1 z⟩, b _ _ n2 e, ne, y⟩
theorem PenK.at_ (x : PenK K k Hs H p c n h) : ∃ o, H p = some o := by
  cases k with
  | draw =>
    obtain ⟨_, _, e, _⟩ := Pen.pen x
    exact ⟨_, e⟩
  | obj Cc f fd =>
    obtain ⟨⟨hv, a, z⟩, e, ne, y⟩ := x
    exact ⟨_, z⟩
end
/-- the slots and the heap bear the state; Hs: the part of the heap that stays -/
structure R (C : Cf) (H0 S0 Hs : Hp) (σ : L2.St) (H : Hp) (s : S) : Prop where
  len : σ.length = s.δ.length
  sub : Same Hs H
  slot : ∀ i d, s.δ[i]? = some (some d) → i ∉ C.M → ∃ v, σ[i]? = some (some v) ∧ Rp C.K Hs v d
  mt : ∀ i d, s.δ[i]? = some (some d) → i ∈ C.M → ∃ a o, σ[i]? = some (some (.ref a)) ∧ H a = some o ∧ Hs a = none ∧ Cn C.K Hs o d ∧ (H0 a = none ∨ a ∈ C.bor)
  dead : ∀ i, i ∈ C.M → s.δ[i]? = some none → σ[i]? = some none
  sep : ∀ i j a, i ∈ C.M → j ∈ C.M → σ[i]? = some (some (.ref a)) → σ[j]? = some (some (.ref a)) → i = j
  pn : ∀ p c, C.pen = some (p, c) → σ[C.ps]? = some (some (.ref p)) ∧ PenK C.K C.pk Hs H p c s.n s.h ∧ Hs p = none ∧ H0 p ≠ none ∧ H0 c ≠ none ∧ s.δ[C.ps]? = some none ∧ C.ps ∉ C.M ∧ p ∉ C.bor ∧ c ∉ C.bor
  br : ∀ b, b ∈ C.bor → (∃ i, i ∈ C.bs ∧ i ∈ C.M ∧ σ[i]? = some (some (.ref b))) ∧ H0 b ≠ none
  s0 : Same S0 Hs
  h0 : ∀ b o, ¬ IsPen C b → H0 b = some o → H b = some o
  new : ∀ b, S0 b = none → Hs b ≠ none → H0 b = none
/-- from one heap to a later one -/
structure Go (C : Cf) (σ : L2.St) (Hs H Hs' H' : Hp) : Prop where
  st : Same Hs Hs'
  kp : ∀ b o, H b = some o → ¬ Own C σ b → ¬ IsPen C b → H' b = some o
  th : ∀ b o, H b = some o → ∃ o', H' b = some o'
  nw : ∀ b, Hs b = none → Hs' b ≠ none → H b = none
section
variable {C : Cf} {σ : L2.St} {H0 S0 Hs H Hs' H' Hs'' H'' : Hp} {s s' : S}
theorem Go.refl : Go C σ Hs H Hs H := ⟨Same.refl _, fun _ _ h _ _ => h, fun _ o h => ⟨o, h⟩, fun _ h h' => absurd h h'⟩
theorem Go.trans (a : Go C σ Hs H Hs' H') (b : Go C σ Hs' H' Hs'' H'') : Go C σ Hs H Hs'' H'' := by
  refine ⟨a.st.trans b.st, fun c o h n1 n2 => b.kp c o (a.kp c o h n1 n2) n1 n2, fun c o h => ?_, fun c h h' => ?_⟩
  · obtain ⟨o', h'⟩ := a.th c o h
    exact b.th c o' h'
  · cases q : Hs' c with
    | some o => exact a.nw c h (by rw [q]; exact fun z => nomatch z)
    | none =>
      have h1 := b.nw c q h'
      cases q2 : H c with
      | none => rfl
      | some o =>
        obtain ⟨o', h2⟩ := a.th c o q2
        rw [h1] at h2
        cases h2
/-- a value's kinds: E: it lies in the still part; F: a list or dict is new and nobody else's -/
inductive Cat where | E | F
def Fresh (C : Cf) (H0 Hst Hs : Hp) (σ : L2.St) (H : Hp) (a : Addr) (d : D) : Prop :=
  ∃ o, H a = some o ∧ Hs a = none ∧ H0 a = none ∧ Hst a = none ∧ Cn C.K Hs o d ∧ ¬ Own C σ a
def Val (C : Cf) (H0 Hst Hs : Hp) (σ : L2.St) (H : Hp) : Cat → V → D → Prop
  | .E, v, d => Rp C.K Hs v d
  | .F, v, d => if isC d = true then ∃ a, v = .ref a ∧ Fresh C H0 Hst Hs σ H a d else Rp C.K Hs v d
theorem Val.c {Hst : Hp} {v : V} {d : D} (h : Val C H0 Hst Hs σ H .F v d) (e : isC d = true) : ∃ a, v = .ref a ∧ Fresh C H0 Hst Hs σ H a d := by
  have h : (if isC d = true then ∃ a, v = .ref a ∧ Fresh C H0 Hst Hs σ H a d else Rp C.K Hs v d) := h
  rw [if_pos e] at h
  exact h
theorem Val.p {Hst : Hp} {v : V} {d : D} (h : Val C H0 Hst Hs σ H .F v d) (e : isC d = false) : Rp C.K Hs v d := by
  have h : (if isC d = true then ∃ a, v = .ref a ∧ Fresh C H0 Hst Hs σ H a d else Rp C.K Hs v d) := h
  rw [if_neg (by rw [e]; exact Bool.false_ne_true)] at h
  exact h
theorem Val.mkC {Hst : Hp} {a : Addr} {d : D} (f : Fresh C H0 Hst Hs σ H a d) : Val C H0 Hst Hs σ H .F (.ref a) d := by
  obtain ⟨o, _, _, _, _, c, _⟩ := id f
  exact ifp c.is ⟨a, rfl, f⟩
theorem Val.mkP {Hst : Hp} {v : V} {d : D} (h : Rp C.K Hs v d) (e : isC d = false) : Val C H0 Hst Hs σ H .F v d := ifn (by rw [e]; exact Bool.false_ne_true) h
/-- what may be read -/
def Rd' (K : PySem.W.Frag) (Hs H : Hp) (v : V) (d : D) : Prop := if isC d = true then ∃ a o, v = .ref a ∧ H a = some o ∧ Cr K Hs o d else Rp K Hs v d
theorem Rd'.list {K : PySem.W.Frag} {v : V} {ds : List D} (h : Rd' K Hs H v (.list ds)) : ∃ a xs, v = .ref a ∧ H a = some (.lst xs) ∧ RpAll K Hs xs ds := by
  obtain ⟨a, o, rfl, e, c⟩ := (show ∃ a o, v = .ref a ∧ H a = some o ∧ Cr K Hs o (.list ds) from h)
  cases c with
  | lst q => exact ⟨a, _, rfl, e, q⟩
theorem Rd'.dict {K : PySem.W.Frag} {v : V} {ds : List (D × D)} (h : Rd' K Hs H v (.dict ds)) : ∃ a xs, v = .ref a ∧ Rd H a (.dK xs) ∧ RpKV K Hs xs ds := by
  obtain ⟨a, o, rfl, e, c⟩ := (show ∃ a o, v = .ref a ∧ H a = some o ∧ Cr K Hs o (.dict ds) from h)
  cases c with
  | dic q => exact ⟨a, _, rfl, .inl e, q⟩
  | frz q => exact ⟨a, _, rfl, .inr ⟨_, e⟩, q⟩
theorem Rd'.mkR {K : PySem.W.Frag} {a : Addr} {o : HO} {d : D} (h : H a = some o) (c : Cr K Hs o d) : Rd' K Hs H (.ref a) d := ifp c.is ⟨a, o, rfl, h, c⟩
theorem Rd'.mkC {K : PySem.W.Frag} {a : Addr} {o : HO} {d : D} (h : H a = some o) (c : Cn K Hs o d) : Rd' K Hs H (.ref a) d := Rd'.mkR h c.cr
theorem Rp.rd {K : PySem.W.Frag} {v : V} {d : D} (h : Rp K Hs v d) (sub : Same Hs H) : Rd' K Hs H v d := by
  cases e : isC d with
  | true =>
    obtain ⟨a, o, rfl, q, c⟩ := h.cn e
    exact Rd'.mkR (sub _ _ q) c
  | false => exact ifn (by rw [e]; exact Bool.false_ne_true) h
theorem Val.rd {Hst : Hp} {cat : Cat} {v : V} {d : D} (h : Val C H0 Hst Hs σ H cat v d) (sub : Same Hs H) : Rd' C.K Hs H v d := by
  cases cat with
  | E => exact Rp.rd h sub
  | F =>
    cases e : isC d with
    | true =>
      obtain ⟨a, rfl, o, h1, _, _, _, c, _⟩ := h.c e
      exact Rd'.mkC h1 c
    | false => exact Rp.rd (h.p e) sub
theorem R.notPen (r : R C H0 S0 Hs σ H s) {a : Addr} (h : H0 a = none) : ¬ IsPen C a := fun z => by
  rcases z with ⟨c, e⟩ | e
  · exact (r.pn a c e).2.2.2.1 h
  · exact (r.br a e).2 h
theorem Val.go {Hst : Hp} {cat : Cat} {v : V} {d : D} (h : Val C H0 Hst Hs σ H cat v d) (r : R C H0 S0 Hs σ H s) (g : Go C σ Hs H Hs' H') : Val C H0 Hst Hs' σ H' cat v d := by
  cases cat with
  | E => exact Rp.mono g.st h
  | F =>
    cases e : isC d with
    | true =>
      obtain ⟨a, rfl, o, h1, h2, h3, h4, h5, h6⟩ := h.c e
      refine Val.mkC ⟨o, g.kp a _ h1 h6 (r.notPen h3), ?_, h3, h4, h5.mono g.st, h6⟩
      cases q : Hs' a with
      | none => rfl
      | some o =>
        have := g.nw a h2 (by rw [q]; exact fun z => nomatch z)
        rw [h1] at this
        cases this
    | false => exact Val.mkP (Rp.mono g.st (h.p e)) e
theorem Val.anew {Hst Hst' : Hp} {cat : Cat} {v : V} {d : D} (h : Val C H0 Hst' Hs σ H cat v d) (e : ∀ a, Hst' a = none → Hst a = none) : Val C H0 Hst Hs σ H cat v d := by
  cases cat with
  | E => exact h
  | F =>
    cases q : isC d with
    | true =>
      obtain ⟨a, rfl, o, h1, h2, h3, h4, h5, h6⟩ := h.c q
      exact Val.mkC ⟨o, h1, h2, h3, e a h4, h5, h6⟩
    | false => exact Val.mkP (h.p q) q
theorem Go.back (g : Go C σ Hs H Hs' H') : ∀ a, H' a = none → H a = none := fun a h => by
  cases q : H a with
  | none => rfl
  | some o => obtain ⟨o', h'⟩ := g.th a o q; rw [h] at h'; cases h'
/-- a new list or dict goes into the still part -/
theorem R.freeze (r : R C H0 S0 Hs σ H s) {a : Addr} {d : D} {Hst : Hp} (f : Fresh C H0 Hst Hs σ H a d) : ∃ Hs', Same Hs Hs' ∧ R C H0 S0 Hs' σ H s ∧ Rp C.K Hs' (.ref a) d ∧ ∀ b, Hs b = none → Hs' b ≠ none → b = a := by
  obtain ⟨o, h1, h2, h3, h4, h5, h6⟩ := f
  have sm : Same Hs (upd Hs a o) := same_upd h2
  refine ⟨upd Hs a o, sm, ⟨r.len, fun b u e => ?_, fun i d e m => ?_, fun i d e m => ?_, r.dead, r.sep, fun p c e => ?_, r.br, r.s0.trans sm, r.h0, fun b e1 e2 => ?_⟩, (h5.mono sm).rp upd_same, fun b e1 e2 => ?_⟩
  · by_cases z : b = a
    · subst z; rw [upd_same] at e; cases e; exact h1
    · rw [upd_ne z] at e; exact r.sub _ _ e
  · obtain ⟨v, e1, e2⟩ := r.slot i d e m
    exact ⟨v, e1, Rp.mono sm e2⟩
  · obtain ⟨b, u, e2, e3, e4, e5, e6⟩ := r.mt i d e m
    refine ⟨b, u, e2, e3, ?_, e5.mono sm, e6⟩
    rw [upd_ne (fun z => h6 ⟨i, m, by rw [← z]; exact e2⟩)]
    exact e4
  · obtain ⟨e1, e2, e3, e4, e5⟩ := r.pn p c e
    refine ⟨e1, e2.mono sm (Same.refl _), ?_, e4, e5⟩
    rw [upd_ne (fun z => e4 (by rw [z]; exact h3))]
    exact e3
  · by_cases z : b = a
    · subst z; exact h3
    · rw [upd_ne z] at e2; exact r.new b e1 e2
  · by_cases z : b = a
    · exact z
    · rw [upd_ne z] at e2; exact absurd e1 e2
end
/-- an expression in the plain layer: from a state to a tree and a state -/
abbrev DT := S → (D → S → Prop) → Prop
/-- te's reading follows from t -/
structure Sim (C : Cf) (cat : Cat) (te : TE) (t : DT) : Prop where
  run : ∀ (H0 S0 Hs : Hp) (σ : L2.St) (H : Hp) (s : S) (Q : D → S → Prop) (Q' : VK), R C H0 S0 Hs σ H s → t s Q →
    (∀ Hs' H' v d s', Go C σ Hs H Hs' H' → R C H0 S0 Hs' σ H' s' → Val C H0 H Hs' σ H' cat v d → Q d s' → Q' v H') → te σ H Q'
section
variable {C : Cf} {te ta tb : TE} {t da db : DT}
/-- a new list laid down -/
theorem Sim.e (h : Sim C .F te t) : Sim C .E te t := by
  refine ⟨fun H0 S0 Hs σ H s Q Q' r q k => h.run H0 S0 Hs σ H s Q Q' r q fun Hs' H' v d s' g r' vl qq => ?_⟩
  cases e : isC d with
  | true =>
    obtain ⟨a, rfl, f⟩ := vl.c e
    obtain ⟨Hs2, s1, r2, rp, nw⟩ := r'.freeze f
    refine k Hs2 H' _ _ s' ⟨g.st.trans s1, g.kp, g.th, fun b e1 e2 => ?_⟩ r2 rp qq
    cases q3 : Hs' b with
    | some o => exact g.nw b e1 (by rw [q3]; exact fun z => nomatch z)
    | none =>
      have := nw b q3 e2
      subst this
      obtain ⟨_, _, _, _, h4, _⟩ := f
      exact h4
  | false => exact k Hs' H' _ _ s' g r' (vl.p e) qq
theorem Sim.toE {cat : Cat} (h : Sim C cat te t) : Sim C .E te t := by
  cases cat with
  | E => exact h
  | F => exact h.e
/-! names and constants -/
def dV (i : Nat) : DT := fun s Q => match s.δ[i]? with
  | some (some d) => Q d s
  | _ => False
theorem sim_var (i : Nat) (hi : i ∉ C.M) : Sim C .E (tVar i) (dV i) := by
  refine ⟨fun H0 S0 Hs σ H s Q Q' r q k => ?_⟩
  unfold dV at q
  split at q
  · rename_i d e
    obtain ⟨v, e1, e2⟩ := r.slot i d e hi
    exact ⟨v, e1, k Hs H v d s Go.refl r e2 q⟩
  · exact q.elim
def dC (d : D) : DT := fun s Q => Q d s
theorem sim_int (i : Int) : Sim C .F (tC (.int i)) (dC (.int i)) := ⟨fun H0 S0 Hs σ H s Q Q' r q k => k Hs H _ (.int i) s Go.refl r (Val.mkP (Rp.int i) rfl) q⟩
theorem sim_bl (b : Bool) : Sim C .F (tC (.bl b)) (dC (.bool b)) := ⟨fun H0 S0 Hs σ H s Q Q' r q k => k Hs H _ (.bool b) s Go.refl r (Val.mkP (Rp.bl b) rfl) q⟩
theorem sim_non : Sim C .F (tC .non) (dC .none) := ⟨fun H0 S0 Hs σ H s Q Q' r q k => k Hs H _ .none s Go.refl r (Val.mkP Rp.non rfl) q⟩
theorem sim_str (x : Str) : Sim C .F (tC (.str x)) (dC (.str x)) := ⟨fun H0 S0 Hs σ H s Q Q' r q k => k Hs H _ (.str x) s Go.refl r (Val.mkP (Rp.str x) rfl) q⟩
/-! operations by values -/
abbrev DO := D → D → (D → Prop) → Prop
/-- r's reading follows from f -/
def OpA (C : Cf) (r : R2) (f : DO) : Prop := ∀ (H0 S0 Hs : Hp) (σ : L2.St) (H : Hp) (s : S) (x y : V) (dx dy : D) (Q : D → Prop) (Q' : VK), R C H0 S0 Hs σ H s → Rd' C.K Hs H x dx → Rd' C.K Hs H y dy → f dx dy Q →
  (∀ Hs' H' v d, Go C σ Hs H Hs' H' → R C H0 S0 Hs' σ H' s → Val C H0 H Hs' σ H' .F v d → Q d → Q' v H') → r x y H Q'
def dOp (f : DO) (da db : DT) : DT := fun s Q => da s fun x s1 => db s1 fun y s2 => f x y fun z => Q z s2
theorem sim_op {r : R2} {f : DO} {ca cb : Cat} (ho : OpA C r f) (ha : Sim C ca ta da) (hb : Sim C cb tb db) : Sim C .F (tOp r ta tb) (dOp f da db) := by
  refine ⟨fun H0 S0 Hs σ H s Q Q' r0 q k => ha.run H0 S0 Hs σ H s _ _ r0 q fun Hs1 H1 x dx s1 g1 r1 v1 q1 => hb.run H0 S0 Hs1 σ H1 s1 _ _ r1 q1 fun Hs2 H2 y dy s2 g2 r2 v2 q2 => ?_⟩
  refine ho H0 S0 Hs2 σ H2 s2 x y dx dy _ _ r2 ((v1.go r1 g2).rd r2.sub) (v2.rd r2.sub) q2 fun Hs3 H3 v d g3 r3 v3 q3 => ?_
  exact k Hs3 H3 v d s2 (g1.trans (g2.trans g3)) r3 (v3.anew (fun a e => (g1.trans g2).back a e)) q3
/-- the left one a list of the def's own: read when the other one is there -/
def dOpM (f : DO) (i : Nat) (db : DT) : DT := fun s Q => (∃ d, s.δ[i]? = some (some d)) ∧ db s fun y s2 => match s2.δ[i]? with
  | some (some x) => f x y fun z => Q z s2
  | _ => False
theorem R.rdM (r : R C H0 S0 Hs σ H s) {i : Nat} {d : D} (hi : i ∈ C.M) (e : s.δ[i]? = some (some d)) : ∃ v, σ[i]? = some (some v) ∧ Rd' C.K Hs H v d := by
  obtain ⟨a, o, e1, e2, _, e3, _⟩ := r.mt i d e hi
  exact ⟨_, e1, Rd'.mkC e2 e3⟩
theorem sim_opM {r : R2} {f : DO} {cb : Cat} (i : Nat) (hi : i ∈ C.M) (ho : OpA C r f) (hb : Sim C cb tb db) : Sim C .F (tOp r (tVar i) tb) (dOpM f i db) := by
  refine ⟨fun H0 S0 Hs σ H s Q Q' r0 q k => ?_⟩
  obtain ⟨⟨d, e⟩, q⟩ := q
  obtain ⟨v, e1, _⟩ := r0.rdM hi e
  refine ⟨v, e1, hb.run H0 S0 Hs σ H s _ _ r0 q fun Hs2 H2 y dy s2 g2 r2 v2 q2 => ?_⟩
  split at q2
  · rename_i x ex
    obtain ⟨v', e2, rd⟩ := r2.rdM hi ex
    rw [e1] at e2
    cases e2
    refine ho H0 S0 Hs2 σ H2 s2 v y x dy _ _ r2 rd (v2.rd r2.sub) q2 fun Hs3 H3 v d g3 r3 v3 q3 => ?_
    exact k Hs3 H3 v d s2 (g2.trans g3) r3 (v3.anew (fun a e => g2.back a e)) q3
  · exact q2.elim
/-- the right one a list of the def's own -/
def dOpR (f : DO) (da : DT) (i : Nat) : DT := fun s Q => da s fun x s2 => match s2.δ[i]? with
  | some (some y) => f x y fun z => Q z s2
  | _ => False
theorem sim_opR {r : R2} {f : DO} {ca : Cat} (i : Nat) (hi : i ∈ C.M) (ho : OpA C r f) (ha : Sim C ca ta da) : Sim C .F (tOp r ta (tVar i)) (dOpR f da i) := by
  refine ⟨fun H0 S0 Hs σ H s Q Q' r0 q k => ha.run H0 S0 Hs σ H s _ _ r0 q fun Hs2 H2 x dx s2 g2 r2 v2 q2 => ?_⟩
  split at q2
  · rename_i y ey
    obtain ⟨v', e2, rd⟩ := r2.rdM hi ey
    refine ⟨v', e2, ho H0 S0 Hs2 σ H2 s2 x v' dx y _ _ r2 (v2.rd r2.sub) rd q2 fun Hs3 H3 v d g3 r3 v3 q3 => ?_⟩
    exact k Hs3 H3 v d s2 (g2.trans g3) r3 (v3.anew (fun a e => g2.back a e)) q3
  · exact q2.elim
def dOpMM (f : DO) (i j : Nat) : DT := fun s Q => match s.δ[i]?, s.δ[j]? with
  | some (some x), some (some y) => f x y fun z => Q z s
  | _, _ => False
theorem sim_opMM {r : R2} {f : DO} (i j : Nat) (hi : i ∈ C.M) (hj : j ∈ C.M) (ho : OpA C r f) : Sim C .F (tOp r (tVar i) (tVar j)) (dOpMM f i j) := by
  refine ⟨fun H0 S0 Hs σ H s Q Q' r0 q k => ?_⟩
  unfold dOpMM at q
  split at q
  · rename_i x y ex ey
    obtain ⟨v, e1, rd1⟩ := r0.rdM hi ex
    obtain ⟨v', e2, rd2⟩ := r0.rdM hj ey
    exact ⟨v, e1, v', e2, ho H0 S0 Hs σ H s v v' x y _ _ r0 rd1 rd2 q fun Hs3 H3 v d g3 r3 v3 q3 => k Hs3 H3 v d s g3 r3 v3 q3⟩
  · exact q.elim
end

/-! ### operations of the plain layer -/
section
variable {K : PySem.W.Frag} {H : Hp}
mutual
theorem Rp.dp : ∀ (d : D) {v : V}, Rp K H v d → d.canLay0 = true → Dp K H v d
  | .none, _, h, _ => by cases h; exact .non
  | .bool b, _, h, _ => by cases h; exact .bl b
  | .int b, _, h, _ => by cases h; exact .int b
  | .str b, _, h, _ => by cases h; exact .str b
  | .list ds, _, h, c => by
    cases h with
    | lst q a => exact .lst (SqL.of q) (RpAll.dp ds a (by simpa [PyData.canLay0] using c))
  | .tuple ds, _, h, c => by
    cases h with
    | tup q a => exact .tup q.sq (RpAll.dp ds a (by simpa [PyData.canLay0] using c))
  | .dict ds, _, _, c => by simp [PyData.canLay0] at c
theorem RpAll.dp : ∀ (ds : List D) {vs : List V}, RpAll K H vs ds → PyData.canLayAll0 ds = true → DpAll K H vs ds
  | [], _, h, _ => by cases h; exact .nil
  | d :: ds, _, h, c => by
    cases h with
    | cons a b =>
      simp only [PyData.canLayAll0, Bool.and_eq_true] at c
      exact .cons (Rp.dp d a c.1) (RpAll.dp ds b c.2)
end
end
/-- data that == may compare -/
def Sh (d : D) : Prop := SeqAt.shaped d = true
theorem Rd'.dp {K : PySem.W.Frag} {Hs H : Hp} {v : V} {d : D} (h : Rd' K Hs H v d) (sub : Same Hs H) (c : Sh d) : Dp K H v d := by
  have c' := SeqAt.canLay_of_shaped c
  cases e : isC d with
  | true =>
    cases d <;> first | (exfalso; have e' : false = true := e; cases e'; done) | skip
    case list ds =>
      obtain ⟨a, xs, rfl, h1, h2⟩ := Rd'.list h
      exact .lst (SqL.of h1) (DpAll_same sub (RpAll.dp ds h2 (by simpa [PyData.canLay0] using c')))
    case dict ds => simp [PyData.canLay0] at c'
  | false =>
    have h : (if isC d = true then _ else Rp K Hs v d) := h
    rw [if_neg (by rw [e]; exact Bool.false_ne_true)] at h
    exact Dp_same sub (Rp.dp _ h c')
section
variable {C : Cf} {σ : L2.St} {H0 S0 Hs H : Hp} {s : S}
/-- a new object in the heap, not of the still part -/
theorem Go.laid {a : Addr} {o : HO} (h : H a = none) : Go C σ Hs H Hs (upd H a o) :=
  ⟨Same.refl _, fun b x e _ _ => by rw [upd_ne (ne_of_none e h)]; exact e, fun b x e => ⟨x, by rw [upd_ne (ne_of_none e h)]; exact e⟩, fun _ h1 h2 => absurd h1 h2⟩
theorem R.laid (r : R C H0 S0 Hs σ H s) {a : Addr} {o : HO} (h : H a = none) : R C H0 S0 Hs σ (upd H a o) s := by
  have sm : Same H (upd H a o) := same_upd h
  refine ⟨r.len, r.sub.trans sm, r.slot, fun i d e m => ?_, r.dead, r.sep, fun p c e => ?_, r.br, r.s0, fun b x n e => sm _ _ (r.h0 b x n e), r.new⟩
  · obtain ⟨b, u, e2, e3, e4⟩ := r.mt i d e m
    exact ⟨b, u, e2, sm _ _ e3, e4⟩
  · obtain ⟨e1, e2, e3⟩ := r.pn p c e
    exact ⟨e1, e2.same sm, e3⟩
theorem R.free0 (r : R C H0 S0 Hs σ H s) {a : Addr} (h : H a = none) : H0 a = none ∧ Hs a = none ∧ ¬ Own C σ a ∧ ¬ IsPen C a := by
  have no : ¬ Own C σ a := fun ⟨i, m, e⟩ => by
    have hi : i < s.δ.length := by rw [← r.len]; exact (List.getElem?_eq_some_iff.mp e).1
    cases q : s.δ[i]'hi with
    | none =>
      have := r.dead i m (by rw [List.getElem?_eq_getElem hi, q])
      rw [e] at this; cases this
    | some d =>
      obtain ⟨b, u, e2, e3, _⟩ := r.mt i d (by rw [List.getElem?_eq_getElem hi, q]) m
      rw [e] at e2; cases e2
      rw [h] at e3; cases e3
  have np : ¬ IsPen C a := fun z => by
    rcases z with ⟨c, e⟩ | e
    · obtain ⟨_, e2⟩ := (r.pn a c e).2.1.at_
      rw [h] at e2; cases e2
    · obtain ⟨i, _, m, z⟩ := (r.br a e).1
      exact no ⟨i, m, z⟩
  refine ⟨?_, ?_, no, np⟩
  · cases q : H0 a with
    | none => rfl
    | some o => rw [r.h0 a o np q] at h; cases h
  · cases q : Hs a with
    | none => rfl
    | some o => rw [r.sub a o q] at h; cases h
/-- a new list or dict, nobody else's -/
theorem R.newC (r : R C H0 S0 Hs σ H s) {a : Addr} {o : HO} {d : D} (h : H a = none) (hx : Cn C.K Hs o d) : Val C H0 H Hs σ (upd H a o) .F (.ref a) d := by
  obtain ⟨h0, h1, h2, _⟩ := r.free0 h
  exact Val.mkC ⟨o, upd_same, h1, h0, h, hx, h2⟩
theorem R.newList (r : R C H0 S0 Hs σ H s) {a : Addr} {xs : List V} {ds : List D} (h : H a = none) (hx : RpAll C.K Hs xs ds) : Val C H0 H Hs σ (upd H a (.lst xs)) .F (.ref a) (.list ds) := r.newC h (.lst hx)
/-- a new tuple lies in the still part at once -/
theorem R.newTup (r : R C H0 S0 Hs σ H s) {a : Addr} {o : HO} (h : H a = none) : R C H0 S0 (upd Hs a o) σ (upd H a o) s ∧ Go C σ Hs H (upd Hs a o) (upd H a o) := by
  obtain ⟨h0, h1, h2, h3⟩ := r.free0 h
  have sm : Same H (upd H a o) := same_upd h
  have sm' : Same Hs (upd Hs a o) := same_upd h1
  have r' := r.laid (o := o) h
  refine ⟨⟨r.len, fun b x e => ?_, fun i d e m => ?_, fun i d e m => ?_, r.dead, r.sep, fun p c e => ?_, r.br, r.s0.trans sm', r'.h0, fun b e1 e2 => ?_⟩, sm', fun b x e _ _ => sm _ _ e, fun b x e => ⟨x, sm _ _ e⟩, fun b e1 e2 => ?_⟩
  · by_cases z : b = a
    · subst z; rw [upd_same] at e; rw [upd_same]; exact e
    · rw [upd_ne z] at e; exact r'.sub _ _ e
  · obtain ⟨v, e1, e2⟩ := r.slot i d e m
    exact ⟨v, e1, Rp.mono sm' e2⟩
  · obtain ⟨b, u, e2, e3, e4, e5, e6⟩ := r'.mt i d e m
    refine ⟨b, u, e2, e3, ?_, e5.mono sm', e6⟩
    rw [upd_ne (fun z => h2 ⟨i, m, by rw [← z]; exact e2⟩)]
    exact e4
  · obtain ⟨e1, e2, e3, e4⟩ := r'.pn p c e
    refine ⟨e1, e2.mono sm' (Same.refl _), ?_, e4⟩
    rw [upd_ne (fun z => h3 (.inl ⟨c, by rw [← z]; exact e⟩))]
    exact e3
  · by_cases z : b = a
    · subst z; exact h0
    · rw [upd_ne z] at e2; exact r.new b e1 e2
  · by_cases z : b = a
    · subst z; exact h
    · rw [upd_ne z] at e2; exact absurd e1 e2
end
theorem Val.bl {C : Cf} {H0 Hst Hs : Hp} {σ : L2.St} {H : Hp} (b : Bool) : Val C H0 Hst Hs σ H .F (.bl b) (.bool b) := Val.mkP (Rp.bl b) rfl
/-! the operators -/
section
variable {X : Cx} (K : PySem.W.Frag) (eK : X.K = K)
def rAddS : R2 := fun x y H Q => ∃ i j, x = .str i ∧ y = .str j ∧ i.length + j.length ≤ sizeLine ∧ Q (.str (i ++ j)) H
def rAddG (K : PySem.W.Frag) : R2 := fun x y H Q => rI0 (fun i j => .int (i + j)) x y H Q ∨ rAddS x y H Q ∨ rCat x y H Q ∨ rCatZ K x y H Q
include eK in
theorem addG : OpR X (binaryOp .Add) (rAddG K) := by
  subst eK
  exact OpR.or op_add (OpR.or op_add_str (OpR.or op_cat (op_catZ X.K rfl)))
def rMulG : R2 := fun x y H Q => rI CMulW (fun i j => .int (i * j)) x y H Q ∨ rRep x y H Q
theorem mulG : OpR X (binaryOp .Mult) rMulG := OpR.or op_mulW op_rep
/-- a dict beside an empty one -/
def rEqE (neg : Bool) : R2 := fun x y H Q => ∃ a b ks, x = .ref a ∧ y = .ref b ∧ Rd H a (.dK ks) ∧ Rd H b (.dK []) ∧ Q (.bl (xor neg ks.isEmpty)) H
theorem eqE_hits {A : Around} {s : Shared} {ks : List (Key × V)} {va vb : List (Key × Value)} (ra : KV ks va) (hb : vb = []) : va.length = vb.length → PySem.W.KeqHits A s vb va true := fun e => by
  subst hb
  cases va with
  | nil => exact .nil
  | cons p r => cases e
theorem kvNil {vb : List (Key × Value)} (rb : KV [] vb) : vb = [] := by
  have := rb.length
  cases vb with
  | nil => rfl
  | cons p r => cases this
theorem op_eqE (hu : X.A.units < cLine) : OpR X (compareOp .Eq) (rEqE false) := by
  intro pins s σ H x y v u Q I rx ry h
  obtain ⟨a, b, ks, rfl, rfl, ea, eb, q⟩ := h
  obtain rfl : v = Value.ref a := rx
  obtain rfl : u = Value.ref b := ry
  obtain ⟨_, ya, va, ra, da⟩ := dk_rd I.hok ea
  obtain ⟨_, yb, vb, rb, db⟩ := dk_rd I.hok eb
  have hb := kvNil rb
  have hl : (ks.isEmpty) = (va.length == vb.length) := by
    rw [hb, ← ra.length]
    cases ks <;> rfl
  exact PySem.W.keq_eq (knd := mixKind X.prog X.w) (r := true) ya yb da db hu (eqE_hits ra hb) (fin_bl I q (by simp [hl]))
theorem op_neE (hu : X.A.units < cLine) : OpR X (compareOp .NotEq) (rEqE true) := by
  intro pins s σ H x y v u Q I rx ry h
  obtain ⟨a, b, ks, rfl, rfl, ea, eb, q⟩ := h
  obtain rfl : v = Value.ref a := rx
  obtain rfl : u = Value.ref b := ry
  obtain ⟨_, ya, va, ra, da⟩ := dk_rd I.hok ea
  obtain ⟨_, yb, vb, rb, db⟩ := dk_rd I.hok eb
  have hb := kvNil rb
  have hl : (ks.isEmpty) = (va.length == vb.length) := by
    rw [hb, ← ra.length]
    cases ks <;> rfl
  exact PySem.W.keq_ne (knd := mixKind X.prog X.w) (r := true) ya yb da db hu (eqE_hits ra hb) (fin_bl I q (by simp [hl]))
def rEqG (K : PySem.W.Frag) : R2 := fun x y H Q => rEq x y H Q ∨ rEqD K x y H Q ∨ rEqE false x y H Q
def rNeG (K : PySem.W.Frag) : R2 := fun x y H Q => rNe x y H Q ∨ rNeD K x y H Q ∨ rEqE true x y H Q
include eK in
theorem eqG (hu : X.A.units + 64 < cLine) : OpR X (compareOp .Eq) (rEqG K) := by subst eK; exact OpR.or op_eq (OpR.or (op_eqD hu) (op_eqE (by omega)))
include eK in
theorem neG (hu : X.A.units + 64 < cLine) : OpR X (compareOp .NotEq) (rNeG K) := by subst eK; exact OpR.or op_ne (OpR.or (op_neD hu) (op_neE (by omega)))
def rInS (neg : Bool) : R2 := fun x y H Q => ∃ i j, x = .str i ∧ y = .str j ∧ Q (.bl (xor neg (!(Builtin.Str.occurrences j i 0 j.length 1).isEmpty))) H
def rInDk (neg : Bool) : R2 := fun x y H Q => ∃ a kvs k, y = .ref a ∧ x = kV k ∧ Rd H a (.dK kvs) ∧ Q (.bl (xor neg (valV kvs k).isSome)) H
def rInG (K : PySem.W.Frag) : R2 := fun x y H Q => rIn K false x y H Q ∨ rInD K x y H Q ∨ rInS false x y H Q ∨ rInDk false x y H Q
def rNinG (K : PySem.W.Frag) : R2 := fun x y H Q => rIn K true x y H Q ∨ rNotInD K x y H Q ∨ rInS true x y H Q ∨ rInDk true x y H Q
include eK in
theorem inG (hu : X.A.units + 65 < cLine) : OpR X (compareOp .In) (rInG K) := by
  subst eK
  refine OpR.or op_in_seq (OpR.or (op_inD hu) (OpR.or (fun pins s σ H x y v u Q I rx ry h => op_in_str pins s σ H x y v u Q I rx ry ?_) (fun pins s σ H x y v u Q I rx ry h => ?_)))
  · obtain ⟨i, j, rfl, rfl, q⟩ := h
    exact ⟨i, j, rfl, rfl, by simpa using q⟩
  · obtain ⟨a, kvs, k, rfl, rfl, hd, q⟩ := h
    cases (show u = Value.ref a from ry)
    exact d_in (by omega) I (.inl ⟨kvs, k, hd, rfl, rfl⟩) rx fun s3 I3 => ⟨.bl _, H, I3, rfl, by simpa using q⟩
include eK in
theorem ninG (hu : X.A.units + 65 < cLine) : OpR X (compareOp .NotIn) (rNinG K) := by
  subst eK
  refine OpR.or op_notIn_seq (OpR.or (op_notInD hu) (OpR.or (fun pins s σ H x y v u Q I rx ry h => op_notin_str pins s σ H x y v u Q I rx ry ?_) (fun pins s σ H x y v u Q I rx ry h => ?_)))
  · obtain ⟨i, j, rfl, rfl, q⟩ := h
    exact ⟨i, j, rfl, rfl, by simpa using q⟩
  · obtain ⟨a, kvs, k, rfl, rfl, hd, q⟩ := h
    cases (show u = Value.ref a from ry)
    exact d_notIn (by omega) I (.inl ⟨kvs, k, hd, rfl, rfl⟩) rx fun s3 I3 => ⟨.bl _, H, I3, rfl, by simpa using q⟩
def rIxDk : R2 := fun x y H Q => ∃ p kvs k v, x = .ref p ∧ y = kV k ∧ Rd H p (.dK kvs) ∧ valV kvs k = some v ∧ Q v H
theorem ixDk {X : Cx} (hu : X.A.units + 65 < cLine) : IxR X rIxDk := by
  intro value slice pins s σ H x y v u Q I rx ry h hs
  obtain ⟨p, kvs, k, z, rfl, rfl, hH, hv, q⟩ := h
  cases rx
  exact tail_any (isD_at I (.inl ⟨kvs, hH⟩)).1 slot_dict_getitem.lookup (d_getItem (v := z) (by omega) I (by rw [← hv]; exact .inl ⟨kvs, k, hH, rfl, rfl⟩) ry fun w' s' I' r' => ⟨z, H, I', r', q⟩) hs
def rIxG (K : PySem.W.Frag) : R2 := fun x y H Q => rIxL K x y H Q ∨ rIxT K x y H Q ∨ rIxS x y H Q ∨ rIxDk x y H Q
include eK in
theorem ixG (hu : X.A.units + 65 < cLine) : IxR X (rIxG K) := by subst eK; exact IxR.or ix_list (IxR.or ix_tup (IxR.or ix_str (ixDk hu)))
end
def addD : DO := fun x y Q => match x, y with
  | .int i, .int j => Q (.int (i + j))
  | .str a, .str b => a.length + b.length ≤ sizeLine ∧ Q (.str (a ++ b))
  | .list a, .list b => a.length + b.length ≤ sizeLine ∧ Q (.list (a ++ b))
  | .tuple a, .tuple b => a.length + b.length ≤ sizeLine ∧ Q (.tuple (a ++ b))
  | _, _ => False
def subD : DO := fun x y Q => match x, y with
  | .int i, .int j => Q (.int (i - j))
  | _, _ => False
def mulD : DO := fun x y Q => match x, y with
  | .int i, .int j => CMulW i j ∧ Q (.int (i * j))
  | .list a, .int k => k < 2 ^ 62 ∧ -(2 ^ 62) < k ∧ a.length * k.toNat ≤ sizeLine ∧ Q (.list (List.replicate k.toNat a).flatten)
  | _, _ => False
def fdivD : DO := fun x y Q => match x, y with
  | .int i, .int j => CDivW i j ∧ Q (.int (i / j))
  | _, _ => False
def modD : DO := fun x y Q => match x, y with
  | .int i, .int j => 0 < j ∧ Q (.int (i % j))
  | _, _ => False
def powD : DO := fun x y Q => match x, y with
  | .int i, .int j => CPow i j ∧ Q (.int (i ^ j.toNat))
  | _, _ => False
def cmpD (p : Int → Int → Bool) : DO := fun x y Q => match x, y with
  | .int i, .int j => Q (.bool (p i j))
  | _, _ => False
/-- == -/
def eqB : D → D → Option Bool
  | .str a, .str b => some (decide (a = b))
  | .int a, .int b => some (decide (a = b))
  | .bool a, .bool b => some (decide (a = b))
  | .none, .none => some true
  | .none, .str _ => some false
  | .str _, .none => some false
  | .none, .int _ => some false
  | .int _, .none => some false
  | .int _, .str _ => some false
  | .str _, .int _ => some false
  | _, _ => none
def eqD0 : DO := fun x y Q => match eqB x y with
  | some b => Q (.bool b)
  | none => Sh x ∧ Sh y ∧ Q (.bool (PyData.eqv x y))
def neD0 : DO := fun x y Q => match eqB x y with
  | some b => Q (.bool (!b))
  | none => Sh x ∧ Sh y ∧ Q (.bool (!PyData.eqv x y))
def eqD : DO := fun x y Q => match y with
  | .dict [] => (match x with
    | .dict ks => Q (.bool ks.isEmpty)
    | _ => False)
  | _ => eqD0 x y Q
def neD : DO := fun x y Q => match y with
  | .dict [] => (match x with
    | .dict ks => Q (.bool (!ks.isEmpty))
    | _ => False)
  | _ => neD0 x y Q
/-- what a dict holds at a key -/
def keyIs : D → D → Bool
  | .str a, .str b => decide (a = b)
  | .int a, .int b => decide (a = b)
  | _, _ => false
def isKey : D → Bool
  | .str _ => true
  | .int _ => true
  | _ => false
def findD : List (D × D) → D → Option D
  | [], _ => none
  | (k, d) :: r, x => if keyIs k x = true then some d else findD r x
def isND : DO := fun x y Q => match y with
  | .none => Q (.bool (match x with | .none => true | _ => false))
  | _ => False
def notND : DO := fun x y Q => match y with
  | .none => Q (.bool (match x with | .none => false | _ => true))
  | _ => False
/-- a flat tree's == -/
def flatD : D → Bool
  | .none => true
  | .bool _ => true
  | .int _ => true
  | .str _ => true
  | _ => false
def eqF : D → D → Bool
  | .none, .none => true
  | .bool a, .bool b => a == b
  | .bool a, .int b => (if a then 1 else 0) == b
  | .int a, .bool b => a == (if b then 1 else 0)
  | .int a, .int b => a == b
  | .str a, .str b => a == b
  | _, _ => false
def inD (neg : Bool) : DO := fun x y Q => match y with
  | .str b => (match x with
    | .str a => Q (.bool (xor neg (!(Builtin.Str.occurrences b a 0 b.length 1).isEmpty)))
    | _ => False)
  | .tuple ys => flatD x = true ∧ ys.all flatD = true ∧ Q (.bool (xor neg (ys.any fun z => eqF z x)))
  | .list ys => (flatD x = true ∧ ys.all flatD = true ∧ Q (.bool (xor neg (ys.any fun z => eqF z x)))) ∨ (Sh x ∧ Sh (.list ys) ∧ Q (.bool (xor neg (ys.any fun z => PyData.eqv z x))))
  | .dict kvs => isKey x = true ∧ Q (.bool (xor neg (findD kvs x).isSome))
  | _ => False
structure IxP (o : Option D) (Q : D → Prop) : Prop where
  ex : ∃ d, o = some d ∧ Q d
structure IxS (z : Str) (i : Int) (Q : D → Prop) : Prop where
  ln : z.length ≤ sizeLine
  ex : ∃ c, atI z.cps.toList i = some c ∧ Q (.str ⟨#[c]⟩)
def ixD : DO := fun x y Q => match y with
  | .int i => (match x with
    | .list ds => IxP (atI ds i) Q
    | .tuple ds => IxP (atI ds i) Q
    | .str z => IxS z i Q
    | .dict kvs => IxP (findD kvs (.int i)) Q
    | _ => False)
  | .str z => (match x with
    | .dict kvs => IxP (findD kvs (.str z)) Q
    | _ => False)
  | _ => False
theorem keyIs_key (a b : Key) : keyIs (keyD a) (keyD b) = decide (a = b) := by
  cases a <;> cases b <;> simp [keyIs, keyD]
theorem findD_rp {K : PySem.W.Frag} {H : Hp} {x : Key} : ∀ {kvs : List (Key × V)} {ds : List (D × D)}, RpKV K H kvs ds → (findD ds (keyD x) = none ∧ valV kvs x = none) ∨ ∃ d v, findD ds (keyD x) = some d ∧ valV kvs x = some v ∧ Rp K H v d
  | _, _, .nil => .inl ⟨rfl, rfl⟩
  | _, _, .cons (k := k) (v := v) (d := d) (vs := vs) (ds := ds) a b => by
    by_cases h : k = x
    · subst h
      exact .inr ⟨d, v, if_pos (by rw [keyIs_key]; exact decide_eq_true rfl), valV_pos rfl, a⟩
    · have e : findD ((keyD k, d) :: ds) (keyD x) = findD ds (keyD x) := if_neg (by rw [keyIs_key, decide_eq_false h]; exact Bool.false_ne_true)
      rw [e, valV_neg (p := (k, v)) h]
      exact findD_rp b
theorem findD_some {K : PySem.W.Frag} {H : Hp} {x : Key} {kvs : List (Key × V)} {ds : List (D × D)} {d : D} (h : RpKV K H kvs ds) (e : findD ds (keyD x) = some d) : ∃ v, valV kvs x = some v ∧ Rp K H v d := by
  rcases findD_rp (x := x) h with ⟨f1, _⟩ | ⟨d', v, f1, f2, f3⟩
  · rw [f1] at e; cases e
  · rw [f1] at e; cases e; exact ⟨v, f2, f3⟩
theorem findD_is {K : PySem.W.Frag} {H : Hp} {x : Key} {kvs : List (Key × V)} {ds : List (D × D)} (h : RpKV K H kvs ds) : (findD ds (keyD x)).isSome = (valV kvs x).isSome := by
  rcases findD_rp (x := x) h with ⟨f1, f2⟩ | ⟨d', v, f1, f2, f3⟩ <;> rw [f1, f2] <;> rfl
theorem RpKV.len {K : PySem.W.Frag} {H : Hp} : ∀ {kvs : List (Key × V)} {ds : List (D × D)}, RpKV K H kvs ds → kvs.length = ds.length
  | _, _, .nil => rfl
  | _, _, .cons _ b => by rw [List.length_cons, List.length_cons, RpKV.len b]
theorem isKey_of {d : D} (h : isKey d = true) : ∃ k : Key, d = keyD k := by
  cases d <;> first | (cases h; done) | skip
  · exact ⟨.inl _, rfl⟩
  · exact ⟨.inr _, rfl⟩
theorem Rp.key {K : PySem.W.Frag} {H : Hp} {v : V} {k : Key} (h : Rp K H v (keyD k)) : v = kV k := by
  cases k with
  | inl i => cases h; rfl
  | inr i => cases h; rfl
section
variable {C : Cf}
theorem opA_add : OpA C (rAddG C.K) addD := by
  intro H0 S0 Hs σ H s x y dx dy Q Q' r hx hy q k
  cases dx <;> cases dy <;> first | exact q.elim | skip
  case int.int i j => cases hx; cases hy; exact .inl ⟨i, j, rfl, rfl, k Hs H _ (.int (i + j)) Go.refl r (Val.mkP (Rp.int _) rfl) q⟩
  case str.str a b => cases hx; cases hy; exact .inr (.inl ⟨a, b, rfl, rfl, q.1, k Hs H _ (.str (a ++ b)) Go.refl r (Val.mkP (Rp.str _) rfl) q.2⟩)
  case list.list ds es =>
    obtain ⟨a, xs, rfl, h1, h2⟩ := Rd'.list hx
    obtain ⟨b, ys, rfl, h3, h4⟩ := Rd'.list hy
    refine .inr (.inr (.inl ⟨a, b, xs, ys, rfl, rfl, h1, h3, by rw [h2.len, h4.len]; exact q.1, fun p np => ?_⟩))
    exact k Hs _ _ (.list (ds ++ es)) (Go.laid np) (r.laid np) (r.newList np (h2.app h4)) q.2
  case tuple.tuple ds es =>
    cases hx with
    | @tup a xs _ h1 h2 =>
    cases hy with
    | @tup b ys _ h3 h4 =>
    refine .inr (.inr (.inr ⟨a, b, xs, ys, rfl, rfl, Same.sqT r.sub h1.sq, Same.sqT r.sub h3.sq, by rw [h2.len, h4.len]; exact q.1, fun e => ?_, fun _ e => ?_, fun _ _ p o np hd => ?_⟩))
    · subst e
      cases h2
      exact k Hs H _ (.tuple ([] ++ es)) Go.refl r (Val.mkP (Rp.tup h3 h4) rfl) q.2
    · subst e
      cases h4
      exact k Hs H _ (.tuple (ds ++ [])) Go.refl r (Val.mkP (by rw [List.append_nil]; exact Rp.tup h1 h2) rfl) q.2
    · obtain ⟨r', g'⟩ := r.newTup (o := .frz o (.tup (xs ++ ys))) np
      exact k _ _ _ (.tuple (ds ++ es)) g' r' (Val.mkP (Rp.tup (TqT.of upd_same hd) (RpAll.mono g'.st (h2.app h4))) rfl) q.2
theorem opA_sub : OpA C (rI0 fun i j => .int (i - j)) subD := by
  intro H0 S0 Hs σ H s x y dx dy Q Q' r hx hy q k
  cases dx <;> cases dy <;> first | exact q.elim | skip
  case int.int i j => cases hx; cases hy; exact ⟨i, j, rfl, rfl, k Hs H _ (.int (i - j)) Go.refl r (Val.mkP (Rp.int _) rfl) q⟩
theorem RpAll.rep {K : PySem.W.Frag} {H : Hp} {xs : List V} {ds : List D} (h : RpAll K H xs ds) : ∀ n : Nat, RpAll K H (List.replicate n xs).flatten (List.replicate n ds).flatten
  | 0 => .nil
  | n + 1 => by rw [List.replicate_succ, List.replicate_succ, List.flatten_cons, List.flatten_cons]; exact h.app (RpAll.rep h n)
theorem opA_mul : OpA C rMulG mulD := by
  intro H0 S0 Hs σ H s x y dx dy Q Q' r hx hy q k
  cases dx <;> cases dy <;> first | exact q.elim | skip
  case int.int i j => cases hx; cases hy; exact .inl ⟨i, j, rfl, rfl, q.1, k Hs H _ (.int (i * j)) Go.refl r (Val.mkP (Rp.int _) rfl) q.2⟩
  case list.int ds n =>
    obtain ⟨a, xs, rfl, h1, h2⟩ := Rd'.list hx
    cases hy
    refine .inr ⟨a, n, xs, rfl, rfl, h1, by have := q.2.1; omega, by have := q.1; omega, by rw [h2.len]; exact q.2.2.1, fun p np => ?_⟩
    exact k Hs _ _ (.list (List.replicate n.toNat ds).flatten) (Go.laid np) (r.laid np) (r.newList np (h2.rep n.toNat)) q.2.2.2
theorem opA_fdiv : OpA C (rI CDivW fun i j => .int (i / j)) fdivD := by
  intro H0 S0 Hs σ H s x y dx dy Q Q' r hx hy q k
  cases dx <;> cases dy <;> first | exact q.elim | skip
  case int.int i j => cases hx; cases hy; exact ⟨i, j, rfl, rfl, q.1, k Hs H _ (.int (i / j)) Go.refl r (Val.mkP (Rp.int _) rfl) q.2⟩
theorem opA_mod : OpA C (rI (fun _ j => 0 < j) fun i j => .int (i % j)) modD := by
  intro H0 S0 Hs σ H s x y dx dy Q Q' r hx hy q k
  cases dx <;> cases dy <;> first | exact q.elim | skip
  case int.int i j => cases hx; cases hy; exact ⟨i, j, rfl, rfl, q.1, k Hs H _ (.int (i % j)) Go.refl r (Val.mkP (Rp.int _) rfl) q.2⟩
theorem opA_pow : OpA C (rI CPow fun i j => .int (i ^ j.toNat)) powD := by
  intro H0 S0 Hs σ H s x y dx dy Q Q' r hx hy q k
  cases dx <;> cases dy <;> first | exact q.elim | skip
  case int.int i j => cases hx; cases hy; exact ⟨i, j, rfl, rfl, q.1, k Hs H _ (.int (i ^ j.toNat)) Go.refl r (Val.mkP (Rp.int _) rfl) q.2⟩
theorem opA_cmp (p : Int → Int → Bool) : OpA C (rI0 fun i j => .bl (p i j)) (cmpD p) := by
  intro H0 S0 Hs σ H s x y dx dy Q Q' r hx hy q k
  cases dx <;> cases dy <;> first | exact q.elim | skip
  case int.int i j => cases hx; cases hy; exact ⟨i, j, rfl, rfl, k Hs H _ (.bool (p i j)) Go.refl r (Val.mkP (Rp.bl _) rfl) q⟩
theorem eqB_some {K : PySem.W.Frag} {Hs H : Hp} {x y : V} {dx dy : D} {b : Bool} (hx : Rd' K Hs H x dx) (hy : Rd' K Hs H y dy) (e : eqB dx dy = some b) : scal x y = true ∧ decide (x = y) = b := by
  cases dx <;> cases dy <;> first | (exfalso; have e' : (none : Option Bool) = some b := e; cases e'; done) | skip
  all_goals (cases hx; cases hy; simp only [eqB, Option.some.injEq] at e; subst e; exact ⟨rfl, by simp⟩)
theorem eqE_rd {K : PySem.W.Frag} {Hs H : Hp} {x y : V} {ks : List (D × D)} (hx : Rd' K Hs H x (.dict ks)) (hy : Rd' K Hs H y (.dict [])) : ∃ a b ls, x = .ref a ∧ y = .ref b ∧ Rd H a (.dK ls) ∧ Rd H b (.dK []) ∧ ls.isEmpty = ks.isEmpty := by
  obtain ⟨a, xs, rfl, h1, h2⟩ := Rd'.dict hx
  obtain ⟨b, ys, rfl, h3, h4⟩ := Rd'.dict hy
  cases h4
  refine ⟨a, b, xs, rfl, rfl, h1, h3, ?_⟩
  cases h2 <;> rfl
theorem opA_eq : OpA C (rEqG C.K) eqD := by
  intro H0 S0 Hs σ H s x y dx dy Q Q' r hx hy q k
  have old : eqD0 dx dy Q → rEqG C.K x y H Q' := ?old
  · unfold eqD at q
    split at q
    · split at q
      · obtain ⟨a, b, ls, rfl, rfl, h1, h2, h3⟩ := eqE_rd hx hy
        exact .inr (.inr ⟨a, b, ls, rfl, rfl, h1, h2, k Hs H _ (.bool _) Go.refl r (Val.mkP (by simpa [h3] using Rp.bl _) rfl) q⟩)
      · exact q.elim
    · exact old q
  intro q
  unfold eqD0 at q
  split at q
  · rename_i b e
    obtain ⟨h1, h2⟩ := eqB_some hx hy e
    exact .inl ⟨h1, by rw [h2]; exact k Hs H _ (.bool b) Go.refl r (Val.mkP (Rp.bl _) rfl) q⟩
  · exact .inr (.inl ⟨dx, dy, hx.dp r.sub q.1, hy.dp r.sub q.2.1, q.1, q.2.1, k Hs H _ (.bool (PyData.eqv dx dy)) Go.refl r (Val.mkP (Rp.bl _) rfl) q.2.2⟩)
theorem opA_ne : OpA C (rNeG C.K) neD := by
  intro H0 S0 Hs σ H s x y dx dy Q Q' r hx hy q k
  have old : neD0 dx dy Q → rNeG C.K x y H Q' := ?old
  · unfold neD at q
    split at q
    · split at q
      · obtain ⟨a, b, ls, rfl, rfl, h1, h2, h3⟩ := eqE_rd hx hy
        exact .inr (.inr ⟨a, b, ls, rfl, rfl, h1, h2, k Hs H _ (.bool _) Go.refl r (Val.mkP (by simpa [h3] using Rp.bl _) rfl) q⟩)
      · exact q.elim
    · exact old q
  intro q
  unfold neD0 at q
  split at q
  · rename_i b e
    obtain ⟨h1, h2⟩ := eqB_some hx hy e
    exact .inl ⟨h1, by rw [h2]; exact k Hs H _ (.bool (!b)) Go.refl r (Val.mkP (Rp.bl _) rfl) q⟩
  · exact .inr (.inl ⟨dx, dy, hx.dp r.sub q.1, hy.dp r.sub q.2.1, q.1, q.2.1, k Hs H _ (.bool (!PyData.eqv dx dy)) Go.refl r (Val.mkP (Rp.bl _) rfl) q.2.2⟩)
def rIsNV : R2 := fun x y H Q => y = .non ∧ Q (.bl (decide (x = .non))) H
def rNotNV : R2 := fun x y H Q => y = .non ∧ Q (.bl (!decide (x = .non))) H
theorem opA_isN : OpA C (fun x y H Q => y = .non ∧ Q (.bl (decide (x = .non))) H) isND := by
  intro H0 S0 Hs σ H s x y dx dy Q Q' r hx hy q k
  cases dy <;> first | exact q.elim | skip
  cases hy
  refine ⟨rfl, ?_⟩
  cases dx with
  | none => cases hx; exact k Hs H _ (.bool true) Go.refl r (Val.mkP (Rp.bl _) rfl) q
  | bool b => cases hx; exact k Hs H _ (.bool false) Go.refl r (by simpa using Val.bl _) q
  | int b => cases hx; exact k Hs H _ (.bool false) Go.refl r (by simpa using Val.bl _) q
  | str b => cases hx; exact k Hs H _ (.bool false) Go.refl r (by simpa using Val.bl _) q
  | list b => obtain ⟨a, xs, rfl, _⟩ := Rd'.list hx; exact k Hs H _ (.bool false) Go.refl r (by simpa using Val.bl _) q
  | tuple b => cases hx; exact k Hs H _ (.bool false) Go.refl r (by simpa using Val.bl _) q
  | dict b => obtain ⟨a, xs, rfl, _⟩ := Rd'.dict hx; exact k Hs H _ (.bool false) Go.refl r (by simpa using Val.bl _) q
theorem opA_notN : OpA C (fun x y H Q => y = .non ∧ Q (.bl (!decide (x = .non))) H) notND := by
  intro H0 S0 Hs σ H s x y dx dy Q Q' r hx hy q k
  cases dy <;> first | exact q.elim | skip
  cases hy
  refine ⟨rfl, ?_⟩
  cases dx with
  | none => cases hx; exact k Hs H _ (.bool false) Go.refl r (Val.mkP (Rp.bl _) rfl) q
  | bool b => cases hx; exact k Hs H _ (.bool true) Go.refl r (by simpa using Val.bl _) q
  | int b => cases hx; exact k Hs H _ (.bool true) Go.refl r (by simpa using Val.bl _) q
  | str b => cases hx; exact k Hs H _ (.bool true) Go.refl r (by simpa using Val.bl _) q
  | list b => obtain ⟨a, xs, rfl, _⟩ := Rd'.list hx; exact k Hs H _ (.bool true) Go.refl r (by simpa using Val.bl _) q
  | tuple b => cases hx; exact k Hs H _ (.bool true) Go.refl r (by simpa using Val.bl _) q
  | dict b => obtain ⟨a, xs, rfl, _⟩ := Rd'.dict hx; exact k Hs H _ (.bool true) Go.refl r (by simpa using Val.bl _) q
theorem flat_rd {K : PySem.W.Frag} {Hs H : Hp} {x : V} {d : D} (h : Rd' K Hs H x d) (f : flatD d = true) : flatV x = true ∧ ∀ {y : V} {e : D}, Rp K Hs y e → flatD e = true → eqV y x = eqF e d := by
  cases d <;> first | (exfalso; have f' : false = true := f; cases f'; done) | skip
  all_goals
    cases h
    refine ⟨rfl, fun {y e} hy fe => ?_⟩
    cases e <;> first | (exfalso; have f' : false = true := fe; cases f'; done) | (cases hy; rfl)
theorem any_rd {K : PySem.W.Frag} {Hs H : Hp} {x : V} {d : D} (h : Rd' K Hs H x d) (f : flatD d = true) : ∀ {xs : List V} {ds : List D}, RpAll K Hs xs ds → ds.all flatD = true → xs.all flatV = true ∧ inV x xs = ds.any fun z => eqF z d
  | _, _, .nil, _ => ⟨rfl, rfl⟩
  | _, _, .cons (v := v) (vs := vs) (d := e) (ds := es) a b, g => by
    rw [List.all_cons, Bool.and_eq_true] at g
    obtain ⟨h1, h2⟩ := any_rd h f b g.2
    have fv : flatV v = true := by
      cases e <;> first | (exfalso; have f' : false = true := g.1; cases f'; done) | (cases a; rfl)
    refine ⟨by rw [List.all_cons, fv, h1]; rfl, ?_⟩
    unfold inV at h2 ⊢
    rw [List.any_cons, List.any_cons, h2, (flat_rd h f).2 a g.1]
theorem opA_inX (neg : Bool) {rr : R2} (h1 : ∀ x y H Q, rIn C.K neg x y H Q → rr x y H Q) (h2 : ∀ x y H Q, rInS neg x y H Q → rr x y H Q)
    (h3 : ∀ x y H (Q : VK), (∃ d ds, Dp C.K H x d ∧ Dp C.K H y (.list ds) ∧ SeqAt.shaped d = true ∧ SeqAt.shaped (.list ds) = true ∧ Q (.bl (xor neg (ds.any fun z => PyData.eqv z d))) H) → rr x y H Q) (h4 : ∀ x y H Q, rInDk neg x y H Q → rr x y H Q) : OpA C rr (inD neg) := by
  intro H0 S0 Hs σ H s x y dx dy Q Q' r hx hy q k
  cases dy <;> first | exact q.elim | skip
  case str b =>
    cases dx <;> first | exact q.elim | skip
    cases hx; cases hy
    exact h2 _ _ _ _ ⟨_, _, rfl, rfl, k Hs H _ (.bool _) Go.refl r (Val.mkP (Rp.bl _) rfl) q⟩
  case tuple ys =>
    obtain ⟨f1, f2, q⟩ := q
    cases hy with
    | @tup a xs _ e1 e2 =>
    obtain ⟨g1, g2⟩ := any_rd hx f1 e2 f2
    refine h1 _ _ _ _ ⟨a, xs, rfl, .inr (Same.sqT r.sub e1.sq), (flat_rd hx f1).1, g1, ?_⟩
    rw [g2]
    refine k Hs H _ (.bool _) Go.refl r ?_ q
    cases neg with
    | true => simpa using Val.bl _
    | false => simpa using Val.bl _
  case list ys =>
    have hy' := hy
    obtain ⟨a, xs, rfl, e1, e2⟩ := Rd'.list hy
    rcases q with ⟨f1, f2, q⟩ | ⟨f1, f2, q⟩
    · obtain ⟨g1, g2⟩ := any_rd hx f1 e2 f2
      refine h1 _ _ _ _ ⟨a, xs, rfl, .inl (SqL.of e1), (flat_rd hx f1).1, g1, ?_⟩
      rw [g2]
      refine k Hs H _ (.bool _) Go.refl r ?_ q
      cases neg with
      | true => simpa using Val.bl _
      | false => simpa using Val.bl _
    · exact h3 _ _ _ _ ⟨dx, ys, hx.dp r.sub f1, hy'.dp r.sub f2, f1, f2, k Hs H _ (.bool _) Go.refl r (Val.mkP (Rp.bl _) rfl) q⟩
  case dict kvs =>
    obtain ⟨hk, q⟩ := q
    obtain ⟨a, ls, rfl, e1, e2⟩ := Rd'.dict hy
    obtain ⟨kk, rfl⟩ := isKey_of hk
    have hx' : Rp C.K Hs x (keyD kk) := by cases kk <;> exact hx
    refine h4 _ _ _ _ ⟨a, ls, kk, rfl, hx'.key, e1, k Hs H _ (.bool _) Go.refl r (Val.mkP ?_ rfl) q⟩
    rw [findD_is e2]
    exact Rp.bl _
theorem opA_in : OpA C (rInG C.K) (inD false) := opA_inX false (fun _ _ _ _ h => .inl h) (fun _ _ _ _ h => .inr (.inr (.inl h))) (fun _ _ _ _ h => by
  obtain ⟨d, ds, a, b, c, e, q⟩ := h
  exact .inr (.inl ⟨d, ds, a, b, c, e, by simpa using q⟩)) (fun _ _ _ _ h => .inr (.inr (.inr h)))
theorem opA_nin : OpA C (rNinG C.K) (inD true) := opA_inX true (fun _ _ _ _ h => .inl h) (fun _ _ _ _ h => .inr (.inr (.inl h))) (fun _ _ _ _ h => by
  obtain ⟨d, ds, a, b, c, e, q⟩ := h
  exact .inr (.inl ⟨d, ds, a, b, c, e, by simpa using q⟩)) (fun _ _ _ _ h => .inr (.inr (.inr h)))
theorem atI_all {K : PySem.W.Frag} {H : Hp} {xs : List V} {ds : List D} {i : Int} {d : D} (h : RpAll K H xs ds) (e : atI ds i = some d) : ∃ v, atI xs i = some v ∧ Rp K H v d := by
  unfold atI at e ⊢
  rw [h.len]
  cases q : ixN ds.length i with
  | none => rw [q] at e; cases e
  | some j =>
    rw [q] at e
    obtain ⟨x, e1, e2⟩ := h.get (i := j) e
    exact ⟨x, e1, e2⟩
theorem opA_ix {ca : Cat} {ta tb : TE} {da db : DT} (ha : Sim C ca ta da) {cb : Cat} (hb : Sim C cb tb db) : Sim C .E (tOp (rIxG C.K) ta tb) (dOp ixD da db) := by
  refine ⟨fun H0 S0 Hs σ H s Q Q' r0 q k => ha.run H0 S0 Hs σ H s _ _ r0 q fun Hs1 H1 x dx s1 g1 r1 v1 q1 => hb.run H0 S0 Hs1 σ H1 s1 _ _ r1 q1 fun Hs2 H2 y dy s2 g2 r2 v2 q2 => ?_⟩
  have rx := (v1.go r1 g2).rd r2.sub
  have ry := v2.rd r2.sub
  cases dy <;> first | exact q2.elim | skip
  all_goals cases ry
  all_goals (cases dx <;> first | exact q2.elim | skip)
  case int.dict i kvs =>
    obtain ⟨a, ls, rfl, e1, e2⟩ := Rd'.dict rx
    obtain ⟨⟨d, e, q2⟩⟩ := (show IxP (findD kvs (keyD (.inl i))) _ from q2)
    obtain ⟨v, e3, e4⟩ := findD_some e2 e
    exact .inr (.inr (.inr ⟨a, ls, .inl i, v, rfl, rfl, e1, e3, k Hs2 H2 v d s2 (g1.trans g2) r2 e4 q2⟩))
  case str.dict i kvs =>
    obtain ⟨a, ls, rfl, e1, e2⟩ := Rd'.dict rx
    obtain ⟨⟨d, e, q2⟩⟩ := (show IxP (findD kvs (keyD (.inr i))) _ from q2)
    obtain ⟨v, e3, e4⟩ := findD_some e2 e
    exact .inr (.inr (.inr ⟨a, ls, .inr i, v, rfl, rfl, e1, e3, k Hs2 H2 v d s2 (g1.trans g2) r2 e4 q2⟩))
  case int.list i ds =>
    obtain ⟨a, xs, rfl, e1, e2⟩ := Rd'.list rx
    obtain ⟨⟨d, e, q2⟩⟩ := (show IxP (atI ds i) _ from q2)
    obtain ⟨v, e3, e4⟩ := atI_all e2 e
    exact .inl ⟨a, xs, i, v, rfl, rfl, SqL.of e1, e3, k Hs2 H2 v d s2 (g1.trans g2) r2 e4 q2⟩
  case int.tuple i ds =>
    cases rx with
    | @tup a xs _ e1 e2 =>
    obtain ⟨⟨d, e, q2⟩⟩ := (show IxP (atI ds i) _ from q2)
    obtain ⟨v, e3, e4⟩ := atI_all e2 e
    exact .inr (.inl ⟨a, xs, i, v, rfl, rfl, Same.sqT r2.sub e1.sq, e3, k Hs2 H2 v d s2 (g1.trans g2) r2 e4 q2⟩)
  case int.str i z =>
    cases rx
    obtain ⟨hz, c, e, q2⟩ := (show IxS z i _ from q2)
    exact .inr (.inr (.inl ⟨z, i, c, rfl, rfl, hz, e, k Hs2 H2 _ (.str ⟨#[c]⟩) s2 (g1.trans g2) r2 (Rp.str _) q2⟩))
theorem opA_ixM (i : Nat) (hi : i ∈ C.M) {tb : TE} {db : DT} {cb : Cat} (hb : Sim C cb tb db) : Sim C .E (tOp (rIxG C.K) (tVar i) tb) (dOpM ixD i db) := by
  refine ⟨fun H0 S0 Hs σ H s Q Q' r0 q k => ?_⟩
  obtain ⟨⟨d, e⟩, q⟩ := q
  obtain ⟨v, e1, _⟩ := r0.rdM hi e
  refine ⟨v, e1, hb.run H0 S0 Hs σ H s _ _ r0 q fun Hs2 H2 y dy s2 g2 r2 v2 q2 => ?_⟩
  split at q2
  · rename_i x ex
    obtain ⟨a, o, e2, e3, e4, e5, _⟩ := r2.mt i x ex hi
    rw [e1] at e2
    cases e2
    have ry := v2.rd r2.sub
    cases dy <;> first | exact q2.elim | skip
    case int j =>
      cases ry
      cases e5 with
      | lst e5 =>
        rename_i xs ds
        obtain ⟨⟨d, e, q2⟩⟩ := (show IxP (atI ds j) _ from q2)
        obtain ⟨v, e6, e7⟩ := atI_all e5 e
        exact .inl ⟨a, xs, j, v, rfl, rfl, SqL.of e3, e6, k Hs2 H2 v d s2 g2 r2 e7 q2⟩
      | dic e5 =>
        rename_i xs ds
        obtain ⟨⟨d, e, q2⟩⟩ := (show IxP (findD ds (keyD (.inl j))) _ from q2)
        obtain ⟨v, e6, e7⟩ := findD_some e5 e
        exact .inr (.inr (.inr ⟨a, xs, .inl j, v, rfl, rfl, .inl e3, e6, k Hs2 H2 v d s2 g2 r2 e7 q2⟩))
    case str j =>
      cases ry
      cases e5 with
      | lst e5 => exact q2.elim
      | dic e5 =>
        rename_i xs ds
        obtain ⟨⟨d, e, q2⟩⟩ := (show IxP (findD ds (keyD (.inr j))) _ from q2)
        obtain ⟨v, e6, e7⟩ := findD_some e5 e
        exact .inr (.inr (.inr ⟨a, xs, .inr j, v, rfl, rfl, .inl e3, e6, k Hs2 H2 v d s2 g2 r2 e7 q2⟩))
  · exact q2.elim
end

/-! ### displays, tests, calls -/
abbrev DA := S → (List D → S → Prop) → Prop
structure SimA (C : Cf) (n : Nat) (ta : TA) (t : DA) : Prop where
  run : ∀ (H0 S0 Hs : Hp) (σ : L2.St) (H : Hp) (s : S) (Q : List D → S → Prop) (Q' : List V → Hp → Prop), R C H0 S0 Hs σ H s → t s Q →
    (∀ Hs' H' vs ds s', Go C σ Hs H Hs' H' → R C H0 S0 Hs' σ H' s' → RpAll C.K Hs' vs ds → ds.length = n → Q ds s' → Q' vs H') → ta σ H Q'
abbrev DB := S → (Bool → S → Prop) → Prop
structure SimT (C : Cf) (tt : TT) (t : DB) : Prop where
  run : ∀ (H0 S0 Hs : Hp) (σ : L2.St) (H : Hp) (s : S) (Q : Bool → S → Prop) (Q' : Bool → Hp → Prop), R C H0 S0 Hs σ H s → t s Q →
    (∀ Hs' H' b s', Go C σ Hs H Hs' H' → R C H0 S0 Hs' σ H' s' → Q b s' → Q' b H') → tt σ H Q'
section
variable {C : Cf} {te ta tb tc : TE} {t da db dc : DT} {ca cb cc : Cat}
def dNil : DA := fun s Q => Q [] s
def dCons (a : DT) (r : DA) : DA := fun s Q => a s fun d s1 => r s1 fun ds s2 => Q (d :: ds) s2
theorem simA_nil : SimA C 0 tNil dNil := ⟨fun H0 S0 Hs σ H s Q Q' r q k => k Hs H [] [] s Go.refl r .nil rfl q⟩
theorem simA_cons {n : Nat} {tr : TA} {dr : DA} (ha : Sim C ca ta da) (hr : SimA C n tr dr) : SimA C (n + 1) (tCons ta tr) (dCons da dr) := by
  refine ⟨fun H0 S0 Hs σ H s Q Q' r q k => ha.toE.run H0 S0 Hs σ H s _ _ r q fun Hs1 H1 x dx s1 g1 r1 v1 q1 => hr.run H0 S0 Hs1 σ H1 s1 _ _ r1 q1 fun Hs2 H2 vs ds s2 g2 r2 v2 l2 q2 => ?_⟩
  exact k Hs2 H2 (x :: vs) (dx :: ds) s2 (g1.trans g2) r2 (.cons (Rp.mono g2.st v1) v2) (by rw [List.length_cons, l2]) q2
theorem small_line {n : Nat} (h : n ≤ 1000) : n ≤ sizeLine := Nat.le_trans h (by decide)
def dTup (a : DA) : DT := fun s Q => a s fun ds s1 => Q (.tuple ds) s1
theorem sim_tup {n : Nat} {t : TA} {a : DA} (hn : n ≤ 1000) (h : SimA C n t a) : Sim C .F (tTupZ t) (dTup a) := by
  refine ⟨fun H0 S0 Hs σ H s Q Q' r q k => h.run H0 S0 Hs σ H s _ _ r q fun Hs1 H1 vs ds s1 g1 r1 v1 l1 q1 => ⟨by rw [v1.len, l1]; exact small_line hn, fun p o np hd => ?_⟩⟩
  obtain ⟨r', g'⟩ := r1.newTup (o := .frz o (.tup vs)) np
  exact k _ _ _ (.tuple ds) s1 (g1.trans g') r' (Val.mkP (Rp.tup (TqT.of upd_same hd) (RpAll.mono g'.st v1)) rfl) q1
def dLst (a : DA) : DT := fun s Q => a s fun ds s1 => Q (.list ds) s1
theorem sim_lst {n : Nat} {t : TA} {a : DA} (hn : n ≤ 1000) (h : SimA C n t a) : Sim C .F (tLst t) (dLst a) := by
  refine ⟨fun H0 S0 Hs σ H s Q Q' r q k => h.run H0 S0 Hs σ H s _ _ r q fun Hs1 H1 vs ds s1 g1 r1 v1 l1 q1 => ⟨by rw [v1.len, l1]; exact small_line hn, fun p np => ?_⟩⟩
  exact k Hs1 _ _ (.list ds) s1 (g1.trans (Go.laid np)) (r1.laid np) ((r1.newList np v1).anew fun a e => g1.back a e) q1
/-! tests -/
def dBl (a : DT) : DB := fun s Q => a s fun d s1 => match d with
  | .bool b => Q b s1
  | _ => False
theorem Val.bool {H0 Hst Hs : Hp} {σ : L2.St} {H : Hp} {v : V} {b : Bool} {cat : Cat} (h : Val C H0 Hst Hs σ H cat v (.bool b)) : v = .bl b := by
  cases cat with
  | E => cases (show Rp C.K Hs v (.bool b) from h); rfl
  | F => cases h.p rfl; rfl
theorem simT_B (h : Sim C ca te t) : SimT C (tB te) (dBl t) := by
  refine ⟨fun H0 S0 Hs σ H s Q Q' r q k => h.run H0 S0 Hs σ H s _ _ r q fun Hs1 H1 v d s1 g1 r1 v1 q1 => ?_⟩
  cases d <;> first | exact q1.elim | skip
  rename_i b
  cases v1.bool
  exact ⟨b, rfl, k Hs1 H1 b s1 g1 r1 q1⟩
theorem simT_test (h : Sim C ca te t) : SimT C (tTest te) (dBl t) := by
  refine ⟨fun H0 S0 Hs σ H s Q Q' r q k => h.run H0 S0 Hs σ H s _ _ r q fun Hs1 H1 v d s1 g1 r1 v1 q1 => ?_⟩
  cases d <;> first | exact q1.elim | skip
  rename_i b
  cases v1.bool
  exact ⟨b, rfl, k Hs1 H1 b s1 g1 r1 q1⟩
def dAnd (a b : DB) : DB := fun s Q => a s fun c s1 => if c = true then b s1 Q else Q false s1
def dOr (a b : DB) : DB := fun s Q => a s fun c s1 => if c = true then Q true s1 else b s1 Q
def dNot (a : DB) : DB := fun s Q => a s fun c s1 => Q (!c) s1
theorem simT_and {t u : TT} {a b : DB} (ha : SimT C t a) (hb : SimT C u b) : SimT C (tAnd t u) (dAnd a b) := by
  refine ⟨fun H0 S0 Hs σ H s Q Q' r q k => ha.run H0 S0 Hs σ H s _ _ r q fun Hs1 H1 c s1 g1 r1 q1 => ?_⟩
  cases c with
  | true => exact ifp rfl (hb.run H0 S0 Hs1 σ H1 s1 _ _ r1 (by simpa using q1) fun Hs2 H2 c2 s2 g2 r2 q2 => k Hs2 H2 c2 s2 (g1.trans g2) r2 q2)
  | false => exact ifn Bool.false_ne_true (k Hs1 H1 false s1 g1 r1 (by simpa using q1))
theorem simT_or {t u : TT} {a b : DB} (ha : SimT C t a) (hb : SimT C u b) : SimT C (tOr t u) (dOr a b) := by
  refine ⟨fun H0 S0 Hs σ H s Q Q' r q k => ha.run H0 S0 Hs σ H s _ _ r q fun Hs1 H1 c s1 g1 r1 q1 => ?_⟩
  cases c with
  | false => exact ifn Bool.false_ne_true (hb.run H0 S0 Hs1 σ H1 s1 _ _ r1 (by simpa using q1) fun Hs2 H2 c2 s2 g2 r2 q2 => k Hs2 H2 c2 s2 (g1.trans g2) r2 q2)
  | true => exact ifp rfl (k Hs1 H1 true s1 g1 r1 (by simpa using q1))
theorem simT_not {t : TT} {a : DB} (ha : SimT C t a) : SimT C (tNot t) (dNot a) :=
  ⟨fun H0 S0 Hs σ H s Q Q' r q k => ha.run H0 S0 Hs σ H s _ _ r q fun Hs1 H1 c s1 g1 r1 q1 => k Hs1 H1 (!c) s1 g1 r1 q1⟩
/-- as values -/
def dAndV (a b : DT) : DT := fun s Q => a s fun d s1 => match d with
  | .bool true => b s1 Q
  | .bool false => Q (.bool false) s1
  | _ => False
def dOrV (a b : DT) : DT := fun s Q => a s fun d s1 => match d with
  | .bool true => Q (.bool true) s1
  | .bool false => b s1 Q
  | _ => False
def dNotV (a : DT) : DT := fun s Q => a s fun d s1 => match d with
  | .bool b => Q (.bool (!b)) s1
  | _ => False
theorem sim_andV (ha : Sim C ca ta da) (hb : Sim C cb tb db) : Sim C .E (tAndV ta tb) (dAndV da db) := by
  refine ⟨fun H0 S0 Hs σ H s Q Q' r q k => ha.run H0 S0 Hs σ H s _ _ r q fun Hs1 H1 v d s1 g1 r1 v1 q1 => ?_⟩
  cases d <;> first | exact q1.elim | skip
  rename_i b
  cases v1.bool
  refine ⟨b, rfl, ?_⟩
  cases b with
  | true => exact ifp rfl (hb.toE.run H0 S0 Hs1 σ H1 s1 _ _ r1 q1 fun Hs2 H2 v d s2 g2 r2 v2 q2 => k Hs2 H2 v d s2 (g1.trans g2) r2 v2 q2)
  | false => exact ifn Bool.false_ne_true (k Hs1 H1 _ (.bool false) s1 g1 r1 (Rp.bl _) q1)
theorem sim_orV (ha : Sim C ca ta da) (hb : Sim C cb tb db) : Sim C .E (tOrV ta tb) (dOrV da db) := by
  refine ⟨fun H0 S0 Hs σ H s Q Q' r q k => ha.run H0 S0 Hs σ H s _ _ r q fun Hs1 H1 v d s1 g1 r1 v1 q1 => ?_⟩
  cases d <;> first | exact q1.elim | skip
  rename_i b
  cases v1.bool
  refine ⟨b, rfl, ?_⟩
  cases b with
  | false => exact ifn Bool.false_ne_true (hb.toE.run H0 S0 Hs1 σ H1 s1 _ _ r1 q1 fun Hs2 H2 v d s2 g2 r2 v2 q2 => k Hs2 H2 v d s2 (g1.trans g2) r2 v2 q2)
  | true => exact ifp rfl (k Hs1 H1 _ (.bool true) s1 g1 r1 (Rp.bl _) q1)
theorem sim_notV (ha : Sim C ca ta da) : Sim C .F (tNotV ta) (dNotV da) := by
  refine ⟨fun H0 S0 Hs σ H s Q Q' r q k => ha.run H0 S0 Hs σ H s _ _ r q fun Hs1 H1 v d s1 g1 r1 v1 q1 => ?_⟩
  cases d <;> first | exact q1.elim | skip
  rename_i b
  cases v1.bool
  exact ⟨b, rfl, k Hs1 H1 _ (.bool (!b)) s1 g1 r1 (Val.mkP (Rp.bl _) rfl) q1⟩
def dIf (c : DB) (a b : DT) : DT := fun s Q => c s fun k s1 => if k = true then a s1 Q else b s1 Q
theorem sim_if {tt : TT} {c : DB} {cat : Cat} (hc : SimT C tt c) (ha : Sim C cat ta da) (hb : Sim C cat tb db) : Sim C cat (tIf tt ta tb) (dIf c da db) := by
  refine ⟨fun H0 S0 Hs σ H s Q Q' r q k => hc.run H0 S0 Hs σ H s _ _ r q fun Hs1 H1 c s1 g1 r1 q1 => ?_⟩
  cases c with
  | true => exact ifp rfl (ha.run H0 S0 Hs1 σ H1 s1 _ _ r1 (by simpa using q1) fun Hs2 H2 v d s2 g2 r2 v2 q2 => k Hs2 H2 v d s2 (g1.trans g2) r2 (v2.anew fun a e => g1.back a e) q2)
  | false => exact ifn Bool.false_ne_true (hb.run H0 S0 Hs1 σ H1 s1 _ _ r1 (by simpa using q1) fun Hs2 H2 v d s2 g2 r2 v2 q2 => k Hs2 H2 v d s2 (g1.trans g2) r2 (v2.anew fun a e => g1.back a e) q2)
/-- a < b < c -/
def dChain (f g : DO) (a b c : DT) : DT := fun s Q => a s fun x s1 => b s1 fun y s2 => f x y fun z => match z with
  | .bool true => c s2 fun w s3 => g y w fun z => Q z s3
  | .bool false => Q (.bool false) s2
  | _ => False
theorem sim_chain {r r' : R2} {f g : DO} (hf : OpA C r f) (hg : OpA C r' g) (ha : Sim C ca ta da) (hb : Sim C cb tb db) (hc : Sim C cc tc dc) : Sim C .F (tChain r r' ta tb tc) (dChain f g da db dc) := by
  refine ⟨fun H0 S0 Hs σ H s Q Q' r0 q k => ha.run H0 S0 Hs σ H s _ _ r0 q fun Hs1 H1 x dx s1 g1 r1 v1 q1 => hb.run H0 S0 Hs1 σ H1 s1 _ _ r1 q1 fun Hs2 H2 y dy s2 g2 r2 v2 q2 => ?_⟩
  refine hf H0 S0 Hs2 σ H2 s2 x y dx dy _ _ r2 ((v1.go r1 g2).rd r2.sub) (v2.rd r2.sub) q2 fun Hs3 H3 v d g3 r3 v3 q3 => ?_
  cases d <;> first | exact q3.elim | skip
  rename_i b
  cases v3.bool
  refine ⟨b, rfl, ?_⟩
  have g123 := g1.trans (g2.trans g3)
  cases b with
  | true =>
    refine ifp rfl (hc.run H0 S0 Hs3 σ H3 s2 _ _ r3 q3 fun Hs4 H4 w dw s4 g4 r4 v4 q4 => ?_)
    refine hg H0 S0 Hs4 σ H4 s4 y w dy dw _ _ r4 (((v2.go r2 g3).go r3 g4).rd r4.sub) (v4.rd r4.sub) q4 fun Hs5 H5 v d g5 r5 v5 q5 => ?_
    exact k Hs5 H5 v d s4 (g123.trans (g4.trans g5)) r5 (v5.anew fun a e => (g123.trans g4).back a e) q5
  | false => exact ifn Bool.false_ne_true (k Hs3 H3 _ (.bool false) s2 g123 r3 (Val.mkP (Rp.bl _) rfl) q3)
/-! calls of built-ins -/
abbrev DF := List D → (D → Prop) → Prop
def RdAll (K : PySem.W.Frag) (Hs H : Hp) : List V → List D → Prop
  | [], [] => True
  | v :: vs, d :: ds => Rd' K Hs H v d ∧ RdAll K Hs H vs ds
  | _, _ => False
theorem RpAll.rd {K : PySem.W.Frag} {Hs H : Hp} (sub : Same Hs H) : ∀ {vs : List V} {ds : List D}, RpAll K Hs vs ds → RdAll K Hs H vs ds
  | _, _, .nil => True.intro
  | _, _, .cons a b => ⟨a.rd sub, RpAll.rd sub b⟩
def CaA (C : Cf) (r : List V → Hp → VK → Prop) (f : DF) : Prop := ∀ (H0 S0 Hs : Hp) (σ : L2.St) (H : Hp) (s : S) (vs : List V) (ds : List D) (Q : D → Prop) (Q' : VK), R C H0 S0 Hs σ H s → RdAll C.K Hs H vs ds → f ds Q →
  (∀ Hs' H' v d, Go C σ Hs H Hs' H' → R C H0 S0 Hs' σ H' s → Val C H0 H Hs' σ H' .F v d → Q d → Q' v H') → r vs H Q'
def dCB (f : DF) (a : DA) : DT := fun s Q => a s fun ds s1 => f ds fun z => Q z s1
theorem sim_cb {n : Nat} {r : List V → Hp → VK → Prop} {f : DF} {t : TA} {a : DA} (hf : CaA C r f) (h : SimA C n t a) : Sim C .F (tCB r t) (dCB f a) := by
  refine ⟨fun H0 S0 Hs σ H s Q Q' r0 q k => h.run H0 S0 Hs σ H s _ _ r0 q fun Hs1 H1 vs ds s1 g1 r1 v1 _ q1 => ?_⟩
  exact hf H0 S0 Hs1 σ H1 s1 vs ds _ _ r1 (v1.rd r1.sub) q1 fun Hs2 H2 v d g2 r2 v2 q2 => k Hs2 H2 v d s1 (g1.trans g2) r2 (v2.anew fun a e => g1.back a e) q2
/-- of one list of the def's own -/
def dCBM (f : DF) (i : Nat) : DT := fun s Q => match s.δ[i]? with
  | some (some d) => f [d] fun z => Q z s
  | _ => False
theorem sim_cbM {r : List V → Hp → VK → Prop} {f : DF} (i : Nat) (hi : i ∈ C.M) (hf : CaA C r f) : Sim C .F (tCB r (tCons (tVar i) tNil)) (dCBM f i) := by
  refine ⟨fun H0 S0 Hs σ H s Q Q' r0 q k => ?_⟩
  unfold dCBM at q
  split at q
  · rename_i d e
    obtain ⟨v, e1, rd⟩ := r0.rdM hi e
    exact ⟨v, e1, hf H0 S0 Hs σ H s [v] [d] _ _ r0 ⟨rd, True.intro⟩ q fun Hs2 H2 v d g2 r2 v2 q2 => k Hs2 H2 v d s g2 r2 v2 q2⟩
  · exact q.elim
def lenD : DF := fun ds Q => match ds with
  | [d] => (match d with
    | .list xs => Q (.int xs.length)
    | .tuple xs => Q (.int xs.length)
    | .str x => x.length ≤ sizeLine ∧ Q (.int x.length)
    | .dict kvs => Q (.int kvs.length)
    | _ => False)
  | _ => False
def rLenDk : List V → Hp → VK → Prop := fun xs H Q => ∃ a kvs, xs = [V.ref a] ∧ Rd H a (.dK kvs) ∧ Q (.int kvs.length) H
theorem len_dk {X : Cx} : CallR X (.builtin "len") rLenDk := by
  intro pins s σ H xs us Q I r h
  obtain ⟨a, kvs, rfl, e, q⟩ := h
  obtain ⟨u, rfl, ru⟩ := vals1 r
  cases (show u = Value.ref a from ru)
  exact d_len I e fun t s' I' => ⟨.int kvs.length, H, I', ⟨t, rfl⟩, q⟩
def rLenG (K : PySem.W.Frag) : List V → Hp → VK → Prop := fun xs H Q => rLenQ K xs H Q ∨ (∃ z, xs = [.str z] ∧ z.length ≤ sizeLine ∧ Q (.int z.length) H) ∨ rLenDk xs H Q
theorem CallR.or {X : Cx} {f : Value} {r r' : List V → Hp → VK → Prop} (h : CallR X f r) (h' : CallR X f r') : CallR X f (fun xs H Q => r xs H Q ∨ r' xs H Q) := by
  intro pins s σ H xs us Q I rv q
  rcases q with q | q
  · exact h pins s σ H xs us Q I rv q
  · exact h' pins s σ H xs us Q I rv q
theorem lenG {X : Cx} (K : PySem.W.Frag) (eK : X.K = K) : CallR X (.builtin "len") (rLenG K) := CallR.or (lenQ K eK) (CallR.or call_len_str len_dk)
theorem caA_len : CaA C (rLenG C.K) lenD := by
  intro H0 S0 Hs σ H s vs ds Q Q' r hd q k
  match vs, ds, hd with
  | [v], [d], ⟨h, _⟩ =>
    cases d <;> first | exact q.elim | skip
    case list xs =>
      obtain ⟨a, ys, rfl, e1, e2⟩ := Rd'.list h
      exact .inl ⟨a, ys, rfl, .inl (SqL.of e1), k Hs H _ (.int (xs.length : Nat)) Go.refl r (Val.mkP (by rw [e2.len]; exact Rp.int _) rfl) q⟩
    case tuple xs =>
      cases h with
      | @tup a ys _ e1 e2 => exact .inl ⟨a, ys, rfl, .inr (Same.sqT r.sub e1.sq), k Hs H _ (.int (xs.length : Nat)) Go.refl r (Val.mkP (by rw [e2.len]; exact Rp.int _) rfl) q⟩
    case str x =>
      cases h
      exact .inr (.inl ⟨x, rfl, q.1, k Hs H _ (.int (x.length : Nat)) Go.refl r (Val.mkP (Rp.int _) rfl) q.2⟩)
    case dict kvs =>
      obtain ⟨a, ls, rfl, e1, e2⟩ := Rd'.dict h
      exact .inr (.inr ⟨a, ls, rfl, e1, k Hs H _ (.int (kvs.length : Nat)) Go.refl r (Val.mkP (by rw [e2.len]; exact Rp.int _) rfl) q⟩)
  | [], [], _ => exact q.elim
  | _ :: _ :: _, _ :: _ :: _, _ => exact q.elim
def listD : DF := fun ds Q => match ds with
  | [d] => (match d with
    | .list xs => Q (.list xs)
    | .tuple xs => Q (.list xs)
    | _ => False)
  | _ => False
theorem caA_list : CaA C (rListQ C.K) listD := by
  intro H0 S0 Hs σ H s vs ds Q Q' r hd q k
  match vs, ds, hd with
  | [v], [d], ⟨h, _⟩ =>
    cases d <;> first | exact q.elim | skip
    case list xs =>
      obtain ⟨a, ys, rfl, e1, e2⟩ := Rd'.list h
      exact ⟨a, ys, rfl, .inl (SqL.of e1), fun p np => k Hs _ _ (.list xs) (Go.laid np) (r.laid np) (r.newList np e2) q⟩
    case tuple xs =>
      cases h with
      | @tup a ys _ e1 e2 => exact ⟨a, ys, rfl, .inr (Same.sqT r.sub e1.sq), fun p np => k Hs _ _ (.list xs) (Go.laid np) (r.laid np) (r.newList np e2) q⟩
  | [], [], _ => exact q.elim
  | _ :: _ :: _, _ :: _ :: _, _ => exact q.elim
def tupD : DF := fun ds Q => match ds with
  | [d] => (match d with
    | .list xs => Q (.tuple xs)
    | .tuple xs => Q (.tuple xs)
    | _ => False)
  | _ => False
theorem caA_tup : CaA C (rTupQ C.K) tupD := by
  intro H0 S0 Hs σ H s vs ds Q Q' r hd q k
  match vs, ds, hd with
  | [v], [d], ⟨h, _⟩ =>
    cases d <;> first | exact q.elim | skip
    case list xs =>
      obtain ⟨a, ys, rfl, e1, e2⟩ := Rd'.list h
      refine ⟨a, ys, rfl, .inl ⟨SqL.of e1, fun p o np hd => ?_⟩⟩
      obtain ⟨r', g'⟩ := r.newTup (o := .frz o (.tup ys)) np
      exact k _ _ _ (.tuple xs) g' r' (Val.mkP (Rp.tup (TqT.of upd_same hd) (RpAll.mono g'.st e2)) rfl) q
    case tuple xs =>
      cases h with
      | @tup a ys _ e1 e2 => exact ⟨a, ys, rfl, .inr ⟨Same.sqT r.sub e1.sq, k Hs H _ (.tuple xs) Go.refl r (Val.mkP (Rp.tup e1 e2) rfl) q⟩⟩
  | [], [], _ => exact q.elim
  | _ :: _ :: _, _ :: _ :: _, _ => exact q.elim
def strD : DF := fun ds Q => match ds with
  | [d] => (match d with
    | .int i => i.natAbs.log2 < 1920 ∧ Q (.str (toString i))
    | _ => False)
  | _ => False
theorem caA_str : CaA C (fun xs H Q => ∃ i, xs = [.int i] ∧ i.natAbs.log2 < 1920 ∧ Q (.str (toString i)) H) strD := by
  intro H0 S0 Hs σ H s vs ds Q Q' r hd q k
  match vs, ds, hd with
  | [v], [d], ⟨h, _⟩ =>
    cases d <;> first | exact q.elim | skip
    cases h
    exact ⟨_, rfl, q.1, k Hs H _ (.str _) Go.refl r (Val.mkP (Rp.str _) rfl) q.2⟩
  | [], [], _ => exact q.elim
  | _ :: _ :: _, _ :: _ :: _, _ => exact q.elim
def intD : DF := fun ds Q => match ds with
  | [d] => (match d with
    | .int i => Q (.int i)
    | .bool b => Q (.int (if b then 1 else 0))
    | _ => False)
  | _ => False
theorem caA_int : CaA C (fun xs H Q => (∃ i, xs = [.int i] ∧ Q (.int i) H) ∨ ∃ k, xs = [.bl k] ∧ Q (.int (if k then 1 else 0)) H) intD := by
  intro H0 S0 Hs σ H s vs ds Q Q' r hd q k
  match vs, ds, hd with
  | [v], [d], ⟨h, _⟩ =>
    cases d <;> first | exact q.elim | skip
    case int i => cases h; exact .inl ⟨i, rfl, k Hs H _ (.int i) Go.refl r (Val.mkP (Rp.int _) rfl) q⟩
    case bool b => cases h; exact .inr ⟨b, rfl, k Hs H _ (.int _) Go.refl r (Val.mkP (Rp.int _) rfl) q⟩
  | [], [], _ => exact q.elim
  | _ :: _ :: _, _ :: _ :: _, _ => exact q.elim
def minD : DF := fun ds Q => match ds with
  | [d, e] => (match d, e with
    | .int i, .int j => Q (.int (if j < i then j else i))
    | _, _ => False)
  | _ => False
def maxD : DF := fun ds Q => match ds with
  | [d, e] => (match d, e with
    | .int i, .int j => Q (.int (if j > i then j else i))
    | _, _ => False)
  | _ => False
theorem caA_min : CaA C (fun xs H Q => ∃ i j, xs = [.int i, .int j] ∧ Q (.int (if j < i then j else i)) H) minD := by
  intro H0 S0 Hs σ H s vs ds Q Q' r hd q k
  match vs, ds, hd with
  | [v, w], [d, e], ⟨h, h', _⟩ =>
    cases d <;> cases e <;> first | exact q.elim | skip
    cases h; cases h'
    exact ⟨_, _, rfl, k Hs H _ (.int _) Go.refl r (Val.mkP (Rp.int _) rfl) q⟩
  | [], [], _ => exact q.elim
  | [_], [_], _ => exact q.elim
  | _ :: _ :: _ :: _, _ :: _ :: _ :: _, _ => exact q.elim
theorem caA_max : CaA C (fun xs H Q => ∃ i j, xs = [.int i, .int j] ∧ Q (.int (if j > i then j else i)) H) maxD := by
  intro H0 S0 Hs σ H s vs ds Q Q' r hd q k
  match vs, ds, hd with
  | [v, w], [d, e], ⟨h, h', _⟩ =>
    cases d <;> cases e <;> first | exact q.elim | skip
    cases h; cases h'
    exact ⟨_, _, rfl, k Hs H _ (.int _) Go.refl r (Val.mkP (Rp.int _) rfl) q⟩
  | [], [], _ => exact q.elim
  | [_], [_], _ => exact q.elim
  | _ :: _ :: _ :: _, _ :: _ :: _ :: _, _ => exact q.elim
/-- lists of ints, of truths -/
def intsOf : List D → Option (List Int)
  | [] => some []
  | .int i :: r => (intsOf r).map (i :: ·)
  | _ :: _ => none
def boolsOf : List D → Option (List Bool)
  | [] => some []
  | .bool i :: r => (boolsOf r).map (i :: ·)
  | _ :: _ => none
theorem ints_rp {K : PySem.W.Frag} {H : Hp} : ∀ {xs : List V} {ds : List D} {ns : List Int}, RpAll K H xs ds → intsOf ds = some ns → xs = ns.map V.int
  | _, _, _, .nil, e => by cases e; rfl
  | _, _, _, .cons (d := d) (ds := ds) a b, e => by
    cases d <;> first | (exfalso; have e' : (none : Option (List Int)) = some _ := e; cases e'; done) | skip
    cases a
    simp only [intsOf, Option.map_eq_some_iff] at e
    obtain ⟨ms, e1, rfl⟩ := e
    rw [ints_rp b e1]
    rfl
theorem bools_rp {K : PySem.W.Frag} {H : Hp} : ∀ {xs : List V} {ds : List D} {ns : List Bool}, RpAll K H xs ds → boolsOf ds = some ns → xs = ns.map V.bl
  | _, _, _, .nil, e => by cases e; rfl
  | _, _, _, .cons (d := d) (ds := ds) a b, e => by
    cases d <;> first | (exfalso; have e' : (none : Option (List Bool)) = some _ := e; cases e'; done) | skip
    cases a
    simp only [boolsOf, Option.map_eq_some_iff] at e
    obtain ⟨ms, e1, rfl⟩ := e
    rw [bools_rp b e1]
    rfl
def sumD : DF := fun ds Q => match ds with
  | [d] => (match d with
    | .list xs => ∃ ns, intsOf xs = some ns ∧ Q (.int ns.sum)
    | _ => False)
  | _ => False
def allD : DF := fun ds Q => match ds with
  | [d] => (match d with
    | .list xs => ∃ ns, boolsOf xs = some ns ∧ Q (.bool (ns.all id))
    | _ => False)
  | _ => False
def anyD : DF := fun ds Q => match ds with
  | [d] => (match d with
    | .list xs => ∃ ns, boolsOf xs = some ns ∧ Q (.bool (ns.any id))
    | _ => False)
  | _ => False
theorem caA_sum : CaA C (rSum C.K) sumD := by
  intro H0 S0 Hs σ H s vs ds Q Q' r hd q k
  match vs, ds, hd with
  | [v], [d], ⟨h, _⟩ =>
    cases d <;> first | exact q.elim | skip
    obtain ⟨a, ys, rfl, e1, e2⟩ := Rd'.list h
    obtain ⟨ns, e3, q⟩ := q
    rw [ints_rp e2 e3] at e1
    exact ⟨a, ns, rfl, SqL.of e1, k Hs H _ (.int _) Go.refl r (Val.mkP (Rp.int _) rfl) q⟩
  | [], [], _ => exact q.elim
  | _ :: _ :: _, _ :: _ :: _, _ => exact q.elim
theorem caA_all : CaA C (rAll C.K) allD := by
  intro H0 S0 Hs σ H s vs ds Q Q' r hd q k
  match vs, ds, hd with
  | [v], [d], ⟨h, _⟩ =>
    cases d <;> first | exact q.elim | skip
    obtain ⟨a, ys, rfl, e1, e2⟩ := Rd'.list h
    obtain ⟨ns, e3, q⟩ := q
    rw [bools_rp e2 e3] at e1
    exact ⟨a, ns, rfl, SqL.of e1, k Hs H _ (.bool _) Go.refl r (Val.mkP (Rp.bl _) rfl) q⟩
  | [], [], _ => exact q.elim
  | _ :: _ :: _, _ :: _ :: _, _ => exact q.elim
theorem caA_any : CaA C (rAny C.K) anyD := by
  intro H0 S0 Hs σ H s vs ds Q Q' r hd q k
  match vs, ds, hd with
  | [v], [d], ⟨h, _⟩ =>
    cases d <;> first | exact q.elim | skip
    obtain ⟨a, ys, rfl, e1, e2⟩ := Rd'.list h
    obtain ⟨ns, e3, q⟩ := q
    rw [bools_rp e2 e3] at e1
    exact ⟨a, ns, rfl, SqL.of e1, k Hs H _ (.bool _) Go.refl r (Val.mkP (Rp.bl _) rfl) q⟩
  | [], [], _ => exact q.elim
  | _ :: _ :: _, _ :: _ :: _, _ => exact q.elim
/-! isinstance -/
theorem tyD_rd {K : PySem.W.Frag} {Hs H : Hp} {x : V} {d : D} (h : Rd' K Hs H x d) (sub : Same Hs H) : TyX K H x (.type (tyD d)) := by
  cases d with
  | list ds => obtain ⟨a, xs, rfl, e, _⟩ := Rd'.list h; exact .base (.lst e)
  | none => cases h; exact .base .non
  | bool b => cases h; exact .base (.bl b)
  | int b => cases h; exact .base (.int b)
  | str b => cases h; exact .base (.str b)
  | tuple b => cases h with | tup q a => exact tyX_tup (Same.sqT sub q.sq)
  | dict b =>
    obtain ⟨a, xs, rfl, e, _⟩ := Rd'.dict h
    rcases e with e | ⟨o, e⟩
    · exact .base (.dK e)
    · exact .fDict e
def dIsi (c : Cl) (a : DT) : DT := fun s Q => a s fun d s1 => Q (.bool (isB c d)) s1
theorem sim_isi (c : Cl) (h : Sim C ca te t) : Sim C .F (tCB (rIsi C.K) (tCons te (tCons (tC (.ty c.name)) tNil))) (dIsi c t) := by
  refine ⟨fun H0 S0 Hs σ H s Q Q' r q k => h.run H0 S0 Hs σ H s _ _ r q fun Hs1 H1 v d s1 g1 r1 v1 q1 => ?_⟩
  exact ⟨v, _, _, _, _, rfl, .ty _, tyD_rd (v1.rd r1.sub) r1.sub, kit_ty (kitB_nn c d), k Hs1 H1 _ (.bool _) s1 g1 r1 (Val.mkP (Rp.bl _) rfl) q1⟩
def dIsiM (c : Cl) (i : Nat) : DT := fun s Q => match s.δ[i]? with
  | some (some d) => Q (.bool (isB c d)) s
  | _ => False
theorem sim_isiM (c : Cl) (i : Nat) (hi : i ∈ C.M) : Sim C .F (tCB (rIsi C.K) (tCons (tVar i) (tCons (tC (.ty c.name)) tNil))) (dIsiM c i) := by
  refine ⟨fun H0 S0 Hs σ H s Q Q' r q k => ?_⟩
  unfold dIsiM at q
  split at q
  · rename_i d e
    obtain ⟨v, e1, rd⟩ := r.rdM hi e
    exact ⟨v, e1, v, _, _, _, _, rfl, .ty _, tyD_rd rd r.sub, kit_ty (kitB_nn c d), k Hs H _ (.bool _) s Go.refl r (Val.mkP (Rp.bl _) rfl) q⟩
  · exact q.elim
def isAny (cs : List Cl) (d : D) : Bool := cs.any fun c => isB c d
theorem kitAny_of {K : PySem.W.Frag} (d : D) : ∀ cs : List Cl, cs ≠ [] → PySem.W.kitAny K (.type (tyD d)) (cs.map fun c => Value.type c.name) = some (isAny cs d)
  | [], h => absurd rfl h
  | [c], _ => by
    refine kitAny_cons (kit_ty (kitB_nn c d)) (fun e => ?_) (fun e => ?_)
    · unfold isAny; rw [List.any_cons, e]; rfl
    · unfold isAny; rw [List.any_cons, e]; rfl
  | c :: c' :: cs, _ => by
    refine kitAny_cons (kit_ty (kitB_nn c d)) (fun e => ?_) (fun e => ?_)
    · unfold isAny; rw [List.any_cons, e, Bool.false_or]; exact kitAny_of d (c' :: cs) (by simp)
    · unfold isAny; rw [List.any_cons, e]; rfl
def dIsiT (cs : List Cl) (a : DT) : DT := fun s Q => a s fun d s1 => Q (.bool (isAny cs d)) s1
theorem clsV_all : ∀ cs : List Cl, Paired ClsV (cs.map fun c => V.ty c.name) (cs.map fun c => Value.type c.name)
  | [] => .nil
  | c :: cs => .cons (.ty _) (clsV_all cs)
theorem sim_isiT2 (c1 c2 : Cl) (h : Sim C ca te t) : Sim C .F (tCB (rIsiT C.K) (tCons te (tCons (tTup (tCons (tC (.ty c1.name)) (tCons (tC (.ty c2.name)) tNil))) tNil))) (dIsiT [c1, c2] t) := by
  refine ⟨fun H0 S0 Hs σ H s Q Q' r q k => h.run H0 S0 Hs σ H s _ _ r q fun Hs1 H1 v d s1 g1 r1 v1 q1 => ?_⟩
  refine ⟨by show 2 ≤ sizeLine; decide, fun p np => ?_⟩
  have r2 := r1.laid (o := .tup [.ty c1.name, .ty c2.name]) np
  have g2 : Go C σ Hs1 H1 Hs1 (upd H1 p (.tup [.ty c1.name, .ty c2.name])) := Go.laid np
  exact ⟨v, p, _, _, _, _, rfl, upd_same, clsV_all [c1, c2], tyD_rd ((v1.go r1 g2).rd r2.sub) r2.sub, kitAny_of d [c1, c2] (by simp), k Hs1 _ _ (.bool _) s1 (g1.trans g2) r2 (Val.mkP (Rp.bl _) rfl) q1⟩
end

/-! ### calls of defs -/
/-- a result: E it lies in the still part; F a list is new and outside of it -/
def RV (K : PySem.W.Frag) (H0 Hs H : Hp) : Cat → V → D → Prop
  | .E, v, d => Rp K Hs v d
  | .F, v, d => if isC d = true then ∃ a o, v = .ref a ∧ H a = some o ∧ Hs a = none ∧ H0 a = none ∧ Cn K Hs o d else Rp K Hs v d
def spN (K : PySem.W.Frag) (n : Nat) (cat : Cat) (F : DF) : Sp := fun vs H Q _ => ∃ Hs ds Q0, Same Hs H ∧ RpAll K Hs vs ds ∧ ds.length = n ∧ F ds Q0 ∧
  ∀ d Hs' H' v, Q0 d → Same Hs Hs' → Same Hs' H' → Same H H' → (∀ b, Hs b = none → Hs' b ≠ none → H b = none) → RV K H Hs' H' cat v d → Q v H'
abbrev DFP := List D → Nat → (D → Nat → Prop) → Prop
def spP (K : PySem.W.Frag) (n : Nat) (cat : Cat) (F : DFP) : Sp := fun vs H Q _ => ∃ Hs p c k vs' ds Q0, vs = .ref p :: vs' ∧ Pen H p c k ∧ Hs p = none ∧ Same Hs H ∧ RpAll K Hs vs' ds ∧ ds.length = n ∧ F ds k Q0 ∧
  ∀ d k' Hs' H' v, Q0 d k' → Same Hs Hs' → Same Hs' H' → But p H H' → (∀ b, Hs b = none → Hs' b ≠ none → H b = none) → Hs' p = none → Pen H' p c k' → RV K H Hs' H' cat v d → Q v H'
section
variable {C : Cf} {σ : L2.St} {H0 S0 Hs H Hs' H' : Hp} {s : S}
theorem none_of_new {b : Addr} {o : HO} (nw : ∀ b, Hs b = none → Hs' b ≠ none → H b = none) (h : Hs b = none) (e : H b = some o) : Hs' b = none := by
  cases q : Hs' b with
  | none => rfl
  | some x =>
    have := nw b h (by rw [q]; exact fun z => nomatch z)
    rw [e] at this; cases this
theorem R.step (r : R C H0 S0 Hs σ H s) (st : Same Hs Hs') (sb : Same Hs' H') (hh : Same H H') (nw : ∀ b, Hs b = none → Hs' b ≠ none → H b = none) : R C H0 S0 Hs' σ H' s ∧ Go C σ Hs H Hs' H' := by
  refine ⟨⟨r.len, sb, fun i d e m => ?_, fun i d e m => ?_, r.dead, r.sep, fun p c e => ?_, r.br, r.s0.trans st, fun b o n e => hh _ _ (r.h0 b o n e), fun b e1 e2 => ?_⟩, st, fun b o e _ _ => hh _ _ e, fun b o e => ⟨o, hh _ _ e⟩, nw⟩
  · obtain ⟨v, e1, e2⟩ := r.slot i d e m
    exact ⟨v, e1, Rp.mono st e2⟩
  · obtain ⟨a, u, e2, e3, e4, e5, e6⟩ := r.mt i d e m
    exact ⟨a, u, e2, hh _ _ e3, none_of_new nw e4 e3, e5.mono st, e6⟩
  · obtain ⟨e1, e2, e3, e4⟩ := r.pn p c e
    obtain ⟨_, e5⟩ := e2.at_
    exact ⟨e1, e2.mono st hh, none_of_new nw e3 e5, e4⟩
  · cases q : Hs b with
    | some o => exact r.new b e1 (by rw [q]; exact fun z => nomatch z)
    | none => exact (r.free0 (nw b q e2)).1
theorem R.stepP {p c : Addr} {k : Nat} {y : D} (r : R C H0 S0 Hs σ H s) (hp : C.pen = some (p, c)) (st : Same Hs Hs') (sb : Same Hs' H') (hh : But p H H') (nw : ∀ b, Hs b = none → Hs' b ≠ none → H b = none) (np : Hs' p = none) (pe : PenK C.K C.pk Hs' H' p c k y) :
    R C H0 S0 Hs' σ H' { s with n := k, h := y } ∧ Go C σ Hs H Hs' H' := by
  have ip : ∀ b, ¬ IsPen C b → b ≠ p := fun b h e => h (.inl ⟨c, by rw [e]; exact hp⟩)
  refine ⟨⟨r.len, sb, fun i d e m => ?_, fun i d e m => ?_, r.dead, r.sep, fun p' c' e => ?_, r.br, r.s0.trans st, fun b o n e => hh _ _ (ip b n) (r.h0 b o n e), fun b e1 e2 => ?_⟩, st, fun b o e _ n => hh _ _ (ip b n) e, fun b o e => ?_, nw⟩
  · obtain ⟨v, e1, e2⟩ := r.slot i d e m
    exact ⟨v, e1, Rp.mono st e2⟩
  · obtain ⟨a, u, e2, e3, e4, e5, e6⟩ := r.mt i d e m
    have nap : a ≠ p := fun z => by
      subst z
      rcases e6 with e6 | e6
      · exact (r.pn a c hp).2.2.2.1 e6
      · exact (r.pn a c hp).2.2.2.2.2.2.2.1 e6
    exact ⟨a, u, e2, hh _ _ nap e3, none_of_new nw e4 e3, e5.mono st, e6⟩
  · rw [hp] at e
    cases e
    obtain ⟨e1, e2, e3, e4⟩ := r.pn p c hp
    exact ⟨e1, pe, np, e4⟩
  · cases q : Hs b with
    | some o => exact r.new b e1 (by rw [q]; exact fun z => nomatch z)
    | none => exact (r.free0 (nw b q e2)).1
  · by_cases z : b = p
    · subst z
      exact pe.at_
    · exact ⟨o, hh _ _ z e⟩
theorem RV.val {cat : Cat} {v : V} {d : D} (h : RV C.K H Hs' H' cat v d) (r : R C H0 S0 Hs σ H s) : Val C H0 H Hs' σ H' cat v d := by
  cases cat with
  | E => exact h
  | F =>
    have h : (if isC d = true then ∃ a o, v = .ref a ∧ H' a = some o ∧ Hs' a = none ∧ H a = none ∧ Cn C.K Hs' o d else Rp C.K Hs' v d) := h
    cases e : isC d with
    | true =>
      rw [if_pos e] at h
      obtain ⟨a, o, rfl, e1, e2, e3, e4⟩ := h
      obtain ⟨f1, f2, f3, _⟩ := r.free0 e3
      exact Val.mkC ⟨o, e1, e2, f1, e3, e4, f3⟩
    | false =>
      rw [if_neg (by rw [e]; exact Bool.false_ne_true)] at h
      exact Val.mkP h e
def dCall (F : DF) (a : DA) : DT := fun s Q => a s fun ds s1 => F ds fun d => Q d s1
theorem sim_call {n : Nat} {cat : Cat} {F : DF} {ta : TA} {a : DA} (h : SimA C n ta a) : Sim C cat (tCall (spN C.K n cat F) [] E0 ta) (dCall F a) := by
  refine ⟨fun H0 S0 Hs σ H s Q Q' r q k => h.run H0 S0 Hs σ H s _ _ r q fun Hs1 H1 vs ds s1 g1 r1 v1 l1 q1 => ?_⟩
  rw [List.append_nil]
  refine ⟨Hs1, ds, _, r1.sub, v1, l1, q1, fun d Hs' H' v q2 st sb hh nw rv => ?_⟩
  obtain ⟨r2, g2⟩ := r1.step st sb hh nw
  exact k Hs' H' v d s1 (g1.trans g2) r2 ((rv.val r1).anew fun a e => g1.back a e) q2
def dCallP (F : DFP) (a : DA) : DT := fun s Q => a s fun ds s1 => F ds s1.n fun d k => Q d { s1 with n := k }
theorem sim_callP {n : Nat} {cat : Cat} {F : DFP} {ta : TA} {a : DA} {i : Nat} (hp : C.pen ≠ none) (hi : C.ps = i) (h : SimA C n ta a) (hk : C.pk = .draw := by rfl) : Sim C cat (tCall (spP C.K n cat F) [] E0 (tCons (tVar i) ta)) (dCallP F a) := by
  refine ⟨fun H0 S0 Hs σ H s Q Q' r q k => ?_⟩
  obtain ⟨⟨p, c⟩, ep⟩ : ∃ pc, C.pen = some pc := by
    cases e : C.pen with
    | none => exact absurd e hp
    | some pc => exact ⟨pc, rfl⟩
  subst hi
  refine ⟨.ref p, (r.pn p c ep).1, h.run H0 S0 Hs σ H s _ _ r q fun Hs1 H1 vs ds s1 g1 r1 v1 l1 q1 => ?_⟩
  show spP C.K n cat F ((V.ref p :: vs) ++ []) H1 Q' E0
  rw [List.append_nil]
  obtain ⟨e1, e2, e3, e4⟩ := r1.pn p c ep
  rw [hk] at e2
  refine ⟨Hs1, p, c, s1.n, vs, ds, _, rfl, e2, e3, r1.sub, v1, l1, q1, fun d k' Hs' H' v q2 st sb hh nw np pe rv => ?_⟩
  obtain ⟨r2, g2⟩ := r1.stepP (y := s1.h) ep st sb hh nw np (by rw [hk]; exact pe)
  exact k Hs' H' v d _ (g1.trans g2) r2 ((rv.val r1).anew fun a e => g1.back a e) q2
end
/-! ### slices -/
def rSlG (K : PySem.W.Frag) : V → Option Int → Option Int → Hp → VK → Prop := fun x lo hi H Q => rSlL K x lo hi H Q ∨ rSlZ K x lo hi H Q ∨ rSlS x lo hi H Q
theorem SlR.or {X : Cx} {r r' : V → Option Int → Option Int → Hp → VK → Prop} (h : SlR X r) (h' : SlR X r') : SlR X (fun x lo hi H Q => r x lo hi H Q ∨ r' x lo hi H Q) := by
  intro pins s σ H x v vl vu lo hi sl Q I rx hs pl pu q
  rcases q with q | q
  · exact h pins s σ H x v vl vu lo hi sl Q I rx hs pl pu q
  · exact h' pins s σ H x v vl vu lo hi sl Q I rx hs pl pu q
theorem slG {X : Cx} (K : PySem.W.Frag) (eK : X.K = K) : SlR X (rSlG K) := by
  subst eK
  exact SlR.or sl_list (SlR.or (sl_tupZ X.K rfl) sl_str)
abbrev DOp := S → (Option Int → S → Prop) → Prop
structure SimO (C : Cf) (t : L2.St → Hp → (Option Int → Hp → Prop) → Prop) (d : DOp) : Prop where
  run : ∀ (H0 S0 Hs : Hp) (σ : L2.St) (H : Hp) (s : S) (Q : Option Int → S → Prop) (Q' : Option Int → Hp → Prop), R C H0 S0 Hs σ H s → d s Q →
    (∀ Hs' H' o s', Go C σ Hs H Hs' H' → R C H0 S0 Hs' σ H' s' → Q o s' → Q' o H') → t σ H Q'
def cutD (xs : List D) (lo hi : Option Int) : List D := (xs.drop (HT.sIx xs.length 0 lo)).take (HT.sIx xs.length xs.length hi - HT.sIx xs.length 0 lo)
def slD (x : D) (lo hi : Option Int) (Q : D → Prop) : Prop := match x with
  | .list ds => Q (.list (cutD ds lo hi))
  | .tuple ds => Q (.tuple (cutD ds lo hi))
  | .str z => z.length ≤ sizeLine ∧ Q (.str (cutS z lo hi))
  | _ => False
section
variable {C : Cf} {te ta tb : TE} {t da db : DT} {ca cb : Cat}
def dNoPart : DOp := fun s Q => Q none s
def dPart (a : DT) : DOp := fun s Q => a s fun d s1 => match d with
  | .int i => Q (some i) s1
  | _ => False
theorem simO_none : SimO C tNoPart dNoPart := ⟨fun H0 S0 Hs σ H s Q Q' r q k => k Hs H none s Go.refl r q⟩
theorem Val.int' {H0 Hst Hs : Hp} {σ : L2.St} {H : Hp} {v : V} {b : Int} {cat : Cat} (h : Val C H0 Hst Hs σ H cat v (.int b)) : v = .int b := by
  cases cat with
  | E => cases (show Rp C.K Hs v (.int b) from h); rfl
  | F => cases h.p rfl; rfl
theorem simO_some (h : Sim C ca te t) : SimO C (tPart te) (dPart t) := by
  refine ⟨fun H0 S0 Hs σ H s Q Q' r q k => h.run H0 S0 Hs σ H s _ _ r q fun Hs1 H1 v d s1 g1 r1 v1 q1 => ?_⟩
  cases d <;> first | exact q1.elim | skip
  rename_i b
  cases v1.int'
  exact ⟨b, rfl, k Hs1 H1 _ s1 g1 r1 q1⟩
theorem RpAll.cut {K : PySem.W.Frag} {H : Hp} {xs : List V} {ds : List D} (h : RpAll K H xs ds) (lo hi : Option Int) : RpAll K H (cutV xs lo hi) (cutD ds lo hi) := by
  unfold cutV cutD
  rw [h.len]
  exact (h.drop _).take _
theorem sl_run {H0 S0 Hs : Hp} {σ : L2.St} {H : Hp} {s : S} {x : V} {dx : D} {lo hi : Option Int} {Q : D → Prop} {Q' : VK} (r : R C H0 S0 Hs σ H s) (hx : Rd' C.K Hs H x dx) (q : slD dx lo hi Q)
    (k : ∀ Hs' H' v d, Go C σ Hs H Hs' H' → R C H0 S0 Hs' σ H' s → Val C H0 H Hs' σ H' .F v d → Q d → Q' v H') : rSlG C.K x lo hi H Q' := by
  cases dx <;> first | exact q.elim | skip
  case list ds =>
    obtain ⟨a, xs, rfl, e1, e2⟩ := Rd'.list hx
    exact .inl ⟨a, xs, rfl, SqL.of e1, fun p np => k Hs _ _ (.list (cutD ds lo hi)) (Go.laid np) (r.laid np) (r.newList np (e2.cut lo hi)) q⟩
  case tuple ds =>
    cases hx with
    | @tup a xs _ e1 e2 =>
    refine .inr (.inl ⟨a, xs, rfl, Same.sqT r.sub e1.sq, fun z => ?_, fun z p o np hd => ?_⟩)
    · refine k Hs H _ (.tuple (cutD ds lo hi)) Go.refl r (Val.mkP ?_ rfl) q
      have : cutD ds lo hi = ds := by
        unfold cutD
        rw [← e2.len, z.1, z.2, List.drop_zero, Nat.sub_zero, e2.len, List.take_length]
      rw [this]
      exact Rp.tup e1 e2
    · obtain ⟨r', g'⟩ := r.newTup (o := .frz o (.tup (cutV xs lo hi))) np
      exact k _ _ _ (.tuple (cutD ds lo hi)) g' r' (Val.mkP (Rp.tup (TqT.of upd_same hd) (RpAll.mono g'.st (e2.cut lo hi))) rfl) q
  case str z =>
    cases hx
    exact .inr (.inr ⟨z, rfl, q.1, k Hs H _ (.str (cutS z lo hi)) Go.refl r (Val.mkP (Rp.str _) rfl) q.2⟩)
def dSl (a : DT) (l h : DOp) : DT := fun s Q => a s fun x s1 => l s1 fun lo s2 => h s2 fun hi s3 => slD x lo hi fun z => Q z s3
theorem sim_sl {tl th : L2.St → Hp → (Option Int → Hp → Prop) → Prop} {l h : DOp} (ha : Sim C ca ta da) (hl : SimO C tl l) (hh : SimO C th h) : Sim C .F (tSl (rSlG C.K) ta tl th) (dSl da l h) := by
  refine ⟨fun H0 S0 Hs σ H s Q Q' r q k => ha.run H0 S0 Hs σ H s _ _ r q fun Hs1 H1 x dx s1 g1 r1 v1 q1 => hl.run H0 S0 Hs1 σ H1 s1 _ _ r1 q1 fun Hs2 H2 lo s2 g2 r2 q2 => hh.run H0 S0 Hs2 σ H2 s2 _ _ r2 q2 fun Hs3 H3 hi s3 g3 r3 q3 => ?_⟩
  refine sl_run r3 (((v1.go r1 g2).go r2 g3).rd r3.sub) q3 fun Hs4 H4 v d g4 r4 v4 q4 => ?_
  exact k Hs4 H4 v d s3 (g1.trans (g2.trans (g3.trans g4))) r4 (v4.anew fun a e => (g1.trans (g2.trans g3)).back a e) q4
def dSlM (i : Nat) (l h : DOp) : DT := fun s Q => (∃ d, s.δ[i]? = some (some d)) ∧ l s fun lo s2 => h s2 fun hi s3 => match s3.δ[i]? with
  | some (some x) => slD x lo hi fun z => Q z s3
  | _ => False
theorem sim_slM {tl th : L2.St → Hp → (Option Int → Hp → Prop) → Prop} {l h : DOp} (i : Nat) (hi : i ∈ C.M) (hl : SimO C tl l) (hh : SimO C th h) : Sim C .F (tSl (rSlG C.K) (tVar i) tl th) (dSlM i l h) := by
  refine ⟨fun H0 S0 Hs σ H s Q Q' r q k => ?_⟩
  obtain ⟨⟨d, e⟩, q⟩ := q
  obtain ⟨v, e1, _⟩ := r.rdM hi e
  refine ⟨v, e1, hl.run H0 S0 Hs σ H s _ _ r q fun Hs2 H2 lo s2 g2 r2 q2 => hh.run H0 S0 Hs2 σ H2 s2 _ _ r2 q2 fun Hs3 H3 hi' s3 g3 r3 q3 => ?_⟩
  split at q3
  · rename_i x ex
    obtain ⟨v', e2, rd⟩ := r3.rdM hi ex
    rw [e1] at e2
    cases e2
    refine sl_run r3 rd q3 fun Hs4 H4 v d g4 r4 v4 q4 => ?_
    exact k Hs4 H4 v d s3 (g2.trans (g3.trans g4)) r4 (v4.anew fun a e => (g2.trans g3).back a e) q4
  · exact q3.elim
/-- xs[::-1] -/
def revD (x : D) (Q : D → Prop) : Prop := match x with
  | .list ds => Q (.list ds.reverse)
  | _ => False
def dRev (a : DT) : DT := fun s Q => a s fun x s1 => revD x fun z => Q z s1
theorem sim_rev (ha : Sim C ca ta da) : Sim C .F (tRevL C.K ta) (dRev da) := by
  refine ⟨fun H0 S0 Hs σ H s Q Q' r q k => ha.run H0 S0 Hs σ H s _ _ r q fun Hs1 H1 x dx s1 g1 r1 v1 q1 => ?_⟩
  have rd := v1.rd r1.sub
  cases dx <;> first | exact q1.elim | skip
  rename_i ds
  obtain ⟨a, xs, rfl, e1, e2⟩ := Rd'.list rd
  exact ⟨a, xs, rfl, SqL.of e1, fun p np => k Hs1 _ _ (.list ds.reverse) s1 (g1.trans (Go.laid np)) (r1.laid np) ((r1.newList np e2.rev).anew fun a e => g1.back a e) q1⟩
/-! ### lists of the def's own, changed in place -/
abbrev DM := List D → List D → (D → List D → Prop) → Prop
def MtA (C : Cf) (r : V → List V → Hp → VK → Prop) (f : DM) : Prop := ∀ (Hs H : Hp) (a : Addr) (xs : List V) (ds : List D) (vs : List V) (es : List D) (Q : D → List D → Prop) (Q' : VK), Same Hs H → H a = some (.lst xs) → RpAll C.K Hs xs ds → RpAll C.K Hs vs es → f ds es Q →
  (∀ v d xs' ds', RpAll C.K Hs xs' ds' → Rp C.K Hs v d → Q d ds' → Q' v (upd H a (.lst xs'))) → r (.ref a) vs H Q'
theorem R.upd {H0 S0 Hs : Hp} {σ : L2.St} {H : Hp} {s : S} {i : Nat} {a : Addr} {o' : HO} {d d' : D} (r : R C H0 S0 Hs σ H s) (hi : i ∈ C.M) (e : s.δ[i]? = some (some d)) (ea : σ[i]? = some (some (.ref a))) (h : Cn C.K Hs o' d') :
    R C H0 S0 Hs σ (L2.upd H a o') { s with δ := s.δ.set i (some d') } ∧ Go C σ Hs H Hs (L2.upd H a o') := by
  obtain ⟨a', u, e1, e2, e3, e4, e5⟩ := r.mt i d e hi
  rw [ea] at e1
  cases e1
  have il : i < s.δ.length := (List.getElem?_eq_some_iff.mp e).1
  have own : Own C σ a := ⟨i, hi, ea⟩
  have sm : ∀ b o, b ≠ a → H b = some o → L2.upd H a o' b = some o := fun b o n q => by rw [upd_ne n]; exact q
  refine ⟨⟨by simpa using r.len, fun b o q => ?_, fun j d' q m => ?_, fun j d' q m => ?_, fun j m q => ?_, r.sep, fun p c q => ?_, r.br, r.s0, fun b o n q => ?_, r.new⟩, Same.refl _, fun b o q n _ => ?_, fun b o q => ?_, fun _ h1 h2 => absurd h1 h2⟩
  · exact sm b o (fun z => by subst z; rw [e3] at q; cases q) (r.sub b o q)
  · have hj : j ≠ i := fun z => m (z ▸ hi)
    rw [List.getElem?_set_ne (Ne.symm hj)] at q
    exact r.slot j d' q m
  · by_cases hj : j = i
    · subst hj
      rw [List.getElem?_set_self il] at q
      cases q
      exact ⟨a, o', ea, upd_same, e3, h, e5⟩
    · rw [List.getElem?_set_ne (Ne.symm hj)] at q
      obtain ⟨b, w, f2, f3, f4⟩ := r.mt j d' q m
      refine ⟨b, w, f2, sm b _ (fun z => ?_) f3, f4⟩
      subst z
      exact hj (r.sep j i b m hi f2 ea)
  · by_cases hj : j = i
    · subst hj
      rw [List.getElem?_set_self il] at q
      cases q
    · rw [List.getElem?_set_ne (Ne.symm hj)] at q
      exact r.dead j m q
  · obtain ⟨f1, f2, f3, f4, f5, f6, f7, f8, f9⟩ := r.pn p c q
    refine ⟨f1, f2.but (q := a) (fun b o n q => sm b o n q) (fun z => ?_) (fun z => ?_), f3, f4, f5, ?_, f7, f8, f9⟩
    · subst z
      rcases e5 with e5 | e5
      · exact f4 e5
      · exact f8 e5
    · subst z
      rcases e5 with e5 | e5
      · exact f5 e5
      · exact f9 e5
    · rw [List.getElem?_set_ne (show i ≠ C.ps from fun z => f7 (by rw [← z]; exact hi))]
      exact f6
  · refine sm b o (fun z => ?_) (r.h0 b o n q)
    subst z
    rcases e5 with e5 | e5
    · rw [e5] at q; cases q
    · exact n (.inr e5)
  · exact sm b o (fun z => n (by rw [z]; exact own)) q
  · by_cases z : b = a
    · exact ⟨_, by rw [z]; exact upd_same⟩
    · exact ⟨o, sm b o z q⟩
def dMt (f : DM) (i : Nat) (a : DA) : DT := fun s Q => (∃ d, s.δ[i]? = some (some (.list d))) ∧ a s fun es s1 => match s1.δ[i]? with
  | some (some (.list ds)) => f ds es fun d ds' => Q d { s1 with δ := s1.δ.set i (some (.list ds')) }
  | _ => False
theorem R.mtL {H0 S0 Hs : Hp} {σ : L2.St} {H : Hp} {s : S} {i : Nat} {ds : List D} (r : R C H0 S0 Hs σ H s) (hi : i ∈ C.M) (e : s.δ[i]? = some (some (.list ds))) : ∃ a xs, σ[i]? = some (some (.ref a)) ∧ H a = some (.lst xs) := by
  obtain ⟨a, o, e1, e2, _, c, _⟩ := r.mt i _ e hi
  cases c
  exact ⟨a, _, e1, e2⟩
theorem sim_mt {n : Nat} {r : V → List V → Hp → VK → Prop} {f : DM} {ta : TA} {a : DA} (i : Nat) (hi : i ∈ C.M) (hf : MtA C r f) (ha : SimA C n ta a) : Sim C .E (tBM C.K "list" r (tVar i) ta) (dMt f i a) := by
  refine ⟨fun H0 S0 Hs σ H s Q Q' r0 q k => ?_⟩
  obtain ⟨⟨d, e⟩, q⟩ := q
  obtain ⟨b, xs, e1, e2⟩ := r0.mtL hi e
  refine ⟨_, e1, .inl ⟨rfl, xs, SqL.of e2⟩, ha.run H0 S0 Hs σ H s _ _ r0 q fun Hs1 H1 vs es s1 g1 r1 v1 _ q1 => ?_⟩
  split at q1
  · rename_i ds1 ex
    obtain ⟨b', o1, e4, e5, e6, e7, _⟩ := r1.mt i _ ex hi
    rw [e1] at e4
    cases e4
    cases e7
    rename_i xs1 e7
    refine hf Hs1 H1 b xs1 ds1 vs es _ _ r1.sub e5 e7 v1 q1 fun v d xs' ds' h1 h2 q2 => ?_
    obtain ⟨r2, g2⟩ := r1.upd hi ex e1 (.lst h1)
    exact k Hs1 _ v d _ (g1.trans g2) r2 h2 q2
  · exact q1.elim
theorem sim_mt0 {r : V → List V → Hp → VK → Prop} {f : DM} (i : Nat) (hi : i ∈ C.M) (hf : MtA C r f) : Sim C .E (tBM0 C.K "list" r (tVar i)) (dMt f i dNil) := by
  refine ⟨fun H0 S0 Hs σ H s Q Q' r0 q k => ?_⟩
  obtain ⟨⟨d, e⟩, q⟩ := q
  obtain ⟨b, o, e1, e2, e3, e4, _⟩ := r0.mt i _ e hi
  cases e4
  rename_i xs e4
  refine ⟨_, e1, .inl ⟨rfl, xs, SqL.of e2⟩, ?_⟩
  have q : (match s.δ[i]? with | some (some (.list ds)) => f ds [] fun d ds' => Q d { s with δ := s.δ.set i (some (.list ds')) } | _ => False) := q
  rw [e] at q
  refine hf Hs H b xs d [] [] _ _ r0.sub e2 e4 .nil q fun v d xs' ds' h1 h2 q2 => ?_
  obtain ⟨r2, g2⟩ := r0.upd hi e e1 (.lst h1)
  exact k Hs _ v d _ g2 r2 h2 q2
def appM : DM := fun ds es Q => match es with
  | [e] => ds.length < sizeLine ∧ Q .none (ds ++ [e])
  | _ => False
theorem mtA_app : MtA C rAppend appM := by
  intro Hs H a xs ds vs es Q Q' sub h1 h2 h3 q k
  match vs, es, h3 with
  | [v], [e], .cons h4 .nil => exact ⟨a, xs, v, rfl, rfl, h1, by rw [h2.len]; exact q.1, k _ .none _ _ (h2.app (.cons h4 .nil)) .non q.2⟩
  | [], [], _ => exact q.elim
  | _ :: _ :: _, _ :: _ :: _, _ => exact q.elim
def extM : DM := fun ds es Q => match es with
  | [e] => (match e with
    | .list zs => ds.length + zs.length ≤ sizeLine ∧ Q .none (ds ++ zs)
    | _ => False)
  | _ => False
theorem mtA_ext : MtA C rExtend extM := by
  intro Hs H a xs ds vs es Q Q' sub h1 h2 h3 q k
  match vs, es, h3 with
  | [v], [e], .cons h4 .nil =>
    cases e <;> first | exact q.elim | skip
    cases h4 with
    | @lst b zs _ h5 h6 => exact ⟨a, b, xs, zs, rfl, rfl, h1, sub _ _ h5, by rw [h2.len, h6.len]; exact q.1, k _ .none _ _ (h2.app h6) .non q.2⟩
  | [], [], _ => exact q.elim
  | _ :: _ :: _, _ :: _ :: _, _ => exact q.elim
theorem RpAll.eraseIdx {K : PySem.W.Frag} {H : Hp} : ∀ {xs : List V} {ds : List D} (n : Nat), RpAll K H xs ds → RpAll K H (xs.eraseIdx n) (ds.eraseIdx n)
  | _, _, _, .nil => by simp only [List.eraseIdx_nil]; exact .nil
  | _, _, 0, .cons a b => b
  | _, _, n + 1, .cons a b => .cons a (RpAll.eraseIdx n b)
theorem RpAll.dropLast {K : PySem.W.Frag} {H : Hp} {xs : List V} {ds : List D} (h : RpAll K H xs ds) : RpAll K H xs.dropLast ds.dropLast := by
  rw [List.dropLast_eq_take, List.dropLast_eq_take, h.len]
  exact h.take _
def popM : DM := fun ds es Q => match es with
  | [] => (match ds[ds.length - 1]? with | some d => Q d ds.dropLast | none => False)
  | _ => False
theorem mtA_pop : MtA C rPop popM := by
  intro Hs H a xs ds vs es Q Q' sub h1 h2 h3 q k
  match vs, es, h3 with
  | [], [], .nil =>
    simp only [popM] at q
    split at q
    · rename_i d e
      obtain ⟨x, e1, e2⟩ := h2.get e
      exact ⟨a, xs, x, rfl, rfl, h1, by rw [h2.len]; exact e1, k _ d _ _ h2.dropLast e2 q⟩
    · exact q.elim
  | _ :: _, _ :: _, _ => exact q.elim
def popAtM : DM := fun ds es Q => match es with
  | [e] => (match e with
    | .int i => (0 ≤ i ∧ i < 2 ^ 62) ∧ (match ds[i.toNat]? with | some d => Q d (ds.eraseIdx i.toNat) | none => False)
    | _ => False)
  | _ => False
theorem mtA_popAt : MtA C rPopAt popAtM := by
  intro Hs H a xs ds vs es Q Q' sub h1 h2 h3 q k
  match vs, es, h3 with
  | [v], [e], .cons h4 .nil =>
    cases e <;> first | exact q.elim | skip
    cases h4
    rename_i i
    obtain ⟨h0, q⟩ := q
    split at q
    · rename_i d e
      obtain ⟨x, e1, e2⟩ := h2.get e
      have hl : i.toNat < xs.length := (List.getElem?_eq_some_iff.mp e1).1
      exact ⟨a, xs, i, i.toNat, x, rfl, rfl, h1, by omega, by omega, seqIndex_of h0.1 (by omega), e1, k _ d _ _ (h2.eraseIdx _) e2 q⟩
    · exact q.elim
  | [], [], _ => exact q.elim
  | _ :: _ :: _, _ :: _ :: _, _ => exact q.elim
def clearM : DM := fun _ es Q => match es with
  | [] => Q .none []
  | _ => False
theorem mtA_clear : MtA C rClear clearM := by
  intro Hs H a xs ds vs es Q Q' sub h1 h2 h3 q k
  match vs, es, h3 with
  | [], [], .nil => exact ⟨a, xs, rfl, rfl, h1, k _ .none _ _ .nil .non q⟩
  | _ :: _, _ :: _, _ => exact q.elim
end

/-! ### statements -/
structure DEnds where
  nx : S → Prop
  rt : D → S → Prop
  bk : S → Prop := fun _ => False
  ct : S → Prop := fun _ => False
  ex : Prop := False
abbrev DSt := DEnds → S → Prop
structure Tr (C : Cf) (cat : Cat) (H0 S0 : Hp) (E : DEnds) (D' : Ends) : Prop where
  nx : ∀ Hs σ H s, R C H0 S0 Hs σ H s → E.nx s → D'.nx σ H
  rt : ∀ Hs σ H s v d, R C H0 S0 Hs σ H s → RV C.K H0 Hs H cat v d → E.rt d s → D'.rt v H
  bk : ∀ Hs σ H s, R C H0 S0 Hs σ H s → E.bk s → D'.bk σ H
  ct : ∀ Hs σ H s, R C H0 S0 Hs σ H s → E.ct s → D'.ct σ H
  ex : ∀ Hs σ H s, R C H0 S0 Hs σ H s → E.ex → C.ex H
structure SimS (C : Cf) (cat : Cat) (ts : TS) (t : DSt) : Prop where
  run : ∀ (H0 S0 Hs : Hp) (σ : L2.St) (H : Hp) (s : S) (E : DEnds) (D' : Ends), R C H0 S0 Hs σ H s → t E s → Tr C cat H0 S0 E D' → ts D' σ H
section
variable {C : Cf} {cat : Cat} {te ta tb : TE} {t da db : DT} {ca cb : Cat} {ts us : TS} {a b : DSt}
def dNext : DSt := fun E s => E.nx s
def dSeq (a b : DSt) : DSt := fun E s => a { E with nx := b E } s
theorem simS_next : SimS C cat tNext dNext := ⟨fun H0 S0 Hs σ H s E D' r q k => k.nx Hs σ H s r q⟩
theorem simS_seq (ha : SimS C cat ts a) (hb : SimS C cat us b) : SimS C cat (tSeq ts us) (dSeq a b) :=
  ⟨fun H0 S0 Hs σ H s E D' r q k => ha.run H0 S0 Hs σ H s _ _ r q ⟨fun Hs σ H s r q => hb.run H0 S0 Hs σ H s E D' r q k, k.rt, k.bk, k.ct, k.ex⟩⟩
def dBreak : DSt := fun E s => E.bk s
def dCont : DSt := fun E s => E.ct s
theorem simS_break : SimS C cat tBreak dBreak := ⟨fun H0 S0 Hs σ H s E D' r q k => k.bk Hs σ H s r q⟩
theorem simS_cont : SimS C cat tCont dCont := ⟨fun H0 S0 Hs σ H s E D' r q k => k.ct Hs σ H s r q⟩
def dNever : DSt := fun _ _ => False
theorem simS_never : SimS C cat tNever dNever := ⟨fun H0 S0 Hs σ H s E D' r q k => q⟩
/-! stores -/
theorem R.setE {H0 S0 Hs : Hp} {σ : L2.St} {H : Hp} {s : S} {i : Nat} {v : V} {d : D} (r : R C H0 S0 Hs σ H s) (hi : i ∉ C.M) (hp : i ≠ C.ps) (h : Rp C.K Hs v d) : R C H0 S0 Hs (σ.set i (some v)) H { s with δ := s.δ.set i (some d) } := by
  have ne : ∀ j, j ∈ C.M → j ≠ i := fun j m z => hi (z ▸ m)
  refine ⟨by simpa using r.len, r.sub, fun j d' q m => ?_, fun j d' q m => ?_, fun j m q => ?_, fun j l x m1 m2 q1 q2 => ?_, fun p c q => ?_, fun b hb => ?_, r.s0, r.h0, r.new⟩
  · by_cases hj : j = i
    · subst hj
      have il : j < s.δ.length := by
        have := (List.getElem?_eq_some_iff.mp q).1
        simpa using this
      rw [List.getElem?_set_self il] at q
      cases q
      exact ⟨v, List.getElem?_set_self (by rw [r.len]; exact il), h⟩
    · rw [List.getElem?_set_ne (Ne.symm hj)] at q ⊢
      exact r.slot j d' q m
  · rw [List.getElem?_set_ne (Ne.symm (ne j m))] at q ⊢
    exact r.mt j d' q m
  · rw [List.getElem?_set_ne (Ne.symm (ne j m))] at q ⊢
    exact r.dead j m q
  · rw [List.getElem?_set_ne (Ne.symm (ne j m1))] at q1
    rw [List.getElem?_set_ne (Ne.symm (ne l m2))] at q2
    exact r.sep j l x m1 m2 q1 q2
  · obtain ⟨f1, f2, f3, f4, f5, f6, f7⟩ := r.pn p c q
    exact ⟨by rw [List.getElem?_set_ne hp]; exact f1, f2, f3, f4, f5, by rw [List.getElem?_set_ne hp]; exact f6, f7⟩
  · obtain ⟨⟨j, b1, b2, b3⟩, b4⟩ := r.br b hb
    exact ⟨⟨j, b1, b2, by rw [List.getElem?_set_ne (Ne.symm (ne j b2))]; exact b3⟩, b4⟩
theorem R.setM {H0 S0 Hs : Hp} {σ : L2.St} {H : Hp} {s : S} {i : Nat} {x : Addr} {d : D} {Hst : Hp} (r : R C H0 S0 Hs σ H s) (hi : i ∈ C.M) (hb : i ∉ C.bs) (f : Fresh C H0 Hst Hs σ H x d) :
    R C H0 S0 Hs (σ.set i (some (.ref x))) H { s with δ := s.δ.set i (some d) } := by
  obtain ⟨o, h1, h2, h3, _, h4, h5⟩ := f
  refine ⟨by simpa using r.len, r.sub, fun j d' q m => ?_, fun j d' q m => ?_, fun j m q => ?_, fun j l y m1 m2 q1 q2 => ?_, fun p c q => ?_, fun b hb' => ?_, r.s0, r.h0, r.new⟩
  · have hj : j ≠ i := fun z => m (z ▸ hi)
    rw [List.getElem?_set_ne (Ne.symm hj)] at q ⊢
    exact r.slot j d' q m
  · by_cases hj : j = i
    · subst hj
      have il : j < s.δ.length := by
        have := (List.getElem?_eq_some_iff.mp q).1
        simpa using this
      rw [List.getElem?_set_self il] at q
      cases q
      exact ⟨x, o, List.getElem?_set_self (by rw [r.len]; exact il), h1, h2, h4, .inl h3⟩
    · rw [List.getElem?_set_ne (Ne.symm hj)] at q ⊢
      exact r.mt j d' q m
  · by_cases hj : j = i
    · subst hj
      have il : j < s.δ.length := by
        have := (List.getElem?_eq_some_iff.mp q).1
        simpa using this
      rw [List.getElem?_set_self il] at q
      cases q
    · rw [List.getElem?_set_ne (Ne.symm hj)] at q ⊢
      exact r.dead j m q
  · by_cases hj : j = i
    · by_cases hl : l = i
      · rw [hj, hl]
      · subst hj
        have jl : j < σ.length := by
          have := (List.getElem?_eq_some_iff.mp q1).1
          simpa using this
        rw [List.getElem?_set_self jl] at q1
        cases q1
        rw [List.getElem?_set_ne (Ne.symm hl)] at q2
        exact absurd ⟨l, m2, q2⟩ h5
    · by_cases hl : l = i
      · subst hl
        have ll : l < σ.length := by
          have := (List.getElem?_eq_some_iff.mp q2).1
          simpa using this
        rw [List.getElem?_set_self ll] at q2
        cases q2
        rw [List.getElem?_set_ne (Ne.symm hj)] at q1
        exact absurd ⟨j, m1, q1⟩ h5
      · rw [List.getElem?_set_ne (Ne.symm hj)] at q1
        rw [List.getElem?_set_ne (Ne.symm hl)] at q2
        exact r.sep j l y m1 m2 q1 q2
  · obtain ⟨f1, f2, f3, f4, f5, f6, f7⟩ := r.pn p c q
    have hp : i ≠ C.ps := fun z => f7.1 (by rw [← z]; exact hi)
    exact ⟨by rw [List.getElem?_set_ne hp]; exact f1, f2, f3, f4, f5, by rw [List.getElem?_set_ne hp]; exact f6, f7⟩
  · obtain ⟨⟨j, b1, b2, b3⟩, b4⟩ := r.br b hb'
    exact ⟨⟨j, b1, b2, by rw [List.getElem?_set_ne (fun z => hb (by rw [z]; exact b1))]; exact b3⟩, b4⟩
def dSet (i : Nat) (a : DT) : DSt := fun E s => a s fun d s1 => E.nx { s1 with δ := s1.δ.set i (some d) }
theorem simS_set (i : Nat) (hi : i ∉ C.M) (hp : i ≠ C.ps) (h : Sim C ca te t) : SimS C cat (tAsg te (gName i)) (dSet i t) :=
  ⟨fun H0 S0 Hs σ H s E D' r q k => h.toE.run H0 S0 Hs σ H s _ _ r q fun Hs1 H1 v d s1 g1 r1 v1 q1 => k.nx Hs1 _ H1 _ (r1.setE hi hp v1) q1⟩
def dSetM (i : Nat) (a : DT) : DSt := fun E s => a s fun d s1 => isC d = true ∧ E.nx { s1 with δ := s1.δ.set i (some d) }
theorem simS_setM (i : Nat) (hi : i ∈ C.M) (hb : i ∉ C.bs) (h : Sim C .F te t) : SimS C cat (tAsg te (gName i)) (dSetM i t) := by
  refine ⟨fun H0 S0 Hs σ H s E D' r q k => h.run H0 S0 Hs σ H s _ _ r q fun Hs1 H1 v d s1 g1 r1 v1 q1 => ?_⟩
  obtain ⟨x, rfl, f⟩ := v1.c q1.1
  exact k.nx Hs1 _ H1 _ (r1.setM hi hb f) q1.2
def dDrop (a : DT) : DSt := fun E s => a s fun _ s1 => E.nx s1
theorem simS_drop (h : Sim C ca te t) : SimS C cat (tDrop te) (dDrop t) :=
  ⟨fun H0 S0 Hs σ H s E D' r q k => h.run H0 S0 Hs σ H s _ _ r q fun Hs1 H1 v d s1 g1 r1 v1 q1 => k.nx Hs1 _ H1 _ r1 q1⟩
def dRet (a : DT) : DSt := fun E s => a s fun d s1 => E.rt d s1
theorem simS_ret (h : Sim C cat te t) : SimS C cat (tRet te) (dRet t) := by
  refine ⟨fun H0 S0 Hs σ H s E D' r q k => h.run H0 S0 Hs σ H s _ _ r q fun Hs1 H1 v d s1 g1 r1 v1 q1 => k.rt Hs1 σ H1 s1 v d r1 ?_ q1⟩
  cases cat with
  | E => exact v1
  | F =>
    cases e : isC d with
    | true =>
      obtain ⟨x, rfl, o, h1, h2, h3, h4, h5, h6⟩ := v1.c e
      exact ifp e ⟨x, o, rfl, h1, h2, h3, h5⟩
    | false => exact ifn (by rw [e]; exact Bool.false_ne_true) (v1.p e)
/-- return of a list of the def's own -/
def dRetM (i : Nat) : DSt := fun E s => match s.δ[i]? with
  | some (some d) => E.rt d { s with δ := s.δ.set i none }
  | _ => False
theorem R.dropM {H0 S0 Hs : Hp} {σ : L2.St} {H : Hp} {s : S} {i : Nat} (r : R C H0 S0 Hs σ H s) (hi : i ∈ C.M) (hb : i ∉ C.bs) : R C H0 S0 Hs (σ.set i none) H { s with δ := s.δ.set i none } := by
  have ko : ∀ (j : Nat) (v : V), (σ.set i none)[j]? = some (some v) → j ≠ i ∧ σ[j]? = some (some v) := fun j v q => by
    by_cases hj : j = i
    · subst hj
      have jl : j < σ.length := by
        have := (List.getElem?_eq_some_iff.mp q).1
        simpa using this
      rw [List.getElem?_set_self jl] at q
      cases q
    · rw [List.getElem?_set_ne (Ne.symm hj)] at q
      exact ⟨hj, q⟩
  refine ⟨by simpa using r.len, r.sub, fun j d' q m => ?_, fun j d' q m => ?_, fun j m q => ?_, fun j l y m1 m2 q1 q2 => r.sep j l y m1 m2 (ko j _ q1).2 (ko l _ q2).2, fun p c q => ?_, fun b hb' => ?_, r.s0, r.h0, r.new⟩
  · have hj : j ≠ i := fun z => m (z ▸ hi)
    rw [List.getElem?_set_ne (Ne.symm hj)] at q ⊢
    exact r.slot j d' q m
  · by_cases hj : j = i
    · subst hj
      have il : j < s.δ.length := by
        have := (List.getElem?_eq_some_iff.mp q).1
        simpa using this
      rw [List.getElem?_set_self il] at q
      cases q
    · rw [List.getElem?_set_ne (Ne.symm hj)] at q ⊢
      exact r.mt j d' q m
  · by_cases hj : j = i
    · subst hj
      have il : j < s.δ.length := by
        have := (List.getElem?_eq_some_iff.mp q).1
        simpa using this
      exact List.getElem?_set_self (by rw [r.len]; exact il)
    · rw [List.getElem?_set_ne (Ne.symm hj)] at q ⊢
      exact r.dead j m q
  · obtain ⟨f1, f2, f3, f4, f5, f6, f7⟩ := r.pn p c q
    have hp : i ≠ C.ps := fun z => f7.1 (by rw [← z]; exact hi)
    exact ⟨by rw [List.getElem?_set_ne hp]; exact f1, f2, f3, f4, f5, by rw [List.getElem?_set_ne hp]; exact f6, f7⟩
  · obtain ⟨⟨j, b1, b2, b3⟩, b4⟩ := r.br b hb'
    exact ⟨⟨j, b1, b2, by rw [List.getElem?_set_ne (fun z => hb (by rw [z]; exact b1))]; exact b3⟩, b4⟩
theorem simS_retM (i : Nat) (hi : i ∈ C.M) (hb : i ∉ C.bs) : SimS C cat (tRet (tVar i)) (dRetM i) := by
  refine ⟨fun H0 S0 Hs σ H s E D' r q k => ?_⟩
  unfold dRetM at q
  split at q
  · rename_i d e
    obtain ⟨x, o, e1, e2, e3, e4, e5⟩ := r.mt i d e hi
    refine ⟨_, e1, ?_⟩
    have r' := r.dropM hi hb
    have e5 : H0 x = none := by
      rcases e5 with e5 | e5
      · exact e5
      · obtain ⟨⟨j, b1, b2, b3⟩, _⟩ := r.br x e5
        exact absurd (by rw [← r.sep j i x b2 hi b3 e1]; exact b1) hb
    cases cat with
    | F => exact k.rt Hs _ H _ _ d r' (ifp e4.is ⟨x, o, rfl, e2, e3, e5, e4⟩) q
    | E =>
      have no : ¬ Own C (σ.set i none) x := fun ⟨j, m, z⟩ => by
        by_cases hj : j = i
        · subst hj
          have jl : j < σ.length := by
            have := (List.getElem?_eq_some_iff.mp z).1
            simpa using this
          rw [List.getElem?_set_self jl] at z
          cases z
        · rw [List.getElem?_set_ne (Ne.symm hj)] at z
          exact hj (r.sep j i x m hi z e1)
      obtain ⟨Hs', _, r2, rp, _⟩ := r'.freeze (Hst := Hs) ⟨o, e2, e3, e5, e3, e4, no⟩
      exact k.rt Hs' _ H _ _ _ r2 rp q
  · exact q.elim
def dRetN : DSt := fun E s => E.rt .none s
theorem simS_retN : SimS C cat tRetN dRetN := by
  refine ⟨fun H0 S0 Hs σ H s E D' r q k => k.rt Hs σ H s .non .none r ?_ q⟩
  cases cat with
  | E => exact Rp.non
  | F => simp only [RV, isC, if_neg Bool.false_ne_true]; exact Rp.non
def dIfS (c : DB) (a b : DSt) : DSt := fun E s => c s fun k s1 => if k = true then a E s1 else b E s1
theorem simS_if {tt : TT} {c : DB} (hc : SimT C tt c) (ha : SimS C cat ts a) (hb : SimS C cat us b) : SimS C cat (tIfS tt ts us) (dIfS c a b) := by
  refine ⟨fun H0 S0 Hs σ H s E D' r q k => hc.run H0 S0 Hs σ H s _ _ r q fun Hs1 H1 c s1 g1 r1 q1 => ?_⟩
  cases c with
  | true => exact ifp rfl (ha.run H0 S0 Hs1 σ H1 s1 E D' r1 (by simpa using q1) k)
  | false => exact ifn Bool.false_ne_true (hb.run H0 S0 Hs1 σ H1 s1 E D' r1 (by simpa using q1) k)
/-! targets -/
structure SimG (C : Cf) (bw : Bool) (ts : List Nat) (g : TG) (t : D → S → (S → Prop) → Prop) : Prop where
  run : ∀ (H0 S0 Hs : Hp) (σ : L2.St) (H : Hp) (s : S) (v : V) (d : D) (Q : S → Prop) (Q' : L2.St → Hp → Prop), R C H0 S0 Hs σ H s → RqB bw C.K Hs v d → t d s Q →
    (∀ σ' s', R C H0 S0 Hs σ' H s' → σ'.length = σ.length → (∀ j, j ∉ ts → σ'[j]? = σ[j]?) → Q s' → Q' σ' H) → g v σ H Q'
structure SimGs (C : Cf) (ts : List Nat) (g : TGs) (t : List D → S → (S → Prop) → Prop) : Prop where
  run : ∀ (H0 S0 Hs : Hp) (σ : L2.St) (H : Hp) (s : S) (vs : List V) (ds : List D) (Q : S → Prop) (Q' : L2.St → Hp → Prop), R C H0 S0 Hs σ H s → RpAll C.K Hs vs ds → t ds s Q →
    (∀ σ' s', R C H0 S0 Hs σ' H s' → σ'.length = σ.length → (∀ j, j ∉ ts → σ'[j]? = σ[j]?) → Q s' → Q' σ' H) → g vs σ H Q'
def sName (i : Nat) : D → S → (S → Prop) → Prop := fun d s Q => Q { s with δ := s.δ.set i (some d) }
theorem simG_name (i : Nat) (hi : i ∉ C.M) (hp : i ≠ C.ps) : SimG C false [i] (gName i) (sName i) :=
  ⟨fun H0 S0 Hs σ H s v d Q Q' r h q k => k _ _ (r.setE hi hp h) (by simp) (fun j hj => List.getElem?_set_ne (fun z => hj (by simp [z]))) q⟩
def sNil : List D → S → (S → Prop) → Prop := fun ds s Q => match ds with
  | [] => Q s
  | _ => False
def sCons (a : D → S → (S → Prop) → Prop) (b : List D → S → (S → Prop) → Prop) : List D → S → (S → Prop) → Prop := fun ds s Q => match ds with
  | d :: r => a d s fun s1 => b r s1 Q
  | [] => False
theorem simGs_nil : SimGs C [] gNil sNil := by
  refine ⟨fun H0 S0 Hs σ H s vs ds Q Q' r h q k => ?_⟩
  cases h with
  | nil => exact ⟨rfl, k σ s r rfl (fun _ _ => rfl) q⟩
  | cons _ _ => exact q.elim
theorem simGs_cons {ts us : List Nat} {g : TG} {gs : TGs} {x : D → S → (S → Prop) → Prop} {y : List D → S → (S → Prop) → Prop} (h1 : SimG C false ts g x) (h2 : SimGs C us gs y) : SimGs C (ts ++ us) (gCons g gs) (sCons x y) := by
  refine ⟨fun H0 S0 Hs σ H s vs ds Q Q' r h q k => ?_⟩
  cases h with
  | nil => exact q.elim
  | cons a b =>
    refine ⟨_, _, rfl, h1.run H0 S0 Hs σ H s _ _ _ _ r a q fun σ1 s1 r1 l1 e1 q1 => h2.run H0 S0 Hs σ1 H s1 _ _ _ _ r1 b q1 fun σ2 s2 r2 l2 e2 q2 => ?_⟩
    refine k σ2 s2 r2 (l2.trans l1) (fun j hj => ?_) q2
    rw [List.mem_append, not_or] at hj
    rw [e2 j hj.2, e1 j hj.1]
def sTup (n : Nat) (a : List D → S → (S → Prop) → Prop) : D → S → (S → Prop) → Prop := fun d s Q => match d with
  | .tuple ds => ds.length = n ∧ a ds s Q
  | _ => False
theorem simG_tup {bw : Bool} {ts : List Nat} {n : Nat} {gs : TGs} {x : List D → S → (S → Prop) → Prop} (h : SimGs C ts gs x) : SimG C bw ts (gTup C.K n gs) (sTup n x) := by
  refine ⟨fun H0 S0 Hs σ H s v d Q Q' r hv q k => ?_⟩
  cases d <;> first | exact q.elim | skip
  obtain ⟨p, xs, rfl, e1, e2⟩ := hv.tup
  exact ⟨p, xs, rfl, Same.sqT r.sub e1, by rw [e2.len]; exact q.1, h.run H0 S0 Hs σ H s _ _ _ _ r e2 q.2 k⟩
def dAsgG (a : DT) (g : D → S → (S → Prop) → Prop) : DSt := fun E s => a s fun d s1 => g d s1 E.nx
theorem simS_asg {ts : List Nat} {g : TG} {x : D → S → (S → Prop) → Prop} (h : Sim C ca te t) (hg : SimG C false ts g x) : SimS C cat (tAsg te g) (dAsgG t x) :=
  ⟨fun H0 S0 Hs σ H s E D' r q k => h.toE.run H0 S0 Hs σ H s _ _ r q fun Hs1 H1 v d s1 g1 r1 v1 q1 => hg.run H0 S0 Hs1 σ H1 s1 v d _ _ r1 v1 q1 fun σ' s' r2 _ _ q2 => k.nx Hs1 σ' H1 s' r2 q2⟩
/-- a, b = x, y: both names at once -/
def dPar (i j : Nat) (a : DA) : DSt := fun E s => a s fun ds s1 => match ds with
  | [d, e] => E.nx { s1 with δ := (s1.δ.set i (some d)).set j (some e) }
  | _ => False
theorem simS_par {ta : TA} {a : DA} (i j : Nat) (hi : i ∉ C.M) (hj : j ∉ C.M) (pi : i ≠ C.ps) (pj : j ≠ C.ps) (h : SimA C 2 ta a) : SimS C cat (tPar i j ta) (dPar i j a) := by
  refine ⟨fun H0 S0 Hs σ H s E D' r q k => h.run H0 S0 Hs σ H s _ _ r q fun Hs1 H1 vs ds s1 g1 r1 v1 l1 q1 => ?_⟩
  match vs, ds, v1 with
  | [v, w], [d, e], .cons h1 (.cons h2 .nil) => exact ⟨v, w, rfl, k.nx Hs1 _ H1 _ ((r1.setE hi pi h1).setE hj pj h2) q1⟩
  | [], [], _ => exact q1.elim
  | [_], [_], _ => exact q1.elim
  | _ :: _ :: _ :: _, _ :: _ :: _ :: _, _ => exact q1.elim
/-- x op= e -/
def dAug (i : Nat) (f : DO) (a : DT) : DSt := fun E s => match s.δ[i]? with
  | some (some x) => a s fun y s1 => f x y fun z => E.nx { s1 with δ := s1.δ.set i (some z) }
  | _ => False
theorem simS_aug {r : R2} {f : DO} (i : Nat) (hi : i ∉ C.M) (hp : i ≠ C.ps) (ho : OpA C r f) (h : Sim C ca te t) : SimS C cat (tAug i te r) (dAug i f t) := by
  refine ⟨fun H0 S0 Hs σ H s E D' r0 q k => ?_⟩
  unfold dAug at q
  split at q
  · rename_i x e
    obtain ⟨v, e1, rp⟩ := r0.slot i x e hi
    refine ⟨v, e1, h.run H0 S0 Hs σ H s _ _ r0 q fun Hs1 H1 y dy s1 g1 r1 v1 q1 => ?_⟩
    refine ho H0 S0 Hs1 σ H1 s1 v y x dy _ _ r1 ((Rp.mono g1.st rp).rd r1.sub) (v1.rd r1.sub) q1 fun Hs2 H2 z dz g2 r2 v2 q2 => ?_
    cases ez : isC dz with
    | true =>
      obtain ⟨w, rfl, f⟩ := v2.c ez
      obtain ⟨Hs3, s3, r3, rp3, _⟩ := r2.freeze f
      exact k.nx Hs3 _ H2 _ (r3.setE hi hp rp3) q2
    | false => exact k.nx Hs2 _ H2 _ (r2.setE hi hp (v2.p ez)) q2
  · exact q.elim
/-- xs[i] = e, xs of the def's own -/
def dSetAt (i : Nat) (a j : DT) : DSt := fun E s => a s fun d s1 => (∃ z, s1.δ[i]? = some (some (.list z))) ∧ j s1 fun k s2 => match k with
  | .int n => (match s2.δ[i]? with
    | some (some (.list ds)) => (match ixN ds.length n with
      | some m => E.nx { s2 with δ := s2.δ.set i (some (.list (ds.set m d))) }
      | none => False)
    | _ => False)
  | _ => False
theorem simS_setAt (i : Nat) (hi : i ∈ C.M) (h : Sim C ca ta da) (hj : Sim C cb tb db) : SimS C cat (tAsg ta (gSub (tVar i) tb rSetL)) (dSetAt i da db) := by
  refine ⟨fun H0 S0 Hs σ H s E D' r q k => h.toE.run H0 S0 Hs σ H s _ _ r q fun Hs1 H1 v d s1 g1 r1 v1 q1 => ?_⟩
  obtain ⟨⟨z, ez⟩, q1⟩ := q1
  obtain ⟨x, xs, e1, _⟩ := r1.mtL hi ez
  refine ⟨_, e1, hj.run H0 S0 Hs1 σ H1 s1 _ _ r1 q1 fun Hs2 H2 w dk s2 g2 r2 v2 q2 => ?_⟩
  cases dk <;> first | exact q2.elim | skip
  rename_i n
  cases v2.int'
  have q2 : (match s2.δ[i]? with | some (some (.list ds)) => (match ixN ds.length n with | some m => E.nx { s2 with δ := s2.δ.set i (some (.list (ds.set m d))) } | none => False) | _ => False) := q2
  split at q2
  · rename_i ds2 e2
    split at q2
    · rename_i m em
      obtain ⟨x', o2, e4, e5, e6, e7, e8⟩ := r2.mt i _ e2 hi
      rw [e1] at e4
      cases e4
      cases e7
      rename_i xs2 e7
      obtain ⟨r3, _⟩ := r2.upd hi e2 e1 (.lst (e7.set m (Rp.mono g2.st v1)))
      exact ⟨x, xs2, n, m, rfl, rfl, e5, by rw [e7.len]; exact em, k.nx Hs2 _ _ _ r3 q2⟩
    · exact q2.elim
  · exact q2.elim
end

/-! ### what is walked -/
/-- J goes through the trees items, wherever Hs1 stays -/
def ItOk (bw : Bool) (C : Cf) (Hs1 : Hp) (J : It) (items : List D) : Prop := ∃ (G : Hp → Prop) (Y : Nat → Hp → V → Hp → Prop), Walk J items.length G Y ∧ (∀ H, Same Hs1 H → G H) ∧
  ∀ (i : Nat) (H : Hp) (x : V) (H2 : Hp) (H0 S0 Hs : Hp) (σ : L2.St) (s : S), i < items.length → R C H0 S0 Hs σ H s → Same Hs1 Hs → Y i H x H2 →
    ∃ Hs2 d, items[i]? = some d ∧ R C H0 S0 Hs2 σ H2 s ∧ RqB bw C.K Hs2 x d ∧ Go C σ Hs H Hs2 H2
abbrev DI := S → (List D → S → Prop) → Prop
structure SimI (C : Cf) (bw : Bool) (wi : TI) (t : DI) : Prop where
  run : ∀ (H0 S0 Hs : Hp) (σ : L2.St) (H : Hp) (s : S) (Q : List D → S → Prop) (Q' : It → Hp → Prop), R C H0 S0 Hs σ H s → t s Q →
    (∀ Hs' H' J items s', Go C σ Hs H Hs' H' → R C H0 S0 Hs' σ H' s' → ItOk bw C Hs' J items → Q items s' → Q' J H') → wi σ H Q'
section
variable {C : Cf} {cat : Cat} {te ta tb : TE} {t da db : DT} {ca cb : Cat} {ts us : TS} {a b : DSt}
theorem itOk_list {Hs1 : Hp} {x : Addr} {xs : List V} {ds : List D} (h : Hs1 x = some (.lst xs)) (hd : RpAll C.K Hs1 xs ds) : ItOk false C Hs1 (Itl C.K x) ds := by
  refine ⟨_, _, by rw [← hd.len]; exact walk_list (xs := xs), fun H e => SqL.of (e _ _ h), fun i H v H2 H0 S0 Hs σ s hi r e y => ?_⟩
  obtain ⟨rfl, y⟩ := y
  obtain ⟨d, e1, e2⟩ := hd.getV y
  exact ⟨Hs, d, e1, r, Rp.mono e e2, Go.refl⟩
theorem itOk_tup {Hs1 : Hp} {x : Addr} {xs : List V} {ds : List D} (h : SqT C.K Hs1 x xs) (hd : RpAll C.K Hs1 xs ds) : ItOk false C Hs1 (Itt C.K x) ds := by
  refine ⟨_, _, by rw [← hd.len]; exact walk_tup (xs := xs), fun H e => Same.sqT e h, fun i H v H2 H0 S0 Hs σ s hi r e y => ?_⟩
  obtain ⟨rfl, y⟩ := y
  obtain ⟨d, e1, e2⟩ := hd.getV y
  exact ⟨Hs, d, e1, r, Rp.mono e e2, Go.refl⟩
/-- a list -/
theorem simI_list (h : Sim C ca te t) : SimI C false (iList C.K te) (fun s Q => t s fun d s1 => match d with | .list ds => Q ds s1 | _ => False) := by
  refine ⟨fun H0 S0 Hs σ H s Q Q' r q k => h.toE.run H0 S0 Hs σ H s _ _ r q fun Hs1 H1 v d s1 g1 r1 v1 q1 => ?_⟩
  cases d <;> first | exact q1.elim | skip
  cases v1 with
  | @lst x xs _ e1 e2 => exact ⟨x, rfl, ⟨xs, SqL.of (r1.sub _ _ e1)⟩, k Hs1 H1 _ _ s1 g1 r1 (itOk_list e1 e2) q1⟩
theorem simI_tup (h : Sim C ca te t) : SimI C false (iTup C.K te) (fun s Q => t s fun d s1 => match d with | .tuple ds => Q ds s1 | _ => False) := by
  refine ⟨fun H0 S0 Hs σ H s Q Q' r q k => h.toE.run H0 S0 Hs σ H s _ _ r q fun Hs1 H1 v d s1 g1 r1 v1 q1 => ?_⟩
  cases d <;> first | exact q1.elim | skip
  cases v1 with
  | @tup x xs _ e1 e2 => exact ⟨x, rfl, ⟨xs, Same.sqT r1.sub e1.sq⟩, k Hs1 H1 _ _ s1 g1 r1 (itOk_tup e1.sq e2) q1⟩
/-- range -/
def rgD (lo : Int) (n : Nat) : List D := (List.range n).map fun i => .int (lo + (i : Nat))
theorem itOk_range {Hs1 : Hp} (lo : Int) (n : Nat) : ItOk false C Hs1 (Itr lo n) (rgD lo n) := by
  have hl : (rgD lo n).length = n := by unfold rgD; rw [List.length_map, List.length_range]
  refine ⟨_, _, by rw [hl]; exact walk_range, fun H e => True.intro, fun i H v H2 H0 S0 Hs σ s hi r e y => ?_⟩
  obtain ⟨rfl, rfl⟩ := y
  refine ⟨Hs, .int (lo + (i : Nat)), ?_, r, Rp.int _, Go.refl⟩
  unfold rgD
  rw [hl] at hi
  rw [List.getElem?_map, List.getElem?_range hi]
  rfl
def dRange1 (a : DT) : DI := fun s Q => a s fun d s1 => match d with
  | .int j => (-(2 ^ 62) ≤ j ∧ j < 2 ^ 62) ∧ Q (rgD 0 j.toNat) s1
  | _ => False
theorem simI_range1 (h : Sim C ca te t) : SimI C false (iRng1 (tCons te tNil)) (dRange1 t) := by
  refine ⟨fun H0 S0 Hs σ H s Q Q' r q k => h.run H0 S0 Hs σ H s _ _ r q fun Hs1 H1 v d s1 g1 r1 v1 q1 => ?_⟩
  cases d <;> first | exact q1.elim | skip
  rename_i j
  cases v1.int'
  exact ⟨j, rfl, q1.1.1, q1.1.2, k Hs1 H1 _ _ s1 g1 r1 (itOk_range 0 j.toNat) q1.2⟩
def dRange2 (a b : DT) : DI := fun s Q => a s fun d s1 => b s1 fun e s2 => match d, e with
  | .int i, .int j => (-(2 ^ 62) ≤ i ∧ i < 2 ^ 62 ∧ -(2 ^ 62) ≤ j ∧ j < 2 ^ 62) ∧ Q (rgD i (j - i).toNat) s2
  | _, _ => False
theorem simI_range2 (ha : Sim C ca ta da) (hb : Sim C cb tb db) : SimI C false (iRng2 (tCons ta (tCons tb tNil))) (dRange2 da db) := by
  refine ⟨fun H0 S0 Hs σ H s Q Q' r q k => ha.run H0 S0 Hs σ H s _ _ r q fun Hs1 H1 v d s1 g1 r1 v1 q1 => hb.run H0 S0 Hs1 σ H1 s1 _ _ r1 q1 fun Hs2 H2 w e s2 g2 r2 v2 q2 => ?_⟩
  cases d <;> cases e <;> first | exact q2.elim | skip
  rename_i i j
  cases v1.int'
  cases v2.int'
  exact ⟨i, j, rfl, q2.1, k Hs2 H2 _ _ s2 (g1.trans g2) r2 (itOk_range i (j - i).toNat) q2.2⟩
/-- pairs: enumerate, zip -/
def prD (xs ys : List D) : List D := (xs.zip ys).map fun p => .tuple [p.1, p.2]
theorem pair_it {H0 S0 Hs : Hp} {σ : L2.St} {H : Hp} {s : S} {T : Addr} {x y : V} {dx dy : D} (r : R C H0 S0 Hs σ H s) (n : H T = none) (hx : Rp C.K Hs x dx) (hy : Rp C.K Hs y dy) :
    ∃ Hs2, R C H0 S0 Hs2 σ (L2.upd H T (.tup [x, y])) s ∧ RqB true C.K Hs2 (.ref T) (.tuple [dx, dy]) ∧ Go C σ Hs H Hs2 (L2.upd H T (.tup [x, y])) := by
  obtain ⟨r', g'⟩ := r.newTup (o := .tup [x, y]) n
  exact ⟨_, r', .inr ⟨T, [x, y], [dx, dy], rfl, rfl, SqT.of upd_same, .cons (Rp.mono g'.st hx) (.cons (Rp.mono g'.st hy) .nil)⟩, g'⟩
def dEnum (a : DT) : DI := fun s Q => a s fun d s1 => match d with
  | .list ds => Q (prD (rgD 0 ds.length) ds) s1
  | _ => False
theorem enum_len (ds : List D) : (prD (rgD 0 ds.length) ds).length = ds.length := by
  unfold prD rgD
  rw [List.length_map, List.length_zip, List.length_map, List.length_range, Nat.min_self]
theorem enum_get {ds : List D} {i : Nat} {d : D} (h : ds[i]? = some d) : (prD (rgD 0 ds.length) ds)[i]? = some (.tuple [.int (i : Nat), d]) := by
  have hi : i < ds.length := (List.getElem?_eq_some_iff.mp h).1
  have h1 : (rgD 0 ds.length)[i]? = some (.int (0 + (i : Nat))) := by
    unfold rgD
    rw [List.getElem?_map, List.getElem?_range hi]
    rfl
  have h2 : ((rgD 0 ds.length).zip ds)[i]? = some (.int (0 + (i : Nat)), d) := List.getElem?_zip_eq_some.mpr ⟨h1, h⟩
  unfold prD
  rw [List.getElem?_map, h2]
  simp
theorem itOk_enum {Hs1 : Hp} {x : Addr} {xs : List V} {ds : List D} (h : Hs1 x = some (.lst xs)) (hd : RpAll C.K Hs1 xs ds) : ItOk true C Hs1 (Ite C.K x) (prD (rgD 0 ds.length) ds) := by
  refine ⟨_, _, by rw [enum_len, ← hd.len]; exact walk_enum (xs := xs), fun H e => SqL.of (e _ _ h), fun i H v H2 H0 S0 Hs σ s hi r e y => ?_⟩
  obtain ⟨T, x1, x2, rfl, nT, rfl, e1, e2⟩ := y
  cases e1
  obtain ⟨d, e3, e4⟩ := hd.getV e2
  obtain ⟨Hs2, r2, rp, g⟩ := pair_it r nT (Rp.int ((i : Nat) : Int)) (Rp.mono e e4)
  exact ⟨Hs2, _, enum_get e3, r2, rp, g⟩
theorem simI_enum (h : Sim C ca te t) : SimI C true (iEnum C.K (tCons te tNil)) (dEnum t) := by
  refine ⟨fun H0 S0 Hs σ H s Q Q' r q k => h.toE.run H0 S0 Hs σ H s _ _ r q fun Hs1 H1 v d s1 g1 r1 v1 q1 => ?_⟩
  cases d <;> first | exact q1.elim | skip
  cases v1 with
  | @lst x xs _ e1 e2 => exact ⟨x, xs, rfl, SqL.of (r1.sub _ _ e1), k Hs1 H1 _ _ s1 g1 r1 (itOk_enum e1 e2) q1⟩
def dZip (a b : DT) : DI := fun s Q => a s fun d s1 => b s1 fun e s2 => match d, e with
  | .list ds, .list es => Q (prD ds es) s2
  | .tuple ds, .tuple es => Q (prD ds es) s2
  | _, _ => False
theorem zip_len (ds es : List D) : (prD ds es).length = min ds.length es.length := by
  unfold prD
  rw [List.length_map, List.length_zip]
theorem zip_get {ds es : List D} {i : Nat} {d e : D} (h : ds[i]? = some d) (h' : es[i]? = some e) : (prD ds es)[i]? = some (.tuple [d, e]) := by
  have h2 : (ds.zip es)[i]? = some (d, e) := List.getElem?_zip_eq_some.mpr ⟨h, h'⟩
  unfold prD
  rw [List.getElem?_map, h2]
  rfl
theorem simI_zip (ha : Sim C ca ta da) (hb : Sim C cb tb db) : SimI C true (iZipA C.K (tCons ta (tCons tb tNil))) (dZip da db) := by
  refine ⟨fun H0 S0 Hs σ H s Q Q' r q k => ha.toE.run H0 S0 Hs σ H s _ _ r q fun Hs1 H1 v d s1 g1 r1 v1 q1 => hb.toE.run H0 S0 Hs1 σ H1 s1 _ _ r1 q1 fun Hs2 H2 w e s2 g2 r2 v2 q2 => ?_⟩
  cases d <;> cases e <;> first | exact q2.elim | skip
  case list.list ds es =>
    cases v1 with
    | @lst x xs _ e1 e2 =>
    cases v2 with
    | @lst y ys _ e3 e4 =>
    have e1' := g2.st _ _ e1
    have e2' := RpAll.mono g2.st e2
    refine ⟨x, y, xs, ys, rfl, .inl ⟨SqL.of (r2.sub _ _ e1'), SqL.of (r2.sub _ _ e3), k Hs2 H2 _ _ s2 (g1.trans g2) r2 ?_ q2⟩⟩
    refine ⟨_, _, walk_zip (K := C.K) (a := x) (b := y) (xs := xs) (ys := ys) (by rw [zip_len, e2.len, e4.len]), fun H e => ⟨SqL.of (e _ _ e1'), SqL.of (e _ _ e3)⟩, fun i H v H2 H0 S0 Hs σ s hi r e y => ?_⟩
    obtain ⟨T, x1, x2, rfl, nT, rfl, f1, f2⟩ := y
    obtain ⟨d, f3, f4⟩ := e2'.getV f1
    obtain ⟨d', f5, f6⟩ := e4.getV f2
    obtain ⟨Hs2, r2, rp, g⟩ := pair_it r nT (Rp.mono e f4) (Rp.mono e f6)
    exact ⟨Hs2, _, zip_get f3 f5, r2, rp, g⟩
  case tuple.tuple ds es =>
    cases v1 with
    | @tup x xs _ e1 e2 =>
    cases v2 with
    | @tup y ys _ e3 e4 =>
    have e1' := Same.sqT g2.st e1.sq
    have e2' := RpAll.mono g2.st e2
    refine ⟨x, y, xs, ys, rfl, .inr ⟨Same.sqT r2.sub e1', Same.sqT r2.sub e3.sq, k Hs2 H2 _ _ s2 (g1.trans g2) r2 ?_ q2⟩⟩
    refine ⟨_, _, walk_zipT (K := C.K) (a := x) (b := y) (xs := xs) (ys := ys) (by rw [zip_len, e2.len, e4.len]), fun H e => ⟨Same.sqT e e1', Same.sqT e e3.sq⟩, fun i H v H2 H0 S0 Hs σ s hi r e y => ?_⟩
    obtain ⟨T, x1, x2, rfl, nT, rfl, f1, f2⟩ := y
    obtain ⟨d, f3, f4⟩ := e2'.getV f1
    obtain ⟨d', f5, f6⟩ := e4.getV f2
    obtain ⟨Hs2, r2, rp, g⟩ := pair_it r nT (Rp.mono e f4) (Rp.mono e f6)
    exact ⟨Hs2, _, zip_get f3 f5, r2, rp, g⟩
/-- a text, sign by sign -/
def signs (z : Str) : List D := z.cps.toList.map fun c => .str ⟨#[c]⟩
def dStr (a : DT) : DI := fun s Q => a s fun d s1 => match d with
  | .str z => Q (signs z) s1
  | _ => False
theorem simI_str (h : Sim C ca te t) : SimI C false (iStr te) (dStr t) := by
  refine ⟨fun H0 S0 Hs σ H s Q Q' r q k => h.toE.run H0 S0 Hs σ H s _ _ r q fun Hs1 H1 v d s1 g1 r1 v1 q1 => ?_⟩
  cases d <;> first | exact q1.elim | skip
  rename_i z
  cases v1
  refine ⟨z, rfl, k Hs1 H1 _ _ s1 g1 r1 ?_ q1⟩
  have hl : (signs z).length = z.cps.size := by unfold signs; rw [List.length_map, Array.length_toList]
  refine ⟨_, _, by rw [hl]; exact walk_str, fun H e => True.intro, fun i H v H2 H0 S0 Hs σ s hi r e y => ?_⟩
  obtain ⟨rfl, c, e1, rfl⟩ := y
  refine ⟨Hs, .str ⟨#[c]⟩, ?_, r, Rp.str _, Go.refl⟩
  unfold signs
  rw [List.getElem?_map, Array.getElem?_toList, e1]
  rfl
/-! ### for, while -/
theorem R.base {H0 S0 Hs : Hp} {σ : L2.St} {H : Hp} {s : S} (r : R C H0 S0 Hs σ H s) : R C H0 Hs Hs σ H s :=
  ⟨r.len, r.sub, r.slot, r.mt, r.dead, r.sep, r.pn, r.br, Same.refl _, r.h0, fun _ h1 h2 => absurd h1 h2⟩
theorem R.back {H0 S0 Hs1 Hs : Hp} {σ1 σ : L2.St} {H1 H : Hp} {s1 s : S} (r1 : R C H0 S0 Hs1 σ1 H1 s1) (r : R C H0 Hs1 Hs σ H s) : R C H0 S0 Hs σ H s := by
  refine ⟨r.len, r.sub, r.slot, r.mt, r.dead, r.sep, r.pn, r.br, r1.s0.trans r.s0, r.h0, fun b e1 e2 => ?_⟩
  cases q : Hs1 b with
  | some o => exact r1.new b e1 (by rw [q]; exact fun z => nomatch z)
  | none => exact r.new b q e2
def forD (g : D → S → (S → Prop) → Prop) (b : DSt) (E : DEnds) : List D → S → Prop
  | [], s => E.nx s
  | d :: ds, s => g d s fun s1 => b { E with nx := forD g b E ds, ct := forD g b E ds, bk := E.nx } s1
def dFor (it : DI) (g : D → S → (S → Prop) → Prop) (b : DSt) : DSt := fun E s => it s fun items s1 => forD g b E items s1
theorem simS_for {bw : Bool} {wi : TI} {it : DI} {tl : List Nat} {g : TG} {x : D → S → (S → Prop) → Prop} (hi : SimI C bw wi it) (hg : SimG C bw tl g x) (hb : SimS C cat ts a) : SimS C cat (tFor wi g ts) (dFor it x a) := by
  refine ⟨fun H0 S0 Hs σ H s E D' r q k => hi.run H0 S0 Hs σ H s _ _ r q fun Hs1 H1 J items s1 g1 r1 io q1 => ?_⟩
  obtain ⟨G, Y, W, hG, hY⟩ := io
  refine for_it W (fun i σ H => ∃ Hs s, R C H0 Hs1 Hs σ H s ∧ forD x a E (items.drop i) s) ⟨Hs1, s1, r1.base, q1⟩ (fun i σ H _ ⟨Hs, s, r, _⟩ => hG H (r.s0.trans r.sub)) (fun i v σ H H' hi' ⟨Hs, s, r, q⟩ y => ?_) (fun σ H ⟨Hs, s, r, q⟩ => ?_)
  · obtain ⟨Hs2, d, e1, r2, rp, _⟩ := hY i H v H' H0 Hs1 Hs σ s hi' r r.s0 y
    rw [List.drop_eq_getElem_cons hi'] at q
    have ed : items[i] = d := by
      rw [List.getElem?_eq_getElem hi'] at e1
      exact Option.some.inj e1
    rw [ed] at q
    refine hg.run H0 Hs1 Hs2 σ H' s v d _ _ r2 rp q fun σ3 s3 r3 _ _ q3 => ?_
    refine hb.run H0 Hs1 Hs2 σ3 H' s3 _ _ r3 q3 ⟨fun Hs σ H s r q => ⟨Hs, s, r, q⟩, fun Hs σ H s v d r rv q => k.rt Hs σ H s v d (r1.back r) rv q, fun Hs σ H s r q => k.nx Hs σ H s (r1.back r) q, fun Hs σ H s r q => ⟨Hs, s, r, q⟩, fun Hs σ H s r q => k.ex Hs σ H s (r1.back r) q⟩
  · rw [List.drop_length] at q
    exact k.nx Hs σ H s (r1.back r) q
def dWhile (c : DB) (b : DSt) : DSt := fun E s => ∃ W : Nat → S → Prop, (∃ m, W m s) ∧ ∀ m s, W m s → c s fun k s1 => if k = true then b { E with nx := fun s' => ∃ m', m' < m ∧ W m' s', ct := fun s' => ∃ m', m' < m ∧ W m' s', bk := E.nx } s1 else E.nx s1
theorem simS_while {tt : TT} {c : DB} (hc : SimT C tt c) (hb : SimS C cat ts a) : SimS C cat (tWhile tt ts) (dWhile c a) := by
  refine ⟨fun H0 S0 Hs σ H s E D' r q k => ?_⟩
  obtain ⟨W, ⟨m0, w0⟩, turn⟩ := q
  refine ⟨fun m σ H => ∃ Hs s, R C H0 S0 Hs σ H s ∧ W m s, ⟨m0, Hs, s, r, w0⟩, fun m σ H ⟨Hs, s, r, w⟩ => ?_⟩
  refine hc.run H0 S0 Hs σ H s _ _ r (turn m s w) fun Hs1 H1 c s1 g1 r1 q1 => ?_
  cases c with
  | true =>
    refine ifp rfl ⟨fun σ' H' => ∃ m', m' < m ∧ ∃ Hs s, R C H0 S0 Hs σ' H' s ∧ W m' s, fun _ _ h => h, ?_⟩
    rw [if_pos rfl] at q1
    exact hb.run H0 S0 Hs1 σ H1 s1 _ _ r1 q1 ⟨fun Hs σ H s r ⟨m', h1, h2⟩ => ⟨m', h1, Hs, s, r, h2⟩, k.rt, k.nx, fun Hs σ H s r ⟨m', h1, h2⟩ => ⟨m', h1, Hs, s, r, h2⟩, k.ex⟩
  | false => exact ifn Bool.false_ne_true (k.nx Hs1 σ H1 s1 r1 (by simpa using q1))
/-- a list or dict of the def's own goes into the still part from here on -/
theorem R.still {H0 S0 Hs : Hp} {σ : L2.St} {H : Hp} {s : S} {i : Nat} {M' : List Nat} (r : R C H0 S0 Hs σ H s) (hM : ∀ j, j ∈ C.M ↔ j = i ∨ j ∈ M') (hn : i ∉ M') (hb : i ∉ C.bs) : ∃ Hs', R { C with M := M' } H0 S0 Hs' σ H s := by
  have hi : i ∈ C.M := (hM i).mpr (.inl rfl)
  have br : ∀ b, b ∈ C.bor → (∃ j, j ∈ C.bs ∧ j ∈ M' ∧ σ[j]? = some (some (.ref b))) ∧ H0 b ≠ none := fun b hb' => by
    obtain ⟨⟨j, b1, b2, b3⟩, b4⟩ := r.br b hb'
    exact ⟨⟨j, b1, ((hM j).mp b2).resolve_left (fun z => hb (by rw [← z]; exact b1)), b3⟩, b4⟩
  by_cases hl : ∃ d, s.δ[i]? = some (some d)
  · obtain ⟨d, e⟩ := hl
    obtain ⟨x, u, e1, e2, e3, e4, e5⟩ := r.mt i d e hi
    have e5 : H0 x = none := by
      rcases e5 with e5 | e5
      · exact e5
      · obtain ⟨⟨j, b1, b2, b3⟩, _⟩ := r.br x e5
        exact absurd (by rw [← r.sep j i x b2 hi b3 e1]; exact b1) hb
    have sm : Same Hs (L2.upd Hs x u) := same_upd e3
    refine ⟨L2.upd Hs x u, r.len, fun b o q => ?_, fun j d' q m => ?_, fun j d' q m => ?_, fun j m q => r.dead j ((hM j).mpr (.inr m)) q, fun j l y m1 m2 => r.sep j l y ((hM j).mpr (.inr m1)) ((hM l).mpr (.inr m2)), fun p c q => ?_, br, r.s0.trans sm, r.h0, fun b q1 q2 => ?_⟩
    · by_cases z : b = x
      · subst z; rw [upd_same] at q; cases q; exact e2
      · rw [upd_ne z] at q; exact r.sub _ _ q
    · by_cases hj : j = i
      · subst hj
        rw [e] at q
        cases q
        exact ⟨_, e1, (e4.mono sm).rp upd_same⟩
      · obtain ⟨v, f1, f2⟩ := r.slot j d' q (fun z => ((hM j).mp z).elim hj m)
        exact ⟨v, f1, Rp.mono sm f2⟩
    · obtain ⟨y, w, f2, f3, f4, f5, f6⟩ := r.mt j d' q ((hM j).mpr (.inr m))
      refine ⟨y, w, f2, f3, ?_, f5.mono sm, f6⟩
      rw [upd_ne (fun z => by subst z; exact hn ((r.sep j i y ((hM j).mpr (.inr m)) hi f2 e1) ▸ m))]
      exact f4
    · obtain ⟨f1, f2, f3, f4, f5, f6, f7, f8⟩ := r.pn p c q
      refine ⟨f1, f2.mono sm (Same.refl _), ?_, f4, f5, f6, fun z => f7 ((hM _).mpr (.inr z)), f8⟩
      rw [upd_ne (fun z => f4 (by rw [z]; exact e5))]
      exact f3
    · by_cases z : b = x
      · subst z; exact e5
      · rw [upd_ne z] at q2; exact r.new b q1 q2
  · refine ⟨Hs, r.len, r.sub, fun j d' q m => ?_, fun j d' q m => r.mt j d' q ((hM j).mpr (.inr m)), fun j m q => r.dead j ((hM j).mpr (.inr m)) q, fun j l y m1 m2 => r.sep j l y ((hM j).mpr (.inr m1)) ((hM l).mpr (.inr m2)), fun p c q => ?_, br, r.s0, r.h0, r.new⟩
    · exact r.slot j d' q (fun z => ((hM j).mp z).elim (fun e => hl ⟨d', by rw [← e]; exact q⟩) m)
    · obtain ⟨f1, f2, f3, f4, f5, f6, f7, f8⟩ := r.pn p c q
      exact ⟨f1, f2, f3, f4, f5, f6, fun z => f7 ((hM _).mpr (.inr z)), f8⟩
end

/-! ### comprehensions -/
def wipeL (δ : List (Option D)) : List Nat → List (Option D)
  | [] => δ
  | v :: vs => (wipeL δ vs).set v none
def wipeS (s : S) (vs : List Nat) : S := { s with δ := wipeL s.δ vs }
theorem wipeL_length (δ : List (Option D)) : ∀ vs : List Nat, (wipeL δ vs).length = δ.length
  | [] => rfl
  | v :: vs => by unfold wipeL; rw [List.length_set, wipeL_length δ vs]
theorem wipeL_out {δ : List (Option D)} {i : Nat} : ∀ {vs : List Nat}, i ∉ vs → (wipeL δ vs)[i]? = δ[i]?
  | [], _ => rfl
  | v :: vs, h => by
    unfold wipeL
    rw [List.mem_cons, not_or] at h
    rw [List.getElem?_set_ne (Ne.symm h.1)]
    exact wipeL_out h.2
theorem wipeL_in {δ : List (Option D)} {i : Nat} : ∀ {vs : List Nat}, i ∈ vs → ∀ d, (wipeL δ vs)[i]? ≠ some (some d)
  | v :: vs, h, d => by
    unfold wipeL
    by_cases hv : v = i
    · subst hv
      intro q
      have il : v < (wipeL δ vs).length := by
        have := (List.getElem?_eq_some_iff.mp q).1
        simpa using this
      rw [List.getElem?_set_self il] at q
      cases q
    · rw [List.getElem?_set_ne hv]
      exact wipeL_in ((List.mem_cons.mp h).resolve_left (Ne.symm hv)) d
theorem wipe_eq {σ σ' : L2.St} {vs : List Nat} (hl : σ'.length = σ.length) (h : ∀ j, j ∉ vs → σ'[j]? = σ[j]?) : wipe σ' vs = wipe σ vs := by
  apply List.ext_getElem?
  intro i
  by_cases hi : i ∈ vs
  · have z : ∀ (τ : L2.St), i < τ.length → (wipe τ vs)[i]? = some none := fun τ ht => by
      have hl : i < (wipe τ vs).length := by rw [wipe_length]; exact ht
      rw [List.getElem?_eq_getElem hl]
      cases q : (wipe τ vs)[i] with
      | none => rfl
      | some v =>
        have := wipe_some (σ := τ) (vs := vs) (i := i) (x := v) (by rw [List.getElem?_eq_getElem hl, q])
        exact absurd hi this.2
    by_cases hx : i < σ.length
    · rw [z σ hx, z σ' (by rw [hl]; exact hx)]
    · rw [List.getElem?_eq_none (by rw [wipe_length, hl]; omega), List.getElem?_eq_none (by rw [wipe_length]; omega)]
  · rw [wipe_out hi, wipe_out hi]
    exact h i hi
section
variable {C : Cf} {cat : Cat} {te ta tb : TE} {t da db : DT} {ca cb : Cat}
theorem R.wipe {H0 S0 Hs : Hp} {σ : L2.St} {H : Hp} {s : S} {vs : List Nat} (r : R C H0 S0 Hs σ H s) (hM : ∀ v ∈ vs, v ∉ C.M) (hp : ∀ v ∈ vs, v ≠ C.ps) : R C H0 S0 Hs (L2.wipe σ vs) H (wipeS s vs) := by
  have out : ∀ j, j ∈ C.M → j ∉ vs := fun j m z => hM j z m
  have e1 : ∀ j, j ∉ vs → (wipeS s vs).δ[j]? = s.δ[j]? := fun j h => wipeL_out h
  refine ⟨by rw [wipe_length]; exact r.len.trans (wipeL_length s.δ vs).symm, r.sub, fun j d q m => ?_, fun j d q m => ?_, fun j m q => ?_, fun j l y m1 m2 q1 q2 => ?_, fun p c q => ?_, fun b hb => ?_, r.s0, r.h0, r.new⟩
  · by_cases hj : j ∈ vs
    · exact absurd q (wipeL_in hj d)
    · rw [e1 j hj] at q
      rw [wipe_out hj]
      exact r.slot j d q m
  · rw [e1 j (out j m)] at q
    rw [wipe_out (out j m)]
    exact r.mt j d q m
  · rw [e1 j (out j m)] at q
    rw [wipe_out (out j m)]
    exact r.dead j m q
  · rw [wipe_out (out j m1)] at q1
    rw [wipe_out (out l m2)] at q2
    exact r.sep j l y m1 m2 q1 q2
  · obtain ⟨f1, f2, f3, f4, f5, f6, f7⟩ := r.pn p c q
    have hn : C.ps ∉ vs := fun z => hp _ z rfl
    exact ⟨by rw [wipe_out hn]; exact f1, f2, f3, f4, f5, by rw [e1 _ hn]; exact f6, f7⟩
  · obtain ⟨⟨j, b1, b2, b3⟩, b4⟩ := r.br b hb
    exact ⟨⟨j, b1, b2, by rw [wipe_out (out j b2)]; exact b3⟩, b4⟩
theorem R.unwipe {H0 S0 Hs : Hp} {σ : L2.St} {H : Hp} {s : S} {vs : List Nat} (r : R C H0 S0 Hs (L2.wipe σ vs) H s) (hM : ∀ v ∈ vs, v ∉ C.M) (hp : ∀ v ∈ vs, v ≠ C.ps) (hn : ∀ v ∈ vs, ∀ d, s.δ[v]? ≠ some (some d)) : R C H0 S0 Hs σ H s := by
  have out : ∀ j, j ∈ C.M → j ∉ vs := fun j m z => hM j z m
  refine ⟨by rw [← wipe_length σ vs]; exact r.len, r.sub, fun j d q m => ?_, fun j d q m => ?_, fun j m q => ?_, fun j l y m1 m2 q1 q2 => ?_, fun p c q => ?_, fun b hb => ?_, r.s0, r.h0, r.new⟩
  · by_cases hj : j ∈ vs
    · exact absurd q (hn j hj d)
    · have := r.slot j d q m
      rw [wipe_out hj] at this
      exact this
  · have := r.mt j d q m
    rw [wipe_out (out j m)] at this
    exact this
  · have := r.dead j m q
    rw [wipe_out (out j m)] at this
    exact this
  · rw [← wipe_out (vs := vs) (out j m1)] at q1
    rw [← wipe_out (vs := vs) (out l m2)] at q2
    exact r.sep j l y m1 m2 q1 q2
  · obtain ⟨f1, f⟩ := r.pn p c q
    rw [wipe_out (fun z => hp _ z rfl)] at f1
    exact ⟨f1, f⟩
  · obtain ⟨⟨j, b1, b2, b3⟩, b4⟩ := r.br b hb
    rw [wipe_out (out j b2)] at b3
    exact ⟨⟨j, b1, b2, b3⟩, b4⟩
theorem Go.own {σ σ' : L2.St} {Hs H Hs' H' : Hp} (g : Go C σ Hs H Hs' H') (h : ∀ b, Own C σ b → Own C σ' b) : Go C σ' Hs H Hs' H' :=
  ⟨g.st, fun b o e n m => g.kp b o e (fun z => n (h b z)) m, g.th, g.nw⟩
theorem own_of {σ σ' : L2.St} {vs : List Nat} (hM : ∀ v ∈ vs, v ∉ C.M) (h : ∀ j, j ∉ vs → σ'[j]? = σ[j]?) : ∀ b, Own C σ' b → Own C σ b := fun b ⟨i, m, e⟩ => ⟨i, m, by rw [← h i (fun z => hM i z m)]; exact e⟩
theorem R.updF {H0 S0 Hs : Hp} {σ : L2.St} {H : Hp} {s : S} {x : Addr} {o : HO} (r : R C H0 S0 Hs σ H s) (h1 : Hs x = none) (h2 : H0 x = none) (h3 : ¬ Own C σ x) : R C H0 S0 Hs σ (L2.upd H x o) s := by
  have sm : ∀ b u, b ≠ x → H b = some u → L2.upd H x o b = some u := fun b u n q => by rw [upd_ne n]; exact q
  refine ⟨r.len, fun b u q => sm b u (fun z => by subst z; rw [h1] at q; cases q) (r.sub b u q), r.slot, fun j d q m => ?_, r.dead, r.sep, fun p c q => ?_, r.br, r.s0, fun b u n q => sm b u (fun z => by subst z; rw [h2] at q; cases q) (r.h0 b u n q), r.new⟩
  · obtain ⟨y, w, f2, f3, f4⟩ := r.mt j d q m
    exact ⟨y, w, f2, sm y _ (fun z => h3 ⟨j, m, by rw [← z]; exact f2⟩) f3, f4⟩
  · obtain ⟨f1, f2, f3, f4, f5, f6⟩ := r.pn p c q
    exact ⟨f1, f2.but (q := x) (fun b u n q => sm b u n q) (fun z => f4 (z ▸ h2)) (fun z => f5 (z ▸ h2)), f3, f4, f5, f6⟩
def lcD (g : D → S → (S → Prop) → Prop) (c : DB) (e : DT) (vs : List Nat) (Q : List D → S → Prop) : List D → List D → S → Prop
  | [], acc, s => Q acc s
  | d :: ds, acc, s => g d s fun s1 => c s1 fun k s2 => if k = true then e s2 fun y s3 => lcD g c e vs Q ds (acc ++ [y]) (wipeS s3 vs) else lcD g c e vs Q ds acc (wipeS s2 vs)
def dLc (it : DI) (g : D → S → (S → Prop) → Prop) (c : DB) (e : DT) (vs : List Nat) : DT := fun s Q => it s fun items s1 => items.length ≤ sizeLine ∧ lcD g c e vs (fun acc s2 => Q (.list acc) s2) items [] (wipeS s1 vs)
def dYes : DB := fun s Q => Q true s
theorem simT_yes : SimT C tYes dYes := ⟨fun H0 S0 Hs σ H s Q Q' r q k => k Hs H true s Go.refl r q⟩
theorem Go.updF {σ : L2.St} {Hs H Hs' H' : Hp} {x : Addr} {o : HO} (g : Go C σ Hs H Hs' H') (h : H x = none) : Go C σ Hs H Hs' (L2.upd H' x o) := by
  refine ⟨g.st, fun b u q n m => ?_, fun b u q => ?_, g.nw⟩
  · rw [upd_ne (ne_of_none q h)]
    exact g.kp b u q n m
  · obtain ⟨u', h'⟩ := g.th b u q
    exact ⟨u', by rw [upd_ne (ne_of_none q h)]; exact h'⟩
theorem sim_lc {bw : Bool} {wi : TI} {it : DI} {tl vs : List Nat} {g : TG} {x : D → S → (S → Prop) → Prop} {tt : TT} {c : DB} (hi : SimI C bw wi it) (hg : SimG C bw tl g x) (ht : SimT C tt c) (he : Sim C ca te t) (hv : ∀ j, j ∈ tl → j ∈ vs) (hM : ∀ v ∈ vs, v ∉ C.M) (hp : ∀ v ∈ vs, v ≠ C.ps) :
    Sim C .F (tLc wi g tt te vs) (dLc it x c t vs) := by
  refine ⟨fun H0 S0 Hs σ H s Q Q' r q k => hi.run H0 S0 Hs σ H s _ _ r q fun Hs1 H1 J items s1 g1 r1 io q1 => fun L nL => ?_⟩
  obtain ⟨hz, q1⟩ := q1
  obtain ⟨G, Y, W, hG, hY⟩ := io
  obtain ⟨l0, l1, l2, l3⟩ := r1.free0 nL
  have ow : ∀ b, Own C (L2.wipe σ vs) b → Own C σ b := own_of hM fun j h => wipe_out h
  have lw : ¬ Own C (L2.wipe σ vs) L := fun z => l2 (ow L z)
  refine lc_it W (fun i H => ∃ Hs s accV accD, R C H0 Hs1 Hs (L2.wipe σ vs) H s ∧ H L = some (.lst accV) ∧ Hs L = none ∧ RpAll C.K Hs accV accD ∧ accD.length ≤ i ∧ Go C σ Hs1 H1 Hs H ∧ (∀ v ∈ vs, ∀ d, s.δ[v]? ≠ some (some d)) ∧ lcD x c t vs (fun acc s2 => Q (.list acc) s2) (items.drop i) accD s)
    ⟨Hs1, wipeS s1 vs, [], [], ((r1.laid nL).wipe hM hp).base, upd_same, l1, .nil, Nat.le_refl _, Go.laid nL, fun v m d => wipeL_in m d, q1⟩ (fun i H _ ⟨Hs, s, _, _, r, _⟩ => hG H (r.s0.trans r.sub)) (fun i v H H' hi' ⟨Hs, s, accV, accD, r, hL, hsL, ra, la, ga, _, q⟩ y => ?_) (fun H ⟨Hs, s, accV, accD, r, hL, hsL, ra, la, ga, hn, q⟩ => ?_)
  · obtain ⟨Hs2, d, e1, r2, rp, g2⟩ := hY i H v H' H0 Hs1 Hs (L2.wipe σ vs) s hi' r r.s0 y
    rw [List.drop_eq_getElem_cons hi'] at q
    have ed : items[i] = d := by
      rw [List.getElem?_eq_getElem hi'] at e1
      exact Option.some.inj e1
    rw [ed] at q
    have hL2 := g2.kp L _ hL lw l3
    have hsL2 := none_of_new g2.nw hsL hL
    refine hg.run H0 Hs1 Hs2 (L2.wipe σ vs) H' s v d _ _ r2 rp q fun σ3 s3 r3 len3 out3 q3 => ?_
    have out3' : ∀ j, j ∉ vs → σ3[j]? = σ[j]? := fun j h => (out3 j (fun z => h (hv j z))).trans (wipe_out h)
    have wq : L2.wipe σ3 vs = L2.wipe σ vs := wipe_eq (by rw [len3, wipe_length]) out3'
    have ow3 : ∀ b, Own C σ3 b → Own C σ b := own_of hM out3'
    have lw3 : ¬ Own C σ3 L := fun z => l2 (ow3 L z)
    refine ⟨wq, ht.run H0 Hs1 Hs2 σ3 H' s3 _ _ r3 q3 fun Hs4 H4 b4 s4 g4 r4 q4 => ?_⟩
    have hL4 := g4.kp L _ hL2 lw3 l3
    have hsL4 := none_of_new g4.nw hsL2 hL2
    have ga4 : Go C σ Hs1 H1 Hs4 H4 := ga.trans ((g2.own ow).trans (g4.own ow3))
    cases b4 with
    | true =>
      refine ifp rfl (he.toE.run H0 Hs1 Hs4 σ3 H4 s4 _ _ r4 (by simpa using q4) fun Hs5 H5 w dw s5 g5 r5 v5 q5 => ?_)
      have hL5 := g5.kp L _ hL4 lw3 l3
      have hsL5 := none_of_new g5.nw hsL4 hL4
      have ra5 := RpAll.mono (g2.st.trans (g4.st.trans g5.st)) ra
      refine ⟨accV, hL5, by rw [ra5.len]; omega, Hs5, wipeS s5 vs, _, accD ++ [dw], ?_, upd_same, hsL5, ra5.app (.cons v5 .nil), by rw [List.length_append]; show accD.length + 1 ≤ i + 1; omega, (ga4.trans (g5.own ow3)).updF nL, fun v m d => wipeL_in m d, q5⟩
      rw [← wq]
      exact (r5.updF hsL5 l0 lw3).wipe hM hp
    | false =>
      refine ifn Bool.false_ne_true ⟨Hs4, wipeS s4 vs, accV, accD, ?_, hL4, hsL4, RpAll.mono (g2.st.trans g4.st) ra, by omega, ga4, fun v m d => wipeL_in m d, by simpa using q4⟩
      rw [← wq]
      exact r4.wipe hM hp
  · rw [List.drop_length] at q
    refine k Hs H _ (.list accD) s (g1.trans ga) (r1.back (r.unwipe hM hp hn)) (Val.mkC ⟨_, hL, hsL, l0, g1.back L nL, .lst ra, l2⟩) q
end
theorem rvNon {K : PySem.W.Frag} {H0 Hs H : Hp} (cat : Cat) : RV K H0 Hs H cat .non .none := by
  cases cat with
  | E => exact Rp.non
  | F => simp only [RV, isC, if_neg Bool.false_ne_true]; exact Rp.non
/-! ### the end of a body: a list of the def's own may go into the still part -/
structure SimE (C : Cf) (cat : Cat) (ts : TS) (t : DSt) : Prop where
  run : ∀ (H0 S0 Hs : Hp) (σ : L2.St) (H : Hp) (s : S) (E : DEnds) (D' : Ends), R C H0 S0 Hs σ H s → t E s →
    (∀ M' Hs σ H s, R { C with M := M' } H0 S0 Hs σ H s → E.nx s → D'.nx σ H) → (∀ M' Hs σ H s v d, R { C with M := M' } H0 S0 Hs σ H s → RV C.K H0 Hs H cat v d → E.rt d s → D'.rt v H) →
    (∀ Hs σ H s, R C H0 S0 Hs σ H s → E.bk s → D'.bk σ H) → (∀ Hs σ H s, R C H0 S0 Hs σ H s → E.ct s → D'.ct σ H) → (∀ M' Hs σ H s, R { C with M := M' } H0 S0 Hs σ H s → E.ex → C.ex H) → ts D' σ H
section
variable {C : Cf} {cat : Cat} {ts us : TS} {a b : DSt}
theorem SimS.e (h : SimS C cat ts a) : SimE C cat ts a :=
  ⟨fun H0 S0 Hs σ H s E D' r q k1 k2 k3 k4 k5 => h.run H0 S0 Hs σ H s E D' r q ⟨fun Hs σ H s r q => k1 C.M Hs σ H s r q, fun Hs σ H s v d r rv q => k2 C.M Hs σ H s v d r rv q, k3, k4, fun Hs σ H s r q => k5 C.M Hs σ H s r q⟩⟩
theorem simE_seq (ha : SimS C cat ts a) (hb : SimE C cat us b) : SimE C cat (tSeq ts us) (dSeq a b) :=
  ⟨fun H0 S0 Hs σ H s E D' r q k1 k2 k3 k4 k5 => ha.run H0 S0 Hs σ H s _ _ r q ⟨fun Hs σ H s r q => hb.run H0 S0 Hs σ H s E D' r q k1 k2 k3 k4 k5, fun Hs σ H s v d r rv q => k2 C.M Hs σ H s v d r rv q, k3, k4, fun Hs σ H s r q => k5 C.M Hs σ H s r q⟩⟩
/-- from here on slot i is still; behind this no break or continue -/
theorem simE_still (i : Nat) (M' : List Nat) (hM : ∀ j, j ∈ C.M ↔ j = i ∨ j ∈ M') (hn : i ∉ M') (hb : i ∉ C.bs) (h : SimE { C with M := M' } cat us b) : SimE C cat us (fun E s => b { E with bk := fun _ => False, ct := fun _ => False } s) := by
  refine ⟨fun H0 S0 Hs σ H s E D' r q k1 k2 k3 k4 k5 => ?_⟩
  obtain ⟨Hs', r'⟩ := r.still hM hn hb
  exact h.run H0 S0 Hs' σ H s _ D' r' q (fun M2 Hs σ H s r q => k1 M2 Hs σ H s r q) (fun M2 Hs σ H s v d r rv q => k2 M2 Hs σ H s v d r rv q) (fun _ _ _ _ _ z => z.elim) (fun _ _ _ _ _ z => z.elim) (fun M2 Hs σ H s r q => k5 M2 Hs σ H s r q)
end

/-! ### a def's promise from its body -/
def start' (n : Nat) (ds : List D) : List (Option D) := ds.map some ++ List.replicate (n - ds.length) none
section
variable {P : Program} {w : World} {K : PySem.W.Frag} {mg : Str → Option Value} {base : Heap}
theorem start_slot {vs : List V} {ds : List D} {H : Hp} (N : List Str) (h : RpAll K H vs ds) : (L2.start N vs).length = (start' N.length ds).length ∧ ∀ (i : Nat) (d : D), (start' N.length ds)[i]? = some (some d) → ∃ v, (L2.start N vs)[i]? = some (some v) ∧ Rp K H v d := by
  refine ⟨?_, fun i d e => ?_⟩
  · unfold L2.start start'
    rw [List.length_append, List.length_append, List.length_map, List.length_map, List.length_replicate, List.length_replicate, h.len]
  · unfold start' at e
    by_cases hi : i < ds.length
    · rw [List.getElem?_append_left (by simpa using hi), List.getElem?_map] at e
      cases q : ds[i]? with
      | none => rw [q] at e; cases e
      | some d' =>
        rw [q] at e
        cases e
        obtain ⟨v, e1, e2⟩ := h.get q
        refine ⟨v, ?_, e2⟩
        unfold L2.start
        rw [List.getElem?_append_left (by rw [List.length_map, h.len]; exact hi), List.getElem?_map, e1]
        rfl
    · rw [List.getElem?_append_right (by simpa using hi)] at e
      rw [List.getElem?_replicate] at e
      split at e
      · cases e
      · cases e
theorem start_none {vs : List V} (N : List Str) {i : Nat} (h1 : vs.length ≤ i) (h2 : i < N.length) : (L2.start N vs)[i]? = some none := by
  unfold L2.start
  rw [List.getElem?_append_right (by simpa using h1), List.getElem?_replicate, List.length_map, if_pos (by omega)]
/-- a def without a pen -/
theorem Fn.ofNE {x : Str} {st : Stmt} {f0 : Addr} {fd0 : FuncData} {N ps : List Str} {k n : Nat} {cat : Cat} {M : List Nat} {F : DF} (D' : Fun K x x st f0 fd0) (S' : FnScope N ps (defScope st)) (hn : ps.length = n) (hM : ∀ i ∈ M, n ≤ i ∧ i < N.length)
    (hbody : ∀ (f : Addr) (cdv : Value) (A : Around) (outer : List Env) (s : Shared) (H : Hp) (E : XK), Rm k (A.deeper (envOfC x (defScope st) s.heap.objs.size f cdv)) →
      ∃ t d, PSs (cxOf CX0 P w K mg base N x (defScope st) f cdv A outer s H E).nox (defBody st) t ∧ SimE { K := K, pen := none, ps := 1000, M := M } cat t d ∧ ∀ ds (Q : D → Prop), ds.length = n → F ds Q → d { nx := fun _ => Q .none, rt := fun z _ => Q z } { δ := start' N.length ds, n := 0 }) :
    FnG P w K mg base (k + 1) f0 fd0 ps (spN K n cat F) := by
  refine Fn.mk D' S' (fun vs H Q E h => ?_) (fun f cdv A outer s H vs Q E hr h => ?_)
  · obtain ⟨Hs, ds, Q0, _, h2, h3, _⟩ := h
    rw [h2.len, h3, hn]
  obtain ⟨Hs, ds, Q0, h1, h2, h3, h4, h5⟩ := h
  obtain ⟨t, d, ht, hs, hd⟩ := hbody f cdv A outer s H E hr
  refine ⟨t, ht, ?_⟩
  obtain ⟨sl, ss⟩ := start_slot N h2
  refine hs.run H Hs Hs (L2.start N vs) H _ { nx := fun _ => Q0 .none, rt := fun z _ => Q0 z } _ ?_ (hd ds Q0 h3 h4) (fun M' Hs' σ' H' s' r q => ?_) (fun M' Hs' σ' H' s' v dd r rv q => ?_) (fun _ _ _ _ _ q => q.elim) (fun _ _ _ _ _ q => q.elim) (fun _ _ _ _ _ _ q => q.elim)
  · refine ⟨sl, h1, fun i dd e m => ss i dd e, fun i dd e m => ?_, fun i m e => start_none N (by rw [h2.len, h3]; exact (hM i m).1) (hM i m).2, fun i j a m1 m2 e1 e2 => ?_, fun p c e => (nomatch e), fun b hb => (nomatch hb), Same.refl _, fun b o _ e => e, fun b e1 e2 => absurd e1 e2⟩
    · obtain ⟨v, e1, _⟩ := ss i dd e
      rw [start_none N (by rw [h2.len, h3]; exact (hM i m).1) (hM i m).2] at e1
      cases e1
    · rw [start_none N (by rw [h2.len, h3]; exact (hM i m1).1) (hM i m1).2] at e1
      cases e1
  · exact h5 .none Hs' H' .non q r.s0 r.sub (fun b o e => r.h0 b o (fun z => z.elim (fun ⟨_, z⟩ => nomatch z) (fun z => nomatch z)) e) r.new (rvNon cat)
  · exact h5 dd Hs' H' v q r.s0 r.sub (fun b o e => r.h0 b o (fun z => z.elim (fun ⟨_, z⟩ => nomatch z) (fun z => nomatch z)) e) r.new rv
theorem Ok.ofNE {x : Str} {st : Stmt} {N ps : List Str} {k n : Nat} {cat : Cat} {M : List Nat} {F : DF} (D' : Df K mg x st ps) (S' : FnScope N ps (defScope st)) (hn : ps.length = n) (hM : ∀ i ∈ M, n ≤ i ∧ i < N.length)
    (hbody : ∀ (f : Addr) (cdv : Value) (A : Around) (outer : List Env) (s : Shared) (H : Hp) (E : XK), Rm k (A.deeper (envOfC x (defScope st) s.heap.objs.size f cdv)) →
      ∃ t d, PSs (cxOf CX0 P w K mg base N x (defScope st) f cdv A outer s H E).nox (defBody st) t ∧ SimE { K := K, pen := none, ps := 1000, M := M } cat t d ∧ ∀ ds (Q : D → Prop), ds.length = n → F ds Q → d { nx := fun _ => Q .none, rt := fun z _ => Q z } { δ := start' N.length ds, n := 0 }) :
    Ok P w K mg base (k + 1) x ps (spN K n cat F) := by
  obtain ⟨f, fd, F', b, g⟩ := D'
  exact ⟨f, fd, g, F'.kp, b, Fn.ofNE F' S' hn hM hbody⟩
/-- the same, no list of its own goes still -/
theorem Ok.ofN {x : Str} {st : Stmt} {N ps : List Str} {k n : Nat} {cat : Cat} {M : List Nat} {F : DF} (D' : Df K mg x st ps) (S' : FnScope N ps (defScope st)) (hn : ps.length = n) (hM : ∀ i ∈ M, n ≤ i ∧ i < N.length)
    (hbody : ∀ (f : Addr) (cdv : Value) (A : Around) (outer : List Env) (s : Shared) (H : Hp) (E : XK), Rm k (A.deeper (envOfC x (defScope st) s.heap.objs.size f cdv)) →
      ∃ t d, PSs (cxOf CX0 P w K mg base N x (defScope st) f cdv A outer s H E).nox (defBody st) t ∧ SimS { K := K, pen := none, ps := 1000, M := M } cat t d ∧ ∀ ds (Q : D → Prop), ds.length = n → F ds Q → d { nx := fun _ => Q .none, rt := fun z _ => Q z } { δ := start' N.length ds, n := 0 }) :
    Ok P w K mg base (k + 1) x ps (spN K n cat F) := by
  exact Ok.ofNE D' S' hn hM fun f cdv A outer s H E hr => by
    obtain ⟨t, d, h1, h2, h3⟩ := hbody f cdv A outer s H E hr
    exact ⟨t, d, h1, h2.e, h3⟩
/-- a def with a pen, its first parameter -/
theorem Ok.ofPE {x : Str} {st : Stmt} {N ps : List Str} {k n : Nat} {cat : Cat} {M : List Nat} {F : DFP} (D' : Df K mg x st ps) (S' : FnScope N ps (defScope st)) (hn : ps.length = n + 1) (hM : ∀ i ∈ M, n + 1 ≤ i ∧ i < N.length) (hN : 0 < N.length)
    (hbody : ∀ (f : Addr) (cdv : Value) (A : Around) (outer : List Env) (s : Shared) (H : Hp) (E : XK) (p c : Addr), Rm k (A.deeper (envOfC x (defScope st) s.heap.objs.size f cdv)) →
      ∃ t d, PSs (cxOf CX0 P w K mg base N x (defScope st) f cdv A outer s H E).nox (defBody st) t ∧ SimE { K := K, pen := some (p, c), ps := 0, M := M } cat t d ∧ ∀ ds m (Q : D → Nat → Prop), ds.length = n → F ds m Q → d { nx := fun s => Q .none s.n, rt := fun z s => Q z s.n } { δ := none :: start' (N.length - 1) ds, n := m }) :
    Ok P w K mg base (k + 1) x ps (spP K n cat F) := by
  refine Ok.mk D' S' (fun vs H Q E h => ?_) (fun f cdv A outer s H vs Q E hr h => ?_)
  · obtain ⟨Hs, p, c, m, vs', ds, Q0, rfl, _, _, _, h2, h3, _⟩ := h
    rw [List.length_cons, h2.len, h3, hn]
  obtain ⟨Hs, p, c, m, vs', ds, Q0, rfl, pe, hsp, h1, h2, h3, h4, h5⟩ := h
  obtain ⟨t, d, ht, hs, hd⟩ := hbody f cdv A outer s H E p c hr
  refine ⟨t, ht, ?_⟩
  obtain ⟨N0, N', rfl⟩ : ∃ a b, N = a :: b := by
    cases N with
    | nil => exact absurd hN (by simp)
    | cons a b => exact ⟨a, b, rfl⟩
  obtain ⟨sl, ss⟩ := start_slot N' h2
  have es : L2.start (N0 :: N') (V.ref p :: vs') = some (.ref p) :: L2.start N' vs' := by
    unfold L2.start
    rw [List.map_cons, List.length_cons, List.length_cons, Nat.add_sub_add_right]
    rfl
  have en : (N0 :: N').length - 1 = N'.length := by rw [List.length_cons]; rfl
  rw [en] at hd
  have nn : ∀ i, i ∈ M → (some (V.ref p) :: L2.start N' vs')[i]? = some none := fun i m => by
    have := hM i m
    rw [List.length_cons] at this
    obtain ⟨j, rfl⟩ : ∃ j, i = j + 1 := ⟨i - 1, by omega⟩
    show (L2.start N' vs')[j]? = some none
    exact start_none N' (by rw [h2.len, h3]; omega) (by omega)
  obtain ⟨a0, r0, ep, _⟩ := pe.pen
  obtain ⟨ns, ec⟩ := pe.cells
  rw [es]
  refine hs.run H Hs Hs _ H _ { nx := fun s => Q0 .none s.n, rt := fun z s => Q0 z s.n } _ ?_ (hd ds m Q0 h3 h4) (fun M' Hs' σ' H' s' r q => ?_) (fun M' Hs' σ' H' s' v dd r rv q => ?_) (fun _ _ _ _ _ q => q.elim) (fun _ _ _ _ _ q => q.elim) (fun _ _ _ _ _ _ q => q.elim)
  · refine ⟨by rw [List.length_cons, sl]; rfl, h1, fun i dd e _ => ?_, fun i dd e m => ?_, fun i m e => nn i m, fun i j a m1 m2 e1 e2 => ?_, fun p' c' e => ?_, fun b hb => (nomatch hb), Same.refl _, fun b o _ e => e, fun b e1 e2 => absurd e1 e2⟩
    · cases i with
      | zero => cases e
      | succ j => exact ss j dd e
    · cases i with
      | zero => cases e
      | succ j =>
        obtain ⟨v, e1, _⟩ := ss j dd e
        have := nn (j + 1) m
        have : (L2.start N' vs')[j]? = some none := this
        rw [this] at e1
        cases e1
    · rw [nn i m1] at e1
      cases e1
    · cases e
      exact ⟨rfl, pe, hsp, (by rw [ep]; simp), (by rw [ec]; simp), rfl, fun z => absurd (hM 0 z).1 (by omega), fun z => (nomatch z), fun z => (nomatch z)⟩
  · have ip : ∀ b, ¬ IsPen { K := K, pen := some (p, c), ps := 0, M := M' } b ↔ b ≠ p := fun b => ⟨fun h e => h (.inl ⟨c, by rw [e]⟩), fun h z => z.elim (fun ⟨c', e⟩ => h (by cases e; rfl)) (fun z => nomatch z)⟩
    obtain ⟨f1, f2, f3, _⟩ := r.pn p c rfl
    exact h5 .none s'.n Hs' H' .non q r.s0 r.sub (fun b o nb e => r.h0 b o ((ip b).mpr nb) e) r.new f3 f2 (rvNon cat)
  · have ip : ∀ b, ¬ IsPen { K := K, pen := some (p, c), ps := 0, M := M' } b ↔ b ≠ p := fun b => ⟨fun h e => h (.inl ⟨c, by rw [e]⟩), fun h z => z.elim (fun ⟨c', e⟩ => h (by cases e; rfl)) (fun z => nomatch z)⟩
    obtain ⟨f1, f2, f3, _⟩ := r.pn p c rfl
    exact h5 dd s'.n Hs' H' v q r.s0 r.sub (fun b o nb e => r.h0 b o ((ip b).mpr nb) e) r.new f3 f2 rv
/-- the same, no list of its own goes still -/
theorem Ok.ofP {x : Str} {st : Stmt} {N ps : List Str} {k n : Nat} {cat : Cat} {M : List Nat} {F : DFP} (D' : Df K mg x st ps) (S' : FnScope N ps (defScope st)) (hn : ps.length = n + 1) (hM : ∀ i ∈ M, n + 1 ≤ i ∧ i < N.length) (hN : 0 < N.length)
    (hbody : ∀ (f : Addr) (cdv : Value) (A : Around) (outer : List Env) (s : Shared) (H : Hp) (E : XK) (p c : Addr), Rm k (A.deeper (envOfC x (defScope st) s.heap.objs.size f cdv)) →
      ∃ t d, PSs (cxOf CX0 P w K mg base N x (defScope st) f cdv A outer s H E).nox (defBody st) t ∧ SimS { K := K, pen := some (p, c), ps := 0, M := M } cat t d ∧ ∀ ds m (Q : D → Nat → Prop), ds.length = n → F ds m Q → d { nx := fun s => Q .none s.n, rt := fun z s => Q z s.n } { δ := none :: start' (N.length - 1) ds, n := m }) :
    Ok P w K mg base (k + 1) x ps (spP K n cat F) := by
  exact Ok.ofPE D' S' hn hM hN fun f cdv A outer s H E p c hr => by
    obtain ⟨t, d, h1, h2, h3⟩ := hbody f cdv A outer s H E p c hr
    exact ⟨t, d, h1, h2.e, h3⟩
/-- the draws -/
structure TakeP (m : Int) (n : Nat) (Q : D → Nat → Prop) : Prop where
  hn : n ≤ penLim
  h0 : 0 < m
  h1 : m.natAbs < 2 ^ 9000
  k : ∀ r : Int, 0 ≤ r → r < m → Q (.int r) (n + 1)
def takeF : DFP := fun ds n Q => match ds with
  | [d] => (match d with
    | .int m => TakeP m n Q
    | _ => False)
  | _ => False
theorem ok_takeP {k : Nat} (h : Ok P w K mg base k "_law_take" ["_law_pen", "_law_many"] spTake) : Ok P w K mg base k "_law_take" ["_law_pen", "_law_many"] (spP K 1 .E takeF) := by
  refine h.imp fun vs H Q E h => ?_
  obtain ⟨Hs, p, c, m, vs', ds, Q0, rfl, pe, hsp, h1, h2, h3, h4, h5⟩ := h
  match vs', ds, h2 with
  | [v], [d], .cons hd .nil =>
    cases d <;> first | exact h4.elim | skip
    cases hd
    rename_i i
    obtain ⟨e1, e2, e3, e4⟩ := h4
    refine ⟨p, c, m, i, rfl, pe, e1, e2, e3, fun r H' r0 r1 bt pe' => ?_⟩
    refine h5 (.int r) (m + 1) Hs H' _ (e4 r r0 r1) (Same.refl _) (fun b o e => bt b o (fun z => by subst z; rw [hsp] at e; cases e) (h1 b o e)) bt (fun b q1 q2 => absurd q1 q2) hsp pe' (Rp.int r)
  | [], [], _ => exact h4.elim
  | _ :: _ :: _, _ :: _ :: _, _ => exact absurd h3 (by simp)
end

/-! ### words for the printed terms -/
section
variable {C : Cf}
theorem nm {i : Nat} (h : C.M.contains i = false) : i ∉ C.M := fun z => by
  have := List.contains_iff_mem.mpr z
  rw [h] at this
  cases this
theorem ym {i : Nat} (h : C.M.contains i = true) : i ∈ C.M := List.contains_iff_mem.mp h
theorem np {i : Nat} (h : (i == C.ps) = false) : i ≠ C.ps := fun z => by
  rw [z] at h
  simp at h
theorem nmv {vs : List Nat} (h : (vs.all fun v => !C.M.contains v) = true) : ∀ v ∈ vs, v ∉ C.M := fun v m => nm (by
  have := List.all_eq_true.mp h v m
  simpa using this)
theorem npv {vs : List Nat} (h : (vs.all fun v => !(v == C.ps)) = true) : ∀ v ∈ vs, v ≠ C.ps := fun v m => np (by
  have := List.all_eq_true.mp h v m
  simpa using this)
theorem inv' {ts vs : List Nat} (h : (ts.all fun v => vs.contains v) = true) : ∀ j, j ∈ ts → j ∈ vs := fun j m => by
  have := List.all_eq_true.mp h j m
  exact List.contains_iff_mem.mp this
theorem u65 {A : Around} {k : Nat} (hr : Room k A) : A.units + 65 < cLine := by
  have := hr.un
  omega
theorem isiK {X : Cx} (K : PySem.W.Frag) (eK : X.K = K) : CallR X (.builtin "isinstance") (rIsi K) := eK ▸ call_isi
theorem isiTK {X : Cx} (K : PySem.W.Frag) (eK : X.K = K) : CallR X (.builtin "isinstance") (rIsiT K) := eK ▸ call_isiT
theorem sumK {X : Cx} (K : PySem.W.Frag) (eK : X.K = K) (hc : X.calm = true) : CallR X (.builtin "sum") (rSum K) := eK ▸ cr_sum hc
theorem allK {X : Cx} (K : PySem.W.Frag) (eK : X.K = K) (hc : X.calm = true) : CallR X (.builtin "all") (rAll K) := eK ▸ cr_all hc
theorem anyK {X : Cx} (K : PySem.W.Frag) (eK : X.K = K) (hc : X.calm = true) : CallR X (.builtin "any") (rAny K) := eK ▸ cr_any hc
/-- list(range(..)) -/
theorem rg_all {K : PySem.W.Frag} {H : Hp} (lo hi : Int) : RpAll K H (rgV lo hi) (rgD lo (hi - lo).toNat) := by
  unfold rgV rgD
  generalize (hi - lo).toNat = n
  have : ∀ l : List Nat, RpAll K H (l.map fun i => V.int (lo + (i : Nat))) (l.map fun i => (PyData.int (lo + (i : Nat)) : D)) := fun l => by
    induction l with
    | nil => exact .nil
    | cons x l ih => exact .cons (.int _) ih
  exact this _
def dListRg1 (a : DT) : DT := fun s Q => a s fun d s1 => match d with
  | .int n => RgOk 0 n ∧ Q (.list (rgD 0 n.toNat)) s1
  | _ => False
theorem sim_listRg1 {te : TE} {t : DT} {ca : Cat} (h : Sim C ca te t) : Sim C .F (tLstRg (tRg1 te)) (dListRg1 t) := by
  refine ⟨fun H0 S0 Hs σ H s Q Q' r q k => h.run H0 S0 Hs σ H s _ _ r q fun Hs1 H1 v d s1 g1 r1 v1 q1 => ?_⟩
  cases d <;> first | exact q1.elim | skip
  rename_i n
  cases v1.int'
  have e : (n - 0).toNat = n.toNat := by omega
  refine ⟨n, rfl, q1.1, fun p np => k Hs1 _ _ (.list (rgD 0 n.toNat)) s1 (g1.trans (Go.laid np)) (r1.laid np) ((r1.newList np ?_).anew fun a e => g1.back a e) q1.2⟩
  rw [← e]
  exact rg_all 0 n
def dListRg2 (a b : DT) : DT := fun s Q => a s fun d s1 => b s1 fun e s2 => match d, e with
  | .int m, .int n => RgOk m n ∧ Q (.list (rgD m (n - m).toNat)) s2
  | _, _ => False
theorem sim_listRg2 {ta tb : TE} {da db : DT} {ca cb : Cat} (ha : Sim C ca ta da) (hb : Sim C cb tb db) : Sim C .F (tLstRg (tRg2 ta tb)) (dListRg2 da db) := by
  refine ⟨fun H0 S0 Hs σ H s Q Q' r q k => ha.run H0 S0 Hs σ H s _ _ r q fun Hs1 H1 v d s1 g1 r1 v1 q1 => hb.run H0 S0 Hs1 σ H1 s1 _ _ r1 q1 fun Hs2 H2 w e s2 g2 r2 v2 q2 => ?_⟩
  cases d <;> cases e <;> first | exact q2.elim | skip
  rename_i m n
  cases v1.int'
  cases v2.int'
  exact ⟨m, n, rfl, rfl, q2.1, fun p np => k Hs2 _ _ (.list (rgD m (n - m).toNat)) s2 ((g1.trans g2).trans (Go.laid np)) (r2.laid np) ((r2.newList np (rg_all m n)).anew fun a e => (g1.trans g2).back a e) q2.2⟩
end

/-! ### more words -/
theorem boot_isi : bootBuiltins "isinstance" = some (.builtin "isinstance") := by decide +kernel
theorem boot_len : bootBuiltins "len" = some (.builtin "len") := by decide +kernel
theorem boot_tuple : bootBuiltins "tuple" = some (.type "tuple") := by decide +kernel
theorem boot_list : bootBuiltins "list" = some (.type "list") := by decide +kernel
theorem boot_str : bootBuiltins "str" = some (.type "str") := by decide +kernel
theorem boot_int : bootBuiltins "int" = some (.type "int") := by decide +kernel
theorem boot_bool : bootBuiltins "bool" = some (.type "bool") := by decide +kernel
theorem boot_dict : bootBuiltins "dict" = some (.type "dict") := by decide +kernel
theorem boot_min : bootBuiltins "min" = some (.builtin "min") := by decide +kernel
theorem boot_max : bootBuiltins "max" = some (.builtin "max") := by decide +kernel
theorem boot_sum : bootBuiltins "sum" = some (.builtin "sum") := by decide +kernel
theorem boot_all : bootBuiltins "all" = some (.builtin "all") := by decide +kernel
theorem boot_any : bootBuiltins "any" = some (.builtin "any") := by decide +kernel
section
variable {C : Cf} {te ta tb : TE} {t da db : DT} {ca cb : Cat}
theorem nb {i : Nat} (h : C.bs.contains i = false) : i ∉ C.bs := fun z => by
  have := List.contains_iff_mem.mpr z
  rw [h] at this
  cases this
def dNeg (a : DT) : DT := fun s Q => a s fun d s1 => match d with
  | .int i => Q (.int (-i)) s1
  | _ => False
theorem sim_neg (h : Sim C ca te t) : Sim C .F (tUn (rU fun i => .int (-i)) te) (dNeg t) := by
  refine ⟨fun H0 S0 Hs σ H s Q Q' r q k => h.run H0 S0 Hs σ H s _ _ r q fun Hs1 H1 v d s1 g1 r1 v1 q1 => ?_⟩
  cases d <;> first | exact q1.elim | skip
  rename_i i
  cases v1.int'
  exact ⟨i, rfl, k Hs1 H1 _ (.int (-i)) s1 g1 r1 (Val.mkP (Rp.int _) rfl) q1⟩
/-- sep.join(xs) -/
def rJoinQ (K : PySem.W.Frag) : V → List V → Hp → VK → Prop := fun x xs H Q => ∃ a p, ∃ ys : List Str, x = .str a ∧ xs = [.ref p] ∧ (SqL K H p (ys.map V.str) ∨ SqT K H p (ys.map V.str)) ∧
    (ys.map (·.length)).sum + ys.length * a.length ≤ 16777216 ∧ Q (.str (Txt.join a ys)) H
theorem joinK {X : Cx} (K : PySem.W.Frag) (eK : X.K = K) {o e : Expr} {to te : TE} {apos pos : Pos} (ho : PE X o to) (he : PE X e te) (hs : starEach [e] X.env = [(false, eval e X.env)] := by rfl) (hbase : attributeBase o "join" X.env (eval o X.env) = eval o X.env := by rfl) (hline : (apos.endLine == pos.line) = true := by rfl) :
    PE X (.Call (.Attribute o "join" apos) [e] [] pos) (tM1 (rJoinQ K) to te) := by
  subst eK
  exact pe_join ho he hs hbase hline
def strsOf : List D → Option (List Str)
  | [] => some []
  | .str i :: r => (strsOf r).map (i :: ·)
  | _ :: _ => none
theorem strs_rp {K : PySem.W.Frag} {H : Hp} : ∀ {xs : List V} {ds : List D} {ns : List Str}, RpAll K H xs ds → strsOf ds = some ns → xs = ns.map V.str
  | _, _, _, .nil, e => by cases e; rfl
  | _, _, _, .cons (d := d) (ds := ds) a b, e => by
    cases d <;> first | (exfalso; have e' : (none : Option (List Str)) = some _ := e; cases e'; done) | skip
    cases a
    simp only [strsOf, Option.map_eq_some_iff] at e
    obtain ⟨ms, e1, rfl⟩ := e
    rw [strs_rp b e1]
    rfl
def joinD (a : Str) (d : D) (Q : D → Prop) : Prop := match d with
  | .list xs => ∃ ys, strsOf xs = some ys ∧ (ys.map (·.length)).sum + ys.length * a.length ≤ 16777216 ∧ Q (.str (Txt.join a ys))
  | .tuple xs => ∃ ys, strsOf xs = some ys ∧ (ys.map (·.length)).sum + ys.length * a.length ≤ 16777216 ∧ Q (.str (Txt.join a ys))
  | _ => False
def dJoin (a b : DT) : DT := fun s Q => a s fun x s1 => match x with
  | .str z => b s1 fun y s2 => joinD z y fun w => Q w s2
  | _ => False
theorem sim_join (ha : Sim C ca ta da) (hb : Sim C cb tb db) : Sim C .F (tM1 (rJoinQ C.K) ta tb) (dJoin da db) := by
  refine ⟨fun H0 S0 Hs σ H s Q Q' r q k => ha.toE.run H0 S0 Hs σ H s _ _ r q fun Hs1 H1 v d s1 g1 r1 v1 q1 => ?_⟩
  cases d <;> first | exact q1.elim | skip
  rename_i z
  cases v1
  refine ⟨⟨z, rfl⟩, hb.run H0 S0 Hs1 σ H1 s1 _ _ r1 q1 fun Hs2 H2 w e s2 g2 r2 v2 q2 => ?_⟩
  have rd := v2.rd r2.sub
  cases e <;> first | exact q2.elim | skip
  case list xs =>
    obtain ⟨p, ys, rfl, e1, e2⟩ := Rd'.list rd
    obtain ⟨zs, e3, e4, q2⟩ := q2
    rw [strs_rp e2 e3] at e1
    exact ⟨z, p, zs, rfl, rfl, .inl (SqL.of e1), e4, k Hs2 H2 _ (.str _) s2 (g1.trans g2) r2 (Val.mkP (Rp.str _) rfl) q2⟩
  case tuple xs =>
    obtain ⟨zs, e3, e4, q2⟩ := q2
    cases (show Rp C.K Hs2 w (.tuple xs) from rd) with
    | @tup p ys _ e1 e2 =>
    rw [strs_rp e2 e3] at e1
    exact ⟨z, p, zs, rfl, rfl, .inr (Same.sqT r2.sub e1.sq), e4, k Hs2 H2 _ (.str _) s2 (g1.trans g2) r2 (Val.mkP (Rp.str _) rfl) q2⟩
theorem opA_iadd : OpA C (rI0 fun i j => .int (i + j)) (fun x y Q => match x, y with | .int i, .int j => Q (.int (i + j)) | _, _ => False) := by
  intro H0 S0 Hs σ H s x y dx dy Q Q' r hx hy q k
  cases dx <;> cases dy <;> first | exact q.elim | skip
  case int.int i j => cases hx; cases hy; exact ⟨i, j, rfl, rfl, k Hs H _ (.int (i + j)) Go.refl r (Val.mkP (Rp.int _) rfl) q⟩
end

/-! ### repr of a tree without dicts -/
def rRepr (K : PySem.W.Frag) : List V → Hp → VK → Prop := fun xs H Q => ∃ x d, xs = [x] ∧ Dp K H x d ∧ Sh d ∧ d.showable = true ∧ d.shown.length ≤ sizeLine ∧ Q (.str d.shown) H
theorem reprK {X : Cx} (K : PySem.W.Frag) (eK : X.K = K) (hg : X.A.guards = some []) (hu : X.A.units + 65 < cLine) : CallR X (.builtin "repr") (rRepr K) := by
  subst eK
  intro pins s σ H xs us Q I rv h
  obtain ⟨x, d, rfl, hd, sd, hw, hz, q⟩ := h
  obtain ⟨u, rfl, ru⟩ := vals1 rv
  obtain ⟨as, rd⟩ := Dp.reads I d x u hd ru
  have hs : d.canLay0 = true ∧ d.depth ≤ 64 := by
    have : (d.canLay0 && decide (d.depth ≤ 64)) = true := sd
    simpa using this
  have nd : d.hasDict = false := PyData.hasDict_of_canLay d hs.1
  have no : d.hasDict = true → sysModules ∉ as := fun z => by rw [nd] at z; cases z
  cases rd with
  | none => exact PySem.P.repr_of_none ⟨.str _, H, I.tok _, ⟨_, rfl⟩, q⟩
  | bool b => exact PySem.P.repr_of_bool ⟨.str _, H, I.tok _, ⟨_, rfl⟩, q⟩
  | int i t => exact PySem.P.repr_of_int (by simpa [PyData.showable] using hw) ⟨.str _, H, I.tok _, ⟨_, rfl⟩, q⟩
  | str z t => exact PySem.P.repr_of_str ⟨.str _, H, I.tok _, ⟨_, rfl⟩, q⟩ hz
  | list a b c r => exact repr_of_reads' (.list a b c r) hw no hg (by omega) (fun _ _ z => z) (fun h' t tk kp => ⟨.str _, H, I.kept kp, ⟨_, rfl⟩, q⟩) hz
  | tuple a b c r => exact repr_of_reads' (.tuple a b c r) hw no hg (by omega) (fun _ _ z => z) (fun h' t tk kp => ⟨.str _, H, I.kept kp, ⟨_, rfl⟩, q⟩) hz
  | dict a b c r1 r2 => exact absurd nd (by simp [PyData.hasDict])
def reprD : DF := fun ds Q => match ds with
  | [d] => Sh d ∧ d.showable = true ∧ d.shown.length ≤ sizeLine ∧ Q (.str d.shown)
  | _ => False
theorem caA_repr {C : Cf} : CaA C (rRepr C.K) reprD := by
  intro H0 S0 Hs σ H s vs ds Q Q' r hd q k
  match vs, ds, hd with
  | [v], [d], ⟨h, _⟩ => exact ⟨v, d, rfl, h.dp r.sub q.1, q.1, q.2.1, q.2.2.1, k Hs H _ (.str _) Go.refl r (Val.mkP (Rp.str _) rfl) q.2.2.2⟩
  | [], [], _ => exact q.elim
  | _ :: _ :: _, _ :: _ :: _, _ => exact q.elim

/-! ### own classes, globals -/
def Mt (K : PySem.W.Frag) (C : Addr) (m q : Str) (st : Stmt) (ps : List Str) : Prop := ∃ (f : Addr) (fd : FuncData), Fun K m q st f fd ∧ Binds K fd ps [] ∧ Meth K C m f
def OkM (P : Program) (w : World) (K : PySem.W.Frag) (mg : Str → Option Value) (base : Heap) (C : Addr) (k : Nat) (m : Str) (ps : List Str) (sp : Sp) : Prop :=
  ∃ (f : Addr) (fd : FuncData), Meth K C m f ∧ Binds K fd ps [] ∧ FnG P w K mg base k f fd ps sp
def Gv (mg : Str → Option Value) (x : Str) (v : V) : Prop := ∃ u, mg x = some u ∧ RelV v u
/-- a class as the top made it: its name, its __init__ -/
structure Kl (K : PySem.W.Frag) (mg : Str → Option Value) (C : Addr) (x q : Str) (st : Stmt) (ps : List Str) : Prop where
  cl : Cls K C
  g : mg x = some (.ref C)
  mks : PySem.W.makesIn K C = true
  kp : PySem.W.keepIn K (.ref C) = true
  init : Mt K C "__init__" q st ps
section
variable {P : Program} {w : World} {K : PySem.W.Frag} {mg : Str → Option Value} {base : Heap}
theorem OkM.mk {m q : Str} {C : Addr} {st : Stmt} {N ps : List Str} {k : Nat} {sp : Sp} (D : Mt K C m q st ps) (S : FnScope N ps (defScope st)) (len : ∀ vs H Q E, sp vs H Q E → vs.length = ps.length)
    (hbody : ∀ (f : Addr) (cdv : Value) (A : Around) (outer : List Env) (s : Shared) (H : Hp) (vs : List V) (Q : VK) (E : XK), Rm k (A.deeper (envOfC q (defScope st) s.heap.objs.size f cdv)) → sp vs H Q E →
      ∃ t, PSs (cxOf CX0 P w K mg base N q (defScope st) f cdv A outer s H E).nox (defBody st) t ∧ t { nx := fun _ H' => Q .non H', rt := Q } (start N vs) H) : OkM P w K mg base C (k + 1) m ps sp := by
  obtain ⟨f, fd, F, b, g⟩ := D
  exact ⟨f, fd, g, b, Fun.okG F S len fun cdv A outer s H vs Q E hr hg h => hbody f cdv A outer s H vs Q E ⟨hr, hg⟩ h⟩
theorem OkM.mono {C : Addr} {m : Str} {ps : List Str} {j k : Nat} {sp : Sp} (h : OkM P w K mg base C j m ps sp) (l : j ≤ k) : OkM P w K mg base C k m ps sp := by
  obtain ⟨f, fd, hm, hb, F⟩ := h
  exact ⟨f, fd, hm, hb, F.mono l⟩
end
section
variable {X : Cx}
theorem pe_mth {pl : Sem Bool} {C : Addr} {k : Nat} {m : Str} {ps : List Str} {sp : Sp} {o e : Expr} {es : List Expr} {ta : TE} {t : TA} {apos pos : Pos} (he : PE X o ta) (c : Cls X.K C) (O : OkM X.prog X.w X.K X.mg X.base C k m ps sp) (hr : Rm k X.A) (ha : PA X (e :: es) t)
    (hst : starEach (e :: es) X.env = (false, eval e X.env) :: starEach es X.env := by rfl) (hpl : (backTo pos (starEach es X.env)).any (·.1) = false := by rfl)
    (ht : eval (.Call (.Attribute o m apos) (e :: es) [] pos) X.env = (do
      let ov ← eval o X.env
      standAt apos.atName
      let (f, first) ← holding [ov] (getMethod ov m pl)
      callWith pos f first (backTo pos (starEach (e :: es) X.env)) (backToKw pos (keywordEach [] X.env))) := by rfl) :
    PE X (.Call (.Attribute o m apos) (e :: es) [] pos) (tMeth C m sp [] E0 ta t) := by
  obtain ⟨f, fd, hm, hb, F⟩ := O
  refine ⟨fun pins s σ H Q I h => PySem.W.methodCall_KW (pl := pl) (thn (he.run pins s σ H _ I h) fun u s1 ⟨y, H1, I1, ry, a, dx, fs, ey, ea, l, q⟩ => ?_) ht⟩
  subst ey
  obtain rfl : u = Value.ref a := ry
  exact getmeth_ok I1 ea c hm l (PySem.W.callWith_K (first := [.ref a]) (h₀ := X.base) I.ok.mod.kin hm.kp (thn (ha.run pos pins s1 σ H1 _ I1 q) fun us s2 ⟨vs, H2, I2, r, q2⟩ => ⟨I2.kIn, runG (us := .ref a :: us) (vs := .ref a :: vs) F hr.toRoom hr.gd hb I2 (.cons rfl r) (by have q3 : sp (V.ref a :: (vs ++ [])) H2 Q E0 := q2; rwa [List.append_nil] at q3)⟩) hst hpl)
theorem pe_mth0 {pl : Sem Bool} {C : Addr} {k : Nat} {m : Str} {ps : List Str} {sp : Sp} {o : Expr} {ta : TE} {apos pos : Pos} (he : PE X o ta) (c : Cls X.K C) (O : OkM X.prog X.w X.K X.mg X.base C k m ps sp) (hr : Rm k X.A)
    (ht : eval (.Call (.Attribute o m apos) [] [] pos) X.env = (do
      let ov ← eval o X.env
      standAt apos.atName
      let (f, first) ← holding [ov] (getMethod ov m pl)
      callWith pos f first (backTo pos (starEach [] X.env)) (backToKw pos (keywordEach [] X.env))) := by rfl) :
    PE X (.Call (.Attribute o m apos) [] [] pos) (tMeth C m sp [] E0 ta tNil) := by
  obtain ⟨f, fd, hm, hb, F⟩ := O
  refine ⟨fun pins s σ H Q I h => PySem.W.methodCall_KW (pl := pl) (thn (he.run pins s σ H _ I h) fun u s1 ⟨y, H1, I1, ry, a, dx, fs, ey, ea, l, q⟩ => ?_) ht⟩
  subst ey
  obtain rfl : u = Value.ref a := ry
  exact getmeth_ok I1 ea c hm l (PySem.W.callWith_K0 (first := [.ref a]) I1.kIn hm.kp (runG (us := [.ref a]) (vs := [.ref a]) F hr.toRoom hr.gd hb I1 (.cons rfl .nil) q))
theorem makeG {C : Addr} {k : Nat} {f : Addr} {fd : FuncData} {ps : List Str} {sp : Sp} {pins : List (Addr × Obj)} {σ : L2.St} {H : Hp} {s : Shared} {Q : VK} {us : List Value} {vs : List V} (M : Mk X.K C f) (F : FnG X.prog X.w X.K X.mg X.base k f fd ps sp) (hr : Room (k + 1) X.A) (hg : X.A.guards = some []) (hb : Binds X.K fd ps [])
    (I : Inv X pins σ H s) (rv : Vals vs us) (h : ∀ x dx, H x = none → H dx = none → dx ≠ x → sp (.ref x :: vs) (L2.upd (L2.upd H dx (.own x)) x (.ins C dx [])) (fun v H2 => v = .non ∧ Q (.ref x) H2) E0) :
    wpAny (model X.prog X.w) X.A (call (.ref C) us) (EP X pins σ Q) X.xe s := by
  have hq := h (s.heap.objs.size + 1) s.heap.objs.size (I.hok.fresh (Nat.le_succ _)) (I.hok.fresh (Nat.le_refl _)) (Nat.ne_of_lt (Nat.lt_succ_self _))
  have J := Inv.made (C := C) I
  have r2 : Vals (V.ref (s.heap.objs.size + 1) :: vs) (Value.ref (s.heap.objs.size + 1) :: us) := .cons rfl rv
  have hl : ((Value.ref (s.heap.objs.size + 1) :: us) ++ []).length = ps.length := by
    rw [List.append_nil, ← r2.length]
    exact F.len _ _ _ _ hq
  have b := hb _ (Value.ref (s.heap.objs.size + 1) :: us) J.kIn hl
  rw [List.append_nil] at b
  refine wpAny_call (make_map (f := f) I.kIn M.makes M.init (beq_iff_eq.mp M.fn) (codeAny_mono (F.run _ X.stack _ _ ⟨_, []⟩ _ _ _ E0 (hr.make C us []) (by
      have ng : (Code.builtin "type.__call__" ⟨Value.ref C :: us, []⟩).guards = [] := by first | rfl | (with_unfolding_all rfl) | (simp [Code.guards, Code.isGuard]; done)
      show pushGuards (Code.builtin "type.__call__" ⟨Value.ref C :: us, []⟩).guards X.A.guards = some []
      rw [ng]
      exact hg) (J.env0.make C us []) b r2 hq) fun r s' z => ?_))
  match r, z with
  | .ok (.ret u), z =>
    obtain ⟨v, H', I3, rv', ev, q3⟩ := J.after z
    subst ev
    exact ⟨rv', ⟨V.ref (s.heap.objs.size + 1), H', I3, rfl, q3⟩⟩
  | .ok .next, z => exact False.elim z
  | .ok .brk, z => exact False.elim z
  | .ok .cont, z => exact False.elim z
  | .error e, z => exact False.elim z
theorem pe_new {C : Addr} {k : Nat} {x q : Str} {st : Stmt} {ps : List Str} {sp : Sp} {e : Expr} {es : List Expr} {t : TA} {p pos : Pos} (L : Kl X.K X.mg C x q st ps) (O : OkM X.prog X.w X.K X.mg X.base C k "__init__" ps sp) (hr : Rm (k + 1) X.A) (hg : Gl X x) (ha : PA X (e :: es) t)
    (hdb : (x == ("__debug__" : Str)) = false := by decide) (he : starEach (e :: es) X.env = (false, eval e X.env) :: starEach es X.env := by rfl) (hpl : (backTo pos (starEach es X.env)).any (·.1) = false := by rfl) :
    PE X (.Call (.Name x p) (e :: es) [] pos) (tMake C sp [] E0 t) := by
  obtain ⟨f, fd, hm, hb, F⟩ := O
  exact ⟨fun pins s σ H Q I h => wpAny_Call_Name_kw (ld_glob I hg L.g (PySem.W.callWith_K (h₀ := X.base) I.ok.mod.kin L.kp (thn (ha.run pos pins s σ H _ I h) fun us s1 ⟨vs, H1, I1, r, q⟩ => ⟨I1.kIn, makeG ⟨L.mks, hm.at_, hm.fn, L.kp⟩ F hr.toRoom hr.gd hb I1 r (fun y dy n1 n2 n3 => by have q3 := q y dy n1 n2 n3; rwa [List.append_nil] at q3)⟩) he hpl) hdb)⟩
theorem pe_gv {x : Str} {v : V} {pos : Pos} (hg : Gl X x) (h : Gv X.mg x v) (hd : (x == ("__debug__" : Str)) = false := by decide) : PE X (.Name x pos) (tC v) := by
  obtain ⟨u, e, r⟩ := h
  exact pe_glob hg e r hd
theorem tkEnd {e : Prop} (h : e) : e := h
end

/-! ### loops by invariants, promises of nothing, the law's own frame -/
theorem forD_ind {g : D → S → (S → Prop) → Prop} {b : DSt} {E : DEnds} {items : List D} (Inv : Nat → S → Prop) {s : S} (h0 : Inv 0 s)
    (step : ∀ i d s (N : S → Prop), items[i]? = some d → Inv i s → (∀ s', Inv (i + 1) s' → N s') → g d s fun s1 => b { E with nx := N, ct := N, bk := E.nx } s1) (fin : ∀ s, Inv items.length s → E.nx s) : forD g b E items s := by
  have : ∀ (n i : Nat) (s : S), i + n = items.length → Inv i s → forD g b E (items.drop i) s := by
    intro n
    induction n with
    | zero =>
      intro i s e h
      rw [List.drop_of_length_le (by omega)]
      exact fin s (by rw [← e, Nat.add_zero]; exact h)
    | succ n ih =>
      intro i s e h
      have hi : i < items.length := by omega
      rw [List.drop_eq_getElem_cons hi]
      exact step i _ s _ (List.getElem?_eq_getElem hi) h fun s' h' => ih (i + 1) s' (by omega) h'
  exact this items.length 0 s (by omega) h0
theorem lcD_ind {g : D → S → (S → Prop) → Prop} {c : DB} {e : DT} {vs : List Nat} {Q : List D → S → Prop} {items : List D} (Inv : Nat → List D → S → Prop) {s : S} (h0 : Inv 0 [] s)
    (step : ∀ i d acc s (N : List D → S → Prop), items[i]? = some d → Inv i acc s → (∀ acc' s', Inv (i + 1) acc' s' → N acc' s') → g d s fun s1 => c s1 fun k s2 => if k = true then e s2 fun y s3 => N (acc ++ [y]) (wipeS s3 vs) else N acc (wipeS s2 vs))
    (fin : ∀ acc s, Inv items.length acc s → Q acc s) : lcD g c e vs Q items [] s := by
  have : ∀ (n i : Nat) (acc : List D) (s : S), i + n = items.length → Inv i acc s → lcD g c e vs Q (items.drop i) acc s := by
    intro n
    induction n with
    | zero =>
      intro i acc s e h
      rw [List.drop_of_length_le (by omega)]
      exact fin acc s (by rw [← e, Nat.add_zero]; exact h)
    | succ n ih =>
      intro i acc s e h
      have hi : i < items.length := by omega
      rw [List.drop_eq_getElem_cons hi]
      exact step i _ acc s (fun acc s => lcD g c _ vs Q (items.drop (i + 1)) acc s) (List.getElem?_eq_getElem hi) h fun acc' s' h' => ih (i + 1) acc' s' (by omega) h'
  exact this items.length 0 [] s (by omega) h0
theorem rgD_len (lo : Int) (n : Nat) : (rgD lo n).length = n := by unfold rgD; rw [List.length_map, List.length_range]
theorem rgD_get {lo : Int} {n i : Nat} {d : D} (h : (rgD lo n)[i]? = some d) : i < n ∧ d = .int (lo + (i : Nat)) := by
  have hi := (List.getElem?_eq_some_iff.mp h).1
  rw [rgD_len] at hi
  refine ⟨hi, ?_⟩
  unfold rgD at h
  rw [List.getElem?_map, List.getElem?_range hi] at h
  exact (Option.some.inj h).symm
section
variable {P : Program} {w : World} {K : PySem.W.Frag} {mg : Str → Option Value} {base : Heap}
theorem Ok.no {x : Str} {st : Stmt} {N ps : List Str} {sp : Sp} (D' : Df K mg x st ps) (S' : FnScope N ps (defScope st)) (h : ∀ vs H Q E, sp vs H Q E → False) : Ok P w K mg base 1 x ps sp :=
  Ok.mk D' S' (fun vs H Q E z => (h vs H Q E z).elim) (fun f cdv A outer s H vs Q E hr z => (h vs H Q E z).elim)
theorem spN_no {n : Nat} {cat : Cat} {F : DF} (h : ∀ ds Q, F ds Q → False) : ∀ vs H Q E, spN K n cat F vs H Q E → False := fun vs H Q E ⟨_, _, _, _, _, _, f, _⟩ => h _ _ f
theorem spP_no {n : Nat} {cat : Cat} {F : DFP} (h : ∀ ds n Q, F ds n Q → False) : ∀ vs H Q E, spP K n cat F vs H Q E → False := fun vs H Q E ⟨_, _, _, _, _, _, _, _, _, _, _, _, _, f, _⟩ => h _ _ _ f
/-- the law: its pen is opened first, then the rest in the plain layer -/
theorem Ok.ofLaw {st : Stmt} {fa : Addr} {fda : FuncData} {N0 N1 : Str} {N' : List Str} {k : Nat} {M : List Nat} (F : Fun K "law" "law" st fa fda) (S' : FnScope (N0 :: N1 :: N') ["_law_script"] (defScope st)) (hM : ∀ i ∈ M, 2 ≤ i ∧ i < N'.length + 2)
    (hbody : ∀ (f : Addr) (cdv : Value) (A : Around) (outer : List Env) (s : Shared) (H : Hp) (E : XK), Rm k (A.deeper (envOfC "law" (defScope st) s.heap.objs.size f cdv)) →
      ∃ t, PSs (cxOf CX0 P w K mg base (N0 :: N1 :: N') "law" (defScope st) f cdv A outer s H E).nox (defBody st) (tSeq (tAsg (tCall (spOpen K) [] E0 (tCons (tVar 0) tNil)) (gName 1)) t) ∧
        ∀ p c, ∃ d, SimS { K := K, pen := some (p, c), ps := 1, M := M } .E t d ∧ d { nx := fun _ => False, rt := fun z _ => z = .bool true } { δ := none :: none :: List.replicate N'.length none, n := 0 }) :
    FnG P w K mg base (k + 1) fa fda ["_law_script"] (spLaw K) := by
  refine Fun.okG F S' (fun vs H Q E h => ?_) (fun cdv A outer s H vs Q E hr hg h => ?_)
  · obtain ⟨a, ns, rfl, _⟩ := h; rfl
  obtain ⟨a, ns, rfl, hS, hl, q⟩ := h
  obtain ⟨t, ht, hs⟩ := hbody fa cdv A outer s H E ⟨hr, hg⟩
  refine ⟨_, ht, ?_⟩
  refine ⟨_, rfl, a, ns, rfl, hS, hl, fun p c H1 sm np nc pe => ?_⟩
  obtain ⟨d, sd, hd⟩ := hs p c
  obtain ⟨a0, r0, ep, _⟩ := pe.pen
  obtain ⟨nn, ec⟩ := pe.cells
  have es : (L2.start (N0 :: N1 :: N') [V.ref a]).set 1 (some (.ref p)) = some (.ref a) :: some (.ref p) :: List.replicate N'.length none := by
    unfold L2.start
    rfl
  show t _ ((L2.start (N0 :: N1 :: N') [V.ref a]).set 1 (some (.ref p))) H1
  rw [es]
  have gn : ∀ i, i ∈ M → (some (V.ref a) :: some (V.ref p) :: List.replicate N'.length (none : Option V))[i]? = some none := fun i m => by
    have := hM i m
    obtain ⟨j, rfl⟩ : ∃ j, i = j + 2 := ⟨i - 2, by omega⟩
    show (List.replicate N'.length none)[j]? = some none
    rw [List.getElem?_replicate, if_pos (by omega)]
  refine sd.run H1 (fun _ => none) (fun _ => none) _ H1 _ _ _ ?_ hd ⟨fun Hs' σ' H' s' r q => q.elim, fun Hs' σ' H' s' v dd r rv e => ?_, fun _ _ _ _ _ q => q.elim, fun _ _ _ _ _ q => q.elim, fun _ _ _ _ _ q => q.elim⟩
  · refine ⟨(by simp), (fun b o e => nomatch e), fun i dd e _ => ?_, fun i dd e m => ?_, fun i m e => gn i m, fun i j x m1 m2 e1 e2 => ?_, fun p' c' e => ?_, fun b hb => (nomatch hb), Same.refl _, fun b o _ e => e, fun b e1 e2 => absurd e1 e2⟩
    · exfalso
      match i, e with
      | j + 2, e =>
        have e : (List.replicate N'.length (none : Option D))[j]? = some (some dd) := e
        rw [List.getElem?_replicate] at e
        split at e <;> cases e
    · exfalso
      match i, e with
      | j + 2, e =>
        have e : (List.replicate N'.length (none : Option D))[j]? = some (some dd) := e
        rw [List.getElem?_replicate] at e
        split at e <;> cases e
    · rw [gn i m1] at e1
      cases e1
    · cases e
      exact ⟨rfl, pe, rfl, (by rw [ep]; simp), (by rw [ec]; simp), rfl, fun z => absurd (hM 1 z).1 (by omega), fun z => (nomatch z), fun z => (nomatch z)⟩
  · have e' : dd = .bool true := e
    subst e'
    have rv' : Rp K Hs' v (.bool true) := rv
    cases rv'
    exact q H'
end

/-- one statement, then the rest, with a word between them -/
def dCut (a b : DSt) : DSt := fun E s => ∃ Mid : S → Prop, a { E with nx := Mid } s ∧ ∀ s', Mid s' → b E s'
theorem simS_cut {C : Cf} {cat : Cat} {ts us : TS} {a b : DSt} (ha : SimS C cat ts a) (hb : SimS C cat us b) : SimS C cat (tSeq ts us) (dCut a b) :=
  ⟨fun H0 S0 Hs σ H s E D' r ⟨Mid, q, h⟩ k => ha.run H0 S0 Hs σ H s _ _ r q ⟨fun Hs σ H s r q => hb.run H0 S0 Hs σ H s E D' r (h s q) k, k.rt, k.bk, k.ct, k.ex⟩⟩
theorem small9 {m : Int} (h0 : 0 < m) (h1 : m < 2 ^ 63) : m.natAbs < 2 ^ 9000 := Nat.lt_of_lt_of_le (show m.natAbs < 2 ^ 63 by omega) (Nat.pow_le_pow_right (by decide) (by decide))
theorem take_ok {m : Int} {n : Nat} {Q : D → Nat → Prop} (hn : n ≤ 1000000000) (h0 : 0 < m) (h1 : m < 2 ^ 63) (k : ∀ r : Int, 0 ≤ r → r < m → Q (.int r) (n + 1)) : TakeP m n Q := ⟨Nat.le_trans hn pen9, h0, small9 h0 h1, k⟩
theorem tk_ok {m : Int} {n : Nat} {Q : D → Nat → Prop} (hn : n ≤ penLim) (h0 : 0 < m) (h1 : m < 2 ^ 63) (k : ∀ r : Int, 0 ≤ r → r < m → Q (.int r) (n + 1)) : TakeP m n Q := ⟨hn, h0, small9 h0 h1, k⟩
theorem log_lt {n k : Nat} (h : n < 2 ^ k) (hk : 0 < k) : n.log2 < k := by
  by_cases h0 : n = 0
  · subst h0
    exact Nat.lt_of_le_of_lt (Nat.le_of_eq (by decide)) hk
  · exact (Nat.log2_lt h0).mpr h
theorem mulOk {i j : Int} (hi : i.natAbs < 2 ^ 2000) (hj : j.natAbs < 2 ^ 2000) : CMulW i j := by
  have h1 := log_lt hi (by decide)
  have h2 := log_lt hj (by decide)
  show i.natAbs.log2 + j.natAbs.log2 < 1000000
  omega
theorem lt2000 {n : Nat} (h : n < 10 ^ 40) : n < 2 ^ 2000 := Nat.lt_of_lt_of_le (show n < 2 ^ 200 from Nat.lt_of_lt_of_le h (by decide)) (Nat.pow_le_pow_right (by decide) (by decide))
theorem ix_ok {ds : List D} {i : Int} {Q : D → Prop} {d : D} (j : Nat) (e : i = (j : Int)) (h : ds[j]? = some d) (q : Q d) : IxP (atI ds i) Q := ⟨d, atI_of j e h, q⟩
theorem ixs_ok {z : Str} {i : Int} {Q : D → Prop} {c : Nat} (hz : z.length ≤ sizeLine) (e : atI z.cps.toList i = some c) (q : Q (.str ⟨#[c]⟩)) : IxS z i Q := ⟨hz, c, e, q⟩

section
variable {C : Cf} {cat : Cat} {ts us : TS} {a b : DSt}
theorem simE_cut (ha : SimS C cat ts a) (hb : SimE C cat us b) : SimE C cat (tSeq ts us) (dCut a b) :=
  ⟨fun H0 S0 Hs σ H s E D' r ⟨Mid, q, h⟩ k1 k2 k3 k4 k5 => ha.run H0 S0 Hs σ H s _ _ r q ⟨fun Hs σ H s r q => hb.run H0 S0 Hs σ H s E D' r (h s q) k1 k2 k3 k4 k5, fun Hs σ H s v d r rv q => k2 C.M Hs σ H s v d r rv q, k3, k4, fun Hs σ H s r q => k5 C.M Hs σ H s r q⟩⟩
end

/-! ### plain lists -/
theorem cutD_to (ds : List D) (j : Nat) : cutD ds none (some (j : Int)) = ds.take j := by
  unfold cutD
  rw [HT.sIx_none, HT.sIx_nat, List.drop_zero, Nat.sub_zero]
  rcases Nat.le_total j ds.length with h | h
  · rw [Nat.min_eq_left h]
  · rw [Nat.min_eq_right h, List.take_of_length_le (Nat.le_refl _), List.take_of_length_le h]
theorem cutD_from (ds : List D) (j : Nat) (h : j ≤ ds.length) : cutD ds (some (j : Int)) none = ds.drop j := by
  unfold cutD
  rw [HT.sIx_none, HT.sIx_nat, Nat.min_eq_left h]
  exact List.take_of_length_le (by rw [List.length_drop]; omega)
theorem prD_get {xs ys : List D} {i : Nat} {d : D} (h : (prD xs ys)[i]? = some d) : ∃ x y, xs[i]? = some x ∧ ys[i]? = some y ∧ d = .tuple [x, y] := by
  unfold prD at h
  rw [List.getElem?_map] at h
  cases e : (xs.zip ys)[i]? with
  | none => rw [e] at h; cases h
  | some p =>
    rw [e] at h
    obtain ⟨x, y⟩ := p
    obtain ⟨h1, h2⟩ := List.getElem?_zip_eq_some.mp e
    exact ⟨x, y, h1, h2, (Option.some.inj h).symm⟩
/-- data without dicts, of so many floors -/
def dat : Nat → D → Prop
  | _, .none => True
  | _, .bool _ => True
  | _, .int _ => True
  | _, .str _ => True
  | k + 1, .list ds => ds.length ≤ sizeLine ∧ ∀ d ∈ ds, dat k d
  | k + 1, .tuple ds => ds.length ≤ sizeLine ∧ ∀ d ∈ ds, dat k d
  | _, _ => False
def sameF : Nat → DF
  | 0 => fun _ _ => False
  | k + 1 => fun ds Q => match ds with
    | [a, b] => a = b ∧ dat k a ∧ Q (.bool true)
    | _ => False
theorem nin_true {n : Nat} {Q : D → Prop} (q : Q (.bool true)) : inD true (.bool false) (.list (List.replicate n (.bool true))) Q := by
  refine .inl ⟨rfl, ?_, ?_⟩
  · rw [List.all_eq_true]
    intro x hx
    rw [List.eq_of_mem_replicate hx]
    rfl
  · have : ((List.replicate n (PyData.bool true)).any fun z => eqF z (.bool false)) = false := by
      rw [List.any_eq_false]
      intro x hx
      rw [List.eq_of_mem_replicate hx]
      decide
    rw [this]
    exact q

/-! ### sum of a tuple, tuple * 0 and * 1, a display of texts indexed at once -/
section
variable {prog : Program} {w : World} {A : Around} {E : Value → Shared → Prop} {s : Shared} {l : Addr}
theorem sum_rawT {its : List Value} {ns : List Int} {Q : Value → Shared → Prop} (hh : A.handled = none) (hl : s.heap.IsTuple l its.toArray) (hi : IntsAre its ns)
    (h : ∀ h' tk t', (∀ b o, s.heap.get? b = some o → h'.get? b = some o) → Q (.int ns.sum t') { s with heap := h', toks := tk }) : wpAny (model prog w) A (call (.builtin "sum") [.ref l]) Q E s := by
  obtain ⟨xs, e⟩ := hi.allInts.items
  have hn : numsOf (intItems xs).toList = ns := by rw [← e]; exact hi.numsOf
  rw [nums_intItems] at hn
  rw [e] at hl
  have hlt : l < s.heap.objs.size := by obtain ⟨_, e, _⟩ := hl; exact Heap.lt_size e
  refine PySem.call_sum_walkG (wpAny_pyIter_tuple hl ⟨_, _, _, _, _, _, numAt xs, rfl, Walks.tuple (A := A.in1) hh _ l (Nat.ne_of_lt hlt) (intItems xs), ⟨⟨_, Heap.get?_push_size _ rfl, rfl, rfl⟩, hl.push _⟩, fun b hb => ?_, (fun _ _ => intItems_at), fun h' tk t' hk => ?_⟩)
  · show b < (s.heap.push _).objs.size
    rw [Heap.size_push]
    rcases List.mem_cons.mp hb with rfl | hb
    · exact Nat.lt_succ_self _
    · rcases List.mem_cons.mp hb with rfl | hb
      · exact Nat.lt_succ_of_lt hlt
      · cases hb
  · have hk' : ∀ b o, s.heap.get? b = some o → h'.get? b = some o := fun b o e => hk b o (fun hb => absurd (Heap.lt_size e) ((List.mem_singleton.mp hb) ▸ Nat.lt_irrefl _)) (Heap.get?_push_of_some _ e)
    have := h h' tk t' hk'
    have e2 : preSum (numAt xs) (intItems xs).size = ns.sum := by
      rw [preSum_eq, List.take_of_length_le (by simp [intItems]), hn]
    rw [e2]
    exact this
end
def rSumT (K : PySem.W.Frag) : List V → Hp → VK → Prop := fun vs H Q => ∃ (a : Addr) (ns : List Int), vs = [V.ref a] ∧ SqT K H a (ns.map V.int) ∧ Q (.int ns.sum) H
def rSumG (K : PySem.W.Frag) : List V → Hp → VK → Prop := fun xs H Q => rSum K xs H Q ∨ rSumT K xs H Q
theorem sumG {X : Cx} (K : PySem.W.Frag) (eK : X.K = K) (hc : X.calm = true) : CallR X (.builtin "sum") (rSumG K) := by
  subst eK
  refine CallR.or (cr_sum hc) ?_
  intro pins s σ H vs us Q I r h
  obtain ⟨a, ns, rfl, hs, q⟩ := h
  obtain ⟨its, rv, hl, _⟩ := I.tuple hs
  rw [Vals.ref1 r]
  exact sum_rawT (I.ok.hd hc) hl rv.ints fun h' tk t' hk => ⟨.int _, H, I.kept hk, ⟨_, rfl⟩, q⟩
def sumGD : DF := fun ds Q => match ds with
  | [d] => (match d with
    | .list xs => ∃ ns, intsOf xs = some ns ∧ Q (.int ns.sum)
    | .tuple xs => ∃ ns, intsOf xs = some ns ∧ Q (.int ns.sum)
    | _ => False)
  | _ => False
theorem caA_sumG {C : Cf} : CaA C (rSumG C.K) sumGD := by
  intro H0 S0 Hs σ H s vs ds Q Q' r hd q k
  match vs, ds, hd with
  | [v], [d], ⟨h, _⟩ =>
    cases d <;> first | exact q.elim | skip
    case list xs =>
      obtain ⟨a, ys, rfl, e1, e2⟩ := Rd'.list h
      obtain ⟨ns, e3, q⟩ := q
      rw [ints_rp e2 e3] at e1
      exact .inl ⟨a, ns, rfl, SqL.of e1, k Hs H _ (.int _) Go.refl r (Val.mkP (Rp.int _) rfl) q⟩
    case tuple xs =>
      cases h with
      | @tup a ys _ e1 e2 =>
      obtain ⟨ns, e3, q⟩ := q
      rw [ints_rp e2 e3] at e1
      exact .inr ⟨a, ns, rfl, Same.sqT r.sub e1.sq, k Hs H _ (.int _) Go.refl r (Val.mkP (Rp.int _) rfl) q⟩
  | [], [], _ => exact q.elim
  | _ :: _ :: _, _ :: _ :: _, _ => exact q.elim
/-! tuple * 0, tuple * 1 -/
theorem tuple_mul1 (l : Addr) (items : Array Value) (n : Nat) (dd : Option Addr) (sl : Array (Option Value)) (x : Int) (u : Tok) (c0 : (decide (x < -(2 ^ 63)) || decide (x ≥ 2 ^ 63)) = false) (c1 : (items.isEmpty || x == 1) = true) :
    Meets (Builtin.«tuple.__mul__» ⟨[.ref l, .int x u], []⟩) (fun _ R s => s.heap.get? l = some { cls := .type "tuple", dict := dd, data := .seq items n, slots := sl } ∧ R (.ok (.ret (Value.ref l))) s) :=
  .of_wp fun prog w A R s h => by
    obtain ⟨hp, g, d, tk, os⟩ := s
    obtain ⟨hl, h⟩ := h
    have f1 := AutoSeq1.idx_int
    wp_walk using wpAny_loadPart' hl
    repeat (first
      | (refine wpAny_ite_false (decide_eq_false (by rw [c0]; exact Bool.false_ne_true)) ?_; wp_walk using wpAny_loadPart' hl)
      | (refine wpAny_ite_true (decide_eq_true c1) ?_; wp_walk using wpAny_loadPart' hl))
    exact ⟨_, rfl, h⟩
theorem tuple_mul0 (l : Addr) (items : Array Value) (n : Nat) (dd : Option Addr) (sl : Array (Option Value)) (x : Int) (u : Tok) (c0 : (decide (x < -(2 ^ 63)) || decide (x ≥ 2 ^ 63)) = false) (c1 : (items.isEmpty || x == 1) = false) (c2 : (decide (x ≤ 0) || items.isEmpty) = true) :
    Meets (Builtin.«tuple.__mul__» ⟨[.ref l, .int x u], []⟩) (fun _ R s => s.heap.get? l = some { cls := .type "tuple", dict := dd, data := .seq items n, slots := sl } ∧
      R (.ok (.ret (Value.ref s.heap.objs.size))) { s with heap := s.heap.push { cls := Value.type "tuple", data := Data.seq #[] }, toks := s.toks }) :=
  .of_wp fun prog w A R s h => by
    obtain ⟨hp, g, d, tk, os⟩ := s
    obtain ⟨hl, h⟩ := h
    have f1 := AutoSeq1.idx_int
    wp_walk using wpAny_loadPart' hl
    repeat (first
      | (refine wpAny_ite_false (decide_eq_false (by rw [c0]; exact Bool.false_ne_true)) ?_; wp_walk using wpAny_loadPart' hl)
      | (refine wpAny_ite_false (decide_eq_false (by rw [c1]; exact Bool.false_ne_true)) ?_; wp_walk using wpAny_loadPart' hl)
      | (refine wpAny_ite_true (decide_eq_true c2) ?_; wp_walk using wpAny_loadPart' hl))
    exact ⟨_, rfl, h⟩
def rRep01 (K : PySem.W.Frag) : R2 := fun x y H Q => ∃ l k xs, x = .ref l ∧ y = .int k ∧ SqT K H l xs ∧ 0 ≤ k ∧ k ≤ 1 ∧ (k = 1 ∨ xs = [] → Q (.ref l) H) ∧ (k = 0 → xs ≠ [] → ∀ p o, H p = none → o.dict = none → Q (.ref p) (L2.upd H p (.frz o (.tup []))))
theorem op_rep01 {X : Cx} (K : PySem.W.Frag) (eK : X.K = K) : OpR X (binaryOp .Mult) (rRep01 K) := by
  subst eK
  intro pins s σ H x y v u Q I rx ry h
  obtain ⟨l, k, xs, rfl, rfl, hT, h1, h2, q1, q0⟩ := h
  cases rx
  obtain ⟨t, rfl⟩ := ry
  obtain ⟨its, r, ⟨⟨cls, dd, data, sl⟩, ho, hc, n, hd⟩, hs⟩ := I.tuple hT
  simp only at hc hd
  subst hc hd
  have hle : its.length = xs.length := r.length.symm
  have c0 : (decide (k < -(2 ^ 63)) || decide (k ≥ 2 ^ 63)) = false := by
    rw [decide_eq_false (by omega), decide_eq_false (by omega)] <;> rfl
  by_cases hk : k = 1 ∨ xs = []
  · have c1 : (its.toArray.isEmpty || k == 1) = true := by
      rcases hk with rfl | hk
      · simp
      · rw [hk] at hle
        rw [List.eq_nil_of_length_eq_zero hle]
        rfl
    refine wpAny_binaryOp_repeat_ref (T := "tuple") (U := "int") (by decide) ⟨_, ho, rfl⟩ (fun s' => typeIs_int s' k t) noFill_tuple_mul F.fills_int_mul F.slot_int_rmul repeat_tuple F.slot_int_index.lookup
      (call_meets F.slot_int_rmul (typeIs_int s k t) F.entry_int_rmul (F.args_int_rmul_2 _ _) (int_rmul_tuple k t l its.toArray n dd sl)
        ⟨ho, rfl, ⟨_, ho, rfl⟩, call_meets F.slot_tuple_mul ⟨_, ho, rfl⟩ F.entry_tuple_mul (F.args_tuple_mul_2 _ _) (tuple_mul1 l its.toArray n dd sl k t c0 c1) ⟨ho, ?_⟩⟩)
    exact ⟨.ref l, H, I, rfl, q1 hk⟩
  · have hn : its ≠ [] := fun e => hk (.inr (by rw [e] at hle; exact List.eq_nil_of_length_eq_zero hle.symm))
    have hi : its.toArray.isEmpty = false := by
      cases its with
      | nil => exact absurd rfl hn
      | cons a b => rfl
    have k0 : k = 0 := by
      have : ¬ k = 1 := fun e => hk (.inl e)
      omega
    subst k0
    have c1 : (its.toArray.isEmpty || (0 : Int) == 1) = false := by rw [hi]; rfl
    have c2 : (decide ((0 : Int) ≤ 0) || its.toArray.isEmpty) = true := by rw [hi]; rfl
    refine wpAny_binaryOp_repeat_ref (T := "tuple") (U := "int") (by decide) ⟨_, ho, rfl⟩ (fun s' => typeIs_int s' 0 t) noFill_tuple_mul F.fills_int_mul F.slot_int_rmul repeat_tuple F.slot_int_index.lookup
      (call_meets F.slot_int_rmul (typeIs_int s 0 t) F.entry_int_rmul (F.args_int_rmul_2 _ _) (int_rmul_tuple 0 t l its.toArray n dd sl)
        ⟨ho, rfl, ⟨_, ho, rfl⟩, call_meets F.slot_tuple_mul ⟨_, ho, rfl⟩ F.entry_tuple_mul (F.args_tuple_mul_2 _ _) (tuple_mul0 l its.toArray n dd sl 0 t c0 c1 c2) ⟨ho, ?_⟩⟩)
    obtain ⟨I2, hf⟩ := frz_new I (xs := []) (its := []) .nil (by decide) (h' := s.heap.push (tupObj [])) (fun b o e => Heap.get?_push_of_some _ e) (Nat.le_refl _) (Heap.get?_push_size _ rfl) (t := s.toks)
    exact ⟨.ref s.heap.objs.size, _, I2, rfl, q0 rfl (fun e => hk (.inr e)) _ _ hf rfl⟩
def rep01D : DO := fun x y Q => match x, y with
  | .tuple a, .int k => (k = 1 ∧ Q (.tuple a)) ∨ (k = 0 ∧ Q (.tuple []))
  | _, _ => False
theorem opA_rep01 {C : Cf} : OpA C (rRep01 C.K) rep01D := by
  intro H0 S0 Hs σ H s x y dx dy Q Q' r hx hy q k
  cases dx <;> cases dy <;> first | exact q.elim | skip
  case tuple.int ds n =>
    cases hx with
    | @tup a xs _ h1 h2 =>
    cases hy
    rcases q with ⟨rfl, q⟩ | ⟨rfl, q⟩
    · exact ⟨a, 1, xs, rfl, rfl, Same.sqT r.sub h1.sq, by decide, by decide, fun _ => k Hs H _ (.tuple ds) Go.refl r (Val.mkP (Rp.tup h1 h2) rfl) q, fun e => absurd e (by decide)⟩
    · refine ⟨a, 0, xs, rfl, rfl, Same.sqT r.sub h1.sq, by decide, by decide, fun e => ?_, fun _ _ p o np hd => ?_⟩
      · have e : xs = [] := e.resolve_left (by decide)
        subst e
        cases h2
        exact k Hs H _ (.tuple []) Go.refl r (Val.mkP (Rp.tup h1 .nil) rfl) q
      · obtain ⟨r', g'⟩ := r.newTup (o := .frz o (.tup [])) np
        exact k _ _ _ (.tuple []) g' r' (Val.mkP (Rp.tup (TqT.of upd_same hd) .nil) rfl) q
/-! {"a": x, "b": y}[z] -/
section
variable {C : Cf} {t1 t2 tb : TE} {d1 d2 db : DT} {c1 c2 cb : Cat}
def dSel2 (k1 k2 : Str) (d1 d2 db : DT) : DT := fun s Q => d1 s fun x s1 => d2 s1 fun y s2 => db s2 fun z s3 => (z = .str k1 ∧ Q x s3) ∨ (z = .str k2 ∧ Q y s3)
theorem sim_dsel2 {k1 k2 : Str} (hk : k1 ≠ k2) (h1 : Sim C c1 t1 d1) (h2 : Sim C c2 t2 d2) (hb : Sim C cb tb db) : Sim C .E (tOp rIxDk (tDisp [(tC (.str k1), t1), (tC (.str k2), t2)]) tb) (dSel2 k1 k2 d1 d2 db) := by
  refine ⟨fun H0 S0 Hs σ H s Q Q' r q k => fun p np => ?_⟩
  obtain ⟨f0, f1, f2, f3⟩ := r.free0 np
  have r0 := r.laid (o := .dK []) np
  have g0 : Go C σ Hs H Hs (upd H p (.dK [])) := Go.laid np
  refine h1.toE.run H0 S0 Hs σ _ s _ _ r0 q fun Hs1 H1 x dx s1 g1 r1 v1 q1 => ?_
  have p1 : H1 p = some (.dK []) := g1.kp p _ upd_same f2 f3
  have n1 : Hs1 p = none := none_of_new g1.nw f1 upd_same
  refine h2.toE.run H0 S0 Hs1 σ H1 s1 _ _ r1 q1 fun Hs2 H2 y dy s2 g2 r2 v2 q2 => ?_
  have p2 : H2 p = some (.dK []) := g2.kp p _ p1 f2 f3
  have n2 : Hs2 p = none := none_of_new g2.nw n1 p1
  refine ⟨p2, [(.inr k1, x), (.inr k2, y)], rfl, by simp, ?_⟩
  have em : mergeK [] [((.inr k1 : Key), x), (.inr k2, y)] = [(.inr k1, x), (.inr k2, y)] := by
    have : ¬ ((Sum.inr k1 : Key) = .inr k2) := fun e => hk (by cases e; rfl)
    simp [mergeK, putK, this]
  rw [em]
  have r3 := r2.updF (o := .dK [(.inr k1, x), (.inr k2, y)]) n2 f0 f2
  have g3 : Go C σ Hs H Hs2 (upd H2 p (.dK [(.inr k1, x), (.inr k2, y)])) := (g0.trans (g1.trans g2)).updF np
  refine hb.toE.run H0 S0 Hs2 σ _ s2 _ _ r3 q2 fun Hs3 H3 z dz s3 g4 r4 v4 q4 => ?_
  have p3 : H3 p = some (.dK [(.inr k1, x), (.inr k2, y)]) := g4.kp p _ upd_same f2 f3
  have v1' : Rp C.K Hs3 x dx := Rp.mono (g2.st.trans g4.st) v1
  have v2' : Rp C.K Hs3 y dy := Rp.mono g4.st v2
  have v4' : Rp C.K Hs3 z dz := v4
  rcases q4 with ⟨rfl, q4⟩ | ⟨rfl, q4⟩
  · cases v4'
    refine ⟨p, _, .inr k1, x, rfl, rfl, .inl p3, ?_, k Hs3 H3 x dx s3 (g3.trans g4) r4 v1' q4⟩
    simp [valV]
  · cases v4'
    refine ⟨p, _, .inr k2, y, rfl, rfl, .inl p3, ?_, k Hs3 H3 y dy s3 (g3.trans g4) r4 v2' q4⟩
    have : ¬ ((Sum.inr k1 : Key) = .inr k2) := fun e => hk (by cases e; rfl)
    simp [valV, this]
end
/-! str(x) of an int or a text -/
def rStrG : List V → Hp → VK → Prop := fun xs H Q => (∃ i, xs = [.int i] ∧ i.natAbs.log2 < 1920 ∧ Q (.str (toString i)) H) ∨ ∃ a, xs = [.str a] ∧ Q (.str a) H
theorem strG {X : Cx} : CallR X (.type "str") rStrG := CallR.or call_str_int SkE.call_str_str
def strGD : DF := fun ds Q => match ds with
  | [d] => (match d with
    | .int i => i.natAbs.log2 < 1920 ∧ Q (.str (toString i))
    | .str a => Q (.str a)
    | _ => False)
  | _ => False
theorem caA_strG {C : Cf} : CaA C rStrG strGD := by
  intro H0 S0 Hs σ H s vs ds Q Q' r hd q k
  match vs, ds, hd with
  | [v], [d], ⟨h, _⟩ =>
    cases d <;> first | exact q.elim | skip
    case int i =>
      cases h
      exact .inl ⟨_, rfl, q.1, k Hs H _ (.str _) Go.refl r (Val.mkP (Rp.str _) rfl) q.2⟩
    case str a =>
      cases h
      exact .inr ⟨_, rfl, k Hs H _ (.str _) Go.refl r (Val.mkP (Rp.str _) rfl) q⟩
  | [], [], _ => exact q.elim
  | _ :: _ :: _, _ :: _ :: _, _ => exact q.elim


/-! ### enumerate of a text -/
def Ites (x : Str) : It := ⟨fun i _ => i < x.cps.size, fun i H v H' => ∃ T c, v = .ref T ∧ H T = none ∧ H' = L2.upd H T (.tup [.int (i : Nat), .str ⟨#[c]⟩]) ∧ x.cps[i]? = some c, fun i _ => x.cps.size ≤ i⟩
theorem turn_enumS {P : Program} {w : World} {K : PySem.W.Frag} {elts : List Expr} {kk : Nat} {tpos : Pos} (e it : Addr) (x : Str) (t : Tok) (ty : String) (hty : ty = "str_ascii_iterator" ∨ ty = "str_iterator") :
    Turn P w K (.Tuple elts kk tpos) (Ites x) [e, it] e (fun i h => ((∃ old, IsEnum h e it ((i : Nat) : Int) old) ∧ h.IsStrIter it ty x t i ∧ e ≠ it) ∧ i ≤ x.cps.size) where
  mem := by simp
  obj := fun i h st b hb => by
    obtain ⟨⟨⟨old, he⟩, ⟨o, ho, hc, hd⟩, _⟩, _⟩ := st
    have e' : b = e ∨ b = it := by simpa using hb
    rcases e' with z | z
    · rw [z]; exact ⟨_, he, fun v q => nomatch q⟩
    · rw [z]; exact ⟨o, ho, fun v q => by rw [hd] at q; cases q⟩
  keep := fun i h h' st k => let ⟨⟨⟨old, he⟩, ⟨o, ho, r⟩, hne⟩, hl⟩ := st; ⟨⟨⟨old, k e (by simp) _ he⟩, ⟨o, k it (by simp) o ho, r⟩, hne⟩, hl⟩
  item := by
    intro X hP hw hK hc i pins s σ H E I hf st hg
    subst hP hw hK
    obtain ⟨⟨⟨old, he⟩, hit, hne⟩, _⟩ := st
    have hel : e < s.heap.objs.size := Heap.lt_size he
    have hil : it < s.heap.objs.size := by obtain ⟨_, q, _⟩ := hit; exact Heap.lt_size q
    have D : Draws X.prog X.w X.A.in1 it [it] x.cps.size (fun i v => ∃ c u, x.cps[i]? = some c ∧ v = .str ⟨#[c]⟩ u) (fun i h => h.IsStrIter it ty x t i) := by
      have hh : X.A.in1.handled = none := I.ok.hd hc
      rcases hty with z | z
      · rw [z]; exact Draws.strAscii hh it x t
      · rw [z]; exact Draws.strWide hh it x t
    refine wpAny_pyNext_enum_itemD D he hit hg hne (by simpa using hne) fun v h' tk hv ho hit' hT hsz hk => ?_
    obtain ⟨c, u, hc', rfl⟩ := hv
    refine ⟨_, rfl, wpAny_letOwnedTupleGo_enum (s := { s with heap := h', toks := tk + 1 }) ho fun h'' he' sb => ?_⟩
    have hT2 : h''.get? s.heap.objs.size = some { cls := .type "tuple", data := .seq #[.int i tk, .str ⟨#[c]⟩ u] } := (sb.2 _ (Nat.ne_of_gt hel)).trans hT
    have new : ObjOk X.prog X.w (L2.upd H s.heap.objs.size (.tup [.int (i : Nat), .str ⟨#[c]⟩])) h'' s.heap.objs.size (.tup [.int (i : Nat), .str ⟨#[c]⟩]) :=
      ⟨by show 2 ≤ sizeLine; decide, [.int i tk, .str ⟨#[c]⟩ u], .cons ⟨_, rfl⟩ (.cons ⟨_, rfl⟩ .nil), ⟨_, hT2, rfl, _, rfl⟩⟩
    have I1 : Inv X pins σ (L2.upd H s.heap.objs.size (.tup [.int (i : Nat), .str ⟨#[c]⟩])) { s with heap := h'', toks := tk + 1 } :=
      I.turnedNew (ch := [e, it]) (fun b ob hb q => (sb.2 b (fun z => hb (by simp [z]))).trans (hk b ob (fun z => hb (by simp [z])) (fun z => hb (by simp [z])) q)) hf (Nat.le_refl _) new
    have hg' : i < x.cps.size := hg
    refine ⟨.ref s.heap.objs.size, _, I1, rfl, ⟨_, c, rfl, I.hok.fresh (Nat.le_refl _), rfl, hc'⟩, ⟨⟨⟨.str ⟨#[c]⟩ u, ?_⟩, (let ⟨o, ho, r⟩ := hit'; ⟨o, (sb.2 it (Ne.symm hne)).trans ho, r⟩), hne⟩, hg'⟩, fun b hb => ?_⟩
    · have e1 : ((i + 1 : Nat) : Int) = (i : Int) + 1 := by omega
      rw [e1]; exact he'
    · have hb' : b < s.heap.objs.size := by
        have e' : b = e ∨ b = it := by simpa using hb
        rcases e' with z | z
        · rw [z]; exact hel
        · rw [z]; exact hil
      rw [upd_ne (Nat.ne_of_lt hb')]
      exact (hf b hb).1
  done := by
    intro X hP hw hK hc i pins s σ H E I hf st hg
    subst hP hw hK
    obtain ⟨⟨⟨old, he⟩, hit, hne⟩, hl⟩ := st
    have hg : x.cps.size ≤ i := hg
    have ei : i = x.cps.size := by omega
    subst ei
    have D : Draws X.prog X.w X.A.in1 it [it] x.cps.size (fun i v => ∃ c u, x.cps[i]? = some c ∧ v = .str ⟨#[c]⟩ u) (fun i h => h.IsStrIter it ty x t i) := by
      have hh : X.A.in1.handled = none := I.ok.hd hc
      rcases hty with z | z
      · rw [z]; exact Draws.strAscii hh it x t
      · rw [z]; exact Draws.strWide hh it x t
    obtain ⟨f0, f1, f2, f3, f4, f5⟩ := hf it (by simp)
    exact wpAny_pyNext_enum_endD D he hit fun h' eb => ⟨rfl, I.turned (t' := s.toks) (fun b o hb q => eb b o hb q) f0 f1 f3 f4 f5⟩
  self := fun A i s Q E st h => let ⟨⟨⟨_, he⟩, _⟩, _⟩ := st; wpAny_pyIter_enum he h
def iEnumS (ta : TA) : TI := fun σ H R => ta σ H fun vs H1 => ∃ x, vs = [.str x] ∧ R (Ites x) H1
theorem pi_enumS {X : Cx} {e : Expr} {ta : TA} {p pos tpos : Pos} {elts : List Expr} {kk : Nat} (hg : Gl X "enumerate") (hm : X.mg "enumerate" = none) (ha : PA X [e] ta) (hs : starEach [e] X.env = [(false, eval e X.env)] := by rfl) :
    PI X (.Tuple elts kk tpos) (.Call (.Name "enumerate" p) [e] [] pos) (iEnumS ta) := by
  refine ⟨fun pins s σ H R I h => ?_⟩
  refine Call_ (ld_blt I hg hm boot_enumerate (PyProof.Rows.callWith_type1 (thn (ha.run pos pins s σ H _ I h) fun us s1 ⟨vs, H1, I1, r1, q1⟩ => ?_) hs rfl))
  obtain ⟨x, ex, q⟩ := q1
  subst ex
  cases r1 with
  | cons r rr =>
    cases rr
    obtain ⟨t, rfl⟩ := r
    refine call_enumerate_str fun h' he hit hsz hk => wpAny_pyIter_enum he ?_
    have I2 : Inv X pins σ H1 { s1 with heap := h' } := I1.kept (t' := s1.toks) hk
    have hty : strIterType x = "str_ascii_iterator" ∨ strIterType x = "str_iterator" := by unfold strIterType; split <;> simp
    refine ⟨s1.heap.objs.size + 1, [s1.heap.objs.size + 1, s1.heap.objs.size], _, _, H1, rfl, I2, turn_enumS (s1.heap.objs.size + 1) s1.heap.objs.size x t _ hty, ⟨⟨⟨.none, he⟩, hit, Nat.succ_ne_self _⟩, Nat.zero_le _⟩, fun b hb => ?_, q⟩
    have e' : b = s1.heap.objs.size + 1 ∨ b = s1.heap.objs.size := by simpa using hb
    have hle : s1.heap.objs.size ≤ b := by
      rcases e' with z | z
      · rw [z]; exact Nat.le_add_right _ _
      · rw [z]; exact Nat.le_refl _
    exact I1.fpOk hle (I1.hok.fresh hle)
theorem walk_enumS {z : Str} : Walk (Ites z) z.cps.size (fun _ => True) (fun i H v H' => ∃ T c, v = .ref T ∧ H T = none ∧ H' = L2.upd H T (.tup [.int (i : Nat), .str ⟨#[c]⟩]) ∧ z.cps[i]? = some c) :=
  ⟨fun _ _ hi _ => hi, fun _ _ => Nat.le_refl _, fun _ _ _ _ _ _ y => y⟩
def dEnumS (a : DT) : DI := fun s Q => a s fun d s1 => match d with
  | .str z => Q (prD (rgD 0 (signs z).length) (signs z)) s1
  | _ => False
section
variable {C : Cf} {ca : Cat} {te : TE} {t : DT}
theorem simI_enumS (h : Sim C ca te t) : SimI C true (iEnumS (tCons te tNil)) (dEnumS t) := by
  refine ⟨fun H0 S0 Hs σ H s Q Q' r q k => h.toE.run H0 S0 Hs σ H s _ _ r q fun Hs1 H1 v d s1 g1 r1 v1 q1 => ?_⟩
  cases d <;> first | exact q1.elim | skip
  rename_i z
  cases v1
  refine ⟨z, rfl, k Hs1 H1 _ _ s1 g1 r1 ?_ q1⟩
  have hl : (signs z).length = z.cps.size := by unfold signs; rw [List.length_map, Array.length_toList]
  refine ⟨_, _, by rw [enum_len, hl]; exact walk_enumS, fun H e => True.intro, fun i H v H2 H0 S0 Hs σ s hi r e y => ?_⟩
  obtain ⟨T, c, rfl, nT, rfl, e1⟩ := y
  obtain ⟨Hs2, r2, rp, g⟩ := pair_it r nT (Rp.int ((i : Nat) : Int)) (Rp.str ⟨#[c]⟩)
  refine ⟨Hs2, _, enum_get ?_, r2, rp, g⟩
  unfold signs
  rw [List.getElem?_map, Array.getElem?_toList, e1]
  rfl
end
/-! ### a text so often -/
def repS (x : Str) (n : Nat) : Str := ⟨(List.replicate n x.cps.toList).flatten.toArray⟩
def rRepS : R2 := fun x y H Q => ∃ z n, x = .str z ∧ y = .int n ∧ 0 ≤ n ∧ n < 2 ^ 62 ∧ z.length * n.toNat ≤ sizeLine ∧ Q (.str (repS z n.toNat)) H
theorem fold_app (x : Array Nat) : ∀ (n : Nat) (acc : Array Nat), (List.replicate n x).foldl (· ++ ·) acc = acc ++ (List.replicate n x.toList).flatten.toArray
  | 0, acc => by simp
  | n + 1, acc => by
    rw [List.replicate_succ, List.foldl_cons, fold_app x n]
    rw [List.replicate_succ, List.flatten_cons, Array.append_assoc]
    congr 1
    apply Array.ext'
    simp
theorem repS_len (x : Str) (n : Nat) : (repS x n).length = x.length * n := by
  unfold repS
  show (List.replicate n x.cps.toList).flatten.toArray.size = x.cps.size * n
  simp [Nat.mul_comm]
theorem op_repS {X : Cx} : OpR X (binaryOp .Mult) rRepS := by
  intro pins s σ H x y v u Q I rx ry h
  obtain ⟨z, n, rfl, rfl, h1, h2, hz, q⟩ := h
  obtain ⟨t, rfl⟩ := rx
  obtain ⟨t', rfl⟩ := ry
  by_cases h0 : n < 1
  · have e0 : n = 0 := by omega
    subst e0
    refine P.mul_str_none h0 (by decide) ?_
    have ee : repS z (0 : Int).toNat = Str.empty := by unfold repS; rfl
    rw [ee] at q
    exact ⟨.str Str.empty, H, I.tok _, ⟨_, rfl⟩, q⟩
  have hn1 : 1 ≤ n.toNat := by omega
  have hlong : Builtin.Str.tooLong (z.length * n.toNat) = false := by
    unfold Builtin.Str.tooLong
    exact decide_eq_false (by omega)
  refine P.mul_str ?_ (fun _ _ => ?_) (fun _ _ => hlong) ?_
  · rw [decide_eq_false (by omega), decide_eq_false (by omega)]; rfl
  · have hz' : (z.length : Int) * n ≤ sizeLine := by
      have e : n = ((n.toNat : Nat) : Int) := by omega
      rw [e]
      exact_mod_cast hz
    have hsz : (sizeLine : Int) ≤ 2 ^ 63 - 1 := by decide
    intro hgt
    have h3 : (z.length : Int) ≤ (2 ^ 63 - 1) / n := (Int.le_ediv_iff_mul_le (by omega)).mpr (by omega)
    omega
  · rw [if_neg (by omega)]
    have fin : repS z n.toNat = ⟨(List.replicate n.toNat z.cps).foldl (· ++ ·) #[]⟩ := by
      rw [fold_app]; unfold repS; simp
    split
    · rename_i hh
      have ez : repS z n.toNat = z := by
        rcases Bool.or_eq_true_iff.mp hh with h | h
        · have e1 : n = 1 := by simpa using h
          subst e1
          unfold repS
          simp
        · have e0 : z.cps.toList = [] := by
            have : z.length = 0 := by simpa using h
            have : z.cps.size = 0 := this
            exact List.eq_nil_of_length_eq_zero (by rw [Array.length_toList]; exact this)
          obtain ⟨zc⟩ := z
          unfold repS
          dsimp only at e0 ⊢
          rw [e0]
          have : zc = #[] := by apply Array.ext'; exact e0
          rw [this]
          simp
      rw [ez] at q
      exact ⟨.str z, H, I, ⟨_, rfl⟩, q⟩
    · rw [← fin]
      refine ⟨?_, .str (repS z n.toNat), H, I.tok _, ⟨_, rfl⟩, q⟩
      rw [repS_len]; exact hz
def repD : DO := fun x y Q => match x, y with
  | .str z, .int n => 0 ≤ n ∧ n < 2 ^ 62 ∧ z.length * n.toNat ≤ sizeLine ∧ Q (.str (repS z n.toNat))
  | _, _ => False
theorem opA_repS {C : Cf} : OpA C rRepS repD := by
  intro H0 S0 Hs σ H s x y dx dy Q Q' r hx hy q k
  cases dx <;> cases dy <;> first | exact q.elim | skip
  case str.int z n => cases hx; cases hy; exact ⟨z, n, rfl, rfl, q.1, q.2.1, q.2.2.1, k Hs H _ (.str _) Go.refl r (Val.mkP (Rp.str _) rfl) q.2.2.2⟩

/-! ### dict(t), t a tuple of pairs -/
section
variable {X : Cx} {pins : List (Addr × Obj)} {σ : L2.St} {H : Hp} {s : Shared}
theorem pairs_at (I : Inv X pins σ H s) : ∀ {ps : List Addr} {kvs : List (Key × V)}, Paired (fun p kv => SqT X.K H p [kV kv.1, kv.2]) ps kvs →
    ∃ (prs : List (Key × Value)) (pvs : List (Value × Value)), KV kvs prs ∧ prs.length = ps.length ∧ pvs.length = ps.length ∧
      ∀ (j : Nat) (k v : Value), pvs[j]? = some (k, v) → ∃ (b : Addr) (q : Key), ps[j]? = some b ∧ IsTup s.heap b #[k, v] ∧ prs[j]? = some (q, v) ∧ L2.keyIs q k = true
  | _, _, .nil => ⟨[], [], .nil, rfl, rfl, fun j k v e => by simp at e⟩
  | _, _, .cons (a := p) (b := kv) h t => by
    obtain ⟨prs, pvs, r, l1, l2, hp⟩ := pairs_at I t
    obtain ⟨its, rv, ht, _⟩ := I.tuple h
    obtain ⟨u, y, ei, ru, ry⟩ := vals2 rv
    subst ei
    refine ⟨(kv.1, y) :: prs, (u, y) :: pvs, .cons ⟨rfl, ry⟩ r, by rw [List.length_cons, List.length_cons, l1], by rw [List.length_cons, List.length_cons, l2], fun j k v e => ?_⟩
    cases j with
    | zero =>
      have e' : (u, y) = (k, v) := Option.some.inj e
      cases e'
      exact ⟨p, kv.1, rfl, ht, rfl, kV_is (P := X.prog) (w := X.w) ru⟩
    | succ j =>
      obtain ⟨b, q, e1, e2, e3, e4⟩ := hp j k v (by simpa using e)
      exact ⟨b, q, by simpa using e1, e2, by simpa using e3, e4⟩
end
theorem call_dictZ {X : Cx} (hcalm : X.calm = true) : CallR X (.type "dict") (fun xs H Q => ∃ (a : Addr) (ps : List Addr) (kvs : List (Key × V)), xs = [.ref a] ∧ TqT X.K H a (ps.map V.ref) ∧ Paired (fun p kv => SqT X.K H p [kV kv.1, kv.2]) ps kvs ∧
    ∀ p, H p = none → Q (.ref p) (L2.upd H p (.dK (mergeK [] kvs)))) := by
  intro pins s σ H xs us Q I r q
  obtain ⟨a, ps, kvs, rfl, hq, hp, q⟩ := q
  obtain ⟨u, rfl, rx⟩ := vals1 r
  cases rx
  obtain ⟨o, its, n, rv, ho, hc, hd, hdat, hz⟩ := hq.obj I
  have ei := refs_at rv
  subst ei
  rw [List.length_map] at hz
  obtain ⟨prs, pvs, rel, l1, l2, hpr⟩ := pairs_at I hp
  have PI : PairItems s.heap (ps.map Value.ref).toArray (fun j => (ps[j]?).getD 0) pvs := by
    refine ⟨by simp [l2], fun j k v e => ?_⟩
    obtain ⟨b, q, e1, e2, _, _⟩ := hpr j k v e
    refine ⟨by simp [e1], .inl ?_⟩
    simp only [e1, Option.getD_some]
    exact e2
  refine PySem.call_dict_pairs (knd := mixKind X.prog X.w) (kvs := prs) (PairArg.tuple a (ps.map Value.ref).toArray (fun j => (ps[j]?).getD 0) pvs) (I.ok.hd hcalm) ⟨⟨o, n, ho, hc, hd, hdat⟩, PI⟩ ⟨by rw [l1, l2], fun i k v e => ?_⟩ (by rw [l2]; exact hz) fun h' tk hd' k => ?_
  · obtain ⟨b, q, e1, e2, e3, e4⟩ := hpr i k v e
    exact ⟨q, e3, e4⟩
  · have hm : (s.heap.objs.size == sysModules) = false := beq_eq_false_iff_ne.mpr (Nat.ne_of_gt I.big)
    have hlen : (mergeK [] kvs).length ≤ sizeLine := by
      refine Nat.le_trans (length_mergeK kvs []) ?_
      rw [List.length_nil, Nat.zero_add, rel.length, l1]
      exact hz
    exact ⟨.ref s.heap.objs.size, L2.upd H s.heap.objs.size (.dK (mergeK [] kvs)), I.laid (t' := tk) (fun b o e => k b o (fun m => nomatch m) e) (Nat.le_refl _) (show ObjOk X.prog X.w _ _ _ (.dK (mergeK [] kvs)) from ⟨hlen, hm, merged [] prs, KV.merge rel .nil, hd'⟩), rfl, q _ (I.hok.fresh (Nat.le_refl _))⟩

/-! ### dicts with texts as keys: display, get with a default -/
theorem lt_u1 {a b : Nat} (h : a + 65 < b) : a + 1 < b := by omega
def findS : List (D × D) → Str → Option D
  | [], _ => none
  | (.str k, d) :: r, x => if k = x then some d else findS r x
  | _ :: r, x => findS r x
structure SimP (C : Cf) (ks : List Str) (trs : List (TE × TE)) (t : DA) : Prop where
  run : ∀ (H0 S0 Hs : Hp) (σ : L2.St) (H : Hp) (s : S) (Q : List D → S → Prop) (Q' : List (V × V) → Hp → Prop), R C H0 S0 Hs σ H s → t s Q →
    (∀ Hs' H' kvs ds s', Go C σ Hs H Hs' H' → R C H0 S0 Hs' σ H' s' → RpKV C.K Hs' kvs ((ks.map PyData.str).zip ds) → kvs.map Prod.fst = ks.map Sum.inr → Q ds s' → Q' (kvs.map fun kv => (kV kv.1, kv.2)) H') → tPairs trs σ H Q'
def dDisp (ks : List Str) (a : DA) : DT := fun s Q => a s fun ds s1 => Q (.dict ((ks.map PyData.str).zip ds)) s1
def dGet2 (a b c : DT) : DT := fun s Q => a s fun d s1 => match d with
  | .dict kvs => b s1 fun k s2 => c s2 fun z s3 => isKey k = true ∧ Q ((findD kvs k).getD z) s3
  | _ => False
def dGet1 (a b : DT) : DT := fun s Q => a s fun d s1 => match d with
  | .dict kvs => b s1 fun k s2 => isKey k = true ∧ Q ((findD kvs k).getD .none) s2
  | _ => False
theorem nodup_inr : ∀ {ks : List Str}, ks.Nodup → (ks.map (Sum.inr : Str → Key)).Nodup
  | [], _ => .nil
  | k :: ks, h => by
    obtain ⟨h1, h2⟩ := List.nodup_cons.mp h
    refine List.nodup_cons.mpr ⟨fun m => ?_, nodup_inr h2⟩
    obtain ⟨y, m, e⟩ := List.mem_map.mp m
    cases e
    exact h1 m
theorem merge_nodup : ∀ (kvs acc : List (Key × V)), (kvs.map Prod.fst).Nodup → (∀ k ∈ kvs.map Prod.fst, k ∉ acc.map Prod.fst) → mergeK acc kvs = acc ++ kvs
  | [], acc, _, _ => by rw [List.append_nil]; rfl
  | (k, v) :: r, acc, h, hd => by
    show mergeK (putK acc k v) r = _
    have hk : k ∉ acc.map Prod.fst := hd k (List.mem_cons_self ..)
    have e : putK acc k v = acc ++ [(k, v)] := by
      unfold putK
      rw [if_neg]
      intro z
      obtain ⟨p, m, e⟩ := List.any_eq_true.mp z
      exact hk (List.mem_map.mpr ⟨p, m, of_decide_eq_true e⟩)
    rw [e, merge_nodup r (acc ++ [(k, v)]) (List.nodup_cons.mp h).2 (fun k' m => ?_), List.append_assoc]
    · rfl
    · rw [List.map_append, List.mem_append]
      rintro (z | z)
      · exact hd k' (List.mem_cons_of_mem _ m) z
      · rw [List.map_cons, List.map_nil, List.mem_singleton] at z
        have z : k' = k := z
        rw [z] at m
        exact (List.nodup_cons.mp h).1 m
theorem find_rp {K : PySem.W.Frag} {H : Hp} {x : Str} : ∀ {kvs : List (Key × V)} {ds : List (D × D)}, RpKV K H kvs ds → (findS ds x = none ∧ valV kvs (.inr x) = none) ∨ ∃ d v, findS ds x = some d ∧ valV kvs (.inr x) = some v ∧ Rp K H v d
  | _, _, .nil => .inl ⟨rfl, rfl⟩
  | _, _, .cons (k := k) (v := v) (d := d) (vs := vs) (ds := ds) a b => by
    cases k with
    | inl i =>
      have e : findS ((keyD (.inl i), d) :: ds) x = findS ds x := rfl
      rw [e, valV_neg (p := (Sum.inl i, v)) (k := Sum.inr x) (fun z => nomatch z)]
      exact find_rp b
    | inr y =>
      by_cases h : y = x
      · subst h
        exact .inr ⟨d, v, if_pos rfl, valV_pos rfl, a⟩
      · have e : findS ((keyD (.inr y), d) :: ds) x = findS ds x := if_neg h
        rw [e, valV_neg (p := (Sum.inr y, v)) (k := Sum.inr x) (fun z => h (by injection z))]
        exact find_rp b
section
variable {C : Cf} {te ta tb tc : TE} {t da db dc : DT} {ca cb cc : Cat}
theorem simP_nil : SimP C [] [] dNil := ⟨fun H0 S0 Hs σ H s Q Q' r q k => k Hs H [] [] s Go.refl r .nil rfl q⟩
theorem simP_cons {ks : List Str} {k : Str} {trs : List (TE × TE)} {dr : DA} (ha : Sim C ca ta da) (hr : SimP C ks trs dr) : SimP C (k :: ks) ((tC (.str k), ta) :: trs) (dCons da dr) := by
  refine ⟨fun H0 S0 Hs σ H s Q Q' r q kk => ha.toE.run H0 S0 Hs σ H s _ _ r q fun Hs1 H1 x dx s1 g1 r1 v1 q1 => hr.run H0 S0 Hs1 σ H1 s1 _ _ r1 q1 fun Hs2 H2 kvs ds s2 g2 r2 v2 l2 q2 => ?_⟩
  exact kk Hs2 H2 ((.inr k, x) :: kvs) (dx :: ds) s2 (g1.trans g2) r2 (.cons (k := .inr k) (Rp.mono g2.st v1) v2) (by rw [List.map_cons, List.map_cons, l2]) q2
theorem sim_disp {ks : List Str} {trs : List (TE × TE)} {a : DA} (hk : ks.Nodup) (hl : ks.length ≤ 15) (h : SimP C ks trs a) : Sim C .F (tDisp trs) (dDisp ks a) := by
  refine ⟨fun H0 S0 Hs σ H s Q Q' r q k => fun p np => ?_⟩
  obtain ⟨f0, f1, f2, f3⟩ := r.free0 np
  have r0 := r.laid (o := .dK []) np
  have g0 : Go C σ Hs H Hs (L2.upd H p (.dK [])) := Go.laid np
  refine h.run H0 S0 Hs σ _ s _ _ r0 q fun Hs1 H1 kvs ds s1 g1 r1 v1 l1 q1 => ?_
  have p1 : H1 p = some (.dK []) := g1.kp p _ upd_same f2 f3
  have n1 : Hs1 p = none := none_of_new g1.nw f1 upd_same
  refine ⟨p1, kvs, rfl, ?_, ?_⟩
  · have := congrArg List.length l1
    rw [List.length_map, List.length_map] at this
    omega
  have em : mergeK [] kvs = kvs := by
    have := merge_nodup kvs [] (by rw [l1]; exact nodup_inr hk) (fun k _ m => nomatch m)
    rw [List.nil_append] at this
    exact this
  rw [em]
  have r2 := r1.updF (o := .dK kvs) n1 f0 f2
  have g2 : Go C σ Hs H Hs1 (L2.upd H1 p (.dK kvs)) := (g0.trans g1).updF np
  exact k Hs1 _ _ (.dict ((ks.map PyData.str).zip ds)) s1 g2 r2 (Val.mkC ⟨_, upd_same, n1, f0, np, .dic v1, f2⟩) q1
theorem sim_dget2 (ha : Sim C ca ta da) (hb : Sim C cb tb db) (hc : Sim C cc tc dc) : Sim C .E (tDGet2 ta tb tc) (dGet2 da db dc) := by
  refine ⟨fun H0 S0 Hs σ H s Q Q' r q k => ha.toE.run H0 S0 Hs σ H s _ _ r q fun Hs1 H1 x dx s1 g1 r1 v1 q1 => ?_⟩
  cases dx <;> first | exact q1.elim | skip
  have v1' : Rp C.K Hs1 x _ := v1
  cases v1' with
  | dic e1 e2 =>
  refine ⟨_, rfl, .inl ⟨_, rd_same r1.sub e1⟩, ?_⟩
  refine hb.toE.run H0 S0 Hs1 σ H1 s1 _ _ r1 q1 fun Hs2 H2 y dy s2 g2 r2 v2 q2 => ?_
  refine hc.toE.run H0 S0 Hs2 σ H2 s2 _ _ r2 q2 fun Hs3 H3 z dz s3 g3 r3 v3 q3 => ?_
  obtain ⟨hk, q3⟩ := q3
  obtain ⟨kx, rfl⟩ := isKey_of hk
  have v2' : Rp C.K Hs2 y (keyD kx) := v2
  obtain rfl := v2'.key
  have e1' := rd_same g3.st (rd_same g2.st e1)
  have e2' := RpKV.mono (g2.st.trans g3.st) e2
  refine ⟨_, .inl ⟨_, kx, rd_same r3.sub e1', rfl, rfl⟩, ?_⟩
  rcases findD_rp (x := kx) e2' with ⟨f1, f2⟩ | ⟨d, v, f1, f2, f3⟩
  · rw [f2]
    rw [f1] at q3
    exact k Hs3 H3 z dz s3 (g1.trans (g2.trans g3)) r3 v3 q3
  · rw [f2]
    rw [f1] at q3
    exact k Hs3 H3 v d s3 (g1.trans (g2.trans g3)) r3 f3 q3
theorem sim_dget1 (ha : Sim C ca ta da) (hb : Sim C cb tb db) : Sim C .E (tDGet1 ta tb) (dGet1 da db) := by
  refine ⟨fun H0 S0 Hs σ H s Q Q' r q k => ha.toE.run H0 S0 Hs σ H s _ _ r q fun Hs1 H1 x dx s1 g1 r1 v1 q1 => ?_⟩
  cases dx <;> first | exact q1.elim | skip
  have v1' : Rp C.K Hs1 x _ := v1
  cases v1' with
  | dic e1 e2 =>
  refine ⟨_, rfl, .inl ⟨_, rd_same r1.sub e1⟩, ?_⟩
  refine hb.toE.run H0 S0 Hs1 σ H1 s1 _ _ r1 q1 fun Hs2 H2 y dy s2 g2 r2 v2 q2 => ?_
  obtain ⟨hk, q2⟩ := q2
  obtain ⟨kx, rfl⟩ := isKey_of hk
  have v2' : Rp C.K Hs2 y (keyD kx) := v2
  obtain rfl := v2'.key
  have e1' := rd_same g2.st e1
  have e2' := RpKV.mono g2.st e2
  refine ⟨_, .inl ⟨_, kx, rd_same r2.sub e1', rfl, rfl⟩, ?_⟩
  rcases findD_rp (x := kx) e2' with ⟨f1, f2⟩ | ⟨d, v, f1, f2, f3⟩
  · rw [f2]
    rw [f1] at q2
    exact k Hs2 H2 .non .none s2 (g1.trans g2) r2 .non q2
  · rw [f2]
    rw [f1] at q2
    exact k Hs2 H2 v d s2 (g1.trans g2) r2 f3 q2
/-- {} -/
theorem sim_dnew : Sim C .F tDNewK (dC (.dict [])) := by
  refine ⟨fun H0 S0 Hs σ H s Q Q' r q k => fun p np => ?_⟩
  exact k Hs _ _ (.dict []) s (Go.laid np) (r.laid np) (r.newC np (.dic .nil)) q
/-! d[k] = v, of its own -/
def putD (kvs : List (D × D)) (k v : D) : List (D × D) := if (findD kvs k).isSome = true then kvs.map fun kv => if keyIs kv.1 k = true then (kv.1, v) else kv else kvs ++ [(k, v)]
theorem RpKV.map {K : PySem.W.Frag} {H : Hp} {k : Key} {v : V} {d : D} (hv : Rp K H v d) : ∀ {kvs : List (Key × V)} {ds : List (D × D)}, RpKV K H kvs ds → RpKV K H (kvs.map fun kv => if kv.1 = k then (kv.1, v) else kv) (ds.map fun kv => if keyIs kv.1 (keyD k) = true then (kv.1, d) else kv)
  | _, _, .nil => .nil
  | _, _, .cons (k := k') (v := v') (d := d') a b => by
    rw [List.map_cons, List.map_cons]
    have e : keyIs (keyD k') (keyD k) = decide (k' = k) := keyIs_key _ _
    by_cases h : k' = k
    · rw [if_pos h, if_pos (by rw [e, decide_eq_true h])]
      exact .cons hv (RpKV.map hv b)
    · rw [if_neg h, if_neg (by rw [e, decide_eq_false h]; exact Bool.false_ne_true)]
      exact .cons a (RpKV.map hv b)
theorem RpKV.snoc {K : PySem.W.Frag} {H : Hp} {k : Key} {v : V} {d : D} (hv : Rp K H v d) : ∀ {kvs : List (Key × V)} {ds : List (D × D)}, RpKV K H kvs ds → RpKV K H (kvs ++ [(k, v)]) (ds ++ [(keyD k, d)])
  | _, _, .nil => .cons hv .nil
  | _, _, .cons a b => .cons a (RpKV.snoc hv b)
theorem RpKV.put {K : PySem.W.Frag} {H : Hp} {kvs : List (Key × V)} {ds : List (D × D)} {k : Key} {v : V} {d : D} (h : RpKV K H kvs ds) (hv : Rp K H v d) : RpKV K H (putK kvs k v) (putD ds (keyD k) d) := by
  unfold putK putD
  rw [findD_is h, valV_any]
  cases e : (valV kvs k).isSome with
  | true => rw [if_pos rfl, if_pos rfl]; exact h.map hv
  | false => rw [if_neg Bool.false_ne_true, if_neg Bool.false_ne_true]; exact h.snoc hv
def dSetK (i : Nat) (a j : DT) : DSt := fun E s => a s fun d s1 => (∃ z, s1.δ[i]? = some (some (.dict z))) ∧ j s1 fun k s2 => isKey k = true ∧ match s2.δ[i]? with
  | some (some (.dict kvs)) => kvs.length < sizeLine ∧ E.nx { s2 with δ := s2.δ.set i (some (.dict (putD kvs k d))) }
  | _ => False
theorem simS_setK {cat : Cat} (i : Nat) (hi : i ∈ C.M) (h : Sim C ca ta da) (hj : Sim C cb tb db) : SimS C cat (sDPut (tVar i) tb ta) (dSetK i da db) := by
  refine ⟨fun H0 S0 Hs σ H s E D' r q k => h.toE.run H0 S0 Hs σ H s _ _ r q fun Hs1 H1 v d s1 g1 r1 v1 q1 => ?_⟩
  obtain ⟨⟨z, ez⟩, q1⟩ := q1
  obtain ⟨b, o, e1, e2, e3, e4, _⟩ := r1.mt i _ ez hi
  refine ⟨_, e1, hj.toE.run H0 S0 Hs1 σ H1 s1 _ _ r1 q1 fun Hs2 H2 y dy s2 g2 r2 v2 q2 => ?_⟩
  obtain ⟨hk, q2⟩ := q2
  obtain ⟨kx, rfl⟩ := isKey_of hk
  have v2' : Rp C.K Hs2 y (keyD kx) := v2
  obtain rfl := v2'.key
  split at q2
  · rename_i kvs ex
    obtain ⟨b', o', f1, f2, f3, f4, _⟩ := r2.mt i _ ex hi
    rw [e1] at f1
    cases f1
    cases f4 with
    | dic f4 =>
      rename_i xs
      obtain ⟨r3, g3⟩ := r2.upd hi ex e1 (.dic (f4.put (k := kx) (Rp.mono g2.st v1)))
      exact ⟨b, _, rfl, DPut.k f2 (by rw [f4.len]; exact q2.1), k.nx Hs2 σ _ _ r3 q2.2⟩
  · exact q2.elim
/-! dict(d), dict([(k, v), ..]) -/
def pairsOf : List D → Option (List (D × D))
  | [] => some []
  | .tuple [k, v] :: r => if isKey k = true then (pairsOf r).map ((k, v) :: ·) else none
  | _ :: _ => none
def mergeD (acc : List (D × D)) (more : List (D × D)) : List (D × D) := more.foldl (fun a kv => putD a kv.1 kv.2) acc
theorem RpKV.merge {K : PySem.W.Frag} {H : Hp} : ∀ {more : List (Key × V)} {ms : List (D × D)} {kvs : List (Key × V)} {ds : List (D × D)}, RpKV K H more ms → RpKV K H kvs ds → RpKV K H (mergeK kvs more) (mergeD ds ms)
  | _, _, _, _, .nil, h => h
  | _, _, _, _, .cons (k := k) a b, h => by
    have := RpKV.merge b (h.put (k := k) a)
    exact this
theorem pairs_rp {K : PySem.W.Frag} {Hs H : Hp} (sub : Same Hs H) : ∀ {xs : List V} {ds : List D} {kvs : List (D × D)}, RpAll K Hs xs ds → pairsOf ds = some kvs → ∃ (ps : List Addr) (ks : List (Key × V)), xs = ps.map V.ref ∧ Paired (fun p kv => SqT K H p [kV kv.1, kv.2]) ps ks ∧ RpKV K Hs ks kvs
  | _, _, _, .nil, e => by cases e; exact ⟨[], [], rfl, .nil, .nil⟩
  | _, _, kvs, .cons (d := d) (ds := r1) a b, e => by
    unfold pairsOf at e
    split at e
    · rename_i e0; cases e0
    · rename_i k0 v0 r0 e0
      injection e0 with e1 e2
      subst e1 e2
      split at e
      · rename_i hk
        obtain ⟨kk, rfl⟩ := isKey_of hk
        cases e3 : pairsOf r1 with
        | none => rw [e3] at e; cases e
        | some w =>
          rw [e3] at e
          cases e
          obtain ⟨ps, ks, rfl, h2, h3⟩ := pairs_rp sub b e3
          cases a with
          | @tup t zs _ h4 h5 =>
            cases h5 with
            | cons h6 h7 =>
              cases h7 with
              | cons h8 h9 =>
                cases h9
                obtain rfl := h6.key
                exact ⟨t :: ps, (kk, _) :: ks, rfl, .cons (Same.sqT sub h4.sq) h2, .cons h8 h3⟩
      · cases e
    · cases e
def rDictG (K : PySem.W.Frag) : List V → Hp → VK → Prop := fun xs H Q => (∃ (a : Addr) (kvs : List (Key × V)), xs = [.ref a] ∧ Rd H a (.dK kvs) ∧ ∀ p, H p = none → Q (.ref p) (upd H p (.dK kvs))) ∨
  (∃ (a : Addr) (ps : List Addr) (kvs : List (Key × V)), xs = [.ref a] ∧ SqL K H a (ps.map V.ref) ∧ Paired (fun p kv => SqT K H p [kV kv.1, kv.2]) ps kvs ∧ ∀ p, H p = none → Q (.ref p) (upd H p (.dK (mergeK [] kvs)))) ∨
  (∃ (a : Addr) (ps : List Addr) (kvs : List (Key × V)), xs = [.ref a] ∧ TqT K H a (ps.map V.ref) ∧ Paired (fun p kv => SqT K H p [kV kv.1, kv.2]) ps kvs ∧ ∀ p, H p = none → Q (.ref p) (L2.upd H p (.dK (mergeK [] kvs))))
theorem dictG {X : Cx} (K : PySem.W.Frag) (eK : X.K = K) (hc : X.calm = true) : CallR X (.type "dict") (rDictG K) := by
  subst eK
  exact CallR.or call_dictD (CallR.or (call_dictP hc) (call_dictZ hc))
def dictD : DF := fun ds Q => match ds with
  | [d] => (match d with
    | .dict kvs => Q (.dict kvs)
    | .list ps => ∃ kvs, pairsOf ps = some kvs ∧ Q (.dict (mergeD [] kvs))
    | .tuple ps => ∃ kvs, pairsOf ps = some kvs ∧ Q (.dict (mergeD [] kvs))
    | _ => False)
  | _ => False
theorem caA_dict : CaA C (rDictG C.K) dictD := by
  intro H0 S0 Hs σ H s vs ds Q Q' r hd q k
  match vs, ds, hd with
  | [v], [d], ⟨h, _⟩ =>
    cases d <;> first | exact q.elim | skip
    case dict kvs =>
      obtain ⟨a, ls, rfl, e1, e2⟩ := Rd'.dict h
      exact .inl ⟨a, ls, rfl, e1, fun p np => k Hs _ _ (.dict kvs) (Go.laid np) (r.laid np) (r.newC np (.dic e2)) q⟩
    case list ps =>
      obtain ⟨a, xs, rfl, e1, e2⟩ := Rd'.list h
      obtain ⟨kvs, e3, q⟩ := q
      obtain ⟨as, ks, rfl, h2, h3⟩ := pairs_rp r.sub e2 e3
      exact .inr (.inl ⟨a, as, ks, rfl, SqL.of e1, h2, fun p np => k Hs _ _ (.dict _) (Go.laid np) (r.laid np) (r.newC np (.dic (h3.merge .nil))) q⟩)
    case tuple ps =>
      cases (show Rp C.K Hs v (.tuple ps) from h) with
      | @tup a xs _ e1 e2 =>
      obtain ⟨kvs, e3, q⟩ := q
      obtain ⟨as, ks, rfl, h2, h3⟩ := pairs_rp r.sub e2 e3
      exact .inr (.inr ⟨a, as, ks, rfl, Same.tqT r.sub e1, h2, fun p np => k Hs _ _ (.dict _) (Go.laid np) (r.laid np) (r.newC np (.dic (h3.merge .nil))) q⟩)
  | [], [], _ => exact q.elim
  | _ :: _ :: _, _ :: _ :: _, _ => exact q.elim
/-! sorted -/
def sortD : DF := fun ds Q => match ds with
  | [d] => (match d with
    | .dict kvs => ∃ ks : List Str, kvs.map Prod.fst = ks.map PyData.str ∧ ks.length < 64 ∧ ∀ ys : List Str, ys.Perm ks → sortedS ys = true → Q (.list (ys.map PyData.str))
    | .list xs => ∃ ks : List Str, xs = ks.map PyData.str ∧ ks.length < 64 ∧ ∀ ys : List Str, ys.Perm ks → sortedS ys = true → Q (.list (ys.map PyData.str))
    | _ => False)
  | _ => False
def rSortG (K : PySem.W.Frag) : List V → Hp → VK → Prop := fun xs H Q => (∃ (a : Addr) (kvs : List (Key × V)) (ks : List Str), xs = [.ref a] ∧ Rd H a (.dK kvs) ∧ kvs.map (·.1) = ks.map Sum.inr ∧ ks.length < 64 ∧
    ∀ ys p, ys.Perm ks → sortedS ys = true → H p = none → Q (.ref p) (upd H p (.lst (ys.map V.str)))) ∨
  rSortedS K xs H Q
theorem sortG {X : Cx} (K : PySem.W.Frag) (eK : X.K = K) (hc : X.calm = true) : CallR X (.builtin "sorted") (rSortG K) := by
  subst eK
  exact CallR.or (call_sortedD hc) cr_sortedS
theorem strs_map {K : PySem.W.Frag} {H : Hp} : ∀ {xs : List V} {ks : List Str}, RpAll K H xs (ks.map PyData.str) → xs = ks.map V.str
  | _, [], h => by cases h; rfl
  | _, k :: ks, h => by
    cases h with
    | cons a b => cases a; rw [strs_map b]; rfl
theorem strs_rp' {K : PySem.W.Frag} {H : Hp} : ∀ ys : List Str, RpAll K H (ys.map V.str) (ys.map PyData.str)
  | [] => .nil
  | y :: ys => .cons (.str y) (strs_rp' ys)
theorem keys_map {K : PySem.W.Frag} {H : Hp} : ∀ {kvs : List (Key × V)} {ds : List (D × D)} {ks : List Str}, RpKV K H kvs ds → ds.map Prod.fst = ks.map PyData.str → kvs.map (·.1) = ks.map Sum.inr
  | _, _, [], .nil, _ => rfl
  | _, _, k :: ks, .nil, e => by cases e
  | _, _, [], .cons a b, e => by cases e
  | _, _, k :: ks, .cons (k := kk) a b, e => by
    rw [List.map_cons, List.map_cons] at e
    injection e with e1 e2
    rw [List.map_cons, List.map_cons, keys_map b e2]
    cases kk with
    | inl i => cases e1
    | inr z => cases e1; rfl
theorem caA_sort : CaA C (rSortG C.K) sortD := by
  intro H0 S0 Hs σ H s vs ds Q Q' r hd q k
  match vs, ds, hd with
  | [v], [d], ⟨h, _⟩ =>
    cases d <;> first | exact q.elim | skip
    case dict kvs =>
      obtain ⟨a, ls, rfl, e1, e2⟩ := Rd'.dict h
      obtain ⟨ks, e3, hl, q⟩ := q
      exact .inl ⟨a, ls, ks, rfl, e1, keys_map e2 e3, hl, fun ys p hp hs np => k Hs _ _ (.list _) (Go.laid np) (r.laid np) (r.newList np (strs_rp' ys)) (q ys hp hs)⟩
    case list xs =>
      obtain ⟨a, ls, rfl, e1, e2⟩ := Rd'.list h
      obtain ⟨ks, rfl, hl, q⟩ := q
      obtain rfl := strs_map e2
      exact .inr ⟨a, ks, rfl, SqL.of e1, hl, fun ys p hp hs np => k Hs _ _ (.list _) (Go.laid np) (r.laid np) (r.newList np (strs_rp' ys)) (q ys hp hs)⟩
  | [], [], _ => exact q.elim
  | _ :: _ :: _, _ :: _ :: _, _ => exact q.elim
end


/-! ### a list or dict that a def changes for its caller -/
def spB (K : PySem.W.Frag) (j n : Nat) (F : List D → (D → D → Prop) → Prop) : Sp := fun vs H Q _ => ∃ (Hs : Hp) (ds : List D) (Q0 : D → D → Prop) (p : Addr) (o : HO) (dj : D), Same Hs H ∧ vs[j]? = some (.ref p) ∧ H p = some o ∧ Hs p = none ∧ Cn K Hs o dj ∧ vs.length = n ∧ ds.length = n ∧ ds[j]? = some dj ∧
  (∀ i v d, i ≠ j → vs[i]? = some v → ds[i]? = some d → Rp K Hs v d) ∧ F ds Q0 ∧
  ∀ d dj' Hs' H' v o', Q0 d dj' → Same Hs Hs' → Same Hs' H' → But p H H' → (∀ b, Hs b = none → Hs' b ≠ none → H b = none) → Hs' p = none → H' p = some o' → Cn K Hs' o' dj' → Rp K Hs' v d → Q v H'
section
variable {C : Cf} {σ : L2.St} {H0 S0 Hs H Hs' H' : Hp} {s : S}
theorem R.stepB {i : Nat} {b : Addr} {dj dj' : D} {o' : HO} (r : R C H0 S0 Hs σ H s) (hi : i ∈ C.M) (es : σ[i]? = some (some (.ref b))) (hd : s.δ[i]? = some (some dj)) (st : Same Hs Hs') (sb : Same Hs' H') (hh : But b H H') (nw : ∀ b, Hs b = none → Hs' b ≠ none → H b = none) (nb : Hs' b = none) (ho : H' b = some o') (c : Cn C.K Hs' o' dj') :
    R C H0 S0 Hs' σ H' { s with δ := s.δ.set i (some dj') } ∧ Go C σ Hs H Hs' H' := by
  have hil : i < s.δ.length := (List.getElem?_eq_some_iff.mp hd).1
  obtain ⟨b0, o0, e1, e2, e3, e4, e5⟩ := r.mt i dj hd hi
  rw [es] at e1
  obtain rfl : b = b0 := by cases e1; rfl
  have bne : ∀ {x : Addr}, H0 x ≠ none → x ∉ C.bor → x ≠ b := fun h1 h2 z => by
    subst z
    rcases e5 with e5 | e5
    · exact h1 e5
    · exact h2 e5
  have sete : (s.δ.set i (some dj'))[i]? = some (some dj') := by rw [List.getElem?_set_self hil]
  have setn : ∀ k, k ≠ i → (s.δ.set i (some dj'))[k]? = s.δ[k]? := fun k h => List.getElem?_set_ne (Ne.symm h)
  refine ⟨⟨by rw [List.length_set]; exact r.len, sb, fun k d e m => ?_, fun k d e m => ?_, fun k m e => ?_, r.sep, fun p c' e => ?_, r.br, r.s0.trans st, fun b' o n e => ?_, fun b' h1 h2 => ?_⟩, st, fun b' o e n m => ?_, fun b' o e => ?_, nw⟩
  · have hk : k ≠ i := fun z => m (by rw [z]; exact hi)
    have e : (s.δ.set i (some dj'))[k]? = some (some d) := e
    rw [setn k hk] at e
    obtain ⟨v, f1, f2⟩ := r.slot k d e m
    exact ⟨v, f1, Rp.mono st f2⟩
  · have e : (s.δ.set i (some dj'))[k]? = some (some d) := e
    by_cases hk : k = i
    · subst hk
      rw [sete] at e
      cases e
      exact ⟨b, o', es, ho, nb, c, e5⟩
    · rw [setn k hk] at e
      obtain ⟨a, u, f1, f2, f3, f4, f5⟩ := r.mt k d e m
      have hab : a ≠ b := fun z => hk (r.sep k i a m hi f1 (by rw [z]; exact es))
      exact ⟨a, u, f1, hh a u hab f2, none_of_new nw f3 f2, f4.mono st, f5⟩
  · have e : (s.δ.set i (some dj'))[k]? = some none := e
    have hk : k ≠ i := fun z => by subst z; rw [sete] at e; cases e
    rw [setn k hk] at e
    exact r.dead k m e
  · obtain ⟨f1, f2, f3, f4, f5, f6, f7, f8, f9⟩ := r.pn p c' e
    have pb : p ≠ b := bne f4 f8
    have cb : c' ≠ b := bne f5 f9
    obtain ⟨_, ep⟩ := f2.at_
    refine ⟨f1, (f2.mono st (Same.refl _)).but (q := b) hh pb cb, none_of_new nw f3 ep, f4, f5, ?_, f7, f8, f9⟩
    have hk : C.ps ≠ i := fun z => f7 (by rw [z]; exact hi)
    show (s.δ.set i (some dj'))[C.ps]? = some none
    rw [setn _ hk]
    exact f6
  · have hb : b' ≠ b := fun z => by
      subst z
      rcases e5 with e5 | e5
      · rw [e5] at e; cases e
      · exact n (.inr e5)
    exact hh b' o hb (r.h0 b' o n e)
  · cases q : Hs b' with
    | some o => exact r.new b' h1 (by rw [q]; exact fun z => nomatch z)
    | none => exact (r.free0 (nw b' q h2)).1
  · have hb : b' ≠ b := fun z => n ⟨i, hi, by rw [z]; exact es⟩
    exact hh b' o hb e
  · by_cases hb : b' = b
    · exact ⟨o', by rw [hb]; exact ho⟩
    · exact ⟨o, hh b' o hb e⟩
/-- the arguments of a call, the one at j a list or dict of its own -/
structure SimB (C : Cf) (i j n : Nat) (ta : TA) (t : DA) : Prop where
  run : ∀ (H0 S0 Hs : Hp) (σ : L2.St) (H : Hp) (s : S) (Q : List D → S → Prop) (Q' : List V → Hp → Prop), R C H0 S0 Hs σ H s → t s Q →
    (∀ Hs' H' vs ds s', Go C σ Hs H Hs' H' → R C H0 S0 Hs' σ H' s' → (∃ b, σ[i]? = some (some (.ref b)) ∧ vs[j]? = some (.ref b)) → vs.length = n → ds.length = n → (∀ k v d, k ≠ j → vs[k]? = some v → ds[k]? = some d → Rp C.K Hs' v d) → Q ds s' → Q' vs H') → ta σ H Q'
def dHole (i : Nat) (r : DA) : DA := fun s Q => (∃ d, s.δ[i]? = some (some d)) ∧ r s fun ds s1 => Q (.none :: ds) s1
theorem RpAll.at {K : PySem.W.Frag} {H : Hp} {vs : List V} {ds : List D} (h : RpAll K H vs ds) {k : Nat} {v : V} {d : D} (e1 : vs[k]? = some v) (e2 : ds[k]? = some d) : Rp K H v d := by
  obtain ⟨x, e, r⟩ := h.get e2
  rw [e1] at e
  cases e
  exact r
theorem simB_here {i n : Nat} {ta : TA} {t : DA} (hi : i ∈ C.M) (h : SimA C n ta t) : SimB C i 0 (n + 1) (tCons (tVar i) ta) (dHole i t) := by
  refine ⟨fun H0 S0 Hs σ H s Q Q' r ⟨⟨d, e⟩, q⟩ k => ?_⟩
  obtain ⟨b, o, e1, _⟩ := r.mt i d e hi
  refine ⟨.ref b, e1, h.run H0 S0 Hs σ H s _ _ r q fun Hs1 H1 vs ds s1 g1 r1 v1 l1 q1 => ?_⟩
  refine k Hs1 H1 _ _ s1 g1 r1 ⟨b, e1, rfl⟩ (by rw [List.length_cons, v1.len, l1]) (by rw [List.length_cons, l1]) (fun j v d hj ev ed => ?_) q1
  cases j with
  | zero => exact absurd rfl hj
  | succ j => exact v1.at (k := j) ev ed
theorem simB_cons {i j n : Nat} {ca : Cat} {te : TE} {dt : DT} {ta : TA} {t : DA} (ha : Sim C ca te dt) (h : SimB C i j n ta t) : SimB C i (j + 1) (n + 1) (tCons te ta) (dCons dt t) := by
  refine ⟨fun H0 S0 Hs σ H s Q Q' r q k => ?_⟩
  refine ha.toE.run H0 S0 Hs σ H s _ _ r q fun Hs1 H1 v d s1 g1 r1 v1 q1 => ?_
  refine h.run H0 S0 Hs1 σ H1 s1 _ _ r1 q1 fun Hs2 H2 vs ds s2 g2 r2 hb l1 l2 ap q2 => ?_
  refine k Hs2 H2 _ _ s2 (g1.trans g2) r2 hb (by rw [List.length_cons, l1]) (by rw [List.length_cons, l2]) (fun m x y hm ex ey => ?_) q2
  cases m with
  | zero => cases ex; cases ey; exact Rp.mono g2.st v1
  | succ m => exact ap m x y (fun z => hm (by rw [z])) ex ey
def dCallB (F : List D → (D → D → Prop) → Prop) (i j : Nat) (a : DA) : DT := fun s Q => a s fun ds s1 => match s1.δ[i]? with
  | some (some dj) => F (ds.set j dj) fun d dj' => Q d { s1 with δ := s1.δ.set i (some dj') }
  | _ => False
theorem sim_callB {i j n : Nat} {F : List D → (D → D → Prop) → Prop} {ta : TA} {a : DA} (hi : i ∈ C.M) (hj : j < n) (h : SimB C i j n ta a) : Sim C .E (tCall (spB C.K j n F) [] E0 ta) (dCallB F i j a) := by
  refine ⟨fun H0 S0 Hs σ H s Q Q' r q k => h.run H0 S0 Hs σ H s _ _ r q fun Hs1 H1 vs ds s1 g1 r1 ⟨b, eb, ev⟩ l1 l2 ap q1 => ?_⟩
  rw [List.append_nil]
  split at q1
  · rename_i dj ej
    obtain ⟨b', o, e1, e2, e3, e4, e5⟩ := r1.mt i dj ej hi
    rw [eb] at e1
    cases e1
    refine ⟨Hs1, ds.set j dj, _, b, o, dj, r1.sub, ev, e2, e3, e4, l1, by rw [List.length_set]; exact l2, by rw [List.getElem?_set_self (by omega)], fun m v d hm e1 e2 => ?_, q1, fun d dj' Hs' H' v o' q2 st sb hh nw np ho cn rp => ?_⟩
    · rw [List.getElem?_set_ne (Ne.symm hm)] at e2
      exact ap m v d hm e1 e2
    · obtain ⟨r2, g2⟩ := r1.stepB hi eb ej st sb hh nw np ho cn
      exact k Hs' H' v d _ (g1.trans g2) r2 rp q2
  · exact q1.elim
end
section
variable {P : Program} {w : World} {K : PySem.W.Frag} {mg : Str → Option Value} {base : Heap}
theorem RpSlots {H : Hp} {p : Addr} : ∀ {vs : List V} {ds : List D} (N : List Str) (j : Nat), vs.length = ds.length → (∀ i v d, i ≠ j → vs[i]? = some v → ds[i]? = some d → Rp K H v d) → (L2.start N vs).length = (start' N.length ds).length ∧ ∀ (i : Nat) (d : D), i ≠ j → (start' N.length ds)[i]? = some (some d) → ∃ v, (L2.start N vs)[i]? = some (some v) ∧ Rp K H v d := by
  intro vs ds N j hl h
  unfold L2.start start'
  refine ⟨by rw [List.length_append, List.length_append, List.length_map, List.length_map, List.length_replicate, List.length_replicate, hl], fun i d hij e => ?_⟩
  by_cases hi : i < ds.length
  · rw [List.getElem?_append_left (by rw [List.length_map]; exact hi), List.getElem?_map] at e
    rw [List.getElem?_append_left (by rw [List.length_map, hl]; exact hi), List.getElem?_map]
    cases q : ds[i]? with
    | none => rw [q] at e; cases e
    | some d' =>
      rw [q] at e
      cases e
      have hv : i < vs.length := by rw [hl]; exact hi
      refine ⟨vs[i], by rw [List.getElem?_eq_getElem hv]; rfl, h i _ d hij (List.getElem?_eq_getElem hv) q⟩
  · rw [List.getElem?_append_right (by rw [List.length_map]; omega), List.getElem?_replicate] at e
    split at e <;> cases e
/-- a def that changes the list or dict handed in at j -/
theorem Ok.ofB {x : Str} {st : Stmt} {N ps : List Str} {k j n : Nat} {M : List Nat} {F : List D → (D → D → Prop) → Prop} (D' : Df K mg x st ps) (S' : FnScope N ps (defScope st)) (hn : ps.length = n) (hj : j < n) (hM : ∀ i ∈ M, n ≤ i ∧ i < N.length)
    (hbody : ∀ (f : Addr) (cdv : Value) (A : Around) (outer : List Env) (s : Shared) (H : Hp) (E : XK) (p : Addr), Rm k (A.deeper (envOfC x (defScope st) s.heap.objs.size f cdv)) →
      ∃ t d, PSs (cxOf CX0 P w K mg base N x (defScope st) f cdv A outer s H E).nox (defBody st) t ∧ SimS { K := K, pen := none, ps := 1000, M := j :: M, bor := [p], bs := [j] } .E t d ∧ ∀ ds (Q : D → D → Prop), ds.length = n → F ds Q →
        d { nx := fun s => ∀ dj, s.δ[j]? = some (some dj) → Q .none dj, rt := fun z s => ∀ dj, s.δ[j]? = some (some dj) → Q z dj } { δ := start' N.length ds, n := 0 }) :
    Ok P w K mg base (k + 1) x ps (spB K j n F) := by
  refine Ok.mk D' S' (fun vs H Q E h => ?_) (fun f cdv A outer s H vs Q E hr h => ?_)
  · obtain ⟨Hs, ds, Q0, p, o, dj, _, _, _, _, _, h2, _⟩ := h
    rw [h2, hn]
  obtain ⟨Hs, ds, Q0, p, o, dj, h1, ep, eo, np, cn, l1, l2, ej, rp, hF, h5⟩ := h
  obtain ⟨t, d, ht, hs, hd⟩ := hbody f cdv A outer s H E p hr
  refine ⟨t, ht, ?_⟩
  obtain ⟨sl, ss⟩ := RpSlots (K := K) (H := Hs) (p := p) N j (by rw [l1, l2]) rp
  have sj : (L2.start N vs)[j]? = some (some (.ref p)) := by
    unfold L2.start
    rw [List.getElem?_append_left (by rw [List.length_map, l1]; exact hj), List.getElem?_map, ep]
    rfl
  have dj0 : (start' N.length ds)[j]? = some (some dj) := by
    unfold start'
    rw [List.getElem?_append_left (by rw [List.length_map, l2]; exact hj), List.getElem?_map, ej]
    rfl
  have nn : ∀ i, i ∈ M → (L2.start N vs)[i]? = some none := fun i m => start_none N (by rw [l1]; exact (hM i m).1) (hM i m).2
  have jM : j ∉ M := fun z => by have := (hM j z).1; omega
  have fin : ∀ (Hs' : Hp) (σ' : L2.St) (H' : Hp) (s' : S) (v : V) (z : D), R { K := K, pen := none, ps := 1000, M := j :: M, bor := [p], bs := [j] } H Hs Hs' σ' H' s' → Rp K Hs' v z → (∀ dj, s'.δ[j]? = some (some dj) → Q0 z dj) → Q v H' := by
    intro Hs' σ' H' s' v z r rz q
    obtain ⟨⟨i, hib, him, hip⟩, _⟩ := r.br p (List.mem_singleton.mpr rfl)
    have hib : i ∈ [j] := hib
    rw [List.mem_singleton] at hib
    subst hib
    have il : i < s'.δ.length := by rw [← r.len]; exact (List.getElem?_eq_some_iff.mp hip).1
    cases e : s'.δ[i]'il with
    | none =>
      have := r.dead i him (by rw [List.getElem?_eq_getElem il, e])
      rw [hip] at this
      cases this
    | some dj' =>
      have e' : s'.δ[i]? = some (some dj') := by rw [List.getElem?_eq_getElem il, e]
      obtain ⟨a, o', f1, f2, f3, f4, _⟩ := r.mt i dj' e' him
      rw [hip] at f1
      cases f1
      refine h5 z dj' Hs' H' v o' (q dj' e') r.s0 r.sub (fun b u nb eb => r.h0 b u (fun z => ?_) eb) r.new f3 f2 f4 rz
      rcases z with ⟨c, z⟩ | z
      · cases z
      · exact nb (List.mem_singleton.mp z)
  refine hs.run H Hs Hs (L2.start N vs) H _ { nx := fun s => ∀ dj, s.δ[j]? = some (some dj) → Q0 .none dj, rt := fun z s => ∀ dj, s.δ[j]? = some (some dj) → Q0 z dj } _ ?_ (hd ds Q0 l2 hF) ⟨fun Hs' σ' H' s' r q => fin Hs' σ' H' s' .non .none r .non q, fun Hs' σ' H' s' v z r rv q => fin Hs' σ' H' s' v z r rv q, fun _ _ _ _ _ q => q.elim, fun _ _ _ _ _ q => q.elim, fun _ _ _ _ _ q => q.elim⟩
  refine ⟨sl, h1, fun i dd e m => ss i dd (fun z => m (by rw [z]; exact List.mem_cons_self ..)) e, fun i dd e m => ?_, fun i m e => ?_, fun i i2 a m1 m2 e1 e2 => ?_, fun p c e => (nomatch e), fun b hb => ?_, Same.refl _, fun b o _ e => e, fun b e1 e2 => absurd e1 e2⟩
  · rcases List.mem_cons.mp m with rfl | m
    · rw [dj0] at e
      cases e
      exact ⟨p, o, sj, eo, np, cn, .inr (List.mem_singleton.mpr rfl)⟩
    · exfalso
      have hh := (hM i m)
      have : (start' N.length ds)[i]? = some none := by
        unfold start'
        rw [List.getElem?_append_right (by rw [List.length_map, l2]; exact hh.1), List.getElem?_replicate, if_pos (by rw [List.length_map]; omega)]
      rw [this] at e
      cases e
  · rcases List.mem_cons.mp m with rfl | m
    · rw [dj0] at e
      cases e
    · exact nn i m
  · rcases List.mem_cons.mp m1 with rfl | m1
    · rcases List.mem_cons.mp m2 with rfl | m2
      · rfl
      · rw [nn i2 m2] at e2; cases e2
    · rw [nn i m1] at e1; cases e1
  · have hb : b ∈ [p] := hb
    rw [List.mem_singleton] at hb
    subst hb
    exact ⟨⟨j, List.mem_singleton.mpr rfl, List.mem_cons_self .., sj⟩, by rw [eo]; simp⟩
end

open PySem.Sem (wp)
open TL (tl)
/-! ### xs[i] += e; any of whole numbers -/
section
variable {C : Cf} {cat ca cb : Cat} {ta tb : TE} {da db : DT}
def dAugAt (i : Nat) (f : DO) (j a : DT) : DSt := fun E s => (∃ z, s.δ[i]? = some (some (.list z))) ∧ j s fun k s1 => match k with
  | .int n => (match s1.δ[i]? with
    | some (some (.list ds)) => IxP (atI ds n) fun x => a s1 fun y s2 => f x y fun z => isC z = false ∧ (match s2.δ[i]? with
      | some (some (.list ds2)) => (match ixN ds2.length n with
        | some m => E.nx { s2 with δ := s2.δ.set i (some (.list (ds2.set m z))) }
        | none => False)
      | _ => False)
    | _ => False)
  | _ => False
theorem simS_augAt {r : R2} {f : DO} (i : Nat) (hi : i ∈ C.M) (ho : OpA C r f) (hj : Sim C cb tb db) (h : Sim C ca ta da) : SimS C cat (tAugS (tVar i) tb ta (rIxL C.K) r rSetL) (dAugAt i f db da) := by
  refine ⟨fun H0 S0 Hs σ H s E D' r0 ⟨⟨z, ez⟩, q⟩ k => ?_⟩
  obtain ⟨x, xs, e1, _⟩ := r0.mtL hi ez
  refine ⟨_, e1, hj.run H0 S0 Hs σ H s _ _ r0 q fun Hs1 H1 w dk s1 g1 r1 v1 q1 => ?_⟩
  cases dk <;> first | exact q1.elim | skip
  rename_i n
  cases v1.int'
  dsimp only at q1
  split at q1
  · rename_i ds ed
    obtain ⟨⟨d, ha, q1⟩⟩ := q1
    obtain ⟨x', o, f1, f2, f3, f4, f5⟩ := r1.mt i _ ed hi
    rw [e1] at f1
    cases f1
    cases f4
    rename_i xs1 f4
    obtain ⟨v, hv, rv⟩ := atI_all f4 ha
    refine ⟨x, xs1, n, v, rfl, rfl, SqL.of f2, hv, h.run H0 S0 Hs1 σ H1 s1 _ _ r1 q1 fun Hs2 H2 y dy s2 g2 r2 v2 q2 => ?_⟩
    refine ho H0 S0 Hs2 σ H2 s2 v y d dy _ _ r2 (Rp.rd (Rp.mono g2.st rv) r2.sub) (v2.rd r2.sub) q2 fun Hs3 H3 z dz g3 r3 v3 q3 => ?_
    obtain ⟨hz, q3⟩ := q3
    split at q3
    · rename_i ds2 e2
      split at q3
      · rename_i m em
        obtain ⟨x2, o2, e4, e5, e6, e7, e8⟩ := r3.mt i _ e2 hi
        rw [e1] at e4
        cases e4
        cases e7
        rename_i xs2 e7
        obtain ⟨r4, _⟩ := r3.upd hi e2 e1 (.lst (e7.set m (v3.p hz)))
        exact ⟨x, xs2, n, m, rfl, rfl, e5, by rw [e7.len]; exact em, k.nx Hs3 _ _ _ r4 q3⟩
      · exact q3.elim
    · exact q3.elim
  · exact q1.elim
end
theorem truth_ints {prog : Program} {w : World} {A : Around} {ns : List Int} {its : List Value} (e : Vals (ns.map V.int) its) :
    TruthOf prog w A (fun i v => its.toArray[i]? = some v) (fun i => (ns.map fun n => n != 0).getD i false) := fun i v s Q E hv hq => by
  have hv' : its[i]? = some v := by simpa using hv
  have hi : i < its.length := (List.getElem?_eq_some_iff.mp hv').1
  have hl := e.length
  rw [List.length_map] at hl
  have hx : (ns.map V.int)[i]? = some (V.int (ns[i]'(by omega))) := by rw [List.getElem?_map, List.getElem?_eq_getElem (by omega)]; rfl
  obtain ⟨u, hu, ru⟩ := e.get hx
  rw [hv'] at hu
  cases hu
  obtain ⟨t, rfl⟩ := ru
  have hg : (ns.map fun n => n != 0).getD i false = ((ns[i]'(by omega)) != 0) := by
    rw [List.getD_eq_getElem?_getD, List.getElem?_map, List.getElem?_eq_getElem (by omega)]; rfl
  have hq' : Q ((ns.map fun n => n != 0).getD i false) s := hq
  rw [hg] at hq'
  exact PySem.P.truthy_int hq'
def rAnyI (K : PySem.W.Frag) : List V → Hp → VK → Prop := fun vs H Q => ∃ (a : Addr) (ns : List Int), vs = [V.ref a] ∧ SqL K H a (ns.map V.int) ∧ Q (.bl (ns.any fun n => n != 0)) H
theorem cr_anyI {X : Cx} (K : PySem.W.Frag) (eK : X.K = K) (hc : X.calm = true) : CallR X (.builtin "any") (rAnyI K) := by
  subst eK
  intro pins s σ H vs us Q I r h
  obtain ⟨a, ns, rfl, hs, q⟩ := h
  obtain ⟨its, rv, hl, _⟩ := I.list hs
  rw [Vals.ref1 r]
  refine call_any_walk (iter_any hl.isList fun s₂ e2 st hne => ?_)
  subst e2
  refine ⟨_, _, _, _, _, _, _, rfl, Walks.list (A := X.A.in1) (I.ok.hd hc) _ a hne its.toArray, st, truth_ints rv, fun h' tk hk => ?_⟩
  refine ⟨.bl _, H, I.kept fun b o eo => hk b o (fun hmem => ?_) (Heap.get?_push_of_some _ eo), ?_, q⟩
  · rcases List.mem_cons.mp hmem with e1 | hmem
    · exact absurd (e1 ▸ Heap.lt_size eo) (Nat.lt_irrefl _)
    · cases hmem
  · show Value.bool _ = Value.bool _
    have hl := rv.length
    rw [List.length_map] at hl
    have e := any_range (ns.map fun n => n != 0)
    rw [List.length_map, List.any_map] at e
    rw [List.size_toArray, ← hl, e]
    rfl
section
variable {C : Cf}
def anyID : DF := fun ds Q => match ds with
  | [d] => (match d with
    | .list xs => ∃ ns, intsOf xs = some ns ∧ Q (.bool (ns.any fun n => n != 0))
    | _ => False)
  | _ => False
theorem caA_anyI : CaA C (rAnyI C.K) anyID := by
  intro H0 S0 Hs σ H s vs ds Q Q' r hd q k
  match vs, ds, hd with
  | [v], [d], ⟨h, _⟩ =>
    cases d <;> first | exact q.elim | skip
    obtain ⟨a, ys, rfl, e1, e2⟩ := Rd'.list h
    obtain ⟨ns, e3, q⟩ := q
    rw [ints_rp e2 e3] at e1
    exact ⟨a, ns, rfl, SqL.of e1, k Hs H _ (.bool _) Go.refl r (Val.mkP (Rp.bl _) rfl) q⟩
  | [], [], _ => exact q.elim
  | _ :: _ :: _, _ :: _ :: _, _ => exact q.elim
end
def ifdivD : DO := fun x y Q => match x, y with
  | .int i, .int j => CDiv i j ∧ Q (.int (i / j))
  | _, _ => False
theorem opA_ifdiv {C : Cf} : OpA C (rI CDiv fun i j => .int (i / j)) ifdivD := by
  intro H0 S0 Hs σ H s x y dx dy Q Q' r hx hy q k
  cases dx <;> cases dy <;> first | exact q.elim | skip
  case int.int i j => cases hx; cases hy; exact ⟨i, j, rfl, rfl, q.1, k Hs H _ (.int (i / j)) Go.refl r (Val.mkP (Rp.int _) rfl) q.2⟩
def imulD : DO := fun x y Q => match x, y with
  | .int i, .int j => CMul i j ∧ Q (.int (i * j))
  | _, _ => False
theorem opA_imul {C : Cf} : OpA C (rI CMul fun i j => .int (i * j)) imulD := by
  intro H0 S0 Hs σ H s x y dx dy Q Q' r hx hy q k
  cases dx <;> cases dy <;> first | exact q.elim | skip
  case int.int i j => cases hx; cases hy; exact ⟨i, j, rfl, rfl, q.1, k Hs H _ (.int (i * j)) Go.refl r (Val.mkP (Rp.int _) rfl) q.2⟩

/-! ### defs that may raise, asked only where no repr is under way -/
structure FnGX (P : Program) (w : World) (K : PySem.W.Frag) (mg : Str → Option Value) (base : Heap) (k : Nat) (f : Addr) (fd : FuncData) (ps : List Str) (sp : Sp) : Prop where
  len : ∀ vs H Q E, sp vs H Q E → vs.length = ps.length
  run : ∀ (A : Around) (fs : List Env) (s : Shared) (H : Hp) (ar : Args) (us : List Value) (vs : List V) (Q : VK) (E : XK), Room k A → A.guards = some [] → Env0 P w K mg base A fs s H → BindsTo s fd ar (ps.zip us) → Vals vs us → sp vs H Q E →
    codeAny (model P w) A (.call (.ref f) ar) (CR (L2.CX P w) fs P w H s Q E) s
def OkX (P : Program) (w : World) (K : PySem.W.Frag) (mg : Str → Option Value) (base : Heap) (k : Nat) (x : Str) (ps : List Str) (sp : Sp) : Prop :=
  ∃ (f : Addr) (fd : FuncData), mg x = some (.ref f) ∧ PySem.W.keepIn K (.ref f) = true ∧ Binds K fd ps [] ∧ FnGX P w K mg base k f fd ps sp
section
variable {P : Program} {w : World} {K : PySem.W.Frag} {mg : Str → Option Value} {base : Heap}
theorem Fun.okGX {x q : Str} {st : Stmt} {f : Addr} {fd : FuncData} {N ps : List Str} {k : Nat} {sp : Sp} (F : Fun K x q st f fd) (S : FnScope N ps (defScope st)) (len : ∀ vs H Q E, sp vs H Q E → vs.length = ps.length)
    (hbody : ∀ (cdv : Value) (A : Around) (fs : List Env) (s : Shared) (H : Hp) (vs : List V) (Q : VK) (E : XK), Room k (A.deeper (envOfC q (defScope st) s.heap.objs.size f cdv)) → A.guards = some [] → sp vs H Q E →
      ∃ t, PSs (cxOf (L2.CX P w) P w K mg base N q (defScope st) f cdv A fs s H E) (defBody st) t ∧ t { nx := fun _ H' => Q .non H', rt := Q } (L2.start N vs) H) : FnGX P w K mg base (k + 1) f fd ps sp := by
  obtain ⟨oc, od, kV, doc, pm, an, cdv, ct, osl, rfl, lk, hcd⟩ := F.ex
  refine ⟨len, fun A fs s H ar us vs Q E hr hg e0 hb rv hsp => ?_⟩
  have kin : K.In s.heap := e0.mod.kin.keeps fun b o z => (e0.bs b o z).1
  have nl : s.heap.NoLimit := e0.mod.nolimit.keeps fun b o z => (e0.bs b o z).1
  have loc : ∀ y ∈ ps.zip us, (defScope st).names.lookup y.1 = some .local ∨ ((defScope st).names.lookup y.1 = some .cell ∧ ((cellsFrom (s.heap.objs.size + 1) (defScope st).names []).lookup y.1).isSome = true) := by
    rintro ⟨n, v⟩ hy
    exact (S.par n (List.of_mem_zip hy).1).imp_right fun z => ⟨z, PySem.W.cellsFrom_some _ _ _ (.inl z)⟩
  refine codeAny_call_function hr.depth (kin _ _ lk) rfl S.co S.gen rfl (PySem.W.codeRec_of kin hcd) (hb _ _ _ _ (wpAny_newFunctionEnv_cells S.kind loc fun env he s1 x => ?_))
  subst he
  refine ⟨nl.keeps x.toInCall.keep, codeAny_func ?_⟩
  obtain ⟨t, ht, hq⟩ := hbody cdv A fs s H vs Q E (hr.deeper _) hg hsp
  have J0 := inv_start (CX := L2.CX P w) (E := E) S hr.hd e0 (len _ _ _ _ hsp) rv x
  refine wpAny_mono (ht.run [] s1 (L2.start N vs) H _ J0 hq) (fun fl s' hs => ?_) (fun _ _ z => z)
  cases fl with
  | ret u =>
    obtain ⟨v, σ', H', J, r', q'⟩ := hs
    exact ⟨v, H', J.os, J.bare, J.base, J.hok, r', q'⟩
  | next =>
    obtain ⟨σ', H', J, q'⟩ := hs
    exact ⟨V.non, H', J.os, J.bare, J.base, J.hok, rfl, q'⟩
  | brk => exact (hs.elim fun _ z => z.elim fun _ z => z.2.elim)
  | cont => exact (hs.elim fun _ z => z.elim fun _ z => z.2.elim)
theorem OkX.mk {x : Str} {st : Stmt} {N ps : List Str} {k : Nat} {sp : Sp} (D : Df K mg x st ps) (S : FnScope N ps (defScope st)) (len : ∀ vs H Q E, sp vs H Q E → vs.length = ps.length)
    (hbody : ∀ (f : Addr) (cdv : Value) (A : Around) (outer : List Env) (s : Shared) (H : Hp) (vs : List V) (Q : VK) (E : XK), Rm k (A.deeper (envOfC x (defScope st) s.heap.objs.size f cdv)) → sp vs H Q E →
      ∃ t, PSs (cxOf (L2.CX P w) P w K mg base N x (defScope st) f cdv A outer s H E) (defBody st) t ∧ t { nx := fun _ H' => Q .non H', rt := Q } (L2.start N vs) H) : OkX P w K mg base (k + 1) x ps sp := by
  obtain ⟨f, fd, F, b, g⟩ := D
  exact ⟨f, fd, g, F.kp, b, Fun.okGX F S len fun cdv A outer s H vs Q E hr hg h => hbody f cdv A outer s H vs Q E ⟨hr, hg⟩ h⟩
end
section
variable {X : Cx}
theorem runGX {k : Nat} {f : Addr} {fd : FuncData} {ps : List Str} {sp : Sp} {pins : List (Addr × Obj)} {σ : L2.St} {H : Hp} {s : Shared} {Q : VK} {us : List Value} {vs : List V} {E : L2.St → XK} (F : FnGX X.prog X.w X.K X.mg X.base k f fd ps sp) (hr : Room k X.A) (hg : X.A.guards = some []) (hb : Binds X.K fd ps [])
    (hx : PassesAt (L2.CX X.prog X.w) X σ (E σ)) (I : Inv X pins σ H s) (rv : Vals vs us) (h : sp vs H Q (E σ)) : wpAny (model X.prog X.w) X.A (call (.ref f) us) (EP X pins σ Q) X.xe s := by
  have hl : (us ++ []).length = ps.length := by rw [List.append_nil, ← rv.length]; exact F.len _ _ _ _ h
  have b := hb s us I.kIn hl
  rw [List.append_nil] at b
  refine wpAny_call (codeAny_mono (F.run X.A X.stack s H ⟨us, []⟩ us vs Q (E σ) hr hg I.env0 b rv h) fun r s' z => ?_)
  match r, z with
  | .ok (.ret u), z => exact I.after z
  | .ok .next, z => exact False.elim z
  | .ok .brk, z => exact False.elim z
  | .ok .cont, z => exact False.elim z
  | .error e, z => exact hx pins H s e s' I z
theorem pe_fnX {k : Nat} {x : Str} {ps : List Str} {sp : Sp} {e : Expr} {es : List Expr} {t : TA} {p pos : Pos} {E : L2.St → XK} (O : OkX X.prog X.w X.K X.mg X.base k x ps sp) (hr : Room k X.A) (gd : X.A.guards = some []) (hg : Gl X x) (hx : ∀ σ, PassesAt (L2.CX X.prog X.w) X σ (E σ)) (ha : PA X (e :: es) t)
    (hdb : (x == ("__debug__" : Str)) = false := by decide) (he : starEach (e :: es) X.env = (false, eval e X.env) :: starEach es X.env := by rfl) (hpl : (backTo pos (starEach es X.env)).any (·.1) = false := by rfl) :
    PE X (.Call (.Name x p) (e :: es) [] pos) (tCallS sp E t) := by
  obtain ⟨f, fd, hm, hk, hb, F⟩ := O
  exact ⟨fun pins s σ H Q I h => wpAny_Call_Name_kw (ld_glob I hg hm (PySem.W.callWith_K (h₀ := X.base) I.ok.mod.kin hk (thn (ha.run pos pins s σ H _ I h) fun us s1 ⟨vs, H1, I1, r, q⟩ => ⟨I1.kIn, runGX F hr gd hb (hx σ) I1 r q⟩) he hpl) hdb)⟩
end
/-! ### a caught exception that is kept behind the try -/
def ExO (a : Addr) (cls : Value) (d : Option Addr) : HO := HO.ext fun h => ∃ oe vs, h.get? a = some oe ∧ Zc cls d oe ∧ oe.data = .fields vs
section
variable {X : Cx} {pins : List (Addr × Obj)} {σ : L2.St} {H : Hp} {s : Shared}
theorem inv_exo {a : Addr} {oe : Obj} {cls : Value} {d : Option Addr} (I : Inv X ((a, oe) :: pins) σ H s) (hz : Zc cls d oe) (hf : ∃ vs, oe.data = .fields vs) (a0 : X.s_0.heap.get? a = none) (hp : ∀ p ∈ X.pn ++ pins, p.1 ≠ a) : Inv X pins σ (upd H a (ExO a cls d)) s := by
  obtain ⟨e1, e2, e3, e4, e5⟩ := I.pin (a, oe) (List.mem_append.mpr (.inr List.mem_cons_self))
  have ne : ∀ {b : Addr} {o : HO}, H b = some o → b ≠ a := fun h => ne_of_none h e2
  have keep : ∀ {b : Addr} {o : HO}, H b = some o → upd H a (ExO a cls d) b = some o := fun h => by rw [upd_ne (ne h)]; exact h
  refine ⟨I.ok, I.os, I.bare, ⟨I.base.keep, I.base.slot, fun b o q n hx => ?_, I.base.there, fun b xs q => keep (I.base.tups b xs q), fun b o u q => keep (I.base.frzs b o u q), fun b ps q => ?_⟩, I.loc, I.cell, ?_, fun x c q => ?_, fun p h => ?_, fun b o q => ?_, I.len⟩
  · rw [upd_ne (fun z => by subst z; rw [a0] at q; cases q)]
    exact I.base.free b o q n hx
  · obtain ⟨more, z⟩ := I.base.tbls b ps q
    exact ⟨more, keep z⟩
  · rw [upd_ne (Ne.symm e3)]
    exact I.free
  · have nc : c ≠ a := fun z => by
      subst z
      obtain ⟨v, hc⟩ := I.cell x c q
      obtain ⟨o, ho, hd⟩ := hc
      rw [e1] at ho
      cases ho
      exact e5 v hd
    rw [upd_ne nc]
    exact I.freeC x c q
  · have hm : p ∈ X.pn ++ (a, oe) :: pins := by
      rcases List.mem_append.mp h with h | h
      · exact List.mem_append.mpr (.inl h)
      · exact List.mem_append.mpr (.inr (List.mem_cons_of_mem _ h))
    obtain ⟨f1, f2, f3, f4, f5⟩ := I.pin p hm
    exact ⟨f1, by rw [upd_ne (hp p h)]; exact f2, f3, f4, f5⟩
  · by_cases z : b = a
    · subst z
      rw [upd_same] at q
      cases q
      obtain ⟨vs, hf⟩ := hf
      exact ⟨⟨oe, vs, e1, hz, hf⟩, ⟨oe, e1⟩, fun h1 h2 ⟨oe, vs, q1, q2, q3⟩ k => ⟨oe, vs, k _ q1, q2, q3⟩⟩
    · rw [upd_ne z] at q
      exact (I.hok b o q).stay (fun _ _ _ q => q) (fun _ q => keep q) fun _ _ q => keep q
theorem inv_offsuite {a : Addr} {oe : Obj} {pn' : List (Addr × Obj)} (I : Inv (X.suite a ((a, oe) :: (X.pn ++ pins))) pn' σ H s) (ok : X.Ok) : Inv X ((a, oe) :: pins) σ H s :=
  ⟨ok, I.os, I.bare, I.base, I.loc, I.cell, I.free, I.freeC, fun p hp => I.pin p (List.mem_append_left _ (by
    rcases List.mem_append.mp hp with h | h
    · exact List.mem_cons_of_mem _ (List.mem_append.mpr (.inl h))
    · rcases List.mem_cons.mp h with h | h
      · rw [h]; exact List.mem_cons_self
      · exact List.mem_cons_of_mem _ (List.mem_append.mpr (.inr h)))), I.hok, I.len⟩
end
/-- what the clause 'except x as n' wishes, the exception kept -/
def wAsK (K : PySem.W.Frag) (c : Value) (i : Nat) (ts : Addr → Value → Option Addr → TS) (D : Ends) : WX := fun cls d σ H =>
  PySem.W.exmOne K cls c = some true ∧ ∀ a, H a = none → ts a cls d { nx := fun σ' H' => H' a = none → D.nx (σ'.set i none) (upd H' a (ExO a cls d)), rt := fun _ _ => False, bk := fun _ _ => False, ct := fun _ _ => False } (σ.set i (some (.ref a))) H
section
variable {X : Cx} {x n : Str} {c : Value} {i : Nat} {body suite : List Stmt} {b₀ : Stmt} {np pos pos' : Pos} {tb : WX → TS} {ts : Addr → Value → Option Addr → TS}
theorem ps_try_keep (hs : X.stack = X.env :: X.outer) (hf : X.env.frame = some X.env.locals) (hex : X.ex = []) (hN : X.N.Nodup) (hi : X.N[i]? = some n) (hln : X.env.kindOf n = some .local) (hc : Names X x c)
    (hb : ∀ (W : WX) (pn : List (Addr × Obj)) (xe : Value → Shared → Prop), Takes (X.tr pn xe) W → PassesOwn (model X.prog X.w) X.A X.env xe → PSs (X.tr pn xe) body (tb W))
    (hsu : ∀ (a : Addr) (oe : Obj) (cls : Value) (d : Option Addr) (pn : List (Addr × Obj)), Zc cls d oe → (∃ vs, oe.data = .fields vs) → PSs (X.suite a ((a, oe) :: pn)) (b₀ :: suite) (ts a cls d)) :
    PS X (.Try body [.ExceptHandler (some (.Name x np)) (some n) (b₀ :: suite) pos'] [] [] pos) (fun D σ H => tb (wAsK X.K c i ts D) D σ H) := by
  refine ⟨fun pins s σ H D I h => ?_⟩
  have ok := I.ok
  have hfr : X.A.frames = some (X.env :: X.outer) := by rw [ok.frames, hs]
  have hloc : Loc X.env.scope n := .inl hln
  refine wpAny_Try_except ?_
  refine wpAny_mono ((hb (wAsK X.K c i ts D) (X.pn ++ pins) (fun e s₁ => wpAny (model X.prog X.w) X.A (noteFrame e X.env) (fun _ s₂ => wpAny (model X.prog X.w) X.A (setFlight e none) (fun _ s₃ =>
    wpAny (model X.prog X.w) X.A (handleBy e X.env [.ExceptHandler (some (.Name x np)) (some n) (b₀ :: suite) pos']) (SP X pins D) X.xe s₃) X.xe s₂) X.xe s₁) (fun u s' xx => ?_) PassesOwn.looking).run [] s σ H D (I.toTry _) h) (fun f s1 hsp => ?_) (fun e s1 he => he)
  · obtain ⟨a, B, sI, pins', σ', H', cls, d, rfl, J', nb, up, sky, na, os, ag, hb1, hyes⟩ := xx
    have J : Inv X pins σ' H' sI := J'.ofTry ok
    have sky' : Sky B (X.env :: X.outer) a (Zc cls d) X.env.locals s'.heap := by rw [← hs]; exact sky
    show wpAny (model X.prog X.w) X.A (noteFrame (.ref a) X.env) _ _ _
    refine Sky.land Zc.steady hfr hf sky' fun h3 fl3 up3 => ?_
    have J3 : Inv X pins σ' H' { s' with heap := h3 } := J.landed nb fl3.1 (up.trans up3) os ag
    obtain ⟨oe3, vs3, he3, hz3, hd3⟩ := fl3.there
    have notFr : ∀ {h : Heap} {o : Obj} {vs : Array Value}, h.FunFrames B (X.env :: X.outer) → h.get? a = some o → o.data = .fields vs → a ∉ frs (X.env :: X.outer) := fun {h o vs} ff e dd hm => by
      obtain ⟨_, o', e', hnf⟩ := ff.mem hm
      rw [e] at e'; cases e'
      exact hnf _ dd
    have nfr := notFr fl3.2.2.1 he3 hd3
    have nfr' : a ∉ frs X.stack := by rw [hs]; exact nfr
    have gone : ∀ o, sI.heap.get? a = some o → False := fun o e => by
      have := nb a o e nfr'
      rw [fl3.2.1] at this
      cases this
    have a0 : X.s_0.heap.get? a = none := by
      cases q : X.s_0.heap.get? a with
      | none => rfl
      | some o =>
        obtain ⟨o', e1⟩ := J.base.there a o q (by rw [hex]; exact fun z => nomatch z)
        exact (gone o' e1).elim
    have pna : ∀ p ∈ X.pn ++ pins, p.1 ≠ a := fun p hp z => gone p.2 (by rw [← z]; exact (J.pin p hp).1)
    have nL : a ≠ X.env.locals := fun z => nfr (List.mem_filterMap.mpr ⟨X.env, List.mem_cons_self, by rw [hf, z]⟩)
    have nF : a ∉ X.fs := fun hm => by
      obtain ⟨e, he, q⟩ := List.mem_filterMap.mp hm
      exact nfr (List.mem_filterMap.mpr ⟨e, List.mem_cons_of_mem _ he, q⟩)
    have S3 := J3.suite he3 hd3 na nL nF
    refine wpAny_handleBy_cons (codeAny_handlers_test ?_) (by intro q; cases q)
    have LT : PySem.W.Looks (model X.prog X.w) h3 (typeOf (.ref a)) cls := fun A Q E s k q => wpAny_typeOf_ref (k _ _ he3) (by rw [hz3.1]; exact q)
    have LM := PySem.W.exm_one (M := model X.prog X.w) (J3.kIn) LT hb1
    have test : ∀ {Q : Value → Shared → Prop} {E : Value → Shared → Prop}, Q c { s' with heap := h3 } → wpAny (model X.prog X.w) (X.A.mark (some (.ref a))) (eval (.Name x np) X.env) Q E { s' with heap := h3 } := fun {Q E} q => by
      obtain ⟨hg, hdbg, hm | ⟨hm, hv, hnn⟩⟩ := hc
      · exact ld_glob (X := X.suite a ((a, oe3) :: (X.pn ++ pins))) S3 hg hm q hdbg
      · exact ld_blt (X := X.suite a ((a, oe3) :: (X.pn ++ pins))) S3 hg hm hv q hnn hdbg
    refine test (LM.here ?_)
    refine codeAny_handlers_suite_as ?_
    refine HandSPX.lands_againZ fl3 fun h4 fl4 up4 => ?_
    have J4 : Inv X pins σ' H' { s' with heap := h4 } := J.landed nb fl4.1 ((up.trans up3).trans up4) os ag
    obtain ⟨oe4, vs4, he4, hz4, hd4⟩ := fl4.there
    have S4 := J4.suite he4 hd4 na nL nF
    refine store_ok (X := X.suite a ((a, oe4) :: (X.pn ++ pins))) (v := .ref a) S4 hN hi hloc rfl (fun s5 S5 => ?_) (.inr hln)
    refine wpAny_mono ((hsu a oe4 cls d (X.pn ++ pins) hz4 ⟨_, hd4⟩).run [] s5 _ H' _ S5 (hyes a na)) (fun f s6 hsp => ?_) (fun _ _ z => False.elim z)
    cases f with
    | next =>
      obtain ⟨σ6, H6, S6, q6⟩ := hsp
      have n6 := (S6.pin (a, oe4) (List.mem_append_left _ List.mem_cons_self)).2.1
      exact gone_ok (inv_offsuite S6 ok) hN hi hln fun s7 J7 => ⟨_, _, inv_exo J7 hz4 ⟨_, hd4⟩ a0 pna, q6 n6⟩
    | brk =>
      obtain ⟨σ6, H6, S6, q6⟩ := hsp
      exact q6.elim
    | cont =>
      obtain ⟨σ6, H6, S6, q6⟩ := hsp
      exact q6.elim
    | ret u =>
      obtain ⟨v6, σ6, H6, S6, r6, q6⟩ := hsp
      exact q6.elim
  · cases f with
    | next =>
      obtain ⟨σ', H', J', q⟩ := hsp
      exact wpAny_execs_nil ⟨σ', H', J'.ofTry ok, q⟩
    | brk =>
      obtain ⟨σ', H', J', q⟩ := hsp
      exact ⟨σ', H', J'.ofTry ok, q⟩
    | cont =>
      obtain ⟨σ', H', J', q⟩ := hsp
      exact ⟨σ', H', J'.ofTry ok, q⟩
    | ret u =>
      obtain ⟨v, σ', H', J', r, q⟩ := hsp
      exact ⟨v, σ', H', J'.ofTry ok, r, q⟩
end
/-- isinstance(e, c), e a caught exception that was kept -/
def rIsX (K : PySem.W.Frag) (D : Addr) : List V → Hp → VK → Prop := fun xs H Q => ∃ (a : Addr) (c : V) (cv : Value) (b : Bool), xs = [.ref a, c] ∧ H a = some (ExO a (.ref D) none) ∧ (∀ u, RelV c u → u = cv) ∧ PySem.W.kitOne K (.ref D) cv = some b ∧ Q (.bl b) H
theorem isXK {X : Cx} {D : Addr} (K : PySem.W.Frag) (eK : X.K = K) (C : ExcC K D) : CallR X (.builtin "isinstance") (rIsX K D) := by
  subst eK
  intro pins s σ H xs us Q I r h
  obtain ⟨a, c, cv, b, rfl, hH, hcv, e, q⟩ := h
  cases r with
  | cons rx rr =>
    cases rr with
    | cons rt rr =>
      cases rr
      cases rx
      have ec := hcv _ rt
      subst ec
      obtain ⟨⟨oe, vs, hget, hz, hv⟩, _⟩ := I.hok a _ hH
      have J : PySem.W.InstAt s.heap a oe D none := by
        obtain ⟨oc, od, oda, osl⟩ := oe
        obtain ⟨h1, h2⟩ := hz
        dsimp only at h1 h2 hv
        subst h1 h2 hv
        exact ⟨hget, rfl, rfl, trivial⟩
      exact PySem.W.kia_one (PySem.W.handS_kitx_exc C.hg C.hk C.hs C.hd C.ha C.hn C.ht C.hm) I.kIn J e (fun z => nomatch z) fun tk => ⟨.bl b, H, I.kept (t' := tk) fun _ _ z => z, rfl, q⟩

/-! ### a kept exception of an own class that has a field -/
def rIsXd (K : PySem.W.Frag) (D : Addr) : List V → Hp → VK → Prop := fun xs H Q => ∃ (a d : Addr) (fs : List (Str × V)) (c : V) (cv : Value) (b : Bool), xs = [.ref a, c] ∧ H a = some (ExO a (.ref D) (some d)) ∧ H d = some (.xd fs) ∧ (∀ u, RelV c u → u = cv) ∧ PySem.W.kitOne K (.ref D) cv = some b ∧ Q (.bl b) H
theorem isXd {X : Cx} {D : Addr} (K : PySem.W.Frag) (eK : X.K = K) (C : ExcC K D) : CallR X (.builtin "isinstance") (rIsXd K D) := by
  subst eK
  intro pins s σ H xs us Q I r h
  obtain ⟨a, d, fs, c, cv, b, rfl, hH, hd, hcv, e, q⟩ := h
  cases r with
  | cons rx rr =>
    cases rr with
    | cons rt rr =>
      cases rr
      cases rx
      have ec := hcv _ rt
      subst ec
      obtain ⟨⟨oe, vs, hget, hz, hv⟩, _⟩ := I.hok a _ hH
      have hx : ObjOk X.prog X.w H s.heap d (.xd fs) := I.hok d _ hd
      obtain ⟨mA, hns, hr⟩ := hx
      obtain ⟨od, ho, hl⟩ := lookIn_ns hns
      have J : PySem.W.InstAt s.heap a oe D (some od) := by
        refine ⟨hget, hz.1, by unfold PySem.W.notCls; rw [hv] <;> rfl, by rw [hz.2]; exact ho⟩
      have hcl : (PySem.W.clsIn X.K D).isSome = true := by
        obtain ⟨cd, hc, _⟩ := PySem.W.any_some C.hd
        rw [hc]; rfl
      exact PySem.W.kia_one (PySem.W.kitx_exc hcl C.hg C.hk C.hs C.ha C.hn C.ht C.hm) I.kIn J e (fun z => nomatch z) fun tk => ⟨.bl b, H, I.kept (t' := tk) fun _ _ z => z, rfl, q⟩
def tXk (C : Addr) (f : Str) (te : TE) : TE := fun σ H Q => te σ H fun x H1 => ∃ (a d : Addr) (fs : List (Str × V)) (v : V), x = .ref a ∧ H1 a = some (ExO a (.ref C) (some d)) ∧ H1 d = some (.xd fs) ∧ fs.lookup f = some v ∧ Q v H1
theorem pe_xk {X : Cx} {C : Addr} {e : Expr} {te : TE} {pos : Pos} {n : Str} (T : ExcC X.K C) (hno : PySem.W.findIn X.K (.ref C) n = some none) (he : PE X e te) (hb : attributeBase e n X.env (eval e X.env) = eval e X.env := by rfl) :
    PE X (.Attribute e n pos) (tXk C n te) := by
  refine ⟨fun pins s σ H Q I h => ?_⟩
  refine attr_of hb (thn (he.run pins s σ H _ I h) fun u s1 hh => ?_)
  obtain ⟨x, H1, I1, rx, a, dd, fs, v, ex, eH, ea, l, q⟩ := hh
  subst ex
  obtain rfl : u = Value.ref a := rx
  obtain ⟨⟨oe, vs, ha, hz, hd⟩, _⟩ := I1.hok a _ eH
  have hx : ObjOk X.prog X.w H1 s1.heap dd (.xd fs) := I1.hok dd _ ea
  obtain ⟨mA, hns, hr⟩ := hx
  obtain ⟨od, ho, hl⟩ := lookIn_ns hns
  obtain ⟨u, hu, ru⟩ := RelO.some_of (v := v) (o := mA n) (by rw [← l]; exact hr n)
  have J : PySem.W.InstAt s1.heap a oe C (some od) := ⟨ha, hz.1, by unfold PySem.W.notCls; rw [hd] <;> rfl, by rw [hz.2]; exact ho⟩
  exact HandSPX.exc_get I1.kIn J T.hg T.hk T.hs (PySem.W.findObj_own T.hd hno rfl (by rw [hl, hu])) (handed_of ru) ⟨v, H1, I1.tok _, ru, q⟩
/-! the end's facts -/
theorem kit_refs {K : PySem.W.Frag} {t : Value} {C : Addr} {b : Bool} (h2 : PySem.W.isClsIn K C = true) (h3 : PySem.W.typeIn K (.ref C) = some (.type "type")) (h4 : PySem.W.subIn K t (.ref C) = some b) : PySem.W.kitCls K t (.ref C) = some b := by
  have e2 : ((PySem.W.clsIn K C).isSome && PySem.W.typeIn K (.ref C) == some (.type "type")) = true := by
    have h2' : (PySem.W.clsIn K C).isSome = true := h2
    rw [h2', h3] <;> rfl
  show (if ((PySem.W.clsIn K C).isSome && PySem.W.typeIn K (.ref C) == some (.type "type")) = true then PySem.W.subIn K t (.ref C) else none) = some b
  rw [if_pos e2]
  exact h4
theorem kit_no {K : PySem.W.Frag} {CW C : Addr} (sW : PySem.W.subIn K (.ref CW) (.ref CW) = some true) (h2 : PySem.W.isClsIn K C = true) (h3 : PySem.W.typeIn K (.ref C) = some (.type "type")) (h4 : PySem.W.subIn K (.ref CW) (.ref C) = some false) : PySem.W.kitOne K (.ref CW) (.ref C) = some false := by
  unfold PySem.W.kitOne
  rw [if_neg, kit_refs h2 h3 h4]
  intro e
  have e : (Value.ref CW) = .ref C := beq_iff_eq.mp e
  rw [← e, sW] at h4
  cases h4
theorem kit_ve {K : PySem.W.Frag} {CW : Addr} (h : PySem.W.subIn K (.ref CW) (.type "ValueError") = some true) : PySem.W.kitOne K (.ref CW) (.type "ValueError") = some true := by
  unfold PySem.W.kitOne
  split
  · rfl
  · show (if PySem.W.kitMeta "ValueError" = true then PySem.W.subIn K (.ref CW) (.type "ValueError") else none) = some true
    rw [if_pos (by decide +kernel)]
    exact h
theorem exm_up {K : PySem.W.Frag} {CW CB : Addr} (h1 : PySem.W.subIn K (.ref CB) (.type "BaseException") = some true) (h2 : PySem.W.isClsIn K CB = true) (h3 : PySem.W.typeIn K (.ref CB) = some (.type "type")) (h4 : PySem.W.subIn K (.ref CW) (.ref CB) = some true) : PySem.W.exmOne K (.ref CW) (.ref CB) = some true := by
  unfold PySem.W.exmOne
  rw [if_pos (by rw [h1] <;> rfl), kit_refs h2 h3 h4]

/-! ### defs that may raise one own exception, in the plain layer -/
def dRaise : DSt := fun E s => E.ex
theorem simS_raise {C : Cf} {cat : Cat} : SimS C cat (fun _ σ H => C.ex H) dRaise := ⟨fun H0 S0 Hs σ H s E D' r q k => k.ex Hs σ H s r q⟩
/-- a statement that is never reached -/
def dNo : DSt := fun _ _ => False
theorem ps_no {X : Cx} {st : Stmt} : PS X st (fun _ _ _ => False) := ⟨fun _ _ _ _ _ _ h => h.elim⟩
theorem simS_no {C : Cf} {cat : Cat} : SimS C cat (fun _ _ _ => False) dNo := ⟨fun _ _ _ _ _ _ _ _ _ q _ => q.elim⟩
abbrev DFX := List D → (D → Prop) → Prop → Prop
def spX (K : PySem.W.Frag) (CX : Addr) (n : Nat) (cat : Cat) (F : DFX) : Sp := fun vs H Q E => ∃ Hs ds Q0 X0, Same Hs H ∧ RpAll K Hs vs ds ∧ ds.length = n ∧ F ds Q0 X0 ∧
  (∀ d Hs' H' v, Q0 d → Same Hs Hs' → Same Hs' H' → Same H H' → (∀ b, Hs b = none → Hs' b ≠ none → H b = none) → RV K H Hs' H' cat v d → Q v H') ∧ (X0 → ∀ H', Same H H' → E (.ref CX) none H')
section
variable {P : Program} {w : World} {K : PySem.W.Frag} {mg : Str → Option Value} {base : Heap}
theorem OkX.ofX {x : Str} {st : Stmt} {N ps : List Str} {k n : Nat} {cat : Cat} {M : List Nat} {F : DFX} (CX : Addr) (D' : Df K mg x st ps) (S' : FnScope N ps (defScope st)) (hn : ps.length = n) (hM : ∀ i ∈ M, n ≤ i ∧ i < N.length)
    (hbody : ∀ (f : Addr) (cdv : Value) (A : Around) (outer : List Env) (s : Shared) (H : Hp) (E : XK), Rm k (A.deeper (envOfC x (defScope st) s.heap.objs.size f cdv)) →
      ∃ t d, PSs (cxOf (L2.CX P w) P w K mg base N x (defScope st) f cdv A outer s H E) (defBody st) t ∧ SimS { K := K, pen := none, ps := 1000, M := M, ex := fun H' => E (.ref CX) none H' } cat t d ∧ ∀ ds (Q : D → Prop) (X : Prop), ds.length = n → F ds Q X → d { nx := fun _ => Q .none, rt := fun z _ => Q z, ex := X } { δ := start' N.length ds, n := 0 }) :
    OkX P w K mg base (k + 1) x ps (spX K CX n cat F) := by
  refine OkX.mk D' S' (fun vs H Q E h => ?_) (fun f cdv A outer s H vs Q E hr h => ?_)
  · obtain ⟨Hs, ds, Q0, X0, _, h2, h3, _⟩ := h
    rw [h2.len, h3, hn]
  obtain ⟨Hs, ds, Q0, X0, h1, h2, h3, h4, h5, h6⟩ := h
  obtain ⟨t, d, ht, hs, hd⟩ := hbody f cdv A outer s H E hr
  refine ⟨t, ht, ?_⟩
  obtain ⟨sl, ss⟩ := start_slot N h2
  have np : ∀ b, ¬ IsPen { K := K, pen := none, ps := 1000, M := M, ex := fun H' => E (.ref CX) none H' } b := fun b z => z.elim (fun ⟨_, z⟩ => nomatch z) (fun z => nomatch z)
  refine hs.run H Hs Hs (L2.start N vs) H _ { nx := fun _ => Q0 .none, rt := fun z _ => Q0 z, ex := X0 } _ ?_ (hd ds Q0 X0 h3 h4) ⟨fun Hs' σ' H' s' r q => ?_, fun Hs' σ' H' s' v dd r rv q => ?_, fun _ _ _ _ _ q => q.elim, fun _ _ _ _ _ q => q.elim, fun Hs' σ' H' s' r q => h6 q H' fun b o e => r.h0 b o (np b) e⟩
  · refine ⟨sl, h1, fun i dd e m => ss i dd e, fun i dd e m => ?_, fun i m e => start_none N (by rw [h2.len, h3]; exact (hM i m).1) (hM i m).2, fun i j a m1 m2 e1 e2 => ?_, fun p c e => (nomatch e), fun b hb => (nomatch hb), Same.refl _, fun b o _ e => e, fun b e1 e2 => absurd e1 e2⟩
    · obtain ⟨v, e1, _⟩ := ss i dd e
      rw [start_none N (by rw [h2.len, h3]; exact (hM i m).1) (hM i m).2] at e1
      cases e1
    · rw [start_none N (by rw [h2.len, h3]; exact (hM i m1).1) (hM i m1).2] at e1
      cases e1
  · exact h5 .none Hs' H' .non q r.s0 r.sub (fun b o e => r.h0 b o (np b) e) r.new (rvNon cat)
  · exact h5 dd Hs' H' v q r.s0 r.sub (fun b o e => r.h0 b o (np b) e) r.new rv
end
/-! an own exception without __init__ -/
structure XP (K : PySem.W.Frag) (mg : Str → Option Value) (CX CB : Addr) (y z : Str) : Prop where
  g : mg y = some (.ref CX)
  x : PySem.W.excIn K CX [.type "ValueError", .type "Exception", .type "BaseException", .type "object"] "ValueError.__new__" = true
  kp : PySem.W.keepIn K (.ref CX) = true
  b : PySem.W.subIn K (.ref CX) (.type "BaseException") = some true
  t : PySem.W.typeIn K (.ref CX) = some (.type "type")
  gb : mg z = some (.ref CB)
  xc : ExcC K CX
  te : PySem.W.exmOne K (.ref CX) (.ref CB) = some true
  own : PySem.W.kitOne K (.ref CX) (.ref CX) = some true
  ve : PySem.W.kitOne K (.ref CX) (.type "ValueError") = some true

/-! ### enumerate of a tuple -/
theorem meets_enum1B {v : Value} {o : Obj} {H : Heap → Prop} (B : Begins v o H) :
    Meets (Builtin.«enumerate.__new__» ⟨[.type "enumerate", v], []⟩) (fun _ R s => H s.heap ∧
      R (.ok (.ret (.ref (s.heap.push o).objs.size))) { s with heap := (s.heap.push o).push { cls := .type "enumerate", data := .fields #[.none, .bool false, .ref s.heap.objs.size, rawInt 0, .none, .none] } }) :=
  .of_wp fun prog w A R s h => by
    obtain ⟨hp, g, d, tk, os⟩ := s
    obtain ⟨h1, h⟩ := h
    have hsub := sub_enumerate
    have q1 : ∀ {A' : Around} {E : Value → Shared → Prop} {Q : Value → Shared → Prop}, Q (.ref hp.objs.size) ⟨hp.push o, g, d, tk, os⟩ → wpAny (model prog w) A' (pyIter v) Q E ⟨hp, g, d, tk, os⟩ :=
      fun q => B.iter prog w _ _ ⟨hp, g, d, tk, os⟩ _ h1 q
    wp_walk using q1
    refine wpAny_stack_any fun st => wpAny_pure ?_
    split
    · rename_i c _ _ _ _ _
      cases (c == Value.type "enumerate")
      · wp_walk using q1
        exact ⟨_, rfl, h⟩
      · wp_walk using q1
        exact ⟨_, rfl, h⟩
    · wp_walk using q1
      exact ⟨_, rfl, h⟩
section
variable {prog : Program} {w : World} {A : Around} {E : Value → Shared → Prop} {s : Shared}
theorem enum1_begins {v : Value} {o : Obj} {H : Heap → Prop} {Q : Value → Shared → Prop} (B : Begins v o H) (h1 : H s.heap)
    (h : ∀ h', IsEnum h' (s.heap.objs.size + 1) s.heap.objs.size 0 .none → h'.get? s.heap.objs.size = some o → h'.objs.size = s.heap.objs.size + 2 →
      (∀ b o, s.heap.get? b = some o → h'.get? b = some o) → Q (.ref (s.heap.objs.size + 1)) { s with heap := h' }) :
    wpAny (model prog w) A (call (.type "enumerate") [v]) Q E s := by
  refine callType_new F.called_enumerate (by decide) (F.typeCall_enumerate_1 _) (F.newCall_enumerate_1 _) (fun obj => F.args_object_init_2 obj _) F.entry_enumerate_new (meets_enum1B B) ⟨h1, ?_⟩
  have hz : (s.heap.push o).objs.size = s.heap.objs.size + 1 := Heap.size_push ..
  show _ ∧ _
  rw [hz]
  have he : IsEnum ((s.heap.push o).push { cls := .type "enumerate", data := .fields #[.none, .bool false, .ref s.heap.objs.size, rawInt 0, .none, .none] }) (s.heap.objs.size + 1) s.heap.objs.size 0 .none := by
    have := Heap.get?_push_size (s.heap.push o) (o := { cls := .type "enumerate", data := .fields #[.none, .bool false, .ref s.heap.objs.size, rawInt 0, .none, .none] }) rfl
    rw [hz] at this
    exact this
  exact ⟨⟨_, he, rfl⟩, h _ he (Heap.get?_push_of_some _ (Heap.get?_push_size _ B.free)) (by rw [Heap.size_push, hz]) fun b o x => Heap.get?_push_of_some _ (Heap.get?_push_of_some _ x)⟩
end
def IteT (K : PySem.W.Frag) (b : Addr) (n : Nat) : It :=
  ⟨fun i H => ∃ (ys : List V) (y : V), SqT K H b ys ∧ ys.length = n ∧ ys[i]? = some y,
    fun i H v H' => ∃ T y, v = .ref T ∧ H T = none ∧ H' = L2.upd H T (.tup [.int (i : Nat), y]) ∧ ∀ ys, SqT K H b ys → ys[i]? = some y,
    fun i H => ∃ ys : List V, SqT K H b ys ∧ ys.length = n ∧ n ≤ i⟩
theorem turn_enumT {P : Program} {w : World} {K : PySem.W.Frag} {elts : List Expr} {kk n : Nat} {tpos : Pos} (b e it : Addr) (hne : e ≠ it) (heb : e ≠ b) (hbi : b ≠ it) :
    Turn P w K (.Tuple elts kk tpos) (IteT K b n) [e, it] e (fun i h => (∃ old, IsEnum h e it ((i : Nat) : Int) old) ∧ h.IsTupleIter it b i ∧ i ≤ n) where
  mem := by simp
  obj := fun i h st c hc => by
    obtain ⟨⟨old, he⟩, ⟨o, ho, hcl, hd⟩, _⟩ := st
    have e' : c = e ∨ c = it := by simpa using hc
    rcases e' with z | z
    · rw [z]; exact ⟨_, he, fun v q => nomatch q⟩
    · rw [z]; exact ⟨o, ho, fun v q => by rw [hd] at q; cases q⟩
  keep := fun i h h' st k => by
    obtain ⟨⟨old, he⟩, hi, hl⟩ := st
    exact ⟨⟨old, k e (by simp) _ he⟩, hi.at fun o q => k it (by simp) o q, hl⟩
  item := by
    intro X hP hw hK hc i pins s σ H E I hf st hg
    subst hP hw hK
    obtain ⟨⟨old, he⟩, hit, hl⟩ := st
    obtain ⟨ys, y, hqy, hlen, hy⟩ := hg
    obtain ⟨its, rv, p2, _⟩ := I.tuple hqy
    obtain ⟨u2, hu2, ru2⟩ := rv.get hy
    have hel : e < s.heap.objs.size := Heap.lt_size he
    have hil : it < s.heap.objs.size := by obtain ⟨_, q, _⟩ := hit; exact Heap.lt_size q
    have hin : i < n := by
      have := (List.getElem?_eq_some_iff.mp hy).1
      omega
    have hh : X.A.in1.handled = none := I.ok.hd hc
    have hsz : its.toArray.size = n := by rw [List.size_toArray, ← rv.length, hlen]
    have D := Draws.tuple (prog := X.prog) (w := X.w) hh it b hbi its.toArray
    rw [hsz] at D
    refine wpAny_pyNext_enum_itemD D he ⟨hit, p2⟩ hin hne (by simp [hne, heb]) fun v h' tk hv ho hit' hT hsz' hk => ?_
    have ew : v = u2 := by
      have e : its.toArray[i]? = some v := hv
      rw [List.getElem?_toArray, hu2] at e
      exact (Option.some.inj e).symm
    subst ew
    refine ⟨_, rfl, wpAny_letOwnedTupleGo_enum (s := { s with heap := h', toks := tk + 1 }) ho fun h'' he' sb => ?_⟩
    have hT2 : h''.get? s.heap.objs.size = some { cls := .type "tuple", data := .seq #[.int i tk, v] } := (sb.2 _ (Nat.ne_of_gt hel)).trans hT
    have new : ObjOk X.prog X.w (L2.upd H s.heap.objs.size (.tup [.int (i : Nat), y])) h'' s.heap.objs.size (.tup [.int (i : Nat), y]) :=
      ⟨by show 2 ≤ sizeLine; decide, [.int i tk, v], .cons ⟨_, rfl⟩ (.cons ru2 .nil), ⟨_, hT2, rfl, _, rfl⟩⟩
    have I1 : Inv X pins σ (L2.upd H s.heap.objs.size (.tup [.int (i : Nat), y])) { s with heap := h'', toks := tk + 1 } :=
      I.turnedNew (ch := [e, it]) (fun b ob hb q => (sb.2 b (fun z => hb (by simp [z]))).trans (hk b ob (fun z => hb (by simp [z])) (fun z => hb (by simp [z])) q)) hf (Nat.le_refl _) new
    refine ⟨.ref s.heap.objs.size, _, I1, rfl, ⟨_, y, rfl, I.hok.fresh (Nat.le_refl _), rfl, fun l hl => by rw [I.tuple_inj hl hqy]; exact hy⟩, ⟨⟨v, ?_⟩, hit'.1.at fun o q => (sb.2 it (Ne.symm hne)).trans q, hin⟩, fun b hb => ?_⟩
    · have e1 : ((i + 1 : Nat) : Int) = (i : Int) + 1 := by omega
      rw [e1]; exact he'
    · have hb' : b < s.heap.objs.size := by
        have e' : b = e ∨ b = it := by simpa using hb
        rcases e' with z | z
        · rw [z]; exact hel
        · rw [z]; exact hil
      rw [upd_ne (Nat.ne_of_lt hb')]
      exact (hf b hb).1
  done := by
    intro X hP hw hK hc i pins s σ H E I hf st hg
    subst hP hw hK
    obtain ⟨⟨old, he⟩, hit, hl⟩ := st
    obtain ⟨ys, hqy, hlen, hend⟩ := hg
    obtain ⟨its, rv, p2, _⟩ := I.tuple hqy
    have ei : i = n := by omega
    subst ei
    have hh : X.A.in1.handled = none := I.ok.hd hc
    have hsz : its.toArray.size = i := by rw [List.size_toArray, ← rv.length, hlen]
    have D := Draws.tuple (prog := X.prog) (w := X.w) hh it b hbi its.toArray
    rw [hsz] at D
    obtain ⟨f0, f1, f2, f3, f4, f5⟩ := hf it (by simp)
    exact wpAny_pyNext_enum_endD D he ⟨hit, p2⟩ fun h' eb => ⟨rfl, I.turned (t' := s.toks) (fun b o hb q => eb b o hb q) f0 f1 f3 f4 f5⟩
  self := fun A i s Q E st h => let ⟨⟨_, he⟩, _⟩ := st; wpAny_pyIter_enum he h
def iEnumT (K : PySem.W.Frag) (ta : TA) : TI := fun σ H R => ta σ H fun vs H1 => ∃ b ys, vs = [.ref b] ∧ SqT K H1 b ys ∧ R (IteT K b ys.length) H1
theorem pi_enumT {X : Cx} {e : Expr} {ta : TA} {p pos tpos : Pos} {elts : List Expr} {kk : Nat} (hg : Gl X "enumerate") (hm : X.mg "enumerate" = none) (ha : PA X [e] ta) (hs : starEach [e] X.env = [(false, eval e X.env)] := by rfl) :
    PI X (.Tuple elts kk tpos) (.Call (.Name "enumerate" p) [e] [] pos) (iEnumT X.K ta) := by
  refine ⟨fun pins s σ H R I h => ?_⟩
  refine Call_ (ld_blt I hg hm boot_enumerate (PyProof.Rows.callWith_type1 (thn (ha.run pos pins s σ H _ I h) fun us s1 ⟨vs, H1, I1, r1, q1⟩ => ?_) hs rfl))
  obtain ⟨b, ys, ex, hq, q⟩ := q1
  subst ex
  cases r1 with
  | cons r rr =>
    cases rr
    cases r
    obtain ⟨its, rv, p2, _⟩ := I1.tuple hq
    obtain ⟨o2, ho2, _⟩ := id p2
    have hbl : b < s1.heap.objs.size := Heap.lt_size ho2
    refine enum1_begins (begins_tuple b its.toArray) (show s1.heap.IsTuple b its.toArray from p2) fun h' he g2 hsz hk => wpAny_pyIter_enum he ?_
    have I2 : Inv X pins σ H1 { s1 with heap := h' } := I1.kept (t' := s1.toks) hk
    refine ⟨s1.heap.objs.size + 1, [s1.heap.objs.size + 1, s1.heap.objs.size], _, _, H1, rfl, I2, turn_enumT b (s1.heap.objs.size + 1) s1.heap.objs.size (Nat.succ_ne_self _) (Nat.ne_of_gt (Nat.lt_succ_of_lt hbl)) (Nat.ne_of_lt hbl), ⟨⟨.none, he⟩, ⟨_, g2, rfl, rfl⟩, Nat.zero_le _⟩, fun b hb => ?_, q⟩
    have e' : b = s1.heap.objs.size + 1 ∨ b = s1.heap.objs.size := by simpa using hb
    have hle : s1.heap.objs.size ≤ b := by
      rcases e' with z | z
      · rw [z]; exact Nat.le_add_right _ _
      · rw [z]; exact Nat.le_refl _
    exact I1.fpOk hle (I1.hok.fresh hle)
theorem walk_enumT {K : PySem.W.Frag} {b : Addr} {ys : List V} : Walk (IteT K b ys.length) ys.length (fun H => SqT K H b ys) (fun i H v H' => ∃ T y, v = .ref T ∧ H T = none ∧ H' = L2.upd H T (.tup [.int (i : Nat), y]) ∧ ys[i]? = some y) := by
  refine ⟨fun i H hi q => ⟨ys, ys[i], q, rfl, List.getElem?_eq_getElem hi⟩, fun H q => ⟨ys, q, rfl, Nat.le_refl _⟩, fun i H v H' _ q y => ?_⟩
  obtain ⟨T, y, h1, h2, h3, h4⟩ := y
  exact ⟨T, y, h1, h2, h3, h4 ys q⟩
def dEnumT (a : DT) : DI := fun s Q => a s fun d s1 => match d with
  | .tuple ds => Q (prD (rgD 0 ds.length) ds) s1
  | _ => False
section
variable {C : Cf} {ca : Cat} {te : TE} {t : DT}
theorem simI_enumT (h : Sim C ca te t) : SimI C true (iEnumT C.K (tCons te tNil)) (dEnumT t) := by
  refine ⟨fun H0 S0 Hs σ H s Q Q' r q k => h.toE.run H0 S0 Hs σ H s _ _ r q fun Hs1 H1 v d s1 g1 r1 v1 q1 => ?_⟩
  cases d <;> first | exact q1.elim | skip
  rename_i ds
  have v1' : Rp C.K Hs1 v (.tuple ds) := v1
  cases v1' with
  | @tup y ys _ e3 e4 =>
  refine ⟨y, ys, rfl, Same.sqT r1.sub e3.sq, k Hs1 H1 _ _ s1 g1 r1 ?_ q1⟩
  refine ⟨_, _, by rw [enum_len, ← e4.len]; exact walk_enumT, fun H e => Same.sqT e e3.sq, fun i H v H2 H0 S0 Hs σ s hi r e y => ?_⟩
  obtain ⟨T, x2, rfl, nT, rfl, f2⟩ := y
  obtain ⟨d', f5, f6⟩ := e4.getV f2
  obtain ⟨Hs2, r2, rp, g⟩ := pair_it r nT (Rp.int ((i : Nat) : Int)) (Rp.mono e f6)
  exact ⟨Hs2, _, enum_get f5, r2, rp, g⟩
end

/-! ### x = a new dict; x["k"] = e: then it is still -/
section
variable {C : Cf} {cat ca cb : Cat} {ta tb : TE} {da db : DT} {us : TS} {b : DSt}
theorem R.setN {H0 S0 Hs : Hp} {σ : L2.St} {H : Hp} {s : S} {i : Nat} {v : V} (r : R C H0 S0 Hs σ H s) (hi : i ∉ C.M) (hp : i ≠ C.ps) : R C H0 S0 Hs (σ.set i (some v)) H { s with δ := s.δ.set i none } := by
  have ne : ∀ j, j ∈ C.M → j ≠ i := fun j m z => hi (z ▸ m)
  refine ⟨by simpa using r.len, r.sub, fun j d' q m => ?_, fun j d' q m => ?_, fun j m q => ?_, fun j l x m1 m2 q1 q2 => ?_, fun p c q => ?_, fun b hb => ?_, r.s0, r.h0, r.new⟩
  · by_cases hj : j = i
    · subst hj
      have il : j < s.δ.length := by
        have := (List.getElem?_eq_some_iff.mp q).1
        simpa using this
      rw [List.getElem?_set_self il] at q
      cases q
    · rw [List.getElem?_set_ne (Ne.symm hj)] at q ⊢
      exact r.slot j d' q m
  · rw [List.getElem?_set_ne (Ne.symm (ne j m))] at q ⊢
    exact r.mt j d' q m
  · rw [List.getElem?_set_ne (Ne.symm (ne j m))] at q ⊢
    exact r.dead j m q
  · rw [List.getElem?_set_ne (Ne.symm (ne j m1))] at q1
    rw [List.getElem?_set_ne (Ne.symm (ne l m2))] at q2
    exact r.sep j l x m1 m2 q1 q2
  · obtain ⟨f1, f2, f3, f4, f5, f6, f7⟩ := r.pn p c q
    exact ⟨by rw [List.getElem?_set_ne hp]; exact f1, f2, f3, f4, f5, by rw [List.getElem?_set_ne hp]; exact f6, f7⟩
  · obtain ⟨⟨j, b1, b2, b3⟩, b4⟩ := r.br b hb
    exact ⟨⟨j, b1, b2, by rw [List.getElem?_set_ne (Ne.symm (ne j b2))]; exact b3⟩, b4⟩
def dSetPut (i : Nat) (da : DT) (key : Str) (db : DT) (b : DSt) : DSt := fun E s => da s fun d s1 => match d with
  | .dict kvs => db { s1 with δ := s1.δ.set i none } fun v s2 => kvs.length < sizeLine ∧ b E { s2 with δ := s2.δ.set i (some (.dict (putD kvs (.str key) v))) }
  | _ => False
theorem simS_putSeq {key : Str} (i : Nat) (hi : i ∉ C.M) (hp : i ≠ C.ps) (h1 : Sim C .F ta da) (h2 : Sim C cb tb db) (hb : SimS C cat us b) :
    SimS C cat (tSeq (tAsg ta (gName i)) (tSeq (sDPut (tVar i) (tC (.str key)) tb) us)) (fun E s => i < s.δ.length ∧ dSetPut i da key db b E s) := by
  refine ⟨fun H0 S0 Hs σ H s E D' r ⟨hil, q⟩ k => h1.run H0 S0 Hs σ H s _ _ r q fun Hs1 H1 v d s1 g1 r1 v1 q1 => ?_⟩
  cases d <;> first | exact q1.elim | skip
  rename_i kvs
  obtain ⟨a, rfl, o, f1, f2, f3, f4, f5, f6⟩ := v1.c rfl
  have hiσ : i < σ.length := by rw [r.len]; exact hil
  have own' : ∀ {x : Addr}, Own C (σ.set i (some (.ref a))) x → Own C σ x := fun {x} ⟨j, m, e⟩ => ⟨j, m, by
    rw [List.getElem?_set_ne (fun z => hi (by rw [z]; exact m))] at e
    exact e⟩
  have r2 := r1.setN (v := .ref a) hi hp
  have v1' : Val C H0 H Hs1 (σ.set i (some (.ref a))) H1 .F (.ref a) (.dict kvs) := Val.mkC ⟨o, f1, f2, f3, f4, f5, fun z => f6 (own' z)⟩
  refine h2.toE.run H0 S0 Hs1 (σ.set i (some (.ref a))) H1 _ _ _ r2 q1 fun Hs2 H2 y dy s2 g2 r3 v2 q2 => ?_
  have v3 := v1'.go r2 g2
  obtain ⟨a', e, o2, z1, z2, z3, z4, cn, no⟩ := v3.c rfl
  cases e
  cases cn with
  | dic rp =>
    rename_i xs
    have v2' : Rp C.K Hs2 y dy := v2
    refine ⟨.ref a, List.getElem?_set_self hiσ, a, _, rfl, DPut.k (k := .inr key) z1 (by rw [rp.len]; exact q2.1), ?_⟩
    have r4 := r3.updF (o := .dK (putK xs (.inr key) y)) z2 z3 no
    obtain ⟨Hs3, sm, r5, rp5, _⟩ := r4.freeze (Hst := H) (a := a) (d := .dict (putD kvs (.str key) dy)) ⟨_, upd_same, z2, z3, z4, .dic (rp.put (k := .inr key) v2'), no⟩
    have r6 := r5.setE hi hp rp5
    rw [List.set_set] at r6
    exact hb.run H0 S0 Hs3 _ _ _ E D' r6 q2.2 k
end
/-! ### x = a new list; x is changed; then it is still -/
section
variable {C : Cf} {cat ca cb : Cat} {ta tb : TE} {da db : DT} {ts us : TS} {a b : DSt}
theorem R.toM {H0 S0 Hs : Hp} {σ : L2.St} {H : Hp} {s : S} {i : Nat} {x : Addr} {d : D} {Hst : Hp} (r : R C H0 S0 Hs σ H s) (hi : i ∉ C.M) (hp : i ≠ C.ps) (hil : i < s.δ.length) (f : Fresh C H0 Hst Hs σ H x d) :
    R { C with M := i :: C.M } H0 S0 Hs (σ.set i (some (.ref x))) H { s with δ := s.δ.set i (some d) } := by
  obtain ⟨o, h1, h2, h3, _, h4, h5⟩ := f
  have ne : ∀ j, j ∈ C.M → j ≠ i := fun j m z => hi (z ▸ m)
  have hiσ : i < σ.length := by rw [r.len]; exact hil
  refine ⟨by simpa using r.len, r.sub, fun j d' q m => ?_, fun j d' q m => ?_, fun j m q => ?_, fun j l y m1 m2 q1 q2 => ?_, fun p c q => ?_, fun b hb' => ?_, r.s0, r.h0, r.new⟩
  · have hj : j ≠ i := fun z => m (by rw [z]; exact List.mem_cons_self ..)
    have hm : j ∉ C.M := fun z => m (List.mem_cons_of_mem _ z)
    rw [List.getElem?_set_ne (Ne.symm hj)] at q ⊢
    exact r.slot j d' q hm
  · by_cases hj : j = i
    · subst hj
      rw [List.getElem?_set_self hil] at q
      cases q
      exact ⟨x, o, List.getElem?_set_self hiσ, h1, h2, h4, .inl h3⟩
    · have hm : j ∈ C.M := (List.mem_cons.mp m).resolve_left hj
      rw [List.getElem?_set_ne (Ne.symm hj)] at q ⊢
      exact r.mt j d' q hm
  · by_cases hj : j = i
    · subst hj
      rw [List.getElem?_set_self hil] at q
      cases q
    · have hm : j ∈ C.M := (List.mem_cons.mp m).resolve_left hj
      rw [List.getElem?_set_ne (Ne.symm hj)] at q ⊢
      exact r.dead j hm q
  · by_cases hj : j = i
    · by_cases hl : l = i
      · rw [hj, hl]
      · subst hj
        rw [List.getElem?_set_self hiσ] at q1
        cases q1
        rw [List.getElem?_set_ne (Ne.symm hl)] at q2
        exact absurd ⟨l, (List.mem_cons.mp m2).resolve_left hl, q2⟩ h5
    · by_cases hl : l = i
      · subst hl
        rw [List.getElem?_set_self hiσ] at q2
        cases q2
        rw [List.getElem?_set_ne (Ne.symm hj)] at q1
        exact absurd ⟨j, (List.mem_cons.mp m1).resolve_left hj, q1⟩ h5
      · rw [List.getElem?_set_ne (Ne.symm hj)] at q1
        rw [List.getElem?_set_ne (Ne.symm hl)] at q2
        exact r.sep j l y ((List.mem_cons.mp m1).resolve_left hj) ((List.mem_cons.mp m2).resolve_left hl) q1 q2
  · obtain ⟨f1, f2, f3, f4, f5, f6, f7⟩ := r.pn p c q
    exact ⟨by rw [List.getElem?_set_ne hp]; exact f1, f2, f3, f4, f5, by rw [List.getElem?_set_ne hp]; exact f6, fun z => (List.mem_cons.mp z).elim (fun z => hp z.symm) f7.1, f7.2⟩
  · obtain ⟨⟨j, b1, b2, b3⟩, b4⟩ := r.br b hb'
    exact ⟨⟨j, b1, List.mem_cons_of_mem _ b2, by rw [List.getElem?_set_ne (Ne.symm (ne j b2))]; exact b3⟩, b4⟩
def dPhase (i : Nat) (da : DT) (a b : DSt) : DSt := fun E s => da s fun d s1 => isC d = true ∧ i < s1.δ.length ∧ a { nx := fun s' => b E s', rt := fun _ _ => False } { s1 with δ := s1.δ.set i (some d) }
theorem simS_phase (i : Nat) (hi : i ∉ C.M) (hp : i ≠ C.ps) (hb' : i ∉ C.bs) (h1 : Sim C .F ta da) (hA : SimS { C with M := i :: C.M } cat ts a) (hB : SimS C cat us b) : SimS C cat (tSeq (tAsg ta (gName i)) (tSeq ts us)) (dPhase i da a b) := by
  refine ⟨fun H0 S0 Hs σ H s E D' r q k => h1.run H0 S0 Hs σ H s _ _ r q fun Hs1 H1 v d s1 g1 r1 v1 q1 => ?_⟩
  obtain ⟨qc, hil, q1⟩ := q1
  obtain ⟨x, rfl, f⟩ := v1.c qc
  have r2 := r1.toM hi hp hil f
  refine hA.run H0 S0 Hs1 _ H1 _ _ _ r2 q1 ⟨fun Hs2 σ2 H2 s2 r3 q2 => ?_, fun _ _ _ _ _ _ _ _ z => z.elim, fun _ _ _ _ _ z => z.elim, fun _ _ _ _ _ z => z.elim, fun _ _ _ _ _ z => z.elim⟩
  obtain ⟨Hs3, r4⟩ := r3.still (M' := C.M) (i := i) (fun j => List.mem_cons) hi hb'
  exact hB.run H0 S0 Hs3 σ2 H2 s2 E D' r4 q2 k
end
/-! ### powers of big bases -/
def powWD : DO := fun x y Q => match x, y with
  | .int i, .int j => CPowW i j ∧ Q (.int (i ^ j.toNat))
  | _, _ => False
theorem opA_powW {C : Cf} : OpA C (rI CPowW fun i j => .int (i ^ j.toNat)) powWD := by
  intro H0 S0 Hs σ H s x y dx dy Q Q' r hx hy q k
  cases dx <;> cases dy <;> first | exact q.elim | skip
  case int.int i j => cases hx; cases hy; exact ⟨i, j, rfl, rfl, q.1, k Hs H _ (.int (i ^ j.toNat)) Go.refl r (Val.mkP (Rp.int _) rfl) q.2⟩

/-! ### trees of bounded depth and size: what == and repr may see -/
mutual
def bd : D → Bool
  | .none => true
  | .bool _ => true
  | .int i => decide (i.natAbs < 10 ^ 420)
  | .str x => PyData.strOk x
  | .list ds => bdAll ds
  | .tuple ds => bdAll ds
  | .dict _ => false
def bdAll : List D → Bool
  | [] => true
  | d :: ds => bd d && bdAll ds
end
mutual
def sz : D → Nat
  | .none => 4
  | .bool _ => 5
  | .int i => if i.natAbs < 10 ^ 250 then 251 else 421
  | .str x => 10 * x.length + 2
  | .list ds => szAll ds + 3
  | .tuple ds => szAll ds + 3
  | .dict _ => 0
def szAll : List D → Nat
  | [] => 0
  | d :: ds => sz d + 2 + szAll ds
end
theorem strLen_app (a b : Str) : (a ++ b).length = a.length + b.length := by
  rw [TL.len_tl, TL.len_tl, TL.len_tl, TL.tl_append, List.length_append]
theorem log1920 {n : Nat} (h : n < 10 ^ 420) : n.log2 < 1920 := by
  by_cases h0 : n = 0
  · subst h0; decide
  · exact (Nat.log2_lt h0).mpr (Nat.lt_of_lt_of_le h (by decide +kernel))
mutual
theorem bd_lay : ∀ d : D, bd d = true → PyData.canLay0 d = true ∧ d.showable = true
  | .none, _ => ⟨rfl, rfl⟩
  | .bool _, _ => ⟨rfl, rfl⟩
  | .int i, h => ⟨rfl, by simp only [bd, decide_eq_true_eq] at h; simp only [PyData.showable]; exact decide_eq_true (log1920 h)⟩
  | .str x, h => ⟨by simpa [PyData.canLay0, bd] using h, rfl⟩
  | .list ds, h => by
    have := bd_layL ds (by simpa [bd] using h)
    exact ⟨by simpa [PyData.canLay0] using this.1, by simpa [PyData.showable] using this.2⟩
  | .tuple ds, h => by
    have := bd_layL ds (by simpa [bd] using h)
    exact ⟨by simpa [PyData.canLay0] using this.1, by simpa [PyData.showable] using this.2⟩
  | .dict _, h => by simp [bd] at h
theorem bd_layL : ∀ ds : List D, bdAll ds = true → PyData.canLayAll0 ds = true ∧ PyData.showableAll ds = true
  | [], _ => ⟨rfl, rfl⟩
  | d :: ds, h => by
    simp only [bdAll, Bool.and_eq_true] at h
    have h1 := bd_lay d h.1
    have h2 := bd_layL ds h.2
    exact ⟨by simp [PyData.canLayAll0, h1.1, h2.1], by simp [PyData.showableAll, h1.2, h2.2]⟩
end
theorem join_le (ts : List Str) : (Str.join ", " ts).length ≤ piled ts := by
  cases ts with
  | nil => decide +kernel
  | cons t r =>
    have := join_length_add (t :: r) (by simp)
    omega
theorem textFrom_le : ∀ (ts : List Str) (k : Nat) (acc : Str), (textFrom k acc ts).length ≤ acc.length + piled ts
  | [], k, acc => by show acc.length ≤ acc.length + piled []; omega
  | t :: r, k, acc => by
    by_cases hk : 0 < k
    · rw [textFrom_length_pos _ k acc hk]; exact Nat.le_refl _
    · have ih := textFrom_length_pos r (k + 1) (acc ++ (if k > 0 then ", " else "" : String) ++ t) (by omega)
      have e : (textFrom k acc (t :: r)) = textFrom (k + 1) (acc ++ (if k > 0 then ", " else "" : String) ++ t) r := rfl
      rw [e, ih, piled_cons, if_neg hk, strLen_app, strLen_app]
      have : ((("" : String) : Str)).length = 0 := by decide +kernel
      rw [this]
      omega
mutual
theorem shown_le : ∀ d : D, bd d = true → d.shown.length ≤ sz d
  | .none, _ => by simp only [PyData.shown, sz]; decide +kernel
  | .bool b, _ => by cases b <;> (simp only [PyData.shown, sz]; decide +kernel)
  | .int i, h => by
    simp only [bd, decide_eq_true_eq] at h
    simp only [PyData.shown, sz]
    have h2 : (Str.ofString (toString i)).length = (toString i).length := by
      exact PySem.ofString_length _
    by_cases hb : i.natAbs < 10 ^ 250
    · rw [if_pos hb]
      have h1 := int_text_length_le10 (a := i) (k := 250) (by decide) hb
      omega
    · rw [if_neg hb]
      have h1 := int_text_length_le10 (a := i) (k := 420) (by decide) h
      omega
  | .str x, h => by
    simp only [bd] at h
    simp only [PyData.shown, sz]
    refine PySem.StrLaws.reprText_len x fun c hc => ?_
    unfold PyData.strOk at h
    rw [Array.all_eq_true'] at h
    have := h c (by simpa using hc)
    simp at this
    omega
  | .list ds, h => by
    have := shownL_le ds (by simpa [bd] using h)
    have e := textFrom_le (PyData.shownAll ds) 0 "["
    simp only [PyData.shown, sz, listText]
    rw [strLen_app]
    have e1 : ((("[" : String) : Str)).length = 1 := by decide +kernel
    have e2 : ((("]" : String) : Str)).length = 1 := by decide +kernel
    omega
  | .tuple ds, h => by
    have := shownL_le ds (by simpa [bd] using h)
    have e := join_le (PyData.shownAll ds)
    simp only [PyData.shown, sz, tupleText]
    rw [strLen_app, strLen_app]
    have e1 : ((("(" : String) : Str)).length = 1 := by decide +kernel
    have e2 : (((if (PyData.shownAll ds).length == 1 then ",)" else ")" : String) : Str)).length ≤ 2 := by
      split <;> decide +kernel
    omega
  | .dict _, h => by simp [bd] at h
theorem shownL_le : ∀ ds : List D, bdAll ds = true → piled (PyData.shownAll ds) ≤ szAll ds
  | [], _ => by simp only [PyData.shownAll, szAll]; exact Nat.le_refl _
  | d :: ds, h => by
    simp only [bdAll, Bool.and_eq_true] at h
    have h1 := shown_le d h.1
    have h2 := shownL_le ds h.2
    simp only [PyData.shownAll, szAll, piled_cons]
    omega
end
/-- a tree of depth at most h, written with at most t signs -/
structure Bt (h t : Nat) (d : D) : Prop where
  b : bd d = true
  h : PyData.depth d ≤ h
  t : sz d ≤ t
structure BtL (h t : Nat) (ds : List D) : Prop where
  b : bdAll ds = true
  h : PyData.depthAll ds ≤ h
  t : szAll ds ≤ t
section
variable {h h' t t' a b : Nat} {d : D} {ds es : List D}
theorem Bt.to (x : Bt h t d) (l : h ≤ h') (m : t ≤ t') : Bt h' t' d := ⟨x.b, Nat.le_trans x.h l, Nat.le_trans x.t m⟩
theorem BtL.to (x : BtL h t ds) (l : h ≤ h') (m : t ≤ t') : BtL h' t' ds := ⟨x.b, Nat.le_trans x.h l, Nat.le_trans x.t m⟩
theorem Bt.lit (e : (bd d && decide (PyData.depth d ≤ h) && decide (sz d ≤ t)) = true) : Bt h t d := by
  simp only [Bool.and_eq_true, decide_eq_true_eq] at e
  exact ⟨e.1.1, e.1.2, e.2⟩
theorem BtL.nil : BtL h t [] := ⟨rfl, Nat.zero_le _, Nat.zero_le _⟩
theorem BtL.cons (x : Bt h a d) (y : BtL h b ds) : BtL h (a + b + 2) (d :: ds) := by
  refine ⟨by rw [bdAll, x.b, y.b]; rfl, ?_, ?_⟩
  · have := x.h; have := y.h; simp only [PyData.depthAll]; omega
  · have := x.t; have := y.t; simp only [szAll]; omega
theorem Bt.tup (x : BtL h t ds) : Bt (h + 1) (t + 3) (.tuple ds) := by
  refine ⟨by rw [bd, x.b], ?_, ?_⟩
  · have := x.h; simp only [PyData.depth]; omega
  · have := x.t; simp only [sz]; omega
theorem Bt.lst (x : BtL h t ds) : Bt (h + 1) (t + 3) (.list ds) := by
  refine ⟨by rw [bd, x.b], ?_, ?_⟩
  · have := x.h; simp only [PyData.depth]; omega
  · have := x.t; simp only [sz]; omega
theorem Bt.ofTup (x : Bt h t (.tuple ds)) : BtL (h - 1) t ds := by
  obtain ⟨x1, x2, x3⟩ := x
  rw [bd] at x1
  simp only [PyData.depth] at x2
  simp only [sz] at x3
  exact ⟨x1, by omega, by omega⟩
theorem Bt.ofLst (x : Bt h t (.list ds)) : BtL (h - 1) t ds := by
  obtain ⟨x1, x2, x3⟩ := x
  rw [bd] at x1
  simp only [PyData.depth] at x2
  simp only [sz] at x3
  exact ⟨x1, by omega, by omega⟩
theorem Bt.pos (x : Bt h t (.tuple ds)) : 1 ≤ h := by
  have := x.h
  simp only [PyData.depth] at this
  omega
theorem BtL.head (x : BtL h t (d :: ds)) : Bt h t d ∧ BtL h t ds := by
  obtain ⟨x1, x2, x3⟩ := x
  rw [bdAll, Bool.and_eq_true] at x1
  simp only [PyData.depthAll] at x2
  simp only [szAll] at x3
  exact ⟨⟨x1.1, by omega, by omega⟩, ⟨x1.2, by omega, by omega⟩⟩
theorem BtL.mem : ∀ {ds : List D}, BtL h t ds → ∀ d ∈ ds, Bt h t d
  | [], _, d, m => nomatch m
  | e :: ds, x, d, m => by
    obtain ⟨x1, x2⟩ := x.head
    rcases List.mem_cons.mp m with rfl | m
    · exact x1
    · exact BtL.mem x2 d m
theorem BtL.app : ∀ {ds es : List D} {a b : Nat}, BtL h a ds → BtL h b es → BtL h (a + b) (ds ++ es)
  | [], es, a, b, _, y => y.to (Nat.le_refl _) (by omega)
  | d :: ds, es, a, b, x, y => by
    obtain ⟨x1, x2, x3⟩ := x
    rw [bdAll, Bool.and_eq_true] at x1
    simp only [PyData.depthAll] at x2
    simp only [szAll] at x3
    have r := BtL.app (ds := ds) (a := a - sz d - 2) ⟨x1.2, by omega, by omega⟩ y
    refine ⟨by rw [List.cons_append, bdAll, x1.1, r.b]; rfl, ?_, ?_⟩
    · have := r.h; rw [List.cons_append]; simp only [PyData.depthAll]; omega
    · have := r.t; rw [List.cons_append]; simp only [szAll]; omega
theorem BtL.all : ∀ {ds : List D}, (∀ d ∈ ds, Bt h t d) → BtL h (ds.length * (t + 2)) ds
  | [], _ => ⟨rfl, Nat.zero_le _, Nat.zero_le _⟩
  | d :: ds, x => by
    have r := BtL.cons (x d (List.mem_cons_self ..)) (BtL.all fun e m => x e (List.mem_cons_of_mem _ m))
    refine r.to (Nat.le_refl _) ?_
    rw [List.length_cons, Nat.succ_mul]
    omega
theorem BtL.take (n : Nat) (x : BtL h t ds) : BtL h t (ds.take n) := by
  induction n generalizing ds t with
  | zero => rw [List.take_zero]; exact ⟨rfl, Nat.zero_le _, Nat.zero_le _⟩
  | succ n ih =>
    cases ds with
    | nil => exact x
    | cons d ds =>
      obtain ⟨x1, x2, x3⟩ := x
      rw [bdAll, Bool.and_eq_true] at x1
      simp only [PyData.depthAll] at x2
      simp only [szAll] at x3
      have r := ih (ds := ds) (t := t - sz d - 2) ⟨x1.2, by omega, by omega⟩
      refine ⟨by rw [List.take_succ_cons, bdAll, x1.1, r.b]; rfl, ?_, ?_⟩
      · have := r.h; rw [List.take_succ_cons]; simp only [PyData.depthAll]; omega
      · have := r.t; rw [List.take_succ_cons]; simp only [szAll]; omega
theorem BtL.drop (n : Nat) (x : BtL h t ds) : BtL h t (ds.drop n) := by
  induction n generalizing ds with
  | zero => exact x
  | succ n ih =>
    cases ds with
    | nil => exact x
    | cons d ds => exact ih x.head.2
theorem Bt.sh (x : Bt h t d) (l : h ≤ 64) : Sh d := by
  show (PyData.canLay0 _ && decide (PyData.depth _ ≤ 64)) = true
  rw [Bool.and_eq_true, decide_eq_true_eq]
  exact ⟨(bd_lay d x.b).1, Nat.le_trans x.h l⟩
theorem Bt.repr (x : Bt h t d) (l : h ≤ 64) (m : t ≤ 16000000) {Q : D → Prop} (q : Q (.str d.shown)) : reprD [d] Q :=
  ⟨x.sh l, (bd_lay d x.b).2, Nat.le_trans (shown_le d x.b) (Nat.le_trans x.t (Nat.le_trans m (by decide))), q⟩
theorem Bt.int {i : Int} (hi : i.natAbs < 10 ^ 250) : Bt h 251 (.int i) := ⟨by simp only [bd]; exact decide_eq_true (Nat.lt_of_lt_of_le hi (Nat.pow_le_pow_right (by decide) (by decide))), Nat.zero_le _, by simp only [sz]; rw [if_pos hi]; exact Nat.le_refl _⟩
theorem Bt.bigInt {i : Int} (hi : i.natAbs < 10 ^ 420) : Bt h 421 (.int i) := ⟨by simp only [bd]; exact decide_eq_true hi, Nat.zero_le _, by simp only [sz]; split <;> decide⟩
theorem Bt.str {x : Str} (hx : PyData.strOk x = true) {n : Nat} (hn : x.length ≤ n) : Bt h (10 * n + 2) (.str x) := ⟨by simp only [bd]; exact hx, Nat.zero_le _, by simp only [sz]; omega⟩
theorem i250 {i : Int} {k : Nat} (h : i.natAbs < 10 ^ 40) : i.natAbs < 10 ^ 250 := Nat.lt_of_lt_of_le h (Nat.pow_le_pow_right (by decide) (by decide))
end

/-! ### a dict that is walked through: locked meanwhile -/
/-- what stands at d is o from now on -/
def sw (d : Addr) (o : HO) (H : Hp) : Hp := fun b => if b = d ∧ H b ≠ none then some o else H b
section
variable {d : Addr} {o o' x : HO} {H H' : Hp} {b : Addr}
theorem sw_ne (h : b ≠ d) : sw d o H b = H b := by unfold sw; rw [if_neg (fun z => h z.1)]
theorem sw_at (h : H d ≠ none) : sw d o H d = some o := by unfold sw; rw [if_pos ⟨rfl, h⟩]
theorem sw_none (h : H b = none) : sw d o H b = none := by unfold sw; rw [if_neg (fun z => z.2 h)]; exact h
theorem sw_none' (h : sw d o H b = none) : H b = none := by
  unfold sw at h
  split at h
  · cases h
  · exact h
theorem sw_nn (h : H b ≠ none) : sw d o H b ≠ none := fun z => h (sw_none' z)
theorem sw_some (h : sw d o H b = some x) : (b = d ∧ x = o ∧ H d ≠ none) ∨ (b ≠ d ∧ H b = some x) := by
  by_cases hb : b = d
  · subst hb
    by_cases hn : H b = none
    · rw [sw_none hn] at h; cases h
    · rw [sw_at hn] at h; cases h; exact .inl ⟨rfl, rfl, hn⟩
  · rw [sw_ne hb] at h; exact .inr ⟨hb, h⟩
theorem sw_of (h : H b = some x) (hx : b = d → x = o) : sw d o H b = some x := by
  by_cases hb : b = d
  · subst hb; rw [sw_at (by rw [h]; simp), hx rfl]
  · rw [sw_ne hb]; exact h
theorem sw_upd (h : H d ≠ none) : sw d o H = upd H d o := by
  funext b
  unfold sw upd
  by_cases hb : b = d
  · subst hb; rw [if_pos ⟨rfl, h⟩, if_pos rfl]
  · rw [if_neg (fun z => hb z.1), if_neg hb]
theorem sw_sw : sw d o (sw d o' H) = sw d o H := by
  funext b
  by_cases hb : b = d
  · subst hb
    by_cases hn : H b = none
    · rw [sw_none (sw_none hn), sw_none hn]
    · rw [sw_at (sw_nn hn), sw_at hn]
  · rw [sw_ne hb, sw_ne hb, sw_ne hb]
theorem sw_id (h : ∀ x, H d = some x → x = o) : sw d o H = H := by
  funext b
  by_cases hb : b = d
  · subst hb
    cases q : H b with
    | none => exact sw_none q
    | some y => rw [sw_at (by rw [q]; simp), h y q]
  · exact sw_ne hb
theorem Same.sw (e : Same H H') : Same (sw d o H) (sw d o H') := fun b x h => by
  rcases sw_some h with ⟨rfl, rfl, hn⟩ | ⟨hb, h⟩
  · refine sw_at fun z => ?_
    cases q : H b with
    | none => exact hn q
    | some y => rw [e b y q] at z; cases z
  · rw [sw_ne hb]; exact e b x h
end
/-- a dict of these pairs, locked or not -/
def DAt' (kvs : List (Key × V)) (x : HO) : Prop := x = .dK kvs ∨ ∃ f, x = .frz f (.dK kvs)
section
variable {K : PySem.W.Frag} {d : Addr} {o : HO} {H : Hp} {kvs : List (Key × V)}
theorem SqT.sw (hd : ∀ x, H d = some x → DAt' kvs x) {a : Addr} {xs : List V} (h : SqT K H a xs) : SqT K (sw d o H) a xs := by
  rcases h with (h | ⟨f, h⟩) | h
  · have hn : a ≠ d := fun z => by
      rw [z] at h
      rcases hd _ h with e | ⟨_, e⟩ <;> cases e
    exact .inl (.inl (by rw [sw_ne hn]; exact h))
  · have hn : a ≠ d := fun z => by
      rw [z] at h
      rcases hd _ h with e | ⟨_, e⟩ <;> cases e
    exact .inl (.inr ⟨f, by rw [sw_ne hn]; exact h⟩)
  · exact .inr h
theorem TqT.sw (hd : ∀ x, H d = some x → DAt' kvs x) {a : Addr} {xs : List V} (h : TqT K H a xs) : TqT K (sw d o H) a xs := by
  rcases h with ⟨f, h, z⟩ | h
  · have hn : a ≠ d := fun z => by
      rw [z] at h
      rcases hd _ h with e | ⟨_, e⟩ <;> cases e
    exact .inl ⟨f, by rw [sw_ne hn]; exact h, z⟩
  · exact .inr h
mutual
theorem Rp.sw (hd : ∀ x, H d = some x → DAt' kvs x) (ho : DAt' kvs o) : ∀ {v : V} {t : D}, Rp K H v t → Rp K (sw d o H) v t
  | _, _, .non => .non
  | _, _, .bl b => .bl b
  | _, _, .int i => .int i
  | _, _, .str z => .str z
  | _, _, .lst (a := a) q r => by
    refine .lst ?_ (RpAll.sw hd ho r)
    rw [sw_ne (fun z => ?_)]
    · exact q
    · rw [z] at q
      rcases hd _ q with e | ⟨_, e⟩ <;> cases e
  | _, _, .tup q r => .tup (TqT.sw hd q) (RpAll.sw hd ho r)
  | _, _, .dic (a := a) (kvs := ks) q r => by
    refine .dic ?_ (RpKV.sw hd ho r)
    by_cases ha : a = d
    · subst ha
      have e : ks = kvs := by
        rcases q with q | ⟨f, q⟩
        · rcases hd _ q with e | ⟨_, e⟩ <;> cases e; rfl
        · rcases hd _ q with e | ⟨_, e⟩ <;> cases e; rfl
      subst e
      have hn : H a ≠ none := by rcases q with q | ⟨f, q⟩ <;> (rw [q]; simp)
      rcases ho with rfl | ⟨f, rfl⟩
      · exact .inl (sw_at hn)
      · exact .inr ⟨f, sw_at hn⟩
    · rcases q with q | ⟨f, q⟩
      · exact .inl (by rw [sw_ne ha]; exact q)
      · exact .inr ⟨f, by rw [sw_ne ha]; exact q⟩
theorem RpAll.sw (hd : ∀ x, H d = some x → DAt' kvs x) (ho : DAt' kvs o) : ∀ {vs : List V} {ts : List D}, RpAll K H vs ts → RpAll K (sw d o H) vs ts
  | _, _, .nil => .nil
  | _, _, .cons a b => .cons (Rp.sw hd ho a) (RpAll.sw hd ho b)
theorem RpKV.sw (hd : ∀ x, H d = some x → DAt' kvs x) (ho : DAt' kvs o) : ∀ {vs : List (Key × V)} {ts : List (D × D)}, RpKV K H vs ts → RpKV K (sw d o H) vs ts
  | _, _, .nil => .nil
  | _, _, .cons a b => .cons (Rp.sw hd ho a) (RpKV.sw hd ho b)
end
theorem Cn.sw (hd : ∀ x, H d = some x → DAt' kvs x) (ho : DAt' kvs o) {u : HO} {t : D} (h : Cn K H u t) : Cn K (sw d o H) u t := by
  cases h with
  | lst a => exact .lst (RpAll.sw hd ho a)
  | dic a => exact .dic (RpKV.sw hd ho a)
end
section
variable {C : Cf} {σ : L2.St} {H0 S0 Hs H Hs' H' Hst : Hp} {s : S} {d : Addr} {o x : HO} {kvs : List (Key × V)}
theorem R.notPenS (r : R C H0 S0 Hs σ H s) (hx : Hs d = some x) : ¬ IsPen C d := fun z => by
  rcases z with ⟨c, z⟩ | z
  · have := (r.pn d c z).2.2.1
    rw [hx] at this; cases this
  · obtain ⟨⟨i, _, hi, e⟩, _⟩ := r.br d z
    have il : i < s.δ.length := by rw [← r.len]; exact (List.getElem?_eq_some_iff.mp e).1
    cases q : s.δ[i]'il with
    | none =>
      have := r.dead i hi (by rw [List.getElem?_eq_getElem il, q])
      rw [e] at this; cases this
    | some t =>
      obtain ⟨a, u, e1, _, e3, _⟩ := r.mt i t (by rw [List.getElem?_eq_getElem il, q]) hi
      rw [e] at e1; cases e1
      rw [hx] at e3; cases e3
theorem R.sw (r : R C H0 S0 Hs σ H s) (hx : Hs d = some x) (hd : DAt' kvs x) (ho : DAt' kvs o) : R C (sw d o H0) (sw d o S0) (sw d o Hs) σ (sw d o H) s := by
  have hd1 : ∀ y, Hs d = some y → DAt' kvs y := fun y e => by rw [hx] at e; cases e; exact hd
  have hH : H d = some x := r.sub _ _ hx
  have hnl : ∀ ys, x ≠ .lst ys := fun ys e => by rcases hd with z | ⟨_, z⟩ <;> rw [e] at z <;> cases z
  refine ⟨r.len, Same.sw r.sub, fun i t e m => ?_, fun i t e m => ?_, r.dead, r.sep, fun p c e => ?_, fun b hb => ?_, Same.sw r.s0, fun b u n e => ?_, fun b e1 e2 => ?_⟩
  · obtain ⟨v, e1, e2⟩ := r.slot i t e m
    exact ⟨v, e1, Rp.sw hd1 ho e2⟩
  · obtain ⟨a, u, e1, e2, e3, e4, e5⟩ := r.mt i t e m
    have hne : a ≠ d := fun z => by rw [z, hx] at e3; cases e3
    exact ⟨a, u, e1, by rw [sw_ne hne]; exact e2, by rw [sw_ne hne]; exact e3, e4.sw hd1 ho, e5.imp sw_none id⟩
  · obtain ⟨e1, e2, e3, e4, e5, e6⟩ := r.pn p c e
    have hp : p ≠ d := fun z => by rw [z, hx] at e3; cases e3
    refine ⟨e1, ?_, by rw [sw_ne hp]; exact e3, sw_nn e4, sw_nn e5, e6⟩
    generalize C.pk = pk at e2
    cases pk with
    | draw =>
      obtain ⟨⟨at_, rest, p1, p2⟩, ⟨ns, c1⟩, cp⟩ := (show Pen H p c s.n from e2)
      have hc : c ≠ d := fun z => by rw [z, hH] at c1; cases c1; exact hnl _ rfl
      exact (show Pen _ p c s.n from ⟨⟨at_, rest, by rw [sw_ne hp]; exact p1, p2⟩, ⟨ns, by rw [sw_ne hc]; exact c1⟩, cp⟩)
    | obj Cc f fd =>
      obtain ⟨⟨hv, a, z⟩, c1, ne, y⟩ := e2
      have hc : c ≠ d := fun z => by
        rw [z, hH] at c1
        cases c1
        rcases hd with z | ⟨_, z⟩ <;> cases z
      exact ⟨⟨hv, Rp.sw hd1 ho a, by rw [sw_ne hp]; exact z⟩, by rw [sw_ne hc]; exact c1, ne, fun x m => Rp.sw hd1 ho (y x m)⟩
  · obtain ⟨e1, e2⟩ := r.br b hb
    exact ⟨e1, sw_nn e2⟩
  · rcases sw_some e with ⟨rfl, rfl, hn⟩ | ⟨hb, e⟩
    · exact sw_at (by rw [hH]; simp)
    · rw [sw_ne hb]; exact r.h0 b u n e
  · exact sw_none (r.new b (sw_none' e1) fun z => e2 (sw_none z))
theorem Go.sw (g : Go C σ Hs H Hs' H') : Go C σ (sw d o Hs) (sw d o H) (sw d o Hs') (sw d o H') := by
  refine ⟨Same.sw g.st, fun b u e n m => ?_, fun b u e => ?_, fun b e1 e2 => sw_none (g.nw b (sw_none' e1) fun z => e2 (sw_none z))⟩
  · rcases sw_some e with ⟨rfl, rfl, hn⟩ | ⟨hb, e⟩
    · refine sw_at fun z => ?_
      cases q : H b with
      | none => exact hn q
      | some y => obtain ⟨y', q'⟩ := g.th b y q; rw [q'] at z; cases z
    · rw [sw_ne hb]; exact g.kp b u e n m
  · cases q : LW.sw d o H' b with
    | some y => exact ⟨y, rfl⟩
    | none =>
      exfalso
      have q' := sw_none' q
      cases q2 : H b with
      | none => rw [sw_none q2] at e; cases e
      | some y => obtain ⟨y', q3⟩ := g.th b y q2; rw [q3] at q'; cases q'
theorem Val.sw {cat : Cat} {v : V} {t : D} (h : Val C H0 Hst Hs σ H cat v t) (hx : Hs d = some x) (hd : DAt' kvs x) (ho : DAt' kvs o) : Val C (sw d o H0) (sw d o Hst) (sw d o Hs) σ (sw d o H) cat v t := by
  have hd1 : ∀ y, Hs d = some y → DAt' kvs y := fun y e => by rw [hx] at e; cases e; exact hd
  cases cat with
  | E => exact Rp.sw hd1 ho h
  | F =>
    cases e : isC t with
    | true =>
      obtain ⟨a, rfl, u, h1, h2, h3, h4, h5, h6⟩ := h.c e
      have hne : a ≠ d := fun z => by rw [z, hx] at h2; cases h2
      exact Val.mkC ⟨u, by rw [sw_ne hne]; exact h1, by rw [sw_ne hne]; exact h2, sw_none h3, sw_none h4, h5.sw hd1 ho, h6⟩
    | false => exact Val.mkP (Rp.sw hd1 ho (h.p e)) e
end
/-- under a lock, where it isn't locked yet -/
def tLk (t : TE) : TE := fun σ H Q => t σ H Q ∨ tLockE t σ H Q
theorem pe_lk {X : Cx} {e : Expr} {t : TE} (h : PE X e t) : PE X e (tLk t) :=
  ⟨fun pins s σ H Q I q => q.elim (fun q => h.run pins s σ H Q I q) fun q => (pe_lock h).run pins s σ H Q I q⟩
/-- te follows from t, where slot j is a locked dict -/
structure SimF (C : Cf) (j : Nat) (cat : Cat) (te : TE) (t : DT) : Prop where
  run : ∀ (H0 S0 Hs : Hp) (σ : L2.St) (H : Hp) (s : S) (Q : D → S → Prop) (Q' : VK) (a : Addr) (f : Obj) (xs : List (Key × V)) (kvs : List (D × D)), R C H0 S0 Hs σ H s → σ[j]? = some (some (.ref a)) → Hs a = some (.frz f (.dK xs)) → RpKV C.K Hs xs kvs → s.δ[j]? = some (some (.dict kvs)) → t s Q →
    (∀ Hs' H' v d s', Go C σ Hs H Hs' H' → R C H0 S0 Hs' σ H' s' → Val C H0 H Hs' σ H' cat v d → Q d s' → Q' v H') → te σ H Q'
def dLk (j : Nat) (t : DT) : DT := fun s Q => (∃ kvs, s.δ[j]? = some (some (.dict kvs))) ∧ t s Q
section
variable {C : Cf} {cat : Cat} {te : TE} {t : DT} {j : Nat}
theorem sim_lk (hj : j ∉ C.M) (h : SimF C j cat te t) : Sim C cat (tLk te) (dLk j t) := by
  refine ⟨fun H0 S0 Hs σ H s Q Q' r ⟨⟨kvs, ej⟩, q⟩ k => ?_⟩
  obtain ⟨v, e1, rp⟩ := r.slot j _ ej hj
  cases rp with
  | @dic a xs _ q0 rk =>
  rcases q0 with q0 | ⟨f, q0⟩
  · refine .inr ⟨a, .dK xs, r.sub _ _ q0, True.intro, fun od => ?_⟩
    have dA : DAt' xs (.dK xs) := .inl rfl
    have dB : DAt' xs (.frz od (.dK xs)) := .inr ⟨od, rfl⟩
    have hH : H a ≠ none := by rw [r.sub _ _ q0]; simp
    have np := r.notPenS q0
    have r1 := r.sw q0 dA dB
    have hs1 : sw a (.frz od (.dK xs)) Hs a = some (.frz od (.dK xs)) := sw_at (by rw [q0]; simp)
    have i0 : ∀ y, H0 a = some y → y = .dK xs := fun y e => by have := r.h0 a y np e; rw [r.sub _ _ q0] at this; cases this; rfl
    have is0 : ∀ y, S0 a = some y → y = .dK xs := fun y e => by have := r.s0 a y e; rw [q0] at this; cases this; rfl
    have iH : ∀ y, H a = some y → y = .dK xs := fun y e => by rw [r.sub _ _ q0] at e; cases e; rfl
    have iHs : ∀ y, Hs a = some y → y = .dK xs := fun y e => by rw [q0] at e; cases e; rfl
    rw [← sw_upd hH]
    refine h.run _ _ _ σ _ s Q _ a od xs kvs r1 e1 hs1 (RpKV.sw (fun y e => by rw [q0] at e; cases e; exact dA) dB rk) ej q fun Hs' H' v' d' s' g' r' v1 q1 => ?_
    have hs2 : Hs' a = some (.frz od (.dK xs)) := g'.st _ _ hs1
    have hh2 : H' a = some (.frz od (.dK xs)) := r'.sub _ _ hs2
    refine ⟨hh2, ?_⟩
    rw [← sw_upd (by rw [hh2]; simp)]
    have r2 := r'.sw hs2 dB dA
    rw [sw_sw, sw_sw, sw_id i0, sw_id is0] at r2
    have g2 := g'.sw (d := a) (o := .dK xs)
    rw [sw_sw, sw_sw, sw_id iH, sw_id iHs] at g2
    have v2 := v1.sw hs2 dB dA
    rw [sw_sw, sw_sw, sw_id i0, sw_id iH] at v2
    exact k _ _ v' d' s' g2 r2 v2 q1
  · exact .inl (h.run H0 S0 Hs σ H s Q Q' a f xs kvs r e1 q0 rk ej q k)
end
/-! comprehensions, told from the walk on -/
section
variable {C : Cf} {cat : Cat} {te : TE} {t : DT} {ca : Cat}
theorem lc_run {bw : Bool} {H0 S0 Hs1 : Hp} {σ : L2.St} {H1 : Hp} {s1 : S} {Q : D → S → Prop} {Q' : VK} {J : It} {items : List D} {tl vs : List Nat} {g : TG} {x : D → S → (S → Prop) → Prop} {tt : TT} {c : DB} (r1 : R C H0 S0 Hs1 σ H1 s1) (io : ItOk bw C Hs1 J items) (hg : SimG C bw tl g x) (ht : SimT C tt c) (he : Sim C ca te t) (hv : ∀ j, j ∈ tl → j ∈ vs) (hM : ∀ v ∈ vs, v ∉ C.M) (hp : ∀ v ∈ vs, v ≠ C.ps)
    (hz : items.length ≤ sizeLine) (q1 : lcD x c t vs (fun acc s2 => Q (.list acc) s2) items [] (wipeS s1 vs))
    (k : ∀ Hs' H' v d s', Go C σ Hs1 H1 Hs' H' → R C H0 S0 Hs' σ H' s' → Val C H0 H1 Hs' σ H' .F v d → Q d s' → Q' v H') : tLc (fun _ H R => R J H) g tt te vs σ H1 Q' := by
  have wi : SimI { C with bor := C.bor } bw (fun _ _ _ => False) (fun _ _ => False) := ⟨fun _ _ _ _ _ _ _ _ _ z _ => z⟩
  intro L nL
  obtain ⟨G, Y, W, hG, hY⟩ := io
  obtain ⟨l0, l1, l2, l3⟩ := r1.free0 nL
  have ow : ∀ b, Own C (L2.wipe σ vs) b → Own C σ b := own_of hM fun j h => wipe_out h
  have lw : ¬ Own C (L2.wipe σ vs) L := fun z => l2 (ow L z)
  refine lc_it W (fun i H => ∃ Hs s accV accD, R C H0 Hs1 Hs (L2.wipe σ vs) H s ∧ H L = some (.lst accV) ∧ Hs L = none ∧ RpAll C.K Hs accV accD ∧ accD.length ≤ i ∧ Go C σ Hs1 H1 Hs H ∧ (∀ v ∈ vs, ∀ d, s.δ[v]? ≠ some (some d)) ∧ lcD x c t vs (fun acc s2 => Q (.list acc) s2) (items.drop i) accD s)
    ⟨Hs1, wipeS s1 vs, [], [], ((r1.laid nL).wipe hM hp).base, upd_same, l1, .nil, Nat.le_refl _, Go.laid nL, fun v m d => wipeL_in m d, q1⟩ (fun i H _ ⟨Hs, s, _, _, r, _⟩ => hG H (r.s0.trans r.sub)) (fun i v H H' hi' ⟨Hs, s, accV, accD, r, hL, hsL, ra, la, ga, _, q⟩ y => ?_) (fun H ⟨Hs, s, accV, accD, r, hL, hsL, ra, la, ga, hn, q⟩ => ?_)
  · obtain ⟨Hs2, d, e1, r2, rp, g2⟩ := hY i H v H' H0 Hs1 Hs (L2.wipe σ vs) s hi' r r.s0 y
    rw [List.drop_eq_getElem_cons hi'] at q
    have ed : items[i] = d := by
      rw [List.getElem?_eq_getElem hi'] at e1
      exact Option.some.inj e1
    rw [ed] at q
    have hL2 := g2.kp L _ hL lw l3
    have hsL2 := none_of_new g2.nw hsL hL
    refine hg.run H0 Hs1 Hs2 (L2.wipe σ vs) H' s v d _ _ r2 rp q fun σ3 s3 r3 len3 out3 q3 => ?_
    have out3' : ∀ j, j ∉ vs → σ3[j]? = σ[j]? := fun j h => (out3 j (fun z => h (hv j z))).trans (wipe_out h)
    have wq : L2.wipe σ3 vs = L2.wipe σ vs := wipe_eq (by rw [len3, wipe_length]) out3'
    have ow3 : ∀ b, Own C σ3 b → Own C σ b := own_of hM out3'
    have lw3 : ¬ Own C σ3 L := fun z => l2 (ow3 L z)
    refine ⟨wq, ht.run H0 Hs1 Hs2 σ3 H' s3 _ _ r3 q3 fun Hs4 H4 b4 s4 g4 r4 q4 => ?_⟩
    have hL4 := g4.kp L _ hL2 lw3 l3
    have hsL4 := none_of_new g4.nw hsL2 hL2
    have ga4 : Go C σ Hs1 H1 Hs4 H4 := ga.trans ((g2.own ow).trans (g4.own ow3))
    cases b4 with
    | true =>
      refine ifp rfl (he.toE.run H0 Hs1 Hs4 σ3 H4 s4 _ _ r4 (by simpa using q4) fun Hs5 H5 w dw s5 g5 r5 v5 q5 => ?_)
      have hL5 := g5.kp L _ hL4 lw3 l3
      have hsL5 := none_of_new g5.nw hsL4 hL4
      have ra5 := RpAll.mono (g2.st.trans (g4.st.trans g5.st)) ra
      refine ⟨accV, hL5, by rw [ra5.len]; omega, Hs5, wipeS s5 vs, _, accD ++ [dw], ?_, upd_same, hsL5, ra5.app (.cons v5 .nil), by rw [List.length_append]; show accD.length + 1 ≤ i + 1; omega, (ga4.trans (g5.own ow3)).updF nL, fun v m d => wipeL_in m d, q5⟩
      rw [← wq]
      exact (r5.updF hsL5 l0 lw3).wipe hM hp
    | false =>
      refine ifn Bool.false_ne_true ⟨Hs4, wipeS s4 vs, accV, accD, ?_, hL4, hsL4, RpAll.mono (g2.st.trans g4.st) ra, by omega, ga4, fun v m d => wipeL_in m d, by simpa using q4⟩
      rw [← wq]
      exact r4.wipe hM hp
  · rw [List.drop_length] at q
    refine k Hs H _ (.list accD) s ga (r1.back (r.unwipe hM hp hn)) (Val.mkC ⟨_, hL, hsL, l0, nL, .lst ra, l2⟩) q
/-- a dict comprehension over it -/
theorem dc_it {J : It} {n : Nat} {G : Hp → Prop} {Y : Nat → Hp → V → Hp → Prop} (w : Walk J n G Y) {g : TG} {tt : TT} {tk tv : TE} {vs : List Nat} {σ : L2.St} {H1 : Hp} {D : Addr} {Qd : Hp → Prop} (Pv : Nat → Hp → Prop) (h0 : Pv 0 (upd H1 D (.dK []))) (hG : ∀ i H, i ≤ n → Pv i H → G H)
    (hs : ∀ i x H H', i < n → Pv i H → Y i H x H' → g x (wipe σ vs) H' fun σ2 H2 => wipe σ2 vs = wipe σ vs ∧ tt σ2 H2 fun b H3 =>
      if b = true then tk σ2 H3 fun y H4 => tv σ2 H4 fun z H5 => ∃ kvs k, y = kV k ∧ H5 D = some (.dK kvs) ∧ kvs.length < sizeLine ∧ Pv (i + 1) (upd H5 D (.dK (putK kvs k z))) else Pv (i + 1) H3) (hd : ∀ H, Pv n H → Qd H) :
    ∃ W : Nat → Nat → Hp → Prop, (∃ m, W 0 m (upd H1 D (.dK []))) ∧ ∀ i m H, W i m H →
      (J.stop i H ∧ Qd H) ∨ (J.go i H ∧ ∃ Nx : Hp → Prop, (∀ H', Nx H' → ∃ m', m' < m ∧ W (i + 1) m' H') ∧ ∀ x H', J.yld i H x H' → g x (wipe σ vs) H' fun σ2 H2 => wipe σ2 vs = wipe σ vs ∧ tt σ2 H2 fun b H3 =>
        if b = true then tk σ2 H3 fun y H4 => tv σ2 H4 fun z H5 => ∃ kvs k, y = kV k ∧ H5 D = some (.dK kvs) ∧ kvs.length < sizeLine ∧ Nx (upd H5 D (.dK (putK kvs k z))) else Nx H3) := by
  refine ⟨fun i m H => m = n - i ∧ i ≤ n ∧ Pv i H, ⟨n, by simp, Nat.zero_le _, h0⟩, ?_⟩
  rintro i m H ⟨rfl, hi, p⟩
  have q := hG i H hi p
  by_cases hlt : i < n
  · refine .inr ⟨w.goes i H hlt q, Pv (i + 1), fun H' p' => ⟨n - (i + 1), by omega, rfl, hlt, p'⟩, fun x H' y => hs i x H H' hlt p (w.yields i H x H' hlt q y)⟩
  · have e : i = n := by omega
    subst e
    exact .inl ⟨w.stops H q, hd H p⟩
def dcD (g : D → S → (S → Prop) → Prop) (c : DB) (kx e : DT) (vs : List Nat) (Q : List (D × D) → S → Prop) : List D → List (D × D) → S → Prop
  | [], acc, s => Q acc s
  | d :: ds, acc, s => g d s fun s1 => c s1 fun k s2 => if k = true then kx s2 fun y s3 => e s3 fun z s4 => isKey y = true ∧ dcD g c kx e vs Q ds (putD acc y z) (wipeS s4 vs) else dcD g c kx e vs Q ds acc (wipeS s2 vs)
theorem putD_len (kvs : List (D × D)) (k v : D) : (putD kvs k v).length ≤ kvs.length + 1 := by
  unfold putD
  split
  · rw [List.length_map]; omega
  · rw [List.length_append]; exact Nat.le_refl _
theorem dc_run {bw : Bool} {H0 S0 Hs1 : Hp} {σ : L2.St} {H1 : Hp} {s1 : S} {Q : D → S → Prop} {Q' : VK} {J : It} {items : List D} {tl vs : List Nat} {g : TG} {x : D → S → (S → Prop) → Prop} {tt : TT} {c : DB} {tk : TE} {kx : DT} {ck : Cat} (r1 : R C H0 S0 Hs1 σ H1 s1) (io : ItOk bw C Hs1 J items) (hg : SimG C bw tl g x) (ht : SimT C tt c) (hk : Sim C ck tk kx) (he : Sim C ca te t) (hv : ∀ j, j ∈ tl → j ∈ vs) (hM : ∀ v ∈ vs, v ∉ C.M) (hp : ∀ v ∈ vs, v ≠ C.ps)
    (hz : items.length ≤ sizeLine) (q1 : dcD x c kx t vs (fun acc s2 => Q (.dict acc) s2) items [] (wipeS s1 vs))
    (k : ∀ Hs' H' v d s', Go C σ Hs1 H1 Hs' H' → R C H0 S0 Hs' σ H' s' → Val C H0 H1 Hs' σ H' .F v d → Q d s' → Q' v H') : tDc (fun _ H R => R J H) g tt tk te vs σ H1 Q' := by
  intro L nL
  obtain ⟨G, Y, W, hG, hY⟩ := io
  obtain ⟨l0, l1, l2, l3⟩ := r1.free0 nL
  have ow : ∀ b, Own C (L2.wipe σ vs) b → Own C σ b := own_of hM fun j h => wipe_out h
  have lw : ¬ Own C (L2.wipe σ vs) L := fun z => l2 (ow L z)
  refine dc_it W (fun i H => ∃ Hs s accV accD, R C H0 Hs1 Hs (L2.wipe σ vs) H s ∧ H L = some (.dK accV) ∧ Hs L = none ∧ RpKV C.K Hs accV accD ∧ accD.length ≤ i ∧ Go C σ Hs1 H1 Hs H ∧ (∀ v ∈ vs, ∀ d, s.δ[v]? ≠ some (some d)) ∧ dcD x c kx t vs (fun acc s2 => Q (.dict acc) s2) (items.drop i) accD s)
    ⟨Hs1, wipeS s1 vs, [], [], ((r1.laid nL).wipe hM hp).base, upd_same, l1, .nil, Nat.le_refl _, Go.laid nL, fun v m d => wipeL_in m d, q1⟩ (fun i H _ ⟨Hs, s, _, _, r, _⟩ => hG H (r.s0.trans r.sub)) (fun i v H H' hi' ⟨Hs, s, accV, accD, r, hL, hsL, ra, la, ga, _, q⟩ y => ?_) (fun H ⟨Hs, s, accV, accD, r, hL, hsL, ra, la, ga, hn, q⟩ => ?_)
  · obtain ⟨Hs2, d, e1, r2, rp, g2⟩ := hY i H v H' H0 Hs1 Hs (L2.wipe σ vs) s hi' r r.s0 y
    rw [List.drop_eq_getElem_cons hi'] at q
    have ed : items[i] = d := by
      rw [List.getElem?_eq_getElem hi'] at e1
      exact Option.some.inj e1
    rw [ed] at q
    have hL2 := g2.kp L _ hL lw l3
    have hsL2 := none_of_new g2.nw hsL hL
    refine hg.run H0 Hs1 Hs2 (L2.wipe σ vs) H' s v d _ _ r2 rp q fun σ3 s3 r3 len3 out3 q3 => ?_
    have out3' : ∀ j, j ∉ vs → σ3[j]? = σ[j]? := fun j h => (out3 j (fun z => h (hv j z))).trans (wipe_out h)
    have wq : L2.wipe σ3 vs = L2.wipe σ vs := wipe_eq (by rw [len3, wipe_length]) out3'
    have ow3 : ∀ b, Own C σ3 b → Own C σ b := own_of hM out3'
    have lw3 : ¬ Own C σ3 L := fun z => l2 (ow3 L z)
    refine ⟨wq, ht.run H0 Hs1 Hs2 σ3 H' s3 _ _ r3 q3 fun Hs4 H4 b4 s4 g4 r4 q4 => ?_⟩
    have hL4 := g4.kp L _ hL2 lw3 l3
    have hsL4 := none_of_new g4.nw hsL2 hL2
    have ga4 : Go C σ Hs1 H1 Hs4 H4 := ga.trans ((g2.own ow).trans (g4.own ow3))
    cases b4 with
    | true =>
      refine ifp rfl (hk.toE.run H0 Hs1 Hs4 σ3 H4 s4 _ _ r4 (by simpa using q4) fun Hs5 H5 w dw s5 g5 r5 v5 q5 => ?_)
      refine he.toE.run H0 Hs1 Hs5 σ3 H5 s5 _ _ r5 q5 fun Hs6 H6 w2 dw2 s6 g6 r6 v6 q6 => ?_
      obtain ⟨hky, q6⟩ := q6
      obtain ⟨kk, rfl⟩ := isKey_of hky
      have v5' : Rp C.K Hs5 w (keyD kk) := v5
      have hL5 := g6.kp L _ (g5.kp L _ hL4 lw3 l3) lw3 l3
      have hsL5 := none_of_new g6.nw (none_of_new g5.nw hsL4 hL4) (g5.kp L _ hL4 lw3 l3)
      have ra5 := RpKV.mono (g2.st.trans (g4.st.trans (g5.st.trans g6.st))) ra
      refine ⟨accV, kk, v5'.key, hL5, by rw [ra5.len]; omega, Hs6, wipeS s6 vs, _, putD accD (keyD kk) dw2, ?_, upd_same, hsL5, ra5.put (k := kk) v6, by have := putD_len accD (keyD kk) dw2; omega, (ga4.trans ((g5.own ow3).trans (g6.own ow3))).updF nL, fun v m d => wipeL_in m d, q6⟩
      rw [← wq]
      exact (r6.updF hsL5 l0 lw3).wipe hM hp
    | false =>
      refine ifn Bool.false_ne_true ⟨Hs4, wipeS s4 vs, accV, accD, ?_, hL4, hsL4, RpKV.mono (g2.st.trans g4.st) ra, by omega, ga4, fun v m d => wipeL_in m d, by simpa using q4⟩
      rw [← wq]
      exact r4.wipe hM hp
  · rw [List.drop_length] at q
    refine k Hs H _ (.dict accD) s ga (r1.back (r.unwipe hM hp hn)) (Val.mkC ⟨_, hL, hsL, l0, nL, .dic ra, l2⟩) q
/-! the walks of a locked dict -/
theorem RpKV.getV {K : PySem.W.Frag} {H : Hp} : ∀ {xs : List (Key × V)} {ds : List (D × D)} {i : Nat} {k : Key} {v : V}, RpKV K H xs ds → xs[i]? = some (k, v) → ∃ d, ds[i]? = some (keyD k, d) ∧ Rp K H v d
  | _, _, 0, _, _, .cons a _, e => by
    cases e
    exact ⟨_, rfl, a⟩
  | _, _, i + 1, k, v, .cons _ b, e => RpKV.getV (i := i) b e
theorem Rp.ofKey {K : PySem.W.Frag} {H : Hp} (k : Key) : Rp K H (kV k) (keyD k) := by cases k with
  | inl i => exact .int i
  | inr z => exact .str z
theorem itOk_keys {Hs1 : Hp} {a : Addr} {f : Obj} {xs : List (Key × V)} {ds : List (D × D)} (h : Hs1 a = some (.frz f (.dK xs))) (hd : RpKV C.K Hs1 xs ds) : ItOk false C Hs1 (Itk a f xs) (ds.map Prod.fst) := by
  refine ⟨_, _, by rw [List.length_map, ← hd.len]; exact walk_keys, fun H e => e _ _ h, fun i H v H2 H0 S0 Hs σ s hi r e y => ?_⟩
  obtain ⟨rfl, k, w, e1, rfl⟩ := y
  obtain ⟨d, e2, _⟩ := hd.getV e1
  exact ⟨Hs, keyD k, by rw [List.getElem?_map, e2]; rfl, r, Rp.ofKey k, Go.refl⟩
def itemsD (kvs : List (D × D)) : List D := kvs.map fun kv => .tuple [kv.1, kv.2]
theorem itOk_items {Hs1 : Hp} {a : Addr} {f : Obj} {xs : List (Key × V)} {ds : List (D × D)} (h : Hs1 a = some (.frz f (.dK xs))) (hd : RpKV C.K Hs1 xs ds) : ItOk true C Hs1 (Iti a f xs) (itemsD ds) := by
  refine ⟨_, _, by unfold itemsD; rw [List.length_map, ← hd.len]; exact walk_items, fun H e => e _ _ h, fun i H v H2 H0 S0 Hs σ s hi r e y => ?_⟩
  obtain ⟨T, x1, x2, rfl, nT, rfl, f1, f2⟩ := y
  dsimp only at f1 f2
  cases q : xs[i]? with
  | none => rw [q] at f1; cases f1
  | some kv =>
    obtain ⟨k, w⟩ := kv
    rw [q] at f1 f2
    cases f1; cases f2
    obtain ⟨d, e2, e3⟩ := hd.getV q
    obtain ⟨Hs2, r2, rp, g⟩ := pair_it r nT (Rp.ofKey k) (Rp.mono e e3)
    exact ⟨Hs2, _, by unfold itemsD; rw [List.getElem?_map, e2]; rfl, r2, rp, g⟩
/-- the keys, the pairs of the dict in slot j -/
def dKeys (j : Nat) : DI := fun s Q => match s.δ[j]? with
  | some (some (.dict kvs)) => Q (kvs.map Prod.fst) s
  | _ => False
def dItems (j : Nat) : DI := fun s Q => match s.δ[j]? with
  | some (some (.dict kvs)) => Q (itemsD kvs) s
  | _ => False
def dDc (it : DI) (g : D → S → (S → Prop) → Prop) (c : DB) (kx e : DT) (vs : List Nat) : DT := fun s Q => it s fun items s1 => items.length ≤ sizeLine ∧ dcD g c kx e vs (fun acc s2 => Q (.dict acc) s2) items [] (wipeS s1 vs)
theorem sim_lcKeys {j : Nat} {tl vs : List Nat} {g : TG} {x : D → S → (S → Prop) → Prop} {tt : TT} {c : DB} (hj : j ∉ C.M) (hg : SimG C false tl g x) (ht : SimT C tt c) (he : Sim C ca te t) (hv : ∀ j, j ∈ tl → j ∈ vs) (hM : ∀ v ∈ vs, v ∉ C.M) (hp : ∀ v ∈ vs, v ≠ C.ps) :
    Sim C .F (tLk (tLc (iKeys (tVar j)) g tt te vs)) (dLk j (dLc (dKeys j) x c t vs)) := by
  refine sim_lk hj ⟨fun H0 S0 Hs σ H s Q Q' a f xs kvs r e1 hs rk ej q k => ?_⟩
  simp only [dLc, dKeys, ej] at q
  exact ⟨_, e1, a, f, rfl, .inl ⟨xs, r.sub _ _ hs, lc_run r (itOk_keys hs rk) hg ht he hv hM hp q.1 q.2 k⟩⟩
theorem sim_dcItems {j : Nat} {tl vs : List Nat} {g : TG} {x : D → S → (S → Prop) → Prop} {tt : TT} {c : DB} {tk : TE} {kx : DT} {ck : Cat} (hj : j ∉ C.M) (hg : SimG C true tl g x) (ht : SimT C tt c) (hk : Sim C ck tk kx) (he : Sim C ca te t) (hv : ∀ j, j ∈ tl → j ∈ vs) (hM : ∀ v ∈ vs, v ∉ C.M) (hp : ∀ v ∈ vs, v ≠ C.ps) :
    Sim C .F (tLk (tDc (iItems (tVar j)) g tt tk te vs)) (dLk j (dDc (dItems j) x c kx t vs)) := by
  refine sim_lk hj ⟨fun H0 S0 Hs σ H s Q Q' a f xs kvs r e1 hs rk ej q k => ?_⟩
  simp only [dDc, dItems, ej] at q
  exact ⟨_, e1, a, f, xs, rfl, r.sub _ _ hs, dc_run r (itOk_items hs rk) hg ht hk he hv hM hp q.1 q.2 k⟩
end
/-! ### t += u, of tuples -/
theorem noI_tuple_add : typeLookup (.type "tuple") (dunderI "add") = pure none := by rw [typeLookup_type, builtinLookup_eq_fast]; kernel_rfl
theorem iop_catA {X : Cx} (K : PySem.W.Frag) (eK : X.K = K) : OpR X (inplaceOp .Add) (rCatZ K) := by
  subst eK
  intro pins s σ H x y v u Q I rx ry h
  obtain ⟨a, b, xs, ys, rfl, rfl, ha, hb, hz, q0, q1, q2⟩ := h
  cases rx
  cases ry
  obtain ⟨its, r1, p1, _⟩ := I.tuple ha
  obtain ⟨its2, r2, p2, _⟩ := I.tuple hb
  obtain ⟨⟨cls, dd, data, sl⟩, ho, hc, n, hd⟩ := id p1
  obtain ⟨⟨cls2, dd2, data2, sl2⟩, ho2, hc2, n2, hd2⟩ := id p2
  simp only at hc hd hc2 hd2
  subst hc hd hc2 hd2
  have e : its.toArray ++ its2.toArray = (its ++ its2).toArray := by simp
  by_cases hx : xs = []
  · subst hx
    cases r1
    exact wpAny_inplaceOp_concat ⟨_, ho, rfl⟩ ⟨_, ho2, rfl⟩ noI_tuple_add noFill_tuple_add seq_tuple_add (call_meets PySem.F.slot_tuple_add ⟨_, ho, rfl⟩ PySem.F.entry_tuple_add (PySem.F.args_tuple_add_2 _ _)
      (tuple_addW0 a b ([] : List Value).toArray its2.toArray n n2 dd dd2 sl sl2 (by simp)) ⟨ho, ho2, ⟨.ref b, H, I, rfl, q0 rfl⟩⟩)
  · have hv : its ≠ [] := fun z => hx (r1.nil_iff.mp z)
    by_cases hw : its2 = []
    · exact wpAny_inplaceOp_concat ⟨_, ho, rfl⟩ ⟨_, ho2, rfl⟩ noI_tuple_add noFill_tuple_add seq_tuple_add (call_meets PySem.F.slot_tuple_add ⟨_, ho, rfl⟩ PySem.F.entry_tuple_add (PySem.F.args_tuple_add_2 _ _)
        (tuple_addW1 a b its.toArray its2.toArray n n2 dd dd2 sl sl2 (by simpa using hv) (by simp [hw])) ⟨ho, ho2, ⟨.ref a, H, I, rfl, q1 hx (r2.nil_iff.mp hw)⟩⟩)
    · refine wpAny_inplaceOp_concat ⟨_, ho, rfl⟩ ⟨_, ho2, rfl⟩ noI_tuple_add noFill_tuple_add seq_tuple_add (call_meets PySem.F.slot_tuple_add ⟨_, ho, rfl⟩ PySem.F.entry_tuple_add (PySem.F.args_tuple_add_2 _ _)
        (tuple_addW2 a b its.toArray its2.toArray n n2 dd dd2 sl sl2 (by simpa using hv) (by simpa using hw) (by rw [List.size_toArray, List.size_toArray, ← r1.length, ← r2.length]; exact hz)) ⟨ho, ho2, ?_⟩)
      rw [e]
      obtain ⟨I2, hf⟩ := frz_new I (r1.append r2) (by rw [List.length_append]; exact hz) (h' := s.heap.push (tupObj (its ++ its2))) (fun b o e => Heap.get?_push_of_some _ e) (Nat.le_refl _) (Heap.get?_push_size _ rfl) (t := s.toks)
      exact ⟨.ref s.heap.objs.size, _, I2, rfl, q2 hx (fun w => hw (r2.nil_iff.mpr w)) _ _ hf rfl⟩
def catTD : DO := fun x y Q => match x, y with
  | .tuple xs, .tuple ys => xs.length + ys.length ≤ sizeLine ∧ Q (.tuple (xs ++ ys))
  | _, _ => False
theorem opA_catT {C : Cf} : OpA C (rCatZ C.K) catTD := by
  intro H0 S0 Hs σ H s x y dx dy Q Q' r hx hy q k
  cases dx <;> cases dy <;> first | exact q.elim | skip
  rename_i ds es
  cases (show Rp C.K Hs x (.tuple ds) from hx) with
  | @tup a xs _ h1 h2 =>
  cases (show Rp C.K Hs y (.tuple es) from hy) with
  | @tup b ys _ h3 h4 =>
    refine ⟨a, b, xs, ys, rfl, rfl, Same.sqT r.sub h1.sq, Same.sqT r.sub h3.sq, by rw [h2.len, h4.len]; exact q.1, fun e => ?_, fun _ e => ?_, fun _ _ p o np hd => ?_⟩
    · subst e
      cases h2
      exact k Hs H _ (.tuple ([] ++ es)) Go.refl r (Val.mkP (Rp.tup h3 h4) rfl) q.2
    · subst e
      cases h4
      exact k Hs H _ (.tuple (ds ++ [])) Go.refl r (Val.mkP (by rw [List.append_nil]; exact Rp.tup h1 h2) rfl) q.2
    · obtain ⟨r', g'⟩ := r.newTup (o := .frz o (.tup (xs ++ ys))) np
      exact k _ _ _ (.tuple (ds ++ es)) g' r' (Val.mkP (Rp.tup (TqT.of upd_same hd) (RpAll.mono g'.st (h2.app h4))) rfl) q.2
/-! ### a call that only reads lists and dicts of the caller's own, and tells a truth, a number, a text or None -/
def isFl : D → Bool
  | .none => true
  | .bool _ => true
  | .int _ => true
  | .str _ => true
  | _ => false
/-- arguments, some of them own slots (told by their place) -/
structure SimO' (C : Cf) (n : Nat) (ta : TA) (t : DA) : Prop where
  run : ∀ (H0 S0 Hs : Hp) (σ : L2.St) (H : Hp) (s : S) (Q : List D → S → Prop) (Q' : List V → Hp → Prop), R C H0 S0 Hs σ H s → t s Q →
    (∀ Hs' H' vs ds s', Go C σ Hs H Hs' H' → R C H0 S0 Hs' σ H' s' → ds.length = n → (∃ Ht, Same Hs' Ht ∧ Same Ht H' ∧ (∀ b o, Ht b = some o → Hs' b = some o ∨ Own C σ b) ∧ RpAll C.K Ht vs ds) → Q ds s' → Q' vs H') → ta σ H Q'
section
variable {C : Cf} {ca : Cat} {te : TE} {dt : DT}
theorem simO'_of {n : Nat} {ta : TA} {t : DA} (h : SimA C n ta t) : SimO' C n ta t :=
  ⟨fun H0 S0 Hs σ H s Q Q' r q k => h.run H0 S0 Hs σ H s _ _ r q fun Hs1 H1 vs ds s1 g1 r1 v1 l1 q1 => k Hs1 H1 vs ds s1 g1 r1 l1 ⟨Hs1, Same.refl _, r1.sub, fun b o e => .inl e, v1⟩ q1⟩
/-- f(xs, ..): xs an own slot, the others still -/
def dOwn (i : Nat) (r : DA) : DA := fun s Q => (∃ d, s.δ[i]? = some (some d)) ∧ r s fun ds s1 => match s1.δ[i]? with
  | some (some d) => Q (d :: ds) s1
  | _ => False
theorem simO'_own {i n : Nat} {ta : TA} {t : DA} (hi : i ∈ C.M) (h : SimA C n ta t) : SimO' C (n + 1) (tCons (tVar i) ta) (dOwn i t) := by
  refine ⟨fun H0 S0 Hs σ H s Q Q' r ⟨⟨d, e⟩, q⟩ k => ?_⟩
  obtain ⟨b, o, e1, _⟩ := r.mt i d e hi
  refine ⟨.ref b, e1, h.run H0 S0 Hs σ H s _ _ r q fun Hs1 H1 vs ds s1 g1 r1 v1 l1 q1 => ?_⟩
  split at q1
  · rename_i d1 ed
    obtain ⟨b', o', f1, f2, f3, f4, _⟩ := r1.mt i d1 ed hi
    rw [e1] at f1
    cases f1
    have sm : Same Hs1 (upd Hs1 b o') := same_upd f3
    refine k Hs1 H1 _ _ s1 g1 r1 (by rw [List.length_cons, l1]) ⟨upd Hs1 b o', sm, fun c u ec => ?_, fun c u ec => ?_, .cons ((f4.mono sm).rp upd_same) (RpAll.mono sm v1)⟩ q1
    · by_cases hc : c = b
      · subst hc; rw [upd_same] at ec; cases ec; exact f2
      · rw [upd_ne hc] at ec; exact r1.sub _ _ ec
    · by_cases hc : c = b
      · exact .inr ⟨i, hi, by rw [hc]; exact e1⟩
      · rw [upd_ne hc] at ec; exact .inl ec
  · exact q1.elim
def dCallO (F : DF) (a : DA) : DT := fun s Q => a s fun ds s1 => F ds fun d => isFl d = true ∧ Q d s1
theorem Rp.flat {K : PySem.W.Frag} {H H' : Hp} {v : V} {d : D} (h : Rp K H v d) (f : isFl d = true) : Rp K H' v d := by
  cases h with
  | non => exact .non
  | bl b => exact .bl b
  | int i => exact .int i
  | str z => exact .str z
  | lst _ _ => cases f
  | tup _ _ => cases f
  | dic _ _ => cases f
theorem sim_callO {n : Nat} {F : DF} {ta : TA} {a : DA} (h : SimO' C n ta a) : Sim C .F (tCall (spN C.K n .E F) [] E0 ta) (dCallO F a) := by
  refine ⟨fun H0 S0 Hs σ H s Q Q' r q k => h.run H0 S0 Hs σ H s _ _ r q fun Hs1 H1 vs ds s1 g1 r1 l1 ⟨Ht, st, sb, ho, v1⟩ q1 => ?_⟩
  rw [List.append_nil]
  refine ⟨Ht, ds, _, sb, v1, l1, q1, fun d Hs' H' v q2 st' sb' hh nw rv => ?_⟩
  obtain ⟨r2, g2⟩ := r1.step (Hs' := Hs1) (H' := H') (Same.refl _) (r1.sub.trans hh) hh (fun b e1 e2 => absurd e1 e2)
  have rp : Rp C.K Hs' v d := rv
  have hc : isC d = false := by cases d <;> first | rfl | (cases q2.1)
  exact k Hs1 H' v d s1 (g1.trans g2) r2 (Val.mkP (rp.flat q2.1) hc) q2.2
end
/-! ### x = a new list; two or three statements on; then it is still -/
section
variable {C : Cf} {cat : Cat} {ta : TE} {da : DT} {t1 t2 t3 us : TS} {a1 a2 a3 b : DSt}
theorem simS_phase2 (i : Nat) (hi : i ∉ C.M) (hp : i ≠ C.ps) (hb' : i ∉ C.bs) (h1 : Sim C .F ta da) (hA : SimS { C with M := i :: C.M } cat (tSeq t1 t2) a1) (hB : SimS C cat us b) : SimS C cat (tSeq (tAsg ta (gName i)) (tSeq t1 (tSeq t2 us))) (dPhase i da a1 b) := by
  have h := simS_phase (ts := tSeq t1 t2) i hi hp hb' h1 hA hB
  exact h
theorem simS_phase3 (i : Nat) (hi : i ∉ C.M) (hp : i ≠ C.ps) (hb' : i ∉ C.bs) (h1 : Sim C .F ta da) (hA : SimS { C with M := i :: C.M } cat (tSeq t1 (tSeq t2 t3)) a1) (hB : SimS C cat us b) : SimS C cat (tSeq (tAsg ta (gName i)) (tSeq t1 (tSeq t2 (tSeq t3 us)))) (dPhase i da a1 b) := by
  have h := simS_phase (ts := tSeq t1 (tSeq t2 t3)) i hi hp hb' h1 hA hB
  exact h
end
/-! ### x = {k: v for ..}; x = [.. for k in d] under a lock -/
section
variable {X : Cx}
theorem ps_lkSet {st : Stmt} {t : TE} {i : Nat} (h : PS X st (tAsg t (gName i))) : PS X st (tAsg (tLk t) (gName i)) :=
  ⟨fun pins s σ H D I q => (show tAsg t (gName i) D σ H ∨ tLock (tAsg t (gName i)) D σ H from q).elim (fun q => h.run pins s σ H D I q) fun q => (ps_lock h).run pins s σ H D I q⟩
theorem ps_setDc {i : Nat} {y : Str} {py : Pos} {kx vx tg iter : Expr} {ifs : List Expr} {scope : Scope} {own : List (Str × Nat)} {pos spos : Pos} {wi : TI} {g : TG} {tt : TT} {tk tv : TE} (hc : X.calm = true) (hN : X.N.Nodup) (hy : X.N[i]? = some y) (hyl : X.env.scope.names.lookup y = some .local)
    (hsw : swapsWith (.DictComp kx vx [⟨tg, iter, ifs, 0⟩] scope pos) (some (.Name y py)) spos.line X.env = pure true) (hi : PI X tg iter wi) (ok : BlkOk X.N X.env.scope scope own)
    (hg : ∀ (s : Shared) (H : Hp) (C : Addr) (cl : List (Str × Addr)) (fp : List Addr), PG (X.blk s H scope (compEnvC scope cl C X.env) fp) tg g) (ht : ∀ (s : Shared) (H : Hp) (C : Addr) (cl : List (Str × Addr)) (fp : List Addr), PTs (X.blk s H scope (compEnvC scope cl C X.env) fp) ifs tt)
    (hk : ∀ (s : Shared) (H : Hp) (C : Addr) (cl : List (Str × Addr)) (fp : List Addr), PE (X.blk s H scope (compEnvC scope cl C X.env) fp) kx tk)
    (he : ∀ (s : Shared) (H : Hp) (C : Addr) (cl : List (Str × Addr)) (fp : List Addr), PE (X.blk s H scope (compEnvC scope cl C X.env) fp) vx tv) (hs : ∀ x, foldedSetIterable iter X.env x = pure x := by intro _; rfl) :
    PS X (.Assign [.Name y py] (.DictComp kx vx [⟨tg, iter, ifs, 0⟩] scope pos) spos) (tAsg (tDc wi g tt tk tv (own.map (·.2))) (gName i)) := by
  refine ⟨fun pins s σ H D I h => ?_⟩
  rw [exec_Assign_Name_used _ _ _ _ hsw]
  refine wpAny_bind (wpAny_standAt (wpAny_bind ?_))
  show wpAny _ X.A (do let _ ← comprehension (.DictComp kx vx [⟨tg, iter, ifs, 0⟩] scope pos) scope X.env (firstIterPos [⟨tg, iter, ifs, 0⟩] pos) newDict false (eval iter X.env) (some (assign (.Name y py) X.env))) _ _ s
  have h : tDc wi g tt tk tv (own.map (·.2)) σ H (fun x H1 => gName i x σ H1 D.nx) := h
  refine wpAny_bind (thn (dc_core (Qf := fun _ s' => SP X pins D .next s') hc hN I hi ok hg ht hk he hs h fun L C s' m H' I' q hn f => ?_) fun _ s' hq => wpAny_pure (wpAny_pure hq))
  show wpAny _ _ (assign (.Name y py) X.env (.ref L)) _ _ _
  refine wpAny_assign_Name (store_ok2 (v := V.ref L) I' hN hy (.inl hyl) rfl (fun s2 I2 ⟨a, sb, ha⟩ => ?_) (.inr hyl))
  obtain ⟨f0, f1, f2, f3, f4, f5⟩ := f
  have haC : C ≠ a := by
    rcases ha with z | z
    · rw [z]; exact f1
    · exact fun e => f4 y a z e.symm
  refine ⟨m, hn.sameBut sb haC, fun h3 sb3 => ?_⟩
  exact ⟨_, H', I2.turned (t' := s2.toks) (fun b o hb e => (sb3.2 b hb).trans e) f0 f1 f3 f4 f5, q⟩
theorem sw_trueD {kx vx : Expr} {gs : List Comprehension} {scope : Scope} {pos py : Pos} {y : Str} {l : Nat} {env : Env} (hk : env.scope.kind = .function) (hy : env.scope.names.lookup y = some .local) (hl : (py.line == pos.line) = true)
    (ha : (scope.names.any fun (n, k) => n == y && (k == .local || k == .cell)) = false) : swapsWith (.DictComp kx vx gs scope pos) (some (.Name y py)) l env = pure true := by
  have ky : env.kindOf y = some .local := hy
  have hb : env.blockKind = .function := by unfold Env.blockKind; rw [hk]; rfl
  unfold swapsWith
  simp only [hb, ky, ha, Expr.pos, hl]
  rfl
end
theorem dcD_ind {g : D → S → (S → Prop) → Prop} {c : DB} {kx e : DT} {vs : List Nat} {Q : List (D × D) → S → Prop} {items : List D} (Inv : Nat → List (D × D) → S → Prop) {s : S} (h0 : Inv 0 [] s)
    (step : ∀ i d acc s (N : List (D × D) → S → Prop), items[i]? = some d → Inv i acc s → (∀ acc' s', Inv (i + 1) acc' s' → N acc' s') → g d s fun s1 => c s1 fun k s2 => if k = true then kx s2 fun y s3 => e s3 fun z s4 => isKey y = true ∧ N (putD acc y z) (wipeS s4 vs) else N acc (wipeS s2 vs))
    (fin : ∀ acc s, Inv items.length acc s → Q acc s) : dcD g c kx e vs Q items [] s := by
  have : ∀ (n i : Nat) (acc : List (D × D)) (s : S), i + n = items.length → Inv i acc s → dcD g c kx e vs Q (items.drop i) acc s := by
    intro n
    induction n with
    | zero =>
      intro i acc s e h
      rw [List.drop_of_length_le (by omega)]
      exact fin acc s (by rw [← e, Nat.add_zero]; exact h)
    | succ n ih =>
      intro i acc s e h
      have hi : i < items.length := by omega
      rw [List.drop_eq_getElem_cons hi]
      exact step i _ acc s (fun acc s => dcD g c kx _ vs Q (items.drop (i + 1)) acc s) (List.getElem?_eq_getElem hi) h fun acc' s' h' => ih (i + 1) acc' s' (by omega) h'
  exact this items.length 0 [] s (by omega) h0
theorem itemsD_get {kvs : List (D × D)} {i : Nat} {d : D} (h : (itemsD kvs)[i]? = some d) : ∃ kv, kvs[i]? = some kv ∧ d = .tuple [kv.1, kv.2] := by
  unfold itemsD at h
  rw [List.getElem?_map] at h
  cases e : kvs[i]? with
  | none => rw [e] at h; cases h
  | some kv => rw [e] at h; exact ⟨kv, rfl, (Option.some.inj h).symm⟩
theorem nd_take {kvs : List (D × D)} {i : Nat} {kv kv' : D × D} (nd : (kvs.map Prod.fst).Nodup) (h : kvs[i]? = some kv) (m : kv' ∈ kvs.take i) : kv'.1 ≠ kv.1 := fun z => by
  obtain ⟨n, hn⟩ := List.getElem?_of_mem m
  rw [List.getElem?_take] at hn
  split at hn
  · rename_i hni
    have h1 : (kvs.map Prod.fst)[n]? = some kv.1 := by rw [List.getElem?_map, hn, ← z]; rfl
    have h2 : (kvs.map Prod.fst)[i]? = some kv.1 := by rw [List.getElem?_map, h]; rfl
    have hil : n < (kvs.map Prod.fst).length := (List.getElem?_eq_some_iff.mp h1).1
    have := (List.getElem?_inj hil nd).mp (h1.trans h2.symm)
    omega
  · cases hn

/-! ### zip(tuple, list), both as long -/
def ItzM (K : PySem.W.Frag) (n : Nat) (a b : Addr) : It :=
  ⟨fun i H => ∃ (xs ys : List V) (x y : V), SqT K H a xs ∧ SqL K H b ys ∧ xs.length = n ∧ ys.length = n ∧ xs[i]? = some x ∧ ys[i]? = some y,
    fun i H v H' => ∃ T x y, v = .ref T ∧ H T = none ∧ H' = L2.upd H T (.tup [x, y]) ∧ (∀ xs, SqT K H a xs → xs[i]? = some x) ∧ ∀ ys, SqL K H b ys → ys[i]? = some y,
    fun i H => ∃ xs ys : List V, SqT K H a xs ∧ SqL K H b ys ∧ xs.length = n ∧ ys.length = n ∧ n ≤ i⟩
theorem turn_zipM {P : Program} {w : World} {K : PySem.W.Frag} {elts : List Expr} {kk : Nat} {tpos : Pos} {n : Nat} {a b z TI TO i1 i2 : Addr} (D : ZipSep2 z TI TO i1 i2 [i1, a] [i2, b]) (na : a ≠ i1) (nb : b ≠ i2) :
    Turn P w K (.Tuple elts kk tpos) (ItzM K n a b) [z, TI, TO, i1, i2] z (fun i h => IsZip h z TI TO .none ∧ IsTupOf2 h TI (.ref i1) (.ref i2) ∧ (∃ u v, IsTupOf2 h TO u v) ∧ h.IsTupleIter i1 a i ∧ h.IsListIter i2 b i ∧ i ≤ n) where
  mem := by simp
  obj := fun i h st c hc => by
    obtain ⟨hz, hTI, ⟨u, v, hTO⟩, ⟨o1, e1, _, d1⟩, ⟨o2, e2, _, d2⟩, _⟩ := st
    have e' : c = z ∨ c = TI ∨ c = TO ∨ c = i1 ∨ c = i2 := by simpa using hc
    rcases e' with q | q | q | q | q <;> rw [q]
    · exact ⟨_, hz, fun v q => nomatch q⟩
    · exact ⟨_, hTI, fun v q => nomatch q⟩
    · exact ⟨_, hTO, fun v q => nomatch q⟩
    · exact ⟨o1, e1, fun v q => by rw [d1] at q; cases q⟩
    · exact ⟨o2, e2, fun v q => by rw [d2] at q; cases q⟩
  keep := fun i h h' st k => by
    obtain ⟨hz, hTI, ⟨u, v, hTO⟩, h1, h2, hl⟩ := st
    exact ⟨k z (by simp) _ hz, k TI (by simp) _ hTI, ⟨u, v, k TO (by simp) _ hTO⟩, h1.at fun o q => k i1 (by simp) o q, h2.at fun o q => k i2 (by simp) o q, hl⟩
  item := by
    intro X hP hw hK hc i pins s σ H E I hf st hg
    subst hP hw hK
    obtain ⟨hz, hTI, ⟨u0, v0, hTO⟩, h1, h2, hl⟩ := st
    obtain ⟨xs, ys, x, y, hqx, hqy, lx, ly, hx, hy⟩ := hg
    obtain ⟨its1, rv1, p1, _⟩ := I.tuple hqx
    obtain ⟨its2, rv2, p2, _⟩ := I.list hqy
    obtain ⟨u1, hu1, ru1⟩ := rv1.get hx
    obtain ⟨u2, hu2, ru2⟩ := rv2.get hy
    have hzl : z < s.heap.objs.size := Heap.lt_size hz
    have hil : i < n := by
      have := (List.getElem?_eq_some_iff.mp hx).1
      omega
    have hh : X.A.in1.handled = none := I.ok.hd hc
    have hs1 : its1.toArray.size = n := by rw [List.size_toArray, ← rv1.length, lx]
    have hs2 : its2.toArray.size = n := by rw [List.size_toArray, ← rv2.length, ly]
    have D1 := Draws.tuple (prog := X.prog) (w := X.w) hh i1 a na its1.toArray
    have D2 := Draws.list (prog := X.prog) (w := X.w) hh i2 b nb its2.toArray
    rw [hs1] at D1
    rw [hs2] at D2
    refine wpAny_pyNext_zipD2_item D D1 D2 hz hTI hTO ⟨h1, p1⟩ ⟨h2, p2.isList⟩ hil hil fun w1 w2 h' tk q1 q2 z' TO' h1' h2' hT hsz' hk => ?_
    have ew1 : w1 = u1 := by
      have e : its1.toArray[i]? = some w1 := q1
      rw [List.getElem?_toArray, hu1] at e
      exact (Option.some.inj e).symm
    have ew2 : w2 = u2 := by
      have e : its2.toArray[i]? = some w2 := q2
      rw [List.getElem?_toArray, hu2] at e
      exact (Option.some.inj e).symm
    subst ew1 ew2
    refine ⟨_, rfl, wpAny_letOwnedTupleGo_zip (s := { s with heap := h', toks := tk }) z' fun h'' z'' sb => ?_⟩
    have hT2 : h''.get? s.heap.objs.size = some { cls := .type "tuple", data := .seq #[w1, w2] } := (sb.2 _ (Nat.ne_of_gt hzl)).trans hT
    have new : ObjOk X.prog X.w (L2.upd H s.heap.objs.size (.tup [x, y])) h'' s.heap.objs.size (.tup [x, y]) :=
      ⟨by show 2 ≤ sizeLine; decide, [w1, w2], .cons ru1 (.cons ru2 .nil), ⟨_, hT2, rfl, _, rfl⟩⟩
    have I1 : Inv X pins σ (L2.upd H s.heap.objs.size (.tup [x, y])) { s with heap := h'', toks := tk } :=
      I.turnedNew (ch := [z, TI, TO, i1, i2]) (fun c o hb q => (sb.2 c (fun q' => hb (by simp [q']))).trans (hk c o (fun q' => hb (by simp [q'])) (fun q' => hb (by simp [q'])) (fun q' => hb (by simp [q'])) (fun q' => hb (by simp [q'])) q)) hf (Nat.le_refl _) new
    refine ⟨.ref s.heap.objs.size, _, I1, rfl, ⟨_, x, y, rfl, I.hok.fresh (Nat.le_refl _), rfl, fun l hl => by rw [I.tuple_inj hl hqx]; exact hx, fun l hl => by rw [I.list_inj hl hqy]; exact hy⟩, ⟨z'', ?_, ⟨w1, w2, ?_⟩, ?_, ?_, hil⟩, fun c hcm => ?_⟩
    · exact (sb.2 _ D.TIz).trans (hk _ _ D.TIz D.TITO D.TIi1 D.TIi2 hTI)
    · exact (sb.2 _ D.TOz).trans TO'
    · exact h1'.1.at fun o q => (sb.2 _ (Ne.symm D.zi1)).trans q
    · exact h2'.1.at fun o q => (sb.2 _ (Ne.symm D.zi2)).trans q
    · have hlt : c < s.heap.objs.size := by
        have e' : c = z ∨ c = TI ∨ c = TO ∨ c = i1 ∨ c = i2 := by simpa using hcm
        rcases e' with q | q | q | q | q <;> rw [q]
        · exact hzl
        · exact Heap.lt_size hTI
        · exact Heap.lt_size hTO
        · obtain ⟨_, e1, _⟩ := h1; exact Heap.lt_size e1
        · obtain ⟨_, e2, _⟩ := h2; exact Heap.lt_size e2
      rw [upd_ne (Nat.ne_of_lt hlt)]
      exact (hf c hcm).1
  done := by
    intro X hP hw hK hc i pins s σ H E I hf st hg
    subst hP hw hK
    obtain ⟨hz, hTI, ⟨u0, v0, hTO⟩, h1, h2, hl⟩ := st
    obtain ⟨xs, ys, hqx, hqy, lx, ly, hend⟩ := hg
    obtain ⟨its1, rv1, p1, _⟩ := I.tuple hqx
    obtain ⟨its2, rv2, p2, _⟩ := I.list hqy
    have ei : i = n := Nat.le_antisymm hl hend
    subst ei
    have hh : X.A.in1.handled = none := I.ok.hd hc
    have hs1 : its1.toArray.size = i := by rw [List.size_toArray, ← rv1.length, lx]
    have hs2 : its2.toArray.size = i := by rw [List.size_toArray, ← rv2.length, ly]
    have D1 := Draws.tuple (prog := X.prog) (w := X.w) hh i1 a na its1.toArray
    have D2 := Draws.list (prog := X.prog) (w := X.w) hh i2 b nb its2.toArray
    rw [hs1] at D1
    rw [hs2] at D2
    exact wpAny_pyNext_zipD2_end D D1 D2 hz hTI hTO ⟨h1, p1⟩ ⟨h2, p2.isList⟩ (Nat.le_refl _) (Nat.le_refl _) (.inl rfl) fun h' tk hk => ⟨rfl, I.turnedL (t' := tk) (ch := [z, TI, TO, i1, i2]) (fun c o hb q =>
      hk c o (fun q' => hb (by simp [q'])) (fun q' => hb (by simp [q'])) (fun q' => hb (by simp [q'])) (fun q' => hb (by simp [q'])) q) hf⟩
  self := fun A i s Q E st h => wpAny_pyIter_zip st.1 h
def iZipM (K : PySem.W.Frag) (ta : TA) : TI := fun σ H R => ta σ H fun vs H1 => ∃ a b xs ys, vs = [.ref a, .ref b] ∧ SqT K H1 a xs ∧ SqL K H1 b ys ∧ ys.length = xs.length ∧ R (ItzM K xs.length a b) H1
theorem pi_zipM {X : Cx} (K : PySem.W.Frag) (eK : X.K = K) {e e2 : Expr} {ta : TA} {p pos tpos : Pos} {elts : List Expr} {kk : Nat} (hg : Gl X "zip") (hm : X.mg "zip" = none) (ha : PA X [e, e2] ta)
    (hs : starEach [e, e2] X.env = (false, eval e X.env) :: starEach [e2] X.env := by rfl) (hpl : (backTo pos (starEach [e2] X.env)).any (·.1) = false := by rfl) :
    PI X (.Tuple elts kk tpos) (.Call (.Name "zip" p) [e, e2] [] pos) (iZipM K ta) := by
  subst eK
  refine ⟨fun pins s σ H R I h => ?_⟩
  refine Call_ (ld_blt I hg hm PyProof.Rows.boot_zip (PyProof.Rows.callWith_type1 (thn (ha.run pos pins s σ H _ I h) fun us s1 ⟨vs, H1, I1, r1, q1⟩ => ?_) hs hpl))
  obtain ⟨a, b, xs, ys, ex, hqx, hqy, hlen, q⟩ := q1
  subst ex
  cases r1 with
  | cons r rr =>
    cases rr with
    | cons r' rr =>
      cases rr
      cases r
      cases r'
      have fresh5 : ∀ c, c ∈ [s1.heap.objs.size + 4, s1.heap.objs.size + 2, s1.heap.objs.size + 3, s1.heap.objs.size, s1.heap.objs.size + 1] → FpOk X pins H1 c := fun c hcm => by
        have hle : s1.heap.objs.size ≤ c := by
          have e' : c = s1.heap.objs.size + 4 ∨ c = s1.heap.objs.size + 2 ∨ c = s1.heap.objs.size + 3 ∨ c = s1.heap.objs.size ∨ c = s1.heap.objs.size + 1 := by simpa using hcm
          omega
        exact I1.fpOk hle (I1.hok.fresh hle)
      obtain ⟨its1, rv1, p1, _⟩ := I1.tuple hqx
      obtain ⟨its2, rv2, p2, _⟩ := I1.list hqy
      obtain ⟨o1, ho1, _⟩ := id p1
      have hal : a < s1.heap.objs.size := Heap.lt_size ho1
      have hbl : b < s1.heap.objs.size := p2.lt
      refine zip_begins2 (begins_tuple a its1.toArray) (begins_list b its2.toArray) (show s1.heap.IsTuple a its1.toArray from p1) p2.isList fun h' hz hTI hTO g1 g2 hsz hk => wpAny_pyIter_zip hz ?_
      have I2 : Inv X pins σ H1 { s1 with heap := h' } := I1.kept (t' := s1.toks) hk
      have sep : ZipSep2 (s1.heap.objs.size + 4) (s1.heap.objs.size + 2) (s1.heap.objs.size + 3) s1.heap.objs.size (s1.heap.objs.size + 1) [s1.heap.objs.size, a] [s1.heap.objs.size + 1, b] := by
        have k : ∀ {a b : Nat}, a ≠ b → s1.heap.objs.size + a ≠ s1.heap.objs.size + b := fun h e => h (Nat.add_left_cancel e)
        have kz : ∀ {c : Nat}, c < s1.heap.objs.size → ∀ a, s1.heap.objs.size + a ≠ c := fun h a e => Nat.lt_irrefl _ (Nat.lt_of_lt_of_le h (by rw [← e]; exact Nat.le_add_right _ _))
        have mn : ∀ {u v w : Addr}, u ≠ v → u ≠ w → u ∉ [v, w] := fun h1 h2 m => by
          rcases List.mem_cons.mp m with e | m
          · exact h1 e
          · exact h2 (List.mem_singleton.mp m)
        exact ⟨k (by decide), k (by decide), k (by decide), k (b := 0) (by decide), by simp, mn (k (b := 0) (by decide)) (kz hal 4), mn (k (b := 0) (by decide)) (kz hal 3), k (by decide), by simp, mn (k (by decide)) (kz hbl 4), mn (k (by decide)) (kz hbl 3), mn (k (a := 0) (by decide)) (kz hbl 0), mn (k (b := 0) (by decide)) (kz hal 1)⟩
      exact ⟨s1.heap.objs.size + 4, [s1.heap.objs.size + 4, s1.heap.objs.size + 2, s1.heap.objs.size + 3, s1.heap.objs.size, s1.heap.objs.size + 1], _, _, H1, rfl, I2, turn_zipM (n := xs.length) sep (Nat.ne_of_lt hal) (Nat.ne_of_lt (Nat.lt_of_lt_of_le hbl (Nat.le_add_right _ _))), ⟨hz, hTI, ⟨_, _, hTO⟩, ⟨_, g1, rfl, rfl⟩, ⟨_, g2, rfl, rfl⟩, Nat.zero_le _⟩, fresh5, q⟩
theorem walk_zipM {K : PySem.W.Frag} {n : Nat} {a b : Addr} {xs ys : List V} (lx : xs.length = n) (ly : ys.length = n) : Walk (ItzM K n a b) n (fun H => SqT K H a xs ∧ SqL K H b ys) (YPair (fun i => xs[i]?) (fun i => ys[i]?)) := by
  refine ⟨fun i H hi q => ⟨xs, ys, xs[i], ys[i], q.1, q.2, lx, ly, List.getElem?_eq_getElem (by omega), List.getElem?_eq_getElem (by omega)⟩, fun H q => ⟨xs, ys, q.1, q.2, lx, ly, Nat.le_refl _⟩, fun i H v H' _ q y => ?_⟩
  obtain ⟨T, x, y, h1, h2, h3, h4, h5⟩ := y
  exact ⟨T, x, y, h1, h2, h3, h4 xs q.1, h5 ys q.2⟩
section
variable {C : Cf} {ca cb : Cat} {ta tb : TE} {da db : DT}
def dZipM (a b : DT) : DI := fun s Q => a s fun d s1 => b s1 fun e s2 => match d, e with
  | .tuple ds, .list es => es.length = ds.length ∧ Q (prD ds es) s2
  | _, _ => False
theorem simI_zipM (ha : Sim C ca ta da) (hb : Sim C cb tb db) : SimI C true (iZipM C.K (tCons ta (tCons tb tNil))) (dZipM da db) := by
  refine ⟨fun H0 S0 Hs σ H s Q Q' r q k => ha.toE.run H0 S0 Hs σ H s _ _ r q fun Hs1 H1 v d s1 g1 r1 v1 q1 => hb.toE.run H0 S0 Hs1 σ H1 s1 _ _ r1 q1 fun Hs2 H2 w e s2 g2 r2 v2 q2 => ?_⟩
  cases d <;> cases e <;> first | exact q2.elim | skip
  rename_i ds es
  obtain ⟨hl, q2⟩ := q2
  cases v1 with
  | @tup x xs _ e1 e2 =>
  cases v2 with
  | @lst y ys _ e3 e4 =>
  have e1' := Same.sqT g2.st e1.sq
  have e2' := RpAll.mono g2.st e2
  refine ⟨x, y, xs, ys, rfl, Same.sqT r2.sub e1', SqL.of (r2.sub _ _ e3), by rw [e4.len, e2.len, hl], k Hs2 H2 _ _ s2 (g1.trans g2) r2 ?_ q2⟩
  have hpl : (prD ds es).length = xs.length := by rw [zip_len, hl, Nat.min_self, e2.len]
  have W : Walk (ItzM C.K xs.length x y) (prD ds es).length (fun H => SqT C.K H x xs ∧ SqL C.K H y ys) (YPair (fun i => xs[i]?) (fun i => ys[i]?)) := by
    rw [hpl]
    exact walk_zipM rfl (by rw [e4.len, e2.len, hl])
  refine ⟨_, _, W, fun H e => ⟨Same.sqT e e1', SqL.of (e _ _ e3)⟩, fun i H v H2 H0 S0 Hs σ s hi r e y => ?_⟩
  obtain ⟨T, x1, x2, rfl, nT, rfl, f1, f2⟩ := y
  obtain ⟨d, f3, f4⟩ := e2'.getV f1
  obtain ⟨d', f5, f6⟩ := e4.getV f2
  obtain ⟨Hs2, r2, rp, g⟩ := pair_it r nT (Rp.mono e f4) (Rp.mono e f6)
  exact ⟨Hs2, _, zip_get f3 f5, r2, rp, g⟩
end

namespace K81
/-- what a holder has whose next figure comes behind r others, of m holders -/
def E (m r n : Nat) : Nat :=
  if h : n = 0 then 0 else
    match r with
    | 0 => n % 2 + 2 * E m (m - 1) (n / 2)
    | r + 1 => E m r (n / 2)
termination_by n
decreasing_by all_goals omega
theorem E_nil (m r : Nat) : E m r 0 = 0 := by unfold E; rfl
theorem E_0 (m n : Nat) : E m 0 n = n % 2 + 2 * E m (m - 1) (n / 2) := by
  by_cases h : n = 0
  · subst h; rw [E_nil]; show 0 = 0 % 2 + 2 * E m (m - 1) (0 / 2); rw [Nat.zero_div, E_nil]
  · rw [E]; rw [dif_neg h]
theorem E_s (m r n : Nat) : E m (r + 1) n = E m r (n / 2) := by
  by_cases h : n = 0
  · subst h; rw [E_nil, Nat.zero_div, E_nil]
  · rw [E]; rw [dif_neg h]
theorem E_add (m r j : Nat) : ∀ n, E m (r + j) n = E m r (n / 2 ^ j) := by
  induction j with
  | zero => intro n; simp
  | succ j ih => intro n; rw [← Nat.add_assoc, E_s, ih, Nat.div_div_eq_div_mul, Nat.pow_succ, Nat.mul_comm]
theorem E_round {m h : Nat} (hm : h < m) (k : Nat) : E m h k = k / 2 ^ h % 2 + 2 * E m h (k / 2 ^ m) := by
  have h1 := E_add m 0 h k
  rw [Nat.zero_add] at h1
  rw [h1, E_0]
  have e : m - 1 = h + (m - 1 - h) := by omega
  have h2 : E m (m - 1) (k / 2 ^ h / 2) = E m h (k / 2 ^ h / 2 / 2 ^ (m - 1 - h)) := by
    conv => lhs; rw [e]
    exact E_add m h (m - 1 - h) _
  rw [h2, Nat.div_div_eq_div_mul, Nat.div_div_eq_div_mul]
  have e3 : 2 ^ h * 2 * 2 ^ (m - 1 - h) = 2 ^ m := by
    rw [← Nat.pow_succ, ← Nat.pow_add]
    congr 1
    omega
  rw [Nat.mul_assoc] at e3
  rw [← Nat.mul_assoc] at *
  rw [show 2 ^ h * 2 * 2 ^ (m - 1 - h) = 2 ^ m by rw [← Nat.pow_succ, ← Nat.pow_add]; congr 1; omega]
def bits (n : Nat) : List Nat := if h : n = 0 then [] else n % 2 :: bits (n / 2)
termination_by n
decreasing_by omega
theorem bits_0 : bits 0 = [] := by unfold bits; rfl
theorem bits_s {n : Nat} (h : n ≠ 0) : bits n = n % 2 :: bits (n / 2) := by rw [bits]; rw [dif_neg h]
def g (m h : Nat) : Nat → List Nat → Nat
  | _, [] => 0
  | i, b :: bs => if i % m = h then b + 2 * g m h (i + 1) bs else g m h (i + 1) bs
theorem g_bits (m h : Nat) (hm : h < m) (n : Nat) : ∀ i r, r < m → (i + r) % m = h → g m h i (bits n) = E m r n := by
  induction n using Nat.strongRecOn with
  | ind n ih =>
    intro i r hr e
    by_cases h0 : n = 0
    · subst h0; rw [bits_0, E_nil]; rfl
    · rw [bits_s h0]
      show (if i % m = h then n % 2 + 2 * g m h (i + 1) (bits (n / 2)) else g m h (i + 1) (bits (n / 2))) = _
      cases r with
      | zero =>
        rw [if_pos (by simpa using e), E_0, ih (n / 2) (by omega) (i + 1) (m - 1) (by omega) ?_]
        rw [show i + 1 + (m - 1) = i + m by omega, Nat.add_mod_right]
        simpa using e
      | succ r =>
        have hne : i % m ≠ h := by
          intro z
          have h1 : (i + (r + 1)) % m = (i % m + (r + 1)) % m := by rw [Nat.add_mod, Nat.mod_eq_of_lt hr]
          rw [e, z] at h1
          by_cases h2 : h + (r + 1) < m
          · rw [Nat.mod_eq_of_lt h2] at h1; omega
          · rw [Nat.mod_eq_sub_mod (by omega), Nat.mod_eq_of_lt (by omega)] at h1; omega
        rw [if_neg hne, E_s, ih (n / 2) (by omega) (i + 1) r (by omega) ?_]
        rw [← e]; congr 1; omega
theorem g_is {m h : Nat} (hm : h < m) (n : Nat) : g m h 0 (bits n) = E m h n := g_bits m h hm n 0 h hm (by rw [Nat.zero_add]; exact Nat.mod_eq_of_lt hm)
theorem bits_len (j : Nat) : ∀ n, n < 2 ^ j → (bits n).length ≤ j := by
  induction j with
  | zero => intro n h; have : n = 0 := by simpa using h
            subst this; rw [bits_0]; exact Nat.le_refl _
  | succ j ih =>
    intro n h
    by_cases h0 : n = 0
    · subst h0; rw [bits_0]; exact Nat.zero_le _
    · rw [bits_s h0, List.length_cons]
      have := ih (n / 2) (by rw [Nat.pow_succ] at h; omega)
      omega
theorem bits_le1 (n : Nat) : ∀ b ∈ bits n, b ≤ 1 := by
  induction n using Nat.strongRecOn with
  | ind n ih =>
    intro b hb
    by_cases h0 : n = 0
    · subst h0; rw [bits_0] at hb; cases hb
    · rw [bits_s h0] at hb
      rcases List.mem_cons.mp hb with e | e
      · omega
      · exact ih (n / 2) (by omega) b e
/-- what the program's inner loop has at a -/
def mid (F : Nat → Nat) (k w a : Nat) (i : Nat) : Nat := if i < a then F i + k / 2 ^ i % 2 * w else F i
theorem E_le (m : Nat) (n : Nat) : ∀ r, E m r n ≤ n := by
  induction n using Nat.strongRecOn with
  | ind n ih =>
    intro r
    by_cases h0 : n = 0
    · subst h0; rw [E_nil]; exact Nat.le_refl _
    · cases r with
      | zero => rw [E_0]; have := ih (n / 2) (by omega) (m - 1); omega
      | succ r => rw [E_s]; have := ih (n / 2) (by omega) r; omega
theorem range_set (m a : Nat) (f : Nat → Nat) (v : Nat) : ((List.range m).map f).set a v = (List.range m).map fun i => if i = a then v else f i := by
  apply List.ext_getElem?
  intro i
  rw [List.getElem?_set, List.getElem?_map, List.getElem?_map, List.length_map, List.length_range]
  by_cases hi : i < m
  · rw [List.getElem?_range hi]
    by_cases e : a = i
    · subst e; simp [hi]
    · rw [if_neg e]; simp [Ne.symm e]
  · rw [List.getElem?_eq_none (by simpa using hi)]
    by_cases e : a = i
    · subst e; simp [hi]
    · rw [if_neg e]; rfl
end K81

/-! ### numbers dealt and gathered -/
open K81 (E)
theorem E_zero {m : Nat} (hm : 0 < m) : ∀ k : Nat, (∀ a, a < m → E m a k = 0) → k = 0 := by
  intro k
  induction k using Nat.strongRecOn with
  | ind k ih =>
    intro h
    by_cases h0 : k = 0
    · exact h0
    · exfalso
      have hk : k / 2 ^ m < k := Nat.div_lt_self (by omega) (Nat.one_lt_two_pow (by omega))
      have z : k / 2 ^ m = 0 := ih _ hk fun a ha => by
        have := h a ha
        rw [K81.E_round ha] at this
        omega
      have lt : k < 2 ^ m := by
        rcases Nat.div_eq_zero_iff.mp z with h | h
        · have := Nat.pow_pos (n := m) (show 0 < 2 by decide)
          omega
        · exact h
      have hb : ∀ a, a < m → k / 2 ^ a % 2 = 0 := fun a ha => by
        have := h a ha
        rw [K81.E_round ha] at this
        omega
      have : ∀ j, j ≤ m → k % 2 ^ j = 0 := by
        intro j
        induction j with
        | zero => intro _; simp [Nat.mod_one]
        | succ j ihj =>
          intro hj
          have h1 := ihj (by omega)
          have h2 := hb j (by omega)
          rw [Nat.pow_succ, Nat.mod_mul, h1, h2]
          rfl
      have h3 := this m (Nat.le_refl m)
      rw [Nat.mod_eq_of_lt lt] at h3
      exact h0 h3
/-- a number by its bits, the last one ahead; r behind -/
def vB (r : Nat) : List Nat → Nat
  | [] => r
  | n :: ns => n % 2 + 2 * vB r ns
theorem vB_hi (r : Nat) : ∀ ns : List Nat, vB r ns / 2 ^ ns.length = r
  | [] => by simp [vB]
  | n :: ns => by
    rw [List.length_cons, Nat.pow_succ, Nat.mul_comm, ← Nat.div_div_eq_div_mul]
    show (n % 2 + 2 * vB r ns) / 2 / _ = r
    rw [show (n % 2 + 2 * vB r ns) / 2 = vB r ns by omega]
    exact vB_hi r ns
theorem vB_bit (r : Nat) : ∀ (ns : List Nat) (a : Nat) (h : a < ns.length), vB r ns / 2 ^ a % 2 = ns[a] % 2
  | n :: ns, 0, _ => by
    show (n % 2 + 2 * vB r ns) / 1 % 2 = n % 2
    omega
  | n :: ns, a + 1, h => by
    rw [Nat.pow_succ, Nat.mul_comm, ← Nat.div_div_eq_div_mul]
    show (n % 2 + 2 * vB r ns) / 2 / _ % 2 = (ns[a]'(by simpa using h)) % 2
    rw [show (n % 2 + 2 * vB r ns) / 2 = vB r ns by omega]
    exact vB_bit r ns a (by simpa using h)
theorem vB_lt (r : Nat) : ∀ (ns : List Nat) (b : Nat), r < 2 ^ b → vB r ns < 2 ^ (b + ns.length)
  | [], b, h => by simpa [vB] using h
  | n :: ns, b, h => by
    have := vB_lt r ns b h
    rw [List.length_cons, show b + (ns.length + 1) = (b + ns.length) + 1 by omega, Nat.pow_succ]
    show n % 2 + 2 * vB r ns < _
    omega
/-- whatever is to be dealt, is dealt by some number -/
theorem E_some (b : Nat) : ∀ ns : List Nat, 0 < ns.length → (∀ n ∈ ns, n < 2 ^ b) → ∃ k, k < 2 ^ (b * ns.length) ∧ ∀ a (h : a < ns.length), E ns.length a k = ns[a] := by
  induction b with
  | zero =>
    intro ns hm h
    refine ⟨0, by simp, fun a ha => ?_⟩
    have := h _ (List.getElem_mem ha)
    rw [K81.E_nil]
    simp at this
    omega
  | succ b ih =>
    intro ns hm h
    have hl : (ns.map (· / 2)).length = ns.length := List.length_map ..
    obtain ⟨k, hk, he⟩ := ih (ns.map (· / 2)) (by rw [hl]; exact hm) fun n hn => by
      obtain ⟨x, hx, rfl⟩ := List.mem_map.mp hn
      have := h x hx
      rw [Nat.pow_succ] at this
      show x / 2 < 2 ^ b
      omega
    rw [hl] at hk
    have he : ∀ a (ha : a < ns.length), E ns.length a k = ns[a] / 2 := fun a ha => by
      have := he a (by rw [hl]; exact ha)
      simpa only [List.length_map, List.getElem_map] using this
    refine ⟨vB k ns, ?_, fun a ha => ?_⟩
    · have := vB_lt k ns _ hk
      rw [Nat.succ_mul]
      exact this
    · rw [K81.E_round ha, vB_bit k ns a ha, vB_hi, he a ha]
      omega
/-! whole numbers by numbers from 0 on -/
def wA (n : Nat) : Int := if n % 2 = 1 then (((n + 1) / 2 : Nat) : Int) else 0 - ((n / 2 : Nat) : Int)
def wN (i : Int) : Nat := if 0 < i then (2 * i - 1).toNat else (-2 * i).toNat
theorem wN_wA (n : Nat) : wN (wA n) = n := by
  unfold wA wN
  split <;> split <;> omega
theorem wA_wN (i : Int) : wA (wN i) = i := by
  unfold wA wN
  split <;> split <;> omega
theorem wN_lt {i : Int} {b : Nat} (h : i.natAbs < 2 ^ b) : wN i < 2 ^ (b + 1) := by
  unfold wN
  rw [Nat.pow_succ]
  split <;> omega
theorem wA_lt {n b : Nat} (h : n < 2 ^ b) (hb : 0 < b) : (wA n).natAbs < 2 ^ b := by
  unfold wA
  have : 2 ≤ 2 ^ b := by
    have := Nat.pow_le_pow_right (show 0 < 2 by decide) hb
    simpa using this
  split <;> omega
/-! rows by numbers from 0 on: n = 2 ^ (size - 1) * (2 * q + 1) -/
theorem odd_part : ∀ n : Nat, 0 < n → ∃ s q, n = 2 ^ s * (2 * q + 1) := by
  intro n
  induction n using Nat.strongRecOn with
  | ind n ih =>
    intro h
    by_cases h2 : n % 2 = 0
    · obtain ⟨s, q, e⟩ := ih (n / 2) (by omega) (by omega)
      refine ⟨s + 1, q, ?_⟩
      rw [Nat.pow_succ, Nat.mul_comm (2 ^ s) 2, Nat.mul_assoc, ← e]
      omega
    · exact ⟨0, n / 2, by simp; omega⟩
theorem odd_uniq : ∀ s s' q q' : Nat, 2 ^ s * (2 * q + 1) = 2 ^ s' * (2 * q' + 1) → s = s' ∧ q = q'
  | 0, 0, q, q', h => by simp at h; exact ⟨rfl, by omega⟩
  | 0, s' + 1, q, q', h => by
    exfalso
    rw [Nat.pow_succ, Nat.mul_comm (2 ^ s') 2, Nat.mul_assoc] at h
    generalize 2 ^ s' * (2 * q' + 1) = z at h
    simp at h
    omega
  | s + 1, 0, q, q', h => by
    exfalso
    rw [Nat.pow_succ, Nat.mul_comm (2 ^ s) 2, Nat.mul_assoc] at h
    generalize 2 ^ s * (2 * q + 1) = z at h
    simp at h
    omega
  | s + 1, s' + 1, q, q', h => by
    have h' : 2 ^ s * (2 * q + 1) = 2 ^ s' * (2 * q' + 1) := by
      rw [Nat.pow_succ, Nat.pow_succ, Nat.mul_comm (2 ^ s) 2, Nat.mul_comm (2 ^ s') 2, Nat.mul_assoc, Nat.mul_assoc] at h
      exact Nat.eq_of_mul_eq_mul_left (by decide) h
    obtain ⟨e1, e2⟩ := odd_uniq s s' q q' h'
    exact ⟨by rw [e1], e2⟩
/-- the numbers dealt to so many -/
def dlN (m k : Nat) : List Nat := (List.range m).map fun a => E m a k
theorem dlN_len (m k : Nat) : (dlN m k).length = m := by unfold dlN; rw [List.length_map, List.length_range]
theorem dlN_get {m k a : Nat} (h : a < m) : (dlN m k)[a]? = some (E m a k) := by
  unfold dlN
  rw [List.getElem?_map, List.getElem?_range h]
  rfl
theorem dlN_of {m k : Nat} {ns : List Nat} (hl : ns.length = m) (h : ∀ a (h : a < ns.length), E m a k = ns[a]) : dlN m k = ns := by
  apply List.ext_getElem?
  intro i
  by_cases hi : i < m
  · rw [dlN_get hi, List.getElem?_eq_getElem (by omega), h i (by omega)]
  · rw [List.getElem?_eq_none (by rw [dlN_len]; omega), List.getElem?_eq_none (by omega)]
theorem dlN_inj {m : Nat} (hm : 0 < m) : ∀ k k' : Nat, dlN m k = dlN m k' → k = k' := by
  have key : ∀ k k' : Nat, (∀ a, a < m → E m a k = E m a k') → k = k' := by
    intro k
    induction k using Nat.strongRecOn with
    | ind k ih =>
      intro k' h
      by_cases h0 : k = 0
      · subst h0
        exact (E_zero hm k' fun a ha => by rw [← h a ha, K81.E_nil]).symm
      · have hk : k / 2 ^ m < k := Nat.div_lt_self (by omega) (Nat.one_lt_two_pow (by omega))
        have hr : ∀ a, a < m → k / 2 ^ a % 2 = k' / 2 ^ a % 2 ∧ E m a (k / 2 ^ m) = E m a (k' / 2 ^ m) := fun a ha => by
          have := h a ha
          rw [K81.E_round ha k, K81.E_round ha k'] at this
          omega
        have e1 := ih _ hk (k' / 2 ^ m) fun a ha => (hr a ha).2
        have e2 : ∀ j, j ≤ m → k % 2 ^ j = k' % 2 ^ j := by
          intro j
          induction j with
          | zero => intro _; simp [Nat.mod_one]
          | succ j ihj =>
            intro hj
            rw [Nat.pow_succ, Nat.mod_mul, Nat.mod_mul, ihj (by omega), (hr j (by omega)).1]
        rw [← Nat.div_add_mod k (2 ^ m), ← Nat.div_add_mod k' (2 ^ m), e1, e2 m (Nat.le_refl m)]
  intro k k' h
  refine key k k' fun a ha => ?_
  have h1 := dlN_get (k := k) ha
  rw [h, dlN_get ha] at h1
  exact (Option.some.inj h1).symm

def topS (i : Nat) : Stmt := PySem.Challenge.pw_leapwork_k83_each_list_has_its_number.main.body.getD i (.Pass ⟨0, 0, 0, 0⟩)
abbrev s_dealt : Stmt := topS 5
theorem sc_dealt : FnScope ["k", "many", "found", "weight", "at"] ["k", "many"] (defScope s_dealt) := ⟨rfl, rfl, rfl, by decide +kernel, rfl, by decide +kernel, by decide +kernel⟩
abbrev s_gathered : Stmt := topS 6
theorem sc_gathered : FnScope ["numbers", "left", "found", "weight", "at"] ["numbers"] (defScope s_gathered) := ⟨rfl, rfl, rfl, by decide +kernel, rfl, by decide +kernel, by decide +kernel⟩
abbrev s_whole_at : Stmt := topS 7
theorem sc_whole_at : FnScope ["number"] ["number"] (defScope s_whole_at) := ⟨rfl, rfl, rfl, by decide +kernel, rfl, by decide +kernel, by decide +kernel⟩
abbrev s_whole_number : Stmt := topS 8
theorem sc_whole_number : FnScope ["whole"] ["whole"] (defScope s_whole_number) := ⟨rfl, rfl, rfl, by decide +kernel, rfl, by decide +kernel, by decide +kernel⟩
abbrev s_row_at : Stmt := topS 9
theorem sc_row_at : FnScope ["number", "size", "wholes", "one", "place", "whole"] ["number"] (defScope s_row_at) := ⟨rfl, rfl, rfl, by decide +kernel, rfl, by decide +kernel, by decide +kernel⟩
abbrev s_row_number : Stmt := topS 10
theorem sc_row_number : FnScope ["row", "size", "places", "wholes", "found", "place", "turn"] ["row"] (defScope s_row_number) := ⟨rfl, rfl, rfl, by decide +kernel, rfl, by decide +kernel, by decide +kernel⟩
abbrev s_is_number : Stmt := topS 11
theorem sc_is_number : FnScope ["thing"] ["thing"] (defScope s_is_number) := ⟨rfl, rfl, rfl, by decide +kernel, rfl, by decide +kernel, by decide +kernel⟩
abbrev s_is_inner_row : Stmt := topS 12
theorem sc_is_inner_row : FnScope ["thing", "last", "pair"] ["thing"] (defScope s_is_inner_row) := ⟨rfl, rfl, rfl, by decide +kernel, rfl, by decide +kernel, by decide +kernel⟩
abbrev s_inputs_at : Stmt := topS 13
theorem sc_inputs_at : FnScope ["letters", "k", "found", "letter", "number"] ["letters", "k"] (defScope s_inputs_at) := ⟨rfl, rfl, rfl, by decide +kernel, rfl, by decide +kernel, by decide +kernel⟩
abbrev s_number_of : Stmt := topS 14
theorem sc_number_of : FnScope ["letters", "inputs", "numbers", "letter", "worth"] ["letters", "inputs"] (defScope s_number_of) := ⟨rfl, rfl, rfl, by decide +kernel, rfl, by decide +kernel, by decide +kernel⟩
abbrev s__law_spread : Stmt := topS 16
theorem sc__law_spread : FnScope ["_law_cell", "_law_at", "_law_primes", "_law_one", "_law_two", "_law_three"] ["_law_cell", "_law_at"] (defScope s__law_spread) := ⟨rfl, rfl, rfl, by decide +kernel, rfl, by decide +kernel, by decide +kernel⟩
abbrev s__law_open : Stmt := topS 17
theorem sc__law_open : FnScope ["_law_script", "_law_cells", "_law_k", "_law_cell"] ["_law_script"] (defScope s__law_open) := ⟨rfl, rfl, rfl, by decide +kernel, rfl, by decide +kernel, by decide +kernel⟩
abbrev s__law_anew : Stmt := topS 18
theorem sc__law_anew : FnScope ["_law_pen"] ["_law_pen"] (defScope s__law_anew) := ⟨rfl, rfl, rfl, by decide +kernel, rfl, by decide +kernel, by decide +kernel⟩
abbrev s__law_take : Stmt := topS 19
theorem sc__law_take : FnScope ["_law_pen", "_law_many", "_law_at", "_law_cell", "_law_found"] ["_law_pen", "_law_many"] (defScope s__law_take) := ⟨rfl, rfl, rfl, by decide +kernel, rfl, by decide +kernel, by decide +kernel⟩
abbrev s__law_same : Stmt := topS 20
theorem sc__law_same : FnScope ["_law_found", "_law_due", "_law_one", "_law_other"] ["_law_found", "_law_due"] (defScope s__law_same) := ⟨rfl, rfl, rfl, by decide +kernel, rfl, by decide +kernel, by decide +kernel⟩
abbrev s__law_letters : Stmt := topS 21
theorem sc__law_letters : FnScope ["_law_pen", "_law_names", "_law_name"] ["_law_pen", "_law_names"] (defScope s__law_letters) := ⟨rfl, rfl, rfl, by decide +kernel, rfl, by decide +kernel, by decide +kernel⟩
abbrev s__law_some_row : Stmt := topS 22
theorem sc__law_some_row : FnScope ["_law_pen", "_law_size", "_law_wholes", "_law_place"] ["_law_pen"] (defScope s__law_some_row) := ⟨rfl, rfl, rfl, by decide +kernel, rfl, by decide +kernel, by decide +kernel⟩
abbrev s__law_bent : Stmt := topS 23
theorem sc__law_bent : FnScope ["_law_pen", "_law_letters_here", "_law_inputs", "_law_at", "_law_kind", "_law_bents", "_law_odd"] ["_law_pen", "_law_letters_here", "_law_inputs"] (defScope s__law_bent) := ⟨rfl, rfl, rfl, by decide +kernel, rfl, by decide +kernel, by decide +kernel⟩
abbrev s__law_refused : Stmt := topS 24
theorem sc__law_refused : FnScope ["_law_letters_here", "_law_inputs", "_law_caught"] ["_law_letters_here", "_law_inputs"] (defScope s__law_refused) := ⟨rfl, rfl, rfl, by decide +kernel, rfl, by decide +kernel, by decide +kernel⟩
abbrev s_law : Stmt := topS 25
theorem sc_law : FnScope ["_law_script", "_law_pen", "_law_turn", "_law_some", "_law_letters_here", "_law_letter", "_law_far", "_law_inputs", "_law_number", "_law_k", "_law_bent_here", "_law_handed"] ["_law_script"] (defScope s_law) := ⟨rfl, rfl, rfl, by decide +kernel, rfl, by decide +kernel, by decide +kernel⟩
structure X_NoInputs (K : PySem.W.Frag) (mg : Str → Option Value) (CX CB : Addr) : Prop where
  c : XP K mg CX CB "NoInputs" "WorkError"
  o_NoName : ∃ C, mg "NoName" = some (.ref C) ∧ PySem.W.kitOne K (.ref CX) (.ref C) = some false
structure Tx (K : PySem.W.Frag) (mg : Str → Option Value) : Prop where
  d_dealt : Df K mg "dealt" s_dealt ["k", "many"]
  d_gathered : Df K mg "gathered" s_gathered ["numbers"]
  d_whole_at : Df K mg "whole_at" s_whole_at ["number"]
  d_whole_number : Df K mg "whole_number" s_whole_number ["whole"]
  d_row_at : Df K mg "row_at" s_row_at ["number"]
  d_row_number : Df K mg "row_number" s_row_number ["row"]
  d_is_number : Df K mg "is_number" s_is_number ["thing"]
  d_is_inner_row : Df K mg "is_inner_row" s_is_inner_row ["thing"]
  d_inputs_at : Df K mg "inputs_at" s_inputs_at ["letters", "k"]
  d_number_of : Df K mg "number_of" s_number_of ["letters", "inputs"]
  d__law_spread : Df K mg "_law_spread" s__law_spread ["_law_cell", "_law_at"]
  d__law_open : Df K mg "_law_open" s__law_open ["_law_script"]
  d__law_anew : Df K mg "_law_anew" s__law_anew ["_law_pen"]
  d__law_take : Df K mg "_law_take" s__law_take ["_law_pen", "_law_many"]
  d__law_same : Df K mg "_law_same" s__law_same ["_law_found", "_law_due"]
  d__law_letters : Df K mg "_law_letters" s__law_letters ["_law_pen", "_law_names"]
  d__law_some_row : Df K mg "_law_some_row" s__law_some_row ["_law_pen"]
  d__law_bent : Df K mg "_law_bent" s__law_bent ["_law_pen", "_law_letters_here", "_law_inputs"]
  d__law_refused : Df K mg "_law_refused" s__law_refused ["_law_letters_here", "_law_inputs"]
  d_law : Df K mg "law" s_law ["_law_script"]
  z_ValueError : mg "ValueError" = none
  z_any : mg "any" = none
  z_bool : mg "bool" = none
  z_dict : mg "dict" = none
  z_enumerate : mg "enumerate" = none
  z_int : mg "int" = none
  z_isinstance : mg "isinstance" = none
  z_len : mg "len" = none
  z_list : mg "list" = none
  z_range : mg "range" = none
  z_repr : mg "repr" = none
  z_str : mg "str" = none
  z_tuple : mg "tuple" = none
  z_zip : mg "zip" = none
  x_NoInputs : ∃ CX CB, X_NoInputs K mg CX CB
/-! ### the draws: _law_spread, _law_open, _law_take -/
section
variable {P : Program} {w : World} {K : PySem.W.Frag} {mg : Str → Option Value} {base : Heap}
theorem pw_lt {x : Int} {n : Nat} (h0 : 0 ≤ x) (h : x < 2 ^ 64) : x.natAbs < 2 ^ 64 := by omega
theorem ok__law_spread (T : Tx K mg) : Ok P w K mg base 1 "_law_spread" ["_law_cell", "_law_at"] spSpread := by
  refine Ok.mk T.d__law_spread sc__law_spread (fun vs H Q E h => ?_) (fun f cdv A outer s H vs Q E hr h => ?_)
  · obtain ⟨c, a, rfl, _⟩ := h
    rfl
  obtain ⟨c, a, rfl, h0, h1, q⟩ := h
  have hL : (2 : Int) ^ 100 ≤ (penLim : Int) := by have := pen100; omega
  generalize hLL : (penLim : Int) = L at h1 hL
  have ls : ∀ {x : Int}, 0 ≤ x → x ≤ 2 ^ 60 * L → x.natAbs < 2 ^ 9000 := fun a b => lim_small a (by rw [hLL]; exact b)
  refine ⟨_, (pss_cons (ps_if (pt_cmpR op_ge (pv 0) (pe_op op_powW (pe_int) (pe_int)) (nomark _))
 (pss_one (ps_ret (pv 0)))
 (pss_nil))
 (pss_cons (ps_set (i := 2) sc__law_spread.nd rfl (Or.inl rfl) (pe_lst (pa_cons (pe_int) (pa_cons (pe_int) (pa_cons (pe_int) (pa_cons (pe_int) (pa_cons (pe_int) (pa_cons (pe_int) (pa_cons (pe_int) (pa_cons (pe_int) (pa_nil)))))))))))
 (pss_cons (ps_set (i := 2) sc__law_spread.nd rfl (Or.inl rfl) (pe_op op_cat (pv 2) (pe_lst (pa_cons (pe_int) (pa_cons (pe_int) (pa_cons (pe_int) (pa_cons (pe_int) (pa_cons (pe_int) (pa_nil)))))))))
 (pss_cons (ps_set (i := 3) sc__law_spread.nd rfl (Or.inl rfl) (pe_op op_mod (pe_op op_powW (pe_op op_add (pe_op op_add (pe_op op_mul (pe_op op_mod (pv 0) (pe_int)) (pe_op op_add (pe_op op_mul (pe_int) (pv 1)) (pe_int))) (pe_op op_mul (pv 1) (pe_int))) (pe_int)) (pe_int)) (pe_ix (ixL K rfl) (pv 2) (pe_op op_mod (pv 1) (pe_int)) (fun _ _ => rfl))))
 (pss_cons (ps_set (i := 4) sc__law_spread.nd rfl (Or.inl rfl) (pe_op op_mod (pe_op op_powW (pe_op op_add (pe_op op_add (pe_op op_mul (pv 3) (pe_op op_add (pv 1) (pe_int))) (pe_op op_mod (pv 0) (pe_int))) (pe_int)) (pe_int)) (pe_ix (ixL K rfl) (pv 2) (pe_op op_mod (pe_op op_add (pv 1) (pe_int)) (pe_int)) (fun _ _ => rfl))))
 (pss_cons (ps_set (i := 5) sc__law_spread.nd rfl (Or.inl rfl) (pe_op op_mod (pe_op op_powW (pe_op op_add (pe_op op_add (pv 4) (pe_op op_mod (pv 3) (pe_int))) (pv 1)) (pe_int)) (pe_ix (ixL K rfl) (pv 2) (pe_op op_mod (pe_op op_add (pv 1) (pe_int)) (pe_int)) (fun _ _ => rfl))))
 (pss_one (ps_ret (pe_op op_add (pe_op op_mul (pe_op op_add (pe_op op_mul (pv 3) (pe_int)) (pv 4)) (pe_int)) (pv 5)))))))))), ?_⟩
  refine ⟨_, rfl, _, _, rfl, rfl, ⟨by decide, by decide, ls (by decide) (by omega)⟩, _, _, rfl, rfl, _, rfl, ite2 (fun e => ?_) (fun e => ?_)⟩
  · have e := of_decide_eq_true e
    refine ⟨_, rfl, ?_⟩
    refine q c H (Int.le_trans (by decide) e) (Same.refl H)
  · refine ⟨by show 8 ≤ sizeLine; decide, fun p1 n1 => ?_⟩
    have s1 := same_upd (o := .lst [V.int 2147483629, .int 2147483587, .int 2147483579, .int 2147483563, .int 2147483549, .int 2147483543, .int 2147483497, .int 2147483489]) n1
    refine ⟨_, rfl, ?_⟩
    refine ⟨by show 5 ≤ sizeLine; decide, fun p2 n2 => ?_⟩
    have s2 := same_upd (o := .lst [V.int 2147483477, .int 2147483423, .int 2147483399, .int 2147483353, .int 2147483323]) n2
    have n12 : p1 ≠ p2 := fun z => by rw [← z, upd_same] at n2; cases n2
    refine ⟨p1, p2, _, _, rfl, rfl, by rw [upd_ne n12]; exact upd_same, upd_same, by show 8 + 5 ≤ sizeLine; decide, fun p3 n3 => ?_⟩
    have s3 := same_upd (o := .lst ([V.int 2147483629, .int 2147483587, .int 2147483579, .int 2147483563, .int 2147483549, .int 2147483543, .int 2147483497, .int 2147483489] ++ [V.int 2147483477, .int 2147483423, .int 2147483399, .int 2147483353, .int 2147483323])) n3
    have hL : SqL K (upd (upd (upd H p1 (.lst [V.int 2147483629, .int 2147483587, .int 2147483579, .int 2147483563, .int 2147483549, .int 2147483543, .int 2147483497, .int 2147483489])) p2 (.lst [V.int 2147483477, .int 2147483423, .int 2147483399, .int 2147483353, .int 2147483323])) p3 (.lst ([V.int 2147483629, .int 2147483587, .int 2147483579, .int 2147483563, .int 2147483549, .int 2147483543, .int 2147483497, .int 2147483489] ++ [V.int 2147483477, .int 2147483423, .int 2147483399, .int 2147483353, .int 2147483323]))) p3 ([2147483629, 2147483587, 2147483579, 2147483563, 2147483549, 2147483543, 2147483497, 2147483489, 2147483477, 2147483423, 2147483399, 2147483353, 2147483323].map V.int) := SqL.of upd_same
    have sH := s1.trans (s2.trans s3)
    generalize (upd (upd (upd H p1 (.lst [V.int 2147483629, .int 2147483587, .int 2147483579, .int 2147483563, .int 2147483549, .int 2147483543, .int 2147483497, .int 2147483489])) p2 (.lst [V.int 2147483477, .int 2147483423, .int 2147483399, .int 2147483353, .int 2147483323])) p3 (.lst ([V.int 2147483629, .int 2147483587, .int 2147483579, .int 2147483563, .int 2147483549, .int 2147483543, .int 2147483497, .int 2147483489] ++ [V.int 2147483477, .int 2147483423, .int 2147483399, .int 2147483353, .int 2147483323]))) = H3 at hL sH ⊢
    have prime : ∀ i : Int, 0 ≤ i → ∃ pr : Int, atI ([2147483629, 2147483587, 2147483579, 2147483563, 2147483549, 2147483543, 2147483497, 2147483489, 2147483477, 2147483423, 2147483399, 2147483353, 2147483323].map V.int) (i % 13) = some (.int pr) ∧ 0 < pr ∧ pr < 2147483647 := fun i hi => by
      have h1 : 0 ≤ i % 13 := Int.emod_nonneg _ (by decide)
      have h2 : i % 13 < 13 := Int.emod_lt_of_pos _ (by decide)
      generalize i % 13 = k at h1 h2
      have hk : k = 0 ∨ k = 1 ∨ k = 2 ∨ k = 3 ∨ k = 4 ∨ k = 5 ∨ k = 6 ∨ k = 7 ∨ k = 8 ∨ k = 9 ∨ k = 10 ∨ k = 11 ∨ k = 12 := by omega
      rcases hk with rfl | rfl | rfl | rfl | rfl | rfl | rfl | rfl | rfl | rfl | rfl | rfl | rfl <;> exact ⟨_, rfl, by decide, by decide⟩
    obtain ⟨q1, a1, b1, c1⟩ := prime a h0
    obtain ⟨q2, a2, b2, c2⟩ := prime (a + 5) (by omega)
    obtain ⟨q3, a3, b3, c3⟩ := prime (a + 7) (by omega)
    have u0 : 0 ≤ c % 1000000007 := Int.emod_nonneg _ (by decide)
    have u1 : c % 1000000007 < 1000000007 := Int.emod_lt_of_pos _ (by decide)
    have v0 : 0 ≤ c % 65537 := Int.emod_nonneg _ (by decide)
    have v1 : c % 65537 < 65537 := Int.emod_lt_of_pos _ (by decide)
    have e1 : 0 ≤ c % 1000000007 * (2 * a + 69069) := Int.mul_nonneg u0 (by omega)
    have e2 : c % 1000000007 * (2 * a + 69069) ≤ 1000000007 * (2 * L + 69069) := Int.mul_le_mul (by omega) (by omega) (by omega) (by omega)
    -- one
    refine ⟨_, rfl, _, _, rfl, rfl, (by show (0 : Int) < _; decide), _, rfl, _, _, rfl, rfl, .inl ⟨by decide, by decide⟩, _, _, rfl, rfl, _, _, rfl, rfl, .inl ⟨by omega, by omega⟩, _, rfl, _, _, rfl, rfl, .inr ⟨by decide, by decide⟩, _, _, rfl, rfl, _, _, rfl, rfl, _, _, rfl, rfl, ⟨by decide, by decide, ls (by omega) (by omega)⟩,
      _, rfl, _, rfl, _, _, rfl, rfl, (by show (0 : Int) < _; decide), _, _, _, _, rfl, rfl, hL, a1, _, _, rfl, rfl, b1, ?_⟩
    have w0 : 0 ≤ (c % 1000000007 * (2 * a + 69069) + a * 40503 + 977) ^ 3 % q1 := Int.emod_nonneg _ (by omega)
    have w1 : (c % 1000000007 * (2 * a + 69069) + a * 40503 + 977) ^ 3 % q1 < q1 := Int.emod_lt_of_pos _ b1
    dsimp only [Int.reduceToNat]
    generalize (c % 1000000007 * (2 * a + 69069) + a * 40503 + 977) ^ 3 % q1 = o1 at w0 w1 ⊢
    have e3 : 0 ≤ o1 * (a + 3) := Int.mul_nonneg w0 (by omega)
    have e4 : o1 * (a + 3) ≤ 2147483647 * (L + 3) := Int.mul_le_mul (by omega) (by omega) (by omega) (by omega)
    -- two
    refine ⟨_, rfl, _, rfl, _, _, rfl, rfl, _, _, rfl, rfl, .inl ⟨by omega, by omega⟩, _, rfl, _, _, rfl, rfl, (by show (0 : Int) < _; decide), _, _, rfl, rfl, _, _, rfl, rfl, _, _, rfl, rfl, ⟨by decide, by decide, ls (by omega) (by omega)⟩,
      _, rfl, _, rfl, _, _, rfl, rfl, _, _, rfl, rfl, (by show (0 : Int) < _; decide), _, _, _, _, rfl, rfl, hL, a2, _, _, rfl, rfl, b2, ?_⟩
    have w2 : 0 ≤ (o1 * (a + 3) + c % 65537 + 5) ^ 5 % q2 := Int.emod_nonneg _ (by omega)
    have w3 : (o1 * (a + 3) + c % 65537 + 5) ^ 5 % q2 < q2 := Int.emod_lt_of_pos _ b2
    dsimp only [Int.reduceToNat]
    generalize (o1 * (a + 3) + c % 65537 + 5) ^ 5 % q2 = o2 at w2 w3 ⊢
    have x0 : 0 ≤ o1 % 1009 := Int.emod_nonneg _ (by decide)
    have x1 : o1 % 1009 < 1009 := Int.emod_lt_of_pos _ (by decide)
    -- three
    refine ⟨_, rfl, _, rfl, _, _, rfl, rfl, (by show (0 : Int) < _; decide), _, _, rfl, rfl, _, rfl, _, _, rfl, rfl, _, _, rfl, rfl, ⟨by decide, by decide, ls (by omega) (by omega)⟩,
      _, rfl, _, rfl, _, _, rfl, rfl, _, _, rfl, rfl, (by show (0 : Int) < _; decide), _, _, _, _, rfl, rfl, hL, a3, _, _, rfl, rfl, b3, ?_⟩
    have w4 : 0 ≤ (o2 + o1 % 1009 + a) ^ 3 % q3 := Int.emod_nonneg _ (by omega)
    dsimp only [Int.reduceToNat]
    generalize (o2 + o1 % 1009 + a) ^ 3 % q3 = o3 at w4 ⊢
    -- the answer
    refine ⟨_, rfl, _, _, rfl, rfl, .inr ⟨by decide, by decide⟩, _, rfl, _, _, rfl, rfl, _, _, rfl, rfl, .inr ⟨by decide, by decide⟩, _, rfl, _, _, rfl, rfl, ?_⟩
    exact q _ H3 (by omega) sH
theorem ok__law_open (T : Tx K mg) : Ok P w K mg base 1 "_law_open" ["_law_script"] (spOpen K) := by
  refine Ok.mk T.d__law_open sc__law_open (fun vs H Q E h => ?_) (fun f cdv A outer s H vs Q E hr h => ?_)
  · obtain ⟨a, ns, rfl, _⟩ := h
    rfl
  obtain ⟨a, ns, rfl, hS, hl, q⟩ := h
  refine ⟨_, (pss_cons (ps_set (i := 1) sc__law_open.nd rfl (Or.inl rfl) (pe_callTy (listQ K rfl) (by rfl) T.z_list (by decide +kernel) (pa_cons (pe_slice (slL K rfl) (pv 0) po_none (po_some (pe_int))) (pa_nil))))
 (pss_cons (ps_for PassesOwn.never rfl (piE K rfl (by rfl) T.z_enumerate (pa_cons (pe_slice (slL K rfl) (pv 0) (po_some (pe_int)) (po_some (pe_int))) (pa_nil))) (pgT K rfl 2 rfl (pgs_cons (pg_nameL (i := 2) sc__law_open.nd rfl rfl) (pgs_cons (pg_nameL (i := 3) sc__law_open.nd rfl rfl) (pgs_nil))))
 (pss_one (ps_asg (pe_op op_add (pe_ix (ixL K rfl) (pv 1) (pe_op op_mod (pv 2) (pe_int)) (fun _ _ => rfl)) (pv 3)) (pg_sub (pv 1) (pe_op op_mod (pv 2) (pe_int)) set_list))))
 (pss_one (ps_ret (pe_lst (pa_cons (pv 1) (pa_cons (pe_int) (pa_cons (pe_int) (pa_nil))))))))), ?_⟩
  -- cells = list(script[:12])
  refine ⟨.ref a, rfl, _, rfl, a, ns.map V.int, rfl, hS, fun t1 n1 => ?_⟩
  have s1 := same_upd (o := .lst (cutV (ns.map V.int) none (some 12))) n1
  refine ⟨t1, _, rfl, .inl (SqL.of upd_same), fun c n2 => ?_⟩
  have s2 := same_upd (o := .lst (cutV (ns.map V.int) none (some 12))) n2
  have e12 : cutV (ns.map V.int) none (some 12) = (ns.take 12).map V.int := by
    rw [show (12 : Int) = ((12 : Nat) : Int) from rfl, cut_take, List.map_take]
  have sH := s1.trans s2
  have hc : upd (upd H t1 (.lst (cutV (ns.map V.int) none (some 12)))) c (.lst (cutV (ns.map V.int) none (some 12))) c = some (.lst ((ns.take 12).map V.int)) := by rw [upd_same, e12]
  have nc : H c = none := s1.free n2
  generalize upd (upd H t1 (.lst (cutV (ns.map V.int) none (some 12)))) c (.lst (cutV (ns.map V.int) none (some 12))) = H2 at sH hc ⊢
  -- the loop
  refine ⟨.ref a, rfl, _, rfl, _, rfl, a, ns.map V.int, rfl, sH.seq hS, fun t2 n3 => ?_⟩
  have e63 : cutV (ns.map V.int) (some 12) (some 63) = (ns.drop 12).map V.int := by
    rw [show (12 : Int) = ((12 : Nat) : Int) from rfl, show (63 : Int) = ((63 : Nat) : Int) from rfl, cut_drop _ _ _ (by decide), List.take_of_length_le (by rw [List.length_map]; exact hl), List.map_drop]
  rw [e63]
  have s3 := same_upd (o := .lst ((ns.drop 12).map V.int)) n3
  refine ⟨t2, (ns.drop 12).map V.int, rfl, SqL.of upd_same, for_it (walk_enum (K := K) (a := t2) (xs := (ns.drop 12).map V.int)) (fun i σ H3 => ∃ y2 y3 cs, σ = [some (.ref a), some (.ref c), y2, y3] ∧ But c H2 H3 ∧ H3 t2 = some (.lst ((ns.drop 12).map V.int)) ∧ H3 c = some (.lst (cs.map V.int)) ∧ (cs : List Int).length = (ns.take 12).length) ?_ ?_ ?_ ?_⟩
  · exact ⟨none, none, ns.take 12, rfl, But.of s3, upd_same, s3 _ _ hc, rfl⟩
  · rintro i σ H3 _ ⟨y2, y3, cs, _, _, h2, _⟩
    exact SqL.of h2
  · rintro i x σ H3 H4 hi ⟨y2, y3, cs, rfl, bt, h2, h3, hlc⟩ ⟨t, x1, x2, rfl, nt, rfl, z1, z2⟩
    cases z1
    have z2 : ((ns.drop 12).map V.int)[i]? = some x2 := z2
    have hx : ∃ m : Int, x2 = .int m := by
      rw [List.getElem?_map] at z2
      cases z3 : (ns.drop 12)[i]? with
      | none => rw [z3] at z2; cases z2
      | some m => rw [z3] at z2; exact ⟨m, (Option.some.inj z2).symm⟩
    obtain ⟨m, rfl⟩ := hx
    have hlen : cs.length = 12 := by
      rw [hlc, List.length_take]
      rw [List.length_map, List.length_drop] at hi
      omega
    have k0 : (i : Int) % 12 = ((i % 12 : Nat) : Int) := by omega
    have k1 : i % 12 < cs.length := by omega
    have ntc : c ≠ t := ne_of_none h3 nt
    have h3t : upd H3 t (.tup [V.int (i : Nat), .int m]) c = some (.lst (cs.map V.int)) := by rw [upd_ne ntc]; exact h3
    have g1 : (cs.map V.int)[i % 12]? = some (.int cs[i % 12]) := by rw [List.getElem?_map, List.getElem?_eq_getElem k1]; rfl
    refine ⟨t, _, rfl, SqT.of upd_same, rfl, _, _, rfl, _, _, rfl, rfl, ?_⟩
    refine ⟨_, rfl, _, rfl, _, _, rfl, rfl, (by show (0 : Int) < _; decide), c, _, _, _, rfl, rfl, SqL.of h3t, atI_of _ k0 g1, _, rfl, _, _, rfl, rfl, _, rfl, _, rfl, _, _, rfl, rfl, (by show (0 : Int) < _; decide), c, _, _, _, rfl, rfl, h3t, ixN_of _ k0 (by rw [List.length_map]; exact k1), ?_⟩
    have nct2 : t2 ≠ c := (ne_of_none hc n3).symm
    refine ⟨some (.int (i : Nat)), some (.int m), cs.set (i % 12) (cs[i % 12] + m), rfl, bt.trans ((But.new nt).trans But.upd), ?_, ?_, ?_⟩
    · rw [upd_ne nct2, upd_ne (ne_of_none h2 nt)]; exact h2
    · rw [upd_same, List.map_set]
    · rw [List.length_set]; exact hlc
  · rintro σ H3 ⟨y2, y3, cs, rfl, bt, h2, h3, hlc⟩
    refine ⟨_, rfl, by show 3 ≤ sizeLine; decide, fun p np => ?_⟩
    have ncp : c ≠ p := ne_of_none h3 np
    have npH : H p = none := (show Same H H2 from sH).free ((bt.free (Ne.symm ncp) np))
    refine q p c _ (fun b o e => ?_) npH nc ⟨⟨0, 0, upd_same, by decide, by decide, by decide⟩, ⟨cs, by rw [upd_ne ncp]; exact h3⟩, ncp⟩
    rw [upd_ne (ne_of_none e npH)]
    exact bt _ _ (ne_of_none e nc) (sH _ _ e)
theorem ok__law_take (T : Tx K mg) (O__law_spread : Ok P w K mg base 1 "_law_spread" ["_law_cell", "_law_at"] spSpread) : Ok P w K mg base 2 "_law_take" ["_law_pen", "_law_many"] spTake := by
  refine Ok.mk T.d__law_take sc__law_take (fun vs H Q E h => ?_) (fun f cdv A outer s H vs Q E hr h => ?_)
  · obtain ⟨p, c, n, m, rfl, _⟩ := h
    rfl
  obtain ⟨p, c, n, m, rfl, pe, hn, hm, hw, q⟩ := h
  obtain ⟨⟨a, r, ep, a0, a1, r0⟩, ⟨ns, ec⟩, ncp⟩ := pe
  refine ⟨_, (pss_cons (ps_if (pt_cmpR op_lt (pe_ix (ixL K rfl) (pv 0) (pe_int) (fun _ _ => rfl)) (pv 1) (nomark _))
 (pss_cons (ps_set (i := 2) sc__law_take.nd rfl (Or.inl rfl) (pe_ix (ixL K rfl) (pv 0) (pe_int) (fun _ _ => rfl)))
 (pss_cons (ps_set (i := 3) sc__law_take.nd rfl (Or.inl rfl) (pe_int))
 (pss_cons (ps_if (pt_cmpR op_lt (pv 2) (pe_callB (lenQ K rfl) (by rfl) T.z_len PySem.boot_len (pa_cons (pe_ix (ixL K rfl) (pv 0) (pe_int) (fun _ _ => rfl)) (pa_nil))) (nomark _))
 (pss_one (ps_set (i := 3) sc__law_take.nd rfl (Or.inl rfl) (pe_ix (ixL K rfl) (pe_ix (ixL K rfl) (pv 0) (pe_int) (fun _ _ => rfl)) (pv 2) (fun _ _ => rfl))))
 (pss_one (ps_if (pt_cmpR op_gt (pe_callB (lenQ K rfl) (by rfl) T.z_len PySem.boot_len (pa_cons (pe_ix (ixL K rfl) (pv 0) (pe_int) (fun _ _ => rfl)) (pa_nil))) (pe_int) (nomark _))
 (pss_one (ps_set (i := 3) sc__law_take.nd rfl (Or.inl rfl) (pe_op op_mod (pe_ix (ixL K rfl) (pe_ix (ixL K rfl) (pv 0) (pe_int) (fun _ _ => rfl)) (pe_op op_mod (pe_op op_add (pe_op op_mul (pv 2) (pe_int)) (pe_int)) (pe_callB (lenQ K rfl) (by rfl) T.z_len PySem.boot_len (pa_cons (pe_ix (ixL K rfl) (pv 0) (pe_int) (fun _ _ => rfl)) (pa_nil)))) (fun _ _ => rfl)) (pe_op op_add (pe_op op_powW (pe_int) (pe_int)) (pv 2)))))
 (pss_nil))))
 (pss_cons (ps_asg (pe_op op_add (pv 2) (pe_int)) (pg_sub (pv 0) (pe_int) set_list))
 (pss_one (ps_asg (pe_fn O__law_spread (hr.mono (by omega)) (by rfl) (pa_cons (pv 3) (pa_cons (pv 2) (pa_nil)))) (pg_sub (pv 0) (pe_int) set_list)))))))
 (pss_nil))
 (pss_cons (ps_set (i := 4) sc__law_take.nd rfl (Or.inl rfl) (pe_op op_mod (pe_ix (ixL K rfl) (pv 0) (pe_int) (fun _ _ => rfl)) (pv 1)))
 (pss_cons (ps_asg (pe_op op_fdivW (pe_ix (ixL K rfl) (pv 0) (pe_int) (fun _ _ => rfl)) (pv 1)) (pg_sub (pv 0) (pe_int) set_list))
 (pss_one (ps_ret (pv 4)))))), ?_⟩
  have fin : ∀ (σ2 σ3 : Option V) (H1 : Hp) (a' r' : Int), But p H H1 → H1 p = some (.lst [.ref c, .int a', .int r']) → 0 ≤ a' → a' ≤ ((n + 1 : Nat) : Int) → 0 ≤ r' →
      (tSeq (tAsg (tOp (rI (fun _ j => 0 < j) fun i j => .int (i % j)) (tOp (rIxL K) (tVar 0) (tC (.int 2))) (tVar 1)) (gName 4)) (tSeq (tAsg (tOp (rI CDivW fun i j => .int (i / j)) (tOp (rIxL K) (tVar 0) (tC (.int 2))) (tVar 1)) (gSub (tVar 0) (tC (.int 2)) rSetL)) (tRet (tVar 4))) { nx := fun _ H' => Q .non H', rt := Q } [some (.ref p), some (.int m), σ2, σ3, none] H1) := by
    intro σ2 σ3 H1 a' r' bt e1 z0 z1 z2
    refine ⟨_, rfl, p, _, _, _, rfl, rfl, SqL.of e1, atI_of 2 rfl rfl, _, rfl, _, _, rfl, rfl, hm, ?_⟩
    refine ⟨_, rfl, p, _, _, _, rfl, rfl, SqL.of e1, atI_of 2 rfl rfl, _, rfl, _, _, rfl, rfl, wide_div hm hw (by decide) (by decide), _, rfl, p, _, _, _, rfl, rfl, e1, ixN_of 2 rfl (by show 2 < 3; decide), ?_⟩
    refine ⟨_, rfl, q _ _ (Int.emod_nonneg _ (by omega)) (Int.emod_lt_of_pos _ hm) (bt.trans But.upd) ⟨⟨a', r' / m, upd_same, z0, z1, Int.ediv_nonneg z2 (by omega)⟩, ⟨ns, ?_⟩, ncp⟩⟩
    rw [upd_ne ncp]
    exact bt _ _ ncp ec
  refine ⟨_, rfl, p, _, _, _, rfl, rfl, SqL.of ep, atI_of 2 rfl rfl, _, rfl, _, _, rfl, rfl, _, rfl, ite2 (fun e => ?_) (fun e => ?_)⟩
  · refine ⟨_, rfl, p, _, _, _, rfl, rfl, SqL.of ep, atI_of 1 rfl rfl, ?_⟩
    have fin2 : ∀ (cell : Int), (tSeq (tAsg (tOp (rI0 fun i j => .int (i + j)) (tVar 2) (tC (.int 1))) (gSub (tVar 0) (tC (.int 1)) rSetL)) (tAsg (tCall spSpread [] E0 (tCons (tVar 3) (tCons (tVar 2) tNil))) (gSub (tVar 0) (tC (.int 2)) rSetL)) { nx := fun σ1 H1 => (tSeq (tAsg (tOp (rI (fun _ j => 0 < j) fun i j => .int (i % j)) (tOp (rIxL K) (tVar 0) (tC (.int 2))) (tVar 1)) (gName 4)) (tSeq (tAsg (tOp (rI CDivW fun i j => .int (i / j)) (tOp (rIxL K) (tVar 0) (tC (.int 2))) (tVar 1)) (gSub (tVar 0) (tC (.int 2)) rSetL)) (tRet (tVar 4))) { nx := fun _ H' => Q .non H', rt := Q } σ1 H1), rt := Q } [some (.ref p), some (.int m), some (.int a), some (.int cell), none] H) := by
      intro cell
      refine ⟨_, rfl, _, _, rfl, rfl, _, rfl, p, _, _, _, rfl, rfl, ep, ixN_of 1 rfl (by show 1 < 3; decide), ?_⟩
      refine ⟨_, rfl, _, rfl, cell, a, rfl, a0, by omega, fun r' H2 hr0 sm => ?_⟩
      refine ⟨_, rfl, p, _, _, _, rfl, rfl, sm _ _ upd_same, ixN_of 2 rfl (by show 2 < 3; decide), ?_⟩
      exact fin _ _ _ (a + 1) r' (But.upd.trans ((But.of sm).trans But.upd)) upd_same (by omega) (by omega) hr0
    refine ⟨_, rfl, _, rfl, p, _, _, _, rfl, rfl, SqL.of ep, atI_of 0 rfl rfl, c, _, rfl, .inl (SqL.of ec), _, _, rfl, rfl, _, rfl, ite2 (fun e1 => ?_) (fun e1 => ?_)⟩
    · have e1 := of_decide_eq_true e1
      rw [List.length_map] at e1
      have k1 : a.toNat < ns.length := by omega
      have g1 : (ns.map V.int)[a.toNat]? = some (.int ns[a.toNat]) := by rw [List.getElem?_map, List.getElem?_eq_getElem k1]; rfl
      refine ⟨_, rfl, p, _, _, _, rfl, rfl, SqL.of ep, atI_of 0 rfl rfl, _, rfl, c, _, _, _, rfl, rfl, SqL.of ec, atI_of a.toNat (by omega) g1, ?_⟩
      exact fin2 _
    · refine ⟨_, rfl, p, _, _, _, rfl, rfl, SqL.of ep, atI_of 0 rfl rfl, c, _, rfl, .inl (SqL.of ec), _, _, rfl, rfl, _, rfl, ite2 (fun e2 => ?_) (fun e2 => ?_)⟩
      · have e2 := of_decide_eq_true e2
        rw [List.length_map] at e2
        have k0 : 0 ≤ (a * 5 + 3) % (ns.length : Int) := Int.emod_nonneg _ (by omega)
        have k1 : (a * 5 + 3) % (ns.length : Int) < ns.length := Int.emod_lt_of_pos _ e2
        have k2 : ((a * 5 + 3) % (ns.length : Int)).toNat < ns.length := by omega
        have g1 : (ns.map V.int)[((a * 5 + 3) % (ns.length : Int)).toNat]? = some (.int ns[((a * 5 + 3) % (ns.length : Int)).toNat]) := by rw [List.getElem?_map, List.getElem?_eq_getElem k2]; rfl
        refine ⟨_, rfl, p, _, _, _, rfl, rfl, SqL.of ep, atI_of 0 rfl rfl, _, rfl, _, _, rfl, rfl, .inr ⟨by decide, by decide⟩, _, _, rfl, rfl, _, rfl, p, _, _, _, rfl, rfl, SqL.of ep, atI_of 0 rfl rfl, c, _, rfl, .inl (SqL.of ec), _, _, rfl, rfl, by rw [List.length_map]; exact e2, c, _, _, _, rfl, rfl, SqL.of ec, atI_of _ (by rw [List.length_map]; omega) g1, _, _, rfl, rfl, ⟨by decide, by decide, lim_small (by decide) (by have := pen100; omega)⟩, _, rfl, _, _, rfl, rfl, _, _, rfl, rfl, ?_, ?_⟩
        · show (0 : Int) < 10 ^ (17 : Int).toNat + a
          have : (0 : Int) < 10 ^ (17 : Int).toNat := by decide
          omega
        · exact fin2 _
      · exact fin2 _
  · exact fin none none H a r (But.refl p H) ep a0 (by omega) r0
end

/-! ### texts and tests -/
open TL (tl)
open TL (numL joinL)
abbrev Sg (l : List Nat) : Str := ⟨l.toArray⟩
theorem tl_e : tl (Str.ofString "") = [] := by decide +kernel
theorem tl_small : tl (Str.ofString "abcdefghijklmnopqrstuvwxyz") = (List.range 26).map (97 + ·) := by decide +kernel
def ones (cs : List Nat) : List D := cs.map fun c => .str ⟨#[c]⟩
theorem strs_ones : ∀ cs : List Nat, strsOf (ones cs) = some (cs.map fun c => ⟨#[c]⟩)
  | [] => rfl
  | c :: cs => by
    show (strsOf (ones cs)).map _ = _
    rw [strs_ones cs]
    rfl
theorem joinL_nil : ∀ xs : List (List Nat), joinL [] xs = xs.flatten
  | [] => rfl
  | [x] => by simp [joinL]
  | x :: y :: r => by
    show x ++ ([] ++ joinL [] (y :: r)) = _
    rw [joinL_nil (y :: r)]
    simp
theorem join_ones (cs : List Nat) : Txt.join (Str.ofString "") (cs.map fun c => ⟨#[c]⟩) = Sg cs := by
  have h := SX.join_S [] (cs.map fun c => [c])
  rw [List.map_map, joinL_nil] at h
  have e : ∀ cs : List Nat, (cs.map fun c => [c]).flatten = cs := by
    intro cs
    induction cs with
    | nil => rfl
    | cons c cs ih => rw [List.map_cons, List.flatten_cons, ih]; rfl
  rw [e] at h
  have e2 : (Str.ofString "") = SX.S [] := TL.ext_tl tl_e
  rw [e2]
  exact h
theorem ones_sum (cs : List Nat) : ((cs.map fun c => (⟨#[c]⟩ : Str)).map (·.length)).sum = cs.length := by
  have e : (cs.map fun c => (⟨#[c]⟩ : Str)).map (·.length) = cs.map fun _ => 1 := by rw [List.map_map]; rfl
  rw [e]
  induction cs with
  | nil => rfl
  | cons c cs ih =>
    rw [List.map_cons, List.sum_cons, List.length_cons]
    have := ih (by rw [List.map_map]; rfl)
    omega
theorem in_textD {x : Str} {c : Nat} {Q : Bool → Prop} (h : Q (decide (c ∈ tl x))) : Q (xor false (!(Builtin.Str.occurrences x ⟨#[c]⟩ 0 x.length 1).isEmpty)) := by
  rw [Bool.false_xor, StrLaws.found_one]
  exact h
theorem cutS_to (l : List Nat) (j : Nat) : cutS (Sg l) none (some (j : Int)) = Sg (l.take j) := by
  unfold cutS
  rw [HT.sIx_none, HT.sIx_nat, TL.len_tl]
  refine congrArg Sg ?_
  show List.take _ (List.drop 0 l) = _
  rw [List.drop_zero, Nat.sub_zero]
  show List.take (min j l.length) l = _
  rcases Nat.le_total j l.length with h | h
  · rw [Nat.min_eq_left h]
  · rw [Nat.min_eq_right h, List.take_of_length_le (Nat.le_refl _), List.take_of_length_le h]
theorem cutS_from (l : List Nat) (j : Nat) (h : j ≤ l.length) : cutS (Sg l) (some (j : Int)) none = Sg (l.drop j) := by
  unfold cutS
  rw [HT.sIx_none, HT.sIx_nat, TL.len_tl]
  refine congrArg Sg ?_
  show List.take (l.length - min j l.length) (List.drop (min j l.length) l) = _
  rw [Nat.min_eq_left h]
  exact List.take_of_length_le (by rw [List.length_drop]; omega)
theorem sg_app (a b : List Nat) : (Sg a ++ Sg b : Str) = Sg (a ++ b) := by
  refine TL.ext_tl ?_
  rw [TL.tl_append]
theorem sg_len (a : List Nat) : (Sg a : Str).length = a.length := TL.len_tl _
theorem sg_tl (z : Str) : Sg (tl z) = z := TL.ext_tl rfl
theorem ite_either {b : Bool} {A B : Prop} (h1 : b = true → A) (h2 : b = false → B) : if b = true then A else B := by
  cases b with
  | true => exact h1 rfl
  | false => exact h2 rfl
/-! a test's worth, an expression's -/
def Tst (t : DB) (s : S) (b : Bool) : Prop := ∀ Q : Bool → S → Prop, Q b s → t s Q
def Exv (t : DT) (s : S) (d : D) : Prop := ∀ Q : D → S → Prop, Q d s → t s Q
theorem tst_and {a b : DB} {s : S} {x y : Bool} (h1 : Tst a s x) (h2 : x = true → Tst b s y) : Tst (dAnd a b) s (x && y) := fun Q q => h1 _ (by
  cases x with
  | true => exact ifp rfl (h2 rfl _ q)
  | false => exact ifn Bool.false_ne_true q)
theorem tst_or {a b : DB} {s : S} {x y : Bool} (h1 : Tst a s x) (h2 : x = false → Tst b s y) : Tst (dOr a b) s (x || y) := fun Q q => h1 _ (by
  cases x with
  | true => exact ifp rfl q
  | false => exact ifn Bool.false_ne_true (h2 rfl _ q))
theorem tst_not {a : DB} {s : S} {x : Bool} (h1 : Tst a s x) : Tst (dNot a) s (!x) := fun Q q => h1 _ q
theorem tst_ex {t : DT} {s : S} {b : Bool} (h : Exv t s (.bool b)) : Tst (dBl t) s b := fun Q q => h _ q
theorem exv_and {a b : DT} {s : S} {x y : Bool} (h1 : Exv a s (.bool x)) (h2 : x = true → Exv b s (.bool y)) : Exv (dAndV a b) s (.bool (x && y)) := fun Q q => h1 _ (by
  cases x with
  | true => exact h2 rfl _ q
  | false => exact q)
theorem exv_or {a b : DT} {s : S} {x y : Bool} (h1 : Exv a s (.bool x)) (h2 : x = false → Exv b s (.bool y)) : Exv (dOrV a b) s (.bool (x || y)) := fun Q q => h1 _ (by
  cases x with
  | true => exact q
  | false => exact h2 rfl _ q)
theorem exv_not {a : DT} {s : S} {x : Bool} (h1 : Exv a s (.bool x)) : Exv (dNotV a) s (.bool (!x)) := fun Q q => h1 _ q
theorem exv_if {c : DB} {a b : DT} {s : S} {k : Bool} {d : D} (h : Tst c s k) (h1 : k = true → Exv a s d) (h2 : k = false → Exv b s d) : Exv (dIf c a b) s d := fun Q q => h _ (by
  cases k with
  | true => exact ifp rfl (h1 rfl _ q)
  | false => exact ifn Bool.false_ne_true (h2 rfl _ q))
theorem exv_chain {a b c : DT} {f g : Int → Int → Bool} {s : S} {i j k : Int} (ha : Exv a s (.int i)) (hb : Exv b s (.int j)) (hc : Exv c s (.int k)) : Exv (dChain (cmpD f) (cmpD g) a b c) s (.bool (f i j && g j k)) := fun Q q => ha _ (hb _ (by
  show (cmpD f (.int i) (.int j) _)
  simp only [cmpD]
  cases h : f i j with
  | true => rw [h] at q; exact hc _ (by simp only [cmpD]; exact q)
  | false => rw [h] at q; exact q))
/-- if t: a (which leaves), then the rest -/
theorem seqIf {t : DB} {a r : DSt} {E : DEnds} {s : S} {b : Bool} (h : Tst t s b) (h1 : b = true → a { E with nx := r E } s) (h2 : b = false → r E s) : dSeq (dIfS t a dNext) r E s := h _ (by
  cases b with
  | true => exact ifp rfl (h1 rfl)
  | false => exact ifn Bool.false_ne_true (h2 rfl))
theorem ifS {t : DB} {a r : DSt} {E : DEnds} {s : S} {b : Bool} (h : Tst t s b) (h1 : b = true → a E s) (h2 : b = false → r E s) : dIfS t a r E s := h _ (by
  cases b with
  | true => exact ifp rfl (h1 rfl)
  | false => exact ifn Bool.false_ne_true (h2 rfl))
theorem retS {t : DT} {E : DEnds} {s : S} {d : D} (h : Exv t s d) (q : E.rt d s) : dRet t E s := h _ q
theorem boolsOf_map : ∀ bs : List Bool, boolsOf (bs.map PyData.bool) = some bs
  | [] => rfl
  | b :: bs => by
    show (boolsOf (bs.map PyData.bool)).map _ = _
    rw [boolsOf_map bs]
    rfl
theorem all_ok {bs : List Bool} {Q : D → Prop} (q : Q (.bool (bs.all id))) : allD [.list (bs.map PyData.bool)] Q := by
  exact ⟨bs, boolsOf_map bs, q⟩
/-! comprehensions with one name -/
theorem lc1 {i : Nat} {e : DT} {vs : List Nat} {Q : List D → S → Prop} {items : List D} (Inv : Nat → List D → S → Prop) {s : S} (h0 : Inv 0 [] s)
    (step : ∀ j d acc s (N : List D → S → Prop), items[j]? = some d → Inv j acc s → (∀ acc' s', Inv (j + 1) acc' s' → N acc' s') → e { s with δ := s.δ.set i (some d) } fun y s3 => N (acc ++ [y]) (wipeS s3 vs))
    (fin : ∀ acc s, Inv items.length acc s → Q acc s) : lcD (sName i) dYes e vs Q items [] s :=
  lcD_ind Inv h0 (fun j d acc s N hd hi hN => step j d acc s N hd hi hN) fin
theorem lc1if {i : Nat} {c : DB} {e : DT} {vs : List Nat} {Q : List D → S → Prop} {items : List D} (Inv : Nat → List D → S → Prop) {s : S} (h0 : Inv 0 [] s)
    (step : ∀ j d acc s (N : List D → S → Prop), items[j]? = some d → Inv j acc s → (∀ acc' s', Inv (j + 1) acc' s' → N acc' s') → c { s with δ := s.δ.set i (some d) } fun k s2 => if k = true then e s2 fun y s3 => N (acc ++ [y]) (wipeS s3 vs) else N acc (wipeS s2 vs))
    (fin : ∀ acc s, Inv items.length acc s → Q acc s) : lcD (sName i) c e vs Q items [] s :=
  lcD_ind Inv h0 (fun j d acc s N hd hi hN => step j d acc s N hd hi hN) fin
theorem orV_ok {a b : DT} {s : S} {x y : Bool} {Q : D → S → Prop} (h1 : Exv a s (.bool x)) (h2 : x = false → Exv b s (.bool y)) (q : Q (.bool (x || y)) s) : dOrV a b s Q := exv_or h1 h2 Q q
theorem andV_ok {a b : DT} {s : S} {x y : Bool} {Q : D → S → Prop} (h1 : Exv a s (.bool x)) (h2 : x = true → Exv b s (.bool y)) (q : Q (.bool (x && y)) s) : dAndV a b s Q := exv_and h1 h2 Q q
theorem seqPar {i j : Nat} {a : DA} {r : DSt} {E : DEnds} {s : S} {d e : D} (h : ∀ Q : List D → S → Prop, Q [d, e] s → a s Q) (k : r E { s with δ := (s.δ.set i (some d)).set j (some e) }) : dSeq (dPar i j a) r E s := h _ k
theorem seqSet {i : Nat} {a : DT} {r : DSt} {E : DEnds} {s : S} {d : D} (h : Exv a s d) (k : r E { s with δ := s.δ.set i (some d) }) : dSeq (dSet i a) r E s := h _ k

/-! ### one test known, one putting in (as in K02d, K02j) -/
theorem seqY {t : DB} {a r : DSt} {E : DEnds} {s : S} (h : Tst t s true) (k : a { E with nx := r E } s) : dSeq (dIfS t a dNext) r E s := seqIf (b := true) h (fun _ => k) (fun z => nomatch z)
theorem seqN {t : DB} {a r : DSt} {E : DEnds} {s : S} (h : Tst t s false) (k : r E s) : dSeq (dIfS t a dNext) r E s := seqIf (b := false) h (fun z => nomatch z) (fun _ => k)
theorem seqSetX {i : Nat} {a : DT} {d : D} {r : DSt} {E : DEnds} {s : S} (h : Exv a s d) (k : r E { s with δ := s.δ.set i (some d) }) : dSeq (dSet i a) r E s := h _ k
theorem seqSetMX {i : Nat} {a : DT} {d : D} {r : DSt} {E : DEnds} {s : S} (h : Exv a s d) (hc : isC d = true) (k : r E { s with δ := s.δ.set i (some d) }) : dSeq (dSetM i a) r E s := h _ ⟨hc, k⟩
theorem retY {c : DB} {a b : DT} {E : DEnds} {s : S} (h : Tst c s true) (k : dRet a E s) : dRet (dIf c a b) E s := h _ (ifp rfl k)
theorem retN {c : DB} {a b : DT} {E : DEnds} {s : S} (h : Tst c s false) (k : dRet b E s) : dRet (dIf c a b) E s := h _ (ifn Bool.false_ne_true k)
theorem retOrY {a b : DT} {E : DEnds} {s : S} (h : Exv a s (.bool true)) (k : E.rt (.bool true) s) : dRet (dOrV a b) E s := h _ k
theorem retOrN {a b : DT} {E : DEnds} {s : S} (h : Exv a s (.bool false)) (k : dRet b E s) : dRet (dOrV a b) E s := h _ k
theorem cutSetX {i : Nat} {a : DT} {d : D} {r : DSt} {E : DEnds} {s : S} (h : Exv a s d) (k : r E { s with δ := s.δ.set i (some d) }) : dCut (dSet i a) r E s := ⟨fun s' => s' = { s with δ := s.δ.set i (some d) }, h _ rfl, fun s' e => by rw [e]; exact k⟩
theorem exIfY {c : DB} {a b : DT} {s : S} {d : D} (h : Tst c s true) (k : Exv a s d) : Exv (dIf c a b) s d := fun Q q => h _ (ifp rfl (k Q q))
theorem exIfN {c : DB} {a b : DT} {s : S} {d : D} (h : Tst c s false) (k : Exv b s d) : Exv (dIf c a b) s d := fun Q q => h _ (ifn Bool.false_ne_true (k Q q))
theorem tBl {a : DT} {s : S} {b : Bool} (h : Exv a s (.bool b)) : Tst (dBl a) s b := fun Q q => h _ q
theorem exIx {i j : Nat} {ds : List D} {d : D} {s : S} (hs : s.δ[i]? = some (some (.tuple ds))) (hd : ds[j]? = some d) : Exv (dOp ixD (dV i) (dC (.int (j : Nat)))) s d := fun Q q => by
  unfold dOp dV
  simp only [hs]
  exact ix_ok j rfl hd q
theorem cutThru {a b : DSt} {E : DEnds} {s : S} (h : a { E with nx := fun s' => b E s' } s) : dCut a b E s := ⟨fun s' => b E s', h, fun _ z => z⟩
theorem ifS_either {c : DB} {a b : DSt} {E : DEnds} {s : S} {k : Bool} (h : Tst c s k) (h1 : k = true → a E s) (h2 : k = false → b E s) : dIfS c a b E s := h _ (by
  cases k with
  | true => exact ifp rfl (h1 rfl)
  | false => exact ifn Bool.false_ne_true (h2 rfl))

/-! ### dealt, gathered -/
def nD (ns : List Nat) : List D := ns.map fun n : Nat => .int (n : Int)
theorem nD_set (ns : List Nat) (a v : Nat) : (nD ns).set a (.int (v : Int)) = nD (ns.set a v) := by
  unfold nD
  rw [List.map_set]
theorem nD_ints (ns : List Nat) : intsOf (nD ns) = some (ns.map fun n : Nat => (n : Int)) := by
  induction ns with
  | nil => rfl
  | cons n ns ih =>
    show (intsOf (nD ns)).map _ = _
    rw [ih]
    rfl
theorem nD_any (ns : List Nat) : ((ns.map fun n : Nat => (n : Int)).any fun n => n != 0) = ns.any fun n => decide (n ≠ 0) := by
  rw [List.any_map]
  congr 1
  funext n
  show ((n : Int) != 0) = decide (n ≠ 0)
  by_cases h : n = 0
  · subst h; rfl
  · rw [decide_eq_true h]
    exact bne_iff_ne.mpr (by omega)
theorem augAt_ok {i m : Nat} {f : DO} {j a : DT} {r : DSt} {E : DEnds} {s : S} {ds : List D} {n : Int} {x y z : D} (hs : s.δ[i]? = some (some (.list ds))) (hj : ∀ Q : D → S → Prop, Q (.int n) s → j s Q) (hx : atI ds n = some x) (ha : ∀ Q : D → S → Prop, Q y s → a s Q) (hf : ∀ Q : D → Prop, Q z → f x y Q) (hz : isC z = false) (hm : ixN ds.length n = some m)
    (k : r E { s with δ := s.δ.set i (some (.list (ds.set m z))) }) : dSeq (dAugAt i f j a) r E s := by
  refine ⟨⟨ds, hs⟩, hj _ ?_⟩
  simp only [hs]
  refine ⟨x, hx, ha _ (hf _ ⟨hz, ?_⟩)⟩
  simp only [hs, hm]
  exact k
theorem setAt_ok {i m : Nat} {j a : DT} {r : DSt} {E : DEnds} {s : S} {ds : List D} {n : Int} {z : D} (hs : s.δ[i]? = some (some (.list ds))) (ha : ∀ Q : D → S → Prop, Q z s → a s Q) (hj : ∀ Q : D → S → Prop, Q (.int n) s → j s Q) (hm : ixN ds.length n = some m)
    (k : r E { s with δ := s.δ.set i (some (.list (ds.set m z))) }) : dSeq (dSetAt i a j) r E s := by
  refine ha _ ⟨⟨ds, hs⟩, hj _ ?_⟩
  simp only [hs, hm]
  exact k

theorem nD_get {ns : List Nat} {a : Nat} (h : a < ns.length) : (nD ns)[a]? = some (.int ((ns[a] : Nat) : Int)) := by
  unfold nD
  rw [List.getElem?_map, List.getElem?_eq_getElem h]
  rfl
theorem nD_at {ns : List Nat} {a : Nat} (h : a < ns.length) : atI (nD ns) (a : Int) = some (.int ((ns[a] : Nat) : Int)) := atI_nat (nD_get h)
theorem nD_len (ns : List Nat) : (nD ns).length = ns.length := by unfold nD; rw [List.length_map]
theorem nat_lt_log {n b : Nat} (h : n < 2 ^ b) (hb : 0 < b) : ((n : Nat) : Int).natAbs.log2 < b := by
  rw [Int.natAbs_natCast]
  exact log_lt h hb
theorem rep0D (m : Nat) : (List.replicate m [PyData.int 0]).flatten = nD ((List.range m).map fun _ => 0) := by
  have e : ∀ m : Nat, (List.replicate m [PyData.int 0]).flatten = List.replicate m (PyData.int 0) := fun m => by
    induction m with
    | zero => rfl
    | succ m ih => rw [List.replicate_succ, List.flatten_cons, ih, List.replicate_succ]; rfl
  rw [e]
  unfold nD
  rw [List.map_map]
  show _ = List.map (fun _ => PyData.int 0) (List.range m)
  rw [List.map_const', List.length_range]
theorem rlen {α : Type} (m : Nat) (f : Nat → α) : ((List.range m).map f).length = m := by rw [List.length_map, List.length_range]
theorem nDr_at {m a : Nat} {f : Nat → Nat} {i : Int} (h : a < m) (hi : i = (a : Int)) : atI (nD ((List.range m).map f)) i = some (.int ((f a : Nat) : Int)) := by
  subst hi
  have hl : a < ((List.range m).map f).length := by rw [rlen]; exact h
  rw [nD_at hl, List.getElem_map, List.getElem_range]
theorem nDr_ix {m a : Nat} {f : Nat → Nat} {i : Int} (h : a < m) (hi : i = (a : Int)) : ixN (nD ((List.range m).map f)).length i = some a := ixN_of a hi (by rw [nD_len, rlen]; exact h)
theorem cmulw {i j : Int} (hi : i.natAbs < 2 ^ 14000) (hj : j.natAbs < 2 ^ 14000) : CMulW i j := by
  have h1 := log_lt hi (by decide)
  have h2 := log_lt hj (by decide)
  show i.natAbs.log2 + j.natAbs.log2 < 1000000
  omega
theorem two14 {n b : Nat} (h : n < 2 ^ b) (hb : b ≤ 14000) : ((n : Nat) : Int).natAbs < 2 ^ 14000 := by
  rw [Int.natAbs_natCast]
  exact Nat.lt_of_lt_of_le h (Nat.pow_le_pow_right (by decide) hb)
theorem half_le {μ m : Nat} (hm : 0 < m) : 2 * (μ / 2 ^ m) ≤ μ := by
  have h1 : μ / 2 ^ m ≤ μ / 2 ^ 1 := Nat.div_le_div_left (Nat.pow_le_pow_right (by decide) hm) (by decide)
  have : μ / 2 ^ 1 = μ / 2 := by simp
  omega
theorem div_s (μ a : Nat) : μ / 2 ^ (a + 1) = μ / 2 ^ a / 2 := by rw [Nat.pow_succ, Nat.div_div_eq_div_mul]
section
variable {P : Program} {w : World} {K : PySem.W.Frag} {mg : Str → Option Value} {base : Heap}
def deF : DF := fun ds Q => ∃ (k m : Nat), ds = [.int (k : Int), .int (m : Int)] ∧ 0 < m ∧ m ≤ 5000 ∧ k < 2 ^ 8000 ∧ Q (.list (nD (dlN m k)))
theorem ok_dealtP (T : Tx K mg) : Ok P w K mg base 1 "dealt" ["k", "many"] (spN K 2 .F deF) := by
  refine Ok.ofN (M := [2]) T.d_dealt sc_dealt rfl (by decide) fun f cdv A outer s H E hr => ⟨_, _, (pss_cons (ps_set (i := 2) sc_dealt.nd rfl (Or.inl rfl) (pe_op mulG (pe_lst (pa_cons (pe_int) (pa_nil))) (pv 1)))
 (pss_cons (ps_set (i := 3) sc_dealt.nd rfl (Or.inl rfl) (pe_int))
 (pss_cons (ps_while PassesOwn.never (pt_cmpR op_gt (pv 0) (pe_int) (nomark _))
 (pss_cons (ps_for PassesOwn.never rfl (pi_range1 (by rfl) T.z_range (pa_cons (pv 1) (pa_nil))) (pg_nameL (i := 4) sc_dealt.nd rfl rfl)
 (pss_cons (ps_augS (pv 2) (pv 4) (getL K rfl) (pe_op mulG (pe_op op_mod (pv 0) (pe_int)) (pv 3)) iop_add set_list)
 (pss_one (ps_aug (i := 0) sc_dealt.nd rfl (Or.inl rfl) (pe_int) iop_fdiv))))
 (pss_one (ps_aug (i := 3) sc_dealt.nd rfl (Or.inl rfl) (pe_int) iop_mul))))
 (pss_one (ps_ret (pv 2)))))),
 (simS_seq (simS_setM 2 (ym rfl) (nb rfl) (sim_op opA_mul (sim_lst (by decide) (simA_cons (sim_int _) (simA_nil))) (sim_var 1 (nm rfl))))
 (simS_seq (simS_set 3 (nm rfl) (np rfl) (sim_int _))
 (simS_cut (simS_while (simT_test (sim_op (opA_cmp _) (sim_var 0 (nm rfl)) (sim_int _)))
 (simS_cut (simS_for (simI_range1 (sim_var 1 (nm rfl))) (simG_name 4 (nm rfl) (np rfl))
 (simS_seq (simS_augAt 2 (ym rfl) opA_iadd (sim_var 4 (nm rfl)) (sim_op opA_mul (sim_op opA_mod (sim_var 0 (nm rfl)) (sim_int _)) (sim_var 3 (nm rfl))))
 (simS_aug 0 (nm rfl) (np rfl) opA_ifdiv (sim_int _))))
 (simS_aug 3 (nm rfl) (np rfl) opA_imul (sim_int _))))
 (simS_retM 2 (ym rfl) (nb rfl))))), ?_⟩
  rintro ds Q hl ⟨n, m, rfl, hm, hm5, hn, q⟩
  have hlen : ((1 : Nat)) * m ≤ sizeLine := by rw [sizeLine_eq]; omega
  refine seqSetMX (d := .list (nD ((List.range m).map fun _ => 0))) (fun Q q => ⟨by omega, by omega, by rw [Int.toNat_natCast]; exact hlen, by rw [Int.toNat_natCast, rep0D]; exact q⟩) rfl ?_
  refine seqSetX (d := .int 1) (fun Q q => q) (cutThru ?_)
  refine ⟨fun μ s => ∃ (F : Nat → Nat) (wt : Nat) (o4 : Option D), wt * μ ≤ n ∧ (∀ a, a < m → F a + wt * K81.E m a μ = K81.E m a n) ∧ s = { δ := [some (.int (μ : Int)), some (.int (m : Int)), some (.list (nD ((List.range m).map F))), some (.int (wt : Int)), o4], n := 0 }, ⟨n, fun _ => 0, 1, none, by omega, fun a _ => (by show 0 + 1 * _ = _; omega), rfl⟩, ?_⟩
  rintro μ s ⟨F, wt, o4, hwt, inv, rfl⟩
  by_cases h0 : 0 < μ
  · refine ifp (decide_eq_true (show (μ : Int) > 0 by omega)) (cutThru ?_)
    have hwn : wt ≤ n := Nat.le_trans (Nat.le_mul_of_pos_right wt h0) hwt
    refine ⟨⟨by omega, by omega⟩, forD_ind (fun a s => a ≤ m ∧ ∃ o4, s = { δ := [some (.int ((μ / 2 ^ a : Nat) : Int)), some (.int (m : Int)), some (.list (nD ((List.range m).map fun i => K81.mid F μ wt a i))), some (.int (wt : Int)), o4], n := 0 }) ?_ ?_ ?_⟩
    · refine ⟨Nat.zero_le _, o4, ?_⟩
      rw [show μ / 2 ^ 0 = μ by simp, show (fun i => K81.mid F μ wt 0 i) = F from funext fun i => by unfold K81.mid; rw [if_neg (Nat.not_lt_zero _)]]
    · rintro a d s N hd ⟨ha, o4, rfl⟩ hN
      obtain ⟨ha, rfl⟩ := rgD_get hd
      have ha : a < m := by simpa using ha
      have ey : ((μ / 2 ^ a : Nat) : Int) % 2 * (wt : Int) = ((μ / 2 ^ a % 2 * wt : Nat) : Int) := by push_cast; rfl
      refine augAt_ok (i := 2) (m := a) (n := 0 + (a : Int)) (x := .int ((K81.mid F μ wt a a : Nat) : Int)) (y := .int ((μ / 2 ^ a % 2 * wt : Nat) : Int)) (z := .int ((K81.mid F μ wt a a + μ / 2 ^ a % 2 * wt : Nat) : Int)) rfl (fun Q q => q) (nDr_at ha (by omega)) (fun Q q => ⟨by decide, cmulw ?_ (two14 (Nat.lt_of_le_of_lt hwn hn) (by decide)), by rw [ey]; exact q⟩) (fun Q q => by rw [Int.natCast_add] at q; exact q) rfl (nDr_ix ha (by omega)) ?_
      · refine Nat.lt_of_lt_of_le (show (((μ / 2 ^ a : Nat) : Int) % 2).natAbs < 2 ^ 1 by omega) (Nat.pow_le_pow_right (by decide) (by decide))
      rw [nD_set, K81.range_set]
      refine ⟨⟨by decide, by decide⟩, hN _ ⟨by omega, some (.int (0 + (a : Int))), ?_⟩⟩
      have e1 : ((μ / 2 ^ a : Nat) : Int) / 2 = ((μ / 2 ^ (a + 1) : Nat) : Int) := by rw [div_s]; omega
      have e2 : (fun i => if i = a then K81.mid F μ wt a a + μ / 2 ^ a % 2 * wt else K81.mid F μ wt a i) = fun i => K81.mid F μ wt (a + 1) i := funext fun i => by
        unfold K81.mid
        by_cases h1 : i = a
        · subst h1
          rw [if_pos rfl, if_neg (Nat.lt_irrefl _), if_pos (Nat.lt_succ_self _)]
        · rw [if_neg h1]
          by_cases h2 : i < a
          · rw [if_pos h2, if_pos (by omega)]
          · rw [if_neg h2, if_neg (by omega)]
      rw [← e1, ← e2]
      rfl
    · rintro s ⟨_, o4, rfl⟩
      have hlm : (rgD 0 ((m : Nat) : Int).toNat).length = m := by rw [Int.toNat_natCast]; unfold rgD; rw [rlen]
      rw [hlm]
      refine ⟨.inr ⟨by decide, by decide⟩, μ / 2 ^ m, Nat.div_lt_self h0 (Nat.one_lt_two_pow (by omega)), fun i => K81.mid F μ wt m i, wt * 2, o4, ?_, fun a ha => ?_, ?_⟩
      · rw [Nat.mul_assoc]
        exact Nat.le_trans (Nat.mul_le_mul_left wt (half_le hm)) hwt
      · have h1 := inv a ha
        rw [K81.E_round ha, Nat.mul_add, ← Nat.mul_assoc, Nat.mul_comm wt (μ / 2 ^ a % 2)] at h1
        show K81.mid F μ wt m a + _ = _
        unfold K81.mid
        rw [if_pos ha]
        omega
      · rw [Int.natCast_mul]
        rfl
  · have hd : ¬ decide ((0 : Int) < (μ : Int)) = true := by rw [decide_eq_false (by omega)]; exact Bool.false_ne_true
    refine ifn hd ?_
    have h0 : μ = 0 := by omega
    subst h0
    have : (List.range m).map F = dlN m n := by
      unfold dlN
      refine List.map_congr_left fun a ha => ?_
      have := inv a (List.mem_range.mp ha)
      rw [K81.E_nil] at this
      omega
    rw [← this] at q
    exact q
def gaD : DF := fun ds Q => ∃ (k m : Nat), ds = [.list (nD (dlN m k))] ∧ (m = 0 → k = 0) ∧ m ≤ 5000 ∧ k < 2 ^ 8000 ∧ Q (.int (k : Int))
theorem dlN_any {m μ : Nat} (hm : 0 < m) : (dlN m μ).any (fun n => decide (n ≠ 0)) = decide (μ ≠ 0) := by
  by_cases h : μ = 0
  · subst h
    rw [decide_eq_false (by simp), List.any_eq_false]
    intro x hx
    unfold dlN at hx
    obtain ⟨a, _, rfl⟩ := List.mem_map.mp hx
    rw [K81.E_nil]
    simp
  · rw [decide_eq_true h, List.any_eq_true]
    refine Classical.byContradiction fun hn => h (E_zero hm μ fun a ha => ?_)
    refine Classical.byContradiction fun hne => hn ⟨K81.E m a μ, ?_, decide_eq_true hne⟩
    unfold dlN
    exact List.mem_map.mpr ⟨a, List.mem_range.mpr ha, rfl⟩
theorem ok_gatheredP (T : Tx K mg) : Ok P w K mg base 1 "gathered" ["numbers"] (spN K 1 .E gaD) := by
  refine Ok.ofN (M := [1]) T.d_gathered sc_gathered rfl (by decide) fun f cdv A outer s H E hr => ⟨_, _, (pss_cons (ps_set (i := 1) sc_gathered.nd rfl (Or.inl rfl) (pe_callTy (listQ K rfl) (by rfl) T.z_list boot_list (pa_cons (pv 0) (pa_nil))))
 (pss_cons (ps_set (i := 2) sc_gathered.nd rfl (Or.inl rfl) (pe_int))
 (pss_cons (ps_set (i := 3) sc_gathered.nd rfl (Or.inl rfl) (pe_int))
 (pss_cons (ps_while PassesOwn.never (pt_val (pe_callB (cr_anyI K rfl rfl) (by rfl) T.z_any boot_any (pa_cons (pv 1) pa_nil)))
 (pss_one (ps_for PassesOwn.never rfl (pi_range1 (by rfl) T.z_range (pa_cons (pe_callB (lenG K rfl) (by rfl) T.z_len boot_len (pa_cons (pv 1) pa_nil)) (pa_nil))) (pg_nameL (i := 4) sc_gathered.nd rfl rfl)
 (pss_cons (ps_set (i := 2) sc_gathered.nd rfl (Or.inl rfl) (pe_op (addG K rfl) (pv 2) (pe_op mulG (pe_op op_mod (pe_ix (ixG K rfl (u65 hr.toRoom)) (pv 1) (pv 4) (fun _ _ => rfl)) (pe_int)) (pv 3))))
 (pss_cons (ps_asg (pe_op op_fdivW (pe_ix (ixG K rfl (u65 hr.toRoom)) (pv 1) (pv 4) (fun _ _ => rfl)) (pe_int)) (pg_sub (pv 1) (pv 4) set_list))
 (pss_one (ps_set (i := 3) sc_gathered.nd rfl (Or.inl rfl) (pe_op mulG (pv 3) (pe_int)))))))))
 (pss_one (ps_ret (pv 2))))))),
 (simS_seq (simS_setM 1 (ym rfl) (nb rfl) (sim_cb caA_list (simA_cons (sim_var 0 (nm rfl)) (simA_nil))))
 (simS_seq (simS_set 2 (nm rfl) (np rfl) (sim_int _))
 (simS_seq (simS_set 3 (nm rfl) (np rfl) (sim_int _))
 (simS_cut (simS_while (simT_B (sim_cbM 1 (ym rfl) caA_anyI))
 (simS_for (simI_range1 (sim_cbM 1 (ym rfl) caA_len)) (simG_name 4 (nm rfl) (np rfl))
 (simS_seq (simS_set 2 (nm rfl) (np rfl) (sim_op opA_add (sim_var 2 (nm rfl)) (sim_op opA_mul (sim_op opA_mod (opA_ixM 1 (ym rfl) (sim_var 4 (nm rfl))) (sim_int _)) (sim_var 3 (nm rfl)))))
 (simS_seq (simS_setAt 1 (ym rfl) (sim_op opA_fdiv (opA_ixM 1 (ym rfl) (sim_var 4 (nm rfl))) (sim_int _)) (sim_var 4 (nm rfl)))
 (simS_set 3 (nm rfl) (np rfl) (sim_op opA_mul (sim_var 3 (nm rfl)) (sim_int _)))))))
 (simS_ret (Sim.toE (sim_var 2 (nm rfl)))))))), ?_⟩
  rintro ds Q hl ⟨n, m, rfl, hm0, hm5, hn, q⟩
  refine seqSetMX (d := .list (nD (dlN m n))) (fun Q q => q) rfl (seqSetX (d := .int 0) (fun Q q => q) (seqSetX (d := .int 1) (fun Q q => q) (cutThru ?_)))
  refine ⟨fun μ s => ∃ (fo wt : Nat) (o4 : Option D), fo + wt * μ = n ∧ s = { δ := [some (.list (nD (dlN m n))), some (.list (nD (dlN m μ))), some (.int (fo : Int)), some (.int (wt : Int)), o4], n := 0 }, ⟨n, 0, 1, none, by omega, rfl⟩, ?_⟩
  rintro μ s ⟨fo, wt, o4, hfo, rfl⟩
  refine ⟨_, nD_ints _, ?_⟩
  rw [nD_any]
  by_cases h0 : 0 < μ ∧ 0 < m
  · obtain ⟨h0, hm⟩ := h0
    refine ifp (by rw [dlN_any hm]; exact decide_eq_true (by omega)) ?_
    have hwn : wt ≤ n := Nat.le_trans (Nat.le_mul_of_pos_right wt h0) (by omega)
    have hlm : (nD (dlN m μ)).length = m := by rw [nD_len, dlN_len]
    refine (show (_ ∧ _) ∧ _ from ⟨⟨by rw [hlm]; omega, by rw [hlm]; omega⟩, ?_⟩)
    rw [hlm]
    refine forD_ind (fun a s => a ≤ m ∧ ∃ (fo' wt' : Nat) (o4 : Option D), fo' + wt' * (μ / 2 ^ a) = n ∧ wt' ≤ n * 2 ^ a ∧ s = { δ := [some (.list (nD (dlN m n))), some (.list (nD ((List.range m).map fun i => if i < a then K81.E m i (μ / 2 ^ m) else K81.E m i μ))), some (.int (fo' : Int)), some (.int (wt' : Int)), o4], n := 0 }) ?_ ?_ ?_
    · refine ⟨Nat.zero_le _, fo, wt, o4, by simpa using hfo, by simpa using hwn, ?_⟩
      rfl
    · rintro a d s N hd ⟨ha, fo', wt', o4, hfo', hwt', rfl⟩ hN
      obtain ⟨ha, rfl⟩ := rgD_get hd
      have ha : a < m := by simpa using ha
      have hb : K81.E m a μ % 2 = μ / 2 ^ a % 2 := by rw [K81.E_round ha]; omega
      have hh : K81.E m a μ / 2 = K81.E m a (μ / 2 ^ m) := by rw [K81.E_round ha]; omega
      obtain ⟨L, hL⟩ : ∃ L : Nat → Nat, L = fun i => if i < a then K81.E m i (μ / 2 ^ m) else K81.E m i μ := ⟨_, rfl⟩
      have hLa : L a = K81.E m a μ := by rw [hL]; exact if_neg (Nat.lt_irrefl a)
      rw [← hL]
      have hw14 : wt' < 2 ^ 13000 := by
        refine Nat.lt_of_le_of_lt hwt' (Nat.lt_of_lt_of_le (Nat.mul_lt_mul_of_pos_right hn (Nat.pow_pos (by decide))) ?_)
        rw [← Nat.pow_add]
        exact Nat.pow_le_pow_right (by decide) (by omega)
      have ev : (fo' : Int) + ((L a : Nat) : Int) % 2 * (wt' : Int) = ((fo' + μ / 2 ^ a % 2 * wt' : Nat) : Int) := by
        rw [hLa, ← hb]
        push_cast
        rfl
      refine seqSetX (d := .int ((fo' + μ / 2 ^ a % 2 * wt' : Nat) : Int)) (fun Q q => ⟨⟨_, rfl⟩, ⟨_, nDr_at (i := 0 + (a : Int)) ha (by omega), ⟨by decide, cmulw (Nat.lt_of_lt_of_le (show (((L a : Nat) : Int) % 2).natAbs < 2 ^ 1 by omega) (Nat.pow_le_pow_right (by decide) (by decide))) (two14 hw14 (by decide)), by show Q (.int ((fo' : Int) + ((L a : Nat) : Int) % 2 * (wt' : Int))) _; rw [ev]; exact q⟩⟩⟩) ?_
      refine setAt_ok (i := 1) (m := a) (n := 0 + (a : Int)) (z := .int ((K81.E m a (μ / 2 ^ m) : Nat) : Int)) rfl (fun Q q => ⟨⟨_, rfl⟩, ⟨_, nDr_at (i := 0 + (a : Int)) ha (by omega), ⟨⟨by decide, by decide⟩, by show Q (.int (((L a : Nat) : Int) / 2)) _; rw [hLa, show ((K81.E m a μ : Nat) : Int) / 2 = ((K81.E m a (μ / 2 ^ m) : Nat) : Int) by rw [← hh]; omega]; exact q⟩⟩⟩) (fun Q q => q) (nDr_ix ha (by omega)) ?_
      rw [nD_set, K81.range_set]
      refine ⟨cmulw (two14 hw14 (by decide)) (by decide +kernel), hN _ ⟨by omega, fo' + μ / 2 ^ a % 2 * wt', wt' * 2, some (.int (0 + (a : Int))), ?_, ?_, ?_⟩⟩
      · rw [div_s, ← hfo', Nat.mul_assoc, Nat.mul_comm (μ / 2 ^ a % 2) wt', Nat.add_assoc, ← Nat.mul_add]
        congr 2
        omega
      · rw [Nat.pow_succ, ← Nat.mul_assoc]
        exact Nat.mul_le_mul_right 2 hwt'
      · have e2 : (fun i => if i = a then K81.E m a (μ / 2 ^ m) else L i) = fun i => if i < a + 1 then K81.E m i (μ / 2 ^ m) else K81.E m i μ := funext fun i => by
          rw [hL]
          by_cases h1 : i = a
          · subst h1
            rw [if_pos rfl, if_pos (Nat.lt_succ_self _)]
          · rw [if_neg h1]
            by_cases h2 : i < a
            · rw [if_pos (by omega)]
              exact if_pos h2
            · rw [if_neg (by omega)]
              exact if_neg h2
        rw [← e2, Int.natCast_mul]
        rfl
    · rintro s ⟨_, fo', wt', o4, hfo', _, rfl⟩
      have hlm : (rgD 0 ((m : Nat) : Int).toNat).length = m := by rw [Int.toNat_natCast]; unfold rgD; rw [rlen]
      rw [hlm] at hfo' ⊢
      refine ⟨μ / 2 ^ m, Nat.div_lt_self h0 (Nat.one_lt_two_pow (by omega)), fo', wt', o4, hfo', ?_⟩
      have : ((List.range m).map fun i => if i < m then K81.E m i (μ / 2 ^ m) else K81.E m i μ) = dlN m (μ / 2 ^ m) := by
        unfold dlN
        exact List.map_congr_left fun a ha => if_pos (List.mem_range.mp ha)
      rw [this]
  · have hfin : fo = n := by
      by_cases hm : m = 0
      · have := hm0 hm
        omega
      · have hμ : μ = 0 := by omega
        rw [hμ] at hfo
        omega
    refine ifn ?_ ?_
    · by_cases hm : m = 0
      · subst hm
        simp [dlN]
      · rw [dlN_any (by omega), decide_eq_false (by omega)]
        exact Bool.false_ne_true
    · rw [hfin]
      exact q
end

/-! ### is_number, is_inner_row, whole_at, whole_number -/
def isNumB : D → Bool
  | .int _ => true
  | _ => false
def numF : DF := fun ds Q => ∃ d, ds = [d] ∧ Q (.bool (isNumB d))
section
variable {P : Program} {w : World} {K : PySem.W.Frag} {mg : Str → Option Value} {base : Heap}
theorem ok_is_number (T : Tx K mg) : Ok P w K mg base 1 "is_number" ["thing"] (spN K 1 .E numF) := by
  refine Ok.ofN (M := []) T.d_is_number sc_is_number rfl (by decide) fun f cdv A outer s H E hr => ⟨_, _, (pss_one (ps_ret (pe_and (pe_callB (isiK K rfl) (by rfl) T.z_isinstance boot_isi (pa_cons (pv 0) (pa_cons (pe_bltn (v := .ty "int") (by rfl) T.z_int boot_int rfl) pa_nil))) (pe_one (pe_not (pe_callB (isiK K rfl) (by rfl) T.z_isinstance boot_isi (pa_cons (pv 0) (pa_cons (pe_bltn (v := .ty "bool") (by rfl) T.z_bool boot_bool rfl) pa_nil)))))))),
 (simS_ret (Sim.toE (sim_andV (sim_isi .int (sim_var 0 (nm rfl))) (sim_notV (sim_isi .bool (sim_var 0 (nm rfl))))))), ?_⟩
  rintro ds Q hl ⟨d, rfl, q⟩
  cases d <;> exact q
/-- a pair of numbers -/
def nPair : D → Option (Int × Int)
  | .tuple [.int a, .int b] => some (a, b)
  | _ => none
def pairsB (s : Int) : Int → List D → Bool
  | _, [] => true
  | l, d :: ds => match nPair d with
    | some (p, w) => (decide (l < p) && decide (p < s) && !decide (w = 0)) && pairsB s p ds
    | none => false
def isRowB : D → Bool
  | .tuple [.int s, .tuple ps] => pairsB s (-1) ps && decide (0 ≤ s)
  | _ => false
def rowBF : DF := fun ds Q => ∃ d, ds = [d] ∧ Q (.bool (isRowB d))
def twoB (b : D → D → Bool) : D → Bool
  | .tuple [a, c] => b a c
  | _ => true
theorem tst_two {d : D} {i : Nat} {s : S} {t : DB} {b : D → D → Bool} (hs : s.δ[i]? = some (some d)) (h : ∀ a c, d = .tuple [a, c] → Tst t s (b a c)) :
    Tst (dOr (dNot (dBl (dIsi .tuple (dV i)))) (dOr (dBl (dOp neD (dCB lenD (dCons (dV i) dNil)) (dC (.int 2)))) t)) s (twoB b d) := by
  have ev : Exv (dV i) s d := fun Q q => by unfold dV; rw [hs]; exact q
  have i1 : Tst (dBl (dIsi .tuple (dV i))) s (isB .tuple d) := fun Q q => ev _ q
  cases d
  case tuple ds =>
    have i2 : ∀ n : Int, n = (ds.length : Int) → Tst (dBl (dOp neD (dCB lenD (dCons (dV i) dNil)) (dC (.int 2)))) s (!decide (n = 2)) := fun n e Q q => ev _ (by subst e; exact q)
    match ds, h, i2, i1 with
    | [], h, i2, i1 => exact tst_or (tst_not i1) fun _ => tst_or (x := true) (y := true) (i2 0 rfl) fun z => nomatch z
    | [a], h, i2, i1 => exact tst_or (tst_not i1) fun _ => tst_or (x := true) (y := true) (i2 1 rfl) fun z => nomatch z
    | [a, c], h, i2, i1 => exact tst_or (x := false) (tst_not i1) fun _ => tst_or (x := false) (i2 2 rfl) fun _ => h a c rfl
    | a :: c :: e :: r, h, i2, i1 =>
      have : (!decide (((a :: c :: e :: r).length : Int) = 2)) = true := by
        rw [decide_eq_false]
        · rfl
        · simp only [List.length_cons]
          omega
      exact tst_or (x := false) (tst_not i1) fun _ => tst_or (x := true) (y := true) (this ▸ i2 _ rfl) fun z => nomatch z
  all_goals exact tst_or (x := true) (y := true) (tst_not i1) fun z => nomatch z
def rowHd (a c : D) : Bool := !isNumB a || !isB .tuple c
theorem ok_is_inner_row (T : Tx K mg) (O_is_number : Ok P w K mg base 1 "is_number" ["thing"] (spN K 1 .E numF)) : Ok P w K mg base 2 "is_inner_row" ["thing"] (spN K 1 .E rowBF) := by
  refine Ok.ofN (M := []) T.d_is_inner_row sc_is_inner_row rfl (by decide) fun f cdv A outer s H E hr => ⟨_, _, (pss_cons (ps_if (PW.pt (pw_or (pt_not (pt_val (pe_callB (isiK K rfl) (by rfl) T.z_isinstance boot_isi (pa_cons (pv 0) (pa_cons (pe_bltn (v := .ty "tuple") (by rfl) T.z_tuple boot_tuple rfl) pa_nil))))) (pw_or (pt_cmpR (neG K rfl hr.units) (pe_callB (lenG K rfl) (by rfl) T.z_len boot_len (pa_cons (pv 0) (pa_nil))) (pe_int) (nomark _)) (pw_or (pt_not (pt_val (pe_fn O_is_number (hr.mono (by omega)) (by rfl) (pa_cons (pe_ix (ixG K rfl (u65 hr.toRoom)) (pv 0) (pe_int) (fun _ _ => rfl)) (pa_nil))))) (pw_or1 (pt_not (pt_val (pe_callB (isiK K rfl) (by rfl) T.z_isinstance boot_isi (pa_cons (pe_ix (ixG K rfl (u65 hr.toRoom)) (pv 0) (pe_int) (fun _ _ => rfl)) (pa_cons (pe_bltn (v := .ty "tuple") (by rfl) T.z_tuple boot_tuple rfl) pa_nil))))))))))
 (pss_one (ps_ret (pe_bl)))
 (pss_nil))
 (pss_cons (ps_set (i := 1) sc_is_inner_row.nd rfl (Or.inl rfl) (pe_un un_neg (pe_int)))
 (pss_cons (ps_for PassesOwn.never rfl (piT K rfl (pe_ix (ixG K rfl (u65 hr.toRoom)) (pv 0) (pe_int) (fun _ _ => rfl))) (pg_nameL (i := 2) sc_is_inner_row.nd rfl rfl)
 (pss_cons (ps_if (PW.pt (pw_or (pt_not (pt_val (pe_callB (isiK K rfl) (by rfl) T.z_isinstance boot_isi (pa_cons (pv 2) (pa_cons (pe_bltn (v := .ty "tuple") (by rfl) T.z_tuple boot_tuple rfl) pa_nil))))) (pw_or (pt_cmpR (neG K rfl hr.units) (pe_callB (lenG K rfl) (by rfl) T.z_len boot_len (pa_cons (pv 2) (pa_nil))) (pe_int) (nomark _)) (pw_or (pt_not (pt_val (pe_fn O_is_number (hr.mono (by omega)) (by rfl) (pa_cons (pe_ix (ixG K rfl (u65 hr.toRoom)) (pv 2) (pe_int) (fun _ _ => rfl)) (pa_nil))))) (pw_or1 (pt_not (pt_val (pe_fn O_is_number (hr.mono (by omega)) (by rfl) (pa_cons (pe_ix (ixG K rfl (u65 hr.toRoom)) (pv 2) (pe_int) (fun _ _ => rfl)) (pa_nil))))))))))
 (pss_one (ps_ret (pe_bl)))
 (pss_nil))
 (pss_cons (ps_if (PW.pt (pw_or (pt_not (pt_chain op_lt op_lt (pv 1) (pe_ix (ixG K rfl (u65 hr.toRoom)) (pv 2) (pe_int) (fun _ _ => rfl)) (pe_ix (ixG K rfl (u65 hr.toRoom)) (pv 0) (pe_int) (fun _ _ => rfl)))) (pw_or1 (pt_cmpR (eqG K rfl hr.units) (pe_ix (ixG K rfl (u65 hr.toRoom)) (pv 2) (pe_int) (fun _ _ => rfl)) (pe_int) (nomark _)))))
 (pss_one (ps_ret (pe_bl)))
 (pss_nil))
 (pss_one (ps_set (i := 1) sc_is_inner_row.nd rfl (Or.inl rfl) (pe_ix (ixG K rfl (u65 hr.toRoom)) (pv 2) (pe_int) (fun _ _ => rfl)))))))
 (pss_one (ps_ret (pe_cmpR op_ge (pe_ix (ixG K rfl (u65 hr.toRoom)) (pv 0) (pe_int) (fun _ _ => rfl)) (pe_int) (nomark _))))))),
 (simS_seq (simS_if (simT_or (simT_not (simT_B (sim_isi .tuple (sim_var 0 (nm rfl))))) (simT_or (simT_test (sim_op opA_ne (sim_cb caA_len (simA_cons (sim_var 0 (nm rfl)) (simA_nil))) (sim_int _))) (simT_or (simT_not (simT_B (sim_call (simA_cons (opA_ix (sim_var 0 (nm rfl)) (sim_int _)) (simA_nil))))) (simT_not (simT_B (sim_isi .tuple (opA_ix (sim_var 0 (nm rfl)) (sim_int _))))))))
 (simS_ret (Sim.toE (sim_bl _)))
 (simS_next))
 (simS_seq (simS_set 1 (nm rfl) (np rfl) (sim_neg (sim_int _)))
 (simS_cut (simS_for (simI_tup (opA_ix (sim_var 0 (nm rfl)) (sim_int _))) (simG_name 2 (nm rfl) (np rfl))
 (simS_seq (simS_if (simT_or (simT_not (simT_B (sim_isi .tuple (sim_var 2 (nm rfl))))) (simT_or (simT_test (sim_op opA_ne (sim_cb caA_len (simA_cons (sim_var 2 (nm rfl)) (simA_nil))) (sim_int _))) (simT_or (simT_not (simT_B (sim_call (simA_cons (opA_ix (sim_var 2 (nm rfl)) (sim_int _)) (simA_nil))))) (simT_not (simT_B (sim_call (simA_cons (opA_ix (sim_var 2 (nm rfl)) (sim_int _)) (simA_nil))))))))
 (simS_ret (Sim.toE (sim_bl _)))
 (simS_next))
 (simS_seq (simS_if (simT_or (simT_not (simT_test (sim_chain (opA_cmp _) (opA_cmp _) (sim_var 1 (nm rfl)) (opA_ix (sim_var 2 (nm rfl)) (sim_int _)) (opA_ix (sim_var 0 (nm rfl)) (sim_int _))))) (simT_test (sim_op opA_eq (opA_ix (sim_var 2 (nm rfl)) (sim_int _)) (sim_int _))))
 (simS_ret (Sim.toE (sim_bl _)))
 (simS_next))
 (simS_set 1 (nm rfl) (np rfl) (opA_ix (sim_var 2 (nm rfl)) (sim_int _))))))
 (simS_ret (Sim.toE (sim_op (opA_cmp _) (opA_ix (sim_var 0 (nm rfl)) (sim_int _)) (sim_int _))))))), ?_⟩
  rintro ds Q hl ⟨d, rfl, q⟩
  refine seqIf (tst_two (b := rowHd) rfl fun a c e => tst_or (tst_not fun Q q => ?_) fun _ => tst_not fun Q q => ?_) (fun h => ?_) (fun h => ?_)
  · subst e
    exact ⟨a, rfl, ⟨a, rfl, q⟩⟩
  · subst e
    exact ⟨c, rfl, q⟩
  · have : isRowB d = false := by
      unfold isRowB
      split
      · rename_i s ps
        exact absurd h Bool.false_ne_true
      · rfl
    rw [this] at q
    exact q
  · unfold twoB at h
    split at h
    · rename_i a c
      cases a <;> cases c <;> first | exact Bool.noConfusion (show true = false from h) | skip
      rename_i z ps
      refine seqSetX (d := .int (-1)) (fun Q q => q) (cutThru ?_)
      refine ⟨.tuple ps, rfl, ?_⟩
      refine forD_ind (fun a s => ∃ (l : Int) (o2 : Option D), (pairsB z (-1) ps = pairsB z l (ps.drop a)) ∧ s = { δ := [some (.tuple [.int z, .tuple ps]), some (.int l), o2], n := 0 }) ⟨-1, none, rfl, rfl⟩ ?_ ?_
      · rintro a d s N hd ⟨l, o2, hp, rfl⟩ hN
        have hdr : ps.drop a = d :: ps.drop (a + 1) := by
          obtain ⟨h1, h2⟩ := List.getElem?_eq_some_iff.mp hd
          rw [List.drop_eq_getElem_cons h1, h2]
        have out : pairsB z l (ps.drop a) = false → Q (.bool false) := fun e => by
          have : isRowB (.tuple [.int z, .tuple ps]) = false := by
            show (pairsB z (-1) ps && decide (0 ≤ z)) = false
            rw [hp, e]
            rfl
          rw [this] at q
          exact q
        rw [hdr] at out hp
        refine seqIf (tst_two (b := fun a c => !isNumB a || !isNumB c) rfl fun a c e => tst_or (tst_not fun Q q => ?_) fun _ => tst_not fun Q q => ?_) (fun h => ?_) (fun h => ?_)
        · subst e
          exact ⟨a, rfl, ⟨a, rfl, q⟩⟩
        · subst e
          exact ⟨c, rfl, ⟨c, rfl, q⟩⟩
        · refine out ?_
          have : nPair d = none := by
            unfold nPair
            split
            · exact absurd h Bool.false_ne_true
            · rfl
          rw [pairsB, this]
        · unfold twoB at h
          split at h
          · rename_i a c
            cases a <;> cases c <;> first | exact Bool.noConfusion (show true = false from h) | skip
            rename_i p w
            refine seqIf (b := !(decide (l < p) && decide (p < z)) || decide (w = 0)) (tst_or (tst_not (tst_ex (exv_chain (fun Q q => q) (fun Q q => ⟨.int p, rfl, q⟩) (fun Q q => ⟨.int z, rfl, q⟩)))) fun _ => fun Q q => ⟨.int w, rfl, q⟩) (fun h => ?_) (fun h => ?_)
            · refine out ?_
              show ((decide (l < p) && decide (p < z) && !decide (w = 0)) && pairsB z p _) = false
              cases h1 : decide (l < p) && decide (p < z) <;> cases h2 : decide (w = 0) <;> rw [h1, h2] at h <;> first | rfl | exact Bool.noConfusion (show false = true from h)
            · refine ⟨.int p, rfl, hN _ ⟨p, some (.tuple [.int p, .int w]), ?_, rfl⟩⟩
              rw [hp]
              show ((decide (l < p) && decide (p < z) && !decide (w = 0)) && pairsB z p _) = pairsB z p _
              cases h1 : decide (l < p) && decide (p < z) <;> cases h2 : decide (w = 0) <;> rw [h1, h2] at h <;> first | exact Bool.noConfusion (show true = false from h) | exact Bool.true_and _
          · exact absurd h.symm Bool.false_ne_true
      · rintro s ⟨l, o2, hp, rfl⟩
        rw [List.drop_length] at hp
        refine ⟨.int z, rfl, ?_⟩
        have : isRowB (.tuple [.int z, .tuple ps]) = decide (0 ≤ z) := by
          show (pairsB z (-1) ps && decide (0 ≤ z)) = _
          rw [hp]
          rfl
        rw [this] at q
        exact q
    · exact absurd h.symm Bool.false_ne_true
def waF : DF := fun ds Q => ∃ n : Nat, ds = [.int (n : Int)] ∧ n < 2 ^ 8000 ∧ Q (.int (wA n))
theorem ok_whole_at (T : Tx K mg) : Ok P w K mg base 1 "whole_at" ["number"] (spN K 1 .F waF) := by
  refine Ok.ofN (M := []) T.d_whole_at sc_whole_at rfl (by decide) fun f cdv A outer s H E hr => ⟨_, _, (pss_one (ps_ret (pe_ifExp (pt_cmpR (eqG K rfl hr.units) (pe_op op_mod (pv 0) (pe_int)) (pe_int) (nomark _)) (pe_op op_fdivW (pe_op (addG K rfl) (pv 0) (pe_int)) (pe_int)) (pe_op op_sub (pe_int) (pe_op op_fdivW (pv 0) (pe_int)))))),
 (simS_ret (sim_if (simT_test (sim_op opA_eq (sim_op opA_mod (sim_var 0 (nm rfl)) (sim_int _)) (sim_int _))) (sim_op opA_fdiv (sim_op opA_add (sim_var 0 (nm rfl)) (sim_int _)) (sim_int _)) (sim_op opA_sub (sim_int _) (sim_op opA_fdiv (sim_var 0 (nm rfl)) (sim_int _))))), ?_⟩
  rintro ds Q hl ⟨n, rfl, hn, q⟩
  unfold wA at q
  have e1 : (((n + 1) / 2 : Nat) : Int) = ((n : Int) + 1) / 2 := by omega
  have e2 : ((n / 2 : Nat) : Int) = (n : Int) / 2 := by omega
  refine exv_if (k := decide (n % 2 = 1)) (d := .int (if n % 2 = 1 then (((n + 1) / 2 : Nat) : Int) else 0 - ((n / 2 : Nat) : Int))) (fun Q q => ⟨by decide, ?_⟩) (fun h Q q => ⟨⟨by decide, by decide⟩, ?_⟩) (fun h Q q => ⟨⟨by decide, by decide⟩, ?_⟩) _ q
  · have : decide (n % 2 = 1) = decide ((n : Int) % 2 = 1) := by
      by_cases h : n % 2 = 1
      · rw [decide_eq_true h, decide_eq_true (by omega)]
      · rw [decide_eq_false h, decide_eq_false (by omega)]
    rw [this] at q
    exact q
  · rw [if_pos (of_decide_eq_true h), e1] at q
    exact q
  · rw [if_neg (of_decide_eq_false h), e2] at q
    exact q
def wnF : DF := fun ds Q => ∃ i : Int, ds = [.int i] ∧ i.natAbs < 2 ^ 8000 ∧ Q (.int ((wN i : Nat) : Int))
theorem ok_whole_number (T : Tx K mg) : Ok P w K mg base 1 "whole_number" ["whole"] (spN K 1 .F wnF) := by
  refine Ok.ofN (M := []) T.d_whole_number sc_whole_number rfl (by decide) fun f cdv A outer s H E hr => ⟨_, _, (pss_one (ps_ret (pe_ifExp (pt_cmpR op_gt (pv 0) (pe_int) (nomark _)) (pe_op op_sub (pe_op mulG (pe_int) (pv 0)) (pe_int)) (pe_op mulG (pe_un un_neg (pe_int)) (pv 0))))),
 (simS_ret (sim_if (simT_test (sim_op (opA_cmp _) (sim_var 0 (nm rfl)) (sim_int _))) (sim_op opA_sub (sim_op opA_mul (sim_int _) (sim_var 0 (nm rfl))) (sim_int _)) (sim_op opA_mul (sim_neg (sim_int _)) (sim_var 0 (nm rfl))))), ?_⟩
  rintro ds Q hl ⟨i, rfl, hn, q⟩
  have hi : i.natAbs < 2 ^ 14000 := Nat.lt_of_lt_of_le hn (Nat.pow_le_pow_right (by decide) (by decide))
  refine exv_if (k := decide (i > 0)) (d := .int ((wN i : Nat) : Int)) (fun Q q => q) (fun h Q q => ⟨cmulw (by decide +kernel) hi, ?_⟩) (fun h Q q => ⟨cmulw (by decide +kernel) hi, ?_⟩) _ q
  · have h := of_decide_eq_true h
    have : ((wN i : Nat) : Int) = 2 * i - 1 := by unfold wN; rw [if_pos h]; omega
    rw [this] at q
    exact q
  · have h := of_decide_eq_false h
    have : ((wN i : Nat) : Int) = -2 * i := by unfold wN; rw [if_neg h]; omega
    rw [this] at q
    exact q
end

/-! ### rows by numbers: the plain part -/

def ipT (q : Int × Int) : D := .tuple [.int q.1, .int q.2]
/-- the places of a list of wholes that are not 0 -/
def plP : Nat → List Int → List (Int × Int)
  | _, [] => []
  | a, w :: r => if w = 0 then plP (a + 1) r else ((a : Int), w) :: plP (a + 1) r
def rowO (ws : List Int) : D := .tuple [.int (ws.length : Int), .tuple ((plP 0 ws).map ipT)]
def RowNum (ws : List Int) (n : Nat) : Prop := (ws = [] ∧ n = 0) ∨ ∃ q, n = 2 ^ (ws.length - 1) * (2 * q + 1) ∧ 0 < ws.length ∧ ws.map wN = dlN ws.length q
theorem rowNum_ex (n : Nat) : ∃ ws, RowNum ws n := by
  by_cases h : n = 0
  · exact ⟨[], .inl ⟨rfl, h⟩⟩
  · obtain ⟨s, q, e⟩ := odd_part n (by omega)
    have hl : ((dlN (s + 1) q).map wA).length = s + 1 := by rw [List.length_map, dlN_len]
    refine ⟨(dlN (s + 1) q).map wA, .inr ⟨q, by rw [hl]; exact e, by omega, ?_⟩⟩
    rw [hl, List.map_map, show wN ∘ wA = id from funext wN_wA, List.map_id]
theorem map_wN_inj {a b : List Int} (h : a.map wN = b.map wN) : a = b := by
  have e : ∀ l : List Int, (l.map wN).map wA = l := fun l => by rw [List.map_map, show wA ∘ wN = id from funext wA_wN, List.map_id]
  rw [← e a, h, e b]
theorem rowNum_uniq {ws ws' : List Int} {n : Nat} (h : RowNum ws n) (h' : RowNum ws' n) : ws = ws' := by
  have pos : ∀ s q : Nat, 2 ^ s * (2 * q + 1) ≠ 0 := fun s q e => by
    rcases Nat.mul_eq_zero.mp e with e | e
    · exact absurd e (Nat.pos_iff_ne_zero.mp (Nat.pow_pos (by decide)))
    · omega
  rcases h with ⟨e1, e2⟩ | ⟨q, e1, e2, e3⟩ <;> rcases h' with ⟨f1, f2⟩ | ⟨r, f1, f2, f3⟩
  · rw [e1, f1]
  · exact absurd (f1.symm.trans e2) (pos _ _)
  · exact absurd (e1.symm.trans f2) (pos _ _)
  · obtain ⟨g1, g2⟩ := odd_uniq _ _ _ _ (e1.symm.trans f1)
    have g3 : ws.length = ws'.length := by omega
    refine map_wN_inj ?_
    rw [e3, f3, g3, g2]
theorem rowNum_det {ws : List Int} {n n' : Nat} (h : RowNum ws n) (h' : RowNum ws n') : n = n' := by
  rcases h with ⟨e1, e2⟩ | ⟨q, e1, e2, e3⟩ <;> rcases h' with ⟨f1, f2⟩ | ⟨r, f1, f2, f3⟩
  · rw [e2, f2]
  · subst e1; exact absurd f2 (Nat.lt_irrefl 0)
  · subst f1; exact absurd e2 (Nat.lt_irrefl 0)
  · rw [e1, f1, dlN_inj e2 q r (e3.symm.trans f3)]
open Classical in
noncomputable def rowW (n : Nat) : List Int := Classical.choose (rowNum_ex n)
theorem rowW_num (n : Nat) : RowNum (rowW n) n := Classical.choose_spec (rowNum_ex n)
theorem rowW_of {ws : List Int} {n : Nat} (h : RowNum ws n) : rowW n = ws := rowNum_uniq (rowW_num n) h
theorem rowW_inj {n n' : Nat} (h : rowW n = rowW n') : n = n' := rowNum_det (rowW_num n) (h ▸ rowW_num n')
theorem plP_lo : ∀ (ws : List Int) (a : Nat), ∀ q ∈ plP a ws, (a : Int) ≤ q.1 ∧ q.1 < (a : Int) + ws.length
  | [], _, q, m => nomatch m
  | w :: r, a, q, m => by
    unfold plP at m
    have ih := plP_lo r (a + 1)
    split at m
    · have := ih q m
      simp only [List.length_cons]
      omega
    · rcases List.mem_cons.mp m with rfl | m
      · simp only [List.length_cons]
        omega
      · have := ih q m
        simp only [List.length_cons]
        omega
theorem plP_sorted : ∀ (ws : List Int) (a : Nat), (plP a ws).Pairwise (fun x y => x.1 < y.1)
  | [], _ => .nil
  | w :: r, a => by
    unfold plP
    split
    · exact plP_sorted r (a + 1)
    · refine .cons (fun q m => ?_) (plP_sorted r (a + 1))
      have := (plP_lo r (a + 1) q m).1
      show (a : Int) < q.1
      omega
theorem plP_pairs : ∀ (ws : List Int) (a : Nat) (l s : Int), l < (a : Int) → s = (a : Int) + ws.length → pairsB s l ((plP a ws).map ipT) = true
  | [], _, _, _, _, _ => rfl
  | w :: r, a, l, s, hl, hs => by
    simp only [List.length_cons] at hs
    unfold plP
    by_cases h : w = 0
    · rw [if_pos h]
      exact plP_pairs r (a + 1) l s (by omega) (by omega)
    · rw [if_neg h]
      show ((decide (l < (a : Int)) && decide ((a : Int) < s) && !decide (w = 0)) && pairsB s (a : Int) ((plP (a + 1) r).map ipT)) = true
      rw [decide_eq_true hl, decide_eq_true (show (a : Int) < s by omega), decide_eq_false h, plP_pairs r (a + 1) a s (by omega) (by omega)]
      rfl
theorem rowO_row (ws : List Int) : isRowB (rowO ws) = true := by
  show (pairsB (ws.length : Int) (-1) ((plP 0 ws).map ipT) && decide (0 ≤ (ws.length : Int))) = true
  rw [plP_pairs ws 0 (-1) ws.length (by decide) (by simp), decide_eq_true (by omega)]
  rfl
theorem plP_inj : ∀ (ws ws' : List Int) (a : Nat), ws.length = ws'.length → plP a ws = plP a ws' → ws = ws'
  | [], [], _, _, _ => rfl
  | w :: r, w' :: r', a, hl, h => by
    have hl' : r.length = r'.length := by simpa using hl
    unfold plP at h
    by_cases h1 : w = 0 <;> by_cases h2 : w' = 0
    · rw [if_pos h1, if_pos h2] at h
      rw [h1, h2, plP_inj r r' (a + 1) hl' h]
    · rw [if_pos h1, if_neg h2] at h
      have := (plP_lo r (a + 1) ((a : Int), w') (h ▸ List.mem_cons_self ..)).1
      exfalso
      replace this : ((a + 1 : Nat) : Int) ≤ (a : Int) := this
      omega
    · rw [if_neg h1, if_pos h2] at h
      have := (plP_lo r' (a + 1) ((a : Int), w) (h ▸ List.mem_cons_self ..)).1
      exfalso
      replace this : ((a + 1 : Nat) : Int) ≤ (a : Int) := this
      omega
    · rw [if_neg h1, if_neg h2] at h
      obtain ⟨e1, e2⟩ := List.cons.inj h
      rw [(Prod.mk.inj e1).2, plP_inj r r' (a + 1) hl' e2]
theorem ipT_inj {p q : Int × Int} (h : ipT p = ipT q) : p = q := by
  unfold ipT at h
  have h := PyData.tuple.inj h
  have e1 := PyData.int.inj (List.cons.inj h).1
  have e2 := PyData.int.inj (List.cons.inj (List.cons.inj h).2).1
  exact Prod.ext e1 e2
theorem map_ipT_inj : ∀ ps qs : List (Int × Int), ps.map ipT = qs.map ipT → ps = qs
  | [], [], _ => rfl
  | p :: ps, q :: qs, h => by
    obtain ⟨e1, e2⟩ := List.cons.inj h
    rw [ipT_inj e1, map_ipT_inj ps qs e2]
theorem rowO_inj {ws ws' : List Int} (h : rowO ws = rowO ws') : ws = ws' := by
  have h := PyData.tuple.inj h
  have e1 := PyData.int.inj (List.cons.inj h).1
  have e2 := PyData.tuple.inj (List.cons.inj (List.cons.inj h).2).1
  exact plP_inj _ _ 0 (by omega) (map_ipT_inj _ _ e2)
/-! ### a row's numbers as a dict (as in K02b, K02c) -/
abbrev Pl := List (Int × Int)
def getP (ps : Pl) (p : Int) : Int := ((ps.find? fun q => decide (q.1 = p)).map (·.2)).getD 0
theorem getP_nil (p : Int) : getP [] p = 0 := rfl
theorem getP_cons (q : Int × Int) (ps : Pl) (p : Int) : getP (q :: ps) p = if q.1 = p then q.2 else getP ps p := by
  unfold getP
  rw [List.find?_cons]
  by_cases h : q.1 = p
  · rw [if_pos h, decide_eq_true h]; rfl
  · rw [if_neg h, decide_eq_false h]
theorem getP_out {ps : Pl} {p : Int} (h : ∀ q ∈ ps, q.1 ≠ p) : getP ps p = 0 := by
  induction ps with
  | nil => rfl
  | cons q ps ih =>
    rw [getP_cons, if_neg (h q (List.mem_cons_self ..))]
    exact ih fun r m => h r (List.mem_cons_of_mem _ m)
theorem getP_in {ps : Pl} (hs : ps.Pairwise (fun a b => a.1 < b.1)) {q : Int × Int} (m : q ∈ ps) : getP ps q.1 = q.2 := by
  induction ps with
  | nil => cases m
  | cons r ps ih =>
    rw [getP_cons]
    obtain ⟨h1, h2⟩ := List.pairwise_cons.mp hs
    rcases List.mem_cons.mp m with rfl | m
    · rw [if_pos rfl]
    · rw [if_neg (by have := h1 q m; omega)]
      exact ih h2 m
theorem putD_new {kvs : List (D × D)} {k d : D} (hk : isKey k = true) (h : ∀ kv ∈ kvs, isKey kv.1 = true ∧ kv.1 ≠ k) : putD kvs k d = kvs ++ [(k, d)] := by
  unfold putD
  have : findD kvs k = none := by
    induction kvs with
    | nil => rfl
    | cons kv r ih =>
      obtain ⟨h1, h2⟩ := h kv (List.mem_cons_self ..)
      obtain ⟨a, ea⟩ := isKey_of h1
      obtain ⟨b, eb⟩ := isKey_of hk
      rw [findD, if_neg]
      · exact ih fun x m => h x (List.mem_cons_of_mem _ m)
      · rw [ea, eb, keyIs_key]
        intro z
        rw [ea, eb, of_decide_eq_true z] at h2
        exact h2 rfl
  rw [this]
  rfl
theorem mergeD_nd : ∀ (kvs acc : List (D × D)), (∀ kv ∈ acc ++ kvs, isKey kv.1 = true) → ((acc ++ kvs).map Prod.fst).Nodup → mergeD acc kvs = acc ++ kvs
  | [], acc, _, _ => by rw [List.append_nil]; rfl
  | (k0, d0) :: r, acc, hk, nd => by
    have e : mergeD acc ((k0, d0) :: r) = mergeD (putD acc k0 d0) r := rfl
    have h0 := hk (k0, d0) (List.mem_append_right _ (List.mem_cons_self ..))
    have hn : ∀ kv ∈ acc, isKey kv.1 = true ∧ kv.1 ≠ k0 := fun kv m => by
      refine ⟨hk kv (List.mem_append_left _ m), fun z => ?_⟩
      rw [List.map_append, List.map_cons, List.nodup_append] at nd
      exact nd.2.2 kv.1 (List.mem_map.mpr ⟨kv, m, rfl⟩) k0 (List.mem_cons_self ..) z
    rw [e, putD_new h0 hn]
    have := mergeD_nd r (acc ++ [(k0, d0)]) (by simpa using hk) (by simpa using nd)
    rw [this, List.append_assoc]
    rfl
/-- a row's numbers as a dict -/
def pkD (ps : Pl) : List (D × D) := ps.map fun q => (.int q.1, .int q.2)
theorem pk_pairs : ∀ ps : Pl, pairsOf (ps.map ipT) = some (pkD ps)
  | [] => rfl
  | q :: ps => by
    show (if isKey (.int q.1) = true then (pairsOf (ps.map ipT)).map ((PyData.int q.1, PyData.int q.2) :: ·) else none) = _
    rw [if_pos (show isKey (PyData.int q.1) = true from rfl), pk_pairs ps]
    rfl
theorem pk_key {ps : Pl} : ∀ kv ∈ pkD ps, isKey kv.1 = true := fun kv m => by
  obtain ⟨q, _, rfl⟩ := List.mem_map.mp m
  rfl
theorem pk_nd {ps : Pl} (nd : (ps.map (·.1)).Nodup) : ((pkD ps).map Prod.fst).Nodup := by
  have e : (pkD ps).map Prod.fst = (ps.map (·.1)).map PyData.int := by
    unfold pkD
    rw [List.map_map, List.map_map]
    rfl
  rw [e]
  unfold List.Nodup at nd ⊢
  rw [List.pairwise_map]
  exact nd.imp fun h z => h (PyData.int.inj z)
theorem pk_merge {ps : Pl} (nd : (ps.map (·.1)).Nodup) : mergeD [] (pkD ps) = pkD ps := by
  rw [mergeD_nd (pkD ps) [] (by simpa using pk_key) (by simpa using pk_nd nd), List.nil_append]
theorem pk_find (p : Int) : ∀ ps : Pl, (findD (pkD ps) (.int p)).getD (.int 0) = .int (getP ps p)
  | [] => rfl
  | q :: ps => by
    show (if decide (q.1 = p) = true then some (PyData.int q.2) else findD (pkD ps) (.int p)).getD (.int 0) = _
    rw [getP_cons]
    by_cases h : q.1 = p
    · rw [if_pos (show decide (q.1 = p) = true from decide_eq_true h), if_pos h]; rfl
    · rw [if_neg (show ¬ decide (q.1 = p) = true by simpa using h), if_neg h]
      exact pk_find p ps

theorem getP_plP : ∀ (ws : List Int) (a i : Nat), getP (plP a ws) ((a + i : Nat) : Int) = (ws[i]?).getD 0
  | [], _, _ => rfl
  | w :: r, a, 0 => by
    unfold plP
    by_cases h : w = 0
    · rw [if_pos h, getP_out fun q m e => by have := (plP_lo r (a + 1) q m).1; omega, h]
      rfl
    · rw [if_neg h, getP_cons, if_pos (by simp)]
      rfl
  | w :: r, a, i + 1 => by
    have ih := getP_plP r (a + 1) i
    rw [show a + 1 + i = a + (i + 1) by omega] at ih
    unfold plP
    by_cases h : w = 0
    · rw [if_pos h, ih]
      rfl
    · rw [if_neg h, getP_cons, if_neg (show ¬ ((a : Int) = ((a + (i + 1) : Nat) : Int)) by omega), ih]
      rfl
theorem plP_nd (ws : List Int) : ((plP 0 ws).map (·.1)).Nodup := by
  unfold List.Nodup
  rw [List.pairwise_map]
  exact (plP_sorted ws 0).imp fun h e => by omega
theorem plP_snoc : ∀ (ws : List Int) (a : Nat) (w : Int), plP a (ws ++ [w]) = plP a ws ++ if w = 0 then [] else [(((a + ws.length : Nat) : Int), w)]
  | [], a, w => rfl
  | v :: r, a, w => by
    show plP a (v :: (r ++ [w])) = _
    unfold plP
    rw [plP_snoc r (a + 1) w, List.length_cons, show a + 1 + r.length = a + (r.length + 1) by omega]
    split <;> rfl

/-! ### row_at, row_number -/
def wD (ws : List Int) : List D := ws.map .int
theorem wD_len (ws : List Int) : (wD ws).length = ws.length := List.length_map ..
theorem wD_get {ws : List Int} {i : Nat} {d : D} (h : (wD ws)[i]? = some d) : ∃ v, ws[i]? = some v ∧ d = .int v := by
  unfold wD at h
  rw [List.getElem?_map] at h
  cases e : ws[i]? with
  | none => rw [e] at h; cases h
  | some v => rw [e] at h; exact ⟨v, rfl, (Option.some.inj h).symm⟩
theorem nD_get' {ns : List Nat} {i : Nat} {d : D} (h : (nD ns)[i]? = some d) : ∃ v, ns[i]? = some v ∧ d = .int (v : Int) := by
  unfold nD at h
  rw [List.getElem?_map] at h
  cases e : ns[i]? with
  | none => rw [e] at h; cases h
  | some v => rw [e] at h; exact ⟨v, rfl, (Option.some.inj h).symm⟩
theorem prDw_get {ws : List Int} {i : Nat} {d : D} (h : (prD (rgD 0 (wD ws).length) (wD ws))[i]? = some d) : ∃ v, ws[i]? = some v ∧ d = .tuple [.int (i : Nat), .int v] := by
  have hi : i < (wD ws).length := by
    have := (List.getElem?_eq_some_iff.mp h).1
    rwa [enum_len] at this
  have h2 : (wD ws)[i]? = some (wD ws)[i] := List.getElem?_eq_getElem hi
  rw [enum_get h2] at h
  obtain ⟨v, e1, e2⟩ := wD_get h2
  rw [e2] at h
  exact ⟨v, e1, (Option.some.inj h).symm⟩
theorem take_snoc {α : Type} {l : List α} {i : Nat} {v : α} (h : l[i]? = some v) : l.take (i + 1) = l.take i ++ [v] := by
  obtain ⟨h1, h2⟩ := List.getElem?_eq_some_iff.mp h
  rw [List.take_add_one, List.getElem?_eq_getElem h1, h2]
  rfl
theorem dlN_lt {m q i v b : Nat} (hq : q < 2 ^ b) (h : (dlN m q)[i]? = some v) : v < 2 ^ b := by
  unfold dlN at h
  rw [List.getElem?_map] at h
  cases e : (List.range m)[i]? with
  | none => rw [e] at h; cases h
  | some a =>
    rw [e] at h
    have h : K81.E m a q = v := Option.some.inj h
    have := K81.E_le m q a
    exact Nat.lt_of_le_of_lt (h ▸ this) hq
theorem pow_len {n s q b : Nat} (e : n = 2 ^ s * (2 * q + 1)) (h : n < 2 ^ b) : s < b ∧ q < 2 ^ b := by
  have h1 : 2 ^ s ≤ n := by rw [e]; exact Nat.le_mul_of_pos_right _ (by omega)
  have h2 : 2 * q + 1 ≤ n := by rw [e]; exact Nat.le_mul_of_pos_left _ (Nat.pow_pos (by decide))
  exact ⟨(Nat.pow_lt_pow_iff_right (by decide)).mp (Nat.lt_of_le_of_lt h1 h), by omega⟩
section
variable {P : Program} {w : World} {K : PySem.W.Frag} {mg : Str → Option Value} {base : Heap}
def raF : DF := fun ds Q => ∃ n : Nat, ds = [.int (n : Int)] ∧ n < 2 ^ 4000 ∧ Q (rowO (rowW n))
theorem ok_row_at (T : Tx K mg) (O_dealt : Ok P w K mg base 1 "dealt" ["k", "many"] (spN K 2 .F deF)) (O_whole_at : Ok P w K mg base 1 "whole_at" ["number"] (spN K 1 .F waF)) : Ok P w K mg base 2 "row_at" ["number"] (spN K 1 .E raF) := by
  refine Ok.ofN (M := []) T.d_row_at sc_row_at rfl (by decide) fun f cdv A outer s H E hr => ⟨_, _, (pss_cons (ps_if (pt_cmpR (eqG K rfl hr.units) (pv 0) (pe_int) (nomark _))
 (pss_one (ps_ret (pe_tupZ (pa_cons (pe_int) (pa_cons (pe_tupZ (pa_nil)) (pa_nil))))))
 (pss_nil))
 (pss_cons (ps_set (i := 1) sc_row_at.nd rfl (Or.inl rfl) (pe_int))
 (pss_cons (ps_while PassesOwn.never (pt_cmpR (eqG K rfl hr.units) (pe_op op_mod (pv 0) (pe_int)) (pe_int) (nomark _))
 (pss_cons (ps_set (i := 0) sc_row_at.nd rfl (Or.inl rfl) (pe_op op_fdivW (pv 0) (pe_int)))
 (pss_one (ps_set (i := 1) sc_row_at.nd rfl (Or.inl rfl) (pe_op (addG K rfl) (pv 1) (pe_int))))))
 (pss_cons (ps_setLc (i := 2) (own := [("one", 3)]) rfl sc_row_at.nd rfl rfl (sw_true rfl rfl rfl (by decide +kernel)) (piL K rfl (pe_fn O_dealt (hr.mono (by omega)) (by rfl) (pa_cons (pe_op op_fdivW (pv 0) (pe_int)) (pa_cons (pv 1) (pa_nil))))) (blkOk_by (own := [("one", 3)]) (N := ["number", "size", "wholes", "one", "place", "whole"]) (sc := defScope s_row_at) (by decide +kernel)) (fun _ _ _ _ _ => pg_nameL (i := 3) sc_row_at.nd rfl rfl) (fun _ _ _ _ _ => pts_nil) (fun _ _ _ _ _ => pe_fn O_whole_at (hr.mono (by omega)) (by rfl) (pa_cons (pv 3) (pa_nil))))
 (pss_one (ps_ret (pe_tupZ (pa_cons (pv 1) (pa_cons (pe_callTy (tupQ K rfl) (by rfl) T.z_tuple boot_tuple (pa_cons (pe_lc (own := [("place", 4), ("whole", 5)]) rfl sc_row_at.nd (piE K rfl (by rfl) T.z_enumerate (pa_cons (pv 2) pa_nil)) (blkOk_by (own := [("place", 4), ("whole", 5)]) (N := ["number", "size", "wholes", "one", "place", "whole"]) (sc := defScope s_row_at) (by decide +kernel)) (fun _ _ _ _ _ => pgT K rfl 2 rfl (pgs_cons (pg_nameL (i := 4) sc_row_at.nd rfl rfl) (pgs_cons (pg_nameL (i := 5) sc_row_at.nd rfl rfl) (pgs_nil)))) (fun _ _ _ _ _ => pts_one (pt_cmpR (neG K rfl hr.units) (pv 5) (pe_int) (nomark _))) (fun _ _ _ _ _ => pe_tupZ (pa_cons (pv 4) (pa_cons (pv 5) (pa_nil))))) (pa_nil))) (pa_nil)))))))))),
 (simS_seq (simS_if (simT_test (sim_op opA_eq (sim_var 0 (nm rfl)) (sim_int _)))
 (simS_ret (Sim.toE (sim_tup (by decide) (simA_cons (sim_int _) (simA_cons (sim_tup (by decide) (simA_nil)) (simA_nil))))))
 (simS_next))
 (simS_seq (simS_set 1 (nm rfl) (np rfl) (sim_int _))
 (simS_cut (simS_while (simT_test (sim_op opA_eq (sim_op opA_mod (sim_var 0 (nm rfl)) (sim_int _)) (sim_int _)))
 (simS_seq (simS_set 0 (nm rfl) (np rfl) (sim_op opA_fdiv (sim_var 0 (nm rfl)) (sim_int _)))
 (simS_set 1 (nm rfl) (np rfl) (sim_op opA_add (sim_var 1 (nm rfl)) (sim_int _)))))
 (simS_seq (simS_set 2 (nm rfl) (np rfl) (sim_lc (simI_list (sim_call (simA_cons (sim_op opA_fdiv (sim_var 0 (nm rfl)) (sim_int _)) (simA_cons (sim_var 1 (nm rfl)) (simA_nil))))) (simG_name 3 (nm rfl) (np rfl)) (simT_yes) (sim_call (simA_cons (sim_var 3 (nm rfl)) (simA_nil))) (inv' rfl) (nmv rfl) (npv rfl)))
 (simS_ret (Sim.toE (sim_tup (by decide) (simA_cons (sim_var 1 (nm rfl)) (simA_cons (sim_cb caA_tup (simA_cons (sim_lc (simI_enum (sim_var 2 (nm rfl))) (simG_tup (simGs_cons (simG_name 4 (nm rfl) (np rfl)) (simGs_cons (simG_name 5 (nm rfl) (np rfl)) (simGs_nil)))) (simT_test (sim_op opA_ne (sim_var 5 (nm rfl)) (sim_int _))) (sim_tup (by decide) (simA_cons (sim_var 4 (nm rfl)) (simA_cons (sim_var 5 (nm rfl)) (simA_nil)))) (inv' rfl) (nmv rfl) (npv rfl)) (simA_nil))) (simA_nil)))))))))), ?_⟩
  rintro ds Q hl ⟨n, rfl, hn, q⟩
  refine seqIf (b := decide ((n : Int) = 0)) (fun Q q => q) (fun h => ?_) (fun h => ?_)
  · have h := of_decide_eq_true h
    have h0 : n = 0 := by omega
    subst h0
    rw [rowW_of (ws := []) (.inl ⟨rfl, rfl⟩)] at q
    exact q
  have h := of_decide_eq_false h
  obtain ⟨sz, r, e⟩ := odd_part n (by omega)
  obtain ⟨hs, hr4⟩ := pow_len e hn
  obtain ⟨ws, hws⟩ : ∃ ws, ws = rowW n := ⟨_, rfl⟩
  have hw : ws = (dlN (sz + 1) r).map wA := by
    rw [hws]
    refine rowW_of (.inr ⟨r, ?_, ?_, ?_⟩)
    · rw [List.length_map, dlN_len]; exact e
    · rw [List.length_map, dlN_len]; omega
    · rw [List.length_map, dlN_len, List.map_map, show wN ∘ wA = id from funext wN_wA, List.map_id]
  rw [← hws] at q
  have hwl : ws.length = sz + 1 := by rw [hw, List.length_map, dlN_len]
  refine seqSetX (d := .int 1) (fun Q q => q) (cutThru ?_)
  refine ⟨fun μ s => ∃ j : Nat, j + μ = sz ∧ s = { δ := [some (.int ((2 ^ μ * (2 * r + 1) : Nat) : Int)), some (.int ((j + 1 : Nat) : Int)), none, none, none, none], n := 0 }, ⟨sz, 0, by omega, by rw [← e]; rfl⟩, ?_⟩
  rintro μ s ⟨j, hj, rfl⟩
  refine ⟨by decide, ?_⟩
  cases μ with
  | succ μ =>
    have e1 : 2 ^ (μ + 1) * (2 * r + 1) = 2 * (2 ^ μ * (2 * r + 1)) := by rw [Nat.pow_succ, Nat.mul_comm (2 ^ μ) 2, Nat.mul_assoc]
    obtain ⟨z, hz⟩ : ∃ z, z = 2 ^ μ * (2 * r + 1) := ⟨_, rfl⟩
    rw [e1, ← hz]
    refine ifp (decide_eq_true (by omega)) ⟨⟨by decide, by decide⟩, μ, Nat.lt_succ_self μ, j + 1, by omega, ?_⟩
    have e2 : ((2 * z : Nat) : Int) / 2 = (z : Int) := by omega
    show ({ δ := [some (.int (((2 * z : Nat) : Int) / 2)), some (.int (((j + 1 : Nat) : Int) + 1)), none, none, none, none], n := 0 } : S) = _
    rw [e2, hz]
    rfl
  | zero =>
    have hodd : (((2 ^ 0 * (2 * r + 1) : Nat) : Int)) = 2 * (r : Int) + 1 := by simp
    rw [hodd]
    refine ifn (by rw [decide_eq_false (by omega)]; exact Bool.false_ne_true) ?_
    have hj' : j + 1 = sz + 1 := by omega
    rw [hj']
    have hsl : sz + 1 ≤ sizeLine := by rw [sizeLine_eq]; omega
    have er : (2 * (r : Int) + 1) / 2 = (r : Int) := by omega
    dsimp only
    refine seqSetX (d := .list (wD ws)) (fun Q qq => ⟨⟨by decide, by decide⟩, r, sz + 1, by rw [er], by omega, by omega, Nat.lt_of_lt_of_le hr4 (Nat.pow_le_pow_right (by decide) (by decide)), ?_⟩) ?_
    · refine ⟨by rw [nD_len, dlN_len]; exact hsl, lcD_ind (fun i acc s => acc = ((dlN (sz + 1) r).take i).map (fun v => PyData.int (wA v)) ∧ s = { δ := [some (.int (2 * (r : Int) + 1)), some (.int ((sz + 1 : Nat) : Int)), none, none, none, none], n := 0 }) ⟨rfl, rfl⟩ ?_ ?_⟩
      · rintro i d acc s N hi ⟨rfl, rfl⟩ hN
        obtain ⟨v, hv, rfl⟩ := nD_get' hi
        refine show ∃ n : Nat, [PyData.int (v : Int)] = [PyData.int (n : Int)] ∧ n < 2 ^ 8000 ∧ N (_ ++ [PyData.int (wA n)]) _ from ⟨v, rfl, Nat.lt_of_lt_of_le (dlN_lt hr4 hv) (Nat.pow_le_pow_right (by decide) (by decide)), hN _ _ ⟨?_, rfl⟩⟩
        rw [take_snoc hv, List.map_append]
        rfl
      · rintro acc s ⟨rfl, rfl⟩
        rw [nD_len, List.take_length]
        rw [hw] at qq
        unfold wD at qq
        rw [List.map_map] at qq
        exact qq
    · refine ⟨by rw [enum_len, wD_len, hwl]; exact hsl, lcD_ind (fun i acc s => acc = (plP 0 (ws.take i)).map ipT ∧ s = { δ := [some (.int (2 * (r : Int) + 1)), some (.int ((sz + 1 : Nat) : Int)), some (.list (wD ws)), none, none, none], n := 0 }) ⟨rfl, rfl⟩ ?_ ?_⟩
      · rintro i d acc s N hi ⟨rfl, rfl⟩ hN
        obtain ⟨v, hv, rfl⟩ := prDw_get hi
        have hil : i < ws.length := (List.getElem?_eq_some_iff.mp hv).1
        have et : (ws.take i).length = i := by rw [List.length_take]; omega
        refine ⟨rfl, ?_⟩
        by_cases h0 : v = 0
        · refine ifn (by simp [h0]) (hN _ _ ⟨?_, rfl⟩)
          rw [take_snoc hv, plP_snoc, if_pos h0, List.append_nil]
        · refine ifp (by simpa using h0) (hN _ _ ⟨?_, rfl⟩)
          rw [take_snoc hv, plP_snoc, if_neg h0, List.map_append, et, Nat.zero_add]
          rfl
      · rintro acc s ⟨rfl, rfl⟩
        rw [enum_len, wD_len, List.take_length]
        unfold rowO at q
        rw [hwl] at q
        exact q
theorem wN_abs {i : Int} {b : Nat} (h : wN i < 2 ^ b) (hb : 0 < b) : i.natAbs < 2 ^ b := by
  have := wA_lt h hb
  rwa [wA_wN] at this
def rnF : DF := fun ds Q => ∃ (ws : List Int) (n : Nat), ds = [rowO ws] ∧ RowNum ws n ∧ n < 2 ^ 4000 ∧ Q (.int (n : Int))
theorem ok_row_number (T : Tx K mg) (O_gathered : Ok P w K mg base 1 "gathered" ["numbers"] (spN K 1 .E gaD)) (O_whole_number : Ok P w K mg base 1 "whole_number" ["whole"] (spN K 1 .F wnF)) : Ok P w K mg base 2 "row_number" ["row"] (spN K 1 .E rnF) := by
  refine Ok.ofN (M := []) T.d_row_number sc_row_number rfl (by decide) fun f cdv A outer s H E hr => ⟨_, _, (pss_cons (ps_asg (pv 0) (pgT K rfl 2 rfl (pgs_cons (pg_nameL (i := 1) sc_row_number.nd rfl rfl) (pgs_cons (pg_nameL (i := 2) sc_row_number.nd rfl rfl) (pgs_nil)))))
 (pss_cons (ps_if (pt_cmpR (eqG K rfl hr.units) (pv 1) (pe_int) (nomark _))
 (pss_one (ps_ret (pe_int)))
 (pss_nil))
 (pss_cons (ps_set (i := 3) sc_row_number.nd rfl (Or.inr rfl) (pe_callTy (dictG K rfl rfl) (by rfl) T.z_dict boot_dict (pa_cons (pv 2) (pa_nil))))
 (pss_cons (ps_set (i := 4) sc_row_number.nd rfl (Or.inl rfl) (pe_op (addG K rfl) (pe_op mulG (pe_int) (pe_fn O_gathered (hr.mono (by omega)) (by rfl) (pa_cons (pe_lc (own := [("place", 5)]) rfl sc_row_number.nd (pi_range1 (by rfl) T.z_range (pa_cons (pv 1) (pa_nil))) (blkOk_by (own := [("place", 5)]) (N := ["row", "size", "places", "wholes", "found", "place", "turn"]) (sc := defScope s_row_number) (by decide +kernel)) (fun _ _ _ _ _ => pg_nameL (i := 5) sc_row_number.nd rfl rfl) (fun _ _ _ _ _ => pts_nil) (fun _ _ _ _ _ => pe_fn O_whole_number (hr.mono (by omega)) (by rfl) (pa_cons (pe_dget2 (lt_u1 (u65 hr.toRoom)) (pv 3) (pv 5) (pe_int) ⟨by rfl, by rfl, by rfl, by rfl⟩) (pa_nil)))) (pa_nil)))) (pe_int)))
 (pss_cons (ps_for PassesOwn.never rfl (pi_range1 (by rfl) T.z_range (pa_cons (pe_op op_sub (pv 1) (pe_int)) (pa_nil))) (pg_nameL (i := 6) sc_row_number.nd rfl rfl)
 (pss_one (ps_set (i := 4) sc_row_number.nd rfl (Or.inl rfl) (pe_op mulG (pv 4) (pe_int)))))
 (pss_one (ps_ret (pv 4)))))))),
 (simS_seq (simS_asg (sim_var 0 (nm rfl)) (simG_tup (simGs_cons (simG_name 1 (nm rfl) (np rfl)) (simGs_cons (simG_name 2 (nm rfl) (np rfl)) (simGs_nil)))))
 (simS_seq (simS_if (simT_test (sim_op opA_eq (sim_var 1 (nm rfl)) (sim_int _)))
 (simS_ret (Sim.toE (sim_int _)))
 (simS_next))
 (simS_seq (simS_set 3 (nm rfl) (np rfl) (sim_cb caA_dict (simA_cons (sim_var 2 (nm rfl)) (simA_nil))))
 (simS_seq (simS_set 4 (nm rfl) (np rfl) (sim_op opA_add (sim_op opA_mul (sim_int _) (sim_call (simA_cons (sim_lc (simI_range1 (sim_var 1 (nm rfl))) (simG_name 5 (nm rfl) (np rfl)) (simT_yes) (sim_call (simA_cons (sim_dget2 (sim_var 3 (nm rfl)) (sim_var 5 (nm rfl)) (sim_int _)) (simA_nil))) (inv' rfl) (nmv rfl) (npv rfl)) (simA_nil)))) (sim_int _)))
 (simS_cut (simS_for (simI_range1 (sim_op opA_sub (sim_var 1 (nm rfl)) (sim_int _))) (simG_name 6 (nm rfl) (np rfl))
 (simS_set 4 (nm rfl) (np rfl) (sim_op opA_mul (sim_var 4 (nm rfl)) (sim_int _))))
 (simS_ret (Sim.toE (sim_var 4 (nm rfl))))))))), ?_⟩
  rintro ds Q hl ⟨ws, n, rfl, hw, hn, q⟩
  refine ⟨rfl, ?_⟩
  dsimp only [sCons, sName, sNil, List.set_cons_zero, List.set_cons_succ]
  refine seqIf (b := decide ((ws.length : Int) = 0)) (fun Q q => q) (fun h => ?_) (fun h => ?_)
  · have h := of_decide_eq_true h
    rcases hw with ⟨e1, e2⟩ | ⟨r, e1, e2, e3⟩
    · subst e2
      exact q
    · omega
  have h := of_decide_eq_false h
  rcases hw with ⟨e1, e2⟩ | ⟨r, e, e2, e3⟩
  · subst e1; exact absurd rfl h
  obtain ⟨hs, hr4⟩ := pow_len e hn
  obtain ⟨sz, hsz⟩ : ∃ sz, ws.length = sz + 1 := ⟨ws.length - 1, by omega⟩
  have hs : sz < 4000 := by omega
  have hsl : sz + 1 ≤ sizeLine := by rw [sizeLine_eq]; omega
  rw [hsz] at e3
  have e : n = 2 ^ sz * (2 * r + 1) := by rw [e, hsz]; rfl
  obtain ⟨row, hrow⟩ : ∃ row, row = rowO ws := ⟨_, rfl⟩
  obtain ⟨pls, hpls⟩ : ∃ pls, pls = PyData.tuple ((plP 0 ws).map ipT) := ⟨_, rfl⟩
  refine seqSetX (d := .dict (pkD (plP 0 ws))) (fun Q q => ⟨_, pk_pairs _, by rw [pk_merge (plP_nd ws)]; exact q⟩) ?_
  refine seqSetX (d := .int ((2 * r + 1 : Nat) : Int)) (fun Q qq => ?_) (cutThru ?_)
  · refine ⟨⟨by omega, by omega⟩, by rw [rgD_len]; omega, lcD_ind (fun i acc s => acc = nD ((dlN (sz + 1) r).take i) ∧ s = { δ := [some (rowO ws), some (.int (ws.length : Int)), some (.tuple ((plP 0 ws).map ipT)), some (.dict (pkD (plP 0 ws))), none, none, none], n := 0 }) ⟨rfl, rfl⟩ ?_ ?_⟩
    · rintro i d acc s N hi ⟨rfl, rfl⟩ hN
      obtain ⟨h2, rfl⟩ := rgD_get hi
      have hi : i < ws.length := by omega
      have hv : ws[i]? = some ws[i] := List.getElem?_eq_getElem hi
      have hg : getP (plP 0 ws) (0 + (i : Int)) = ws[i] := by
        have := getP_plP ws 0 i
        rw [hv, Nat.zero_add] at this
        rw [Int.zero_add]
        exact this
      have hn' : (dlN (sz + 1) r)[i]? = some (wN ws[i]) := by rw [← e3, List.getElem?_map, hv]; rfl
      refine show isKey (.int (0 + (i : Int))) = true ∧ wnF [(findD (pkD (plP 0 ws)) (.int (0 + (i : Int)))).getD (.int 0)] (fun y => N (_ ++ [y]) _) from ⟨rfl, ?_⟩
      rw [pk_find, hg]
      refine ⟨_, rfl, Nat.lt_of_lt_of_le (wN_abs (dlN_lt hr4 hn') (by decide)) (Nat.pow_le_pow_right (by decide) (by decide)), hN _ _ ⟨?_, rfl⟩⟩
      rw [take_snoc hn']
      unfold nD
      rw [List.map_append]
      rfl
    · rintro acc s ⟨rfl, rfl⟩
      have hlm : (rgD 0 ((ws.length : Nat) : Int).toNat).length = sz + 1 := by rw [rgD_len]; omega
      rw [hlm, List.take_of_length_le (by rw [dlN_len]; exact Nat.le_refl _)]
      refine ⟨r, sz + 1, rfl, by omega, by omega, Nat.lt_of_lt_of_le hr4 (Nat.pow_le_pow_right (by decide) (by decide)), cmulw (by decide +kernel) (two14 hr4 (by decide)), ?_⟩
      have : (2 : Int) * (r : Int) + 1 = ((2 * r + 1 : Nat) : Int) := by omega
      show Q (.int ((2 : Int) * (r : Int) + 1)) _
      rw [this]
      exact qq
  · refine ⟨⟨by omega, by omega⟩, ?_⟩
    have hlm : (rgD 0 ((ws.length : Int) - 1).toNat).length = sz := by rw [rgD_len]; omega
    refine forD_ind (fun a s => a ≤ sz ∧ ∃ o6, s = { δ := [some (rowO ws), some (.int (ws.length : Int)), some (.tuple ((plP 0 ws).map ipT)), some (.dict (pkD (plP 0 ws))), some (.int ((2 ^ a * (2 * r + 1) : Nat) : Int)), none, o6], n := 0 }) ⟨Nat.zero_le _, none, by rw [Nat.pow_zero, Nat.one_mul]; rfl⟩ ?_ ?_
    · rintro a d s N hd ⟨ha, o6, rfl⟩ hN
      obtain ⟨ha, rfl⟩ := rgD_get hd
      have ha : a < sz := by omega
      have hle : 2 ^ a * (2 * r + 1) < 2 ^ 4000 := by
        refine Nat.lt_of_le_of_lt ?_ hn
        rw [e]
        exact Nat.mul_le_mul_right _ (Nat.pow_le_pow_right (by decide) (by omega))
      refine ⟨cmulw (two14 hle (by decide)) (by decide +kernel), hN _ ⟨by omega, some (.int (0 + (a : Int))), ?_⟩⟩
      have : ((2 ^ a * (2 * r + 1) : Nat) : Int) * 2 = ((2 ^ (a + 1) * (2 * r + 1) : Nat) : Int) := by
        rw [Nat.pow_succ, Nat.mul_right_comm]
        generalize 2 ^ a * (2 * r + 1) = z
        omega
      rw [← this]
      rfl
    · rintro s ⟨_, o6, rfl⟩
      rw [hlm, ← e]
      exact q
end

/-! ### inputs_at -/
theorem OkX.good {P : Program} {w : World} {K : PySem.W.Frag} {mg : Str → Option Value} {base : Heap} {k n : Nat} {x : Str} {ps : List Str} {CX : Addr} {cat : Cat} {F : DFX} {F0 : DF} (O : OkX P w K mg base k x ps (spX K CX n cat F)) (h : ∀ ds Q, F0 ds Q → F ds Q False) : Ok P w K mg base k x ps (spN K n cat F0) := by
  obtain ⟨f, fd, h1, h2, h3, F1⟩ := O
  have up : ∀ vs H Q E, spN K n cat F0 vs H Q E → spX K CX n cat F vs H Q fun _ _ _ => False := fun vs H Q E ⟨Hs, ds, Q0, a1, a2, a3, a4, a5⟩ => ⟨Hs, ds, Q0, False, a1, a2, a3, h _ _ a4, a5, fun z => z.elim⟩
  refine ⟨f, fd, h1, h2, h3, ⟨fun vs H Q E z => F1.len vs H Q _ (up vs H Q E z), fun A fs s H ar us vs Q E hr hg he hb hv q => codeAny_mono (F1.run A fs s H ar us vs Q _ hr hg he hb hv (up vs H Q E q)) fun r s' z => ?_⟩⟩
  match r, z with
  | .ok (.ret u), z => exact z
  | .ok .next, z => exact False.elim z
  | .ok .brk, z => exact False.elim z
  | .ok .cont, z => exact False.elim z
  | .error e, z =>
    obtain ⟨_, _, _, _, _, _, _, _, _, _, _, _, q⟩ := z
    exact q.elim
theorem shT {h : Nat} : ∀ {ds : List D}, (∀ x ∈ ds, PyData.canLay0 x = true ∧ PyData.depth x ≤ h) → PyData.canLayAll0 ds = true ∧ PyData.depthAll ds ≤ h
  | [], _ => ⟨rfl, Nat.zero_le _⟩
  | d :: ds, z => by
    obtain ⟨a1, a2⟩ := z d (List.mem_cons_self ..)
    obtain ⟨b1, b2⟩ := shT (ds := ds) fun x m => z x (List.mem_cons_of_mem _ m)
    refine ⟨by rw [PyData.canLayAll0, a1, b1]; rfl, ?_⟩
    simp only [PyData.depthAll]
    omega
theorem sh_tup {h : Nat} {ds : List D} (hh : h ≤ 63) (z : ∀ x ∈ ds, PyData.canLay0 x = true ∧ PyData.depth x ≤ h) : Sh (.tuple ds) := by
  obtain ⟨a, b⟩ := shT z
  show (PyData.canLay0 (.tuple ds) && decide (PyData.depth (.tuple ds) ≤ 64)) = true
  rw [PyData.canLay0, a, decide_eq_true]
  · rfl
  · simp only [PyData.depth]
    omega
/-- a letter: its name, and whether its inputs are rows -/
abbrev Lt := Str × Bool
def kdS (b : Bool) : Str := if b then Str.ofString "row" else Str.ofString "number"
def ltD (l : Lt) : D := .tuple [.str l.1, .str (kdS l.2)]
def ltsD (L : List Lt) : D := .tuple (L.map ltD)
structure OkL (L : List Lt) : Prop where
  len : L.length ≤ 4
  ok : ∀ l ∈ L, PyData.strOk l.1 = true
theorem kdS_ok (b : Bool) : PyData.strOk (kdS b) = true := by cases b <;> decide +kernel
theorem ltD_sh {l : Lt} (h : PyData.strOk l.1 = true) : PyData.canLay0 (ltD l) = true ∧ PyData.depth (ltD l) ≤ 3 := by
  refine ⟨?_, ?_⟩
  · show (PyData.strOk l.1 && (PyData.strOk (kdS l.2) && true)) = true
    rw [h, kdS_ok]
    rfl
  · simp [ltD, PyData.depth, PyData.depthAll]
theorem OkL.sh {L : List Lt} (h : OkL L) : Sh (ltsD L) := sh_tup (h := 3) (by decide) fun x m => by
  obtain ⟨l, m', rfl⟩ := List.mem_map.mp m
  exact ltD_sh (h.ok l m')
def nilB {α : Type} : List α → Bool
  | [] => true
  | _ => false
theorem eqvNil (L : List Lt) : PyData.eqv (ltsD L) (.tuple []) = nilB L := by
  cases L <;> simp [ltsD, PyData.eqv, PyData.eqvAll, nilB]
theorem exv_nilT {a : DT} {s : S} {L : List Lt} (h : OkL L) (ha : Exv a s (ltsD L)) : Exv (dOp eqD a (dTup dNil)) s (.bool (nilB L)) := fun Q q => ha _ ⟨h.sh, (show SeqAt.shaped _ = true by decide +kernel), by rw [eqvNil]; exact q⟩
/-- the input of a kind by a number -/
noncomputable def thD (b : Bool) (n : Nat) : D := if b then rowO (rowW n) else .int (wA n)
noncomputable def inpL (L : List Lt) (ns : List Nat) : List D := (L.zip ns).map fun p => thD p.1.2 p.2
theorem items_zip (L : List Lt) (ns : List Nat) : prD (L.map ltD) (nD ns) = (L.zip ns).map fun p => .tuple [ltD p.1, .int (p.2 : Int)] := by
  unfold prD nD
  rw [List.zip_map, List.map_map]
  rfl
def badK (L : List Lt) : D → Prop
  | .int i => i < 0 ∨ (L = [] ∧ 0 < i)
  | _ => True
theorem tst_kind {i : Nat} {s : S} {l : Lt} (hs : s.δ[i]? = some (some (ltD l))) : Tst (dBl (dOp eqD (dOp ixD (dV i) (dC (.int 1))) (dC (.str (Str.ofString "row"))))) s l.2 := by
  have key : Exv (dOp ixD (dV i) (dC (.int 1))) s (.str (kdS l.2)) := fun Q q => by
    unfold dOp dV
    simp only [hs]
    exact ix_ok 1 rfl rfl q
  intro Q q
  refine key _ ?_
  cases h : l.2 with
  | true => rw [h] at q; exact q
  | false => rw [h] at q; exact q
def iaX : DFX := fun ds Q X => ∃ (L : List Lt) (d : D), ds = [ltsD L, d] ∧ OkL L ∧ ((∃ k : Nat, d = .int (k : Int) ∧ (L = [] → k = 0) ∧ k < 2 ^ 4000 ∧ Q (.tuple (inpL L (dlN L.length k)))) ∨ (badK L d ∧ X))
section
variable {P : Program} {w : World} {K : PySem.W.Frag} {mg : Str → Option Value} {base : Heap} {CX CB : Addr}
theorem ok_inputs_at (T : Tx K mg) (TX : X_NoInputs K mg CX CB) (O_is_number : Ok P w K mg base 1 "is_number" ["thing"] (spN K 1 .E numF)) (O_dealt : Ok P w K mg base 1 "dealt" ["k", "many"] (spN K 2 .F deF)) (O_whole_at : Ok P w K mg base 1 "whole_at" ["number"] (spN K 1 .F waF)) (O_row_at : Ok P w K mg base 2 "row_at" ["number"] (spN K 1 .E raF)) :
    OkX P w K mg base 3 "inputs_at" ["letters", "k"] (spX K CX 2 .E iaX) := by
  refine OkX.ofX (M := [2]) CX T.d_inputs_at sc_inputs_at rfl (by decide) fun f cdv A outer s H E hr => ⟨_, _, (pss_cons (ps_if (PW.pt (pw_or (pt_not (pt_val (pe_fn O_is_number (hr.mono (by omega)) (by rfl) (pa_cons (pv 1) (pa_nil))))) (pw_or (pt_cmpR op_lt (pv 1) (pe_int) (nomark _)) (pw_or1 (PW.pt (pw_and (pt_cmpR (eqG K rfl hr.units) (pv 0) (pe_tupZ (pa_nil)) (nomark _)) (pw_and1 (pt_cmpR op_gt (pv 1) (pe_int) (nomark _)))))))))
 (pss_one (ps_raise rfl (takes_of rfl rfl rfl rfl) (pmk_own PySem.F.excBase_ValueError TX.c.x TX.c.g TX.c.kp (raises_own TX.c.b TX.c.t) rfl)))
 (pss_nil))
 (pss_cons (ps_if (pt_cmpR (eqG K rfl hr.units) (pv 0) (pe_tupZ (pa_nil)) (nomark _))
 (pss_one (ps_ret (pe_tupZ (pa_nil))))
 (pss_nil))
 (pss_cons (ps_set (i := 2) sc_inputs_at.nd rfl (Or.inl rfl) (pe_lst (pa_nil)))
 (pss_cons (ps_for (passes_of rfl) rfl (pi_zipM K rfl (by rfl) T.z_zip (pa_cons (pv 0) (pa_cons (pe_fn O_dealt (hr.mono (by omega)) (by rfl) (pa_cons (pv 1) (pa_cons (pe_callB (lenG K rfl) (by rfl) T.z_len boot_len (pa_cons (pv 0) (pa_nil))) (pa_nil)))) pa_nil))) (pgT K rfl 2 rfl (pgs_cons (pg_nameL (i := 3) sc_inputs_at.nd rfl rfl) (pgs_cons (pg_nameL (i := 4) sc_inputs_at.nd rfl rfl) (pgs_nil))))
 (pss_one (ps_expr (appK K rfl (pv 2) (pe_ifExp (pt_cmpR (eqG K rfl hr.units) (pe_ix (ixG K rfl (u65 hr.toRoom)) (pv 3) (pe_int) (fun _ _ => rfl)) (pe_str) (nomark _)) (pe_fn O_row_at (hr.mono (by omega)) (by rfl) (pa_cons (pv 4) (pa_nil))) (pe_fn O_whole_at (hr.mono (by omega)) (by rfl) (pa_cons (pv 4) (pa_nil))))))))
 (pss_one (ps_ret (pe_callTy (tupQ K rfl) (by rfl) T.z_tuple boot_tuple (pa_cons (pv 2) pa_nil)))))))),
 (simS_seq (simS_if (simT_or (simT_not (simT_B (sim_call (simA_cons (sim_var 1 (nm rfl)) (simA_nil))))) (simT_or (simT_test (sim_op (opA_cmp _) (sim_var 1 (nm rfl)) (sim_int _))) (simT_and (simT_test (sim_op opA_eq (sim_var 0 (nm rfl)) (sim_tup (by decide) (simA_nil)))) (simT_test (sim_op (opA_cmp _) (sim_var 1 (nm rfl)) (sim_int _))))))
 (simS_raise)
 (simS_next))
 (simS_seq (simS_if (simT_test (sim_op opA_eq (sim_var 0 (nm rfl)) (sim_tup (by decide) (simA_nil))))
 (simS_ret (Sim.toE (sim_tup (by decide) (simA_nil))))
 (simS_next))
 (simS_seq (simS_setM 2 (ym rfl) (nb rfl) (sim_lst (by decide) (simA_nil)))
 (simS_cut (simS_for (simI_zipM (sim_var 0 (nm rfl)) (sim_call (simA_cons (sim_var 1 (nm rfl)) (simA_cons (sim_cb caA_len (simA_cons (sim_var 0 (nm rfl)) (simA_nil))) (simA_nil))))) (simG_tup (simGs_cons (simG_name 3 (nm rfl) (np rfl)) (simGs_cons (simG_name 4 (nm rfl) (np rfl)) (simGs_nil))))
 (simS_drop (sim_mt 2 (ym rfl) mtA_app (simA_cons (sim_if (simT_test (sim_op opA_eq (opA_ix (sim_var 3 (nm rfl)) (sim_int _)) (sim_str _))) (Sim.toE (sim_call (simA_cons (sim_var 4 (nm rfl)) (simA_nil)))) (Sim.toE (sim_call (simA_cons (sim_var 4 (nm rfl)) (simA_nil))))) simA_nil))))
 (simS_ret (Sim.toE (sim_cbM 2 (ym rfl) caA_tup))))))), ?_⟩
  rintro ds Q X hl ⟨L, d, rfl, hL, q⟩
  rcases q with ⟨k, rfl, hk0, hk, q⟩ | ⟨hb, hX⟩
  · refine seqN (tst_or (x := false) (tst_not (x := true) fun Q q => ⟨_, rfl, q⟩) fun _ => tst_or (x := false) (fun Q q => ?_) fun _ => ?_) ?_
    · rw [← decide_eq_false (show ¬ (k : Int) < 0 by omega)] at q
      exact q
    · refine (show (nilB L && decide ((k : Int) > 0)) = false from ?_) ▸ tst_and (tst_ex (exv_nilT hL fun Q q => q)) fun _ Q q => q
      cases L with
      | nil => rw [hk0 rfl]; rfl
      | cons l L => rfl
    refine seqIf (tst_ex (exv_nilT hL fun Q q => q)) (fun h => ?_) (fun h => ?_)
    · cases L with
      | nil => exact q
      | cons l L => exact nomatch h
    have hm : 0 < L.length := by
      cases L with
      | nil => exact nomatch h
      | cons l L => exact Nat.succ_pos _
    refine seqSetMX (d := .list []) (fun Q q => q) rfl (cutThru ?_)
    have hll : (L.map ltD).length = L.length := List.length_map ..
    refine ⟨k, L.length, by rw [← hll] <;> rfl, hm, by have := hL.len; omega, Nat.lt_of_lt_of_le hk (Nat.pow_le_pow_right (by decide) (by decide)), ?_⟩
    refine ⟨by rw [nD_len, dlN_len, hll], ?_⟩
    rw [items_zip]
    obtain ⟨zs, hzs⟩ : ∃ zs, zs = L.zip (dlN L.length k) := ⟨_, rfl⟩
    rw [← hzs]
    have hzl : zs.length ≤ 4 := by
      rw [hzs, List.length_zip]
      have := hL.len
      omega
    refine forD_ind (fun a s => ∃ o3 o4, s = { δ := [some (ltsD L), some (.int (k : Int)), some (.list ((zs.take a).map fun p => thD p.1.2 p.2)), o3, o4], n := 0 }) ⟨none, none, rfl⟩ ?_ ?_
    · rintro a d s N hd ⟨o3, o4, rfl⟩ hN
      rw [List.getElem?_map, Option.map_eq_some_iff] at hd
      obtain ⟨⟨l, v⟩, hv, rfl⟩ := hd
      have hmem : (l, v) ∈ L.zip (dlN L.length k) := hzs ▸ List.mem_of_getElem? hv
      have hvk : v < 2 ^ 4000 := by
        obtain ⟨_, m2⟩ := List.of_mem_zip hmem
        obtain ⟨j, hj⟩ := List.getElem?_of_mem m2
        exact dlN_lt hk hj
      have hal : a < zs.length := (List.getElem?_eq_some_iff.mp hv).1
      refine ⟨rfl, ⟨_, rfl⟩, ?_⟩
      refine exv_if (d := thD l.2 v) (tst_kind (l := l) rfl) (fun h Q q => ⟨v, rfl, hvk, ?_⟩) (fun h Q q => ⟨v, rfl, Nat.lt_of_lt_of_le hvk (Nat.pow_le_pow_right (by decide) (by decide)), ?_⟩) _ ⟨?_, hN _ ⟨some (ltD l), some (.int (v : Int)), ?_⟩⟩
      · rw [List.length_map, List.length_take, sizeLine_eq]
        omega
      · rw [take_snoc hv, List.map_append]
        rfl
      · rw [show l.2 = _ from h] at q; exact q
      · rw [show l.2 = _ from h] at q; exact q
    · rintro s ⟨o3, o4, rfl⟩
      rw [List.length_map, List.take_length, hzs]
      exact q
  · by_cases hi : ∃ i, d = .int i
    · obtain ⟨i, rfl⟩ := hi
      refine seqY (tst_or (x := false) (tst_not (x := true) fun Q q => ⟨_, rfl, q⟩) fun _ => ?_) hX
      by_cases h0 : i < 0
      · refine tst_or (x := true) (y := true) (fun Q q => ?_) fun z => nomatch z
        rw [← decide_eq_true h0] at q
        exact q
      · rcases hb with h | ⟨rfl, h⟩
        · exact absurd h h0
        · refine tst_or (x := false) (y := true) (fun Q q => ?_) fun _ => tst_and (y := true) (tst_ex (exv_nilT hL fun Q q => q)) fun _ Q q => ?_
          · rw [← decide_eq_false h0] at q
            exact q
          · rw [← decide_eq_true h] at q
            exact q
    · refine seqY (tst_or (x := true) (y := true) (tst_not (x := false) fun Q q => ⟨d, rfl, ?_⟩) fun z => nomatch z) hX
      have : isNumB d = false := by
        cases d <;> first | rfl | exact absurd ⟨_, rfl⟩ hi
      rw [this]
      exact q
end

/-! ### number_of -/
def fitB (b : Bool) (e : D) : Bool := if b then isRowB e else isNumB e
def badI (L : List Lt) (d : D) : Prop := (∀ es, d ≠ .tuple es) ∨ ∃ es, d = .tuple es ∧ (es.length ≠ L.length ∨ (es.length = L.length ∧ ∃ (i : Nat) (l : Lt) (e : D) (ns : List Nat), L[i]? = some l ∧ es[i]? = some e ∧ fitB l.2 e = false ∧ ns.length = L.length ∧ (∀ n ∈ ns, n < 2 ^ 4000) ∧ es.take i = (inpL L ns).take i))
def nuX : DFX := fun ds Q X => ∃ (L : List Lt) (d : D), ds = [ltsD L, d] ∧ OkL L ∧ ((∃ k : Nat, d = .tuple (inpL L (dlN L.length k)) ∧ (L = [] → k = 0) ∧ k < 2 ^ 4000 ∧ Q (.int (k : Int))) ∨ (badI L d ∧ X))
theorem thD_fit (b : Bool) (n : Nat) : fitB b (thD b n) = true := by
  cases b with
  | true => exact rowO_row _
  | false => rfl
theorem prD_at {L : List Lt} {es : List D} {a : Nat} {d : D} (h : (prD (L.map ltD) es)[a]? = some d) : ∃ l e, L[a]? = some l ∧ es[a]? = some e ∧ d = .tuple [ltD l, e] := by
  unfold prD at h
  rw [List.getElem?_map, Option.map_eq_some_iff] at h
  obtain ⟨⟨x, e⟩, h, rfl⟩ := h
  obtain ⟨h1, h2⟩ := List.getElem?_zip_eq_some.mp h
  rw [List.getElem?_map, Option.map_eq_some_iff] at h1
  obtain ⟨l, h1, rfl⟩ := h1
  exact ⟨l, e, h1, h2, rfl⟩
theorem inpL_at {L : List Lt} {ns : List Nat} {a : Nat} {l : Lt} (hl : L[a]? = some l) (hn : ns.length = L.length) : ∃ v, ns[a]? = some v ∧ (inpL L ns)[a]? = some (thD l.2 v) := by
  have h1 := (List.getElem?_eq_some_iff.mp hl).1
  have h2 : ns[a]? = some ns[a] := List.getElem?_eq_getElem (by omega)
  refine ⟨_, h2, ?_⟩
  unfold inpL
  rw [List.getElem?_map, List.getElem?_zip_eq_some (z := (l, ns[a])) |>.mpr ⟨hl, h2⟩]
  rfl
theorem inpL_len {L : List Lt} {ns : List Nat} (hn : ns.length = L.length) : (inpL L ns).length = L.length := by
  unfold inpL
  rw [List.length_map, List.length_zip]
  omega
theorem tst_kindN {i : Nat} {s : S} {l : Lt} (hs : s.δ[i]? = some (some (ltD l))) : Tst (dBl (dOp eqD (dOp ixD (dV i) (dC (.int 1))) (dC (.str (Str.ofString "number"))))) s (!l.2) := by
  have key : Exv (dOp ixD (dV i) (dC (.int 1))) s (.str (kdS l.2)) := fun Q q => by
    unfold dOp dV
    simp only [hs]
    exact ix_ok 1 rfl rfl q
  intro Q q
  refine key _ ?_
  cases h : l.2 with
  | true => rw [h] at q; exact q
  | false => rw [h] at q; exact q
section
variable {P : Program} {w : World} {K : PySem.W.Frag} {mg : Str → Option Value} {base : Heap} {CX CB : Addr}
theorem ok_number_of (T : Tx K mg) (TX : X_NoInputs K mg CX CB) (O_is_number : Ok P w K mg base 1 "is_number" ["thing"] (spN K 1 .E numF)) (O_is_inner_row : Ok P w K mg base 2 "is_inner_row" ["thing"] (spN K 1 .E rowBF)) (O_whole_number : Ok P w K mg base 1 "whole_number" ["whole"] (spN K 1 .F wnF)) (O_row_number : Ok P w K mg base 2 "row_number" ["row"] (spN K 1 .E rnF)) (O_gathered : Ok P w K mg base 1 "gathered" ["numbers"] (spN K 1 .E gaD)) :
    OkX P w K mg base 3 "number_of" ["letters", "inputs"] (spX K CX 2 .E nuX) := by
  refine OkX.ofX (M := [2]) CX T.d_number_of sc_number_of rfl (by decide) fun f cdv A outer s H E hr => ⟨_, _, (pss_cons (ps_if (PW.pt (pw_or (pt_not (pt_val (pe_callB (isiK K rfl) (by rfl) T.z_isinstance boot_isi (pa_cons (pv 1) (pa_cons (pe_bltn (v := .ty "tuple") (by rfl) T.z_tuple boot_tuple rfl) pa_nil))))) (pw_or1 (pt_cmpR (neG K rfl hr.units) (pe_callB (lenG K rfl) (by rfl) T.z_len boot_len (pa_cons (pv 1) (pa_nil))) (pe_callB (lenG K rfl) (by rfl) T.z_len boot_len (pa_cons (pv 0) (pa_nil))) (nomark _)))))
 (pss_one (ps_raise rfl (takes_of rfl rfl rfl rfl) (pmk_own PySem.F.excBase_ValueError TX.c.x TX.c.g TX.c.kp (raises_own TX.c.b TX.c.t) rfl)))
 (pss_nil))
 (pss_cons (ps_set (i := 2) sc_number_of.nd rfl (Or.inl rfl) (pe_lst (pa_nil)))
 (pss_cons (ps_for (passes_of rfl) rfl (piZ K rfl (by rfl) T.z_zip (pa_cons (pv 0) (pa_cons (pv 1) pa_nil))) (pgT K rfl 2 rfl (pgs_cons (pg_nameL (i := 3) sc_number_of.nd rfl rfl) (pgs_cons (pg_nameL (i := 4) sc_number_of.nd rfl rfl) (pgs_nil))))
 (pss_one (ps_if (PW.pt (pw_and (pt_cmpR (eqG K rfl hr.units) (pe_ix (ixG K rfl (u65 hr.toRoom)) (pv 3) (pe_int) (fun _ _ => rfl)) (pe_str) (nomark _)) (pw_and1 (pt_val (pe_fn O_is_inner_row (hr.mono (by omega)) (by rfl) (pa_cons (pv 4) (pa_nil)))))))
 (pss_one (ps_expr (appK K rfl (pv 2) (pe_fn O_row_number (hr.mono (by omega)) (by rfl) (pa_cons (pv 4) (pa_nil))))))
 (pss_one (ps_if (PW.pt (pw_and (pt_cmpR (eqG K rfl hr.units) (pe_ix (ixG K rfl (u65 hr.toRoom)) (pv 3) (pe_int) (fun _ _ => rfl)) (pe_str) (nomark _)) (pw_and1 (pt_val (pe_fn O_is_number (hr.mono (by omega)) (by rfl) (pa_cons (pv 4) (pa_nil)))))))
 (pss_one (ps_expr (appK K rfl (pv 2) (pe_fn O_whole_number (hr.mono (by omega)) (by rfl) (pa_cons (pv 4) (pa_nil))))))
 (pss_one (ps_raise rfl (takes_of rfl rfl rfl rfl) (pmk_own PySem.F.excBase_ValueError TX.c.x TX.c.g TX.c.kp (raises_own TX.c.b TX.c.t) rfl))))))))
 (pss_one (ps_ret (pe_fn O_gathered (hr.mono (by omega)) (by rfl) (pa_cons (pv 2) (pa_nil)))))))),
 (simS_seq (simS_if (simT_or (simT_not (simT_B (sim_isi .tuple (sim_var 1 (nm rfl))))) (simT_test (sim_op opA_ne (sim_cb caA_len (simA_cons (sim_var 1 (nm rfl)) (simA_nil))) (sim_cb caA_len (simA_cons (sim_var 0 (nm rfl)) (simA_nil))))))
 (simS_raise)
 (simS_next))
 (simS_seq (simS_setM 2 (ym rfl) (nb rfl) (sim_lst (by decide) (simA_nil)))
 (simS_cut (simS_for (simI_zip (sim_var 0 (nm rfl)) (sim_var 1 (nm rfl))) (simG_tup (simGs_cons (simG_name 3 (nm rfl) (np rfl)) (simGs_cons (simG_name 4 (nm rfl) (np rfl)) (simGs_nil))))
 (simS_if (simT_and (simT_test (sim_op opA_eq (opA_ix (sim_var 3 (nm rfl)) (sim_int _)) (sim_str _))) (simT_B (sim_call (simA_cons (sim_var 4 (nm rfl)) (simA_nil)))))
 (simS_drop (sim_mt 2 (ym rfl) mtA_app (simA_cons (sim_call (simA_cons (sim_var 4 (nm rfl)) (simA_nil))) simA_nil)))
 (simS_if (simT_and (simT_test (sim_op opA_eq (opA_ix (sim_var 3 (nm rfl)) (sim_int _)) (sim_str _))) (simT_B (sim_call (simA_cons (sim_var 4 (nm rfl)) (simA_nil)))))
 (simS_drop (sim_mt 2 (ym rfl) mtA_app (simA_cons (sim_call (simA_cons (sim_var 4 (nm rfl)) (simA_nil))) simA_nil)))
 (simS_raise))))
 (simS_ret (Sim.toE (sim_callO (simO'_own (ym rfl) (simA_nil)))))))), ?_⟩
  rintro ds Q X hl ⟨L, d, rfl, hL, q⟩
  have hL4 := hL.len
  have hll : (L.map ltD).length = L.length := List.length_map ..
  have head : ∀ es : List D, d = .tuple es → es.length = L.length → ∀ (Rest : DSt) (st : DSt) (En : DEnds) , Rest En { δ := [some (ltsD L), some d, none, none, none], n := 0 } →
      dSeq (dIfS (dOr (dNot (dBl (dIsi .tuple (dV 1)))) (dBl (dOp neD (dCB lenD (dCons (dV 1) dNil)) (dCB lenD (dCons (dV 0) dNil))))) st dNext) Rest En { δ := [some (ltsD L), some d, none, none, none], n := 0 } := fun es e he Rest st En h => by
    subst e
    refine seqN (tst_or (x := false) (tst_not (x := true) fun Q q => q) fun _ Q q => ?_) h
    have : (!decide ((es.length : Int) = ((L.map ltD).length : Int))) = false := by rw [decide_eq_true (by omega)]; rfl
    rw [← this] at q
    exact q
  have step : ∀ (En : DEnds) (a : Nat) (l : Lt) (v : Nat) (dd : D) (ns : List Nat) (o3 o4 : Option D) (A1 : DSt), ns[a]? = some v → v < 2 ^ 4000 → a < 4 →
      (∀ o3 o4, En.nx { δ := [some (ltsD L), some dd, some (.list (nD (ns.take (a + 1)))), o3, o4], n := 0 }) →
      dIfS (dAnd (dBl (dOp eqD (dOp ixD (dV 3) (dC (.int 1))) (dC (.str (Str.ofString "row"))))) (dBl (dCall rowBF (dCons (dV 4) dNil)))) (dDrop (dMt appM 2 (dCons (dCall rnF (dCons (dV 4) dNil)) dNil)))
        (dIfS (dAnd (dBl (dOp eqD (dOp ixD (dV 3) (dC (.int 1))) (dC (.str (Str.ofString "number"))))) (dBl (dCall numF (dCons (dV 4) dNil)))) (dDrop (dMt appM 2 (dCons (dCall wnF (dCons (dV 4) dNil)) dNil))) A1)
        En { δ := [some (ltsD L), some dd, some (.list (nD (ns.take a))), some (ltD l), some (thD l.2 v)], n := 0 } := by
    intro En a l v dd ns o3 o4 A1 hv hvk ha hN
    have hsz : (nD (ns.take a)).length < sizeLine := by
      rw [nD_len, List.length_take, sizeLine_eq]
      omega
    have hnx : nD (ns.take a) ++ [.int (v : Int)] = nD (ns.take (a + 1)) := by
      rw [take_snoc hv]
      unfold nD
      rw [List.map_append]
      rfl
    cases hb : l.2 with
    | true =>
      refine ifS_either (k := true) (tst_and (x := true) (hb ▸ tst_kind (l := l) rfl) fun _ Q q => ⟨_, rfl, ?_⟩) (fun _ => ⟨⟨_, rfl⟩, rowW v, v, rfl, rowW_num v, hvk, hsz, ?_⟩) fun z => nomatch z
      · rw [show isRowB (thD true v) = true from rowO_row _]
        exact q
      · rw [hnx]
        exact hN _ _
    | false =>
      refine ifS_either (k := false) (tst_and (x := false) (y := true) (hb ▸ tst_kind (l := l) rfl) fun z => nomatch z) (fun z => nomatch z) fun _ => ?_
      refine ifS_either (k := true) (tst_and (x := true) (show Tst _ _ (!false) from hb ▸ tst_kindN (l := l) rfl) fun _ Q q => ⟨_, rfl, q⟩) (fun _ => ⟨⟨_, rfl⟩, wA v, rfl, Nat.lt_of_lt_of_le (wA_lt hvk (by decide)) (Nat.pow_le_pow_right (by decide) (by decide)), hsz, ?_⟩) fun z => nomatch z
      rw [wN_wA, hnx]
      exact hN _ _
  rcases q with ⟨k, rfl, hk0, hk, q⟩ | ⟨hb, hX⟩
  · have hes := inpL_len (dlN_len L.length k)
    refine head _ rfl hes _ _ _ ?_
    refine seqSetMX (d := .list []) (fun Q q => q) rfl (cutThru ?_)
    refine forD_ind (fun a s => ∃ o3 o4, s = { δ := [some (ltsD L), some (.tuple (inpL L (dlN L.length k))), some (.list (nD ((dlN L.length k).take a))), o3, o4], n := 0 }) ⟨none, none, rfl⟩ ?_ ?_
    · rintro a d s N hd ⟨o3, o4, rfl⟩ hN
      obtain ⟨l, e, h1, h2, rfl⟩ := prD_at hd
      obtain ⟨v, h3, h4⟩ := inpL_at h1 (dlN_len L.length k)
      rw [h4] at h2
      cases Option.some.inj h2
      have := (List.getElem?_eq_some_iff.mp h1).1
      exact ⟨rfl, step _ a l v _ _ o3 o4 _ h3 (dlN_lt hk h3) (by omega) fun o3 o4 => hN _ ⟨o3, o4, rfl⟩⟩
    · rintro s ⟨o3, o4, rfl⟩
      have hlen : (prD (L.map ltD) (inpL L (dlN L.length k))).length = L.length := by rw [zip_len, hll, hes, Nat.min_self]
      rw [hlen, List.take_of_length_le (by rw [dlN_len]; exact Nat.le_refl _)]
      refine ⟨⟨_, rfl⟩, ?_⟩
      refine ⟨k, L.length, rfl, fun h => hk0 (List.eq_nil_of_length_eq_zero h), by omega, Nat.lt_of_lt_of_le hk (Nat.pow_le_pow_right (by decide) (by decide)), rfl, q⟩
  · rcases hb with hb | ⟨es, rfl, hb | ⟨hes, i, l, e, ns, h1, h2, h3, h4, h5, h6⟩⟩
    · refine seqY (tst_or (x := true) (y := true) (tst_not (x := false) fun Q q => ?_) fun z => nomatch z) hX
      cases d <;> first | exact q | exact absurd rfl (hb _)
    · refine seqY (tst_or (x := false) (y := true) (tst_not (x := true) fun Q q => q) fun _ Q q => ?_) hX
      have : (!decide ((es.length : Int) = ((L.map ltD).length : Int))) = true := by rw [decide_eq_false (by omega)]; rfl
      rw [← this] at q
      exact q
    · refine head _ rfl hes _ _ _ ?_
      refine seqSetMX (d := .list []) (fun Q q => q) rfl (cutThru ?_)
      refine forD_ind (fun a s => a ≤ i ∧ ∃ o3 o4, s = { δ := [some (ltsD L), some (.tuple es), some (.list (nD (ns.take a))), o3, o4], n := 0 }) ⟨Nat.zero_le _, none, none, rfl⟩ ?_ ?_
      · rintro a d s N hd ⟨hai, o3, o4, rfl⟩ hN
        obtain ⟨l', e', g1, g2, rfl⟩ := prD_at hd
        have := (List.getElem?_eq_some_iff.mp g1).1
        by_cases hlt : a < i
        · obtain ⟨v, h7, h8⟩ := inpL_at g1 h4
          have e1 : (es.take i)[a]? = es[a]? := List.getElem?_take_of_lt hlt
          have e2 : ((inpL L ns).take i)[a]? = (inpL L ns)[a]? := List.getElem?_take_of_lt hlt
          rw [h6, e2, h8, g2] at e1
          cases Option.some.inj e1
          exact ⟨rfl, step _ a l' v _ _ o3 o4 _ h7 (h5 v (List.mem_of_getElem? h7)) (by omega) fun o3 o4 => hN _ ⟨hlt, o3, o4, rfl⟩⟩
        · have : a = i := by omega
          subst this
          rw [h1] at g1
          rw [h2] at g2
          cases Option.some.inj g1
          cases Option.some.inj g2
          refine ⟨rfl, ?_⟩
          dsimp only [sCons, sName, sNil, List.set_cons_zero, List.set_cons_succ]
          cases hb : l.2 with
          | true =>
            rw [hb] at h3
            refine ifS_either (k := false) (tst_and (x := true) (y := false) (hb ▸ tst_kind (l := l) rfl) fun _ Q q => ⟨_, rfl, ?_⟩) (fun z => nomatch z) fun _ => ?_
            · rw [show isRowB e = false from h3]
              exact q
            · refine ifS_either (k := false) (tst_and (x := false) (y := true) (show Tst _ _ (!true) from hb ▸ tst_kindN (l := l) rfl) fun z => nomatch z) (fun z => nomatch z) fun _ => hX
          | false =>
            rw [hb] at h3
            refine ifS_either (k := false) (tst_and (x := false) (y := true) (hb ▸ tst_kind (l := l) rfl) fun z => nomatch z) (fun z => nomatch z) fun _ => ?_
            refine ifS_either (k := false) (tst_and (x := true) (y := false) (show Tst _ _ (!false) from hb ▸ tst_kindN (l := l) rfl) fun _ Q q => ⟨_, rfl, ?_⟩) (fun z => nomatch z) fun _ => hX
            rw [show isNumB e = false from h3]
            exact q
      · rintro s ⟨hai, o3, o4, rfl⟩
        have hlen : (prD (L.map ltD) es).length = L.length := by rw [zip_len, hll, hes, Nat.min_self]
        rw [hlen] at hai
        have := (List.getElem?_eq_some_iff.mp h1).1
        omega
end

/-! ### _law_same, by (int, str) -/
section
variable {P : Program} {w : World} {K : PySem.W.Frag} {mg : Str → Option Value} {base : Heap}
theorem ok__law_same (T : Tx K mg) : ∀ k : Nat, Ok P w K mg base (k + 1) "_law_same" ["_law_found", "_law_due"] (spN K 2 .E (sameF k))
  | 0 => Ok.no T.d__law_same sc__law_same (spN_no fun ds Q h => h)
  | k + 1 => by
    have O__law_same : Ok P w K mg base (k + 1) "_law_same" ["_law_found", "_law_due"] (spN K 2 .E (sameF k)) := ok__law_same T k
    refine Ok.ofN (M := []) T.d__law_same sc__law_same rfl (by decide) fun f cdv A outer s H E hr => ⟨_, _, (pss_cons (ps_if (pt_cmpR op_isN (pv 1) (pe_non) (nomark _))
 (pss_one (ps_ret (pe_cmpR op_isN (pv 0) (pe_non) (nomark _))))
 (pss_nil))
 (pss_cons (ps_if (PW.pt (pw_or (pt_val (pe_callB (isiK K rfl) (by rfl) T.z_isinstance boot_isi (pa_cons (pv 1) (pa_cons (pe_bltn (v := .ty "bool") (by rfl) T.z_bool boot_bool rfl) pa_nil)))) (pw_or1 (pt_val (pe_callB (isiK K rfl) (by rfl) T.z_isinstance boot_isi (pa_cons (pv 0) (pa_cons (pe_bltn (v := .ty "bool") (by rfl) T.z_bool boot_bool rfl) pa_nil)))))))
 (pss_one (ps_ret (pe_and (pe_callB (isiK K rfl) (by rfl) T.z_isinstance boot_isi (pa_cons (pv 1) (pa_cons (pe_bltn (v := .ty "bool") (by rfl) T.z_bool boot_bool rfl) pa_nil))) (pe_and (pe_callB (isiK K rfl) (by rfl) T.z_isinstance boot_isi (pa_cons (pv 0) (pa_cons (pe_bltn (v := .ty "bool") (by rfl) T.z_bool boot_bool rfl) pa_nil))) (pe_one (pe_cmpR (eqG K rfl hr.units) (pv 0) (pv 1) (nomark _)))))))
 (pss_nil))
 (pss_cons (ps_if (pt_val (pe_callB (isiK K rfl) (by rfl) T.z_isinstance boot_isi (pa_cons (pv 1) (pa_cons (pe_bltn (v := .ty "int") (by rfl) T.z_int boot_int rfl) pa_nil))))
 (pss_one (ps_ret (pe_and (pe_callB (isiK K rfl) (by rfl) T.z_isinstance boot_isi (pa_cons (pv 0) (pa_cons (pe_bltn (v := .ty "int") (by rfl) T.z_int boot_int rfl) pa_nil))) (pe_one (pe_cmpR (eqG K rfl hr.units) (pv 0) (pv 1) (nomark _))))))
 (pss_nil))
 (pss_cons (ps_if (pt_val (pe_callB (isiK K rfl) (by rfl) T.z_isinstance boot_isi (pa_cons (pv 1) (pa_cons (pe_bltn (v := .ty "str") (by rfl) T.z_str boot_str rfl) pa_nil))))
 (pss_one (ps_ret (pe_and (pe_callB (isiK K rfl) (by rfl) T.z_isinstance boot_isi (pa_cons (pv 0) (pa_cons (pe_bltn (v := .ty "str") (by rfl) T.z_str boot_str rfl) pa_nil))) (pe_one (pe_cmpR (eqG K rfl hr.units) (pv 0) (pv 1) (nomark _))))))
 (pss_nil))
 (pss_cons (ps_if (PW.pt (pw_or (pt_cmpR (neG K rfl hr.units) (pe_callB (isiK K rfl) (by rfl) T.z_isinstance boot_isi (pa_cons (pv 1) (pa_cons (pe_bltn (v := .ty "tuple") (by rfl) T.z_tuple boot_tuple rfl) pa_nil))) (pe_callB (isiK K rfl) (by rfl) T.z_isinstance boot_isi (pa_cons (pv 0) (pa_cons (pe_bltn (v := .ty "tuple") (by rfl) T.z_tuple boot_tuple rfl) pa_nil))) (nomark _)) (pw_or1 (pt_cmpR (neG K rfl hr.units) (pe_callB (isiK K rfl) (by rfl) T.z_isinstance boot_isi (pa_cons (pv 1) (pa_cons (pe_bltn (v := .ty "list") (by rfl) T.z_list boot_list rfl) pa_nil))) (pe_callB (isiK K rfl) (by rfl) T.z_isinstance boot_isi (pa_cons (pv 0) (pa_cons (pe_bltn (v := .ty "list") (by rfl) T.z_list boot_list rfl) pa_nil))) (nomark _)))))
 (pss_one (ps_ret (pe_bl)))
 (pss_nil))
 (pss_cons (ps_if (pt_cmpR (neG K rfl hr.units) (pe_callB (lenG K rfl) (by rfl) T.z_len boot_len (pa_cons (pv 0) (pa_nil))) (pe_callB (lenG K rfl) (by rfl) T.z_len boot_len (pa_cons (pv 1) (pa_nil))) (nomark _))
 (pss_one (ps_ret (pe_bl)))
 (pss_nil))
 (pss_one (ps_ret (pe_cmpR (ninG K rfl (u65 hr.toRoom)) (pe_bl) (pe_lc (own := [("_law_one", 2), ("_law_other", 3)]) rfl sc__law_same.nd (piZ K rfl (by rfl) T.z_zip (pa_cons (pv 0) (pa_cons (pv 1) pa_nil))) (blkOk_by (own := [("_law_one", 2), ("_law_other", 3)]) (N := ["_law_found", "_law_due", "_law_one", "_law_other"]) (sc := defScope s__law_same) (by decide +kernel)) (fun _ _ _ _ _ => pgT K rfl 2 rfl (pgs_cons (pg_nameL (i := 2) sc__law_same.nd rfl rfl) (pgs_cons (pg_nameL (i := 3) sc__law_same.nd rfl rfl) (pgs_nil)))) (fun _ _ _ _ _ => pts_nil) (fun _ _ _ _ _ => pe_fn O__law_same (hr.mono (by omega)) (by rfl) (pa_cons (pv 2) (pa_cons (pv 3) (pa_nil))))) (by rfl)))))))))),
 (simS_seq (simS_if (simT_test (sim_op opA_isN (sim_var 1 (nm rfl)) (sim_non)))
 (simS_ret (Sim.toE (sim_op opA_isN (sim_var 0 (nm rfl)) (sim_non))))
 (simS_next))
 (simS_seq (simS_if (simT_or (simT_B (sim_isi .bool (sim_var 1 (nm rfl)))) (simT_B (sim_isi .bool (sim_var 0 (nm rfl)))))
 (simS_ret (Sim.toE (sim_andV (sim_isi .bool (sim_var 1 (nm rfl))) (sim_andV (sim_isi .bool (sim_var 0 (nm rfl))) (sim_op opA_eq (sim_var 0 (nm rfl)) (sim_var 1 (nm rfl)))))))
 (simS_next))
 (simS_seq (simS_if (simT_B (sim_isi .int (sim_var 1 (nm rfl))))
 (simS_ret (Sim.toE (sim_andV (sim_isi .int (sim_var 0 (nm rfl))) (sim_op opA_eq (sim_var 0 (nm rfl)) (sim_var 1 (nm rfl))))))
 (simS_next))
 (simS_seq (simS_if (simT_B (sim_isi .str (sim_var 1 (nm rfl))))
 (simS_ret (Sim.toE (sim_andV (sim_isi .str (sim_var 0 (nm rfl))) (sim_op opA_eq (sim_var 0 (nm rfl)) (sim_var 1 (nm rfl))))))
 (simS_next))
 (simS_seq (simS_if (simT_or (simT_test (sim_op opA_ne (sim_isi .tuple (sim_var 1 (nm rfl))) (sim_isi .tuple (sim_var 0 (nm rfl))))) (simT_test (sim_op opA_ne (sim_isi .list (sim_var 1 (nm rfl))) (sim_isi .list (sim_var 0 (nm rfl))))))
 (simS_ret (Sim.toE (sim_bl _)))
 (simS_next))
 (simS_seq (simS_if (simT_test (sim_op opA_ne (sim_cb caA_len (simA_cons (sim_var 0 (nm rfl)) (simA_nil))) (sim_cb caA_len (simA_cons (sim_var 1 (nm rfl)) (simA_nil)))))
 (simS_ret (Sim.toE (sim_bl _)))
 (simS_next))
 (simS_ret (Sim.toE (sim_op opA_nin (sim_bl _) (sim_lc (simI_zip (sim_var 0 (nm rfl)) (sim_var 1 (nm rfl))) (simG_tup (simGs_cons (simG_name 2 (nm rfl) (np rfl)) (simGs_cons (simG_name 3 (nm rfl) (np rfl)) (simGs_nil)))) (simT_yes) (sim_call (simA_cons (sim_var 2 (nm rfl)) (simA_cons (sim_var 3 (nm rfl)) (simA_nil)))) (inv' rfl) (nmv rfl) (npv rfl))))))))))), ?_⟩
    intro ds Q hl hF
    match ds, hl, hF with
    | [a, b], _, hF =>
    obtain ⟨rfl, hd, q⟩ := hF
    cases a with
    | none => exact q
    | bool x =>
      show Q (.bool (decide (x = x)))
      rw [decide_eq_true rfl]
      exact q
    | int x =>
      show Q (.bool (decide (x = x)))
      rw [decide_eq_true rfl]
      exact q
    | str x =>
      show Q (.bool (decide (x = x)))
      rw [decide_eq_true rfl]
      exact q
    | dict x => cases k <;> exact hd.elim
    | list xs =>
      cases k with
      | zero => exact hd.elim
      | succ k =>
      obtain ⟨hx, hd⟩ := hd
      refine ifn (by simp) ?_
      refine ⟨by rw [zip_len, Nat.min_self]; exact hx, lcD_ind (fun i acc s => acc = List.replicate i (.bool true) ∧ s = { δ := [some (.list xs), some (.list xs), none, none], n := 0 }) ⟨rfl, rfl⟩ ?_ ?_⟩
      · rintro i d acc s N hi ⟨rfl, rfl⟩ hN
        obtain ⟨x, y, e1, e2, rfl⟩ := prD_get hi
        rw [e1] at e2
        cases e2
        refine ⟨rfl, rfl, hd x (List.mem_of_getElem? e1), ?_⟩
        exact hN _ _ ⟨by rw [← List.replicate_succ'], rfl⟩
      · rintro acc s ⟨rfl, rfl⟩
        exact nin_true q
    | tuple xs =>
      cases k with
      | zero => exact hd.elim
      | succ k =>
      obtain ⟨hx, hd⟩ := hd
      refine ifn (by simp) ?_
      refine ⟨by rw [zip_len, Nat.min_self]; exact hx, lcD_ind (fun i acc s => acc = List.replicate i (.bool true) ∧ s = { δ := [some (.tuple xs), some (.tuple xs), none, none], n := 0 }) ⟨rfl, rfl⟩ ?_ ?_⟩
      · rintro i d acc s N hi ⟨rfl, rfl⟩ hN
        obtain ⟨x, y, e1, e2, rfl⟩ := prD_get hi
        rw [e1] at e2
        cases e2
        refine ⟨rfl, rfl, hd x (List.mem_of_getElem? e1), ?_⟩
        exact hN _ _ ⟨by rw [← List.replicate_succ'], rfl⟩
      · rintro acc s ⟨rfl, rfl⟩
        exact nin_true q
end

/-! ### _law_anew: the pen's third cell set to 0 -/
def spAnew : Sp := fun vs H Q _ => ∃ (p c : Addr) (n : Nat), vs = [.ref p] ∧ Pen H p c n ∧ ∀ H', But p H H' → Pen H' p c n → Q (.ref p) H'
section
variable {P : Program} {w : World} {K : PySem.W.Frag} {mg : Str → Option Value} {base : Heap}
theorem ok__law_anew (T : Tx K mg) : Ok P w K mg base 1 "_law_anew" ["_law_pen"] spAnew := by
  refine Ok.mk T.d__law_anew sc__law_anew (fun vs H Q E h => ?_) (fun f cdv A outer s H vs Q E hr h => ?_)
  · obtain ⟨p, c, n, rfl, _⟩ := h
    rfl
  obtain ⟨p, c, n, rfl, ⟨⟨a, r, ep, a0, a1, r0⟩, ⟨ns, ec⟩, ncp⟩, q⟩ := h
  refine ⟨_, (pss_cons (ps_asg (pe_int) (pg_sub (pv 0) (pe_int) set_list))
 (pss_one (ps_ret (pv 0)))), ?_⟩
  refine ⟨_, rfl, p, _, _, _, rfl, rfl, ep, ixN_of 2 rfl (by show 2 < 3; decide), _, rfl, ?_⟩
  exact q _ But.upd ⟨⟨a, 0, upd_same, a0, a1, by decide⟩, ⟨ns, by rw [upd_ne ncp]; exact ec⟩, ncp⟩
end
section
variable {C : Cf} {cat : Cat}
/-- take(anew(pen), ..) -/
theorem sim_callPA {n : Nat} {F : DFP} {ta : TA} {a : DA} {i : Nat} (hp : C.pen ≠ none) (hi : C.ps = i) (h : SimA C n ta a) (hk : C.pk = .draw := by rfl) : Sim C cat (tCall (spP C.K n cat F) [] E0 (tCons (tCall spAnew [] E0 (tCons (tVar i) tNil)) ta)) (dCallP F a) := by
  refine ⟨fun H0 S0 Hs σ H s Q Q' r q k => ?_⟩
  obtain ⟨⟨p, c⟩, ep⟩ : ∃ pc, C.pen = some pc := by
    cases e : C.pen with
    | none => exact absurd e hp
    | some pc => exact ⟨pc, rfl⟩
  subst hi
  obtain ⟨f1, f2, f3, _⟩ := r.pn p c ep
  rw [hk] at f2
  refine ⟨.ref p, f1, ?_⟩
  refine ⟨p, c, s.n, rfl, f2, fun Ha bt pe => ?_⟩
  have sb : Same Hs Ha := fun b o e => bt _ _ (fun z => by rw [z, f3] at e; cases e) (r.sub _ _ e)
  obtain ⟨r', g'⟩ := r.stepP (y := s.h) ep (Same.refl Hs) sb bt (fun b e1 e2 => absurd e1 e2) f3 (by rw [hk]; exact pe)
  refine h.run H0 S0 Hs σ Ha s _ _ r' q fun Hs1 H1 vs ds s1 g1 r1 v1 l1 q1 => ?_
  show spP C.K n cat F ((V.ref p :: vs) ++ []) H1 Q' E0
  rw [List.append_nil]
  obtain ⟨e1, e2, e3, e4⟩ := r1.pn p c ep
  rw [hk] at e2
  refine ⟨Hs1, p, c, s1.n, vs, ds, _, rfl, e2, e3, r1.sub, v1, l1, q1, fun d k' Hs' H' v q2 st sb hh nw np pe rv => ?_⟩
  obtain ⟨r2, g2⟩ := r1.stepP (y := s1.h) ep st sb hh nw np (by rw [hk]; exact pe)
  exact k Hs' H' v d _ (g'.trans (g1.trans g2)) r2 ((rv.val r1).anew fun a e => (g'.trans g1).back a e) q2
end

/-! ### _law_same, _law_letters, _law_some_number -/
section
variable {P : Program} {w : World} {K : PySem.W.Frag} {mg : Str → Option Value} {base : Heap}
theorem tkk {z : Int} {n : Nat} {Q : D → Nat → Prop} (hn : n ≤ 1000100) (h0 : 0 < z) (h1 : z.natAbs < 2 ^ 100) (k : ∀ j : Nat, (j : Int) < z → Q (.int (j : Int)) (n + 1)) : takeF [.int z] n Q :=
  ⟨by have := pen9; omega, h0, Nat.lt_of_lt_of_le h1 (Nat.pow_le_pow_right (by decide) (by decide)), fun r r0 r1 => by
    obtain ⟨j, rfl⟩ : ∃ j : Nat, r = (j : Int) := ⟨r.toNat, by omega⟩
    exact k j r1⟩
def nmsL (xs : List Str) : D := .list (xs.map .str)
def letF : DFP := fun ds m Q => ∃ (ns : List Str), ds = [nmsL ns] ∧ ns.length = 4 ∧ (∀ z ∈ ns, PyData.strOk z = true) ∧ m ≤ 1000000 ∧ ∀ (L : List Lt) (m' : Nat), OkL L → m' ≤ m + 5 → Q (ltsD L) m'
theorem ok__law_letters (T : Tx K mg) (O__law_take : Ok P w K mg base 2 "_law_take" ["_law_pen", "_law_many"] (spP K 1 .E takeF)) : Ok P w K mg base 3 "_law_letters" ["_law_pen", "_law_names"] (spP K 1 .E letF) := by
  refine Ok.ofP (M := []) T.d__law_letters sc__law_letters rfl (by decide) (by decide) fun f cdv A outer s H E p c hr => ⟨_, _, (pss_one (ps_ret (pe_callTy (tupQ K rfl) (by rfl) T.z_tuple boot_tuple (pa_cons (pe_lc (own := [("_law_name", 2)]) rfl sc__law_letters.nd (piL K rfl (pe_slice (slG K rfl) (pv 1) po_none (po_some (pe_fn O__law_take (hr.mono (by omega)) (by rfl) (pa_cons (pv 0) (pa_cons (pe_int) (pa_nil))))))) (blkOk_by (own := [("_law_name", 2)]) (N := ["_law_pen", "_law_names", "_law_name"]) (sc := defScope s__law_letters) (by decide +kernel)) (fun _ _ _ _ _ => pg_nameL (i := 2) sc__law_letters.nd rfl rfl) (fun _ _ _ _ _ => pts_nil) (fun _ _ _ _ _ => pe_tupZ (pa_cons (pv 2) (pa_cons (pe_ix (ixG K rfl (u65 hr.toRoom)) (pe_lst (pa_cons (pe_str) (pa_cons (pe_str) (pa_nil)))) (pe_fn O__law_take (hr.mono (by omega)) (by rfl) (pa_cons (pv 0) (pa_cons (pe_int) (pa_nil)))) (fun _ _ => rfl)) (pa_nil))))) (pa_nil))))),
 (simS_ret (Sim.toE (sim_cb caA_tup (simA_cons (sim_lc (simI_list (sim_sl (sim_var 1 (nm rfl)) simO_none (simO_some (sim_callP (by simp) rfl (simA_cons (sim_int _) (simA_nil)))))) (simG_name 2 (nm rfl) (np rfl)) (simT_yes) (sim_tup (by decide) (simA_cons (sim_var 2 (nm rfl)) (simA_cons (opA_ix (sim_lst (by decide) (simA_cons (sim_str _) (simA_cons (sim_str _) (simA_nil)))) (sim_callP (by simp) rfl (simA_cons (sim_int _) (simA_nil)))) (simA_nil)))) (inv' rfl) (nmv rfl) (npv rfl)) (simA_nil))))), ?_⟩
  rintro ds m Q hl ⟨ns, rfl, hn, hok, hm, q⟩
  refine tkk (Nat.le_trans hm (by decide)) (by decide) (by decide) fun j hj => ?_
  show (cutD (ns.map PyData.str) none (some (j : Int))).length ≤ sizeLine ∧ lcD _ _ _ _ _ (cutD (ns.map PyData.str) none (some (j : Int))) [] _
  rw [cutD_to]
  have hil : ((ns.map PyData.str).take j).length ≤ 4 := by
    rw [List.length_take, List.length_map]
    omega
  refine ⟨by rw [sizeLine_eq]; omega, lcD_ind (fun i acc s => ∃ (L : List Lt) (m' : Nat), acc = L.map ltD ∧ L.length = i ∧ (∀ l ∈ L, PyData.strOk l.1 = true) ∧ s = { δ := [none, some (nmsL ns), none], n := m' } ∧ m' ≤ m + 1 + i) ⟨[], m + 1, rfl, rfl, (fun l h => nomatch h), rfl, by omega⟩ ?_ ?_⟩
  · rintro i d acc s N hi ⟨L, m', rfl, hL, hLk, rfl, hm'⟩ hN
    have hi4 := (List.getElem?_eq_some_iff.mp hi).1
    obtain ⟨z, hz, rfl⟩ := List.mem_map.mp (List.mem_of_mem_take (List.mem_of_getElem? hi))
    have fin : ∀ b : Bool, N (L.map ltD ++ [ltD (z, b)]) { δ := [none, some (nmsL ns), none], n := m' + 1 } := fun b => by
      refine hN _ _ ⟨L ++ [(z, b)], m' + 1, by rw [List.map_append]; rfl, by rw [List.length_append, hL]; rfl, fun l hl => ?_, rfl, by omega⟩
      rcases List.mem_append.mp hl with h | h
      · exact hLk l h
      · rw [List.mem_singleton.mp h]
        exact hok z hz
    refine tkk (show m' ≤ 1000100 by omega) (by decide) (by decide) fun r r1 => ?_
    by_cases h : r = 0
    · subst h
      exact ix_ok 0 rfl rfl (fin false)
    · have h : r = 1 := by omega
      subst h
      exact ix_ok 1 rfl rfl (fin true)
  · rintro acc s ⟨L, m', rfl, hL, hLk, rfl, hm'⟩
    exact q L m' ⟨by omega, hLk⟩ (by omega)
end

/-! ### what the inputs are like -/
mutual
def nob : D → Bool
  | .bool _ => false
  | .dict _ => false
  | .list ds => nobAll ds
  | .tuple ds => nobAll ds
  | .none => true
  | .int _ => true
  | .str _ => true
def nobAll : List D → Bool
  | [] => true
  | d :: ds => nob d && nobAll ds
end
mutual
theorem eqv_eq : ∀ x : D, nob x = true → ∀ y, nob y = true → PyData.eqv x y = true → x = y
  | .none, _, y, _, h => by cases y <;> first | rfl | (simp [PyData.eqv] at h; done)
  | .bool _, hx, _, _, _ => by simp [nob] at hx
  | .dict _, hx, _, _, _ => by simp [nob] at hx
  | .int i, _, y, hy, h => by
    cases y <;> first | (simp [PyData.eqv] at h; done) | (simp [nob] at hy; done) | skip
    simp only [PyData.eqv, beq_iff_eq] at h
    rw [h]
  | .str i, _, y, hy, h => by
    cases y <;> first | (simp [PyData.eqv] at h; done) | skip
    simp only [PyData.eqv, beq_iff_eq] at h
    rw [h]
  | .list xs, hx, y, hy, h => by
    cases y <;> first | (simp [PyData.eqv] at h; done) | skip
    rename_i ys
    simp only [PyData.eqv] at h
    rw [nob] at hx hy
    rw [eqvAll_eq xs hx ys hy h]
  | .tuple xs, hx, y, hy, h => by
    cases y <;> first | (simp [PyData.eqv] at h; done) | skip
    rename_i ys
    simp only [PyData.eqv] at h
    rw [nob] at hx hy
    rw [eqvAll_eq xs hx ys hy h]
theorem eqvAll_eq : ∀ xs : List D, nobAll xs = true → ∀ ys, nobAll ys = true → PyData.eqvAll xs ys = true → xs = ys
  | [], _, ys, _, h => by cases ys <;> first | rfl | (simp [PyData.eqvAll] at h; done)
  | x :: xs, hx, ys, hy, h => by
    cases ys with
    | nil => simp [PyData.eqvAll] at h
    | cons y ys =>
      rw [nobAll, Bool.and_eq_true] at hx hy
      rw [PyData.eqvAll, Bool.and_eq_true] at h
      rw [eqv_eq x hx.1 y hy.1 h.1, eqvAll_eq xs hx.2 ys hy.2 h.2]
end
theorem nobAll_of : ∀ {xs : List D}, (∀ x ∈ xs, nob x = true) → nobAll xs = true
  | [], _ => rfl
  | x :: xs, h => by rw [nobAll, h x (List.mem_cons_self ..), nobAll_of fun y m => h y (List.mem_cons_of_mem _ m)]; rfl
theorem plP_len : ∀ (ws : List Int) (a : Nat), (plP a ws).length ≤ ws.length
  | [], _ => Nat.le_refl _
  | w :: r, a => by
    have := plP_len r (a + 1)
    unfold plP
    split
    · rw [List.length_cons]; omega
    · rw [List.length_cons, List.length_cons]; omega
theorem rowW_len {n : Nat} (h : n < 2 ^ 4000) : (rowW n).length ≤ 4000 := by
  rcases rowW_num n with ⟨e, _⟩ | ⟨q, e, _, _⟩
  · rw [e]; exact Nat.zero_le _
  · have := (pow_len e h).1
    omega
theorem thD_nob (b : Bool) (n : Nat) : nob (thD b n) = true := by
  cases b with
  | false => show nob (.int (wA n)) = true; rw [nob]
  | true =>
    show nob (rowO (rowW n)) = true
    have : nobAll ((plP 0 (rowW n)).map ipT) = true := nobAll_of fun x m => by
      obtain ⟨q, _, rfl⟩ := List.mem_map.mp m
      simp [ipT, nob, nobAll]
    unfold rowO
    simp only [nob, nobAll, this, Bool.and_true]
theorem thD_sh (b : Bool) (n : Nat) : PyData.canLay0 (thD b n) = true ∧ PyData.depth (thD b n) ≤ 8 := by
  cases b with
  | false =>
    refine ⟨rfl, ?_⟩
    show PyData.depth (.int (wA n)) ≤ 8
    simp [PyData.depth]
  | true =>
    have := shT (h := 4) (ds := (plP 0 (rowW n)).map ipT) fun x m => by
      obtain ⟨q, _, rfl⟩ := List.mem_map.mp m
      refine ⟨rfl, ?_⟩
      simp [ipT, PyData.depth, PyData.depthAll]
    obtain ⟨h1, h2⟩ := this
    show PyData.canLay0 (rowO (rowW n)) = true ∧ PyData.depth (rowO (rowW n)) ≤ 8
    unfold rowO
    refine ⟨?_, ?_⟩
    · simp only [PyData.canLay0, PyData.canLayAll0, h1, Bool.and_true]
    · simp only [PyData.depth, PyData.depthAll]
      omega
noncomputable def inpD (L : List Lt) (k : Nat) : D := .tuple (inpL L (dlN L.length k))
theorem inpL_mem {L : List Lt} {ns : List Nat} {x : D} (h : x ∈ inpL L ns) : ∃ b n, n ∈ ns ∧ x = thD b n := by
  unfold inpL at h
  obtain ⟨p, m, rfl⟩ := List.mem_map.mp h
  exact ⟨_, _, (List.of_mem_zip (a := p.1) (b := p.2) m).2, rfl⟩
theorem inpD_nob (L : List Lt) (k : Nat) : nob (inpD L k) = true := by
  unfold inpD
  rw [nob]
  exact nobAll_of fun x m => by
    obtain ⟨b, n, _, rfl⟩ := inpL_mem m
    exact thD_nob b n
theorem inpD_sh (L : List Lt) (k : Nat) : PyData.canLay0 (inpD L k) = true ∧ PyData.depth (inpD L k) ≤ 9 := by
  obtain ⟨h1, h2⟩ := shT (h := 8) (ds := inpL L (dlN L.length k)) fun x m => by
    obtain ⟨b, n, _, rfl⟩ := inpL_mem m
    exact thD_sh b n
  unfold inpD
  refine ⟨by rw [PyData.canLay0, h1], ?_⟩
  simp only [PyData.depth]
  omega
theorem dat_row {n : Nat} (h : n < 2 ^ 4000) (b : Bool) : dat 3 (thD b n) := by
  cases b with
  | false => trivial
  | true =>
    show (2 ≤ sizeLine ∧ ∀ d ∈ [PyData.int ((rowW n).length : Int), .tuple ((plP 0 (rowW n)).map ipT)], dat 2 d)
    refine ⟨by decide, fun d m => ?_⟩
    simp only [List.mem_cons, List.not_mem_nil, or_false] at m
    rcases m with rfl | rfl
    · trivial
    · refine ⟨?_, fun d m => ?_⟩
      · rw [List.length_map, sizeLine_eq]
        have := plP_len (rowW n) 0
        have := rowW_len h
        omega
      · obtain ⟨q, _, rfl⟩ := List.mem_map.mp m
        refine ⟨by show 2 ≤ sizeLine; decide, fun d m => ?_⟩
        simp only [List.mem_cons, List.not_mem_nil, or_false] at m
        rcases m with rfl | rfl <;> trivial
theorem mem_dlN_lt {m q v b : Nat} (hq : q < 2 ^ b) (h : v ∈ dlN m q) : v < 2 ^ b := by
  obtain ⟨i, hi⟩ := List.getElem?_of_mem h
  exact dlN_lt hq hi
theorem dat_inp {L : List Lt} {k : Nat} (hL : OkL L) (h : k < 2 ^ 4000) : dat 4 (inpD L k) := by
  have := hL.len
  refine ⟨by rw [inpL_len (dlN_len _ _), sizeLine_eq]; omega, fun d m => ?_⟩
  obtain ⟨b, n, hn, rfl⟩ := inpL_mem m
  exact dat_row (mem_dlN_lt h hn) b
theorem thD_inj {b : Bool} {n n' : Nat} (h : thD b n = thD b n') : n = n' := by
  cases b with
  | false =>
    have h : wA n = wA n' := PyData.int.inj h
    rw [← wN_wA n, h, wN_wA]
  | true => exact rowW_inj (rowO_inj h)
theorem inpL_inj {L : List Lt} {ns ns' : List Nat} (h1 : ns.length = L.length) (h2 : ns'.length = L.length) (h : inpL L ns = inpL L ns') : ns = ns' := by
  refine List.ext_getElem? fun a => ?_
  by_cases ha : a < L.length
  · obtain ⟨v, e1, e2⟩ := inpL_at (List.getElem?_eq_getElem ha) h1
    obtain ⟨v', f1, f2⟩ := inpL_at (List.getElem?_eq_getElem ha) h2
    rw [h, f2] at e2
    rw [e1, f1, thD_inj (Option.some.inj e2)]
  · rw [List.getElem?_eq_none (by omega), List.getElem?_eq_none (by omega)]
theorem inpD_inj {L : List Lt} {k k' : Nat} (hL : 0 < L.length) (h : inpD L k = inpD L k') : k = k' :=
  dlN_inj hL k k' (inpL_inj (dlN_len _ _) (dlN_len _ _) (PyData.tuple.inj h))

/-! ### inputs that are drawn have numbers; bent ones -/
theorem row_num {ws : List Int} (hl : ws.length ≤ 9) (hw : ∀ w ∈ ws, w.natAbs < 2 ^ 30) : ∃ n, n < 2 ^ 300 ∧ rowO ws = thD true n := by
  by_cases h0 : ws = []
  · subst h0
    exact ⟨0, Nat.pow_pos (by decide), by show rowO [] = rowO (rowW 0); rw [rowW_of (ws := []) (.inl ⟨rfl, rfl⟩)]⟩
  · have hp : 0 < ws.length := List.length_pos_iff.mpr h0
    obtain ⟨q, hq, hE⟩ := E_some 31 (ws.map wN) (by rw [List.length_map]; exact hp) fun n m => by
      obtain ⟨w, m', rfl⟩ := List.mem_map.mp m
      exact wN_lt (hw w m')
    rw [List.length_map] at hq
    have hd : ws.map wN = dlN ws.length q := by
      have := dlN_of (m := (ws.map wN).length) (k := q) (ns := ws.map wN) rfl hE
      rw [List.length_map] at this
      exact this.symm
    refine ⟨2 ^ (ws.length - 1) * (2 * q + 1), ?_, ?_⟩
    · have h1 : q < 2 ^ 279 := Nat.lt_of_lt_of_le hq (Nat.pow_le_pow_right (by decide) (by omega))
      have h2 : 2 ^ (ws.length - 1) ≤ 2 ^ 8 := Nat.pow_le_pow_right (by decide) (by omega)
      have h3 : 2 * q + 1 < 2 ^ 280 := by omega
      refine Nat.lt_of_le_of_lt (Nat.mul_le_mul_right _ h2) (Nat.lt_of_lt_of_le (Nat.mul_lt_mul_of_pos_left h3 (Nat.pow_pos (by decide))) ?_)
      rw [← Nat.pow_add]
      exact Nat.pow_le_pow_right (by decide) (by decide)
    · show _ = rowO (rowW _)
      rw [rowW_of (ws := ws) (.inr ⟨q, rfl, hp, hd⟩)]
theorem int_num {i : Int} (h : i.natAbs < 2 ^ 42) : ∃ n, n < 2 ^ 300 ∧ PyData.int i = thD false n :=
  ⟨wN i, Nat.lt_of_lt_of_le (wN_lt h) (Nat.pow_le_pow_right (by decide) (by decide)), by show PyData.int i = .int (wA (wN i)); rw [wA_wN]⟩
theorem lst_num {L : List Lt} {ns : List Nat} (hL : OkL L) (hn : ns.length = L.length) (hb : ∀ n ∈ ns, n < 2 ^ 300) : ∃ k, (L = [] → k = 0) ∧ k < 2 ^ 4000 ∧ dlN L.length k = ns := by
  have h4 := hL.len
  by_cases h0 : L = []
  · subst h0
    exact ⟨0, fun _ => rfl, Nat.pow_pos (by decide), (List.eq_nil_of_length_eq_zero hn).symm ▸ rfl⟩
  · have hp : 0 < L.length := List.length_pos_iff.mpr h0
    obtain ⟨k, hk, hE⟩ := E_some 300 ns (by omega) hb
    exact ⟨k, fun z => absurd z h0, Nat.lt_of_lt_of_le hk (Nat.pow_le_pow_right (by decide) (by omega)), by rw [← hn]; exact dlN_of rfl hE⟩
theorem rowW_lenB {n b : Nat} (h : n < 2 ^ b) : (rowW n).length ≤ b := by
  rcases rowW_num n with ⟨e, _⟩ | ⟨q, e, h2, _⟩
  · rw [e]; exact Nat.zero_le _
  · have := (pow_len e h).1
    omega
theorem rowW_abs {n b : Nat} (h : n < 2 ^ b) (hb : 0 < b) : ∀ w ∈ rowW n, w.natAbs < 2 ^ b := fun w m => by
  rcases rowW_num n with ⟨e, _⟩ | ⟨q, e, h2, h3⟩
  · rw [e] at m; cases m
  · have hq := (pow_len e h).2
    have : wN w ∈ dlN (rowW n).length q := h3 ▸ List.mem_map.mpr ⟨w, m, rfl⟩
    exact wN_abs (mem_dlN_lt hq this) hb
theorem plP_mem : ∀ (ws : List Int) (a : Nat), ∀ q ∈ plP a ws, q.2 ∈ ws
  | [], _, q, m => nomatch m
  | w :: r, a, q, m => by
    unfold plP at m
    split at m
    · exact List.mem_cons_of_mem _ (plP_mem r (a + 1) q m)
    · rcases List.mem_cons.mp m with rfl | m
      · exact List.mem_cons_self ..
      · exact List.mem_cons_of_mem _ (plP_mem r (a + 1) q m)
theorem i300 {i : Int} (h : i.natAbs < 2 ^ 300) : i.natAbs < 10 ^ 250 := Nat.lt_trans h (by decide +kernel)
theorem thD_bt {n : Nat} (h : n < 2 ^ 300) (b : Bool) : Bt 4 200000 (thD b n) := by
  cases b with
  | false =>
    have : (wA n).natAbs < 2 ^ 300 := wA_lt h (by decide)
    exact (Bt.int (h := 4) (i300 this)).to (Nat.le_refl _) (by decide)
  | true =>
    have hl := rowW_lenB h
    have hp : (plP 0 (rowW n)).length ≤ 300 := Nat.le_trans (plP_len _ _) hl
    have one : ∀ x ∈ (plP 0 (rowW n)).map ipT, Bt 1 509 x := fun x m => by
      obtain ⟨q, m', rfl⟩ := List.mem_map.mp m
      have h1 := plP_lo _ _ q m'
      have h2 := rowW_abs h (by decide) q.2 (plP_mem _ _ q m')
      have h3 : q.1.natAbs < 2 ^ 300 := Nat.lt_of_le_of_lt (show q.1.natAbs ≤ 2 ^ 9 by omega) (Nat.pow_lt_pow_right (by decide) (by decide))
      exact ((Bt.tup (BtL.cons (h := 0) (Bt.int (i300 h3)) (BtL.cons (Bt.int (i300 h2)) (BtL.nil (t := 0))))).to (Nat.le_refl _) (by decide))
    have h4 : Bt 2 160000 (.tuple ((plP 0 (rowW n)).map ipT)) := (Bt.tup (BtL.all one)).to (Nat.le_refl _) (by rw [List.length_map]; omega)
    have h5 : ((rowW n).length : Int).natAbs < 2 ^ 300 := Nat.lt_of_le_of_lt (show ((rowW n).length : Int).natAbs ≤ 2 ^ 9 by omega) (Nat.pow_lt_pow_right (by decide) (by decide))
    exact (Bt.tup (BtL.cons (Bt.int (i300 h5)) (BtL.cons h4 (BtL.nil (t := 0))))).to (by decide) (by decide)
/-- the inputs as a list, all parts small -/
structure OkI (L : List Lt) (ns : List Nat) : Prop where
  l : OkL L
  n : ns.length = L.length
  b : ∀ n ∈ ns, n < 2 ^ 300
theorem OkI.big {L : List Lt} {ns : List Nat} (h : OkI L ns) : ∀ n ∈ ns, n < 2 ^ 4000 := fun n m => Nat.lt_of_lt_of_le (h.b n m) (Nat.pow_le_pow_right (by decide) (by decide))
theorem OkI.bt {L : List Lt} {ns : List Nat} (h : OkI L ns) : ∀ x ∈ inpL L ns, Bt 4 200000 x := fun x m => by
  obtain ⟨b, n, m', rfl⟩ := inpL_mem m
  exact thD_bt (h.b n m') b
/-- a bent input that repr may see -/
def Bad (L : List Lt) (d : D) : Prop := badI L d ∧ Bt 6 3000000 d
theorem bt_tup {ds : List D} (hl : ds.length ≤ 6) (h : ∀ x ∈ ds, Bt 4 200000 x) : Bt 6 3000000 (.tuple ds) := (Bt.tup (BtL.all h)).to (by decide) (Nat.le_trans (Nat.add_le_add_right (Nat.mul_le_mul_right _ hl) 3) (by decide))
theorem bad_len {L : List Lt} {ds : List D} (hl : ds.length ≤ 6) (h : ∀ x ∈ ds, Bt 4 200000 x) (hn : ds.length ≠ L.length) : Bad L (.tuple ds) := ⟨.inr ⟨ds, rfl, .inl hn⟩, bt_tup hl h⟩
theorem bad_put {L : List Lt} {ns : List Nat} {a : Nat} {l : Lt} {e : D} (h : OkI L ns) (hl : L[a]? = some l) (he : fitB l.2 e = false) (hb : Bt 4 200000 e) : Bad L (.tuple (((inpL L ns).take a ++ [e]) ++ (inpL L ns).drop (a + 1))) := by
  have h4 := h.l.len
  have ha := (List.getElem?_eq_some_iff.mp hl).1
  have hI := inpL_len h.n
  have hta : ((inpL L ns).take a).length = a := by rw [List.length_take]; omega
  have hlen : (((inpL L ns).take a ++ [e]) ++ (inpL L ns).drop (a + 1)).length = L.length := by
    rw [List.length_append, List.length_append, hta, List.length_drop, hI, List.length_singleton]
    omega
  refine ⟨.inr ⟨_, rfl, .inr ⟨hlen, a, l, e, ns, hl, ?_, he, h.n, h.big, ?_⟩⟩, bt_tup (by omega) fun x m => ?_⟩
  · rw [List.append_assoc, List.getElem?_append_right (by omega), hta, Nat.sub_self]
    rfl
  · rw [List.append_assoc, List.take_append_of_le_length (by omega), List.take_of_length_le (by omega)]
  · rcases List.mem_append.mp m with m | m
    · rcases List.mem_append.mp m with m | m
      · exact h.bt x (List.mem_of_mem_take m)
      · rw [List.mem_singleton.mp m]; exact hb
    · exact h.bt x (List.mem_of_mem_drop m)
theorem bad_non {L : List Lt} {d : D} (h : ∀ es, d ≠ .tuple es) (hb : Bt 6 3000000 d) : Bad L d := ⟨.inl h, hb⟩

/-! ### _law_some_row -/
section
variable {P : Program} {w : World} {K : PySem.W.Frag} {mg : Str → Option Value} {base : Heap}
def srF : DFP := fun ds m Q => ds = [] ∧ m ≤ 1000000 ∧ ∀ (n m' : Nat), n < 2 ^ 300 → m' ≤ m + 10 → Q (thD true n) m'
theorem ok__law_some_row (T : Tx K mg) (O__law_take : Ok P w K mg base 2 "_law_take" ["_law_pen", "_law_many"] (spP K 1 .E takeF)) : Ok P w K mg base 3 "_law_some_row" ["_law_pen"] (spP K 0 .E srF) := by
  refine Ok.ofP (M := []) T.d__law_some_row sc__law_some_row rfl (by decide) (by decide) fun f cdv A outer s H E p c hr => ⟨_, _, (pss_cons (ps_set (i := 1) sc__law_some_row.nd rfl (Or.inl rfl) (pe_ix (ixG K rfl (u65 hr.toRoom)) (pe_lst (pa_cons (pe_int) (pa_cons (pe_int) (pa_cons (pe_int) (pa_cons (pe_int) (pa_cons (pe_int) (pa_cons (pe_int) (pa_nil)))))))) (pe_fn O__law_take (hr.mono (by omega)) (by rfl) (pa_cons (pv 0) (pa_cons (pe_int) (pa_nil)))) (fun _ _ => rfl)))
 (pss_cons (ps_set (i := 2) sc__law_some_row.nd rfl (Or.inr rfl) (pe_lc (own := [("_law_place", 3)]) rfl sc__law_some_row.nd (pi_range1 (by rfl) T.z_range (pa_cons (pv 1) (pa_nil))) (blkOk_by (own := [("_law_place", 3)]) (N := ["_law_pen", "_law_size", "_law_wholes", "_law_place"]) (sc := defScope s__law_some_row) (by decide +kernel)) (fun _ _ _ _ _ => pg_nameL (i := 3) sc__law_some_row.nd rfl rfl) (fun _ _ _ _ _ => pts_nil) (fun _ _ _ _ _ => pe_ix (ixG K rfl (u65 hr.toRoom)) (pe_lst (pa_cons (pe_int) (pa_cons (pe_int) (pa_cons (pe_un un_neg (pe_int)) (pa_cons (pe_int) (pa_cons (pe_un un_neg (pe_int)) (pa_cons (pe_op op_pow (pe_int) (pe_int)) (pa_nil)))))))) (pe_fn O__law_take (hr.mono (by omega)) (by rfl) (pa_cons (pv 0) (pa_cons (pe_int) (pa_nil)))) (fun _ _ => rfl))))
 (pss_one (ps_ret (pe_tupZ (pa_cons (pv 1) (pa_cons (pe_callTy (tupQ K rfl) (by rfl) T.z_tuple boot_tuple (pa_cons (pe_lc (own := [("_law_place", 3)]) rfl sc__law_some_row.nd (pi_range1 (by rfl) T.z_range (pa_cons (pv 1) (pa_nil))) (blkOk_by (own := [("_law_place", 3)]) (N := ["_law_pen", "_law_size", "_law_wholes", "_law_place"]) (sc := defScope s__law_some_row) (by decide +kernel)) (fun _ _ _ _ _ => pg_nameL (i := 3) sc__law_some_row.nd rfl rfl) (fun _ _ _ _ _ => pts_one (pt_cmpR (neG K rfl hr.units) (pe_ix (ixG K rfl (u65 hr.toRoom)) (pv 2) (pv 3) (fun _ _ => rfl)) (pe_int) (nomark _))) (fun _ _ _ _ _ => pe_tupZ (pa_cons (pv 3) (pa_cons (pe_ix (ixG K rfl (u65 hr.toRoom)) (pv 2) (pv 3) (fun _ _ => rfl)) (pa_nil))))) (pa_nil))) (pa_nil)))))))),
 (simS_cut (simS_set 1 (nm rfl) (np rfl) (opA_ix (sim_lst (by decide) (simA_cons (sim_int _) (simA_cons (sim_int _) (simA_cons (sim_int _) (simA_cons (sim_int _) (simA_cons (sim_int _) (simA_cons (sim_int _) (simA_nil)))))))) (sim_callP (by simp) rfl (simA_cons (sim_int _) (simA_nil)))))
 (simS_cut (simS_set 2 (nm rfl) (np rfl) (sim_lc (simI_range1 (sim_var 1 (nm rfl))) (simG_name 3 (nm rfl) (np rfl)) (simT_yes) (opA_ix (sim_lst (by decide) (simA_cons (sim_int _) (simA_cons (sim_int _) (simA_cons (sim_neg (sim_int _)) (simA_cons (sim_int _) (simA_cons (sim_neg (sim_int _)) (simA_cons (sim_op opA_pow (sim_int _) (sim_int _)) (simA_nil)))))))) (sim_callP (by simp) rfl (simA_cons (sim_int _) (simA_nil)))) (inv' rfl) (nmv rfl) (npv rfl)))
 (simS_ret (Sim.toE (sim_tup (by decide) (simA_cons (sim_var 1 (nm rfl)) (simA_cons (sim_cb caA_tup (simA_cons (sim_lc (simI_range1 (sim_var 1 (nm rfl))) (simG_name 3 (nm rfl) (np rfl)) (simT_test (sim_op opA_ne (opA_ix (sim_var 2 (nm rfl)) (sim_var 3 (nm rfl))) (sim_int _))) (sim_tup (by decide) (simA_cons (sim_var 3 (nm rfl)) (simA_cons (opA_ix (sim_var 2 (nm rfl)) (sim_var 3 (nm rfl))) (simA_nil)))) (inv' rfl) (nmv rfl) (npv rfl)) (simA_nil))) (simA_nil)))))))), ?_⟩
  rintro ds m Q hl ⟨rfl, hm, q⟩
  have size : ∀ j : Nat, j < 6 → ∃ sz : Nat, ([.int 0, .int 1, .int 2, .int 3, .int 5, .int 9] : List D)[j]? = some (.int (sz : Int)) ∧ sz ≤ 9 := fun j h => by
    match j, h with
    | 0, _ => exact ⟨0, rfl, by decide⟩
    | 1, _ => exact ⟨1, rfl, by decide⟩
    | 2, _ => exact ⟨2, rfl, by decide⟩
    | 3, _ => exact ⟨3, rfl, by decide⟩
    | 4, _ => exact ⟨5, rfl, by decide⟩
    | 5, _ => exact ⟨9, rfl, by decide⟩
  have whole : ∀ j : Nat, j < 6 → ∃ w : Int, ([.int 0, .int 1, .int (-1), .int 7, .int (-4), .int ((10 : Int) ^ ((9 : Int)).toNat)] : List D)[j]? = some (.int w) ∧ w.natAbs < 2 ^ 30 := fun j h => by
    match j, h with
    | 0, _ => exact ⟨_, rfl, by decide⟩
    | 1, _ => exact ⟨_, rfl, by decide⟩
    | 2, _ => exact ⟨_, rfl, by decide⟩
    | 3, _ => exact ⟨_, rfl, by decide⟩
    | 4, _ => exact ⟨_, rfl, by decide⟩
    | 5, _ => exact ⟨_, rfl, by decide⟩
  refine ⟨fun s => ∃ sz : Nat, sz ≤ 9 ∧ s = { δ := [none, some (.int (sz : Int)), none, none], n := m + 1 }, ?_, ?_⟩
  · refine tkk (Nat.le_trans hm (by decide)) (by decide) (by decide) fun j hj => ?_
    obtain ⟨sz, e, h⟩ := size j (by omega)
    exact ix_ok j rfl e ⟨sz, h, rfl⟩
  rintro s ⟨sz, hsz, rfl⟩
  have hsl : sz ≤ sizeLine := by rw [sizeLine_eq]; omega
  refine ⟨fun s => ∃ (ws : List Int) (m' : Nat), ws.length = sz ∧ (∀ w ∈ ws, w.natAbs < 2 ^ 30) ∧ m' ≤ m + 1 + sz ∧ s = { δ := [none, some (.int (sz : Int)), some (.list (wD ws)), none], n := m' }, ?_, ?_⟩
  · refine ⟨⟨by omega, by omega⟩, by rw [rgD_len]; omega, lc1 (fun i acc s => ∃ (ws : List Int) (m' : Nat), acc = wD ws ∧ ws.length = i ∧ i ≤ sz ∧ (∀ w ∈ ws, w.natAbs < 2 ^ 30) ∧ m' ≤ m + 1 + i ∧ s = { δ := [none, some (.int (sz : Int)), none, none], n := m' }) ⟨[], m + 1, rfl, rfl, by omega, (fun w m => nomatch m), by omega, rfl⟩ ?_ ?_⟩
    · rintro i d acc s N hi ⟨ws, m', rfl, hl, hi2, hw, hm', rfl⟩ hN
      obtain ⟨h2, rfl⟩ := rgD_get hi
      refine ⟨⟨by decide, by decide, by decide⟩, ?_⟩
      refine tkk (show m' ≤ 1000100 by omega) (by decide) (by decide) fun j hj => ?_
      obtain ⟨v, e, h⟩ := whole j (by omega)
      refine ix_ok j rfl e (hN _ _ ⟨ws ++ [v], m' + 1, by unfold wD; rw [List.map_append] <;> rfl, by rw [List.length_append, hl]; rfl, by omega, fun u hu => ?_, by omega, rfl⟩)
      rcases List.mem_append.mp hu with g | g
      · exact hw u g
      · rw [List.mem_singleton.mp g]; exact h
    · rintro acc s ⟨ws, m', rfl, hl, hi2, hw, hm', rfl⟩
      rw [rgD_len] at hl hm'
      exact ⟨ws, m', by omega, hw, by omega, rfl⟩
  rintro s ⟨ws, m', hwl, hw, hm', rfl⟩
  refine ⟨⟨by omega, by omega⟩, by rw [rgD_len]; omega, lcD_ind (fun i acc s => acc = (plP 0 (ws.take i)).map ipT ∧ s = { δ := [none, some (.int (sz : Int)), some (.list (wD ws)), none], n := m' }) ⟨rfl, rfl⟩ ?_ ?_⟩
  · rintro i d acc s N hi ⟨rfl, rfl⟩ hN
    obtain ⟨h2, rfl⟩ := rgD_get hi
    have hil : i < ws.length := by omega
    obtain ⟨v, hv⟩ : ∃ v, ws[i]? = some v := ⟨_, List.getElem?_eq_getElem hil⟩
    have et : (ws.take i).length = i := by rw [List.length_take]; omega
    have hwd : (wD ws)[i]? = some (.int v) := by
      unfold wD
      rw [List.getElem?_map, hv]
      rfl
    refine ix_ok i (by omega) hwd ?_
    by_cases h0 : v = 0
    · refine ifn (by simp [h0]) (hN _ _ ⟨?_, rfl⟩)
      rw [take_snoc hv, plP_snoc, if_pos h0, List.append_nil]
    · refine ifp (by simpa using h0) (ix_ok i (by omega) hwd (hN _ _ ⟨?_, rfl⟩))
      rw [take_snoc hv, plP_snoc, if_neg h0, List.map_append, et, Nat.zero_add, Int.zero_add]
      rfl
  · rintro acc s ⟨rfl, rfl⟩
    rw [rgD_len, List.take_of_length_le (by omega)]
    obtain ⟨n, hn, e⟩ := row_num (by omega) hw
    have := q n m' hn (by omega)
    rw [← e] at this
    unfold rowO at this
    rw [hwl] at this
    exact this
end

/-! ### _law_bent -/
def beF : DFP := fun ds m Q => ∃ (L : List Lt) (ns : List Nat), ds = [ltsD L, .tuple (inpL L ns)] ∧ OkI L ns ∧ m ≤ 1000000 ∧ ∀ (d : D) (m' : Nat), Bad L d → m' ≤ m + 5 → Q d m'
def litB (b : Bool) (e : D) : Bool := !fitB b e && (bd e && decide (PyData.depth e ≤ 4) && decide (sz e ≤ 200000))
theorem litB_ok {b : Bool} {e : D} (h : litB b e = true) : fitB b e = false ∧ Bt 4 200000 e := by
  unfold litB at h
  rw [Bool.and_eq_true] at h
  exact ⟨by simpa using h.1, Bt.lit h.2⟩
def nums4 : List D := [.bool true, .tuple [.int 0, .tuple []], .str (Str.ofString "1"), .tuple [.int 1]]
def odd1 : List D := [.int 7, .tuple [.int 2, .tuple [.tuple [.int 2, .int 5]]], .tuple [.int 2, .tuple [.tuple [.int (-1), .int 5]]], .tuple [.int 2, .tuple [.tuple [.int 0, .int 0]]], .tuple [.int 3, .tuple [.tuple [.int 1, .int 4], .tuple [.int 0, .int 4]]], .tuple [.int (-1), .tuple []], .tuple [.int 2, .tuple [.tuple [.int 0, .bool true]]]]
def odd2 : List D := [.tuple [.int 0, .tuple [.tuple [.int 0, .int 1]]], .list [.int 0, .tuple []], .tuple [.int 2, .tuple [.tuple [.int 0, .int 1], .tuple [.int 0, .int 2]]], .tuple [], .tuple [.int 3], .tuple [.int 5, .int 0, .int 7], .tuple [.int 5, .int 7], .tuple [.int 2, .list [.tuple [.int 0, .int 5]]], .tuple [.bool true, .tuple []]]
def odd3 : List D := [.tuple [.int 2, .tuple [.list [.int 0, .int 5]]], .tuple [.int 2, .tuple [.tuple [.int 0]]], .tuple [.int 2, .tuple [.tuple [.int 0, .int 5, .int 1]]], .tuple [.int 2, .tuple [.tuple [.bool true, .int 5]]], .tuple [.int 2, .tuple [.tuple [.int 0, .int 1], .tuple [.int 5, .int 2]]]]
def odd4 : List D := [.tuple [.int 3, .tuple [.tuple [.int 0, .int 1], .tuple [.int 1, .int 0], .tuple [.int 2, .int 4]]], .tuple [.int 2, .tuple [.int 5]], .tuple [.int 2, .none], .tuple [.str (Str.ofString "2"), .tuple []]]
theorem odds_lit : ((odd1 ++ odd2 ++ odd3 ++ odd4).all (litB true)) = true := by decide +kernel
theorem nums_lit : (nums4.all (litB false)) = true := by decide +kernel
theorem sel_at {b : Bool} {xs : List D} (h : xs.all (litB b) = true) (j : Nat) (hj : j < xs.length) : ∃ e, xs[j]? = some e ∧ fitB b e = false ∧ Bt 4 200000 e := by
  refine ⟨xs[j], List.getElem?_eq_getElem hj, litB_ok ?_⟩
  exact List.all_eq_true.mp h _ (List.getElem_mem _)
theorem sel7 {L : List Lt} {ns : List Nat} (h : OkI L ns) (j : Nat) (hj : j < 7) : ∃ d, ([.none, .int 7, .str (Str.ofString ""), .list (inpL L ns), .tuple (inpL L ns ++ [.int 5]), .tuple (inpL L ns ++ [.tuple [.int 0, .tuple []]]), .bool false] : List D)[j]? = some d ∧ Bad L d := by
  have h4 := h.l.len
  have hI := inpL_len h.n
  have more : ∀ e : D, Bt 4 200000 e → Bad L (.tuple (inpL L ns ++ [e])) := fun e he => bad_len (by rw [List.length_append, hI, List.length_singleton]; omega) (fun x m => by
    rcases List.mem_append.mp m with m | m
    · exact h.bt x m
    · rw [List.mem_singleton.mp m]; exact he) (by rw [List.length_append, hI, List.length_singleton]; omega)
  match j, hj with
  | 0, _ => exact ⟨_, rfl, bad_non (fun _ e => nomatch e) (Bt.lit (by decide +kernel))⟩
  | 1, _ => exact ⟨_, rfl, bad_non (fun _ e => nomatch e) (Bt.lit (by decide +kernel))⟩
  | 2, _ => exact ⟨_, rfl, bad_non (fun _ e => nomatch e) (Bt.lit (by decide +kernel))⟩
  | 3, _ => exact ⟨_, rfl, bad_non (fun _ e => nomatch e) ((Bt.lst (BtL.all h.bt)).to (by decide) (Nat.le_trans (Nat.add_le_add_right (Nat.mul_le_mul_right _ (show (inpL L ns).length ≤ 6 by omega)) 3) (by decide)))⟩
  | 4, _ => exact ⟨_, rfl, more _ (Bt.lit (by decide +kernel))⟩
  | 5, _ => exact ⟨_, rfl, more _ (Bt.lit (by decide +kernel))⟩
  | 6, _ => exact ⟨_, rfl, bad_non (fun _ e => nomatch e) (Bt.lit (by decide +kernel))⟩
theorem selB {L : List Lt} {ns : List Nat} {a : Nat} {l : Lt} {b4 : D} (h : OkI L ns) (hl : L[a]? = some l) (hb : Bad L b4) (j : Nat) (hj : j < 4) :
    ∃ d, ([.tuple ((inpL L ns).take a ++ (inpL L ns).drop (a + 1)), .tuple (inpL L ns ++ (inpL L ns).take 1), .tuple (((inpL L ns).take a ++ [.none]) ++ (inpL L ns).drop (a + 1)), b4] : List D)[j]? = some d ∧ Bad L d := by
  have h4 := h.l.len
  have hI := inpL_len h.n
  have ha := (List.getElem?_eq_some_iff.mp hl).1
  match j, hj with
  | 0, _ =>
    refine ⟨_, rfl, bad_len ?_ (fun x m => ?_) ?_⟩
    · rw [List.length_append, List.length_take, List.length_drop]; omega
    · rcases List.mem_append.mp m with m | m
      · exact h.bt x (List.mem_of_mem_take m)
      · exact h.bt x (List.mem_of_mem_drop m)
    · rw [List.length_append, List.length_take, List.length_drop]; omega
  | 1, _ =>
    refine ⟨_, rfl, bad_len ?_ (fun x m => ?_) ?_⟩
    · rw [List.length_append, List.length_take]; omega
    · rcases List.mem_append.mp m with m | m
      · exact h.bt x m
      · exact h.bt x (List.mem_of_mem_take m)
    · rw [List.length_append, List.length_take]; omega
  | 2, _ => exact ⟨_, rfl, bad_put h hl (by cases l.2 <;> rfl) (Bt.lit (by decide +kernel))⟩
  | 3, _ => exact ⟨_, rfl, hb⟩
section
variable {P : Program} {w : World} {K : PySem.W.Frag} {mg : Str → Option Value} {base : Heap}
theorem ok__law_bent (T : Tx K mg) (O__law_take : Ok P w K mg base 2 "_law_take" ["_law_pen", "_law_many"] (spP K 1 .E takeF)) : Ok P w K mg base 3 "_law_bent" ["_law_pen", "_law_letters_here", "_law_inputs"] (spP K 2 .E beF) := by
  refine Ok.ofP (M := [5]) T.d__law_bent sc__law_bent rfl (by decide) (by decide) fun f cdv A outer s H E p c hr => ⟨_, _, (pss_cons (ps_if (PW.pt (pw_or (pt_cmpR (eqG K rfl hr.units) (pv 1) (pe_tupZ (pa_nil)) (nomark _)) (pw_or1 (pt_cmpR (eqG K rfl hr.units) (pe_fn O__law_take (hr.mono (by omega)) (by rfl) (pa_cons (pv 0) (pa_cons (pe_int) (pa_nil)))) (pe_int) (nomark _)))))
 (pss_one (ps_ret (pe_ix (ixG K rfl (u65 hr.toRoom)) (pe_lst (pa_cons (pe_non) (pa_cons (pe_int) (pa_cons (pe_str) (pa_cons (pe_callTy (listQ K rfl) (by rfl) T.z_list boot_list (pa_cons (pv 2) (pa_nil))) (pa_cons (pe_op (addG K rfl) (pv 2) (pe_tupZ (pa_cons (pe_int) (pa_nil)))) (pa_cons (pe_op (addG K rfl) (pv 2) (pe_tupZ (pa_cons (pe_tupZ (pa_cons (pe_int) (pa_cons (pe_tupZ (pa_nil)) (pa_nil)))) (pa_nil)))) (pa_cons (pe_bl) (pa_nil))))))))) (pe_fn O__law_take (hr.mono (by omega)) (by rfl) (pa_cons (pv 0) (pa_cons (pe_int) (pa_nil)))) (fun _ _ => rfl))))
 (pss_nil))
 (pss_cons (ps_set (i := 3) sc__law_bent.nd rfl (Or.inl rfl) (pe_fn O__law_take (hr.mono (by omega)) (by rfl) (pa_cons (pv 0) (pa_cons (pe_callB (lenG K rfl) (by rfl) T.z_len boot_len (pa_cons (pv 2) (pa_nil))) (pa_nil)))))
 (pss_cons (ps_set (i := 4) sc__law_bent.nd rfl (Or.inl rfl) (pe_fn O__law_take (hr.mono (by omega)) (by rfl) (pa_cons (pv 0) (pa_cons (pe_int) (pa_nil)))))
 (pss_cons (ps_set (i := 5) sc__law_bent.nd rfl (Or.inl rfl) (pe_lst (pa_cons (pe_op (addG K rfl) (pe_slice (slG K rfl) (pv 2) po_none (po_some (pv 3))) (pe_slice (slG K rfl) (pv 2) (po_some (pe_op (addG K rfl) (pv 3) (pe_int))) po_none)) (pa_cons (pe_op (addG K rfl) (pv 2) (pe_slice (slG K rfl) (pv 2) po_none (po_some (pe_int)))) (pa_cons (pe_op (addG K rfl) (pe_op (addG K rfl) (pe_slice (slG K rfl) (pv 2) po_none (po_some (pv 3))) (pe_tupZ (pa_cons (pe_non) (pa_nil)))) (pe_slice (slG K rfl) (pv 2) (po_some (pe_op (addG K rfl) (pv 3) (pe_int))) po_none)) (pa_nil))))))
 (pss_cons (ps_if (pt_cmpR (eqG K rfl hr.units) (pe_ix (ixG K rfl (u65 hr.toRoom)) (pe_ix (ixG K rfl (u65 hr.toRoom)) (pv 1) (pv 3) (fun _ _ => rfl)) (pe_int) (fun _ _ => rfl)) (pe_str) (nomark _))
 (pss_cons (ps_expr (appK K rfl (pv 5) (pe_op (addG K rfl) (pe_op (addG K rfl) (pe_slice (slG K rfl) (pv 2) po_none (po_some (pv 3))) (pe_tupZ (pa_cons (pe_ix (ixG K rfl (u65 hr.toRoom)) (pe_lst (pa_cons (pe_bl) (pa_cons (pe_tupZ (pa_cons (pe_int) (pa_cons (pe_tupZ (pa_nil)) (pa_nil)))) (pa_cons (pe_str) (pa_cons (pe_tupZ (pa_cons (pe_int) (pa_nil))) (pa_nil)))))) (pe_fn O__law_take (hr.mono (by omega)) (by rfl) (pa_cons (pv 0) (pa_cons (pe_int) (pa_nil)))) (fun _ _ => rfl)) (pa_nil)))) (pe_slice (slG K rfl) (pv 2) (po_some (pe_op (addG K rfl) (pv 3) (pe_int))) po_none))))
 (pss_one (ps_ret (pe_ix (ixG K rfl (u65 hr.toRoom)) (pv 5) (pv 4) (fun _ _ => rfl)))))
 (pss_nil))
 (pss_cons (ps_set (i := 6) sc__law_bent.nd rfl (Or.inl rfl) (pe_lst (pa_cons (pe_int) (pa_cons (pe_tupZ (pa_cons (pe_int) (pa_cons (pe_tupZ (pa_cons (pe_tupZ (pa_cons (pe_int) (pa_cons (pe_int) (pa_nil)))) (pa_nil))) (pa_nil)))) (pa_cons (pe_tupZ (pa_cons (pe_int) (pa_cons (pe_tupZ (pa_cons (pe_tupZ (pa_cons (pe_un un_neg (pe_int)) (pa_cons (pe_int) (pa_nil)))) (pa_nil))) (pa_nil)))) (pa_cons (pe_tupZ (pa_cons (pe_int) (pa_cons (pe_tupZ (pa_cons (pe_tupZ (pa_cons (pe_int) (pa_cons (pe_int) (pa_nil)))) (pa_nil))) (pa_nil)))) (pa_cons (pe_tupZ (pa_cons (pe_int) (pa_cons (pe_tupZ (pa_cons (pe_tupZ (pa_cons (pe_int) (pa_cons (pe_int) (pa_nil)))) (pa_cons (pe_tupZ (pa_cons (pe_int) (pa_cons (pe_int) (pa_nil)))) (pa_nil)))) (pa_nil)))) (pa_cons (pe_tupZ (pa_cons (pe_un un_neg (pe_int)) (pa_cons (pe_tupZ (pa_nil)) (pa_nil)))) (pa_cons (pe_tupZ (pa_cons (pe_int) (pa_cons (pe_tupZ (pa_cons (pe_tupZ (pa_cons (pe_int) (pa_cons (pe_bl) (pa_nil)))) (pa_nil))) (pa_nil)))) (pa_nil))))))))))
 (pss_cons (ps_set (i := 6) sc__law_bent.nd rfl (Or.inl rfl) (pe_op (addG K rfl) (pv 6) (pe_lst (pa_cons (pe_tupZ (pa_cons (pe_int) (pa_cons (pe_tupZ (pa_cons (pe_tupZ (pa_cons (pe_int) (pa_cons (pe_int) (pa_nil)))) (pa_nil))) (pa_nil)))) (pa_cons (pe_lst (pa_cons (pe_int) (pa_cons (pe_tupZ (pa_nil)) (pa_nil)))) (pa_cons (pe_tupZ (pa_cons (pe_int) (pa_cons (pe_tupZ (pa_cons (pe_tupZ (pa_cons (pe_int) (pa_cons (pe_int) (pa_nil)))) (pa_cons (pe_tupZ (pa_cons (pe_int) (pa_cons (pe_int) (pa_nil)))) (pa_nil)))) (pa_nil)))) (pa_cons (pe_tupZ (pa_nil)) (pa_cons (pe_tupZ (pa_cons (pe_int) (pa_nil))) (pa_cons (pe_tupZ (pa_cons (pe_int) (pa_cons (pe_int) (pa_cons (pe_int) (pa_nil))))) (pa_cons (pe_tupZ (pa_cons (pe_int) (pa_cons (pe_int) (pa_nil)))) (pa_cons (pe_tupZ (pa_cons (pe_int) (pa_cons (pe_lst (pa_cons (pe_tupZ (pa_cons (pe_int) (pa_cons (pe_int) (pa_nil)))) (pa_nil))) (pa_nil)))) (pa_cons (pe_tupZ (pa_cons (pe_bl) (pa_cons (pe_tupZ (pa_nil)) (pa_nil)))) (pa_nil)))))))))))))
 (pss_cons (ps_set (i := 6) sc__law_bent.nd rfl (Or.inl rfl) (pe_op (addG K rfl) (pv 6) (pe_lst (pa_cons (pe_tupZ (pa_cons (pe_int) (pa_cons (pe_tupZ (pa_cons (pe_lst (pa_cons (pe_int) (pa_cons (pe_int) (pa_nil)))) (pa_nil))) (pa_nil)))) (pa_cons (pe_tupZ (pa_cons (pe_int) (pa_cons (pe_tupZ (pa_cons (pe_tupZ (pa_cons (pe_int) (pa_nil))) (pa_nil))) (pa_nil)))) (pa_cons (pe_tupZ (pa_cons (pe_int) (pa_cons (pe_tupZ (pa_cons (pe_tupZ (pa_cons (pe_int) (pa_cons (pe_int) (pa_cons (pe_int) (pa_nil))))) (pa_nil))) (pa_nil)))) (pa_cons (pe_tupZ (pa_cons (pe_int) (pa_cons (pe_tupZ (pa_cons (pe_tupZ (pa_cons (pe_bl) (pa_cons (pe_int) (pa_nil)))) (pa_nil))) (pa_nil)))) (pa_cons (pe_tupZ (pa_cons (pe_int) (pa_cons (pe_tupZ (pa_cons (pe_tupZ (pa_cons (pe_int) (pa_cons (pe_int) (pa_nil)))) (pa_cons (pe_tupZ (pa_cons (pe_int) (pa_cons (pe_int) (pa_nil)))) (pa_nil)))) (pa_nil)))) (pa_nil)))))))))
 (pss_cons (ps_set (i := 6) sc__law_bent.nd rfl (Or.inl rfl) (pe_op (addG K rfl) (pv 6) (pe_lst (pa_cons (pe_tupZ (pa_cons (pe_int) (pa_cons (pe_tupZ (pa_cons (pe_tupZ (pa_cons (pe_int) (pa_cons (pe_int) (pa_nil)))) (pa_cons (pe_tupZ (pa_cons (pe_int) (pa_cons (pe_int) (pa_nil)))) (pa_cons (pe_tupZ (pa_cons (pe_int) (pa_cons (pe_int) (pa_nil)))) (pa_nil))))) (pa_nil)))) (pa_cons (pe_tupZ (pa_cons (pe_int) (pa_cons (pe_tupZ (pa_cons (pe_int) (pa_nil))) (pa_nil)))) (pa_cons (pe_tupZ (pa_cons (pe_int) (pa_cons (pe_non) (pa_nil)))) (pa_cons (pe_tupZ (pa_cons (pe_str) (pa_cons (pe_tupZ (pa_nil)) (pa_nil)))) (pa_nil))))))))
 (pss_cons (ps_expr (appK K rfl (pv 5) (pe_op (addG K rfl) (pe_op (addG K rfl) (pe_slice (slG K rfl) (pv 2) po_none (po_some (pv 3))) (pe_tupZ (pa_cons (pe_ix (ixG K rfl (u65 hr.toRoom)) (pv 6) (pe_fn O__law_take (hr.mono (by omega)) (by rfl) (pa_cons (pv 0) (pa_cons (pe_int) (pa_nil)))) (fun _ _ => rfl)) (pa_nil)))) (pe_slice (slG K rfl) (pv 2) (po_some (pe_op (addG K rfl) (pv 3) (pe_int))) po_none))))
 (pss_one (ps_ret (pe_ix (ixG K rfl (u65 hr.toRoom)) (pv 5) (pv 4) (fun _ _ => rfl)))))))))))))),
 (simS_seq (simS_if (simT_or (simT_test (sim_op opA_eq (sim_var 1 (nm rfl)) (sim_tup (by decide) (simA_nil)))) (simT_test (sim_op opA_eq (sim_callP (by simp) rfl (simA_cons (sim_int _) (simA_nil))) (sim_int _))))
 (simS_ret (Sim.toE (opA_ix (sim_lst (by decide) (simA_cons (sim_non) (simA_cons (sim_int _) (simA_cons (sim_str _) (simA_cons (sim_cb caA_list (simA_cons (sim_var 2 (nm rfl)) (simA_nil))) (simA_cons (sim_op opA_add (sim_var 2 (nm rfl)) (sim_tup (by decide) (simA_cons (sim_int _) (simA_nil)))) (simA_cons (sim_op opA_add (sim_var 2 (nm rfl)) (sim_tup (by decide) (simA_cons (sim_tup (by decide) (simA_cons (sim_int _) (simA_cons (sim_tup (by decide) (simA_nil)) (simA_nil)))) (simA_nil)))) (simA_cons (sim_bl _) (simA_nil))))))))) (sim_callP (by simp) rfl (simA_cons (sim_int _) (simA_nil))))))
 (simS_next))
 (simS_seq (simS_set 3 (nm rfl) (np rfl) (sim_callP (by simp) rfl (simA_cons (sim_cb caA_len (simA_cons (sim_var 2 (nm rfl)) (simA_nil))) (simA_nil))))
 (simS_seq (simS_set 4 (nm rfl) (np rfl) (sim_callP (by simp) rfl (simA_cons (sim_int _) (simA_nil))))
 (simS_seq (simS_setM 5 (ym rfl) (nb rfl) (sim_lst (by decide) (simA_cons (sim_op opA_add (sim_sl (sim_var 2 (nm rfl)) simO_none (simO_some (sim_var 3 (nm rfl)))) (sim_sl (sim_var 2 (nm rfl)) (simO_some (sim_op opA_add (sim_var 3 (nm rfl)) (sim_int _))) simO_none)) (simA_cons (sim_op opA_add (sim_var 2 (nm rfl)) (sim_sl (sim_var 2 (nm rfl)) simO_none (simO_some (sim_int _)))) (simA_cons (sim_op opA_add (sim_op opA_add (sim_sl (sim_var 2 (nm rfl)) simO_none (simO_some (sim_var 3 (nm rfl)))) (sim_tup (by decide) (simA_cons (sim_non) (simA_nil)))) (sim_sl (sim_var 2 (nm rfl)) (simO_some (sim_op opA_add (sim_var 3 (nm rfl)) (sim_int _))) simO_none)) (simA_nil))))))
 (simS_seq (simS_if (simT_test (sim_op opA_eq (opA_ix (opA_ix (sim_var 1 (nm rfl)) (sim_var 3 (nm rfl))) (sim_int _)) (sim_str _)))
 (simS_seq (simS_drop (sim_mt 5 (ym rfl) mtA_app (simA_cons (sim_op opA_add (sim_op opA_add (sim_sl (sim_var 2 (nm rfl)) simO_none (simO_some (sim_var 3 (nm rfl)))) (sim_tup (by decide) (simA_cons (opA_ix (sim_lst (by decide) (simA_cons (sim_bl _) (simA_cons (sim_tup (by decide) (simA_cons (sim_int _) (simA_cons (sim_tup (by decide) (simA_nil)) (simA_nil)))) (simA_cons (sim_str _) (simA_cons (sim_tup (by decide) (simA_cons (sim_int _) (simA_nil))) (simA_nil)))))) (sim_callP (by simp) rfl (simA_cons (sim_int _) (simA_nil)))) (simA_nil)))) (sim_sl (sim_var 2 (nm rfl)) (simO_some (sim_op opA_add (sim_var 3 (nm rfl)) (sim_int _))) simO_none)) simA_nil)))
 (simS_ret (Sim.toE (opA_ixM 5 (ym rfl) (sim_var 4 (nm rfl))))))
 (simS_next))
 (simS_seq (simS_set 6 (nm rfl) (np rfl) (sim_lst (by decide) (simA_cons (sim_int _) (simA_cons (sim_tup (by decide) (simA_cons (sim_int _) (simA_cons (sim_tup (by decide) (simA_cons (sim_tup (by decide) (simA_cons (sim_int _) (simA_cons (sim_int _) (simA_nil)))) (simA_nil))) (simA_nil)))) (simA_cons (sim_tup (by decide) (simA_cons (sim_int _) (simA_cons (sim_tup (by decide) (simA_cons (sim_tup (by decide) (simA_cons (sim_neg (sim_int _)) (simA_cons (sim_int _) (simA_nil)))) (simA_nil))) (simA_nil)))) (simA_cons (sim_tup (by decide) (simA_cons (sim_int _) (simA_cons (sim_tup (by decide) (simA_cons (sim_tup (by decide) (simA_cons (sim_int _) (simA_cons (sim_int _) (simA_nil)))) (simA_nil))) (simA_nil)))) (simA_cons (sim_tup (by decide) (simA_cons (sim_int _) (simA_cons (sim_tup (by decide) (simA_cons (sim_tup (by decide) (simA_cons (sim_int _) (simA_cons (sim_int _) (simA_nil)))) (simA_cons (sim_tup (by decide) (simA_cons (sim_int _) (simA_cons (sim_int _) (simA_nil)))) (simA_nil)))) (simA_nil)))) (simA_cons (sim_tup (by decide) (simA_cons (sim_neg (sim_int _)) (simA_cons (sim_tup (by decide) (simA_nil)) (simA_nil)))) (simA_cons (sim_tup (by decide) (simA_cons (sim_int _) (simA_cons (sim_tup (by decide) (simA_cons (sim_tup (by decide) (simA_cons (sim_int _) (simA_cons (sim_bl _) (simA_nil)))) (simA_nil))) (simA_nil)))) (simA_nil))))))))))
 (simS_seq (simS_set 6 (nm rfl) (np rfl) (sim_op opA_add (sim_var 6 (nm rfl)) (sim_lst (by decide) (simA_cons (sim_tup (by decide) (simA_cons (sim_int _) (simA_cons (sim_tup (by decide) (simA_cons (sim_tup (by decide) (simA_cons (sim_int _) (simA_cons (sim_int _) (simA_nil)))) (simA_nil))) (simA_nil)))) (simA_cons (sim_lst (by decide) (simA_cons (sim_int _) (simA_cons (sim_tup (by decide) (simA_nil)) (simA_nil)))) (simA_cons (sim_tup (by decide) (simA_cons (sim_int _) (simA_cons (sim_tup (by decide) (simA_cons (sim_tup (by decide) (simA_cons (sim_int _) (simA_cons (sim_int _) (simA_nil)))) (simA_cons (sim_tup (by decide) (simA_cons (sim_int _) (simA_cons (sim_int _) (simA_nil)))) (simA_nil)))) (simA_nil)))) (simA_cons (sim_tup (by decide) (simA_nil)) (simA_cons (sim_tup (by decide) (simA_cons (sim_int _) (simA_nil))) (simA_cons (sim_tup (by decide) (simA_cons (sim_int _) (simA_cons (sim_int _) (simA_cons (sim_int _) (simA_nil))))) (simA_cons (sim_tup (by decide) (simA_cons (sim_int _) (simA_cons (sim_int _) (simA_nil)))) (simA_cons (sim_tup (by decide) (simA_cons (sim_int _) (simA_cons (sim_lst (by decide) (simA_cons (sim_tup (by decide) (simA_cons (sim_int _) (simA_cons (sim_int _) (simA_nil)))) (simA_nil))) (simA_nil)))) (simA_cons (sim_tup (by decide) (simA_cons (sim_bl _) (simA_cons (sim_tup (by decide) (simA_nil)) (simA_nil)))) (simA_nil)))))))))))))
 (simS_seq (simS_set 6 (nm rfl) (np rfl) (sim_op opA_add (sim_var 6 (nm rfl)) (sim_lst (by decide) (simA_cons (sim_tup (by decide) (simA_cons (sim_int _) (simA_cons (sim_tup (by decide) (simA_cons (sim_lst (by decide) (simA_cons (sim_int _) (simA_cons (sim_int _) (simA_nil)))) (simA_nil))) (simA_nil)))) (simA_cons (sim_tup (by decide) (simA_cons (sim_int _) (simA_cons (sim_tup (by decide) (simA_cons (sim_tup (by decide) (simA_cons (sim_int _) (simA_nil))) (simA_nil))) (simA_nil)))) (simA_cons (sim_tup (by decide) (simA_cons (sim_int _) (simA_cons (sim_tup (by decide) (simA_cons (sim_tup (by decide) (simA_cons (sim_int _) (simA_cons (sim_int _) (simA_cons (sim_int _) (simA_nil))))) (simA_nil))) (simA_nil)))) (simA_cons (sim_tup (by decide) (simA_cons (sim_int _) (simA_cons (sim_tup (by decide) (simA_cons (sim_tup (by decide) (simA_cons (sim_bl _) (simA_cons (sim_int _) (simA_nil)))) (simA_nil))) (simA_nil)))) (simA_cons (sim_tup (by decide) (simA_cons (sim_int _) (simA_cons (sim_tup (by decide) (simA_cons (sim_tup (by decide) (simA_cons (sim_int _) (simA_cons (sim_int _) (simA_nil)))) (simA_cons (sim_tup (by decide) (simA_cons (sim_int _) (simA_cons (sim_int _) (simA_nil)))) (simA_nil)))) (simA_nil)))) (simA_nil)))))))))
 (simS_seq (simS_set 6 (nm rfl) (np rfl) (sim_op opA_add (sim_var 6 (nm rfl)) (sim_lst (by decide) (simA_cons (sim_tup (by decide) (simA_cons (sim_int _) (simA_cons (sim_tup (by decide) (simA_cons (sim_tup (by decide) (simA_cons (sim_int _) (simA_cons (sim_int _) (simA_nil)))) (simA_cons (sim_tup (by decide) (simA_cons (sim_int _) (simA_cons (sim_int _) (simA_nil)))) (simA_cons (sim_tup (by decide) (simA_cons (sim_int _) (simA_cons (sim_int _) (simA_nil)))) (simA_nil))))) (simA_nil)))) (simA_cons (sim_tup (by decide) (simA_cons (sim_int _) (simA_cons (sim_tup (by decide) (simA_cons (sim_int _) (simA_nil))) (simA_nil)))) (simA_cons (sim_tup (by decide) (simA_cons (sim_int _) (simA_cons (sim_non) (simA_nil)))) (simA_cons (sim_tup (by decide) (simA_cons (sim_str _) (simA_cons (sim_tup (by decide) (simA_nil)) (simA_nil)))) (simA_nil))))))))
 (simS_seq (simS_drop (sim_mt 5 (ym rfl) mtA_app (simA_cons (sim_op opA_add (sim_op opA_add (sim_sl (sim_var 2 (nm rfl)) simO_none (simO_some (sim_var 3 (nm rfl)))) (sim_tup (by decide) (simA_cons (opA_ix (sim_var 6 (nm rfl)) (sim_callP (by simp) rfl (simA_cons (sim_int _) (simA_nil)))) (simA_nil)))) (sim_sl (sim_var 2 (nm rfl)) (simO_some (sim_op opA_add (sim_var 3 (nm rfl)) (sim_int _))) simO_none)) simA_nil)))
 (simS_ret (Sim.toE (opA_ixM 5 (ym rfl) (sim_var 4 (nm rfl))))))))))))))), ?_⟩
  rintro ds m Q hl ⟨L, ns, rfl, hI, hm, q⟩
  have hL := hI.l
  have h4 := hL.len
  have hlen := inpL_len hI.n
  obtain ⟨is, his⟩ : ∃ is, is = inpL L ns := ⟨_, rfl⟩
  have his4 : is.length ≤ 4 := by rw [his]; omega
  have key : ∀ {Ra Rb : S → Prop}, (∀ n, n ≤ m + 1 → Ra { δ := [none, some (ltsD L), some (.tuple is), none, none, none, none], n := n }) → (L ≠ [] → ∀ n, n ≤ m + 1 → Rb { δ := [none, some (ltsD L), some (.tuple is), none, none, none, none], n := n }) →
      dOr (dBl (dOp eqD (dV 1) (dTup dNil))) (dBl (dOp eqD (dCallP takeF (dCons (dC (.int 6)) dNil)) (dC (.int 0)))) { δ := [none, some (ltsD L), some (.tuple is), none, none, none, none], n := m } fun c s1 => if c = true then Ra s1 else Rb s1 := fun {Ra Rb} ha hb => by
    refine tst_ex (exv_nilT hL fun Q q => q) _ ?_
    cases L with
    | nil => exact ifp rfl (ifp rfl (ha m (by omega)))
    | cons l L =>
      refine ifn (fun z => nomatch z) ?_
      refine tkk (Nat.le_trans hm (by decide)) (by decide) (by decide) fun j hj => ?_
      show (if decide ((j : Int) = 0) = true then _ else _)
      by_cases h : (j : Int) = 0
      · exact ifp (decide_eq_true h) (ha _ (Nat.le_refl _))
      · exact ifn (by rw [decide_eq_false h]; exact Bool.false_ne_true) (hb (fun z => nomatch z) _ (Nat.le_refl _))
  rw [← his]
  refine key (fun n hn => ?_) (fun h0 n hn => ?_)
  · refine ⟨by rw [sizeLine_eq]; show is.length + 1 ≤ _; omega, ⟨by rw [sizeLine_eq]; show is.length + 1 ≤ _; omega, ?_⟩⟩
    refine tkk (show n ≤ 1000100 by omega) (by decide) (by decide) fun j hj => ?_
    obtain ⟨d, e, hb⟩ := sel7 hI j (by omega)
    rw [← his] at e
    exact ix_ok j rfl e (q d _ hb (by show n + 1 ≤ m + 5; omega))
  · have hp : 0 < L.length := List.length_pos_iff.mpr h0
    have hisL : is.length = L.length := by rw [his]; exact hlen
    refine tkk (z := (is.length : Int)) (show n ≤ 1000100 by omega) (by omega) (Nat.lt_of_le_of_lt (show ((is.length : Nat) : Int).natAbs ≤ 4 by omega) (by decide)) fun a ha => ?_
    have ha : a < L.length := by omega
    obtain ⟨l, hla⟩ : ∃ l, L[a]? = some l := ⟨_, List.getElem?_eq_getElem ha⟩
    refine tkk (show n + 1 ≤ 1000100 by omega) (by decide) (by decide) fun kd hkd => ?_
    have c1 : cutD is none (some (a : Int)) = is.take a := cutD_to is a
    have c2 : cutD is (some ((a : Int) + 1)) none = is.drop (a + 1) := cutD_from is (a + 1) (by omega)
    have c3 : cutD is none (some (1 : Int)) = is.take 1 := cutD_to is 1
    have s1 : (is.take a).length ≤ 4 := by rw [List.length_take]; omega
    have s2 : (is.drop (a + 1)).length ≤ 4 := by rw [List.length_drop]; omega
    have s3 : (is.take 1).length ≤ 4 := by rw [List.length_take]; omega
    dsimp only
    refine seqSetMX (d := .list [.tuple (is.take a ++ is.drop (a + 1)), .tuple (is ++ is.take 1), .tuple ((is.take a ++ [.none]) ++ is.drop (a + 1))]) (fun Q q => ?_) rfl ?_
    · refine ⟨by rw [sizeLine_eq, c1, c2]; omega, ⟨by rw [sizeLine_eq, c3]; omega, ⟨by rw [sizeLine_eq, c1]; show _ + 1 ≤ _; omega, ⟨by rw [sizeLine_eq, c1, c2, List.length_append]; show _ + 1 + _ ≤ _; omega, ?_⟩⟩⟩⟩
      rw [← c1, ← c2, ← c3] at q
      exact q
    have put : ∀ (e : D), fitB l.2 e = false → Bt 4 200000 e → ∀ n', n' ≤ m + 5 → ∃ d, ([.tuple (is.take a ++ is.drop (a + 1)), .tuple (is ++ is.take 1), .tuple ((is.take a ++ [.none]) ++ is.drop (a + 1)), .tuple ((cutD is none (some (a : Int)) ++ [e]) ++ cutD is (some ((a : Int) + 1)) none)] : List D)[kd]? = some d ∧ Q d n' := fun e he hb n' hn' => by
      obtain ⟨d, e1, e2⟩ := selB hI hla (bad_put hI hla he hb) kd (by omega)
      rw [← his] at e1
      rw [c1, c2]
      exact ⟨d, e1, q d n' e2 hn'⟩
    have hnum : Tst (dBl (dOp eqD (dOp ixD (dOp ixD (dV 1) (dV 3)) (dC (.int 1))) (dC (.str (Str.ofString "number"))))) { δ := [none, some (ltsD L), some (.tuple is), some (.int (a : Int)), some (.int (kd : Int)), some (.list [.tuple (is.take a ++ is.drop (a + 1)), .tuple (is ++ is.take 1), .tuple ((is.take a ++ [.none]) ++ is.drop (a + 1))]), none], n := n + 1 + 1 } (!l.2) := fun Q q => by
      refine ix_ok (d := ltD l) a rfl (by rw [List.getElem?_map, hla]; rfl) ?_
      refine ix_ok (d := .str (kdS l.2)) 1 rfl rfl ?_
      cases h : l.2 with
      | true => rw [h] at q; exact q
      | false => rw [h] at q; exact q
    refine seqIf hnum (fun h => ?_) (fun h => ?_)
    · have h : l.2 = false := by simpa using h
      refine ⟨⟨_, rfl⟩, ?_⟩
      refine tkk (show n + 1 + 1 ≤ 1000100 by omega) (by decide) (by decide) fun j hj => ?_
      obtain ⟨e, e1, e2, e3⟩ := sel_at nums_lit j (by show j < 4; omega)
      obtain ⟨d, e4, e5⟩ := put e (by rw [h]; exact e2) e3 (n + 1 + 1 + 1) (by omega)
      refine ix_ok j rfl e1 ⟨by rw [sizeLine_eq, c1]; show _ + 1 ≤ _; omega, ⟨by rw [sizeLine_eq, c1, c2, List.length_append]; show _ + 1 + _ ≤ _; omega, ⟨by rw [sizeLine_eq]; show 3 < _; decide, ⟨⟨_, rfl⟩, ix_ok kd rfl e4 e5⟩⟩⟩⟩
    · have h : l.2 = true := by simpa using h
      refine seqSetX (d := .list odd1) (fun Q q => q) ?_
      refine seqSetX (d := .list (odd1 ++ odd2)) (fun Q q => ⟨by rw [sizeLine_eq]; decide, q⟩) ?_
      refine seqSetX (d := .list (odd1 ++ odd2 ++ odd3)) (fun Q q => ⟨by rw [sizeLine_eq]; decide, q⟩) ?_
      refine seqSetX (d := .list (odd1 ++ odd2 ++ odd3 ++ odd4)) (fun Q q => ⟨by rw [sizeLine_eq]; decide, q⟩) ?_
      refine ⟨⟨_, rfl⟩, ?_⟩
      refine tkk (show n + 1 + 1 ≤ 1000100 by omega) (by decide) (by decide) fun j hj => ?_
      obtain ⟨e, e1, e2, e3⟩ := sel_at odds_lit j (by show j < 25; omega)
      obtain ⟨d, e4, e5⟩ := put e (by rw [h]; exact e2) e3 (n + 1 + 1 + 1) (by omega)
      refine ix_ok j rfl e1 ⟨by rw [sizeLine_eq, c1]; show _ + 1 ≤ _; omega, ⟨by rw [sizeLine_eq, c1, c2, List.length_append]; show _ + 1 + _ ≤ _; omega, ⟨by rw [sizeLine_eq]; show 3 < _; decide, ⟨⟨_, rfl⟩, ix_ok kd rfl e4 e5⟩⟩⟩⟩
end

/-! ### _law_refused -/
def rfF : DF := fun ds Q => ∃ (L : List Lt) (d : D), ds = [ltsD L, d] ∧ OkL L ∧ badI L d ∧ Q (.bool true)
theorem scRef : FnScope ["_law_letters_here", "_law_inputs", "_law_caught", "e"] ["_law_letters_here", "_law_inputs"] (defScope s__law_refused) := ⟨rfl, rfl, rfl, by decide +kernel, rfl, by decide +kernel, by decide +kernel⟩
section
variable {P : Program} {w : World} {K : PySem.W.Frag} {mg : Str → Option Value} {base : Heap} {CX CB : Addr}
theorem ok__law_refused (T : Tx K mg) (TX : X_NoInputs K mg CX CB) (O1 : OkX P w K mg base 3 "number_of" ["letters", "inputs"] (spX K CX 2 .E nuX)) : Ok P w K mg base 4 "_law_refused" ["_law_letters_here", "_law_inputs"] (spN K 2 .E rfF) := by
  obtain ⟨C1, g1, q1⟩ := TX.o_NoName
  refine Ok.mk T.d__law_refused scRef (fun vs H Q E h => ?_) (fun f cdv A outer s H vs Q E hr h => ?_)
  · obtain ⟨Hs, ds, Q0, _, ra, e, _⟩ := h
    rw [ra.len, e]; rfl
  obtain ⟨Hs, ds, Q0, sm, ra, el, ⟨L, d, rfl, hL, hF, hQ⟩, k⟩ := h
  obtain ⟨x, y, rfl⟩ : ∃ x y, vs = [x, y] := by
    cases ra with
    | cons r1 rr => cases rr with
      | cons r2 rr => cases rr; exact ⟨_, _, rfl⟩
  refine ⟨_, pss_cons (ps_set (i := 2) scRef.nd rfl (Or.inl rfl) pe_non)
    (pss_cons (ps_try_keep (i := 3) (tb := fun W => tDrop (tCallS (spX K CX 2 .E nuX) (WE W) (tCons (tVar 0) (tCons (tVar 1) tNil)))) (ts := fun _ _ _ => tAsg (tVar 3) (gName 2)) rfl rfl rfl scRef.nd rfl rfl ⟨rfl, by decide, .inl TX.c.gb⟩
      (fun W pn xe tk po => pss_one (ps_expr (by exact (pe_fnX O1 (hr.toRoom.mono (by omega)) hr.gd (by rfl) (fun σ => passAt tk σ) (by exact (pa_cons (pv 0) (pa_cons (pv 1) pa_nil)))))))
      (fun a oe cls d pn hz hf => pss_one (ps_set (i := 2) scRef.nd rfl (Or.inl rfl) (by exact (pv 3)))))
    (pss_one (ps_ret (pe_and (pe_callB (isXK K rfl TX.c.xc) (by rfl) T.z_isinstance boot_isi (pa_cons (pv 2) (pa_cons (pe_glob (v := .ref CX) (by rfl) TX.c.g rfl) pa_nil))) (pe_and (pe_callB (isXK K rfl TX.c.xc) (by rfl) T.z_isinstance boot_isi (pa_cons (pv 2) (pa_cons (pe_bltn (v := .ty "ValueError") (by rfl) T.z_ValueError (by decide +kernel) rfl) pa_nil))) (pe_one (pe_not (pe_callB (isXK K rfl TX.c.xc) (by rfl) T.z_isinstance boot_isi (pa_cons (pv 2) (pa_cons (pe_glob (v := .ref C1) (by rfl) g1 rfl) pa_nil)))))))))), ?_⟩
  refine ⟨_, rfl, _, rfl, ⟨Hs, _, fun _ => False, True, sm, ra, rfl, ⟨L, d, rfl, hL, .inr ⟨hF, trivial⟩⟩, fun _ _ _ _ e => False.elim e, fun _ H' g1 => ?_⟩⟩
  refine ⟨TX.c.te, fun a ha => ⟨_, rfl, fun _ => ?_⟩⟩
  have A0 : ∀ H2 : Hp, H2 = L2.upd H' a (ExO a (.ref CX) none) → H2 a = some (ExO a (.ref CX) none) ∧ Same H H2 := fun H2 e2 => by
    subst e2
    exact ⟨upd_same, g1.trans (same_upd ha)⟩
  generalize e2 : L2.upd H' a (ExO a (.ref CX) none) = H2
  obtain ⟨hA, hS⟩ := A0 H2 e2.symm
  refine ⟨_, rfl, a, _, _, _, rfl, hA, fun u r => r, TX.c.own, true, rfl, ifp rfl ?_⟩
  refine ⟨_, rfl, a, _, _, _, rfl, hA, fun u r => r, TX.c.ve, true, rfl, ifp rfl ?_⟩
  refine ⟨_, rfl, a, _, _, _, rfl, hA, fun u r => r, q1, false, rfl, ?_⟩
  exact k _ Hs _ _ hQ (Same.refl Hs) (sm.trans hS) hS (fun b e1 e2 => absurd e1 e2) (.bl _)
end

/-! ### the law -/
def nuF : DF := fun ds Q => ∃ (L : List Lt) (k : Nat), ds = [ltsD L, inpD L k] ∧ OkL L ∧ (L = [] → k = 0) ∧ k < 2 ^ 4000 ∧ Q (.int (k : Int))
def iaF : DF := fun ds Q => ∃ (L : List Lt) (k : Nat), ds = [ltsD L, .int (k : Int)] ∧ OkL L ∧ (L = [] → k = 0) ∧ k < 2 ^ 4000 ∧ Q (inpD L k)
def nm4 (a b c d : Str) : List Str := [a, b, c, d]
def NL4l : List D := [nmsL (nm4 (Str.ofString "a") (Str.ofString "b") (Str.ofString "c") (Str.ofString "d")), nmsL (nm4 (Str.ofString "d") (Str.ofString "c") (Str.ofString "b") (Str.ofString "a")), nmsL (nm4 (Str.ofString "n") (Str.ofString "a") (Str.ofString "zebra") (Str.ofString "b")), nmsL (nm4 (Str.ofString "qq") (Str.ofString "q") (Str.ofString "abcdefgh") (Str.ofString "c"))]
def NL4 : D := .list NL4l
theorem sel4 (j : Nat) (h : j < 4) : ∃ ns : List Str, NL4l[j]? = some (nmsL ns) ∧ ns.length = 4 ∧ ∀ z ∈ ns, PyData.strOk z = true := by
  have ok : ∀ ns : List Str, ns.all PyData.strOk = true → ∀ z ∈ ns, PyData.strOk z = true := fun ns h => List.all_eq_true.mp h
  match j, h with
  | 0, _ => exact ⟨_, rfl, rfl, ok _ (by decide +kernel)⟩
  | 1, _ => exact ⟨_, rfl, rfl, ok _ (by decide +kernel)⟩
  | 2, _ => exact ⟨_, rfl, rfl, ok _ (by decide +kernel)⟩
  | 3, _ => exact ⟨_, rfl, rfl, ok _ (by decide +kernel)⟩
theorem inpL_snoc {L : List Lt} {ns : List Nat} {a n : Nat} {l : Lt} (hl : L[a]? = some l) (hn : ns.length = a) : inpL (L.take (a + 1)) (ns ++ [n]) = inpL (L.take a) ns ++ [thD l.2 n] := by
  have ha := (List.getElem?_eq_some_iff.mp hl).1
  unfold inpL
  rw [take_snoc hl, List.zip_append (by rw [List.length_take]; omega), List.map_append]
  rfl
theorem exv_repr {i : Nat} {s : S} {d : D} (hs : s.δ[i]? = some (some d)) (hb : Bt 6 3000000 d) : Exv (dCB reprD (dCons (dV i) dNil)) s (.str d.shown) := fun Q q => by
  unfold dCB dCons dV
  simp only [hs]
  exact hb.repr (by decide) (by decide) (Q := fun z => Q z s) q
theorem tst_repr {i j : Nat} {s : S} {d : D} (hs : s.δ[i]? = some (some d)) (hj : s.δ[j]? = some (some (.str d.shown))) (hb : Bt 6 3000000 d) : Tst (dBl (dOp neD (dCB reprD (dCons (dV i) dNil)) (dV j))) s false := fun Q q => exv_repr hs hb _ (by
  unfold dV
  simp only [hj]
  show (match (PyData.bool (!decide (d.shown = d.shown))) with
    | .bool b => Q b s
    | _ => False)
  rw [decide_eq_true rfl]
  exact q)
def farL : List D := [.int 0, .int 1, .int (-1), .int 3, .int ((10 : Int) ^ ((6 : Int)).toNat), .int (-((10 : Int) ^ ((12 : Int)).toNat)), .int ((2 : Int) ^ ((40 : Int)).toNat - 1)]
theorem far_at (j : Nat) (h : j < 7) : ∃ i : Int, farL[j]? = some (.int i) ∧ i.natAbs < 2 ^ 42 := by
  match j, h with
  | 0, _ => exact ⟨_, rfl, by decide⟩
  | 1, _ => exact ⟨_, rfl, by decide⟩
  | 2, _ => exact ⟨_, rfl, by decide⟩
  | 3, _ => exact ⟨_, rfl, by decide⟩
  | 4, _ => exact ⟨_, rfl, by decide⟩
  | 5, _ => exact ⟨_, rfl, by decide⟩
  | 6, _ => exact ⟨_, rfl, by decide⟩
section
variable {P : Program} {w : World} {K : PySem.W.Frag} {mg : Str → Option Value} {base : Heap}
theorem ok_law {fa : Addr} {fda : FuncData} (T : Tx K mg) (F : Fun K "law" "law" s_law fa fda) : FnG P w K mg base 60 fa fda ["_law_script"] (spLaw K) := by
  obtain ⟨CX, CB, TX⟩ := T.x_NoInputs
  have O__law_open : Ok P w K mg base 1 "_law_open" ["_law_script"] (spOpen K) := ok__law_open T
  have O__law_take : Ok P w K mg base 2 "_law_take" ["_law_pen", "_law_many"] (spP K 1 .E takeF) := ok_takeP (ok__law_take T (ok__law_spread T))
  have O__law_anew := ok__law_anew (P := P) (w := w) (base := base) T
  have O__law_letters := ok__law_letters (P := P) (w := w) (base := base) T O__law_take
  have O__law_some_row := ok__law_some_row (P := P) (w := w) (base := base) T O__law_take
  have O__law_bent := ok__law_bent (P := P) (w := w) (base := base) T O__law_take
  have O_is_number := ok_is_number (P := P) (w := w) (base := base) T
  have O_is_inner_row := ok_is_inner_row (P := P) (w := w) (base := base) T O_is_number
  have O_dealt := ok_dealtP (P := P) (w := w) (base := base) T
  have O_gathered := ok_gatheredP (P := P) (w := w) (base := base) T
  have O_whole_at := ok_whole_at (P := P) (w := w) (base := base) T
  have O_whole_number := ok_whole_number (P := P) (w := w) (base := base) T
  have O_row_at := ok_row_at (P := P) (w := w) (base := base) T O_dealt O_whole_at
  have O_row_number := ok_row_number (P := P) (w := w) (base := base) T O_gathered O_whole_number
  have O_inputs_at : Ok P w K mg base 3 "inputs_at" ["letters", "k"] (spN K 2 .E iaF) := (ok_inputs_at (P := P) (w := w) (base := base) T TX O_is_number O_dealt O_whole_at O_row_at).good fun ds Q ⟨L, k, e, hL, h0, hk, q⟩ => ⟨L, _, e, hL, .inl ⟨k, rfl, h0, hk, q⟩⟩
  have X_number_of := ok_number_of (P := P) (w := w) (base := base) T TX O_is_number O_is_inner_row O_whole_number O_row_number O_gathered
  have O_number_of : Ok P w K mg base 3 "number_of" ["letters", "inputs"] (spN K 2 .E nuF) := X_number_of.good fun ds Q ⟨L, k, e, hL, h0, hk, q⟩ => ⟨L, _, e, hL, .inl ⟨k, rfl, h0, hk, q⟩⟩
  have O__law_refused := ok__law_refused (P := P) (w := w) (base := base) T TX X_number_of
  have O__law_same := ok__law_same (P := P) (w := w) (base := base) T 5
  refine Ok.ofLaw (M := [3]) F sc_law (by decide) fun f cdv A outer s H E hr => ⟨_, (pss_cons (ps_set (i := 1) sc_law.nd rfl (Or.inl rfl) (pe_fn O__law_open (hr.mono (by omega)) (by rfl) (pa_cons (pv 0) pa_nil)))
 (pss_cons (ps_for PassesOwn.never rfl (pi_range1 (by rfl) T.z_range (pa_cons (pe_int) (pa_nil))) (pg_nameL (i := 2) sc_law.nd rfl rfl)
 (pss_cons (ps_set (i := 3) sc_law.nd rfl (Or.inl rfl) (pe_lst (pa_cons (pe_lst (pa_cons (pe_str) (pa_cons (pe_str) (pa_cons (pe_str) (pa_cons (pe_str) (pa_nil)))))) (pa_cons (pe_lst (pa_cons (pe_str) (pa_cons (pe_str) (pa_cons (pe_str) (pa_cons (pe_str) (pa_nil)))))) (pa_cons (pe_lst (pa_cons (pe_str) (pa_cons (pe_str) (pa_cons (pe_str) (pa_cons (pe_str) (pa_nil)))))) (pa_cons (pe_lst (pa_cons (pe_str) (pa_cons (pe_str) (pa_cons (pe_str) (pa_cons (pe_str) (pa_nil)))))) (pa_nil)))))))
 (pss_cons (ps_set (i := 4) sc_law.nd rfl (Or.inl rfl) (pe_fn O__law_letters (hr.mono (by omega)) (by rfl) (pa_cons (pv 1) (pa_cons (pe_ix (ixG K rfl (u65 hr.toRoom)) (pv 3) (pe_fn O__law_take (hr.mono (by omega)) (by rfl) (pa_cons (pe_fn O__law_anew (hr.mono (by omega)) (by rfl) (pa_cons (pv 1) pa_nil)) (pa_cons (pe_int) (pa_nil)))) (fun _ _ => rfl)) (pa_nil)))))
 (pss_cons (ps_set (i := 3) sc_law.nd rfl (Or.inl rfl) (pe_lst (pa_nil)))
 (pss_cons (ps_for PassesOwn.never rfl (piT K rfl (pv 4)) (pg_nameL (i := 5) sc_law.nd rfl rfl)
 (pss_cons (ps_set (i := 6) sc_law.nd rfl (Or.inl rfl) (pe_ix (ixG K rfl (u65 hr.toRoom)) (pe_lst (pa_cons (pe_int) (pa_cons (pe_int) (pa_cons (pe_un un_neg (pe_int)) (pa_cons (pe_int) (pa_cons (pe_op op_pow (pe_int) (pe_int)) (pa_cons (pe_un un_neg (pe_op op_pow (pe_int) (pe_int))) (pa_cons (pe_op op_sub (pe_op op_pow (pe_int) (pe_int)) (pe_int)) (pa_nil))))))))) (pe_fn O__law_take (hr.mono (by omega)) (by rfl) (pa_cons (pv 1) (pa_cons (pe_int) (pa_nil)))) (fun _ _ => rfl)))
 (pss_one (ps_expr (appK K rfl (pv 3) (pe_ifExp (pt_cmpR (eqG K rfl hr.units) (pe_ix (ixG K rfl (u65 hr.toRoom)) (pv 5) (pe_int) (fun _ _ => rfl)) (pe_str) (nomark _)) (pe_fn O__law_some_row (hr.mono (by omega)) (by rfl) (pa_cons (pv 1) (pa_nil))) (pv 6)))))))
 (pss_cons (ps_set (i := 7) sc_law.nd rfl (Or.inl rfl) (pe_callTy (tupQ K rfl) (by rfl) T.z_tuple boot_tuple (pa_cons (pv 3) pa_nil)))
 (pss_cons (ps_set (i := 8) sc_law.nd rfl (Or.inl rfl) (pe_fn O_number_of (hr.mono (by omega)) (by rfl) (pa_cons (pv 4) (pa_cons (pv 7) (pa_nil)))))
 (pss_cons (ps_if (PW.pt (pw_or (pt_val (pe_callB (isiK K rfl) (by rfl) T.z_isinstance boot_isi (pa_cons (pv 8) (pa_cons (pe_bltn (v := .ty "bool") (by rfl) T.z_bool boot_bool rfl) pa_nil)))) (pw_or (pt_not (pt_val (pe_callB (isiK K rfl) (by rfl) T.z_isinstance boot_isi (pa_cons (pv 8) (pa_cons (pe_bltn (v := .ty "int") (by rfl) T.z_int boot_int rfl) pa_nil))))) (pw_or1 (pt_cmpR op_lt (pv 8) (pe_int) (nomark _))))))
 (pss_one (ps_ret (pe_bl)))
 (pss_nil))
 (pss_cons (ps_if (pt_not (pt_val (pe_fn O__law_same (hr.mono (by omega)) (by rfl) (pa_cons (pe_fn O_inputs_at (hr.mono (by omega)) (by rfl) (pa_cons (pv 4) (pa_cons (pv 8) (pa_nil)))) (pa_cons (pv 7) (pa_nil))))))
 (pss_one (ps_ret (pe_bl)))
 (pss_nil))
 (pss_one (ps_for PassesOwn.never rfl (pi_range1 (by rfl) T.z_range (pa_cons (pe_int) (pa_nil))) (pg_nameL (i := 9) sc_law.nd rfl rfl)
 (pss_cons (ps_set (i := 10) sc_law.nd rfl (Or.inl rfl) (pe_fn O__law_bent (hr.mono (by omega)) (by rfl) (pa_cons (pv 1) (pa_cons (pv 4) (pa_cons (pv 7) (pa_nil))))))
 (pss_cons (ps_set (i := 11) sc_law.nd rfl (Or.inl rfl) (pe_callB (reprK K rfl hr.gd (u65 hr.toRoom)) (by rfl) T.z_repr boot_repr (pa_cons (pv 10) (pa_nil))))
 (pss_one (ps_if (PW.pt (pw_or (pt_not (pt_val (pe_fn O__law_refused (hr.mono (by omega)) (by rfl) (pa_cons (pv 4) (pa_cons (pv 10) (pa_nil)))))) (pw_or1 (pt_cmpR (neG K rfl hr.units) (pe_callB (reprK K rfl hr.gd (u65 hr.toRoom)) (by rfl) T.z_repr boot_repr (pa_cons (pv 10) (pa_nil))) (pv 11) (nomark _)))))
 (pss_one (ps_ret (pe_bl)))
 (pss_nil))))))))))))))))
 (pss_one (ps_ret (pe_bl))))),
 fun p c => ⟨_, (simS_cut (simS_for (simI_range1 (sim_int _)) (simG_name 2 (nm rfl) (np rfl))
 (simS_seq (simS_setM 3 (ym rfl) (nb rfl) (sim_lst (by decide) (simA_cons (sim_lst (by decide) (simA_cons (sim_str _) (simA_cons (sim_str _) (simA_cons (sim_str _) (simA_cons (sim_str _) (simA_nil)))))) (simA_cons (sim_lst (by decide) (simA_cons (sim_str _) (simA_cons (sim_str _) (simA_cons (sim_str _) (simA_cons (sim_str _) (simA_nil)))))) (simA_cons (sim_lst (by decide) (simA_cons (sim_str _) (simA_cons (sim_str _) (simA_cons (sim_str _) (simA_cons (sim_str _) (simA_nil)))))) (simA_cons (sim_lst (by decide) (simA_cons (sim_str _) (simA_cons (sim_str _) (simA_cons (sim_str _) (simA_cons (sim_str _) (simA_nil)))))) (simA_nil)))))))
 (simS_seq (simS_set 4 (nm rfl) (np rfl) (sim_callP (by simp) rfl (simA_cons (opA_ixM 3 (ym rfl) (sim_callPA (by simp) rfl (simA_cons (sim_int _) (simA_nil)))) (simA_nil))))
 (simS_seq (simS_setM 3 (ym rfl) (nb rfl) (sim_lst (by decide) (simA_nil)))
 (simS_cut (simS_for (simI_tup (sim_var 4 (nm rfl))) (simG_name 5 (nm rfl) (np rfl))
 (simS_cut (simS_set 6 (nm rfl) (np rfl) (opA_ix (sim_lst (by decide) (simA_cons (sim_int _) (simA_cons (sim_int _) (simA_cons (sim_neg (sim_int _)) (simA_cons (sim_int _) (simA_cons (sim_op opA_pow (sim_int _) (sim_int _)) (simA_cons (sim_neg (sim_op opA_pow (sim_int _) (sim_int _))) (simA_cons (sim_op opA_sub (sim_op opA_pow (sim_int _) (sim_int _)) (sim_int _)) (simA_nil))))))))) (sim_callP (by simp) rfl (simA_cons (sim_int _) (simA_nil)))))
 (simS_drop (sim_mt 3 (ym rfl) mtA_app (simA_cons (sim_if (simT_test (sim_op opA_eq (opA_ix (sim_var 5 (nm rfl)) (sim_int _)) (sim_str _))) (Sim.toE (sim_callP (by simp) rfl (simA_nil))) (Sim.toE (sim_var 6 (nm rfl)))) simA_nil)))))
 (simS_seq (simS_set 7 (nm rfl) (np rfl) (sim_cbM 3 (ym rfl) caA_tup))
 (simS_seq (simS_set 8 (nm rfl) (np rfl) (sim_call (simA_cons (sim_var 4 (nm rfl)) (simA_cons (sim_var 7 (nm rfl)) (simA_nil)))))
 (simS_seq (simS_if (simT_or (simT_B (sim_isi .bool (sim_var 8 (nm rfl)))) (simT_or (simT_not (simT_B (sim_isi .int (sim_var 8 (nm rfl))))) (simT_test (sim_op (opA_cmp _) (sim_var 8 (nm rfl)) (sim_int _)))))
 (simS_ret (Sim.toE (sim_bl _)))
 (simS_next))
 (simS_seq (simS_if (simT_not (simT_B (sim_call (simA_cons (sim_call (simA_cons (sim_var 4 (nm rfl)) (simA_cons (sim_var 8 (nm rfl)) (simA_nil)))) (simA_cons (sim_var 7 (nm rfl)) (simA_nil))))))
 (simS_ret (Sim.toE (sim_bl _)))
 (simS_next))
 (simS_for (simI_range1 (sim_int _)) (simG_name 9 (nm rfl) (np rfl))
 (simS_seq (simS_set 10 (nm rfl) (np rfl) (sim_callP (by simp) rfl (simA_cons (sim_var 4 (nm rfl)) (simA_cons (sim_var 7 (nm rfl)) (simA_nil)))))
 (simS_seq (simS_set 11 (nm rfl) (np rfl) (sim_cb caA_repr (simA_cons (sim_var 10 (nm rfl)) (simA_nil))))
 (simS_if (simT_or (simT_not (simT_B (sim_call (simA_cons (sim_var 4 (nm rfl)) (simA_cons (sim_var 10 (nm rfl)) (simA_nil)))))) (simT_test (sim_op opA_ne (sim_cb caA_repr (simA_cons (sim_var 10 (nm rfl)) (simA_nil))) (sim_var 11 (nm rfl)))))
 (simS_ret (Sim.toE (sim_bl _)))
 (simS_next))))))))))))))
 (simS_ret (Sim.toE (sim_bl _)))), ?_⟩⟩
  refine cutThru ⟨⟨by decide, by decide⟩, forD_ind (fun v s => ∃ (n : Nat) (c d e g h i j k l o : Option D), s = { δ := [none, none, c, d, e, g, h, i, j, k, l, o], n := n } ∧ n ≤ v * 100 ∧ v ≤ 8) ⟨0, none, none, none, none, none, none, none, none, none, none, rfl, by omega, by omega⟩ ?_ ?_⟩
  · rintro v d0 s N hd ⟨n, o2, o3, o4, o5, o6, o7, o8, o9, o10, o11, rfl, hn, _⟩ hN
    obtain ⟨hv, rfl⟩ := rgD_get hd
    have hv : v < 8 := by simpa using hv
    refine seqSetMX (d := NL4) (fun Q q => q) rfl ?_
    refine ⟨⟨_, rfl⟩, ?_⟩
    refine tkk (show n ≤ 1000100 by omega) (by decide) (by decide) fun j hj => ?_
    obtain ⟨nms, e1, e2, e3⟩ := sel4 j (by omega)
    refine ix_ok j rfl e1 ⟨nms, rfl, e2, e3, (show n + 1 ≤ 1000000 by omega), fun L n1 hL hn1 => ?_⟩
    have hn1 : n1 ≤ n + 1 + 5 := hn1
    have hL4 := hL.len
    dsimp only
    refine seqSetMX (d := .list []) (fun Q q => q) rfl (cutThru ?_)
    refine forD_ind (fun a s => ∃ (ns : List Nat) (n2 : Nat) (o5 o6 : Option D), ns.length = a ∧ a ≤ L.length ∧ (∀ n ∈ ns, n < 2 ^ 300) ∧ n2 ≤ n1 + a * 12 ∧ s = { δ := [none, none, some (.int (0 + (v : Nat))), some (.list (inpL (L.take a) ns)), some (ltsD L), o5, o6, o7, o8, o9, o10, o11], n := n2 }) ⟨[], n1, o5, o6, rfl, by omega, (fun n m => nomatch m), by omega, rfl⟩ ?_ ?_
    · rintro a d s N2 hd ⟨ns, n2, o5, o6, hna, haL, hns, hn2, rfl⟩ hN2
      rw [List.getElem?_map, Option.map_eq_some_iff] at hd
      obtain ⟨l, hl, rfl⟩ := hd
      have ha := (List.getElem?_eq_some_iff.mp hl).1
      have hsz : (inpL (L.take a) ns).length < sizeLine := by
        unfold inpL
        rw [List.length_map, List.length_zip, sizeLine_eq]
        omega
      refine cutThru ?_
      refine ⟨⟨by decide, by decide, by decide⟩, ⟨by decide, by decide, by decide⟩, ⟨by decide, by decide, by decide⟩, ?_⟩
      refine tkk (show n2 ≤ 1000100 by omega) (by decide) (by decide) fun j hj => ?_
      obtain ⟨i, e4, e5⟩ := far_at j (by omega)
      refine ix_ok j rfl e4 ⟨⟨_, rfl⟩, ?_⟩
      refine tst_kind (l := l) rfl _ ?_
      have fin : ∀ (n3 u : Nat) (o6 : Option D), u < 2 ^ 300 → n3 ≤ n2 + 12 → N2 { δ := [none, none, some (.int (0 + (v : Nat))), some (.list (inpL (L.take a) ns ++ [thD l.2 u])), some (ltsD L), some (ltD l), o6, o7, o8, o9, o10, o11], n := n3 } := fun n3 u o6 hu h3 => by
        refine hN2 _ ⟨ns ++ [u], n3, some (ltD l), o6, by rw [List.length_append, hna]; rfl, by omega, fun z hz => ?_, by omega, by rw [inpL_snoc hl hna]⟩
        rcases List.mem_append.mp hz with h | h
        · exact hns z h
        · rw [List.mem_singleton.mp h]; exact hu
      by_cases hb : l.2 = true
      · refine ifp hb ⟨rfl, by show n2 + 1 ≤ 1000000; omega, fun u m' hu (hm' : m' ≤ n2 + 1 + 10) => ⟨hsz, ?_⟩⟩
        have := fin m' u (some (.int i)) hu (by omega)
        rw [hb] at this
        exact this
      · obtain ⟨u, hu, e6⟩ := int_num e5
        have hb' : l.2 = false := by simpa using hb
        refine ifn hb ⟨hsz, ?_⟩
        have := fin (n2 + 1) u (some (.int i)) hu (by omega)
        rw [hb', ← e6] at this
        exact this
    rintro s ⟨ns, n2, o5, o6, hna, _, hns, hn2, rfl⟩
    rw [List.length_map] at hna hn2
    rw [List.length_map, List.take_length]
    have hI : OkI L ns := ⟨hL, hna, hns⟩
    obtain ⟨k, hk0, hk, hd⟩ := lst_num hL hna hns
    have hinp : PyData.tuple (inpL L ns) = inpD L k := by unfold inpD; rw [hd]
    dsimp only
    refine seqSetX (d := .tuple (inpL L ns)) (fun Q q => q) ?_
    refine seqSetX (d := .int (k : Int)) (fun Q q => ⟨L, k, by rw [← hinp] <;> rfl, hL, hk0, hk, q⟩) ?_
    refine seqN (tst_or (x := false) (fun Q q => q) fun _ => tst_or (x := false) (tst_not (x := true) fun Q q => q) fun _ Q q => ?_) ?_
    · rw [← decide_eq_false (show ¬ (k : Int) < 0 by omega)] at q
      exact q
    refine seqN (tst_not (x := true) fun Q q => ⟨L, k, rfl, hL, hk0, hk, ⟨hinp.symm, dat_inp hL hk, q⟩⟩) ?_
    refine ⟨⟨by decide, by decide⟩, ?_⟩
    refine forD_ind (fun b s => ∃ (n3 : Nat) (o9 o10 o11 : Option D), n3 ≤ n2 + b * 5 ∧ b ≤ 3 ∧ s = { δ := [none, none, some (.int (0 + (v : Nat))), some (.list (inpL L ns)), some (ltsD L), o5, o6, some (.tuple (inpL L ns)), some (.int (k : Int)), o9, o10, o11], n := n3 }) ⟨n2, o9, o10, o11, by omega, by omega, rfl⟩ ?_ ?_
    · rintro b d s N3 hd ⟨n3, o9, o10, o11, hn3, _, rfl⟩ hN3
      obtain ⟨hb3, rfl⟩ := rgD_get hd
      have hb3 : b < 3 := by simpa using hb3
      refine ⟨L, ns, rfl, hI, by show n3 ≤ 1000000; omega, fun d m' hb (hm' : m' ≤ n3 + 5) => ?_⟩
      dsimp only
      refine seqSetX (d := .str d.shown) (exv_repr rfl hb.2) ?_
      refine ifS_either (k := false) (tst_or (x := false) (tst_not (x := true) fun Q q => ⟨L, d, rfl, hL, hb.1, q⟩) fun _ => tst_repr rfl rfl hb.2) (fun z => nomatch z) fun _ => hN3 _ ⟨m', _, _, _, by omega, by omega, rfl⟩
    · rintro s ⟨n3, o9, o10, o11, hn3, hb3, rfl⟩
      have hb3 : (rgD 0 ((3 : Int)).toNat).length = 3 := rfl
      exact hN _ ⟨n3, _, _, _, _, _, _, _, _, _, _, rfl, by omega, by omega⟩
  · rintro s ⟨n, c, d, e, g, h, i, j, k, l, o, rfl, hn, hv⟩
    rfl
end
theorem law_end {l : PySem.W.OpenLaw} {w : World} {K : PySem.W.Frag} {mg : Str → Option Value} {fa : Addr} (T : Tx K mg) (hmg : mg "law" = some (.ref fa)) :
    ∃ fd : FuncData, (∀ (s : Shared) (v : Value), BindsTo s fd ⟨[v], []⟩ [("_law_script", v)]) ∧ ∀ base : Heap, K.In base → base.Ns mainGlobals mg → FnG l.prog w K mg base 60 fa fd ["_law_script"] (spLaw K) := by
  obtain ⟨f, fd, F, b, g⟩ := T.d_law
  rw [hmg] at g
  cases g
  have F' := F
  obtain ⟨oc, od, kV, doc, pm, an, cdv, ct, osl, rfl, lk, hcd⟩ := F.ex
  exact ⟨_, fun s v => .of_eq rfl, fun base _ _ => ok_law T F'⟩

theorem all_mk {w : World} {K : PySem.W.Frag} {h : Heap} {mg : Str → Option Value} {f1 f2 f3 f4 f5 f6 f7 f8 f9 f10 f11 f12 f13 f14 f15 f16 f17 f18 f19 f20 : Addr} {P0W P0B : Addr} {P0O0 : Addr} (X : K.In h) (G : h.Ns mainGlobals mg)
    {od1 an1 od2 an2 od3 an3 od4 an4 od5 an5 od6 an6 od7 an7 od8 an8 od9 an9 od10 an10 od11 an11 od12 an12 od13 an13 od14 an14 od15 an15 od16 an16 od17 an17 od18 an18 od19 an19 od20 an20 : Option Addr} {sl1 sl2 sl3 sl4 sl5 sl6 sl7 sl8 sl9 sl10 sl11 sl12 sl13 sl14 sl15 sl16 sl17 sl18 sl19 sl20 : Array (Option Value)} {oc1 kV1 dc1 pm1 cd1 ct1 oc2 kV2 dc2 pm2 cd2 ct2 oc3 kV3 dc3 pm3 cd3 ct3 oc4 kV4 dc4 pm4 cd4 ct4 oc5 kV5 dc5 pm5 cd5 ct5 oc6 kV6 dc6 pm6 cd6 ct6 oc7 kV7 dc7 pm7 cd7 ct7 oc8 kV8 dc8 pm8 cd8 ct8 oc9 kV9 dc9 pm9 cd9 ct9 oc10 kV10 dc10 pm10 cd10 ct10 oc11 kV11 dc11 pm11 cd11 ct11 oc12 kV12 dc12 pm12 cd12 ct12 oc13 kV13 dc13 pm13 cd13 ct13 oc14 kV14 dc14 pm14 cd14 ct14 oc15 kV15 dc15 pm15 cd15 ct15 oc16 kV16 dc16 pm16 cd16 ct16 oc17 kV17 dc17 pm17 cd17 ct17 oc18 kV18 dc18 pm18 cd18 ct18 oc19 kV19 dc19 pm19 cd19 ct19 oc20 kV20 dc20 pm20 cd20 ct20 : Value}
    (a1 : PySem.W.nsIn K mainGlobals "dealt" = some (some (.ref f1))) (l1 : K.lookup f1 = some ⟨oc1, od1, .func (PySem.W.fnOf "dealt" "dealt" (defArgs s_dealt) (defBody s_dealt) (defScope s_dealt) .none kV1 dc1 pm1 an1 cd1 ct1), sl1⟩) (c1 : PySem.W.codeIn K cd1 "dealt" = true) (k1 : PySem.W.keepIn K (.ref f1) = true)
    (a2 : PySem.W.nsIn K mainGlobals "gathered" = some (some (.ref f2))) (l2 : K.lookup f2 = some ⟨oc2, od2, .func (PySem.W.fnOf "gathered" "gathered" (defArgs s_gathered) (defBody s_gathered) (defScope s_gathered) .none kV2 dc2 pm2 an2 cd2 ct2), sl2⟩) (c2 : PySem.W.codeIn K cd2 "gathered" = true) (k2 : PySem.W.keepIn K (.ref f2) = true)
    (a3 : PySem.W.nsIn K mainGlobals "whole_at" = some (some (.ref f3))) (l3 : K.lookup f3 = some ⟨oc3, od3, .func (PySem.W.fnOf "whole_at" "whole_at" (defArgs s_whole_at) (defBody s_whole_at) (defScope s_whole_at) .none kV3 dc3 pm3 an3 cd3 ct3), sl3⟩) (c3 : PySem.W.codeIn K cd3 "whole_at" = true) (k3 : PySem.W.keepIn K (.ref f3) = true)
    (a4 : PySem.W.nsIn K mainGlobals "whole_number" = some (some (.ref f4))) (l4 : K.lookup f4 = some ⟨oc4, od4, .func (PySem.W.fnOf "whole_number" "whole_number" (defArgs s_whole_number) (defBody s_whole_number) (defScope s_whole_number) .none kV4 dc4 pm4 an4 cd4 ct4), sl4⟩) (c4 : PySem.W.codeIn K cd4 "whole_number" = true) (k4 : PySem.W.keepIn K (.ref f4) = true)
    (a5 : PySem.W.nsIn K mainGlobals "row_at" = some (some (.ref f5))) (l5 : K.lookup f5 = some ⟨oc5, od5, .func (PySem.W.fnOf "row_at" "row_at" (defArgs s_row_at) (defBody s_row_at) (defScope s_row_at) .none kV5 dc5 pm5 an5 cd5 ct5), sl5⟩) (c5 : PySem.W.codeIn K cd5 "row_at" = true) (k5 : PySem.W.keepIn K (.ref f5) = true)
    (a6 : PySem.W.nsIn K mainGlobals "row_number" = some (some (.ref f6))) (l6 : K.lookup f6 = some ⟨oc6, od6, .func (PySem.W.fnOf "row_number" "row_number" (defArgs s_row_number) (defBody s_row_number) (defScope s_row_number) .none kV6 dc6 pm6 an6 cd6 ct6), sl6⟩) (c6 : PySem.W.codeIn K cd6 "row_number" = true) (k6 : PySem.W.keepIn K (.ref f6) = true)
    (a7 : PySem.W.nsIn K mainGlobals "is_number" = some (some (.ref f7))) (l7 : K.lookup f7 = some ⟨oc7, od7, .func (PySem.W.fnOf "is_number" "is_number" (defArgs s_is_number) (defBody s_is_number) (defScope s_is_number) .none kV7 dc7 pm7 an7 cd7 ct7), sl7⟩) (c7 : PySem.W.codeIn K cd7 "is_number" = true) (k7 : PySem.W.keepIn K (.ref f7) = true)
    (a8 : PySem.W.nsIn K mainGlobals "is_inner_row" = some (some (.ref f8))) (l8 : K.lookup f8 = some ⟨oc8, od8, .func (PySem.W.fnOf "is_inner_row" "is_inner_row" (defArgs s_is_inner_row) (defBody s_is_inner_row) (defScope s_is_inner_row) .none kV8 dc8 pm8 an8 cd8 ct8), sl8⟩) (c8 : PySem.W.codeIn K cd8 "is_inner_row" = true) (k8 : PySem.W.keepIn K (.ref f8) = true)
    (a9 : PySem.W.nsIn K mainGlobals "inputs_at" = some (some (.ref f9))) (l9 : K.lookup f9 = some ⟨oc9, od9, .func (PySem.W.fnOf "inputs_at" "inputs_at" (defArgs s_inputs_at) (defBody s_inputs_at) (defScope s_inputs_at) .none kV9 dc9 pm9 an9 cd9 ct9), sl9⟩) (c9 : PySem.W.codeIn K cd9 "inputs_at" = true) (k9 : PySem.W.keepIn K (.ref f9) = true)
    (a10 : PySem.W.nsIn K mainGlobals "number_of" = some (some (.ref f10))) (l10 : K.lookup f10 = some ⟨oc10, od10, .func (PySem.W.fnOf "number_of" "number_of" (defArgs s_number_of) (defBody s_number_of) (defScope s_number_of) .none kV10 dc10 pm10 an10 cd10 ct10), sl10⟩) (c10 : PySem.W.codeIn K cd10 "number_of" = true) (k10 : PySem.W.keepIn K (.ref f10) = true)
    (a11 : PySem.W.nsIn K mainGlobals "_law_spread" = some (some (.ref f11))) (l11 : K.lookup f11 = some ⟨oc11, od11, .func (PySem.W.fnOf "_law_spread" "_law_spread" (defArgs s__law_spread) (defBody s__law_spread) (defScope s__law_spread) .none kV11 dc11 pm11 an11 cd11 ct11), sl11⟩) (c11 : PySem.W.codeIn K cd11 "_law_spread" = true) (k11 : PySem.W.keepIn K (.ref f11) = true)
    (a12 : PySem.W.nsIn K mainGlobals "_law_open" = some (some (.ref f12))) (l12 : K.lookup f12 = some ⟨oc12, od12, .func (PySem.W.fnOf "_law_open" "_law_open" (defArgs s__law_open) (defBody s__law_open) (defScope s__law_open) .none kV12 dc12 pm12 an12 cd12 ct12), sl12⟩) (c12 : PySem.W.codeIn K cd12 "_law_open" = true) (k12 : PySem.W.keepIn K (.ref f12) = true)
    (a13 : PySem.W.nsIn K mainGlobals "_law_anew" = some (some (.ref f13))) (l13 : K.lookup f13 = some ⟨oc13, od13, .func (PySem.W.fnOf "_law_anew" "_law_anew" (defArgs s__law_anew) (defBody s__law_anew) (defScope s__law_anew) .none kV13 dc13 pm13 an13 cd13 ct13), sl13⟩) (c13 : PySem.W.codeIn K cd13 "_law_anew" = true) (k13 : PySem.W.keepIn K (.ref f13) = true)
    (a14 : PySem.W.nsIn K mainGlobals "_law_take" = some (some (.ref f14))) (l14 : K.lookup f14 = some ⟨oc14, od14, .func (PySem.W.fnOf "_law_take" "_law_take" (defArgs s__law_take) (defBody s__law_take) (defScope s__law_take) .none kV14 dc14 pm14 an14 cd14 ct14), sl14⟩) (c14 : PySem.W.codeIn K cd14 "_law_take" = true) (k14 : PySem.W.keepIn K (.ref f14) = true)
    (a15 : PySem.W.nsIn K mainGlobals "_law_same" = some (some (.ref f15))) (l15 : K.lookup f15 = some ⟨oc15, od15, .func (PySem.W.fnOf "_law_same" "_law_same" (defArgs s__law_same) (defBody s__law_same) (defScope s__law_same) .none kV15 dc15 pm15 an15 cd15 ct15), sl15⟩) (c15 : PySem.W.codeIn K cd15 "_law_same" = true) (k15 : PySem.W.keepIn K (.ref f15) = true)
    (a16 : PySem.W.nsIn K mainGlobals "_law_letters" = some (some (.ref f16))) (l16 : K.lookup f16 = some ⟨oc16, od16, .func (PySem.W.fnOf "_law_letters" "_law_letters" (defArgs s__law_letters) (defBody s__law_letters) (defScope s__law_letters) .none kV16 dc16 pm16 an16 cd16 ct16), sl16⟩) (c16 : PySem.W.codeIn K cd16 "_law_letters" = true) (k16 : PySem.W.keepIn K (.ref f16) = true)
    (a17 : PySem.W.nsIn K mainGlobals "_law_some_row" = some (some (.ref f17))) (l17 : K.lookup f17 = some ⟨oc17, od17, .func (PySem.W.fnOf "_law_some_row" "_law_some_row" (defArgs s__law_some_row) (defBody s__law_some_row) (defScope s__law_some_row) .none kV17 dc17 pm17 an17 cd17 ct17), sl17⟩) (c17 : PySem.W.codeIn K cd17 "_law_some_row" = true) (k17 : PySem.W.keepIn K (.ref f17) = true)
    (a18 : PySem.W.nsIn K mainGlobals "_law_bent" = some (some (.ref f18))) (l18 : K.lookup f18 = some ⟨oc18, od18, .func (PySem.W.fnOf "_law_bent" "_law_bent" (defArgs s__law_bent) (defBody s__law_bent) (defScope s__law_bent) .none kV18 dc18 pm18 an18 cd18 ct18), sl18⟩) (c18 : PySem.W.codeIn K cd18 "_law_bent" = true) (k18 : PySem.W.keepIn K (.ref f18) = true)
    (a19 : PySem.W.nsIn K mainGlobals "_law_refused" = some (some (.ref f19))) (l19 : K.lookup f19 = some ⟨oc19, od19, .func (PySem.W.fnOf "_law_refused" "_law_refused" (defArgs s__law_refused) (defBody s__law_refused) (defScope s__law_refused) .none kV19 dc19 pm19 an19 cd19 ct19), sl19⟩) (c19 : PySem.W.codeIn K cd19 "_law_refused" = true) (k19 : PySem.W.keepIn K (.ref f19) = true)
    (a20 : PySem.W.nsIn K mainGlobals "law" = some (some (.ref f20))) (l20 : K.lookup f20 = some ⟨oc20, od20, .func (PySem.W.fnOf "law" "law" (defArgs s_law) (defBody s_law) (defScope s_law) .none kV20 dc20 pm20 an20 cd20 ct20), sl20⟩) (c20 : PySem.W.codeIn K cd20 "law" = true) (k20 : PySem.W.keepIn K (.ref f20) = true)
    (z1 : PySem.W.nsIn K mainGlobals "ValueError" = some none)
    (z2 : PySem.W.nsIn K mainGlobals "any" = some none)
    (z3 : PySem.W.nsIn K mainGlobals "bool" = some none)
    (z4 : PySem.W.nsIn K mainGlobals "dict" = some none)
    (z5 : PySem.W.nsIn K mainGlobals "enumerate" = some none)
    (z6 : PySem.W.nsIn K mainGlobals "int" = some none)
    (z7 : PySem.W.nsIn K mainGlobals "isinstance" = some none)
    (z8 : PySem.W.nsIn K mainGlobals "len" = some none)
    (z9 : PySem.W.nsIn K mainGlobals "list" = some none)
    (z10 : PySem.W.nsIn K mainGlobals "range" = some none)
    (z11 : PySem.W.nsIn K mainGlobals "repr" = some none)
    (z12 : PySem.W.nsIn K mainGlobals "str" = some none)
    (z13 : PySem.W.nsIn K mainGlobals "tuple" = some none)
    (z14 : PySem.W.nsIn K mainGlobals "zip" = some none)
    (P0aW : PySem.W.nsIn K mainGlobals "NoInputs" = some (some (.ref P0W)))
    (P0aB : PySem.W.nsIn K mainGlobals "WorkError" = some (some (.ref P0B)))
    (P0xq : PySem.W.excIn K P0W [.type "ValueError", .type "Exception", .type "BaseException", .type "object"] "ValueError.__new__" = true)
    (P0kC : PySem.W.keepIn K (.ref P0W) = true)
    (P0eC : PySem.W.subIn K (.ref P0W) (.type "BaseException") = some true)
    (P0tC : PySem.W.typeIn K (.ref P0W) = some (.type "type"))
    (P0tB : PySem.W.typeIn K (.ref P0B) = some (.type "type"))
    (P0hg : PySem.W.findIn K (.ref P0W) "__getattribute__" = some (some (.builtin "BaseException.__getattribute__")))
    (P0hk : PySem.W.findIn K (.ref P0W) "__getattr__" = some none)
    (P0hd : PySem.W.hasDictIn K P0W = true)
    (P0ha : PySem.W.findIn K (.ref P0W) "__class__" = some (some (.builtin "object.__class__")))
    (P0hn : PySem.W.specialIn K (.builtin "object.__class__") "__get__" = some (some (.builtin "getset_descriptor.__get__")))
    (P0ht : PySem.W.takesIn K (.builtin "object.__class__") = some true)
    (P0hm : PySem.W.mroIn K P0W (.type "object") = some true)
    (P0eB : PySem.W.subIn K (.ref P0B) (.type "BaseException") = some true)
    (P0iB : PySem.W.isClsIn K P0B = true)
    (P0sB : PySem.W.subIn K (.ref P0W) (.ref P0B) = some true)
    (P0sW : PySem.W.subIn K (.ref P0W) (.ref P0W) = some true)
    (P0sV : PySem.W.subIn K (.ref P0W) (.type "ValueError") = some true)
    (P0aO0 : PySem.W.nsIn K mainGlobals "NoName" = some (some (.ref P0O0)))
    (P0iO0 : PySem.W.isClsIn K P0O0 = true)
    (P0tO0 : PySem.W.typeIn K (.ref P0O0) = some (.type "type"))
    (P0sO0 : PySem.W.subIn K (.ref P0W) (.ref P0O0) = some false)
    : Tx K mg := by
  exact ⟨
    ⟨f1, _, fun_mk (st := s_dealt) l1 c1 k1, (fun_mk (st := s_dealt) l1 c1 k1).binds (ps := ["k", "many"]) (fun _ _ _ _ _ _ us hl => match us, hl with | [_, _], _ => rfl), PySem.W.mg_of X G a1⟩,
    ⟨f2, _, fun_mk (st := s_gathered) l2 c2 k2, (fun_mk (st := s_gathered) l2 c2 k2).binds (ps := ["numbers"]) (fun _ _ _ _ _ _ us hl => match us, hl with | [_], _ => rfl), PySem.W.mg_of X G a2⟩,
    ⟨f3, _, fun_mk (st := s_whole_at) l3 c3 k3, (fun_mk (st := s_whole_at) l3 c3 k3).binds (ps := ["number"]) (fun _ _ _ _ _ _ us hl => match us, hl with | [_], _ => rfl), PySem.W.mg_of X G a3⟩,
    ⟨f4, _, fun_mk (st := s_whole_number) l4 c4 k4, (fun_mk (st := s_whole_number) l4 c4 k4).binds (ps := ["whole"]) (fun _ _ _ _ _ _ us hl => match us, hl with | [_], _ => rfl), PySem.W.mg_of X G a4⟩,
    ⟨f5, _, fun_mk (st := s_row_at) l5 c5 k5, (fun_mk (st := s_row_at) l5 c5 k5).binds (ps := ["number"]) (fun _ _ _ _ _ _ us hl => match us, hl with | [_], _ => rfl), PySem.W.mg_of X G a5⟩,
    ⟨f6, _, fun_mk (st := s_row_number) l6 c6 k6, (fun_mk (st := s_row_number) l6 c6 k6).binds (ps := ["row"]) (fun _ _ _ _ _ _ us hl => match us, hl with | [_], _ => rfl), PySem.W.mg_of X G a6⟩,
    ⟨f7, _, fun_mk (st := s_is_number) l7 c7 k7, (fun_mk (st := s_is_number) l7 c7 k7).binds (ps := ["thing"]) (fun _ _ _ _ _ _ us hl => match us, hl with | [_], _ => rfl), PySem.W.mg_of X G a7⟩,
    ⟨f8, _, fun_mk (st := s_is_inner_row) l8 c8 k8, (fun_mk (st := s_is_inner_row) l8 c8 k8).binds (ps := ["thing"]) (fun _ _ _ _ _ _ us hl => match us, hl with | [_], _ => rfl), PySem.W.mg_of X G a8⟩,
    ⟨f9, _, fun_mk (st := s_inputs_at) l9 c9 k9, (fun_mk (st := s_inputs_at) l9 c9 k9).binds (ps := ["letters", "k"]) (fun _ _ _ _ _ _ us hl => match us, hl with | [_, _], _ => rfl), PySem.W.mg_of X G a9⟩,
    ⟨f10, _, fun_mk (st := s_number_of) l10 c10 k10, (fun_mk (st := s_number_of) l10 c10 k10).binds (ps := ["letters", "inputs"]) (fun _ _ _ _ _ _ us hl => match us, hl with | [_, _], _ => rfl), PySem.W.mg_of X G a10⟩,
    ⟨f11, _, fun_mk (st := s__law_spread) l11 c11 k11, (fun_mk (st := s__law_spread) l11 c11 k11).binds (ps := ["_law_cell", "_law_at"]) (fun _ _ _ _ _ _ us hl => match us, hl with | [_, _], _ => rfl), PySem.W.mg_of X G a11⟩,
    ⟨f12, _, fun_mk (st := s__law_open) l12 c12 k12, (fun_mk (st := s__law_open) l12 c12 k12).binds (ps := ["_law_script"]) (fun _ _ _ _ _ _ us hl => match us, hl with | [_], _ => rfl), PySem.W.mg_of X G a12⟩,
    ⟨f13, _, fun_mk (st := s__law_anew) l13 c13 k13, (fun_mk (st := s__law_anew) l13 c13 k13).binds (ps := ["_law_pen"]) (fun _ _ _ _ _ _ us hl => match us, hl with | [_], _ => rfl), PySem.W.mg_of X G a13⟩,
    ⟨f14, _, fun_mk (st := s__law_take) l14 c14 k14, (fun_mk (st := s__law_take) l14 c14 k14).binds (ps := ["_law_pen", "_law_many"]) (fun _ _ _ _ _ _ us hl => match us, hl with | [_, _], _ => rfl), PySem.W.mg_of X G a14⟩,
    ⟨f15, _, fun_mk (st := s__law_same) l15 c15 k15, (fun_mk (st := s__law_same) l15 c15 k15).binds (ps := ["_law_found", "_law_due"]) (fun _ _ _ _ _ _ us hl => match us, hl with | [_, _], _ => rfl), PySem.W.mg_of X G a15⟩,
    ⟨f16, _, fun_mk (st := s__law_letters) l16 c16 k16, (fun_mk (st := s__law_letters) l16 c16 k16).binds (ps := ["_law_pen", "_law_names"]) (fun _ _ _ _ _ _ us hl => match us, hl with | [_, _], _ => rfl), PySem.W.mg_of X G a16⟩,
    ⟨f17, _, fun_mk (st := s__law_some_row) l17 c17 k17, (fun_mk (st := s__law_some_row) l17 c17 k17).binds (ps := ["_law_pen"]) (fun _ _ _ _ _ _ us hl => match us, hl with | [_], _ => rfl), PySem.W.mg_of X G a17⟩,
    ⟨f18, _, fun_mk (st := s__law_bent) l18 c18 k18, (fun_mk (st := s__law_bent) l18 c18 k18).binds (ps := ["_law_pen", "_law_letters_here", "_law_inputs"]) (fun _ _ _ _ _ _ us hl => match us, hl with | [_, _, _], _ => rfl), PySem.W.mg_of X G a18⟩,
    ⟨f19, _, fun_mk (st := s__law_refused) l19 c19 k19, (fun_mk (st := s__law_refused) l19 c19 k19).binds (ps := ["_law_letters_here", "_law_inputs"]) (fun _ _ _ _ _ _ us hl => match us, hl with | [_, _], _ => rfl), PySem.W.mg_of X G a19⟩,
    ⟨f20, _, fun_mk (st := s_law) l20 c20 k20, (fun_mk (st := s_law) l20 c20 k20).binds (ps := ["_law_script"]) (fun _ _ _ _ _ _ us hl => match us, hl with | [_], _ => rfl), PySem.W.mg_of X G a20⟩,
    PySem.W.mg_none_of X G z1,
    PySem.W.mg_none_of X G z2,
    PySem.W.mg_none_of X G z3,
    PySem.W.mg_none_of X G z4,
    PySem.W.mg_none_of X G z5,
    PySem.W.mg_none_of X G z6,
    PySem.W.mg_none_of X G z7,
    PySem.W.mg_none_of X G z8,
    PySem.W.mg_none_of X G z9,
    PySem.W.mg_none_of X G z10,
    PySem.W.mg_none_of X G z11,
    PySem.W.mg_none_of X G z12,
    PySem.W.mg_none_of X G z13,
    PySem.W.mg_none_of X G z14,
    ⟨P0W, P0B, ⟨PySem.W.mg_of X G P0aW, P0xq, P0kC, P0eC, P0tC, PySem.W.mg_of X G P0aB, ⟨P0hg, P0hk, P0eC, P0hd, P0ha, P0hn, P0ht, P0hm⟩, exm_up P0eB P0iB P0tB P0sB, (by unfold PySem.W.kitOne; rw [if_pos (beq_self_eq_true _)]), kit_ve P0sV⟩, ⟨P0O0, PySem.W.mg_of X G P0aO0, kit_no P0sW P0iO0 P0tO0 P0sO0⟩⟩⟩
end LW
open PySem PySem.W PyProof.Rows
set_option maxRecDepth 100000 in
set_option maxHeartbeats 0 in
theorem PySem.Challenge.cw_leapwork_k83_each_list_has_its_number_holds : PySem.Challenge.rw_leapwork_k83_each_list_has_its_number.Holds := by
  w_on; o_law; k_head; (case hw => w_witness2)
  k_fill
  refine LW.walkG (l := PySem.Challenge.rw_leapwork_k83_each_list_has_its_number) (n := 63) (k := 60) (x := "_law_script") (sp := fun w => LW.spLaw _) rfl (by decide) rfl ⟨rfl, by decide, by decide⟩ (fun w h Y => PySem.W.kIn_of Y) ?F (fun _ _ a ns hl _ hS => ⟨a, ns, rfl, hS, hl, fun _ => rfl⟩)
  case F =>
    intro w mg fa h KX G hmg
    refine' LW.law_end (LW.all_mk (w := w) KX G ?a1 ?l1 ?c1 ?k1 ?a2 ?l2 ?c2 ?k2 ?a3 ?l3 ?c3 ?k3 ?a4 ?l4 ?c4 ?k4 ?a5 ?l5 ?c5 ?k5 ?a6 ?l6 ?c6 ?k6 ?a7 ?l7 ?c7 ?k7 ?a8 ?l8 ?c8 ?k8 ?a9 ?l9 ?c9 ?k9 ?a10 ?l10 ?c10 ?k10 ?a11 ?l11 ?c11 ?k11 ?a12 ?l12 ?c12 ?k12 ?a13 ?l13 ?c13 ?k13 ?a14 ?l14 ?c14 ?k14 ?a15 ?l15 ?c15 ?k15 ?a16 ?l16 ?c16 ?k16 ?a17 ?l17 ?c17 ?k17 ?a18 ?l18 ?c18 ?k18 ?a19 ?l19 ?c19 ?k19 ?a20 ?l20 ?c20 ?k20 ?z1 ?z2 ?z3 ?z4 ?z5 ?z6 ?z7 ?z8 ?z9 ?z10 ?z11 ?z12 ?z13 ?z14 ?P0aW ?P0aB ?P0xq ?P0kC ?P0eC ?P0tC ?P0tB ?P0hg ?P0hk ?P0hd ?P0ha ?P0hn ?P0ht ?P0hm ?P0eB ?P0iB ?P0sB ?P0sW ?P0sV ?P0aO0 ?P0iO0 ?P0tO0 ?P0sO0) hmg
    (case a1 => k_is); (case l1 => k_is); (case c1 => k_is); (case k1 => k_is)
    (case a2 => k_is); (case l2 => k_is); (case c2 => k_is); (case k2 => k_is)
    (case a3 => k_is); (case l3 => k_is); (case c3 => k_is); (case k3 => k_is)
    (case a4 => k_is); (case l4 => k_is); (case c4 => k_is); (case k4 => k_is)
    (case a5 => k_is); (case l5 => k_is); (case c5 => k_is); (case k5 => k_is)
    (case a6 => k_is); (case l6 => k_is); (case c6 => k_is); (case k6 => k_is)
    (case a7 => k_is); (case l7 => k_is); (case c7 => k_is); (case k7 => k_is)
    (case a8 => k_is); (case l8 => k_is); (case c8 => k_is); (case k8 => k_is)
    (case a9 => k_is); (case l9 => k_is); (case c9 => k_is); (case k9 => k_is)
    (case a10 => k_is); (case l10 => k_is); (case c10 => k_is); (case k10 => k_is)
    (case a11 => k_is); (case l11 => k_is); (case c11 => k_is); (case k11 => k_is)
    (case a12 => k_is); (case l12 => k_is); (case c12 => k_is); (case k12 => k_is)
    (case a13 => k_is); (case l13 => k_is); (case c13 => k_is); (case k13 => k_is)
    (case a14 => k_is); (case l14 => k_is); (case c14 => k_is); (case k14 => k_is)
    (case a15 => k_is); (case l15 => k_is); (case c15 => k_is); (case k15 => k_is)
    (case a16 => k_is); (case l16 => k_is); (case c16 => k_is); (case k16 => k_is)
    (case a17 => k_is); (case l17 => k_is); (case c17 => k_is); (case k17 => k_is)
    (case a18 => k_is); (case l18 => k_is); (case c18 => k_is); (case k18 => k_is)
    (case a19 => k_is); (case l19 => k_is); (case c19 => k_is); (case k19 => k_is)
    (case a20 => k_is); (case l20 => k_is); (case c20 => k_is); (case k20 => k_is)
    (case z1 => k_is)
    (case z2 => k_is)
    (case z3 => k_is)
    (case z4 => k_is)
    (case z5 => k_is)
    (case z6 => k_is)
    (case z7 => k_is)
    (case z8 => k_is)
    (case z9 => k_is)
    (case z10 => k_is)
    (case z11 => k_is)
    (case z12 => k_is)
    (case z13 => k_is)
    (case z14 => k_is)
    (case P0aW => k_is)
    (case P0aB => k_is)
    (case P0xq => k_exc)
    (case P0kC => k_is)
    (case P0eC => k_is)
    (case P0tC => k_is)
    (case P0tB => k_is)
    (case P0hg => k_is)
    (case P0hk => k_is)
    (case P0hd => k_is)
    (case P0ha => k_is)
    (case P0hn => k_is)
    (case P0ht => k_is)
    (case P0hm => k_is)
    (case P0eB => k_is)
    (case P0iB => k_is)
    (case P0sB => k_is)
    (case P0sW => first | rfl | k_is)
    (case P0sV => k_is)
    (case P0aO0 => k_is)
    (case P0iO0 => k_is)
    (case P0tO0 => k_is)
    (case P0sO0 => k_is)
#print axioms PySem.Challenge.cw_leapwork_k83_each_list_has_its_number_holds
