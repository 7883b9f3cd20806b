
import PyProof.Rows.All
import Wide.All
import OpenK.AllK
import Wide.FinOn
import HandS.ForMost
import HandS.IsInst
import HandS.Conv
import HandS.Style
import HandS.Wide
import HandS.Walk
import HandS.Zip
import HandS.Deep
import HandS.TupMul
import HandS.RaiseMore
import HandS.TupAny
import HandS.ExcInit
import HandS.Exc
import HandS.ExcOwn
import HandS.ExcIs
import HandS.WordsExc
import HandS.ExcField
import HandS.More
import HandS.DictComp
import HandS.DictEq
import HandS.Small
import HandS.Defaults
import KE.KExcIs
import KE.GoesEnumKw
import HandS.Codes
import PySem.Challenge.RW_leapwork_k05_which_notions_stand_firm
set_option Elab.async false
set_option linter.all false
set_option maxRecDepth 100000
set_option maxHeartbeats 4000000
namespace LW
open PySem PySem.Spec PyProof.Rows L2 RZ
/-! ### promises that are asked only where no repr is under way (A.guards = some []) -/
structure FnG (P : Program) (w : World) (K : PySem.W.Frag) (mg : Str → Option Value) (base : Heap) (k : Nat) (f : Addr) (fd : FuncData) (ps : List Str) (sp : Sp) : Prop where
  len : ∀ vs H Q E, sp vs H Q E → vs.length = ps.length
  run : ∀ (A : Around) (fs : List Env) (s : Shared) (H : Hp) (ar : Args) (us : List Value) (vs : List V) (Q : VK) (E : XK), Room k A → A.guards = some [] → Env0 P w K mg base A fs s H → BindsTo s fd ar (ps.zip us) → Vals vs us → sp vs H Q E →
    codeAny (model P w) A (.call (.ref f) ar) (CR CX0 fs P w H s Q E) s
section
variable {P : Program} {w : World} {K : PySem.W.Frag} {mg : Str → Option Value} {base : Heap}
theorem FnG.mono {j k : Nat} {f : Addr} {fd : FuncData} {ps : List Str} {sp : Sp} (F : FnG P w K mg base j f fd ps sp) (h : j ≤ k) : FnG P w K mg base k f fd ps sp :=
  ⟨F.len, fun A fs s H ar us vs Q E hr => F.run A fs s H ar us vs Q E (hr.mono h)⟩
theorem FnG.imp {k : Nat} {f : Addr} {fd : FuncData} {ps : List Str} {sp sp' : Sp} (F : FnG P w K mg base k f fd ps sp) (h : ∀ vs H Q E, sp' vs H Q E → sp vs H Q E) : FnG P w K mg base k f fd ps sp' :=
  ⟨fun vs H Q E q => F.len vs H Q E (h _ _ _ _ q), fun A fs s H ar us vs Q E hr hg he hb hv q => F.run A fs s H ar us vs Q E hr hg he hb hv (h _ _ _ _ q)⟩
theorem FnOk.g {k : Nat} {f : Addr} {fd : FuncData} {ps : List Str} {sp : Sp} (F : FnOk P w K mg base CX0 k f fd ps sp) : FnG P w K mg base k f fd ps sp :=
  ⟨F.len, fun A fs s H ar us vs Q E hr _ => F.run A fs s H ar us vs Q E hr⟩
/-- a def by its body -/
theorem Fun.okG {x q : Str} {st : Stmt} {f : Addr} {fd : FuncData} {N ps : List Str} {k : Nat} {sp : Sp} (F : Fun K x q st f fd) (S : FnScope N ps (defScope st)) (len : ∀ vs H Q E, sp vs H Q E → vs.length = ps.length)
    (hbody : ∀ (cdv : Value) (A : Around) (fs : List Env) (s : Shared) (H : Hp) (vs : List V) (Q : VK) (E : XK), Room k (A.deeper (envOfC q (defScope st) s.heap.objs.size f cdv)) → A.guards = some [] → sp vs H Q E →
      ∃ t, PSs (cxOf CX0 P w K mg base N q (defScope st) f cdv A fs s H E).nox (defBody st) t ∧ t { nx := fun _ H' => Q .non H', rt := Q } (start N vs) H) : FnG P w K mg base (k + 1) f fd ps sp := by
  obtain ⟨oc, od, kV, doc, pm, an, cdv, ct, osl, rfl, lk, hcd⟩ := F.ex
  refine ⟨len, fun A fs s H ar us vs Q E hr hg e0 hb rv hsp => ?_⟩
  have kin : K.In s.heap := e0.mod.kin.keeps fun b o z => (e0.bs b o z).1
  have nl : s.heap.NoLimit := e0.mod.nolimit.keeps fun b o z => (e0.bs b o z).1
  have loc : ∀ y ∈ ps.zip us, (defScope st).names.lookup y.1 = some .local ∨ ((defScope st).names.lookup y.1 = some .cell ∧ ((cellsFrom (s.heap.objs.size + 1) (defScope st).names []).lookup y.1).isSome = true) := by
    rintro ⟨n, v⟩ hy
    exact (S.par n (List.of_mem_zip hy).1).imp_right fun z => ⟨z, PySem.W.cellsFrom_some _ _ _ (.inl z)⟩
  refine codeAny_call_function hr.depth (kin _ _ lk) rfl S.co S.gen rfl (PySem.W.codeRec_of kin hcd) (hb _ _ _ _ (wpAny_newFunctionEnv_cells S.kind loc fun env he s1 x => ?_))
  subst he
  refine ⟨nl.keeps x.toInCall.keep, codeAny_func ?_⟩
  obtain ⟨t, ht, hq⟩ := hbody cdv A fs s H vs Q E (hr.deeper _) hg hsp
  have J0 := inv_start (CX := CX0) (E := E) S hr.hd e0 (len _ _ _ _ hsp) rv x
  refine wpAny_mono (ht.nox.run [] s1 (start N vs) H _ J0 hq) (fun fl s' hs => ?_) (fun _ _ z => z)
  cases fl with
  | ret u =>
    obtain ⟨v, σ', H', J, r', q'⟩ := hs
    exact ⟨v, H', J.os, J.bare, J.base, J.hok, r', q'⟩
  | next =>
    obtain ⟨σ', H', J, q'⟩ := hs
    exact ⟨V.non, H', J.os, J.bare, J.base, J.hok, rfl, q'⟩
  | brk => exact (hs.elim fun _ z => z.elim fun _ z => z.2.elim)
  | cont => exact (hs.elim fun _ z => z.elim fun _ z => z.2.elim)
end
section
variable {X : Cx} {k : Nat} {f : Addr} {fd : FuncData} {ps : List Str} {sp : Sp}
theorem runG {pins : List (Addr × Obj)} {σ : L2.St} {H : Hp} {s : Shared} {Q : VK} {us : List Value} {vs : List V} (F : FnG X.prog X.w X.K X.mg X.base k f fd ps sp) (hr : Room k X.A) (hg : X.A.guards = some []) (hb : Binds X.K fd ps [])
    (I : Inv X pins σ H s) (rv : Vals vs us) (h : sp vs H Q E0) : wpAny (model X.prog X.w) X.A (call (.ref f) us) (EP X pins σ Q) X.xe s := by
  have hl : (us ++ []).length = ps.length := by rw [List.append_nil, ← rv.length]; exact F.len _ _ _ _ h
  have b := hb s us I.kIn hl
  rw [List.append_nil] at b
  refine wpAny_call (codeAny_mono (F.run X.A X.stack s H ⟨us, []⟩ us vs Q E0 hr hg I.env0 b rv h) fun r s' z => ?_)
  match r, z with
  | .ok (.ret u), z => exact I.after z
  | .ok .next, z => exact False.elim z
  | .ok .brk, z => exact False.elim z
  | .ok .cont, z => exact False.elim z
  | .error e, z => exact False.elim z
end
section
variable {X : Cx} {k : Nat} {f : Addr} {fd : FuncData} {ps : List Str} {sp : Sp} {x : Str} {e : Expr} {es : List Expr} {t : TA} {p pos : Pos}
theorem pe_callG (F : FnG X.prog X.w X.K X.mg X.base k f fd ps sp) (hr : Room k X.A) (hg : X.A.guards = some []) (gl : Gl X x) (hm : X.mg x = some (.ref f)) (hk : PySem.W.keepIn X.K (.ref f) = true) (hb : Binds X.K fd ps [])
    (ha : PA X (e :: es) t) (hdb : (x == ("__debug__" : Str)) = false := by decide) (he : starEach (e :: es) X.env = (false, eval e X.env) :: starEach es X.env := by rfl) (hpl : (backTo pos (starEach es X.env)).any (·.1) = false := by rfl) :
    PE X (.Call (.Name x p) (e :: es) [] pos) (tCall sp [] E0 t) :=
  ⟨fun pins s σ H Q I h => wpAny_Call_Name_kw (ld_glob I gl hm (PySem.W.callWith_K (h₀ := X.base) I.ok.mod.kin hk (thn (ha.run pos pins s σ H _ I h) fun us s1 ⟨vs, H1, I1, r, q⟩ => ⟨I1.kIn, runG F hr hg hb I1 r (by have q' : sp (vs ++ []) H1 Q E0 := q; rwa [List.append_nil] at q')⟩) he hpl) hdb)⟩
theorem pe_callG0 (F : FnG X.prog X.w X.K X.mg X.base k f fd ps sp) (hr : Room k X.A) (hg : X.A.guards = some []) (gl : Gl X x) (hm : X.mg x = some (.ref f)) (hk : PySem.W.keepIn X.K (.ref f) = true) (hb : Binds X.K fd ps [])
    (hdb : (x == ("__debug__" : Str)) = false := by decide) : PE X (.Call (.Name x p) [] [] pos) (tCall sp [] E0 tNil) :=
  ⟨fun pins s σ H Q I h => wpAny_Call_Name_kw (ld_glob I gl hm (PySem.W.callWith_K0 I.kIn hk (runG (us := []) (vs := []) F hr hg hb I .nil h)) hdb)⟩
end
/-! ### the law's call -/
theorem lawG {P : Program} {w : World} {K : PySem.W.Frag} {mg mb : Str → Option Value} {k : Nat} {fa a : Addr} {fd : FuncData} {x : Str} {sp : Sp} {s1 : Shared} {vs : List Value} {ns : List Int}
    (KX : K.In s1.heap) (g1 : s1.heap.Ns mainGlobals mg) (g2 : s1.heap.Ns builtinsNs mb) (g3 : ∀ x : Str, x ≠ "__name__" → mb x = bootBuiltins x) (g4 : s1.heap.NoLimit) (g5 : s1.gens = #[])
    (ha : s1.heap.get? a = some { cls := .type "list", data := .seq vs.toArray }) (hi : IntsAre vs ns) (hl : ns.length ≤ sizeLine) (hr : Room k callerA)
    (F : ∀ base : Heap, K.In base → base.Ns mainGlobals mg → FnG P w K mg base k fa fd [x] sp) (bi : ∀ (s : Shared) (u : Value), BindsTo s fd ⟨[u], []⟩ [(x, u)])
    (hsp : ∀ H : Hp, Only H → SqL K H a (ns.map V.int) → sp [.ref a] H (fun v _ => v = .bl true) fun _ _ _ => False) :
    codeAny (model P w) callerA (.call (.ref fa) ⟨[.ref a], []⟩) (fun r s' => r = .ok (.ret (.bool true)) ∧ OldK s1.heap s'.heap ∧ s'.os = s1.os ∧ AllBare s'.gens) s1 := by
  have rv := vals_ints hi
  have lv := hi.length
  suffices core : ∀ H : Hp, Only H → SqL K H a (ns.map V.int) → HOk P w H s1.heap → (∀ b, H b ≠ none → b = a) → (H a ≠ none → K.lookup a = none) →
      codeAny (model P w) callerA (.call (.ref fa) ⟨[.ref a], []⟩) (fun r s' => r = .ok (.ret (.bool true)) ∧ OldK s1.heap s'.heap ∧ s'.os = s1.os ∧ AllBare s'.gens) s1 by
    rcases hk : K.lookup a with _ | o
    · let H1 : Hp := fun b => if b = a then some (.frz { cls := .type "list", data := .seq vs.toArray } (.lst (ns.map V.int))) else none
      have h1 : H1 a = some (.frz { cls := .type "list", data := .seq vs.toArray } (.lst (ns.map V.int))) := if_pos rfl
      have h2 : ∀ b, b ≠ a → H1 b = none := fun b n => if_neg n
      refine core H1 (fun b => ?_) (.inl (.inr ⟨_, h1⟩)) (fun b u z => ?_) (fun b z => Classical.byContradiction fun n => z (h2 b n)) (fun _ => hk)
      · rcases Classical.em (b = a) with rfl | n
        · exact .inr ⟨_, _, h1⟩
        · exact .inl (h2 b n)
      · rcases Classical.em (b = a) with rfl | n
        · rw [h1] at z
          cases z
          exact ⟨ha, by rw [List.length_map]; exact hl, vs, _, rv, ha⟩
        · rw [h2 b n] at z
          cases z
    · have e := KX a o hk
      rw [ha] at e
      cases e
      exact core (fun _ => none) (fun _ => .inl rfl) (.inr ⟨_, vs.toArray, _, hk, rfl, rfl, rfl, by rw [List.size_toArray, lv]; exact hl, by simpa using rv⟩) (fun b u z => by cases (show (none : Option HO) = some u from z)) (fun b z => absurd rfl z) (fun z => absurd rfl z)
  intro H hO hS hok hA hK
  have free : ∀ {b : Addr}, b ≠ a → H b = none := fun {b} n => Classical.byContradiction fun z => n (hA b z)
  have nodict : ∀ {b : Addr} {o : Obj} {es : Array DictEntry} {ep : Nat}, s1.heap.get? b = some o → o.data = .dict es ep → H b = none := fun {b o es ep} z d => free fun y => by
    subst y
    rw [ha] at z
    cases z
    cases (show Data.seq vs.toArray _ = Data.dict es ep from d)
  have ns' : ∀ {b : Addr} {m : Str → Option Value}, s1.heap.Ns b m → (hidT s1.heap H).Ns b m := fun ⟨o, es, ep, z, d, r⟩ => ⟨o, es, ep, hidT_get z (nodict z d), d, r⟩
  have kin : K.In (hidT s1.heap H) := fun b o z => hidT_get (KX b o z) (Classical.byContradiction fun y => by
    have e := hA b y
    subst e
    rw [hK y] at z
    cases z)
  have e0 : Env0 P w K mg (hidT s1.heap H) callerA [] s1 H := ⟨rfl, ⟨kin, ns' g1, ⟨mb, ns' g2, g3⟩, let ⟨mc, z1, z2⟩ := g4; ⟨mc, ns' z1, z2⟩⟩, (fun b o z => of_hidT z), Nat.le_of_eq (hidT_size _ _), trivial, (fun b z => nomatch (show b ∈ ([] : List Addr) from z)), hok, .of_eq g5⟩
  refine codeAny_mono ((F _ kin (ns' g1)).run callerA [] s1 H ⟨[.ref a], []⟩ [.ref a] [.ref a] _ _ hr rfl e0 (bi s1 (.ref a)) (.cons rfl .nil) (hsp H hO hS)) fun r s' z => ?_
  match r, z with
  | .ok .next, z => exact False.elim z
  | .ok .brk, z => exact False.elim z
  | .ok .cont, z => exact False.elim z
  | .error e, z => exact False.elim z
  | .ok (.ret u), z =>
    obtain ⟨v, H', os, bare, un, hok', r', q⟩ := z
    have q : v = .bl true := q
    subst q
    obtain rfl : u = Value.bool true := r'
    refine ⟨rfl, OldK.of_keep fun b o z => ?_, os, bare⟩
    rcases hO b with y | ⟨ob, xs, y⟩
    · exact un.keep b o z y (fun y => nomatch (show b ∈ ([] : List Addr) from y)) (by simp)
    · obtain ⟨z1, _⟩ := hok b _ y
      obtain ⟨z2, _⟩ := hok' b _ (un.frzs b ob _ y)
      rw [z] at z1
      cases z1
      exact z2
theorem walkG {l : PySem.W.OpenLaw} {n k : Nat} {q : Program} {loose : List Str} {XP : (Str → Option Value) → Heap → Prop} {YP : World → Heap → Prop} {d : DefRec} {K : Params → PySem.W.Frag} {sp : World → Sp} {x : Str}
    (hn : l.most = some n) (hn2 : n ≤ sizeLine) (hdf : d.params.defaults = []) (hr : Room k callerA) (hY : ∀ (w : World) (h : Heap), YP w h → (K w.params).In h)
    (F : ∀ (w : World) (mg : Str → Option Value) (fa : Addr) (h : Heap), (K w.params).In h → h.Ns mainGlobals mg → mg d.name = some (.ref fa) →
      ∃ fd : FuncData, (∀ (s : Shared) (u : Value), BindsTo s fd ⟨[u], []⟩ [(x, u)]) ∧ ∀ base : Heap, (K w.params).In base → base.Ns mainGlobals mg → FnG l.prog w (K w.params) mg base k fa fd [x] (sp w))
    (hsp : ∀ (w : World) (H : Hp) (a : Addr) (ns : List Int), ns.length ≤ n → Only H → SqL (K w.params) H a (ns.map V.int) → sp w [.ref a] H (fun v _ => v = .bl true) fun _ _ _ => False) :
    PySem.W.WalkO q loose XP YP l.row.toRowW d [] (fun f vs => PySem.call f vs) :=
  Att.attach_call hn hdf fun w s0 s1 mg mb fa o pm cd doc a vs ns G Y ho hd hcd hmg hobj hints hlen hg => by
    obtain ⟨fd, hb, hF⟩ := F w mg fa _ (hY w _ Y) G.T.g hmg
    exact lawG (hY w _ Y) G.T.g G.T.b G.T.builtins G.T.nolimit hg hobj hints (Nat.le_trans hlen hn2) hr hF hb fun H hO hS => hsp w H a ns hlen hO hS
/-- room, and no repr under way -/
structure Rm (k : Nat) (A : Around) : Prop extends Room k A where
  gd : A.guards = some []
theorem Rm.mono {j k : Nat} {A : Around} (r : Rm k A) (h : j ≤ k) : Rm j A := ⟨r.toRoom.mono h, r.gd⟩

/-! ### shared words: a def of the text, its promise, calls -/
/-- a def of the text as it stands behind the top -/
def Df (K : PySem.W.Frag) (mg : Str → Option Value) (x : Str) (st : Stmt) (ps : List Str) : Prop :=
  ∃ (f : Addr) (fd : FuncData), Fun K x x st f fd ∧ Binds K fd ps [] ∧ mg x = some (.ref f)
/-- a def that keeps a promise -/
def Ok (P : Program) (w : World) (K : PySem.W.Frag) (mg : Str → Option Value) (base : Heap) (k : Nat) (x : Str) (ps : List Str) (sp : Sp) : Prop :=
  ∃ (f : Addr) (fd : FuncData), mg x = some (.ref f) ∧ PySem.W.keepIn K (.ref f) = true ∧ Binds K fd ps [] ∧ FnG P w K mg base k f fd ps sp
section
variable {P : Program} {w : World} {K : PySem.W.Frag} {mg : Str → Option Value} {base : Heap}
theorem Ok.mk {x : Str} {st : Stmt} {N ps : List Str} {k : Nat} {sp : Sp} (D : Df K mg x st ps) (S : FnScope N ps (defScope st)) (len : ∀ vs H Q E, sp vs H Q E → vs.length = ps.length)
    (hbody : ∀ (f : Addr) (cdv : Value) (A : Around) (outer : List Env) (s : Shared) (H : Hp) (vs : List V) (Q : VK) (E : XK), Rm k (A.deeper (envOfC x (defScope st) s.heap.objs.size f cdv)) → sp vs H Q E →
      ∃ t, PSs (cxOf CX0 P w K mg base N x (defScope st) f cdv A outer s H E).nox (defBody st) t ∧ t { nx := fun _ H' => Q .non H', rt := Q } (start N vs) H) : Ok P w K mg base (k + 1) x ps sp := by
  obtain ⟨f, fd, F, b, g⟩ := D
  exact ⟨f, fd, g, F.kp, b, Fun.okG F S len fun cdv A outer s H vs Q E hr hg h => hbody f cdv A outer s H vs Q E ⟨hr, hg⟩ h⟩
theorem Fn.mk {x : Str} {st : Stmt} {f : Addr} {fd : FuncData} {N ps : List Str} {k : Nat} {sp : Sp} (F : Fun K x x st f fd) (S : FnScope N ps (defScope st)) (len : ∀ vs H Q E, sp vs H Q E → vs.length = ps.length)
    (hbody : ∀ (f : Addr) (cdv : Value) (A : Around) (outer : List Env) (s : Shared) (H : Hp) (vs : List V) (Q : VK) (E : XK), Rm k (A.deeper (envOfC x (defScope st) s.heap.objs.size f cdv)) → sp vs H Q E →
      ∃ t, PSs (cxOf CX0 P w K mg base N x (defScope st) f cdv A outer s H E).nox (defBody st) t ∧ t { nx := fun _ H' => Q .non H', rt := Q } (start N vs) H) : FnG P w K mg base (k + 1) f fd ps sp :=
  Fun.okG F S len fun cdv A outer s H vs Q E hr hg h => hbody f cdv A outer s H vs Q E ⟨hr, hg⟩ h
theorem Ok.mono {x : Str} {ps : List Str} {j k : Nat} {sp : Sp} (h : Ok P w K mg base j x ps sp) (l : j ≤ k) : Ok P w K mg base k x ps sp := by
  obtain ⟨f, fd, hm, hk, hb, F⟩ := h
  exact ⟨f, fd, hm, hk, hb, F.mono l⟩
theorem Ok.imp {x : Str} {ps : List Str} {k : Nat} {sp sp' : Sp} (h : Ok P w K mg base k x ps sp) (q : ∀ vs H Q E, sp' vs H Q E → sp vs H Q E) : Ok P w K mg base k x ps sp' := by
  obtain ⟨f, fd, hm, hk, hb, F⟩ := h
  exact ⟨f, fd, hm, hk, hb, F.imp q⟩
end
section
variable {X : Cx}
theorem pe_fn {k : Nat} {x : Str} {ps : List Str} {sp : Sp} {e : Expr} {es : List Expr} {t : TA} {p pos : Pos} (O : Ok X.prog X.w X.K X.mg X.base k x ps sp) (hr : Rm k X.A) (hg : Gl X x) (ha : PA X (e :: es) t)
    (hdb : (x == ("__debug__" : Str)) = false := by decide) (he : starEach (e :: es) X.env = (false, eval e X.env) :: starEach es X.env := by rfl) (hpl : (backTo pos (starEach es X.env)).any (·.1) = false := by rfl) :
    PE X (.Call (.Name x p) (e :: es) [] pos) (tCall sp [] E0 t) := by
  obtain ⟨f, fd, hm, hk, hb, F⟩ := O
  exact pe_callG F hr.toRoom hr.gd hg hm hk hb ha hdb he hpl
theorem pe_fn0 {k : Nat} {x : Str} {ps : List Str} {sp : Sp} {p pos : Pos} (O : Ok X.prog X.w X.K X.mg X.base k x ps sp) (hr : Rm k X.A) (hg : Gl X x) (hdb : (x == ("__debug__" : Str)) = false := by decide) :
    PE X (.Call (.Name x p) [] [] pos) (tCall sp [] E0 tNil) := by
  obtain ⟨f, fd, hm, hk, hb, F⟩ := O
  exact pe_callG0 F hr.toRoom hr.gd hg hm hk hb hdb
/-- a name that is a local -/
theorem pg_nameL {i : Nat} {x : Str} {pos : Pos} (hN : X.N.Nodup) (hi : X.N[i]? = some x) (hx : X.env.scope.names.lookup x = some .local) : PG X (.Name x pos) (gName i) := pg_name hN hi (.inl hx) (.inr hx)
/-- xs[i], for xs[i] op= e -/
theorem get_list : PGet X (rIxL X.K) := by
  intro pins s σ H x y v u Q I rx ry h
  obtain ⟨p, xs, i, z, rfl, rfl, hq, he, q⟩ := h
  cases rx
  obtain ⟨t, rfl⟩ := ry
  obtain ⟨its, r, pl, hz⟩ := I.list hq
  obtain ⟨j, h1, h2, h3, h4, h5⟩ := atI_get he
  obtain ⟨w, ew, rw'⟩ := r.get h2
  have hl := r.length
  have hn := line63
  have fin : EP X pins σ Q w s := ⟨z, H, I, rw', q⟩
  by_cases h0 : 0 ≤ i
  · have hj : i.toNat = j := by
      rw [seqIndex_of h0 h5] at h1
      exact Option.some.inj h1
    exact wpAny_getItem_list pl.isList h0 (by omega) (by rw [hj]; simpa using ew) fin
  · have hj : (i + (its.toArray.size : Int)).toNat = j := by
      rw [seqIndex_neg (by omega) h4] at h1
      rw [List.size_toArray, ← hl]
      exact Option.some.inj h1
    exact wpAny_getItem_list_neg pl.isList (by omega) (by rw [List.size_toArray] <;> omega) (by omega) (by rw [hj]; simpa using ew) fin
end
/-! ### heaps -/
theorem same_upd {H : Hp} {p : Addr} {o : HO} (h : H p = none) : Same H (upd H p o) := fun b x e => by
  rw [upd_ne (ne_of_none e h)]
  exact e
/-- all but p is as it was -/
def But (p : Addr) (H H' : Hp) : Prop := ∀ b o, b ≠ p → H b = some o → H' b = some o
theorem But.refl (p : Addr) (H : Hp) : But p H H := fun _ _ _ h => h
theorem But.of {p : Addr} {H H' : Hp} (h : Same H H') : But p H H' := fun b o _ e => h b o e
theorem But.trans {p : Addr} {H H1 H2 : Hp} (a : But p H H1) (b : But p H1 H2) : But p H H2 := fun c o n h => b c o n (a c o n h)
theorem But.upd {p : Addr} {H : Hp} {o : HO} : But p H (upd H p o) := fun b x n e => by rw [upd_ne n]; exact e
theorem But.new {p q : Addr} {H : Hp} {o : HO} (h : H q = none) : But p H (L2.upd H q o) := But.of (same_upd h)
theorem But.free {p : Addr} {H H' : Hp} (e : But p H H') {l : Addr} (n : l ≠ p) (h : H' l = none) : H l = none := by
  cases q : H l with
  | none => rfl
  | some o => rw [e l o n q] at h; cases h
/-! ### the pen: [cells, at, rest] -/
/-- a pen at p, its cells at c, of which at most n were taken -/
structure Pen (H : Hp) (p c : Addr) (n : Nat) : Prop where
  pen : ∃ (at_ rest : Int), H p = some (.lst [.ref c, .int at_, .int rest]) ∧ 0 ≤ at_ ∧ at_ ≤ (n : Int) ∧ 0 ≤ rest
  cells : ∃ ns : List Int, H c = some (.lst (ns.map V.int))
  ne : c ≠ p
theorem Pen.but {H H' : Hp} {p c q : Addr} {n : Nat} (h : Pen H p c n) (b : But q H H') (n1 : p ≠ q) (n2 : c ≠ q) : Pen H' p c n := by
  obtain ⟨⟨a, r, e, z⟩, ⟨ns, e2⟩, ne⟩ := h
  exact ⟨⟨a, r, b _ _ n1 e, z⟩, ⟨ns, b _ _ n2 e2⟩, ne⟩
theorem Pen.same {H H' : Hp} {p c : Addr} {n : Nat} (h : Pen H p c n) (b : Same H H') : Pen H' p c n := by
  obtain ⟨⟨a, r, e, z⟩, ⟨ns, e2⟩, ne⟩ := h
  exact ⟨⟨a, r, b _ _ e, z⟩, ⟨ns, b _ _ e2⟩, ne⟩
theorem Pen.mono {H : Hp} {p c : Addr} {n m : Nat} (h : Pen H p c n) (l : n ≤ m) : Pen H p c m := by
  obtain ⟨⟨a, r, e, z1, z2, z3⟩, ns, ne⟩ := h
  exact ⟨⟨a, r, e, z1, by omega, z3⟩, ns, ne⟩
theorem Pen.new {H : Hp} {p c q : Addr} {n : Nat} (h : Pen H p c n) (e : H q = none) : p ≠ q ∧ c ≠ q := by
  obtain ⟨⟨a, r, e1, _⟩, ⟨ns, e2⟩, ne⟩ := h
  exact ⟨ne_of_none e1 e, ne_of_none e2 e⟩
theorem Pen.free {H : Hp} {p c q : Addr} {n : Nat} (h : Pen H p c n) (e : H q = none) : q ≠ p ∧ q ≠ c := ⟨(h.new e).1.symm, (h.new e).2.symm⟩
/-- the law's script -/
def spLaw (K : PySem.W.Frag) : Sp := fun vs H Q _ => ∃ (a : Addr) (ns : List Int), vs = [.ref a] ∧ SqL K H a (ns.map V.int) ∧ ns.length ≤ 63 ∧ ∀ H', Q (.bl true) H'
/-- so many draws at most -/
def penLim : Nat := 2 ^ 4000
theorem pen9 : 1000000000 ≤ penLim := Nat.le_trans (show 1000000000 ≤ 2 ^ 100 by decide) (Nat.pow_le_pow_right (by decide) (by decide))
theorem pen100 : 2 ^ 100 ≤ penLim := Nat.pow_le_pow_right (by decide) (by decide)
theorem lim_small {x : Int} (h0 : 0 ≤ x) (h : x ≤ 2 ^ 60 * (penLim : Int)) : x.natAbs < 2 ^ 9000 := by
  have h1 : x.natAbs ≤ 2 ^ 60 * penLim := by omega
  refine Nat.lt_of_le_of_lt h1 ?_
  unfold penLim
  rw [← Nat.pow_add]
  exact Nat.pow_lt_pow_right (by decide) (by decide)
def CPowW (i j : Int) : Prop := 0 ≤ j ∧ j ≤ 1000 ∧ i.natAbs < 2 ^ 9000
theorem powBits {a n : Int} (h : CPowW a n) : (Builtin.Int.intBits a : Int) * n ≤ 2 ^ 27 := by
  obtain ⟨h0, h1, h2⟩ := h
  have hb : Builtin.Int.intBits a ≤ 9000 := intBits_le h2
  have h3 : (Builtin.Int.intBits a : Int) * n ≤ 9000 * n := Int.mul_le_mul_of_nonneg_right (by omega) h0
  omega
theorem op_powW {X : Cx} : OpR X (binaryOp .Pow) (rI CPowW fun i j => .int (i ^ j.toNat)) := opI fun _ _ _ _ _ _ _ hc q => pow_int hc.1 (powBits hc) q
def spSpread : Sp := fun vs H Q _ => ∃ c a : Int, vs = [.int c, .int a] ∧ 0 ≤ a ∧ a ≤ (penLim : Int) ∧ ∀ (r : Int) (H' : Hp), 0 ≤ r → Same H H' → Q (.int r) H'
def spOpen (K : PySem.W.Frag) : Sp := fun vs H Q _ => ∃ (a : Addr) (ns : List Int), vs = [.ref a] ∧ SqL K H a (ns.map V.int) ∧ ns.length ≤ 63 ∧ ∀ p c H', Same H H' → H p = none → H c = none → Pen H' p c 0 → Q (.ref p) H'
def spTake : Sp := fun vs H Q _ => ∃ (p c : Addr) (n : Nat) (m : Int), vs = [.ref p, .int m] ∧ Pen H p c n ∧ n ≤ penLim ∧ 0 < m ∧ m.natAbs < 2 ^ 9000 ∧
  ∀ (r : Int) (H' : Hp), 0 ≤ r → r < m → But p H H' → Pen H' p c (n + 1) → Q (.int r) H'
theorem cut_take (xs : List V) (b : Nat) : cutV xs none (some (b : Int)) = xs.take b := by
  unfold cutV
  rw [HT.sIx_none, HT.sIx_nat, List.drop_zero, Nat.sub_zero]
  rcases Nat.le_total b xs.length with h | h
  · rw [Nat.min_eq_left h]
  · rw [Nat.min_eq_right h, List.take_of_length_le (Nat.le_refl _), List.take_of_length_le h]
theorem cut_drop (xs : List V) (a b : Nat) (h : a ≤ b) : cutV xs (some (a : Int)) (some (b : Int)) = (xs.take b).drop a := by
  unfold cutV
  rw [HT.sIx_nat, HT.sIx_nat]
  apply List.ext_getElem?
  intro i
  rw [List.getElem?_take, List.getElem?_drop, List.getElem?_drop, List.getElem?_take]
  by_cases h1 : a ≤ xs.length
  · rw [Nat.min_eq_left h1]
    by_cases h2 : b ≤ xs.length
    · rw [Nat.min_eq_left h2]
      by_cases h3 : i < b - a
      · rw [if_pos h3, if_pos (by omega)]
      · rw [if_neg h3, if_neg (by omega)]
    · rw [Nat.min_eq_right (by omega)]
      by_cases h3 : a + i < xs.length
      · rw [if_pos (by omega), if_pos (by omega)]
      · rw [List.getElem?_eq_none (by omega)]
        simp
  · rw [Nat.min_eq_right (by omega), List.getElem?_eq_none (by omega), List.getElem?_eq_none (show xs.length ≤ a + i by omega)]
    simp
theorem atI_of {α : Type} {xs : List α} {i : Int} {v : α} (j : Nat) (e : i = (j : Int)) (h : xs[j]? = some v) : atI xs i = some v := by subst e; exact atI_nat h
theorem ixN_of {n : Nat} {i : Int} (j : Nat) (e : i = (j : Int)) (h : j < n) : ixN n i = some j := by
  subst e
  unfold ixN
  rw [if_pos (by omega), if_pos (by omega)]
  simp

/-! ### data: values as trees -/
/-- less than n deep, no list too long -/
def fit : Nat → PyData → Prop
  | 0, _ => False
  | n + 1, .list xs => xs.length < sizeLine ∧ ∀ x ∈ xs, fit n x
  | n + 1, .tuple xs => xs.length < sizeLine ∧ ∀ x ∈ xs, fit n x
  | _ + 1, _ => True
theorem fit_mono : ∀ {n m : Nat} {d : PyData}, fit n d → n ≤ m → fit m d
  | 0, _, _, h, _ => False.elim h
  | n + 1, 0, _, _, l => absurd l (by omega)
  | n + 1, m + 1, .list xs, h, l => ⟨h.1, fun x hx => fit_mono (h.2 x hx) (by omega)⟩
  | n + 1, m + 1, .tuple xs, h, l => ⟨h.1, fun x hx => fit_mono (h.2 x hx) (by omega)⟩
  | n + 1, m + 1, .none, _, _ => True.intro
  | n + 1, m + 1, .bool _, _, _ => True.intro
  | n + 1, m + 1, .int _, _, _ => True.intro
  | n + 1, m + 1, .str _, _, _ => True.intro
  | n + 1, m + 1, .dict _, _, _ => True.intro
theorem ifn {c A B : Prop} [Decidable c] (h : ¬ c) (b : B) : if c then A else B := by rw [if_neg h]; exact b
theorem ifp {c A B : Prop} [Decidable c] (h : c) (a : A) : if c then A else B := by rw [if_pos h]; exact a
theorem yes {σ : L2.St} {H : Hp} {Q : Bool → Hp → Prop} (h : Q true H) : tYes σ H Q := h
inductive Cl where | bool | int | str | tuple | list | dict
def Cl.name : Cl → String
  | .bool => "bool" | .int => "int" | .str => "str" | .tuple => "tuple" | .list => "list" | .dict => "dict"
/-- isinstance of data -/
def isB : Cl → PyData → Bool
  | .bool, .bool _ => true
  | .int, .bool _ => true
  | .int, .int _ => true
  | .str, .str _ => true
  | .tuple, .tuple _ => true
  | .list, .list _ => true
  | .dict, .dict _ => true
  | _, _ => false
def tyD : PyData → String
  | .none => "NoneType" | .bool _ => "bool" | .int _ => "int" | .str _ => "str" | .list _ => "list" | .tuple _ => "tuple" | .dict _ => "dict"
theorem kitB_nn (c : Cl) (d : PyData) : kitB (tyD d) c.name = some (isB c d) := by
  cases c <;> cases d <;> (simp only [tyD, Cl.name, isB]; decide +kernel)
section
variable {K : PySem.W.Frag} {H H' : Hp}
theorem tyX_list {a : Addr} {xs : List V} (h : SqL K H a xs) : TyX K H (.ref a) (.type "list") := by
  rcases h with (h | ⟨o, h⟩) | ⟨o, its, n, h, c, _⟩
  · exact .base (.lst h)
  · exact .base (.frz h)
  · exact .kList h c
theorem tyX_tup {a : Addr} {xs : List V} (h : SqT K H a xs) : TyX K H (.ref a) (.type "tuple") := by
  rcases h with (h | ⟨o, h⟩) | ⟨o, its, n, h, c, _⟩
  · exact .base (.tup h)
  · exact .fTuple h
  · exact .kTuple h c
theorem tyX_of {x : V} {d : PyData} (h : Dp K H x d) : TyX K H x (.type (tyD d)) := by
  cases h with
  | non => exact .base .non
  | bl b => exact .base (.bl b)
  | int i => exact .base (.int i)
  | str z => exact .base (.str z)
  | lst q _ => exact tyX_list q
  | tup q _ => exact tyX_tup q
/-- isinstance(x, T) of data -/
def rIsiD (K : PySem.W.Frag) : List V → Hp → VK → Prop := fun xs H Q => ∃ (c : Cl) (x : V) (d : PyData), xs = [x, .ty c.name] ∧ Dp K H x d ∧ Q (.bl (isB c d)) H
theorem call_isiD {X : Cx} : CallR X (.builtin "isinstance") (rIsiD X.K) := by
  intro pins s σ H xs us Q I r h
  obtain ⟨c, x, d, rfl, hd, q⟩ := h
  exact call_isi pins s σ H _ us Q I r ⟨x, _, _, _, _, rfl, .ty _, tyX_of hd, kit_ty (kitB_nn c d), q⟩
theorem Same.sqT {a : Addr} {xs : List V} (e : Same H H') (h : SqT K H a xs) : SqT K H' a xs := by
  rcases h with (h | ⟨o, h⟩) | h
  · exact .inl (.inl (e _ _ h))
  · exact .inl (.inr ⟨o, e _ _ h⟩)
  · exact .inr h
mutual
theorem Dp_same (e : Same H H') : ∀ {x : V} {d : PyData}, Dp K H x d → Dp K H' x d
  | _, _, .non => .non
  | _, _, .bl b => .bl b
  | _, _, .int i => .int i
  | _, _, .str z => .str z
  | _, _, .lst q a => .lst (e.seq q) (DpAll_same e a)
  | _, _, .tup q a => .tup (Same.sqT e q) (DpAll_same e a)
theorem DpAll_same (e : Same H H') : ∀ {xs : List V} {ds : List PyData}, DpAll K H xs ds → DpAll K H' xs ds
  | _, _, .nil => .nil
  | _, _, .cons a b => .cons (Dp_same e a) (DpAll_same e b)
end
theorem DpAll_len : ∀ {xs : List V} {ds : List PyData}, DpAll K H xs ds → xs.length = ds.length
  | _, _, .nil => rfl
  | _, _, .cons _ b => by rw [List.length_cons, List.length_cons, DpAll_len b]
theorem DpAll_get : ∀ {xs : List V} {ds : List PyData} {i : Nat} {x : V}, DpAll K H xs ds → xs[i]? = some x → ∃ d, ds[i]? = some d ∧ Dp K H x d
  | _, _, 0, _, .cons a _, e => by
    cases e
    exact ⟨_, rfl, a⟩
  | _, _, i + 1, x, .cons _ b, e => DpAll_get (i := i) b e
theorem DpAll_ints : ∀ ns : List Int, DpAll K H (ns.map V.int) (ns.map PyData.int)
  | [] => .nil
  | n :: ns => .cons (.int n) (DpAll_ints ns)
theorem walk_zipT {a b : Addr} {xs ys : List V} {n : Nat} (hn : n = min xs.length ys.length) : Walk (ItzT K a b) n (fun H => SqT K H a xs ∧ SqT K H b ys) (YPair (fun i => xs[i]?) (fun i => ys[i]?)) := by
  subst hn
  refine ⟨fun i _ hi q => ?_, fun _ q => ⟨xs, ys, q.1, q.2, by omega⟩, fun i H v H' _ q y => ?_⟩
  · have h1 : i < xs.length := by omega
    have h2 : i < ys.length := by omega
    exact ⟨xs, ys, xs[i], ys[i], q.1, q.2, by simp [h1], by simp [h2]⟩
  · obtain ⟨T, x, z, h1, h2, h3, h4, h5⟩ := y
    exact ⟨T, x, z, h1, h2, h3, h4 xs q.1, h5 ys q.2⟩
theorem inV_trues (n : Nat) : inV (.bl false) (List.replicate n (V.bl true)) = false := by
  unfold inV
  rw [List.any_eq_false]
  intro x hx
  rw [List.eq_of_mem_replicate hx]
  decide
theorem flat_trues (n : Nat) : (List.replicate n (V.bl true)).all flatV = true := by
  rw [List.all_eq_true]
  intro x hx
  rw [List.eq_of_mem_replicate hx]
  rfl
end
/-- _law_same: equal data are alike -/
def spSame (K : PySem.W.Frag) (n : Nat) : Sp := fun vs H Q _ => ∃ (x y : V) (d : PyData), vs = [x, y] ∧ Dp K H x d ∧ Dp K H y d ∧ fit n d ∧ ∀ H', Same H H' → Q (.bl true) H'

/-! ### rules with the written part told (for comprehensions' blocks) -/
section
variable {X : Cx} (K : PySem.W.Frag) (eK : X.K = K)
include eK
theorem ixL : IxR X (rIxL K) := eK ▸ ix_list
theorem ixT : IxR X (rIxT K) := eK ▸ ix_tup
theorem inQ : OpR X (compareOp .In) (rIn K false) := eK ▸ op_in_seq
theorem ninQ : OpR X (compareOp .NotIn) (rIn K true) := eK ▸ op_notIn_seq
def rLenQ (K : PySem.W.Frag) : List V → Hp → VK → Prop := fun xs H Q => ∃ p ys, xs = [.ref p] ∧ (SqL K H p ys ∨ SqT K H p ys) ∧ Q (.int ys.length) H
theorem lenQ : CallR X (.builtin "len") (rLenQ K) := by subst eK; exact call_len_seq
def rListQ (K : PySem.W.Frag) : List V → Hp → VK → Prop := fun xs H Q => ∃ p ys, xs = [.ref p] ∧ (SqL K H p ys ∨ SqT K H p ys) ∧ ∀ l, H l = none → Q (.ref l) (upd H l (.lst ys))
theorem listQ : CallR X (.type "list") (rListQ K) := by subst eK; exact call_list_of
def rTupQ (K : PySem.W.Frag) : List V → Hp → VK → Prop := fun xs H Q => ∃ p ys, xs = [.ref p] ∧ ((SqL K H p ys ∧ ∀ l, H l = none → Q (.ref l) (upd H l (.tup ys))) ∨ (SqT K H p ys ∧ Q (.ref p) H))
theorem tupQ : CallR X (.type "tuple") (rTupQ K) := by subst eK; exact call_tuple_of
theorem slL : SlR X (rSlL K) := by subst eK; exact sl_list
theorem isiQ : CallR X (.builtin "isinstance") (rIsiD K) := by subst eK; exact call_isiD
theorem getL : PGet X (rIxL K) := eK ▸ get_list
theorem pgT {es : List Expr} {k : Nat} {t : TGs} (n : Nat) {pos : Pos} (hc : X.calm = true) (h : PGs X es t) (hn : (assignEach es X.env).length = n := by rfl) (hst : (assignEach es X.env).findIdx? (·.1) = none := by rfl) : PG X (.Tuple es k pos) (gTup K n t) := by
  subst eK
  exact pg_tup hc h hn hst
theorem piL {tg l : Expr} {tl : TE} (hl : PE X l tl) : PI X tg l (iList K tl) := eK ▸ pi_list hl
theorem piT {tg l : Expr} {tl : TE} (hl : PE X l tl) : PI X tg l (iTup K tl) := eK ▸ pi_tup hl
theorem piZ {e e2 : Expr} {ta : TA} {p pos tpos : Pos} {elts : List Expr} {kk : Nat} (hg : Gl X "zip") (hm : X.mg "zip" = none) (ha : PA X [e, e2] ta)
    (hs : starEach [e, e2] X.env = (false, eval e X.env) :: starEach [e2] X.env := by rfl) (hpl : (backTo pos (starEach [e2] X.env)).any (·.1) = false := by rfl) :
    PI X (.Tuple elts kk tpos) (.Call (.Name "zip" p) [e, e2] [] pos) (iZipA K ta) := by
  subst eK
  exact pi_zipA hg hm ha hs hpl
theorem piE {e : Expr} {ta : TA} {p pos tpos : Pos} {elts : List Expr} {kk : Nat} (hg : Gl X "enumerate") (hm : X.mg "enumerate" = none) (ha : PA X [e] ta) (hs : starEach [e] X.env = [(false, eval e X.env)] := by rfl) :
    PI X (.Tuple elts kk tpos) (.Call (.Name "enumerate" p) [e] [] pos) (iEnum K ta) := by
  subst eK
  exact pi_enum hg hm ha hs
theorem revL {e : Expr} {te : TE} {k : Nat} {p1 p2 p3 pos : Pos} (he : PE X e te) : PE X (.Subscript e (.Slice none none (some (.UnaryOp .USub (.Constant (.int 1) k p1) p2)) p3) pos) (tRevL K te) := by
  subst eK
  exact pe_revL he
theorem appK {o e : Expr} {to te : TE} {apos cpos : Pos} (ho : PE X o to) (he : PE X e te) (hbase : attributeBase o "append" X.env (eval o X.env) = eval o X.env := by rfl)
    (hfew : ((backTo cpos (starEach [e] X.env)).all (fun x => !x.1) && (backToKw cpos (keywordEach [] X.env)).all (fun x => x.1.isSome)
      && decide ([e].length + ([] : List Keyword).length + (if ([] : List Keyword).isEmpty then 0 else 1) < 30)) = true := by rfl)
    (hline : (apos.endLine == cpos.line) = true := by rfl) (hs : starEach [e] X.env = (false, eval e X.env) :: starEach [] X.env := by rfl) :
    PE X (.Call (.Attribute o "append" apos) [e] [] cpos) (tBM K "list" rAppend to (tCons te tNil)) := by
  subst eK
  exact pe_bm PySem.F.plainAttrs_list PySem.F.slot_list_append PySem.F.type_list_append mt_append ho (pa_cons he pa_nil hs) hbase hfew hline hs rfl
end

/-! ### the plain layer: values as trees, no heap in sight -/
abbrev D := PyData
def keyD : Key → D
  | .inl i => .int i
  | .inr x => .str x
mutual
inductive Rp (K : PySem.W.Frag) (H : Hp) : V → D → Prop
  | non : Rp K H .non .none
  | bl (b : Bool) : Rp K H (.bl b) (.bool b)
  | int (i : Int) : Rp K H (.int i) (.int i)
  | str (x : Str) : Rp K H (.str x) (.str x)
  | lst {a : Addr} {xs : List V} {ds : List D} : H a = some (.lst xs) → RpAll K H xs ds → Rp K H (.ref a) (.list ds)
  | tup {a : Addr} {xs : List V} {ds : List D} : SqT K H a xs → RpAll K H xs ds → Rp K H (.ref a) (.tuple ds)
  | dic {a : Addr} {kvs : List (Key × V)} {ds : List (D × D)} : Rd H a (.dK kvs) → RpKV K H kvs ds → Rp K H (.ref a) (.dict ds)
inductive RpAll (K : PySem.W.Frag) (H : Hp) : List V → List D → Prop
  | nil : RpAll K H [] []
  | cons {v : V} {vs : List V} {d : D} {ds : List D} : Rp K H v d → RpAll K H vs ds → RpAll K H (v :: vs) (d :: ds)
inductive RpKV (K : PySem.W.Frag) (H : Hp) : List (Key × V) → List (D × D) → Prop
  | nil : RpKV K H [] []
  | cons {k : Key} {v : V} {vs : List (Key × V)} {d : D} {ds : List (D × D)} : Rp K H v d → RpKV K H vs ds → RpKV K H ((k, v) :: vs) ((keyD k, d) :: ds)
end
theorem rd_same {H H' : Hp} {a : Addr} {u : HO} (e : Same H H') (h : Rd H a u) : Rd H' a u := by
  rcases h with h | ⟨o, h⟩
  · exact .inl (e _ _ h)
  · exact .inr ⟨o, e _ _ h⟩
section
variable {K : PySem.W.Frag} {H H' : Hp}
mutual
theorem Rp.mono (e : Same H H') : ∀ {x : V} {d : D}, Rp K H x d → Rp K H' x d
  | _, _, .non => .non
  | _, _, .bl b => .bl b
  | _, _, .int i => .int i
  | _, _, .str z => .str z
  | _, _, .lst q a => .lst (e _ _ q) (RpAll.mono e a)
  | _, _, .tup q a => .tup (Same.sqT e q) (RpAll.mono e a)
  | _, _, .dic q a => .dic (rd_same e q) (RpKV.mono e a)
theorem RpAll.mono (e : Same H H') : ∀ {xs : List V} {ds : List D}, RpAll K H xs ds → RpAll K H' xs ds
  | _, _, .nil => .nil
  | _, _, .cons a b => .cons (Rp.mono e a) (RpAll.mono e b)
theorem RpKV.mono (e : Same H H') : ∀ {xs : List (Key × V)} {ds : List (D × D)}, RpKV K H xs ds → RpKV K H' xs ds
  | _, _, .nil => .nil
  | _, _, .cons a b => .cons (Rp.mono e a) (RpKV.mono e b)
end
theorem RpAll.len : ∀ {xs : List V} {ds : List D}, RpAll K H xs ds → xs.length = ds.length
  | _, _, .nil => rfl
  | _, _, .cons _ b => by rw [List.length_cons, List.length_cons, RpAll.len b]
theorem RpAll.get : ∀ {xs : List V} {ds : List D} {i : Nat} {d : D}, RpAll K H xs ds → ds[i]? = some d → ∃ x, xs[i]? = some x ∧ Rp K H x d
  | _, _, 0, _, .cons a _, e => by
    cases e
    exact ⟨_, rfl, a⟩
  | _, _, i + 1, d, .cons _ b, e => RpAll.get (i := i) b e
theorem RpAll.getV : ∀ {xs : List V} {ds : List D} {i : Nat} {x : V}, RpAll K H xs ds → xs[i]? = some x → ∃ d, ds[i]? = some d ∧ Rp K H x d
  | _, _, 0, _, .cons a _, e => by
    cases e
    exact ⟨_, rfl, a⟩
  | _, _, i + 1, d, .cons _ b, e => RpAll.getV (i := i) b e
theorem RpAll.app : ∀ {xs : List V} {ds : List D} {ys : List V} {es : List D}, RpAll K H xs ds → RpAll K H ys es → RpAll K H (xs ++ ys) (ds ++ es)
  | _, _, _, _, .nil, h => h
  | _, _, _, _, .cons a b, h => .cons a (RpAll.app b h)
theorem RpAll.take : ∀ {xs : List V} {ds : List D} (n : Nat), RpAll K H xs ds → RpAll K H (xs.take n) (ds.take n)
  | _, _, 0, _ => by simp only [List.take_zero]; exact .nil
  | _, _, n + 1, .nil => .nil
  | _, _, n + 1, .cons a b => .cons a (RpAll.take n b)
theorem RpAll.drop : ∀ {xs : List V} {ds : List D} (n : Nat), RpAll K H xs ds → RpAll K H (xs.drop n) (ds.drop n)
  | _, _, 0, h => h
  | _, _, n + 1, .nil => .nil
  | _, _, n + 1, .cons a b => RpAll.drop n b
theorem RpAll.set : ∀ {xs : List V} {ds : List D} {v : V} {d : D} (n : Nat), RpAll K H xs ds → Rp K H v d → RpAll K H (xs.set n v) (ds.set n d)
  | _, _, _, _, _, .nil, _ => .nil
  | _, _, _, _, 0, .cons a b, h => .cons h b
  | _, _, _, _, n + 1, .cons a b, h => .cons a (RpAll.set n b h)
theorem RpAll.rev : ∀ {xs : List V} {ds : List D}, RpAll K H xs ds → RpAll K H xs.reverse ds.reverse
  | _, _, .nil => .nil
  | _, _, .cons a b => by rw [List.reverse_cons, List.reverse_cons]; exact (RpAll.rev b).app (.cons a .nil)
end
/-- the state: each slot's tree, and how many draws at most were taken -/
structure S where
  δ : List (Option D)
  n : Nat
/-- what stays the same through a def's body: M, the slots of its own lists and dicts (changed in place); the pen and its slot; bor, bs: lists and dicts that were handed in to be changed, and their slots -/
structure Cf where
  K : PySem.W.Frag
  pen : Option (Addr × Addr)
  ps : Nat
  M : List Nat
  bor : List Addr := []
  bs : List Nat := []
def IsPen (C : Cf) (b : Addr) : Prop := (∃ c, C.pen = some (b, c)) ∨ b ∈ C.bor
def Own (C : Cf) (σ : L2.St) (b : Addr) : Prop := ∃ i, i ∈ C.M ∧ σ[i]? = some (some (.ref b))
/-- a list's or a dict's object, and its tree -/
inductive Cn (K : PySem.W.Frag) (Hs : Hp) : HO → D → Prop
  | lst {xs : List V} {ds : List D} : RpAll K Hs xs ds → Cn K Hs (.lst xs) (.list ds)
  | dic {kvs : List (Key × V)} {ds : List (D × D)} : RpKV K Hs kvs ds → Cn K Hs (.dK kvs) (.dict ds)
/-- the same, or a dict that is walked through -/
inductive Cr (K : PySem.W.Frag) (Hs : Hp) : HO → D → Prop
  | lst {xs : List V} {ds : List D} : RpAll K Hs xs ds → Cr K Hs (.lst xs) (.list ds)
  | dic {kvs : List (Key × V)} {ds : List (D × D)} : RpKV K Hs kvs ds → Cr K Hs (.dK kvs) (.dict ds)
  | frz {f : Obj} {kvs : List (Key × V)} {ds : List (D × D)} : RpKV K Hs kvs ds → Cr K Hs (.frz f (.dK kvs)) (.dict ds)
theorem Cn.cr {K : PySem.W.Frag} {Hs : Hp} {o : HO} {d : D} (h : Cn K Hs o d) : Cr K Hs o d := by
  cases h with
  | lst a => exact .lst a
  | dic a => exact .dic a
def isC : D → Bool
  | .list _ => true
  | .dict _ => true
  | _ => false
theorem Cn.mono {K : PySem.W.Frag} {Hs Hs' : Hp} (e : Same Hs Hs') {o : HO} {d : D} (h : Cn K Hs o d) : Cn K Hs' o d := by
  cases h with
  | lst a => exact .lst (RpAll.mono e a)
  | dic a => exact .dic (RpKV.mono e a)
theorem Cn.is {K : PySem.W.Frag} {Hs : Hp} {o : HO} {d : D} (h : Cn K Hs o d) : isC d = true := by cases h <;> rfl
theorem Cn.rp {K : PySem.W.Frag} {Hs : Hp} {o : HO} {d : D} {a : Addr} (h : Cn K Hs o d) (e : Hs a = some o) : Rp K Hs (.ref a) d := by
  cases h with
  | lst q => exact .lst e q
  | dic q => exact .dic (.inl e) q
theorem Cr.is {K : PySem.W.Frag} {Hs : Hp} {o : HO} {d : D} (h : Cr K Hs o d) : isC d = true := by cases h <;> rfl
theorem Rp.cn {K : PySem.W.Frag} {Hs : Hp} {v : V} {d : D} (h : Rp K Hs v d) (c : isC d = true) : ∃ a o, v = .ref a ∧ Hs a = some o ∧ Cr K Hs o d := by
  cases h with
  | lst q a => exact ⟨_, _, rfl, q, .lst a⟩
  | dic q a =>
    rcases q with q | ⟨o, q⟩
    · exact ⟨_, _, rfl, q, .dic a⟩
    · exact ⟨_, _, rfl, q, .frz a⟩
  | non => cases c
  | bl _ => cases c
  | int _ => cases c
  | str _ => cases c
  | tup _ _ => cases c
/-- the slots and the heap bear the state; Hs: the part of the heap that stays -/
structure R (C : Cf) (H0 S0 Hs : Hp) (σ : L2.St) (H : Hp) (s : S) : Prop where
  len : σ.length = s.δ.length
  sub : Same Hs H
  slot : ∀ i d, s.δ[i]? = some (some d) → i ∉ C.M → ∃ v, σ[i]? = some (some v) ∧ Rp C.K Hs v d
  mt : ∀ i d, s.δ[i]? = some (some d) → i ∈ C.M → ∃ a o, σ[i]? = some (some (.ref a)) ∧ H a = some o ∧ Hs a = none ∧ Cn C.K Hs o d ∧ (H0 a = none ∨ a ∈ C.bor)
  dead : ∀ i, i ∈ C.M → s.δ[i]? = some none → σ[i]? = some none
  sep : ∀ i j a, i ∈ C.M → j ∈ C.M → σ[i]? = some (some (.ref a)) → σ[j]? = some (some (.ref a)) → i = j
  pn : ∀ p c, C.pen = some (p, c) → σ[C.ps]? = some (some (.ref p)) ∧ Pen H p c s.n ∧ Hs p = none ∧ H0 p ≠ none ∧ H0 c ≠ none ∧ s.δ[C.ps]? = some none ∧ C.ps ∉ C.M ∧ p ∉ C.bor ∧ c ∉ C.bor
  br : ∀ b, b ∈ C.bor → (∃ i, i ∈ C.bs ∧ i ∈ C.M ∧ σ[i]? = some (some (.ref b))) ∧ H0 b ≠ none
  s0 : Same S0 Hs
  h0 : ∀ b o, ¬ IsPen C b → H0 b = some o → H b = some o
  new : ∀ b, S0 b = none → Hs b ≠ none → H0 b = none
/-- from one heap to a later one -/
structure Go (C : Cf) (σ : L2.St) (Hs H Hs' H' : Hp) : Prop where
  st : Same Hs Hs'
  kp : ∀ b o, H b = some o → ¬ Own C σ b → ¬ IsPen C b → H' b = some o
  th : ∀ b o, H b = some o → ∃ o', H' b = some o'
  nw : ∀ b, Hs b = none → Hs' b ≠ none → H b = none
section
variable {C : Cf} {σ : L2.St} {H0 S0 Hs H Hs' H' Hs'' H'' : Hp} {s s' : S}
theorem Go.refl : Go C σ Hs H Hs H := ⟨Same.refl _, fun _ _ h _ _ => h, fun _ o h => ⟨o, h⟩, fun _ h h' => absurd h h'⟩
theorem Go.trans (a : Go C σ Hs H Hs' H') (b : Go C σ Hs' H' Hs'' H'') : Go C σ Hs H Hs'' H'' := by
  refine ⟨a.st.trans b.st, fun c o h n1 n2 => b.kp c o (a.kp c o h n1 n2) n1 n2, fun c o h => ?_, fun c h h' => ?_⟩
  · obtain ⟨o', h'⟩ := a.th c o h
    exact b.th c o' h'
  · cases q : Hs' c with
    | some o => exact a.nw c h (by rw [q]; exact fun z => nomatch z)
    | none =>
      have h1 := b.nw c q h'
      cases q2 : H c with
      | none => rfl
      | some o =>
        obtain ⟨o', h2⟩ := a.th c o q2
        rw [h1] at h2
        cases h2
/-- a value's kinds: E: it lies in the still part; F: a list or dict is new and nobody else's -/
inductive Cat where | E | F
def Fresh (C : Cf) (H0 Hst Hs : Hp) (σ : L2.St) (H : Hp) (a : Addr) (d : D) : Prop :=
  ∃ o, H a = some o ∧ Hs a = none ∧ H0 a = none ∧ Hst a = none ∧ Cn C.K Hs o d ∧ ¬ Own C σ a
def Val (C : Cf) (H0 Hst Hs : Hp) (σ : L2.St) (H : Hp) : Cat → V → D → Prop
  | .E, v, d => Rp C.K Hs v d
  | .F, v, d => if isC d = true then ∃ a, v = .ref a ∧ Fresh C H0 Hst Hs σ H a d else Rp C.K Hs v d
theorem Val.c {Hst : Hp} {v : V} {d : D} (h : Val C H0 Hst Hs σ H .F v d) (e : isC d = true) : ∃ a, v = .ref a ∧ Fresh C H0 Hst Hs σ H a d := by
  have h : (if isC d = true then ∃ a, v = .ref a ∧ Fresh C H0 Hst Hs σ H a d else Rp C.K Hs v d) := h
  rw [if_pos e] at h
  exact h
theorem Val.p {Hst : Hp} {v : V} {d : D} (h : Val C H0 Hst Hs σ H .F v d) (e : isC d = false) : Rp C.K Hs v d := by
  have h : (if isC d = true then ∃ a, v = .ref a ∧ Fresh C H0 Hst Hs σ H a d else Rp C.K Hs v d) := h
  rw [if_neg (by rw [e]; exact Bool.false_ne_true)] at h
  exact h
theorem Val.mkC {Hst : Hp} {a : Addr} {d : D} (f : Fresh C H0 Hst Hs σ H a d) : Val C H0 Hst Hs σ H .F (.ref a) d := by
  obtain ⟨o, _, _, _, _, c, _⟩ := id f
  exact ifp c.is ⟨a, rfl, f⟩
theorem Val.mkP {Hst : Hp} {v : V} {d : D} (h : Rp C.K Hs v d) (e : isC d = false) : Val C H0 Hst Hs σ H .F v d := ifn (by rw [e]; exact Bool.false_ne_true) h
/-- what may be read -/
def Rd' (K : PySem.W.Frag) (Hs H : Hp) (v : V) (d : D) : Prop := if isC d = true then ∃ a o, v = .ref a ∧ H a = some o ∧ Cr K Hs o d else Rp K Hs v d
theorem Rd'.list {K : PySem.W.Frag} {v : V} {ds : List D} (h : Rd' K Hs H v (.list ds)) : ∃ a xs, v = .ref a ∧ H a = some (.lst xs) ∧ RpAll K Hs xs ds := by
  obtain ⟨a, o, rfl, e, c⟩ := (show ∃ a o, v = .ref a ∧ H a = some o ∧ Cr K Hs o (.list ds) from h)
  cases c with
  | lst q => exact ⟨a, _, rfl, e, q⟩
theorem Rd'.dict {K : PySem.W.Frag} {v : V} {ds : List (D × D)} (h : Rd' K Hs H v (.dict ds)) : ∃ a xs, v = .ref a ∧ Rd H a (.dK xs) ∧ RpKV K Hs xs ds := by
  obtain ⟨a, o, rfl, e, c⟩ := (show ∃ a o, v = .ref a ∧ H a = some o ∧ Cr K Hs o (.dict ds) from h)
  cases c with
  | dic q => exact ⟨a, _, rfl, .inl e, q⟩
  | frz q => exact ⟨a, _, rfl, .inr ⟨_, e⟩, q⟩
theorem Rd'.mkR {K : PySem.W.Frag} {a : Addr} {o : HO} {d : D} (h : H a = some o) (c : Cr K Hs o d) : Rd' K Hs H (.ref a) d := ifp c.is ⟨a, o, rfl, h, c⟩
theorem Rd'.mkC {K : PySem.W.Frag} {a : Addr} {o : HO} {d : D} (h : H a = some o) (c : Cn K Hs o d) : Rd' K Hs H (.ref a) d := Rd'.mkR h c.cr
theorem Rp.rd {K : PySem.W.Frag} {v : V} {d : D} (h : Rp K Hs v d) (sub : Same Hs H) : Rd' K Hs H v d := by
  cases e : isC d with
  | true =>
    obtain ⟨a, o, rfl, q, c⟩ := h.cn e
    exact Rd'.mkR (sub _ _ q) c
  | false => exact ifn (by rw [e]; exact Bool.false_ne_true) h
theorem Val.rd {Hst : Hp} {cat : Cat} {v : V} {d : D} (h : Val C H0 Hst Hs σ H cat v d) (sub : Same Hs H) : Rd' C.K Hs H v d := by
  cases cat with
  | E => exact Rp.rd h sub
  | F =>
    cases e : isC d with
    | true =>
      obtain ⟨a, rfl, o, h1, _, _, _, c, _⟩ := h.c e
      exact Rd'.mkC h1 c
    | false => exact Rp.rd (h.p e) sub
theorem R.notPen (r : R C H0 S0 Hs σ H s) {a : Addr} (h : H0 a = none) : ¬ IsPen C a := fun z => by
  rcases z with ⟨c, e⟩ | e
  · exact (r.pn a c e).2.2.2.1 h
  · exact (r.br a e).2 h
theorem Val.go {Hst : Hp} {cat : Cat} {v : V} {d : D} (h : Val C H0 Hst Hs σ H cat v d) (r : R C H0 S0 Hs σ H s) (g : Go C σ Hs H Hs' H') : Val C H0 Hst Hs' σ H' cat v d := by
  cases cat with
  | E => exact Rp.mono g.st h
  | F =>
    cases e : isC d with
    | true =>
      obtain ⟨a, rfl, o, h1, h2, h3, h4, h5, h6⟩ := h.c e
      refine Val.mkC ⟨o, g.kp a _ h1 h6 (r.notPen h3), ?_, h3, h4, h5.mono g.st, h6⟩
      cases q : Hs' a with
      | none => rfl
      | some o =>
        have := g.nw a h2 (by rw [q]; exact fun z => nomatch z)
        rw [h1] at this
        cases this
    | false => exact Val.mkP (Rp.mono g.st (h.p e)) e
theorem Val.anew {Hst Hst' : Hp} {cat : Cat} {v : V} {d : D} (h : Val C H0 Hst' Hs σ H cat v d) (e : ∀ a, Hst' a = none → Hst a = none) : Val C H0 Hst Hs σ H cat v d := by
  cases cat with
  | E => exact h
  | F =>
    cases q : isC d with
    | true =>
      obtain ⟨a, rfl, o, h1, h2, h3, h4, h5, h6⟩ := h.c q
      exact Val.mkC ⟨o, h1, h2, h3, e a h4, h5, h6⟩
    | false => exact Val.mkP (h.p q) q
theorem Go.back (g : Go C σ Hs H Hs' H') : ∀ a, H' a = none → H a = none := fun a h => by
  cases q : H a with
  | none => rfl
  | some o => obtain ⟨o', h'⟩ := g.th a o q; rw [h] at h'; cases h'
/-- a new list or dict goes into the still part -/
theorem R.freeze (r : R C H0 S0 Hs σ H s) {a : Addr} {d : D} {Hst : Hp} (f : Fresh C H0 Hst Hs σ H a d) : ∃ Hs', Same Hs Hs' ∧ R C H0 S0 Hs' σ H s ∧ Rp C.K Hs' (.ref a) d ∧ ∀ b, Hs b = none → Hs' b ≠ none → b = a := by
  obtain ⟨o, h1, h2, h3, h4, h5, h6⟩ := f
  have sm : Same Hs (upd Hs a o) := same_upd h2
  refine ⟨upd Hs a o, sm, ⟨r.len, fun b u e => ?_, fun i d e m => ?_, fun i d e m => ?_, r.dead, r.sep, fun p c e => ?_, r.br, r.s0.trans sm, r.h0, fun b e1 e2 => ?_⟩, (h5.mono sm).rp upd_same, fun b e1 e2 => ?_⟩
  · by_cases z : b = a
    · subst z; rw [upd_same] at e; cases e; exact h1
    · rw [upd_ne z] at e; exact r.sub _ _ e
  · obtain ⟨v, e1, e2⟩ := r.slot i d e m
    exact ⟨v, e1, Rp.mono sm e2⟩
  · obtain ⟨b, u, e2, e3, e4, e5, e6⟩ := r.mt i d e m
    refine ⟨b, u, e2, e3, ?_, e5.mono sm, e6⟩
    rw [upd_ne (fun z => h6 ⟨i, m, by rw [← z]; exact e2⟩)]
    exact e4
  · obtain ⟨e1, e2, e3, e4, e5⟩ := r.pn p c e
    refine ⟨e1, e2, ?_, e4, e5⟩
    rw [upd_ne (fun z => e4 (by rw [z]; exact h3))]
    exact e3
  · by_cases z : b = a
    · subst z; exact h3
    · rw [upd_ne z] at e2; exact r.new b e1 e2
  · by_cases z : b = a
    · exact z
    · rw [upd_ne z] at e2; exact absurd e1 e2
end
/-- an expression in the plain layer: from a state to a tree and a state -/
abbrev DT := S → (D → S → Prop) → Prop
/-- te's reading follows from t -/
structure Sim (C : Cf) (cat : Cat) (te : TE) (t : DT) : Prop where
  run : ∀ (H0 S0 Hs : Hp) (σ : L2.St) (H : Hp) (s : S) (Q : D → S → Prop) (Q' : VK), R C H0 S0 Hs σ H s → t s Q →
    (∀ Hs' H' v d s', Go C σ Hs H Hs' H' → R C H0 S0 Hs' σ H' s' → Val C H0 H Hs' σ H' cat v d → Q d s' → Q' v H') → te σ H Q'
section
variable {C : Cf} {te ta tb : TE} {t da db : DT}
/-- a new list laid down -/
theorem Sim.e (h : Sim C .F te t) : Sim C .E te t := by
  refine ⟨fun H0 S0 Hs σ H s Q Q' r q k => h.run H0 S0 Hs σ H s Q Q' r q fun Hs' H' v d s' g r' vl qq => ?_⟩
  cases e : isC d with
  | true =>
    obtain ⟨a, rfl, f⟩ := vl.c e
    obtain ⟨Hs2, s1, r2, rp, nw⟩ := r'.freeze f
    refine k Hs2 H' _ _ s' ⟨g.st.trans s1, g.kp, g.th, fun b e1 e2 => ?_⟩ r2 rp qq
    cases q3 : Hs' b with
    | some o => exact g.nw b e1 (by rw [q3]; exact fun z => nomatch z)
    | none =>
      have := nw b q3 e2
      subst this
      obtain ⟨_, _, _, _, h4, _⟩ := f
      exact h4
  | false => exact k Hs' H' _ _ s' g r' (vl.p e) qq
theorem Sim.toE {cat : Cat} (h : Sim C cat te t) : Sim C .E te t := by
  cases cat with
  | E => exact h
  | F => exact h.e
/-! names and constants -/
def dV (i : Nat) : DT := fun s Q => match s.δ[i]? with
  | some (some d) => Q d s
  | _ => False
theorem sim_var (i : Nat) (hi : i ∉ C.M) : Sim C .E (tVar i) (dV i) := by
  refine ⟨fun H0 S0 Hs σ H s Q Q' r q k => ?_⟩
  unfold dV at q
  split at q
  · rename_i d e
    obtain ⟨v, e1, e2⟩ := r.slot i d e hi
    exact ⟨v, e1, k Hs H v d s Go.refl r e2 q⟩
  · exact q.elim
def dC (d : D) : DT := fun s Q => Q d s
theorem sim_int (i : Int) : Sim C .F (tC (.int i)) (dC (.int i)) := ⟨fun H0 S0 Hs σ H s Q Q' r q k => k Hs H _ (.int i) s Go.refl r (Val.mkP (Rp.int i) rfl) q⟩
theorem sim_bl (b : Bool) : Sim C .F (tC (.bl b)) (dC (.bool b)) := ⟨fun H0 S0 Hs σ H s Q Q' r q k => k Hs H _ (.bool b) s Go.refl r (Val.mkP (Rp.bl b) rfl) q⟩
theorem sim_non : Sim C .F (tC .non) (dC .none) := ⟨fun H0 S0 Hs σ H s Q Q' r q k => k Hs H _ .none s Go.refl r (Val.mkP Rp.non rfl) q⟩
theorem sim_str (x : Str) : Sim C .F (tC (.str x)) (dC (.str x)) := ⟨fun H0 S0 Hs σ H s Q Q' r q k => k Hs H _ (.str x) s Go.refl r (Val.mkP (Rp.str x) rfl) q⟩
/-! operations by values -/
abbrev DO := D → D → (D → Prop) → Prop
/-- r's reading follows from f -/
def OpA (C : Cf) (r : R2) (f : DO) : Prop := ∀ (H0 S0 Hs : Hp) (σ : L2.St) (H : Hp) (s : S) (x y : V) (dx dy : D) (Q : D → Prop) (Q' : VK), R C H0 S0 Hs σ H s → Rd' C.K Hs H x dx → Rd' C.K Hs H y dy → f dx dy Q →
  (∀ Hs' H' v d, Go C σ Hs H Hs' H' → R C H0 S0 Hs' σ H' s → Val C H0 H Hs' σ H' .F v d → Q d → Q' v H') → r x y H Q'
def dOp (f : DO) (da db : DT) : DT := fun s Q => da s fun x s1 => db s1 fun y s2 => f x y fun z => Q z s2
theorem sim_op {r : R2} {f : DO} {ca cb : Cat} (ho : OpA C r f) (ha : Sim C ca ta da) (hb : Sim C cb tb db) : Sim C .F (tOp r ta tb) (dOp f da db) := by
  refine ⟨fun H0 S0 Hs σ H s Q Q' r0 q k => ha.run H0 S0 Hs σ H s _ _ r0 q fun Hs1 H1 x dx s1 g1 r1 v1 q1 => hb.run H0 S0 Hs1 σ H1 s1 _ _ r1 q1 fun Hs2 H2 y dy s2 g2 r2 v2 q2 => ?_⟩
  refine ho H0 S0 Hs2 σ H2 s2 x y dx dy _ _ r2 ((v1.go r1 g2).rd r2.sub) (v2.rd r2.sub) q2 fun Hs3 H3 v d g3 r3 v3 q3 => ?_
  exact k Hs3 H3 v d s2 (g1.trans (g2.trans g3)) r3 (v3.anew (fun a e => (g1.trans g2).back a e)) q3
/-- the left one a list of the def's own: read when the other one is there -/
def dOpM (f : DO) (i : Nat) (db : DT) : DT := fun s Q => (∃ d, s.δ[i]? = some (some d)) ∧ db s fun y s2 => match s2.δ[i]? with
  | some (some x) => f x y fun z => Q z s2
  | _ => False
theorem R.rdM (r : R C H0 S0 Hs σ H s) {i : Nat} {d : D} (hi : i ∈ C.M) (e : s.δ[i]? = some (some d)) : ∃ v, σ[i]? = some (some v) ∧ Rd' C.K Hs H v d := by
  obtain ⟨a, o, e1, e2, _, e3, _⟩ := r.mt i d e hi
  exact ⟨_, e1, Rd'.mkC e2 e3⟩
theorem sim_opM {r : R2} {f : DO} {cb : Cat} (i : Nat) (hi : i ∈ C.M) (ho : OpA C r f) (hb : Sim C cb tb db) : Sim C .F (tOp r (tVar i) tb) (dOpM f i db) := by
  refine ⟨fun H0 S0 Hs σ H s Q Q' r0 q k => ?_⟩
  obtain ⟨⟨d, e⟩, q⟩ := q
  obtain ⟨v, e1, _⟩ := r0.rdM hi e
  refine ⟨v, e1, hb.run H0 S0 Hs σ H s _ _ r0 q fun Hs2 H2 y dy s2 g2 r2 v2 q2 => ?_⟩
  split at q2
  · rename_i x ex
    obtain ⟨v', e2, rd⟩ := r2.rdM hi ex
    rw [e1] at e2
    cases e2
    refine ho H0 S0 Hs2 σ H2 s2 v y x dy _ _ r2 rd (v2.rd r2.sub) q2 fun Hs3 H3 v d g3 r3 v3 q3 => ?_
    exact k Hs3 H3 v d s2 (g2.trans g3) r3 (v3.anew (fun a e => g2.back a e)) q3
  · exact q2.elim
/-- the right one a list of the def's own -/
def dOpR (f : DO) (da : DT) (i : Nat) : DT := fun s Q => da s fun x s2 => match s2.δ[i]? with
  | some (some y) => f x y fun z => Q z s2
  | _ => False
theorem sim_opR {r : R2} {f : DO} {ca : Cat} (i : Nat) (hi : i ∈ C.M) (ho : OpA C r f) (ha : Sim C ca ta da) : Sim C .F (tOp r ta (tVar i)) (dOpR f da i) := by
  refine ⟨fun H0 S0 Hs σ H s Q Q' r0 q k => ha.run H0 S0 Hs σ H s _ _ r0 q fun Hs2 H2 x dx s2 g2 r2 v2 q2 => ?_⟩
  split at q2
  · rename_i y ey
    obtain ⟨v', e2, rd⟩ := r2.rdM hi ey
    refine ⟨v', e2, ho H0 S0 Hs2 σ H2 s2 x v' dx y _ _ r2 (v2.rd r2.sub) rd q2 fun Hs3 H3 v d g3 r3 v3 q3 => ?_⟩
    exact k Hs3 H3 v d s2 (g2.trans g3) r3 (v3.anew (fun a e => g2.back a e)) q3
  · exact q2.elim
def dOpMM (f : DO) (i j : Nat) : DT := fun s Q => match s.δ[i]?, s.δ[j]? with
  | some (some x), some (some y) => f x y fun z => Q z s
  | _, _ => False
theorem sim_opMM {r : R2} {f : DO} (i j : Nat) (hi : i ∈ C.M) (hj : j ∈ C.M) (ho : OpA C r f) : Sim C .F (tOp r (tVar i) (tVar j)) (dOpMM f i j) := by
  refine ⟨fun H0 S0 Hs σ H s Q Q' r0 q k => ?_⟩
  unfold dOpMM at q
  split at q
  · rename_i x y ex ey
    obtain ⟨v, e1, rd1⟩ := r0.rdM hi ex
    obtain ⟨v', e2, rd2⟩ := r0.rdM hj ey
    exact ⟨v, e1, v', e2, ho H0 S0 Hs σ H s v v' x y _ _ r0 rd1 rd2 q fun Hs3 H3 v d g3 r3 v3 q3 => k Hs3 H3 v d s g3 r3 v3 q3⟩
  · exact q.elim
end

/-! ### operations of the plain layer -/
section
variable {K : PySem.W.Frag} {H : Hp}
mutual
theorem Rp.dp : ∀ (d : D) {v : V}, Rp K H v d → d.canLay0 = true → Dp K H v d
  | .none, _, h, _ => by cases h; exact .non
  | .bool b, _, h, _ => by cases h; exact .bl b
  | .int b, _, h, _ => by cases h; exact .int b
  | .str b, _, h, _ => by cases h; exact .str b
  | .list ds, _, h, c => by
    cases h with
    | lst q a => exact .lst (SqL.of q) (RpAll.dp ds a (by simpa [PyData.canLay0] using c))
  | .tuple ds, _, h, c => by
    cases h with
    | tup q a => exact .tup q (RpAll.dp ds a (by simpa [PyData.canLay0] using c))
  | .dict ds, _, _, c => by simp [PyData.canLay0] at c
theorem RpAll.dp : ∀ (ds : List D) {vs : List V}, RpAll K H vs ds → PyData.canLayAll0 ds = true → DpAll K H vs ds
  | [], _, h, _ => by cases h; exact .nil
  | d :: ds, _, h, c => by
    cases h with
    | cons a b =>
      simp only [PyData.canLayAll0, Bool.and_eq_true] at c
      exact .cons (Rp.dp d a c.1) (RpAll.dp ds b c.2)
end
end
/-- data that == may compare -/
def Sh (d : D) : Prop := SeqAt.shaped d = true
theorem Rd'.dp {K : PySem.W.Frag} {Hs H : Hp} {v : V} {d : D} (h : Rd' K Hs H v d) (sub : Same Hs H) (c : Sh d) : Dp K H v d := by
  have c' := SeqAt.canLay_of_shaped c
  cases e : isC d with
  | true =>
    cases d <;> first | (exfalso; have e' : false = true := e; cases e'; done) | skip
    case list ds =>
      obtain ⟨a, xs, rfl, h1, h2⟩ := Rd'.list h
      exact .lst (SqL.of h1) (DpAll_same sub (RpAll.dp ds h2 (by simpa [PyData.canLay0] using c')))
    case dict ds => simp [PyData.canLay0] at c'
  | false =>
    have h : (if isC d = true then _ else Rp K Hs v d) := h
    rw [if_neg (by rw [e]; exact Bool.false_ne_true)] at h
    exact Dp_same sub (Rp.dp _ h c')
section
variable {C : Cf} {σ : L2.St} {H0 S0 Hs H : Hp} {s : S}
/-- a new object in the heap, not of the still part -/
theorem Go.laid {a : Addr} {o : HO} (h : H a = none) : Go C σ Hs H Hs (upd H a o) :=
  ⟨Same.refl _, fun b x e _ _ => by rw [upd_ne (ne_of_none e h)]; exact e, fun b x e => ⟨x, by rw [upd_ne (ne_of_none e h)]; exact e⟩, fun _ h1 h2 => absurd h1 h2⟩
theorem R.laid (r : R C H0 S0 Hs σ H s) {a : Addr} {o : HO} (h : H a = none) : R C H0 S0 Hs σ (upd H a o) s := by
  have sm : Same H (upd H a o) := same_upd h
  refine ⟨r.len, r.sub.trans sm, r.slot, fun i d e m => ?_, r.dead, r.sep, fun p c e => ?_, r.br, r.s0, fun b x n e => sm _ _ (r.h0 b x n e), r.new⟩
  · obtain ⟨b, u, e2, e3, e4⟩ := r.mt i d e m
    exact ⟨b, u, e2, sm _ _ e3, e4⟩
  · obtain ⟨e1, e2, e3⟩ := r.pn p c e
    exact ⟨e1, e2.same sm, e3⟩
theorem R.free0 (r : R C H0 S0 Hs σ H s) {a : Addr} (h : H a = none) : H0 a = none ∧ Hs a = none ∧ ¬ Own C σ a ∧ ¬ IsPen C a := by
  have no : ¬ Own C σ a := fun ⟨i, m, e⟩ => by
    have hi : i < s.δ.length := by rw [← r.len]; exact (List.getElem?_eq_some_iff.mp e).1
    cases q : s.δ[i]'hi with
    | none =>
      have := r.dead i m (by rw [List.getElem?_eq_getElem hi, q])
      rw [e] at this; cases this
    | some d =>
      obtain ⟨b, u, e2, e3, _⟩ := r.mt i d (by rw [List.getElem?_eq_getElem hi, q]) m
      rw [e] at e2; cases e2
      rw [h] at e3; cases e3
  have np : ¬ IsPen C a := fun z => by
    rcases z with ⟨c, e⟩ | e
    · obtain ⟨_, ⟨⟨_, _, e2, _⟩, _, _⟩, _⟩ := r.pn a c e
      rw [h] at e2; cases e2
    · obtain ⟨i, _, m, z⟩ := (r.br a e).1
      exact no ⟨i, m, z⟩
  refine ⟨?_, ?_, no, np⟩
  · cases q : H0 a with
    | none => rfl
    | some o => rw [r.h0 a o np q] at h; cases h
  · cases q : Hs a with
    | none => rfl
    | some o => rw [r.sub a o q] at h; cases h
/-- a new list or dict, nobody else's -/
theorem R.newC (r : R C H0 S0 Hs σ H s) {a : Addr} {o : HO} {d : D} (h : H a = none) (hx : Cn C.K Hs o d) : Val C H0 H Hs σ (upd H a o) .F (.ref a) d := by
  obtain ⟨h0, h1, h2, _⟩ := r.free0 h
  exact Val.mkC ⟨o, upd_same, h1, h0, h, hx, h2⟩
theorem R.newList (r : R C H0 S0 Hs σ H s) {a : Addr} {xs : List V} {ds : List D} (h : H a = none) (hx : RpAll C.K Hs xs ds) : Val C H0 H Hs σ (upd H a (.lst xs)) .F (.ref a) (.list ds) := r.newC h (.lst hx)
/-- a new tuple lies in the still part at once -/
theorem R.newTup (r : R C H0 S0 Hs σ H s) {a : Addr} {o : HO} (h : H a = none) : R C H0 S0 (upd Hs a o) σ (upd H a o) s ∧ Go C σ Hs H (upd Hs a o) (upd H a o) := by
  obtain ⟨h0, h1, h2, h3⟩ := r.free0 h
  have sm : Same H (upd H a o) := same_upd h
  have sm' : Same Hs (upd Hs a o) := same_upd h1
  have r' := r.laid (o := o) h
  refine ⟨⟨r.len, fun b x e => ?_, fun i d e m => ?_, fun i d e m => ?_, r.dead, r.sep, fun p c e => ?_, r.br, r.s0.trans sm', r'.h0, fun b e1 e2 => ?_⟩, sm', fun b x e _ _ => sm _ _ e, fun b x e => ⟨x, sm _ _ e⟩, fun b e1 e2 => ?_⟩
  · by_cases z : b = a
    · subst z; rw [upd_same] at e; rw [upd_same]; exact e
    · rw [upd_ne z] at e; exact r'.sub _ _ e
  · obtain ⟨v, e1, e2⟩ := r.slot i d e m
    exact ⟨v, e1, Rp.mono sm' e2⟩
  · obtain ⟨b, u, e2, e3, e4, e5, e6⟩ := r'.mt i d e m
    refine ⟨b, u, e2, e3, ?_, e5.mono sm', e6⟩
    rw [upd_ne (fun z => h2 ⟨i, m, by rw [← z]; exact e2⟩)]
    exact e4
  · obtain ⟨e1, e2, e3, e4⟩ := r'.pn p c e
    refine ⟨e1, e2, ?_, e4⟩
    rw [upd_ne (fun z => h3 (.inl ⟨c, by rw [← z]; exact e⟩))]
    exact e3
  · by_cases z : b = a
    · subst z; exact h0
    · rw [upd_ne z] at e2; exact r.new b e1 e2
  · by_cases z : b = a
    · subst z; exact h
    · rw [upd_ne z] at e2; exact absurd e1 e2
end
theorem Val.bl {C : Cf} {H0 Hst Hs : Hp} {σ : L2.St} {H : Hp} (b : Bool) : Val C H0 Hst Hs σ H .F (.bl b) (.bool b) := Val.mkP (Rp.bl b) rfl
/-! the operators -/
section
variable {X : Cx} (K : PySem.W.Frag) (eK : X.K = K)
def rAddS : R2 := fun x y H Q => ∃ i j, x = .str i ∧ y = .str j ∧ i.length + j.length ≤ sizeLine ∧ Q (.str (i ++ j)) H
def rAddG (K : PySem.W.Frag) : R2 := fun x y H Q => rI0 (fun i j => .int (i + j)) x y H Q ∨ rAddS x y H Q ∨ rCat x y H Q ∨ rCatA K x y H Q
include eK in
theorem addG : OpR X (binaryOp .Add) (rAddG K) := by
  subst eK
  exact OpR.or op_add (OpR.or op_add_str (OpR.or op_cat op_catA))
def rMulG : R2 := fun x y H Q => rI CMulW (fun i j => .int (i * j)) x y H Q ∨ rRep x y H Q
theorem mulG : OpR X (binaryOp .Mult) rMulG := OpR.or op_mulW op_rep
/-- a dict beside an empty one -/
def rEqE (neg : Bool) : R2 := fun x y H Q => ∃ a b ks, x = .ref a ∧ y = .ref b ∧ Rd H a (.dK ks) ∧ Rd H b (.dK []) ∧ Q (.bl (xor neg ks.isEmpty)) H
theorem eqE_hits {A : Around} {s : Shared} {ks : List (Key × V)} {va vb : List (Key × Value)} (ra : KV ks va) (hb : vb = []) : va.length = vb.length → PySem.W.KeqHits A s vb va true := fun e => by
  subst hb
  cases va with
  | nil => exact .nil
  | cons p r => cases e
theorem kvNil {vb : List (Key × Value)} (rb : KV [] vb) : vb = [] := by
  have := rb.length
  cases vb with
  | nil => rfl
  | cons p r => cases this
theorem op_eqE (hu : X.A.units < cLine) : OpR X (compareOp .Eq) (rEqE false) := by
  intro pins s σ H x y v u Q I rx ry h
  obtain ⟨a, b, ks, rfl, rfl, ea, eb, q⟩ := h
  obtain rfl : v = Value.ref a := rx
  obtain rfl : u = Value.ref b := ry
  obtain ⟨_, ya, va, ra, da⟩ := dk_rd I.hok ea
  obtain ⟨_, yb, vb, rb, db⟩ := dk_rd I.hok eb
  have hb := kvNil rb
  have hl : (ks.isEmpty) = (va.length == vb.length) := by
    rw [hb, ← ra.length]
    cases ks <;> rfl
  exact PySem.W.keq_eq (knd := mixKind X.prog X.w) (r := true) ya yb da db hu (eqE_hits ra hb) (fin_bl I q (by simp [hl]))
theorem op_neE (hu : X.A.units < cLine) : OpR X (compareOp .NotEq) (rEqE true) := by
  intro pins s σ H x y v u Q I rx ry h
  obtain ⟨a, b, ks, rfl, rfl, ea, eb, q⟩ := h
  obtain rfl : v = Value.ref a := rx
  obtain rfl : u = Value.ref b := ry
  obtain ⟨_, ya, va, ra, da⟩ := dk_rd I.hok ea
  obtain ⟨_, yb, vb, rb, db⟩ := dk_rd I.hok eb
  have hb := kvNil rb
  have hl : (ks.isEmpty) = (va.length == vb.length) := by
    rw [hb, ← ra.length]
    cases ks <;> rfl
  exact PySem.W.keq_ne (knd := mixKind X.prog X.w) (r := true) ya yb da db hu (eqE_hits ra hb) (fin_bl I q (by simp [hl]))
def rEqG (K : PySem.W.Frag) : R2 := fun x y H Q => rEq x y H Q ∨ rEqD K x y H Q ∨ rEqE false x y H Q
def rNeG (K : PySem.W.Frag) : R2 := fun x y H Q => rNe x y H Q ∨ rNeD K x y H Q ∨ rEqE true x y H Q
include eK in
theorem eqG (hu : X.A.units + 64 < cLine) : OpR X (compareOp .Eq) (rEqG K) := by subst eK; exact OpR.or op_eq (OpR.or (op_eqD hu) (op_eqE (by omega)))
include eK in
theorem neG (hu : X.A.units + 64 < cLine) : OpR X (compareOp .NotEq) (rNeG K) := by subst eK; exact OpR.or op_ne (OpR.or (op_neD hu) (op_neE (by omega)))
def rInS (neg : Bool) : R2 := fun x y H Q => ∃ i j, x = .str i ∧ y = .str j ∧ Q (.bl (xor neg (!(Builtin.Str.occurrences j i 0 j.length 1).isEmpty))) H
def rInDk (neg : Bool) : R2 := fun x y H Q => ∃ a kvs k, y = .ref a ∧ x = kV k ∧ Rd H a (.dK kvs) ∧ Q (.bl (xor neg (valV kvs k).isSome)) H
def rInG (K : PySem.W.Frag) : R2 := fun x y H Q => rIn K false x y H Q ∨ rInD K x y H Q ∨ rInS false x y H Q ∨ rInDk false x y H Q
def rNinG (K : PySem.W.Frag) : R2 := fun x y H Q => rIn K true x y H Q ∨ rNotInD K x y H Q ∨ rInS true x y H Q ∨ rInDk true x y H Q
include eK in
theorem inG (hu : X.A.units + 65 < cLine) : OpR X (compareOp .In) (rInG K) := by
  subst eK
  refine OpR.or op_in_seq (OpR.or (op_inD hu) (OpR.or (fun pins s σ H x y v u Q I rx ry h => op_in_str pins s σ H x y v u Q I rx ry ?_) (fun pins s σ H x y v u Q I rx ry h => ?_)))
  · obtain ⟨i, j, rfl, rfl, q⟩ := h
    exact ⟨i, j, rfl, rfl, by simpa using q⟩
  · obtain ⟨a, kvs, k, rfl, rfl, hd, q⟩ := h
    cases (show u = Value.ref a from ry)
    exact d_in (by omega) I (.inl ⟨kvs, k, hd, rfl, rfl⟩) rx fun s3 I3 => ⟨.bl _, H, I3, rfl, by simpa using q⟩
include eK in
theorem ninG (hu : X.A.units + 65 < cLine) : OpR X (compareOp .NotIn) (rNinG K) := by
  subst eK
  refine OpR.or op_notIn_seq (OpR.or (op_notInD hu) (OpR.or (fun pins s σ H x y v u Q I rx ry h => op_notin_str pins s σ H x y v u Q I rx ry ?_) (fun pins s σ H x y v u Q I rx ry h => ?_)))
  · obtain ⟨i, j, rfl, rfl, q⟩ := h
    exact ⟨i, j, rfl, rfl, by simpa using q⟩
  · obtain ⟨a, kvs, k, rfl, rfl, hd, q⟩ := h
    cases (show u = Value.ref a from ry)
    exact d_notIn (by omega) I (.inl ⟨kvs, k, hd, rfl, rfl⟩) rx fun s3 I3 => ⟨.bl _, H, I3, rfl, by simpa using q⟩
def rIxDk : R2 := fun x y H Q => ∃ p kvs k v, x = .ref p ∧ y = kV k ∧ Rd H p (.dK kvs) ∧ valV kvs k = some v ∧ Q v H
theorem ixDk {X : Cx} (hu : X.A.units + 65 < cLine) : IxR X rIxDk := by
  intro value slice pins s σ H x y v u Q I rx ry h hs
  obtain ⟨p, kvs, k, z, rfl, rfl, hH, hv, q⟩ := h
  cases rx
  exact tail_any (isD_at I (.inl ⟨kvs, hH⟩)).1 slot_dict_getitem.lookup (d_getItem (v := z) (by omega) I (by rw [← hv]; exact .inl ⟨kvs, k, hH, rfl, rfl⟩) ry fun w' s' I' r' => ⟨z, H, I', r', q⟩) hs
def rIxG (K : PySem.W.Frag) : R2 := fun x y H Q => rIxL K x y H Q ∨ rIxT K x y H Q ∨ rIxS x y H Q ∨ rIxDk x y H Q
include eK in
theorem ixG (hu : X.A.units + 65 < cLine) : IxR X (rIxG K) := by subst eK; exact IxR.or ix_list (IxR.or ix_tup (IxR.or ix_str (ixDk hu)))
end
def addD : DO := fun x y Q => match x, y with
  | .int i, .int j => Q (.int (i + j))
  | .str a, .str b => a.length + b.length ≤ sizeLine ∧ Q (.str (a ++ b))
  | .list a, .list b => a.length + b.length ≤ sizeLine ∧ Q (.list (a ++ b))
  | .tuple a, .tuple b => a.length + b.length ≤ sizeLine ∧ Q (.tuple (a ++ b))
  | _, _ => False
def subD : DO := fun x y Q => match x, y with
  | .int i, .int j => Q (.int (i - j))
  | _, _ => False
def mulD : DO := fun x y Q => match x, y with
  | .int i, .int j => CMulW i j ∧ Q (.int (i * j))
  | .list a, .int k => k < 2 ^ 62 ∧ -(2 ^ 62) < k ∧ a.length * k.toNat ≤ sizeLine ∧ Q (.list (List.replicate k.toNat a).flatten)
  | _, _ => False
def fdivD : DO := fun x y Q => match x, y with
  | .int i, .int j => CDivW i j ∧ Q (.int (i / j))
  | _, _ => False
def modD : DO := fun x y Q => match x, y with
  | .int i, .int j => 0 < j ∧ Q (.int (i % j))
  | _, _ => False
def powD : DO := fun x y Q => match x, y with
  | .int i, .int j => CPow i j ∧ Q (.int (i ^ j.toNat))
  | _, _ => False
def cmpD (p : Int → Int → Bool) : DO := fun x y Q => match x, y with
  | .int i, .int j => Q (.bool (p i j))
  | _, _ => False
/-- == -/
def eqB : D → D → Option Bool
  | .str a, .str b => some (decide (a = b))
  | .int a, .int b => some (decide (a = b))
  | .bool a, .bool b => some (decide (a = b))
  | .none, .none => some true
  | .none, .str _ => some false
  | .str _, .none => some false
  | .none, .int _ => some false
  | .int _, .none => some false
  | .int _, .str _ => some false
  | .str _, .int _ => some false
  | _, _ => none
def eqD0 : DO := fun x y Q => match eqB x y with
  | some b => Q (.bool b)
  | none => Sh x ∧ Sh y ∧ Q (.bool (PyData.eqv x y))
def neD0 : DO := fun x y Q => match eqB x y with
  | some b => Q (.bool (!b))
  | none => Sh x ∧ Sh y ∧ Q (.bool (!PyData.eqv x y))
def eqD : DO := fun x y Q => match y with
  | .dict [] => (match x with
    | .dict ks => Q (.bool ks.isEmpty)
    | _ => False)
  | _ => eqD0 x y Q
def neD : DO := fun x y Q => match y with
  | .dict [] => (match x with
    | .dict ks => Q (.bool (!ks.isEmpty))
    | _ => False)
  | _ => neD0 x y Q
/-- what a dict holds at a key -/
def keyIs : D → D → Bool
  | .str a, .str b => decide (a = b)
  | .int a, .int b => decide (a = b)
  | _, _ => false
def isKey : D → Bool
  | .str _ => true
  | .int _ => true
  | _ => false
def findD : List (D × D) → D → Option D
  | [], _ => none
  | (k, d) :: r, x => if keyIs k x = true then some d else findD r x
def isND : DO := fun x y Q => match y with
  | .none => Q (.bool (match x with | .none => true | _ => false))
  | _ => False
def notND : DO := fun x y Q => match y with
  | .none => Q (.bool (match x with | .none => false | _ => true))
  | _ => False
/-- a flat tree's == -/
def flatD : D → Bool
  | .none => true
  | .bool _ => true
  | .int _ => true
  | .str _ => true
  | _ => false
def eqF : D → D → Bool
  | .none, .none => true
  | .bool a, .bool b => a == b
  | .bool a, .int b => (if a then 1 else 0) == b
  | .int a, .bool b => a == (if b then 1 else 0)
  | .int a, .int b => a == b
  | .str a, .str b => a == b
  | _, _ => false
def inD (neg : Bool) : DO := fun x y Q => match y with
  | .str b => (match x with
    | .str a => Q (.bool (xor neg (!(Builtin.Str.occurrences b a 0 b.length 1).isEmpty)))
    | _ => False)
  | .tuple ys => flatD x = true ∧ ys.all flatD = true ∧ Q (.bool (xor neg (ys.any fun z => eqF z x)))
  | .list ys => (flatD x = true ∧ ys.all flatD = true ∧ Q (.bool (xor neg (ys.any fun z => eqF z x)))) ∨ (Sh x ∧ Sh (.list ys) ∧ Q (.bool (xor neg (ys.any fun z => PyData.eqv z x))))
  | .dict kvs => isKey x = true ∧ Q (.bool (xor neg (findD kvs x).isSome))
  | _ => False
structure IxP (o : Option D) (Q : D → Prop) : Prop where
  ex : ∃ d, o = some d ∧ Q d
structure IxS (z : Str) (i : Int) (Q : D → Prop) : Prop where
  ln : z.length ≤ sizeLine
  ex : ∃ c, atI z.cps.toList i = some c ∧ Q (.str ⟨#[c]⟩)
def ixD : DO := fun x y Q => match y with
  | .int i => (match x with
    | .list ds => IxP (atI ds i) Q
    | .tuple ds => IxP (atI ds i) Q
    | .str z => IxS z i Q
    | .dict kvs => IxP (findD kvs (.int i)) Q
    | _ => False)
  | .str z => (match x with
    | .dict kvs => IxP (findD kvs (.str z)) Q
    | _ => False)
  | _ => False
theorem keyIs_key (a b : Key) : keyIs (keyD a) (keyD b) = decide (a = b) := by
  cases a <;> cases b <;> simp [keyIs, keyD]
theorem findD_rp {K : PySem.W.Frag} {H : Hp} {x : Key} : ∀ {kvs : List (Key × V)} {ds : List (D × D)}, RpKV K H kvs ds → (findD ds (keyD x) = none ∧ valV kvs x = none) ∨ ∃ d v, findD ds (keyD x) = some d ∧ valV kvs x = some v ∧ Rp K H v d
  | _, _, .nil => .inl ⟨rfl, rfl⟩
  | _, _, .cons (k := k) (v := v) (d := d) (vs := vs) (ds := ds) a b => by
    by_cases h : k = x
    · subst h
      exact .inr ⟨d, v, if_pos (by rw [keyIs_key]; exact decide_eq_true rfl), valV_pos rfl, a⟩
    · have e : findD ((keyD k, d) :: ds) (keyD x) = findD ds (keyD x) := if_neg (by rw [keyIs_key, decide_eq_false h]; exact Bool.false_ne_true)
      rw [e, valV_neg (p := (k, v)) h]
      exact findD_rp b
theorem findD_some {K : PySem.W.Frag} {H : Hp} {x : Key} {kvs : List (Key × V)} {ds : List (D × D)} {d : D} (h : RpKV K H kvs ds) (e : findD ds (keyD x) = some d) : ∃ v, valV kvs x = some v ∧ Rp K H v d := by
  rcases findD_rp (x := x) h with ⟨f1, _⟩ | ⟨d', v, f1, f2, f3⟩
  · rw [f1] at e; cases e
  · rw [f1] at e; cases e; exact ⟨v, f2, f3⟩
theorem findD_is {K : PySem.W.Frag} {H : Hp} {x : Key} {kvs : List (Key × V)} {ds : List (D × D)} (h : RpKV K H kvs ds) : (findD ds (keyD x)).isSome = (valV kvs x).isSome := by
  rcases findD_rp (x := x) h with ⟨f1, f2⟩ | ⟨d', v, f1, f2, f3⟩ <;> rw [f1, f2] <;> rfl
theorem RpKV.len {K : PySem.W.Frag} {H : Hp} : ∀ {kvs : List (Key × V)} {ds : List (D × D)}, RpKV K H kvs ds → kvs.length = ds.length
  | _, _, .nil => rfl
  | _, _, .cons _ b => by rw [List.length_cons, List.length_cons, RpKV.len b]
theorem isKey_of {d : D} (h : isKey d = true) : ∃ k : Key, d = keyD k := by
  cases d <;> first | (cases h; done) | skip
  · exact ⟨.inl _, rfl⟩
  · exact ⟨.inr _, rfl⟩
theorem Rp.key {K : PySem.W.Frag} {H : Hp} {v : V} {k : Key} (h : Rp K H v (keyD k)) : v = kV k := by
  cases k with
  | inl i => cases h; rfl
  | inr i => cases h; rfl
section
variable {C : Cf}
theorem opA_add : OpA C (rAddG C.K) addD := by
  intro H0 S0 Hs σ H s x y dx dy Q Q' r hx hy q k
  cases dx <;> cases dy <;> first | exact q.elim | skip
  case int.int i j => cases hx; cases hy; exact .inl ⟨i, j, rfl, rfl, k Hs H _ (.int (i + j)) Go.refl r (Val.mkP (Rp.int _) rfl) q⟩
  case str.str a b => cases hx; cases hy; exact .inr (.inl ⟨a, b, rfl, rfl, q.1, k Hs H _ (.str (a ++ b)) Go.refl r (Val.mkP (Rp.str _) rfl) q.2⟩)
  case list.list ds es =>
    obtain ⟨a, xs, rfl, h1, h2⟩ := Rd'.list hx
    obtain ⟨b, ys, rfl, h3, h4⟩ := Rd'.list hy
    refine .inr (.inr (.inl ⟨a, b, xs, ys, rfl, rfl, h1, h3, by rw [h2.len, h4.len]; exact q.1, fun p np => ?_⟩))
    exact k Hs _ _ (.list (ds ++ es)) (Go.laid np) (r.laid np) (r.newList np (h2.app h4)) q.2
  case tuple.tuple ds es =>
    cases hx with
    | @tup a xs _ h1 h2 =>
    cases hy with
    | @tup b ys _ h3 h4 =>
    refine .inr (.inr (.inr ⟨a, b, xs, ys, rfl, rfl, Same.sqT r.sub h1, Same.sqT r.sub h3, by rw [h2.len, h4.len]; exact q.1, fun e => ?_, fun _ e => ?_, fun _ _ p np => ?_⟩))
    · subst e
      cases h2
      exact k Hs H _ (.tuple ([] ++ es)) Go.refl r (Val.mkP (Rp.tup h3 h4) rfl) q.2
    · subst e
      cases h4
      exact k Hs H _ (.tuple (ds ++ [])) Go.refl r (Val.mkP (by rw [List.append_nil]; exact Rp.tup h1 h2) rfl) q.2
    · obtain ⟨r', g'⟩ := r.newTup (o := .tup (xs ++ ys)) np
      exact k _ _ _ (.tuple (ds ++ es)) g' r' (Val.mkP (Rp.tup (SqT.of upd_same) (RpAll.mono g'.st (h2.app h4))) rfl) q.2
theorem opA_sub : OpA C (rI0 fun i j => .int (i - j)) subD := by
  intro H0 S0 Hs σ H s x y dx dy Q Q' r hx hy q k
  cases dx <;> cases dy <;> first | exact q.elim | skip
  case int.int i j => cases hx; cases hy; exact ⟨i, j, rfl, rfl, k Hs H _ (.int (i - j)) Go.refl r (Val.mkP (Rp.int _) rfl) q⟩
theorem RpAll.rep {K : PySem.W.Frag} {H : Hp} {xs : List V} {ds : List D} (h : RpAll K H xs ds) : ∀ n : Nat, RpAll K H (List.replicate n xs).flatten (List.replicate n ds).flatten
  | 0 => .nil
  | n + 1 => by rw [List.replicate_succ, List.replicate_succ, List.flatten_cons, List.flatten_cons]; exact h.app (RpAll.rep h n)
theorem opA_mul : OpA C rMulG mulD := by
  intro H0 S0 Hs σ H s x y dx dy Q Q' r hx hy q k
  cases dx <;> cases dy <;> first | exact q.elim | skip
  case int.int i j => cases hx; cases hy; exact .inl ⟨i, j, rfl, rfl, q.1, k Hs H _ (.int (i * j)) Go.refl r (Val.mkP (Rp.int _) rfl) q.2⟩
  case list.int ds n =>
    obtain ⟨a, xs, rfl, h1, h2⟩ := Rd'.list hx
    cases hy
    refine .inr ⟨a, n, xs, rfl, rfl, h1, by have := q.2.1; omega, by have := q.1; omega, by rw [h2.len]; exact q.2.2.1, fun p np => ?_⟩
    exact k Hs _ _ (.list (List.replicate n.toNat ds).flatten) (Go.laid np) (r.laid np) (r.newList np (h2.rep n.toNat)) q.2.2.2
theorem opA_fdiv : OpA C (rI CDivW fun i j => .int (i / j)) fdivD := by
  intro H0 S0 Hs σ H s x y dx dy Q Q' r hx hy q k
  cases dx <;> cases dy <;> first | exact q.elim | skip
  case int.int i j => cases hx; cases hy; exact ⟨i, j, rfl, rfl, q.1, k Hs H _ (.int (i / j)) Go.refl r (Val.mkP (Rp.int _) rfl) q.2⟩
theorem opA_mod : OpA C (rI (fun _ j => 0 < j) fun i j => .int (i % j)) modD := by
  intro H0 S0 Hs σ H s x y dx dy Q Q' r hx hy q k
  cases dx <;> cases dy <;> first | exact q.elim | skip
  case int.int i j => cases hx; cases hy; exact ⟨i, j, rfl, rfl, q.1, k Hs H _ (.int (i % j)) Go.refl r (Val.mkP (Rp.int _) rfl) q.2⟩
theorem opA_pow : OpA C (rI CPow fun i j => .int (i ^ j.toNat)) powD := by
  intro H0 S0 Hs σ H s x y dx dy Q Q' r hx hy q k
  cases dx <;> cases dy <;> first | exact q.elim | skip
  case int.int i j => cases hx; cases hy; exact ⟨i, j, rfl, rfl, q.1, k Hs H _ (.int (i ^ j.toNat)) Go.refl r (Val.mkP (Rp.int _) rfl) q.2⟩
theorem opA_cmp (p : Int → Int → Bool) : OpA C (rI0 fun i j => .bl (p i j)) (cmpD p) := by
  intro H0 S0 Hs σ H s x y dx dy Q Q' r hx hy q k
  cases dx <;> cases dy <;> first | exact q.elim | skip
  case int.int i j => cases hx; cases hy; exact ⟨i, j, rfl, rfl, k Hs H _ (.bool (p i j)) Go.refl r (Val.mkP (Rp.bl _) rfl) q⟩
theorem eqB_some {K : PySem.W.Frag} {Hs H : Hp} {x y : V} {dx dy : D} {b : Bool} (hx : Rd' K Hs H x dx) (hy : Rd' K Hs H y dy) (e : eqB dx dy = some b) : scal x y = true ∧ decide (x = y) = b := by
  cases dx <;> cases dy <;> first | (exfalso; have e' : (none : Option Bool) = some b := e; cases e'; done) | skip
  all_goals (cases hx; cases hy; simp only [eqB, Option.some.injEq] at e; subst e; exact ⟨rfl, by simp⟩)
theorem eqE_rd {K : PySem.W.Frag} {Hs H : Hp} {x y : V} {ks : List (D × D)} (hx : Rd' K Hs H x (.dict ks)) (hy : Rd' K Hs H y (.dict [])) : ∃ a b ls, x = .ref a ∧ y = .ref b ∧ Rd H a (.dK ls) ∧ Rd H b (.dK []) ∧ ls.isEmpty = ks.isEmpty := by
  obtain ⟨a, xs, rfl, h1, h2⟩ := Rd'.dict hx
  obtain ⟨b, ys, rfl, h3, h4⟩ := Rd'.dict hy
  cases h4
  refine ⟨a, b, xs, rfl, rfl, h1, h3, ?_⟩
  cases h2 <;> rfl
theorem opA_eq : OpA C (rEqG C.K) eqD := by
  intro H0 S0 Hs σ H s x y dx dy Q Q' r hx hy q k
  have old : eqD0 dx dy Q → rEqG C.K x y H Q' := ?old
  · unfold eqD at q
    split at q
    · split at q
      · obtain ⟨a, b, ls, rfl, rfl, h1, h2, h3⟩ := eqE_rd hx hy
        exact .inr (.inr ⟨a, b, ls, rfl, rfl, h1, h2, k Hs H _ (.bool _) Go.refl r (Val.mkP (by simpa [h3] using Rp.bl _) rfl) q⟩)
      · exact q.elim
    · exact old q
  intro q
  unfold eqD0 at q
  split at q
  · rename_i b e
    obtain ⟨h1, h2⟩ := eqB_some hx hy e
    exact .inl ⟨h1, by rw [h2]; exact k Hs H _ (.bool b) Go.refl r (Val.mkP (Rp.bl _) rfl) q⟩
  · exact .inr (.inl ⟨dx, dy, hx.dp r.sub q.1, hy.dp r.sub q.2.1, q.1, q.2.1, k Hs H _ (.bool (PyData.eqv dx dy)) Go.refl r (Val.mkP (Rp.bl _) rfl) q.2.2⟩)
theorem opA_ne : OpA C (rNeG C.K) neD := by
  intro H0 S0 Hs σ H s x y dx dy Q Q' r hx hy q k
  have old : neD0 dx dy Q → rNeG C.K x y H Q' := ?old
  · unfold neD at q
    split at q
    · split at q
      · obtain ⟨a, b, ls, rfl, rfl, h1, h2, h3⟩ := eqE_rd hx hy
        exact .inr (.inr ⟨a, b, ls, rfl, rfl, h1, h2, k Hs H _ (.bool _) Go.refl r (Val.mkP (by simpa [h3] using Rp.bl _) rfl) q⟩)
      · exact q.elim
    · exact old q
  intro q
  unfold neD0 at q
  split at q
  · rename_i b e
    obtain ⟨h1, h2⟩ := eqB_some hx hy e
    exact .inl ⟨h1, by rw [h2]; exact k Hs H _ (.bool (!b)) Go.refl r (Val.mkP (Rp.bl _) rfl) q⟩
  · exact .inr (.inl ⟨dx, dy, hx.dp r.sub q.1, hy.dp r.sub q.2.1, q.1, q.2.1, k Hs H _ (.bool (!PyData.eqv dx dy)) Go.refl r (Val.mkP (Rp.bl _) rfl) q.2.2⟩)
def rIsNV : R2 := fun x y H Q => y = .non ∧ Q (.bl (decide (x = .non))) H
def rNotNV : R2 := fun x y H Q => y = .non ∧ Q (.bl (!decide (x = .non))) H
theorem opA_isN : OpA C (fun x y H Q => y = .non ∧ Q (.bl (decide (x = .non))) H) isND := by
  intro H0 S0 Hs σ H s x y dx dy Q Q' r hx hy q k
  cases dy <;> first | exact q.elim | skip
  cases hy
  refine ⟨rfl, ?_⟩
  cases dx with
  | none => cases hx; exact k Hs H _ (.bool true) Go.refl r (Val.mkP (Rp.bl _) rfl) q
  | bool b => cases hx; exact k Hs H _ (.bool false) Go.refl r (by simpa using Val.bl _) q
  | int b => cases hx; exact k Hs H _ (.bool false) Go.refl r (by simpa using Val.bl _) q
  | str b => cases hx; exact k Hs H _ (.bool false) Go.refl r (by simpa using Val.bl _) q
  | list b => obtain ⟨a, xs, rfl, _⟩ := Rd'.list hx; exact k Hs H _ (.bool false) Go.refl r (by simpa using Val.bl _) q
  | tuple b => cases hx; exact k Hs H _ (.bool false) Go.refl r (by simpa using Val.bl _) q
  | dict b => obtain ⟨a, xs, rfl, _⟩ := Rd'.dict hx; exact k Hs H _ (.bool false) Go.refl r (by simpa using Val.bl _) q
theorem opA_notN : OpA C (fun x y H Q => y = .non ∧ Q (.bl (!decide (x = .non))) H) notND := by
  intro H0 S0 Hs σ H s x y dx dy Q Q' r hx hy q k
  cases dy <;> first | exact q.elim | skip
  cases hy
  refine ⟨rfl, ?_⟩
  cases dx with
  | none => cases hx; exact k Hs H _ (.bool false) Go.refl r (Val.mkP (Rp.bl _) rfl) q
  | bool b => cases hx; exact k Hs H _ (.bool true) Go.refl r (by simpa using Val.bl _) q
  | int b => cases hx; exact k Hs H _ (.bool true) Go.refl r (by simpa using Val.bl _) q
  | str b => cases hx; exact k Hs H _ (.bool true) Go.refl r (by simpa using Val.bl _) q
  | list b => obtain ⟨a, xs, rfl, _⟩ := Rd'.list hx; exact k Hs H _ (.bool true) Go.refl r (by simpa using Val.bl _) q
  | tuple b => cases hx; exact k Hs H _ (.bool true) Go.refl r (by simpa using Val.bl _) q
  | dict b => obtain ⟨a, xs, rfl, _⟩ := Rd'.dict hx; exact k Hs H _ (.bool true) Go.refl r (by simpa using Val.bl _) q
theorem flat_rd {K : PySem.W.Frag} {Hs H : Hp} {x : V} {d : D} (h : Rd' K Hs H x d) (f : flatD d = true) : flatV x = true ∧ ∀ {y : V} {e : D}, Rp K Hs y e → flatD e = true → eqV y x = eqF e d := by
  cases d <;> first | (exfalso; have f' : false = true := f; cases f'; done) | skip
  all_goals
    cases h
    refine ⟨rfl, fun {y e} hy fe => ?_⟩
    cases e <;> first | (exfalso; have f' : false = true := fe; cases f'; done) | (cases hy; rfl)
theorem any_rd {K : PySem.W.Frag} {Hs H : Hp} {x : V} {d : D} (h : Rd' K Hs H x d) (f : flatD d = true) : ∀ {xs : List V} {ds : List D}, RpAll K Hs xs ds → ds.all flatD = true → xs.all flatV = true ∧ inV x xs = ds.any fun z => eqF z d
  | _, _, .nil, _ => ⟨rfl, rfl⟩
  | _, _, .cons (v := v) (vs := vs) (d := e) (ds := es) a b, g => by
    rw [List.all_cons, Bool.and_eq_true] at g
    obtain ⟨h1, h2⟩ := any_rd h f b g.2
    have fv : flatV v = true := by
      cases e <;> first | (exfalso; have f' : false = true := g.1; cases f'; done) | (cases a; rfl)
    refine ⟨by rw [List.all_cons, fv, h1]; rfl, ?_⟩
    unfold inV at h2 ⊢
    rw [List.any_cons, List.any_cons, h2, (flat_rd h f).2 a g.1]
theorem opA_inX (neg : Bool) {rr : R2} (h1 : ∀ x y H Q, rIn C.K neg x y H Q → rr x y H Q) (h2 : ∀ x y H Q, rInS neg x y H Q → rr x y H Q)
    (h3 : ∀ x y H (Q : VK), (∃ d ds, Dp C.K H x d ∧ Dp C.K H y (.list ds) ∧ SeqAt.shaped d = true ∧ SeqAt.shaped (.list ds) = true ∧ Q (.bl (xor neg (ds.any fun z => PyData.eqv z d))) H) → rr x y H Q) (h4 : ∀ x y H Q, rInDk neg x y H Q → rr x y H Q) : OpA C rr (inD neg) := by
  intro H0 S0 Hs σ H s x y dx dy Q Q' r hx hy q k
  cases dy <;> first | exact q.elim | skip
  case str b =>
    cases dx <;> first | exact q.elim | skip
    cases hx; cases hy
    exact h2 _ _ _ _ ⟨_, _, rfl, rfl, k Hs H _ (.bool _) Go.refl r (Val.mkP (Rp.bl _) rfl) q⟩
  case tuple ys =>
    obtain ⟨f1, f2, q⟩ := q
    cases hy with
    | @tup a xs _ e1 e2 =>
    obtain ⟨g1, g2⟩ := any_rd hx f1 e2 f2
    refine h1 _ _ _ _ ⟨a, xs, rfl, .inr (Same.sqT r.sub e1), (flat_rd hx f1).1, g1, ?_⟩
    rw [g2]
    refine k Hs H _ (.bool _) Go.refl r ?_ q
    cases neg with
    | true => simpa using Val.bl _
    | false => simpa using Val.bl _
  case list ys =>
    have hy' := hy
    obtain ⟨a, xs, rfl, e1, e2⟩ := Rd'.list hy
    rcases q with ⟨f1, f2, q⟩ | ⟨f1, f2, q⟩
    · obtain ⟨g1, g2⟩ := any_rd hx f1 e2 f2
      refine h1 _ _ _ _ ⟨a, xs, rfl, .inl (SqL.of e1), (flat_rd hx f1).1, g1, ?_⟩
      rw [g2]
      refine k Hs H _ (.bool _) Go.refl r ?_ q
      cases neg with
      | true => simpa using Val.bl _
      | false => simpa using Val.bl _
    · exact h3 _ _ _ _ ⟨dx, ys, hx.dp r.sub f1, hy'.dp r.sub f2, f1, f2, k Hs H _ (.bool _) Go.refl r (Val.mkP (Rp.bl _) rfl) q⟩
  case dict kvs =>
    obtain ⟨hk, q⟩ := q
    obtain ⟨a, ls, rfl, e1, e2⟩ := Rd'.dict hy
    obtain ⟨kk, rfl⟩ := isKey_of hk
    have hx' : Rp C.K Hs x (keyD kk) := by cases kk <;> exact hx
    refine h4 _ _ _ _ ⟨a, ls, kk, rfl, hx'.key, e1, k Hs H _ (.bool _) Go.refl r (Val.mkP ?_ rfl) q⟩
    rw [findD_is e2]
    exact Rp.bl _
theorem opA_in : OpA C (rInG C.K) (inD false) := opA_inX false (fun _ _ _ _ h => .inl h) (fun _ _ _ _ h => .inr (.inr (.inl h))) (fun _ _ _ _ h => by
  obtain ⟨d, ds, a, b, c, e, q⟩ := h
  exact .inr (.inl ⟨d, ds, a, b, c, e, by simpa using q⟩)) (fun _ _ _ _ h => .inr (.inr (.inr h)))
theorem opA_nin : OpA C (rNinG C.K) (inD true) := opA_inX true (fun _ _ _ _ h => .inl h) (fun _ _ _ _ h => .inr (.inr (.inl h))) (fun _ _ _ _ h => by
  obtain ⟨d, ds, a, b, c, e, q⟩ := h
  exact .inr (.inl ⟨d, ds, a, b, c, e, by simpa using q⟩)) (fun _ _ _ _ h => .inr (.inr (.inr h)))
theorem atI_all {K : PySem.W.Frag} {H : Hp} {xs : List V} {ds : List D} {i : Int} {d : D} (h : RpAll K H xs ds) (e : atI ds i = some d) : ∃ v, atI xs i = some v ∧ Rp K H v d := by
  unfold atI at e ⊢
  rw [h.len]
  cases q : ixN ds.length i with
  | none => rw [q] at e; cases e
  | some j =>
    rw [q] at e
    obtain ⟨x, e1, e2⟩ := h.get (i := j) e
    exact ⟨x, e1, e2⟩
theorem opA_ix {ca : Cat} {ta tb : TE} {da db : DT} (ha : Sim C ca ta da) {cb : Cat} (hb : Sim C cb tb db) : Sim C .E (tOp (rIxG C.K) ta tb) (dOp ixD da db) := by
  refine ⟨fun H0 S0 Hs σ H s Q Q' r0 q k => ha.run H0 S0 Hs σ H s _ _ r0 q fun Hs1 H1 x dx s1 g1 r1 v1 q1 => hb.run H0 S0 Hs1 σ H1 s1 _ _ r1 q1 fun Hs2 H2 y dy s2 g2 r2 v2 q2 => ?_⟩
  have rx := (v1.go r1 g2).rd r2.sub
  have ry := v2.rd r2.sub
  cases dy <;> first | exact q2.elim | skip
  all_goals cases ry
  all_goals (cases dx <;> first | exact q2.elim | skip)
  case int.dict i kvs =>
    obtain ⟨a, ls, rfl, e1, e2⟩ := Rd'.dict rx
    obtain ⟨⟨d, e, q2⟩⟩ := (show IxP (findD kvs (keyD (.inl i))) _ from q2)
    obtain ⟨v, e3, e4⟩ := findD_some e2 e
    exact .inr (.inr (.inr ⟨a, ls, .inl i, v, rfl, rfl, e1, e3, k Hs2 H2 v d s2 (g1.trans g2) r2 e4 q2⟩))
  case str.dict i kvs =>
    obtain ⟨a, ls, rfl, e1, e2⟩ := Rd'.dict rx
    obtain ⟨⟨d, e, q2⟩⟩ := (show IxP (findD kvs (keyD (.inr i))) _ from q2)
    obtain ⟨v, e3, e4⟩ := findD_some e2 e
    exact .inr (.inr (.inr ⟨a, ls, .inr i, v, rfl, rfl, e1, e3, k Hs2 H2 v d s2 (g1.trans g2) r2 e4 q2⟩))
  case int.list i ds =>
    obtain ⟨a, xs, rfl, e1, e2⟩ := Rd'.list rx
    obtain ⟨⟨d, e, q2⟩⟩ := (show IxP (atI ds i) _ from q2)
    obtain ⟨v, e3, e4⟩ := atI_all e2 e
    exact .inl ⟨a, xs, i, v, rfl, rfl, SqL.of e1, e3, k Hs2 H2 v d s2 (g1.trans g2) r2 e4 q2⟩
  case int.tuple i ds =>
    cases rx with
    | @tup a xs _ e1 e2 =>
    obtain ⟨⟨d, e, q2⟩⟩ := (show IxP (atI ds i) _ from q2)
    obtain ⟨v, e3, e4⟩ := atI_all e2 e
    exact .inr (.inl ⟨a, xs, i, v, rfl, rfl, Same.sqT r2.sub e1, e3, k Hs2 H2 v d s2 (g1.trans g2) r2 e4 q2⟩)
  case int.str i z =>
    cases rx
    obtain ⟨hz, c, e, q2⟩ := (show IxS z i _ from q2)
    exact .inr (.inr (.inl ⟨z, i, c, rfl, rfl, hz, e, k Hs2 H2 _ (.str ⟨#[c]⟩) s2 (g1.trans g2) r2 (Rp.str _) q2⟩))
theorem opA_ixM (i : Nat) (hi : i ∈ C.M) {tb : TE} {db : DT} {cb : Cat} (hb : Sim C cb tb db) : Sim C .E (tOp (rIxG C.K) (tVar i) tb) (dOpM ixD i db) := by
  refine ⟨fun H0 S0 Hs σ H s Q Q' r0 q k => ?_⟩
  obtain ⟨⟨d, e⟩, q⟩ := q
  obtain ⟨v, e1, _⟩ := r0.rdM hi e
  refine ⟨v, e1, hb.run H0 S0 Hs σ H s _ _ r0 q fun Hs2 H2 y dy s2 g2 r2 v2 q2 => ?_⟩
  split at q2
  · rename_i x ex
    obtain ⟨a, o, e2, e3, e4, e5, _⟩ := r2.mt i x ex hi
    rw [e1] at e2
    cases e2
    have ry := v2.rd r2.sub
    cases dy <;> first | exact q2.elim | skip
    case int j =>
      cases ry
      cases e5 with
      | lst e5 =>
        rename_i xs ds
        obtain ⟨⟨d, e, q2⟩⟩ := (show IxP (atI ds j) _ from q2)
        obtain ⟨v, e6, e7⟩ := atI_all e5 e
        exact .inl ⟨a, xs, j, v, rfl, rfl, SqL.of e3, e6, k Hs2 H2 v d s2 g2 r2 e7 q2⟩
      | dic e5 =>
        rename_i xs ds
        obtain ⟨⟨d, e, q2⟩⟩ := (show IxP (findD ds (keyD (.inl j))) _ from q2)
        obtain ⟨v, e6, e7⟩ := findD_some e5 e
        exact .inr (.inr (.inr ⟨a, xs, .inl j, v, rfl, rfl, .inl e3, e6, k Hs2 H2 v d s2 g2 r2 e7 q2⟩))
    case str j =>
      cases ry
      cases e5 with
      | lst e5 => exact q2.elim
      | dic e5 =>
        rename_i xs ds
        obtain ⟨⟨d, e, q2⟩⟩ := (show IxP (findD ds (keyD (.inr j))) _ from q2)
        obtain ⟨v, e6, e7⟩ := findD_some e5 e
        exact .inr (.inr (.inr ⟨a, xs, .inr j, v, rfl, rfl, .inl e3, e6, k Hs2 H2 v d s2 g2 r2 e7 q2⟩))
  · exact q2.elim
end

/-! ### displays, tests, calls -/
abbrev DA := S → (List D → S → Prop) → Prop
structure SimA (C : Cf) (n : Nat) (ta : TA) (t : DA) : Prop where
  run : ∀ (H0 S0 Hs : Hp) (σ : L2.St) (H : Hp) (s : S) (Q : List D → S → Prop) (Q' : List V → Hp → Prop), R C H0 S0 Hs σ H s → t s Q →
    (∀ Hs' H' vs ds s', Go C σ Hs H Hs' H' → R C H0 S0 Hs' σ H' s' → RpAll C.K Hs' vs ds → ds.length = n → Q ds s' → Q' vs H') → ta σ H Q'
abbrev DB := S → (Bool → S → Prop) → Prop
structure SimT (C : Cf) (tt : TT) (t : DB) : Prop where
  run : ∀ (H0 S0 Hs : Hp) (σ : L2.St) (H : Hp) (s : S) (Q : Bool → S → Prop) (Q' : Bool → Hp → Prop), R C H0 S0 Hs σ H s → t s Q →
    (∀ Hs' H' b s', Go C σ Hs H Hs' H' → R C H0 S0 Hs' σ H' s' → Q b s' → Q' b H') → tt σ H Q'
section
variable {C : Cf} {te ta tb tc : TE} {t da db dc : DT} {ca cb cc : Cat}
def dNil : DA := fun s Q => Q [] s
def dCons (a : DT) (r : DA) : DA := fun s Q => a s fun d s1 => r s1 fun ds s2 => Q (d :: ds) s2
theorem simA_nil : SimA C 0 tNil dNil := ⟨fun H0 S0 Hs σ H s Q Q' r q k => k Hs H [] [] s Go.refl r .nil rfl q⟩
theorem simA_cons {n : Nat} {tr : TA} {dr : DA} (ha : Sim C ca ta da) (hr : SimA C n tr dr) : SimA C (n + 1) (tCons ta tr) (dCons da dr) := by
  refine ⟨fun H0 S0 Hs σ H s Q Q' r q k => ha.toE.run H0 S0 Hs σ H s _ _ r q fun Hs1 H1 x dx s1 g1 r1 v1 q1 => hr.run H0 S0 Hs1 σ H1 s1 _ _ r1 q1 fun Hs2 H2 vs ds s2 g2 r2 v2 l2 q2 => ?_⟩
  exact k Hs2 H2 (x :: vs) (dx :: ds) s2 (g1.trans g2) r2 (.cons (Rp.mono g2.st v1) v2) (by rw [List.length_cons, l2]) q2
theorem small_line {n : Nat} (h : n ≤ 1000) : n ≤ sizeLine := Nat.le_trans h (by decide)
def dTup (a : DA) : DT := fun s Q => a s fun ds s1 => Q (.tuple ds) s1
theorem sim_tup {n : Nat} {t : TA} {a : DA} (hn : n ≤ 1000) (h : SimA C n t a) : Sim C .F (tTup t) (dTup a) := by
  refine ⟨fun H0 S0 Hs σ H s Q Q' r q k => h.run H0 S0 Hs σ H s _ _ r q fun Hs1 H1 vs ds s1 g1 r1 v1 l1 q1 => ⟨by rw [v1.len, l1]; exact small_line hn, fun p np => ?_⟩⟩
  obtain ⟨r', g'⟩ := r1.newTup (o := .tup vs) np
  exact k _ _ _ (.tuple ds) s1 (g1.trans g') r' (Val.mkP (Rp.tup (SqT.of upd_same) (RpAll.mono g'.st v1)) rfl) q1
def dLst (a : DA) : DT := fun s Q => a s fun ds s1 => Q (.list ds) s1
theorem sim_lst {n : Nat} {t : TA} {a : DA} (hn : n ≤ 1000) (h : SimA C n t a) : Sim C .F (tLst t) (dLst a) := by
  refine ⟨fun H0 S0 Hs σ H s Q Q' r q k => h.run H0 S0 Hs σ H s _ _ r q fun Hs1 H1 vs ds s1 g1 r1 v1 l1 q1 => ⟨by rw [v1.len, l1]; exact small_line hn, fun p np => ?_⟩⟩
  exact k Hs1 _ _ (.list ds) s1 (g1.trans (Go.laid np)) (r1.laid np) ((r1.newList np v1).anew fun a e => g1.back a e) q1
/-! tests -/
def dBl (a : DT) : DB := fun s Q => a s fun d s1 => match d with
  | .bool b => Q b s1
  | _ => False
theorem Val.bool {H0 Hst Hs : Hp} {σ : L2.St} {H : Hp} {v : V} {b : Bool} {cat : Cat} (h : Val C H0 Hst Hs σ H cat v (.bool b)) : v = .bl b := by
  cases cat with
  | E => cases (show Rp C.K Hs v (.bool b) from h); rfl
  | F => cases h.p rfl; rfl
theorem simT_B (h : Sim C ca te t) : SimT C (tB te) (dBl t) := by
  refine ⟨fun H0 S0 Hs σ H s Q Q' r q k => h.run H0 S0 Hs σ H s _ _ r q fun Hs1 H1 v d s1 g1 r1 v1 q1 => ?_⟩
  cases d <;> first | exact q1.elim | skip
  rename_i b
  cases v1.bool
  exact ⟨b, rfl, k Hs1 H1 b s1 g1 r1 q1⟩
theorem simT_test (h : Sim C ca te t) : SimT C (tTest te) (dBl t) := by
  refine ⟨fun H0 S0 Hs σ H s Q Q' r q k => h.run H0 S0 Hs σ H s _ _ r q fun Hs1 H1 v d s1 g1 r1 v1 q1 => ?_⟩
  cases d <;> first | exact q1.elim | skip
  rename_i b
  cases v1.bool
  exact ⟨b, rfl, k Hs1 H1 b s1 g1 r1 q1⟩
def dAnd (a b : DB) : DB := fun s Q => a s fun c s1 => if c = true then b s1 Q else Q false s1
def dOr (a b : DB) : DB := fun s Q => a s fun c s1 => if c = true then Q true s1 else b s1 Q
def dNot (a : DB) : DB := fun s Q => a s fun c s1 => Q (!c) s1
theorem simT_and {t u : TT} {a b : DB} (ha : SimT C t a) (hb : SimT C u b) : SimT C (tAnd t u) (dAnd a b) := by
  refine ⟨fun H0 S0 Hs σ H s Q Q' r q k => ha.run H0 S0 Hs σ H s _ _ r q fun Hs1 H1 c s1 g1 r1 q1 => ?_⟩
  cases c with
  | true => exact ifp rfl (hb.run H0 S0 Hs1 σ H1 s1 _ _ r1 (by simpa using q1) fun Hs2 H2 c2 s2 g2 r2 q2 => k Hs2 H2 c2 s2 (g1.trans g2) r2 q2)
  | false => exact ifn Bool.false_ne_true (k Hs1 H1 false s1 g1 r1 (by simpa using q1))
theorem simT_or {t u : TT} {a b : DB} (ha : SimT C t a) (hb : SimT C u b) : SimT C (tOr t u) (dOr a b) := by
  refine ⟨fun H0 S0 Hs σ H s Q Q' r q k => ha.run H0 S0 Hs σ H s _ _ r q fun Hs1 H1 c s1 g1 r1 q1 => ?_⟩
  cases c with
  | false => exact ifn Bool.false_ne_true (hb.run H0 S0 Hs1 σ H1 s1 _ _ r1 (by simpa using q1) fun Hs2 H2 c2 s2 g2 r2 q2 => k Hs2 H2 c2 s2 (g1.trans g2) r2 q2)
  | true => exact ifp rfl (k Hs1 H1 true s1 g1 r1 (by simpa using q1))
theorem simT_not {t : TT} {a : DB} (ha : SimT C t a) : SimT C (tNot t) (dNot a) :=
  ⟨fun H0 S0 Hs σ H s Q Q' r q k => ha.run H0 S0 Hs σ H s _ _ r q fun Hs1 H1 c s1 g1 r1 q1 => k Hs1 H1 (!c) s1 g1 r1 q1⟩
/-- as values -/
def dAndV (a b : DT) : DT := fun s Q => a s fun d s1 => match d with
  | .bool true => b s1 Q
  | .bool false => Q (.bool false) s1
  | _ => False
def dOrV (a b : DT) : DT := fun s Q => a s fun d s1 => match d with
  | .bool true => Q (.bool true) s1
  | .bool false => b s1 Q
  | _ => False
def dNotV (a : DT) : DT := fun s Q => a s fun d s1 => match d with
  | .bool b => Q (.bool (!b)) s1
  | _ => False
theorem sim_andV (ha : Sim C ca ta da) (hb : Sim C cb tb db) : Sim C .E (tAndV ta tb) (dAndV da db) := by
  refine ⟨fun H0 S0 Hs σ H s Q Q' r q k => ha.run H0 S0 Hs σ H s _ _ r q fun Hs1 H1 v d s1 g1 r1 v1 q1 => ?_⟩
  cases d <;> first | exact q1.elim | skip
  rename_i b
  cases v1.bool
  refine ⟨b, rfl, ?_⟩
  cases b with
  | true => exact ifp rfl (hb.toE.run H0 S0 Hs1 σ H1 s1 _ _ r1 q1 fun Hs2 H2 v d s2 g2 r2 v2 q2 => k Hs2 H2 v d s2 (g1.trans g2) r2 v2 q2)
  | false => exact ifn Bool.false_ne_true (k Hs1 H1 _ (.bool false) s1 g1 r1 (Rp.bl _) q1)
theorem sim_orV (ha : Sim C ca ta da) (hb : Sim C cb tb db) : Sim C .E (tOrV ta tb) (dOrV da db) := by
  refine ⟨fun H0 S0 Hs σ H s Q Q' r q k => ha.run H0 S0 Hs σ H s _ _ r q fun Hs1 H1 v d s1 g1 r1 v1 q1 => ?_⟩
  cases d <;> first | exact q1.elim | skip
  rename_i b
  cases v1.bool
  refine ⟨b, rfl, ?_⟩
  cases b with
  | false => exact ifn Bool.false_ne_true (hb.toE.run H0 S0 Hs1 σ H1 s1 _ _ r1 q1 fun Hs2 H2 v d s2 g2 r2 v2 q2 => k Hs2 H2 v d s2 (g1.trans g2) r2 v2 q2)
  | true => exact ifp rfl (k Hs1 H1 _ (.bool true) s1 g1 r1 (Rp.bl _) q1)
theorem sim_notV (ha : Sim C ca ta da) : Sim C .F (tNotV ta) (dNotV da) := by
  refine ⟨fun H0 S0 Hs σ H s Q Q' r q k => ha.run H0 S0 Hs σ H s _ _ r q fun Hs1 H1 v d s1 g1 r1 v1 q1 => ?_⟩
  cases d <;> first | exact q1.elim | skip
  rename_i b
  cases v1.bool
  exact ⟨b, rfl, k Hs1 H1 _ (.bool (!b)) s1 g1 r1 (Val.mkP (Rp.bl _) rfl) q1⟩
def dIf (c : DB) (a b : DT) : DT := fun s Q => c s fun k s1 => if k = true then a s1 Q else b s1 Q
theorem sim_if {tt : TT} {c : DB} {cat : Cat} (hc : SimT C tt c) (ha : Sim C cat ta da) (hb : Sim C cat tb db) : Sim C cat (tIf tt ta tb) (dIf c da db) := by
  refine ⟨fun H0 S0 Hs σ H s Q Q' r q k => hc.run H0 S0 Hs σ H s _ _ r q fun Hs1 H1 c s1 g1 r1 q1 => ?_⟩
  cases c with
  | true => exact ifp rfl (ha.run H0 S0 Hs1 σ H1 s1 _ _ r1 (by simpa using q1) fun Hs2 H2 v d s2 g2 r2 v2 q2 => k Hs2 H2 v d s2 (g1.trans g2) r2 (v2.anew fun a e => g1.back a e) q2)
  | false => exact ifn Bool.false_ne_true (hb.run H0 S0 Hs1 σ H1 s1 _ _ r1 (by simpa using q1) fun Hs2 H2 v d s2 g2 r2 v2 q2 => k Hs2 H2 v d s2 (g1.trans g2) r2 (v2.anew fun a e => g1.back a e) q2)
/-- a < b < c -/
def dChain (f g : DO) (a b c : DT) : DT := fun s Q => a s fun x s1 => b s1 fun y s2 => f x y fun z => match z with
  | .bool true => c s2 fun w s3 => g y w fun z => Q z s3
  | .bool false => Q (.bool false) s2
  | _ => False
theorem sim_chain {r r' : R2} {f g : DO} (hf : OpA C r f) (hg : OpA C r' g) (ha : Sim C ca ta da) (hb : Sim C cb tb db) (hc : Sim C cc tc dc) : Sim C .F (tChain r r' ta tb tc) (dChain f g da db dc) := by
  refine ⟨fun H0 S0 Hs σ H s Q Q' r0 q k => ha.run H0 S0 Hs σ H s _ _ r0 q fun Hs1 H1 x dx s1 g1 r1 v1 q1 => hb.run H0 S0 Hs1 σ H1 s1 _ _ r1 q1 fun Hs2 H2 y dy s2 g2 r2 v2 q2 => ?_⟩
  refine hf H0 S0 Hs2 σ H2 s2 x y dx dy _ _ r2 ((v1.go r1 g2).rd r2.sub) (v2.rd r2.sub) q2 fun Hs3 H3 v d g3 r3 v3 q3 => ?_
  cases d <;> first | exact q3.elim | skip
  rename_i b
  cases v3.bool
  refine ⟨b, rfl, ?_⟩
  have g123 := g1.trans (g2.trans g3)
  cases b with
  | true =>
    refine ifp rfl (hc.run H0 S0 Hs3 σ H3 s2 _ _ r3 q3 fun Hs4 H4 w dw s4 g4 r4 v4 q4 => ?_)
    refine hg H0 S0 Hs4 σ H4 s4 y w dy dw _ _ r4 (((v2.go r2 g3).go r3 g4).rd r4.sub) (v4.rd r4.sub) q4 fun Hs5 H5 v d g5 r5 v5 q5 => ?_
    exact k Hs5 H5 v d s4 (g123.trans (g4.trans g5)) r5 (v5.anew fun a e => (g123.trans g4).back a e) q5
  | false => exact ifn Bool.false_ne_true (k Hs3 H3 _ (.bool false) s2 g123 r3 (Val.mkP (Rp.bl _) rfl) q3)
/-! calls of built-ins -/
abbrev DF := List D → (D → Prop) → Prop
def RdAll (K : PySem.W.Frag) (Hs H : Hp) : List V → List D → Prop
  | [], [] => True
  | v :: vs, d :: ds => Rd' K Hs H v d ∧ RdAll K Hs H vs ds
  | _, _ => False
theorem RpAll.rd {K : PySem.W.Frag} {Hs H : Hp} (sub : Same Hs H) : ∀ {vs : List V} {ds : List D}, RpAll K Hs vs ds → RdAll K Hs H vs ds
  | _, _, .nil => True.intro
  | _, _, .cons a b => ⟨a.rd sub, RpAll.rd sub b⟩
def CaA (C : Cf) (r : List V → Hp → VK → Prop) (f : DF) : Prop := ∀ (H0 S0 Hs : Hp) (σ : L2.St) (H : Hp) (s : S) (vs : List V) (ds : List D) (Q : D → Prop) (Q' : VK), R C H0 S0 Hs σ H s → RdAll C.K Hs H vs ds → f ds Q →
  (∀ Hs' H' v d, Go C σ Hs H Hs' H' → R C H0 S0 Hs' σ H' s → Val C H0 H Hs' σ H' .F v d → Q d → Q' v H') → r vs H Q'
def dCB (f : DF) (a : DA) : DT := fun s Q => a s fun ds s1 => f ds fun z => Q z s1
theorem sim_cb {n : Nat} {r : List V → Hp → VK → Prop} {f : DF} {t : TA} {a : DA} (hf : CaA C r f) (h : SimA C n t a) : Sim C .F (tCB r t) (dCB f a) := by
  refine ⟨fun H0 S0 Hs σ H s Q Q' r0 q k => h.run H0 S0 Hs σ H s _ _ r0 q fun Hs1 H1 vs ds s1 g1 r1 v1 _ q1 => ?_⟩
  exact hf H0 S0 Hs1 σ H1 s1 vs ds _ _ r1 (v1.rd r1.sub) q1 fun Hs2 H2 v d g2 r2 v2 q2 => k Hs2 H2 v d s1 (g1.trans g2) r2 (v2.anew fun a e => g1.back a e) q2
/-- of one list of the def's own -/
def dCBM (f : DF) (i : Nat) : DT := fun s Q => match s.δ[i]? with
  | some (some d) => f [d] fun z => Q z s
  | _ => False
theorem sim_cbM {r : List V → Hp → VK → Prop} {f : DF} (i : Nat) (hi : i ∈ C.M) (hf : CaA C r f) : Sim C .F (tCB r (tCons (tVar i) tNil)) (dCBM f i) := by
  refine ⟨fun H0 S0 Hs σ H s Q Q' r0 q k => ?_⟩
  unfold dCBM at q
  split at q
  · rename_i d e
    obtain ⟨v, e1, rd⟩ := r0.rdM hi e
    exact ⟨v, e1, hf H0 S0 Hs σ H s [v] [d] _ _ r0 ⟨rd, True.intro⟩ q fun Hs2 H2 v d g2 r2 v2 q2 => k Hs2 H2 v d s g2 r2 v2 q2⟩
  · exact q.elim
def lenD : DF := fun ds Q => match ds with
  | [d] => (match d with
    | .list xs => Q (.int xs.length)
    | .tuple xs => Q (.int xs.length)
    | .str x => x.length ≤ sizeLine ∧ Q (.int x.length)
    | .dict kvs => Q (.int kvs.length)
    | _ => False)
  | _ => False
def rLenDk : List V → Hp → VK → Prop := fun xs H Q => ∃ a kvs, xs = [V.ref a] ∧ Rd H a (.dK kvs) ∧ Q (.int kvs.length) H
theorem len_dk {X : Cx} : CallR X (.builtin "len") rLenDk := by
  intro pins s σ H xs us Q I r h
  obtain ⟨a, kvs, rfl, e, q⟩ := h
  obtain ⟨u, rfl, ru⟩ := vals1 r
  cases (show u = Value.ref a from ru)
  exact d_len I e fun t s' I' => ⟨.int kvs.length, H, I', ⟨t, rfl⟩, q⟩
def rLenG (K : PySem.W.Frag) : List V → Hp → VK → Prop := fun xs H Q => rLenQ K xs H Q ∨ (∃ z, xs = [.str z] ∧ z.length ≤ sizeLine ∧ Q (.int z.length) H) ∨ rLenDk xs H Q
theorem CallR.or {X : Cx} {f : Value} {r r' : List V → Hp → VK → Prop} (h : CallR X f r) (h' : CallR X f r') : CallR X f (fun xs H Q => r xs H Q ∨ r' xs H Q) := by
  intro pins s σ H xs us Q I rv q
  rcases q with q | q
  · exact h pins s σ H xs us Q I rv q
  · exact h' pins s σ H xs us Q I rv q
theorem lenG {X : Cx} (K : PySem.W.Frag) (eK : X.K = K) : CallR X (.builtin "len") (rLenG K) := CallR.or (lenQ K eK) (CallR.or call_len_str len_dk)
theorem caA_len : CaA C (rLenG C.K) lenD := by
  intro H0 S0 Hs σ H s vs ds Q Q' r hd q k
  match vs, ds, hd with
  | [v], [d], ⟨h, _⟩ =>
    cases d <;> first | exact q.elim | skip
    case list xs =>
      obtain ⟨a, ys, rfl, e1, e2⟩ := Rd'.list h
      exact .inl ⟨a, ys, rfl, .inl (SqL.of e1), k Hs H _ (.int (xs.length : Nat)) Go.refl r (Val.mkP (by rw [e2.len]; exact Rp.int _) rfl) q⟩
    case tuple xs =>
      cases h with
      | @tup a ys _ e1 e2 => exact .inl ⟨a, ys, rfl, .inr (Same.sqT r.sub e1), k Hs H _ (.int (xs.length : Nat)) Go.refl r (Val.mkP (by rw [e2.len]; exact Rp.int _) rfl) q⟩
    case str x =>
      cases h
      exact .inr (.inl ⟨x, rfl, q.1, k Hs H _ (.int (x.length : Nat)) Go.refl r (Val.mkP (Rp.int _) rfl) q.2⟩)
    case dict kvs =>
      obtain ⟨a, ls, rfl, e1, e2⟩ := Rd'.dict h
      exact .inr (.inr ⟨a, ls, rfl, e1, k Hs H _ (.int (kvs.length : Nat)) Go.refl r (Val.mkP (by rw [e2.len]; exact Rp.int _) rfl) q⟩)
  | [], [], _ => exact q.elim
  | _ :: _ :: _, _ :: _ :: _, _ => exact q.elim
def listD : DF := fun ds Q => match ds with
  | [d] => (match d with
    | .list xs => Q (.list xs)
    | .tuple xs => Q (.list xs)
    | _ => False)
  | _ => False
theorem caA_list : CaA C (rListQ C.K) listD := by
  intro H0 S0 Hs σ H s vs ds Q Q' r hd q k
  match vs, ds, hd with
  | [v], [d], ⟨h, _⟩ =>
    cases d <;> first | exact q.elim | skip
    case list xs =>
      obtain ⟨a, ys, rfl, e1, e2⟩ := Rd'.list h
      exact ⟨a, ys, rfl, .inl (SqL.of e1), fun p np => k Hs _ _ (.list xs) (Go.laid np) (r.laid np) (r.newList np e2) q⟩
    case tuple xs =>
      cases h with
      | @tup a ys _ e1 e2 => exact ⟨a, ys, rfl, .inr (Same.sqT r.sub e1), fun p np => k Hs _ _ (.list xs) (Go.laid np) (r.laid np) (r.newList np e2) q⟩
  | [], [], _ => exact q.elim
  | _ :: _ :: _, _ :: _ :: _, _ => exact q.elim
def tupD : DF := fun ds Q => match ds with
  | [d] => (match d with
    | .list xs => Q (.tuple xs)
    | .tuple xs => Q (.tuple xs)
    | _ => False)
  | _ => False
theorem caA_tup : CaA C (rTupQ C.K) tupD := by
  intro H0 S0 Hs σ H s vs ds Q Q' r hd q k
  match vs, ds, hd with
  | [v], [d], ⟨h, _⟩ =>
    cases d <;> first | exact q.elim | skip
    case list xs =>
      obtain ⟨a, ys, rfl, e1, e2⟩ := Rd'.list h
      refine ⟨a, ys, rfl, .inl ⟨SqL.of e1, fun p np => ?_⟩⟩
      obtain ⟨r', g'⟩ := r.newTup (o := .tup ys) np
      exact k _ _ _ (.tuple xs) g' r' (Val.mkP (Rp.tup (SqT.of upd_same) (RpAll.mono g'.st e2)) rfl) q
    case tuple xs =>
      cases h with
      | @tup a ys _ e1 e2 => exact ⟨a, ys, rfl, .inr ⟨Same.sqT r.sub e1, k Hs H _ (.tuple xs) Go.refl r (Val.mkP (Rp.tup e1 e2) rfl) q⟩⟩
  | [], [], _ => exact q.elim
  | _ :: _ :: _, _ :: _ :: _, _ => exact q.elim
def strD : DF := fun ds Q => match ds with
  | [d] => (match d with
    | .int i => i.natAbs.log2 < 1920 ∧ Q (.str (toString i))
    | _ => False)
  | _ => False
theorem caA_str : CaA C (fun xs H Q => ∃ i, xs = [.int i] ∧ i.natAbs.log2 < 1920 ∧ Q (.str (toString i)) H) strD := by
  intro H0 S0 Hs σ H s vs ds Q Q' r hd q k
  match vs, ds, hd with
  | [v], [d], ⟨h, _⟩ =>
    cases d <;> first | exact q.elim | skip
    cases h
    exact ⟨_, rfl, q.1, k Hs H _ (.str _) Go.refl r (Val.mkP (Rp.str _) rfl) q.2⟩
  | [], [], _ => exact q.elim
  | _ :: _ :: _, _ :: _ :: _, _ => exact q.elim
def intD : DF := fun ds Q => match ds with
  | [d] => (match d with
    | .int i => Q (.int i)
    | .bool b => Q (.int (if b then 1 else 0))
    | _ => False)
  | _ => False
theorem caA_int : CaA C (fun xs H Q => (∃ i, xs = [.int i] ∧ Q (.int i) H) ∨ ∃ k, xs = [.bl k] ∧ Q (.int (if k then 1 else 0)) H) intD := by
  intro H0 S0 Hs σ H s vs ds Q Q' r hd q k
  match vs, ds, hd with
  | [v], [d], ⟨h, _⟩ =>
    cases d <;> first | exact q.elim | skip
    case int i => cases h; exact .inl ⟨i, rfl, k Hs H _ (.int i) Go.refl r (Val.mkP (Rp.int _) rfl) q⟩
    case bool b => cases h; exact .inr ⟨b, rfl, k Hs H _ (.int _) Go.refl r (Val.mkP (Rp.int _) rfl) q⟩
  | [], [], _ => exact q.elim
  | _ :: _ :: _, _ :: _ :: _, _ => exact q.elim
def minD : DF := fun ds Q => match ds with
  | [d, e] => (match d, e with
    | .int i, .int j => Q (.int (if j < i then j else i))
    | _, _ => False)
  | _ => False
def maxD : DF := fun ds Q => match ds with
  | [d, e] => (match d, e with
    | .int i, .int j => Q (.int (if j > i then j else i))
    | _, _ => False)
  | _ => False
theorem caA_min : CaA C (fun xs H Q => ∃ i j, xs = [.int i, .int j] ∧ Q (.int (if j < i then j else i)) H) minD := by
  intro H0 S0 Hs σ H s vs ds Q Q' r hd q k
  match vs, ds, hd with
  | [v, w], [d, e], ⟨h, h', _⟩ =>
    cases d <;> cases e <;> first | exact q.elim | skip
    cases h; cases h'
    exact ⟨_, _, rfl, k Hs H _ (.int _) Go.refl r (Val.mkP (Rp.int _) rfl) q⟩
  | [], [], _ => exact q.elim
  | [_], [_], _ => exact q.elim
  | _ :: _ :: _ :: _, _ :: _ :: _ :: _, _ => exact q.elim
theorem caA_max : CaA C (fun xs H Q => ∃ i j, xs = [.int i, .int j] ∧ Q (.int (if j > i then j else i)) H) maxD := by
  intro H0 S0 Hs σ H s vs ds Q Q' r hd q k
  match vs, ds, hd with
  | [v, w], [d, e], ⟨h, h', _⟩ =>
    cases d <;> cases e <;> first | exact q.elim | skip
    cases h; cases h'
    exact ⟨_, _, rfl, k Hs H _ (.int _) Go.refl r (Val.mkP (Rp.int _) rfl) q⟩
  | [], [], _ => exact q.elim
  | [_], [_], _ => exact q.elim
  | _ :: _ :: _ :: _, _ :: _ :: _ :: _, _ => exact q.elim
/-- lists of ints, of truths -/
def intsOf : List D → Option (List Int)
  | [] => some []
  | .int i :: r => (intsOf r).map (i :: ·)
  | _ :: _ => none
def boolsOf : List D → Option (List Bool)
  | [] => some []
  | .bool i :: r => (boolsOf r).map (i :: ·)
  | _ :: _ => none
theorem ints_rp {K : PySem.W.Frag} {H : Hp} : ∀ {xs : List V} {ds : List D} {ns : List Int}, RpAll K H xs ds → intsOf ds = some ns → xs = ns.map V.int
  | _, _, _, .nil, e => by cases e; rfl
  | _, _, _, .cons (d := d) (ds := ds) a b, e => by
    cases d <;> first | (exfalso; have e' : (none : Option (List Int)) = some _ := e; cases e'; done) | skip
    cases a
    simp only [intsOf, Option.map_eq_some_iff] at e
    obtain ⟨ms, e1, rfl⟩ := e
    rw [ints_rp b e1]
    rfl
theorem bools_rp {K : PySem.W.Frag} {H : Hp} : ∀ {xs : List V} {ds : List D} {ns : List Bool}, RpAll K H xs ds → boolsOf ds = some ns → xs = ns.map V.bl
  | _, _, _, .nil, e => by cases e; rfl
  | _, _, _, .cons (d := d) (ds := ds) a b, e => by
    cases d <;> first | (exfalso; have e' : (none : Option (List Bool)) = some _ := e; cases e'; done) | skip
    cases a
    simp only [boolsOf, Option.map_eq_some_iff] at e
    obtain ⟨ms, e1, rfl⟩ := e
    rw [bools_rp b e1]
    rfl
def sumD : DF := fun ds Q => match ds with
  | [d] => (match d with
    | .list xs => ∃ ns, intsOf xs = some ns ∧ Q (.int ns.sum)
    | _ => False)
  | _ => False
def allD : DF := fun ds Q => match ds with
  | [d] => (match d with
    | .list xs => ∃ ns, boolsOf xs = some ns ∧ Q (.bool (ns.all id))
    | _ => False)
  | _ => False
def anyD : DF := fun ds Q => match ds with
  | [d] => (match d with
    | .list xs => ∃ ns, boolsOf xs = some ns ∧ Q (.bool (ns.any id))
    | _ => False)
  | _ => False
theorem caA_sum : CaA C (rSum C.K) sumD := by
  intro H0 S0 Hs σ H s vs ds Q Q' r hd q k
  match vs, ds, hd with
  | [v], [d], ⟨h, _⟩ =>
    cases d <;> first | exact q.elim | skip
    obtain ⟨a, ys, rfl, e1, e2⟩ := Rd'.list h
    obtain ⟨ns, e3, q⟩ := q
    rw [ints_rp e2 e3] at e1
    exact ⟨a, ns, rfl, SqL.of e1, k Hs H _ (.int _) Go.refl r (Val.mkP (Rp.int _) rfl) q⟩
  | [], [], _ => exact q.elim
  | _ :: _ :: _, _ :: _ :: _, _ => exact q.elim
theorem caA_all : CaA C (rAll C.K) allD := by
  intro H0 S0 Hs σ H s vs ds Q Q' r hd q k
  match vs, ds, hd with
  | [v], [d], ⟨h, _⟩ =>
    cases d <;> first | exact q.elim | skip
    obtain ⟨a, ys, rfl, e1, e2⟩ := Rd'.list h
    obtain ⟨ns, e3, q⟩ := q
    rw [bools_rp e2 e3] at e1
    exact ⟨a, ns, rfl, SqL.of e1, k Hs H _ (.bool _) Go.refl r (Val.mkP (Rp.bl _) rfl) q⟩
  | [], [], _ => exact q.elim
  | _ :: _ :: _, _ :: _ :: _, _ => exact q.elim
theorem caA_any : CaA C (rAny C.K) anyD := by
  intro H0 S0 Hs σ H s vs ds Q Q' r hd q k
  match vs, ds, hd with
  | [v], [d], ⟨h, _⟩ =>
    cases d <;> first | exact q.elim | skip
    obtain ⟨a, ys, rfl, e1, e2⟩ := Rd'.list h
    obtain ⟨ns, e3, q⟩ := q
    rw [bools_rp e2 e3] at e1
    exact ⟨a, ns, rfl, SqL.of e1, k Hs H _ (.bool _) Go.refl r (Val.mkP (Rp.bl _) rfl) q⟩
  | [], [], _ => exact q.elim
  | _ :: _ :: _, _ :: _ :: _, _ => exact q.elim
/-! isinstance -/
theorem tyD_rd {K : PySem.W.Frag} {Hs H : Hp} {x : V} {d : D} (h : Rd' K Hs H x d) (sub : Same Hs H) : TyX K H x (.type (tyD d)) := by
  cases d with
  | list ds => obtain ⟨a, xs, rfl, e, _⟩ := Rd'.list h; exact .base (.lst e)
  | none => cases h; exact .base .non
  | bool b => cases h; exact .base (.bl b)
  | int b => cases h; exact .base (.int b)
  | str b => cases h; exact .base (.str b)
  | tuple b => cases h with | tup q a => exact tyX_tup (Same.sqT sub q)
  | dict b =>
    obtain ⟨a, xs, rfl, e, _⟩ := Rd'.dict h
    rcases e with e | ⟨o, e⟩
    · exact .base (.dK e)
    · exact .fDict e
def dIsi (c : Cl) (a : DT) : DT := fun s Q => a s fun d s1 => Q (.bool (isB c d)) s1
theorem sim_isi (c : Cl) (h : Sim C ca te t) : Sim C .F (tCB (rIsi C.K) (tCons te (tCons (tC (.ty c.name)) tNil))) (dIsi c t) := by
  refine ⟨fun H0 S0 Hs σ H s Q Q' r q k => h.run H0 S0 Hs σ H s _ _ r q fun Hs1 H1 v d s1 g1 r1 v1 q1 => ?_⟩
  exact ⟨v, _, _, _, _, rfl, .ty _, tyD_rd (v1.rd r1.sub) r1.sub, kit_ty (kitB_nn c d), k Hs1 H1 _ (.bool _) s1 g1 r1 (Val.mkP (Rp.bl _) rfl) q1⟩
def dIsiM (c : Cl) (i : Nat) : DT := fun s Q => match s.δ[i]? with
  | some (some d) => Q (.bool (isB c d)) s
  | _ => False
theorem sim_isiM (c : Cl) (i : Nat) (hi : i ∈ C.M) : Sim C .F (tCB (rIsi C.K) (tCons (tVar i) (tCons (tC (.ty c.name)) tNil))) (dIsiM c i) := by
  refine ⟨fun H0 S0 Hs σ H s Q Q' r q k => ?_⟩
  unfold dIsiM at q
  split at q
  · rename_i d e
    obtain ⟨v, e1, rd⟩ := r.rdM hi e
    exact ⟨v, e1, v, _, _, _, _, rfl, .ty _, tyD_rd rd r.sub, kit_ty (kitB_nn c d), k Hs H _ (.bool _) s Go.refl r (Val.mkP (Rp.bl _) rfl) q⟩
  · exact q.elim
def isAny (cs : List Cl) (d : D) : Bool := cs.any fun c => isB c d
theorem kitAny_of {K : PySem.W.Frag} (d : D) : ∀ cs : List Cl, cs ≠ [] → PySem.W.kitAny K (.type (tyD d)) (cs.map fun c => Value.type c.name) = some (isAny cs d)
  | [], h => absurd rfl h
  | [c], _ => by
    refine kitAny_cons (kit_ty (kitB_nn c d)) (fun e => ?_) (fun e => ?_)
    · unfold isAny; rw [List.any_cons, e]; rfl
    · unfold isAny; rw [List.any_cons, e]; rfl
  | c :: c' :: cs, _ => by
    refine kitAny_cons (kit_ty (kitB_nn c d)) (fun e => ?_) (fun e => ?_)
    · unfold isAny; rw [List.any_cons, e, Bool.false_or]; exact kitAny_of d (c' :: cs) (by simp)
    · unfold isAny; rw [List.any_cons, e]; rfl
def dIsiT (cs : List Cl) (a : DT) : DT := fun s Q => a s fun d s1 => Q (.bool (isAny cs d)) s1
theorem clsV_all : ∀ cs : List Cl, Paired ClsV (cs.map fun c => V.ty c.name) (cs.map fun c => Value.type c.name)
  | [] => .nil
  | c :: cs => .cons (.ty _) (clsV_all cs)
theorem sim_isiT2 (c1 c2 : Cl) (h : Sim C ca te t) : Sim C .F (tCB (rIsiT C.K) (tCons te (tCons (tTup (tCons (tC (.ty c1.name)) (tCons (tC (.ty c2.name)) tNil))) tNil))) (dIsiT [c1, c2] t) := by
  refine ⟨fun H0 S0 Hs σ H s Q Q' r q k => h.run H0 S0 Hs σ H s _ _ r q fun Hs1 H1 v d s1 g1 r1 v1 q1 => ?_⟩
  refine ⟨by show 2 ≤ sizeLine; decide, fun p np => ?_⟩
  have r2 := r1.laid (o := .tup [.ty c1.name, .ty c2.name]) np
  have g2 : Go C σ Hs1 H1 Hs1 (upd H1 p (.tup [.ty c1.name, .ty c2.name])) := Go.laid np
  exact ⟨v, p, _, _, _, _, rfl, upd_same, clsV_all [c1, c2], tyD_rd ((v1.go r1 g2).rd r2.sub) r2.sub, kitAny_of d [c1, c2] (by simp), k Hs1 _ _ (.bool _) s1 (g1.trans g2) r2 (Val.mkP (Rp.bl _) rfl) q1⟩
end

/-! ### calls of defs -/
/-- a result: E it lies in the still part; F a list is new and outside of it -/
def RV (K : PySem.W.Frag) (H0 Hs H : Hp) : Cat → V → D → Prop
  | .E, v, d => Rp K Hs v d
  | .F, v, d => if isC d = true then ∃ a o, v = .ref a ∧ H a = some o ∧ Hs a = none ∧ H0 a = none ∧ Cn K Hs o d else Rp K Hs v d
def spN (K : PySem.W.Frag) (n : Nat) (cat : Cat) (F : DF) : Sp := fun vs H Q _ => ∃ Hs ds Q0, Same Hs H ∧ RpAll K Hs vs ds ∧ ds.length = n ∧ F ds Q0 ∧
  ∀ d Hs' H' v, Q0 d → Same Hs Hs' → Same Hs' H' → Same H H' → (∀ b, Hs b = none → Hs' b ≠ none → H b = none) → RV K H Hs' H' cat v d → Q v H'
abbrev DFP := List D → Nat → (D → Nat → Prop) → Prop
def spP (K : PySem.W.Frag) (n : Nat) (cat : Cat) (F : DFP) : Sp := fun vs H Q _ => ∃ Hs p c k vs' ds Q0, vs = .ref p :: vs' ∧ Pen H p c k ∧ Hs p = none ∧ Same Hs H ∧ RpAll K Hs vs' ds ∧ ds.length = n ∧ F ds k Q0 ∧
  ∀ d k' Hs' H' v, Q0 d k' → Same Hs Hs' → Same Hs' H' → But p H H' → (∀ b, Hs b = none → Hs' b ≠ none → H b = none) → Hs' p = none → Pen H' p c k' → RV K H Hs' H' cat v d → Q v H'
section
variable {C : Cf} {σ : L2.St} {H0 S0 Hs H Hs' H' : Hp} {s : S}
theorem none_of_new {b : Addr} {o : HO} (nw : ∀ b, Hs b = none → Hs' b ≠ none → H b = none) (h : Hs b = none) (e : H b = some o) : Hs' b = none := by
  cases q : Hs' b with
  | none => rfl
  | some x =>
    have := nw b h (by rw [q]; exact fun z => nomatch z)
    rw [e] at this; cases this
theorem R.step (r : R C H0 S0 Hs σ H s) (st : Same Hs Hs') (sb : Same Hs' H') (hh : Same H H') (nw : ∀ b, Hs b = none → Hs' b ≠ none → H b = none) : R C H0 S0 Hs' σ H' s ∧ Go C σ Hs H Hs' H' := by
  refine ⟨⟨r.len, sb, fun i d e m => ?_, fun i d e m => ?_, r.dead, r.sep, fun p c e => ?_, r.br, r.s0.trans st, fun b o n e => hh _ _ (r.h0 b o n e), fun b e1 e2 => ?_⟩, st, fun b o e _ _ => hh _ _ e, fun b o e => ⟨o, hh _ _ e⟩, nw⟩
  · obtain ⟨v, e1, e2⟩ := r.slot i d e m
    exact ⟨v, e1, Rp.mono st e2⟩
  · obtain ⟨a, u, e2, e3, e4, e5, e6⟩ := r.mt i d e m
    exact ⟨a, u, e2, hh _ _ e3, none_of_new nw e4 e3, e5.mono st, e6⟩
  · obtain ⟨e1, e2, e3, e4⟩ := r.pn p c e
    obtain ⟨_, _, e5, _⟩ := e2.pen
    exact ⟨e1, e2.same hh, none_of_new nw e3 e5, e4⟩
  · cases q : Hs b with
    | some o => exact r.new b e1 (by rw [q]; exact fun z => nomatch z)
    | none => exact (r.free0 (nw b q e2)).1
theorem R.stepP {p c : Addr} {k : Nat} (r : R C H0 S0 Hs σ H s) (hp : C.pen = some (p, c)) (st : Same Hs Hs') (sb : Same Hs' H') (hh : But p H H') (nw : ∀ b, Hs b = none → Hs' b ≠ none → H b = none) (np : Hs' p = none) (pe : Pen H' p c k) :
    R C H0 S0 Hs' σ H' { s with n := k } ∧ Go C σ Hs H Hs' H' := by
  have ip : ∀ b, ¬ IsPen C b → b ≠ p := fun b h e => h (.inl ⟨c, by rw [e]; exact hp⟩)
  refine ⟨⟨r.len, sb, fun i d e m => ?_, fun i d e m => ?_, r.dead, r.sep, fun p' c' e => ?_, r.br, r.s0.trans st, fun b o n e => hh _ _ (ip b n) (r.h0 b o n e), fun b e1 e2 => ?_⟩, st, fun b o e _ n => hh _ _ (ip b n) e, fun b o e => ?_, nw⟩
  · obtain ⟨v, e1, e2⟩ := r.slot i d e m
    exact ⟨v, e1, Rp.mono st e2⟩
  · obtain ⟨a, u, e2, e3, e4, e5, e6⟩ := r.mt i d e m
    have nap : a ≠ p := fun z => by
      subst z
      rcases e6 with e6 | e6
      · exact (r.pn a c hp).2.2.2.1 e6
      · exact (r.pn a c hp).2.2.2.2.2.2.2.1 e6
    exact ⟨a, u, e2, hh _ _ nap e3, none_of_new nw e4 e3, e5.mono st, e6⟩
  · rw [hp] at e
    cases e
    obtain ⟨e1, e2, e3, e4⟩ := r.pn p c hp
    exact ⟨e1, pe, np, e4⟩
  · cases q : Hs b with
    | some o => exact r.new b e1 (by rw [q]; exact fun z => nomatch z)
    | none => exact (r.free0 (nw b q e2)).1
  · by_cases z : b = p
    · subst z
      obtain ⟨_, _, e5, _⟩ := pe.pen
      exact ⟨_, e5⟩
    · exact ⟨o, hh _ _ z e⟩
theorem RV.val {cat : Cat} {v : V} {d : D} (h : RV C.K H Hs' H' cat v d) (r : R C H0 S0 Hs σ H s) : Val C H0 H Hs' σ H' cat v d := by
  cases cat with
  | E => exact h
  | F =>
    have h : (if isC d = true then ∃ a o, v = .ref a ∧ H' a = some o ∧ Hs' a = none ∧ H a = none ∧ Cn C.K Hs' o d else Rp C.K Hs' v d) := h
    cases e : isC d with
    | true =>
      rw [if_pos e] at h
      obtain ⟨a, o, rfl, e1, e2, e3, e4⟩ := h
      obtain ⟨f1, f2, f3, _⟩ := r.free0 e3
      exact Val.mkC ⟨o, e1, e2, f1, e3, e4, f3⟩
    | false =>
      rw [if_neg (by rw [e]; exact Bool.false_ne_true)] at h
      exact Val.mkP h e
def dCall (F : DF) (a : DA) : DT := fun s Q => a s fun ds s1 => F ds fun d => Q d s1
theorem sim_call {n : Nat} {cat : Cat} {F : DF} {ta : TA} {a : DA} (h : SimA C n ta a) : Sim C cat (tCall (spN C.K n cat F) [] E0 ta) (dCall F a) := by
  refine ⟨fun H0 S0 Hs σ H s Q Q' r q k => h.run H0 S0 Hs σ H s _ _ r q fun Hs1 H1 vs ds s1 g1 r1 v1 l1 q1 => ?_⟩
  rw [List.append_nil]
  refine ⟨Hs1, ds, _, r1.sub, v1, l1, q1, fun d Hs' H' v q2 st sb hh nw rv => ?_⟩
  obtain ⟨r2, g2⟩ := r1.step st sb hh nw
  exact k Hs' H' v d s1 (g1.trans g2) r2 ((rv.val r1).anew fun a e => g1.back a e) q2
def dCallP (F : DFP) (a : DA) : DT := fun s Q => a s fun ds s1 => F ds s1.n fun d k => Q d { s1 with n := k }
theorem sim_callP {n : Nat} {cat : Cat} {F : DFP} {ta : TA} {a : DA} {i : Nat} (hp : C.pen ≠ none) (hi : C.ps = i) (h : SimA C n ta a) : Sim C cat (tCall (spP C.K n cat F) [] E0 (tCons (tVar i) ta)) (dCallP F a) := by
  refine ⟨fun H0 S0 Hs σ H s Q Q' r q k => ?_⟩
  obtain ⟨⟨p, c⟩, ep⟩ : ∃ pc, C.pen = some pc := by
    cases e : C.pen with
    | none => exact absurd e hp
    | some pc => exact ⟨pc, rfl⟩
  subst hi
  refine ⟨.ref p, (r.pn p c ep).1, h.run H0 S0 Hs σ H s _ _ r q fun Hs1 H1 vs ds s1 g1 r1 v1 l1 q1 => ?_⟩
  show spP C.K n cat F ((V.ref p :: vs) ++ []) H1 Q' E0
  rw [List.append_nil]
  obtain ⟨e1, e2, e3, e4⟩ := r1.pn p c ep
  refine ⟨Hs1, p, c, s1.n, vs, ds, _, rfl, e2, e3, r1.sub, v1, l1, q1, fun d k' Hs' H' v q2 st sb hh nw np pe rv => ?_⟩
  obtain ⟨r2, g2⟩ := r1.stepP ep st sb hh nw np pe
  exact k Hs' H' v d _ (g1.trans g2) r2 ((rv.val r1).anew fun a e => g1.back a e) q2
end
/-! ### slices -/
def rSlG (K : PySem.W.Frag) : V → Option Int → Option Int → Hp → VK → Prop := fun x lo hi H Q => rSlL K x lo hi H Q ∨ rSlA K x lo hi H Q ∨ rSlS x lo hi H Q
theorem SlR.or {X : Cx} {r r' : V → Option Int → Option Int → Hp → VK → Prop} (h : SlR X r) (h' : SlR X r') : SlR X (fun x lo hi H Q => r x lo hi H Q ∨ r' x lo hi H Q) := by
  intro pins s σ H x v vl vu lo hi sl Q I rx hs pl pu q
  rcases q with q | q
  · exact h pins s σ H x v vl vu lo hi sl Q I rx hs pl pu q
  · exact h' pins s σ H x v vl vu lo hi sl Q I rx hs pl pu q
theorem slG {X : Cx} (K : PySem.W.Frag) (eK : X.K = K) : SlR X (rSlG K) := by
  subst eK
  exact SlR.or sl_list (SlR.or sl_tupA sl_str)
abbrev DOp := S → (Option Int → S → Prop) → Prop
structure SimO (C : Cf) (t : L2.St → Hp → (Option Int → Hp → Prop) → Prop) (d : DOp) : Prop where
  run : ∀ (H0 S0 Hs : Hp) (σ : L2.St) (H : Hp) (s : S) (Q : Option Int → S → Prop) (Q' : Option Int → Hp → Prop), R C H0 S0 Hs σ H s → d s Q →
    (∀ Hs' H' o s', Go C σ Hs H Hs' H' → R C H0 S0 Hs' σ H' s' → Q o s' → Q' o H') → t σ H Q'
def cutD (xs : List D) (lo hi : Option Int) : List D := (xs.drop (HT.sIx xs.length 0 lo)).take (HT.sIx xs.length xs.length hi - HT.sIx xs.length 0 lo)
def slD (x : D) (lo hi : Option Int) (Q : D → Prop) : Prop := match x with
  | .list ds => Q (.list (cutD ds lo hi))
  | .tuple ds => Q (.tuple (cutD ds lo hi))
  | .str z => z.length ≤ sizeLine ∧ Q (.str (cutS z lo hi))
  | _ => False
section
variable {C : Cf} {te ta tb : TE} {t da db : DT} {ca cb : Cat}
def dNoPart : DOp := fun s Q => Q none s
def dPart (a : DT) : DOp := fun s Q => a s fun d s1 => match d with
  | .int i => Q (some i) s1
  | _ => False
theorem simO_none : SimO C tNoPart dNoPart := ⟨fun H0 S0 Hs σ H s Q Q' r q k => k Hs H none s Go.refl r q⟩
theorem Val.int' {H0 Hst Hs : Hp} {σ : L2.St} {H : Hp} {v : V} {b : Int} {cat : Cat} (h : Val C H0 Hst Hs σ H cat v (.int b)) : v = .int b := by
  cases cat with
  | E => cases (show Rp C.K Hs v (.int b) from h); rfl
  | F => cases h.p rfl; rfl
theorem simO_some (h : Sim C ca te t) : SimO C (tPart te) (dPart t) := by
  refine ⟨fun H0 S0 Hs σ H s Q Q' r q k => h.run H0 S0 Hs σ H s _ _ r q fun Hs1 H1 v d s1 g1 r1 v1 q1 => ?_⟩
  cases d <;> first | exact q1.elim | skip
  rename_i b
  cases v1.int'
  exact ⟨b, rfl, k Hs1 H1 _ s1 g1 r1 q1⟩
theorem RpAll.cut {K : PySem.W.Frag} {H : Hp} {xs : List V} {ds : List D} (h : RpAll K H xs ds) (lo hi : Option Int) : RpAll K H (cutV xs lo hi) (cutD ds lo hi) := by
  unfold cutV cutD
  rw [h.len]
  exact (h.drop _).take _
theorem sl_run {H0 S0 Hs : Hp} {σ : L2.St} {H : Hp} {s : S} {x : V} {dx : D} {lo hi : Option Int} {Q : D → Prop} {Q' : VK} (r : R C H0 S0 Hs σ H s) (hx : Rd' C.K Hs H x dx) (q : slD dx lo hi Q)
    (k : ∀ Hs' H' v d, Go C σ Hs H Hs' H' → R C H0 S0 Hs' σ H' s → Val C H0 H Hs' σ H' .F v d → Q d → Q' v H') : rSlG C.K x lo hi H Q' := by
  cases dx <;> first | exact q.elim | skip
  case list ds =>
    obtain ⟨a, xs, rfl, e1, e2⟩ := Rd'.list hx
    exact .inl ⟨a, xs, rfl, SqL.of e1, fun p np => k Hs _ _ (.list (cutD ds lo hi)) (Go.laid np) (r.laid np) (r.newList np (e2.cut lo hi)) q⟩
  case tuple ds =>
    cases hx with
    | @tup a xs _ e1 e2 =>
    refine .inr (.inl ⟨a, xs, rfl, Same.sqT r.sub e1, fun z => ?_, fun z p np => ?_⟩)
    · refine k Hs H _ (.tuple (cutD ds lo hi)) Go.refl r (Val.mkP ?_ rfl) q
      have : cutD ds lo hi = ds := by
        unfold cutD
        rw [← e2.len, z.1, z.2, List.drop_zero, Nat.sub_zero, e2.len, List.take_length]
      rw [this]
      exact Rp.tup e1 e2
    · obtain ⟨r', g'⟩ := r.newTup (o := .tup (cutV xs lo hi)) np
      exact k _ _ _ (.tuple (cutD ds lo hi)) g' r' (Val.mkP (Rp.tup (SqT.of upd_same) (RpAll.mono g'.st (e2.cut lo hi))) rfl) q
  case str z =>
    cases hx
    exact .inr (.inr ⟨z, rfl, q.1, k Hs H _ (.str (cutS z lo hi)) Go.refl r (Val.mkP (Rp.str _) rfl) q.2⟩)
def dSl (a : DT) (l h : DOp) : DT := fun s Q => a s fun x s1 => l s1 fun lo s2 => h s2 fun hi s3 => slD x lo hi fun z => Q z s3
theorem sim_sl {tl th : L2.St → Hp → (Option Int → Hp → Prop) → Prop} {l h : DOp} (ha : Sim C ca ta da) (hl : SimO C tl l) (hh : SimO C th h) : Sim C .F (tSl (rSlG C.K) ta tl th) (dSl da l h) := by
  refine ⟨fun H0 S0 Hs σ H s Q Q' r q k => ha.run H0 S0 Hs σ H s _ _ r q fun Hs1 H1 x dx s1 g1 r1 v1 q1 => hl.run H0 S0 Hs1 σ H1 s1 _ _ r1 q1 fun Hs2 H2 lo s2 g2 r2 q2 => hh.run H0 S0 Hs2 σ H2 s2 _ _ r2 q2 fun Hs3 H3 hi s3 g3 r3 q3 => ?_⟩
  refine sl_run r3 (((v1.go r1 g2).go r2 g3).rd r3.sub) q3 fun Hs4 H4 v d g4 r4 v4 q4 => ?_
  exact k Hs4 H4 v d s3 (g1.trans (g2.trans (g3.trans g4))) r4 (v4.anew fun a e => (g1.trans (g2.trans g3)).back a e) q4
def dSlM (i : Nat) (l h : DOp) : DT := fun s Q => (∃ d, s.δ[i]? = some (some d)) ∧ l s fun lo s2 => h s2 fun hi s3 => match s3.δ[i]? with
  | some (some x) => slD x lo hi fun z => Q z s3
  | _ => False
theorem sim_slM {tl th : L2.St → Hp → (Option Int → Hp → Prop) → Prop} {l h : DOp} (i : Nat) (hi : i ∈ C.M) (hl : SimO C tl l) (hh : SimO C th h) : Sim C .F (tSl (rSlG C.K) (tVar i) tl th) (dSlM i l h) := by
  refine ⟨fun H0 S0 Hs σ H s Q Q' r q k => ?_⟩
  obtain ⟨⟨d, e⟩, q⟩ := q
  obtain ⟨v, e1, _⟩ := r.rdM hi e
  refine ⟨v, e1, hl.run H0 S0 Hs σ H s _ _ r q fun Hs2 H2 lo s2 g2 r2 q2 => hh.run H0 S0 Hs2 σ H2 s2 _ _ r2 q2 fun Hs3 H3 hi' s3 g3 r3 q3 => ?_⟩
  split at q3
  · rename_i x ex
    obtain ⟨v', e2, rd⟩ := r3.rdM hi ex
    rw [e1] at e2
    cases e2
    refine sl_run r3 rd q3 fun Hs4 H4 v d g4 r4 v4 q4 => ?_
    exact k Hs4 H4 v d s3 (g2.trans (g3.trans g4)) r4 (v4.anew fun a e => (g2.trans g3).back a e) q4
  · exact q3.elim
/-- xs[::-1] -/
def revD (x : D) (Q : D → Prop) : Prop := match x with
  | .list ds => Q (.list ds.reverse)
  | _ => False
def dRev (a : DT) : DT := fun s Q => a s fun x s1 => revD x fun z => Q z s1
theorem sim_rev (ha : Sim C ca ta da) : Sim C .F (tRevL C.K ta) (dRev da) := by
  refine ⟨fun H0 S0 Hs σ H s Q Q' r q k => ha.run H0 S0 Hs σ H s _ _ r q fun Hs1 H1 x dx s1 g1 r1 v1 q1 => ?_⟩
  have rd := v1.rd r1.sub
  cases dx <;> first | exact q1.elim | skip
  rename_i ds
  obtain ⟨a, xs, rfl, e1, e2⟩ := Rd'.list rd
  exact ⟨a, xs, rfl, SqL.of e1, fun p np => k Hs1 _ _ (.list ds.reverse) s1 (g1.trans (Go.laid np)) (r1.laid np) ((r1.newList np e2.rev).anew fun a e => g1.back a e) q1⟩
/-! ### lists of the def's own, changed in place -/
abbrev DM := List D → List D → (D → List D → Prop) → Prop
def MtA (C : Cf) (r : V → List V → Hp → VK → Prop) (f : DM) : Prop := ∀ (Hs H : Hp) (a : Addr) (xs : List V) (ds : List D) (vs : List V) (es : List D) (Q : D → List D → Prop) (Q' : VK), Same Hs H → H a = some (.lst xs) → RpAll C.K Hs xs ds → RpAll C.K Hs vs es → f ds es Q →
  (∀ v d xs' ds', RpAll C.K Hs xs' ds' → Rp C.K Hs v d → Q d ds' → Q' v (upd H a (.lst xs'))) → r (.ref a) vs H Q'
theorem R.upd {H0 S0 Hs : Hp} {σ : L2.St} {H : Hp} {s : S} {i : Nat} {a : Addr} {o' : HO} {d d' : D} (r : R C H0 S0 Hs σ H s) (hi : i ∈ C.M) (e : s.δ[i]? = some (some d)) (ea : σ[i]? = some (some (.ref a))) (h : Cn C.K Hs o' d') :
    R C H0 S0 Hs σ (L2.upd H a o') { s with δ := s.δ.set i (some d') } ∧ Go C σ Hs H Hs (L2.upd H a o') := by
  obtain ⟨a', u, e1, e2, e3, e4, e5⟩ := r.mt i d e hi
  rw [ea] at e1
  cases e1
  have il : i < s.δ.length := (List.getElem?_eq_some_iff.mp e).1
  have own : Own C σ a := ⟨i, hi, ea⟩
  have sm : ∀ b o, b ≠ a → H b = some o → L2.upd H a o' b = some o := fun b o n q => by rw [upd_ne n]; exact q
  refine ⟨⟨by simpa using r.len, fun b o q => ?_, fun j d' q m => ?_, fun j d' q m => ?_, fun j m q => ?_, r.sep, fun p c q => ?_, r.br, r.s0, fun b o n q => ?_, r.new⟩, Same.refl _, fun b o q n _ => ?_, fun b o q => ?_, fun _ h1 h2 => absurd h1 h2⟩
  · exact sm b o (fun z => by subst z; rw [e3] at q; cases q) (r.sub b o q)
  · have hj : j ≠ i := fun z => m (z ▸ hi)
    rw [List.getElem?_set_ne (Ne.symm hj)] at q
    exact r.slot j d' q m
  · by_cases hj : j = i
    · subst hj
      rw [List.getElem?_set_self il] at q
      cases q
      exact ⟨a, o', ea, upd_same, e3, h, e5⟩
    · rw [List.getElem?_set_ne (Ne.symm hj)] at q
      obtain ⟨b, w, f2, f3, f4⟩ := r.mt j d' q m
      refine ⟨b, w, f2, sm b _ (fun z => ?_) f3, f4⟩
      subst z
      exact hj (r.sep j i b m hi f2 ea)
  · by_cases hj : j = i
    · subst hj
      rw [List.getElem?_set_self il] at q
      cases q
    · rw [List.getElem?_set_ne (Ne.symm hj)] at q
      exact r.dead j m q
  · obtain ⟨f1, f2, f3, f4, f5, f6, f7, f8, f9⟩ := r.pn p c q
    refine ⟨f1, f2.but (q := a) (fun b o n q => sm b o n q) (fun z => ?_) (fun z => ?_), f3, f4, f5, ?_, f7, f8, f9⟩
    · subst z
      rcases e5 with e5 | e5
      · exact f4 e5
      · exact f8 e5
    · subst z
      rcases e5 with e5 | e5
      · exact f5 e5
      · exact f9 e5
    · rw [List.getElem?_set_ne (show i ≠ C.ps from fun z => f7 (by rw [← z]; exact hi))]
      exact f6
  · refine sm b o (fun z => ?_) (r.h0 b o n q)
    subst z
    rcases e5 with e5 | e5
    · rw [e5] at q; cases q
    · exact n (.inr e5)
  · exact sm b o (fun z => n (by rw [z]; exact own)) q
  · by_cases z : b = a
    · exact ⟨_, by rw [z]; exact upd_same⟩
    · exact ⟨o, sm b o z q⟩
def dMt (f : DM) (i : Nat) (a : DA) : DT := fun s Q => (∃ d, s.δ[i]? = some (some (.list d))) ∧ a s fun es s1 => match s1.δ[i]? with
  | some (some (.list ds)) => f ds es fun d ds' => Q d { s1 with δ := s1.δ.set i (some (.list ds')) }
  | _ => False
theorem R.mtL {H0 S0 Hs : Hp} {σ : L2.St} {H : Hp} {s : S} {i : Nat} {ds : List D} (r : R C H0 S0 Hs σ H s) (hi : i ∈ C.M) (e : s.δ[i]? = some (some (.list ds))) : ∃ a xs, σ[i]? = some (some (.ref a)) ∧ H a = some (.lst xs) := by
  obtain ⟨a, o, e1, e2, _, c, _⟩ := r.mt i _ e hi
  cases c
  exact ⟨a, _, e1, e2⟩
theorem sim_mt {n : Nat} {r : V → List V → Hp → VK → Prop} {f : DM} {ta : TA} {a : DA} (i : Nat) (hi : i ∈ C.M) (hf : MtA C r f) (ha : SimA C n ta a) : Sim C .E (tBM C.K "list" r (tVar i) ta) (dMt f i a) := by
  refine ⟨fun H0 S0 Hs σ H s Q Q' r0 q k => ?_⟩
  obtain ⟨⟨d, e⟩, q⟩ := q
  obtain ⟨b, xs, e1, e2⟩ := r0.mtL hi e
  refine ⟨_, e1, .inl ⟨rfl, xs, SqL.of e2⟩, ha.run H0 S0 Hs σ H s _ _ r0 q fun Hs1 H1 vs es s1 g1 r1 v1 _ q1 => ?_⟩
  split at q1
  · rename_i ds1 ex
    obtain ⟨b', o1, e4, e5, e6, e7, _⟩ := r1.mt i _ ex hi
    rw [e1] at e4
    cases e4
    cases e7
    rename_i xs1 e7
    refine hf Hs1 H1 b xs1 ds1 vs es _ _ r1.sub e5 e7 v1 q1 fun v d xs' ds' h1 h2 q2 => ?_
    obtain ⟨r2, g2⟩ := r1.upd hi ex e1 (.lst h1)
    exact k Hs1 _ v d _ (g1.trans g2) r2 h2 q2
  · exact q1.elim
theorem sim_mt0 {r : V → List V → Hp → VK → Prop} {f : DM} (i : Nat) (hi : i ∈ C.M) (hf : MtA C r f) : Sim C .E (tBM0 C.K "list" r (tVar i)) (dMt f i dNil) := by
  refine ⟨fun H0 S0 Hs σ H s Q Q' r0 q k => ?_⟩
  obtain ⟨⟨d, e⟩, q⟩ := q
  obtain ⟨b, o, e1, e2, e3, e4, _⟩ := r0.mt i _ e hi
  cases e4
  rename_i xs e4
  refine ⟨_, e1, .inl ⟨rfl, xs, SqL.of e2⟩, ?_⟩
  have q : (match s.δ[i]? with | some (some (.list ds)) => f ds [] fun d ds' => Q d { s with δ := s.δ.set i (some (.list ds')) } | _ => False) := q
  rw [e] at q
  refine hf Hs H b xs d [] [] _ _ r0.sub e2 e4 .nil q fun v d xs' ds' h1 h2 q2 => ?_
  obtain ⟨r2, g2⟩ := r0.upd hi e e1 (.lst h1)
  exact k Hs _ v d _ g2 r2 h2 q2
def appM : DM := fun ds es Q => match es with
  | [e] => ds.length < sizeLine ∧ Q .none (ds ++ [e])
  | _ => False
theorem mtA_app : MtA C rAppend appM := by
  intro Hs H a xs ds vs es Q Q' sub h1 h2 h3 q k
  match vs, es, h3 with
  | [v], [e], .cons h4 .nil => exact ⟨a, xs, v, rfl, rfl, h1, by rw [h2.len]; exact q.1, k _ .none _ _ (h2.app (.cons h4 .nil)) .non q.2⟩
  | [], [], _ => exact q.elim
  | _ :: _ :: _, _ :: _ :: _, _ => exact q.elim
def extM : DM := fun ds es Q => match es with
  | [e] => (match e with
    | .list zs => ds.length + zs.length ≤ sizeLine ∧ Q .none (ds ++ zs)
    | _ => False)
  | _ => False
theorem mtA_ext : MtA C rExtend extM := by
  intro Hs H a xs ds vs es Q Q' sub h1 h2 h3 q k
  match vs, es, h3 with
  | [v], [e], .cons h4 .nil =>
    cases e <;> first | exact q.elim | skip
    cases h4 with
    | @lst b zs _ h5 h6 => exact ⟨a, b, xs, zs, rfl, rfl, h1, sub _ _ h5, by rw [h2.len, h6.len]; exact q.1, k _ .none _ _ (h2.app h6) .non q.2⟩
  | [], [], _ => exact q.elim
  | _ :: _ :: _, _ :: _ :: _, _ => exact q.elim
theorem RpAll.eraseIdx {K : PySem.W.Frag} {H : Hp} : ∀ {xs : List V} {ds : List D} (n : Nat), RpAll K H xs ds → RpAll K H (xs.eraseIdx n) (ds.eraseIdx n)
  | _, _, _, .nil => by simp only [List.eraseIdx_nil]; exact .nil
  | _, _, 0, .cons a b => b
  | _, _, n + 1, .cons a b => .cons a (RpAll.eraseIdx n b)
theorem RpAll.dropLast {K : PySem.W.Frag} {H : Hp} {xs : List V} {ds : List D} (h : RpAll K H xs ds) : RpAll K H xs.dropLast ds.dropLast := by
  rw [List.dropLast_eq_take, List.dropLast_eq_take, h.len]
  exact h.take _
def popM : DM := fun ds es Q => match es with
  | [] => (match ds[ds.length - 1]? with | some d => Q d ds.dropLast | none => False)
  | _ => False
theorem mtA_pop : MtA C rPop popM := by
  intro Hs H a xs ds vs es Q Q' sub h1 h2 h3 q k
  match vs, es, h3 with
  | [], [], .nil =>
    simp only [popM] at q
    split at q
    · rename_i d e
      obtain ⟨x, e1, e2⟩ := h2.get e
      exact ⟨a, xs, x, rfl, rfl, h1, by rw [h2.len]; exact e1, k _ d _ _ h2.dropLast e2 q⟩
    · exact q.elim
  | _ :: _, _ :: _, _ => exact q.elim
def popAtM : DM := fun ds es Q => match es with
  | [e] => (match e with
    | .int i => (0 ≤ i ∧ i < 2 ^ 62) ∧ (match ds[i.toNat]? with | some d => Q d (ds.eraseIdx i.toNat) | none => False)
    | _ => False)
  | _ => False
theorem mtA_popAt : MtA C rPopAt popAtM := by
  intro Hs H a xs ds vs es Q Q' sub h1 h2 h3 q k
  match vs, es, h3 with
  | [v], [e], .cons h4 .nil =>
    cases e <;> first | exact q.elim | skip
    cases h4
    rename_i i
    obtain ⟨h0, q⟩ := q
    split at q
    · rename_i d e
      obtain ⟨x, e1, e2⟩ := h2.get e
      have hl : i.toNat < xs.length := (List.getElem?_eq_some_iff.mp e1).1
      exact ⟨a, xs, i, i.toNat, x, rfl, rfl, h1, by omega, by omega, seqIndex_of h0.1 (by omega), e1, k _ d _ _ (h2.eraseIdx _) e2 q⟩
    · exact q.elim
  | [], [], _ => exact q.elim
  | _ :: _ :: _, _ :: _ :: _, _ => exact q.elim
def clearM : DM := fun _ es Q => match es with
  | [] => Q .none []
  | _ => False
theorem mtA_clear : MtA C rClear clearM := by
  intro Hs H a xs ds vs es Q Q' sub h1 h2 h3 q k
  match vs, es, h3 with
  | [], [], .nil => exact ⟨a, xs, rfl, rfl, h1, k _ .none _ _ .nil .non q⟩
  | _ :: _, _ :: _, _ => exact q.elim
end

/-! ### statements -/
structure DEnds where
  nx : S → Prop
  rt : D → S → Prop
  bk : S → Prop := fun _ => False
  ct : S → Prop := fun _ => False
abbrev DSt := DEnds → S → Prop
structure Tr (C : Cf) (cat : Cat) (H0 S0 : Hp) (E : DEnds) (D' : Ends) : Prop where
  nx : ∀ Hs σ H s, R C H0 S0 Hs σ H s → E.nx s → D'.nx σ H
  rt : ∀ Hs σ H s v d, R C H0 S0 Hs σ H s → RV C.K H0 Hs H cat v d → E.rt d s → D'.rt v H
  bk : ∀ Hs σ H s, R C H0 S0 Hs σ H s → E.bk s → D'.bk σ H
  ct : ∀ Hs σ H s, R C H0 S0 Hs σ H s → E.ct s → D'.ct σ H
structure SimS (C : Cf) (cat : Cat) (ts : TS) (t : DSt) : Prop where
  run : ∀ (H0 S0 Hs : Hp) (σ : L2.St) (H : Hp) (s : S) (E : DEnds) (D' : Ends), R C H0 S0 Hs σ H s → t E s → Tr C cat H0 S0 E D' → ts D' σ H
section
variable {C : Cf} {cat : Cat} {te ta tb : TE} {t da db : DT} {ca cb : Cat} {ts us : TS} {a b : DSt}
def dNext : DSt := fun E s => E.nx s
def dSeq (a b : DSt) : DSt := fun E s => a { E with nx := b E } s
theorem simS_next : SimS C cat tNext dNext := ⟨fun H0 S0 Hs σ H s E D' r q k => k.nx Hs σ H s r q⟩
theorem simS_seq (ha : SimS C cat ts a) (hb : SimS C cat us b) : SimS C cat (tSeq ts us) (dSeq a b) :=
  ⟨fun H0 S0 Hs σ H s E D' r q k => ha.run H0 S0 Hs σ H s _ _ r q ⟨fun Hs σ H s r q => hb.run H0 S0 Hs σ H s E D' r q k, k.rt, k.bk, k.ct⟩⟩
def dBreak : DSt := fun E s => E.bk s
def dCont : DSt := fun E s => E.ct s
theorem simS_break : SimS C cat tBreak dBreak := ⟨fun H0 S0 Hs σ H s E D' r q k => k.bk Hs σ H s r q⟩
theorem simS_cont : SimS C cat tCont dCont := ⟨fun H0 S0 Hs σ H s E D' r q k => k.ct Hs σ H s r q⟩
def dNever : DSt := fun _ _ => False
theorem simS_never : SimS C cat tNever dNever := ⟨fun H0 S0 Hs σ H s E D' r q k => q⟩
/-! stores -/
theorem R.setE {H0 S0 Hs : Hp} {σ : L2.St} {H : Hp} {s : S} {i : Nat} {v : V} {d : D} (r : R C H0 S0 Hs σ H s) (hi : i ∉ C.M) (hp : i ≠ C.ps) (h : Rp C.K Hs v d) : R C H0 S0 Hs (σ.set i (some v)) H { s with δ := s.δ.set i (some d) } := by
  have ne : ∀ j, j ∈ C.M → j ≠ i := fun j m z => hi (z ▸ m)
  refine ⟨by simpa using r.len, r.sub, fun j d' q m => ?_, fun j d' q m => ?_, fun j m q => ?_, fun j l x m1 m2 q1 q2 => ?_, fun p c q => ?_, fun b hb => ?_, r.s0, r.h0, r.new⟩
  · by_cases hj : j = i
    · subst hj
      have il : j < s.δ.length := by
        have := (List.getElem?_eq_some_iff.mp q).1
        simpa using this
      rw [List.getElem?_set_self il] at q
      cases q
      exact ⟨v, List.getElem?_set_self (by rw [r.len]; exact il), h⟩
    · rw [List.getElem?_set_ne (Ne.symm hj)] at q ⊢
      exact r.slot j d' q m
  · rw [List.getElem?_set_ne (Ne.symm (ne j m))] at q ⊢
    exact r.mt j d' q m
  · rw [List.getElem?_set_ne (Ne.symm (ne j m))] at q ⊢
    exact r.dead j m q
  · rw [List.getElem?_set_ne (Ne.symm (ne j m1))] at q1
    rw [List.getElem?_set_ne (Ne.symm (ne l m2))] at q2
    exact r.sep j l x m1 m2 q1 q2
  · obtain ⟨f1, f2, f3, f4, f5, f6, f7⟩ := r.pn p c q
    exact ⟨by rw [List.getElem?_set_ne hp]; exact f1, f2, f3, f4, f5, by rw [List.getElem?_set_ne hp]; exact f6, f7⟩
  · obtain ⟨⟨j, b1, b2, b3⟩, b4⟩ := r.br b hb
    exact ⟨⟨j, b1, b2, by rw [List.getElem?_set_ne (Ne.symm (ne j b2))]; exact b3⟩, b4⟩
theorem R.setM {H0 S0 Hs : Hp} {σ : L2.St} {H : Hp} {s : S} {i : Nat} {x : Addr} {d : D} {Hst : Hp} (r : R C H0 S0 Hs σ H s) (hi : i ∈ C.M) (hb : i ∉ C.bs) (f : Fresh C H0 Hst Hs σ H x d) :
    R C H0 S0 Hs (σ.set i (some (.ref x))) H { s with δ := s.δ.set i (some d) } := by
  obtain ⟨o, h1, h2, h3, _, h4, h5⟩ := f
  refine ⟨by simpa using r.len, r.sub, fun j d' q m => ?_, fun j d' q m => ?_, fun j m q => ?_, fun j l y m1 m2 q1 q2 => ?_, fun p c q => ?_, fun b hb' => ?_, r.s0, r.h0, r.new⟩
  · have hj : j ≠ i := fun z => m (z ▸ hi)
    rw [List.getElem?_set_ne (Ne.symm hj)] at q ⊢
    exact r.slot j d' q m
  · by_cases hj : j = i
    · subst hj
      have il : j < s.δ.length := by
        have := (List.getElem?_eq_some_iff.mp q).1
        simpa using this
      rw [List.getElem?_set_self il] at q
      cases q
      exact ⟨x, o, List.getElem?_set_self (by rw [r.len]; exact il), h1, h2, h4, .inl h3⟩
    · rw [List.getElem?_set_ne (Ne.symm hj)] at q ⊢
      exact r.mt j d' q m
  · by_cases hj : j = i
    · subst hj
      have il : j < s.δ.length := by
        have := (List.getElem?_eq_some_iff.mp q).1
        simpa using this
      rw [List.getElem?_set_self il] at q
      cases q
    · rw [List.getElem?_set_ne (Ne.symm hj)] at q ⊢
      exact r.dead j m q
  · by_cases hj : j = i
    · by_cases hl : l = i
      · rw [hj, hl]
      · subst hj
        have jl : j < σ.length := by
          have := (List.getElem?_eq_some_iff.mp q1).1
          simpa using this
        rw [List.getElem?_set_self jl] at q1
        cases q1
        rw [List.getElem?_set_ne (Ne.symm hl)] at q2
        exact absurd ⟨l, m2, q2⟩ h5
    · by_cases hl : l = i
      · subst hl
        have ll : l < σ.length := by
          have := (List.getElem?_eq_some_iff.mp q2).1
          simpa using this
        rw [List.getElem?_set_self ll] at q2
        cases q2
        rw [List.getElem?_set_ne (Ne.symm hj)] at q1
        exact absurd ⟨j, m1, q1⟩ h5
      · rw [List.getElem?_set_ne (Ne.symm hj)] at q1
        rw [List.getElem?_set_ne (Ne.symm hl)] at q2
        exact r.sep j l y m1 m2 q1 q2
  · obtain ⟨f1, f2, f3, f4, f5, f6, f7⟩ := r.pn p c q
    have hp : i ≠ C.ps := fun z => f7.1 (by rw [← z]; exact hi)
    exact ⟨by rw [List.getElem?_set_ne hp]; exact f1, f2, f3, f4, f5, by rw [List.getElem?_set_ne hp]; exact f6, f7⟩
  · obtain ⟨⟨j, b1, b2, b3⟩, b4⟩ := r.br b hb'
    exact ⟨⟨j, b1, b2, by rw [List.getElem?_set_ne (fun z => hb (by rw [z]; exact b1))]; exact b3⟩, b4⟩
def dSet (i : Nat) (a : DT) : DSt := fun E s => a s fun d s1 => E.nx { s1 with δ := s1.δ.set i (some d) }
theorem simS_set (i : Nat) (hi : i ∉ C.M) (hp : i ≠ C.ps) (h : Sim C ca te t) : SimS C cat (tAsg te (gName i)) (dSet i t) :=
  ⟨fun H0 S0 Hs σ H s E D' r q k => h.toE.run H0 S0 Hs σ H s _ _ r q fun Hs1 H1 v d s1 g1 r1 v1 q1 => k.nx Hs1 _ H1 _ (r1.setE hi hp v1) q1⟩
def dSetM (i : Nat) (a : DT) : DSt := fun E s => a s fun d s1 => isC d = true ∧ E.nx { s1 with δ := s1.δ.set i (some d) }
theorem simS_setM (i : Nat) (hi : i ∈ C.M) (hb : i ∉ C.bs) (h : Sim C .F te t) : SimS C cat (tAsg te (gName i)) (dSetM i t) := by
  refine ⟨fun H0 S0 Hs σ H s E D' r q k => h.run H0 S0 Hs σ H s _ _ r q fun Hs1 H1 v d s1 g1 r1 v1 q1 => ?_⟩
  obtain ⟨x, rfl, f⟩ := v1.c q1.1
  exact k.nx Hs1 _ H1 _ (r1.setM hi hb f) q1.2
def dDrop (a : DT) : DSt := fun E s => a s fun _ s1 => E.nx s1
theorem simS_drop (h : Sim C ca te t) : SimS C cat (tDrop te) (dDrop t) :=
  ⟨fun H0 S0 Hs σ H s E D' r q k => h.run H0 S0 Hs σ H s _ _ r q fun Hs1 H1 v d s1 g1 r1 v1 q1 => k.nx Hs1 _ H1 _ r1 q1⟩
def dRet (a : DT) : DSt := fun E s => a s fun d s1 => E.rt d s1
theorem simS_ret (h : Sim C cat te t) : SimS C cat (tRet te) (dRet t) := by
  refine ⟨fun H0 S0 Hs σ H s E D' r q k => h.run H0 S0 Hs σ H s _ _ r q fun Hs1 H1 v d s1 g1 r1 v1 q1 => k.rt Hs1 σ H1 s1 v d r1 ?_ q1⟩
  cases cat with
  | E => exact v1
  | F =>
    cases e : isC d with
    | true =>
      obtain ⟨x, rfl, o, h1, h2, h3, h4, h5, h6⟩ := v1.c e
      exact ifp e ⟨x, o, rfl, h1, h2, h3, h5⟩
    | false => exact ifn (by rw [e]; exact Bool.false_ne_true) (v1.p e)
/-- return of a list of the def's own -/
def dRetM (i : Nat) : DSt := fun E s => match s.δ[i]? with
  | some (some d) => E.rt d { s with δ := s.δ.set i none }
  | _ => False
theorem R.dropM {H0 S0 Hs : Hp} {σ : L2.St} {H : Hp} {s : S} {i : Nat} (r : R C H0 S0 Hs σ H s) (hi : i ∈ C.M) (hb : i ∉ C.bs) : R C H0 S0 Hs (σ.set i none) H { s with δ := s.δ.set i none } := by
  have ko : ∀ (j : Nat) (v : V), (σ.set i none)[j]? = some (some v) → j ≠ i ∧ σ[j]? = some (some v) := fun j v q => by
    by_cases hj : j = i
    · subst hj
      have jl : j < σ.length := by
        have := (List.getElem?_eq_some_iff.mp q).1
        simpa using this
      rw [List.getElem?_set_self jl] at q
      cases q
    · rw [List.getElem?_set_ne (Ne.symm hj)] at q
      exact ⟨hj, q⟩
  refine ⟨by simpa using r.len, r.sub, fun j d' q m => ?_, fun j d' q m => ?_, fun j m q => ?_, fun j l y m1 m2 q1 q2 => r.sep j l y m1 m2 (ko j _ q1).2 (ko l _ q2).2, fun p c q => ?_, fun b hb' => ?_, r.s0, r.h0, r.new⟩
  · have hj : j ≠ i := fun z => m (z ▸ hi)
    rw [List.getElem?_set_ne (Ne.symm hj)] at q ⊢
    exact r.slot j d' q m
  · by_cases hj : j = i
    · subst hj
      have il : j < s.δ.length := by
        have := (List.getElem?_eq_some_iff.mp q).1
        simpa using this
      rw [List.getElem?_set_self il] at q
      cases q
    · rw [List.getElem?_set_ne (Ne.symm hj)] at q ⊢
      exact r.mt j d' q m
  · by_cases hj : j = i
    · subst hj
      have il : j < s.δ.length := by
        have := (List.getElem?_eq_some_iff.mp q).1
        simpa using this
      exact List.getElem?_set_self (by rw [r.len]; exact il)
    · rw [List.getElem?_set_ne (Ne.symm hj)] at q ⊢
      exact r.dead j m q
  · obtain ⟨f1, f2, f3, f4, f5, f6, f7⟩ := r.pn p c q
    have hp : i ≠ C.ps := fun z => f7.1 (by rw [← z]; exact hi)
    exact ⟨by rw [List.getElem?_set_ne hp]; exact f1, f2, f3, f4, f5, by rw [List.getElem?_set_ne hp]; exact f6, f7⟩
  · obtain ⟨⟨j, b1, b2, b3⟩, b4⟩ := r.br b hb'
    exact ⟨⟨j, b1, b2, by rw [List.getElem?_set_ne (fun z => hb (by rw [z]; exact b1))]; exact b3⟩, b4⟩
theorem simS_retM (i : Nat) (hi : i ∈ C.M) (hb : i ∉ C.bs) : SimS C cat (tRet (tVar i)) (dRetM i) := by
  refine ⟨fun H0 S0 Hs σ H s E D' r q k => ?_⟩
  unfold dRetM at q
  split at q
  · rename_i d e
    obtain ⟨x, o, e1, e2, e3, e4, e5⟩ := r.mt i d e hi
    refine ⟨_, e1, ?_⟩
    have r' := r.dropM hi hb
    have e5 : H0 x = none := by
      rcases e5 with e5 | e5
      · exact e5
      · obtain ⟨⟨j, b1, b2, b3⟩, _⟩ := r.br x e5
        exact absurd (by rw [← r.sep j i x b2 hi b3 e1]; exact b1) hb
    cases cat with
    | F => exact k.rt Hs _ H _ _ d r' (ifp e4.is ⟨x, o, rfl, e2, e3, e5, e4⟩) q
    | E =>
      have no : ¬ Own C (σ.set i none) x := fun ⟨j, m, z⟩ => by
        by_cases hj : j = i
        · subst hj
          have jl : j < σ.length := by
            have := (List.getElem?_eq_some_iff.mp z).1
            simpa using this
          rw [List.getElem?_set_self jl] at z
          cases z
        · rw [List.getElem?_set_ne (Ne.symm hj)] at z
          exact hj (r.sep j i x m hi z e1)
      obtain ⟨Hs', _, r2, rp, _⟩ := r'.freeze (Hst := Hs) ⟨o, e2, e3, e5, e3, e4, no⟩
      exact k.rt Hs' _ H _ _ _ r2 rp q
  · exact q.elim
def dRetN : DSt := fun E s => E.rt .none s
theorem simS_retN : SimS C cat tRetN dRetN := by
  refine ⟨fun H0 S0 Hs σ H s E D' r q k => k.rt Hs σ H s .non .none r ?_ q⟩
  cases cat with
  | E => exact Rp.non
  | F => simp only [RV, isC, if_neg Bool.false_ne_true]; exact Rp.non
def dIfS (c : DB) (a b : DSt) : DSt := fun E s => c s fun k s1 => if k = true then a E s1 else b E s1
theorem simS_if {tt : TT} {c : DB} (hc : SimT C tt c) (ha : SimS C cat ts a) (hb : SimS C cat us b) : SimS C cat (tIfS tt ts us) (dIfS c a b) := by
  refine ⟨fun H0 S0 Hs σ H s E D' r q k => hc.run H0 S0 Hs σ H s _ _ r q fun Hs1 H1 c s1 g1 r1 q1 => ?_⟩
  cases c with
  | true => exact ifp rfl (ha.run H0 S0 Hs1 σ H1 s1 E D' r1 (by simpa using q1) k)
  | false => exact ifn Bool.false_ne_true (hb.run H0 S0 Hs1 σ H1 s1 E D' r1 (by simpa using q1) k)
/-! targets -/
structure SimG (C : Cf) (ts : List Nat) (g : TG) (t : D → S → (S → Prop) → Prop) : Prop where
  run : ∀ (H0 S0 Hs : Hp) (σ : L2.St) (H : Hp) (s : S) (v : V) (d : D) (Q : S → Prop) (Q' : L2.St → Hp → Prop), R C H0 S0 Hs σ H s → Rp C.K Hs v d → t d s Q →
    (∀ σ' s', R C H0 S0 Hs σ' H s' → σ'.length = σ.length → (∀ j, j ∉ ts → σ'[j]? = σ[j]?) → Q s' → Q' σ' H) → g v σ H Q'
structure SimGs (C : Cf) (ts : List Nat) (g : TGs) (t : List D → S → (S → Prop) → Prop) : Prop where
  run : ∀ (H0 S0 Hs : Hp) (σ : L2.St) (H : Hp) (s : S) (vs : List V) (ds : List D) (Q : S → Prop) (Q' : L2.St → Hp → Prop), R C H0 S0 Hs σ H s → RpAll C.K Hs vs ds → t ds s Q →
    (∀ σ' s', R C H0 S0 Hs σ' H s' → σ'.length = σ.length → (∀ j, j ∉ ts → σ'[j]? = σ[j]?) → Q s' → Q' σ' H) → g vs σ H Q'
def sName (i : Nat) : D → S → (S → Prop) → Prop := fun d s Q => Q { s with δ := s.δ.set i (some d) }
theorem simG_name (i : Nat) (hi : i ∉ C.M) (hp : i ≠ C.ps) : SimG C [i] (gName i) (sName i) :=
  ⟨fun H0 S0 Hs σ H s v d Q Q' r h q k => k _ _ (r.setE hi hp h) (by simp) (fun j hj => List.getElem?_set_ne (fun z => hj (by simp [z]))) q⟩
def sNil : List D → S → (S → Prop) → Prop := fun ds s Q => match ds with
  | [] => Q s
  | _ => False
def sCons (a : D → S → (S → Prop) → Prop) (b : List D → S → (S → Prop) → Prop) : List D → S → (S → Prop) → Prop := fun ds s Q => match ds with
  | d :: r => a d s fun s1 => b r s1 Q
  | [] => False
theorem simGs_nil : SimGs C [] gNil sNil := by
  refine ⟨fun H0 S0 Hs σ H s vs ds Q Q' r h q k => ?_⟩
  cases h with
  | nil => exact ⟨rfl, k σ s r rfl (fun _ _ => rfl) q⟩
  | cons _ _ => exact q.elim
theorem simGs_cons {ts us : List Nat} {g : TG} {gs : TGs} {x : D → S → (S → Prop) → Prop} {y : List D → S → (S → Prop) → Prop} (h1 : SimG C ts g x) (h2 : SimGs C us gs y) : SimGs C (ts ++ us) (gCons g gs) (sCons x y) := by
  refine ⟨fun H0 S0 Hs σ H s vs ds Q Q' r h q k => ?_⟩
  cases h with
  | nil => exact q.elim
  | cons a b =>
    refine ⟨_, _, rfl, h1.run H0 S0 Hs σ H s _ _ _ _ r a q fun σ1 s1 r1 l1 e1 q1 => h2.run H0 S0 Hs σ1 H s1 _ _ _ _ r1 b q1 fun σ2 s2 r2 l2 e2 q2 => ?_⟩
    refine k σ2 s2 r2 (l2.trans l1) (fun j hj => ?_) q2
    rw [List.mem_append, not_or] at hj
    rw [e2 j hj.2, e1 j hj.1]
def sTup (n : Nat) (a : List D → S → (S → Prop) → Prop) : D → S → (S → Prop) → Prop := fun d s Q => match d with
  | .tuple ds => ds.length = n ∧ a ds s Q
  | _ => False
theorem simG_tup {ts : List Nat} {n : Nat} {gs : TGs} {x : List D → S → (S → Prop) → Prop} (h : SimGs C ts gs x) : SimG C ts (gTup C.K n gs) (sTup n x) := by
  refine ⟨fun H0 S0 Hs σ H s v d Q Q' r hv q k => ?_⟩
  cases d <;> first | exact q.elim | skip
  cases hv with
  | @tup p xs _ e1 e2 => exact ⟨p, xs, rfl, Same.sqT r.sub e1, by rw [e2.len]; exact q.1, h.run H0 S0 Hs σ H s _ _ _ _ r e2 q.2 k⟩
def dAsgG (a : DT) (g : D → S → (S → Prop) → Prop) : DSt := fun E s => a s fun d s1 => g d s1 E.nx
theorem simS_asg {ts : List Nat} {g : TG} {x : D → S → (S → Prop) → Prop} (h : Sim C ca te t) (hg : SimG C ts g x) : SimS C cat (tAsg te g) (dAsgG t x) :=
  ⟨fun H0 S0 Hs σ H s E D' r q k => h.toE.run H0 S0 Hs σ H s _ _ r q fun Hs1 H1 v d s1 g1 r1 v1 q1 => hg.run H0 S0 Hs1 σ H1 s1 v d _ _ r1 v1 q1 fun σ' s' r2 _ _ q2 => k.nx Hs1 σ' H1 s' r2 q2⟩
/-- a, b = x, y: both names at once -/
def dPar (i j : Nat) (a : DA) : DSt := fun E s => a s fun ds s1 => match ds with
  | [d, e] => E.nx { s1 with δ := (s1.δ.set i (some d)).set j (some e) }
  | _ => False
theorem simS_par {ta : TA} {a : DA} (i j : Nat) (hi : i ∉ C.M) (hj : j ∉ C.M) (pi : i ≠ C.ps) (pj : j ≠ C.ps) (h : SimA C 2 ta a) : SimS C cat (tPar i j ta) (dPar i j a) := by
  refine ⟨fun H0 S0 Hs σ H s E D' r q k => h.run H0 S0 Hs σ H s _ _ r q fun Hs1 H1 vs ds s1 g1 r1 v1 l1 q1 => ?_⟩
  match vs, ds, v1 with
  | [v, w], [d, e], .cons h1 (.cons h2 .nil) => exact ⟨v, w, rfl, k.nx Hs1 _ H1 _ ((r1.setE hi pi h1).setE hj pj h2) q1⟩
  | [], [], _ => exact q1.elim
  | [_], [_], _ => exact q1.elim
  | _ :: _ :: _ :: _, _ :: _ :: _ :: _, _ => exact q1.elim
/-- x op= e -/
def dAug (i : Nat) (f : DO) (a : DT) : DSt := fun E s => match s.δ[i]? with
  | some (some x) => a s fun y s1 => f x y fun z => E.nx { s1 with δ := s1.δ.set i (some z) }
  | _ => False
theorem simS_aug {r : R2} {f : DO} (i : Nat) (hi : i ∉ C.M) (hp : i ≠ C.ps) (ho : OpA C r f) (h : Sim C ca te t) : SimS C cat (tAug i te r) (dAug i f t) := by
  refine ⟨fun H0 S0 Hs σ H s E D' r0 q k => ?_⟩
  unfold dAug at q
  split at q
  · rename_i x e
    obtain ⟨v, e1, rp⟩ := r0.slot i x e hi
    refine ⟨v, e1, h.run H0 S0 Hs σ H s _ _ r0 q fun Hs1 H1 y dy s1 g1 r1 v1 q1 => ?_⟩
    refine ho H0 S0 Hs1 σ H1 s1 v y x dy _ _ r1 ((Rp.mono g1.st rp).rd r1.sub) (v1.rd r1.sub) q1 fun Hs2 H2 z dz g2 r2 v2 q2 => ?_
    cases ez : isC dz with
    | true =>
      obtain ⟨w, rfl, f⟩ := v2.c ez
      obtain ⟨Hs3, s3, r3, rp3, _⟩ := r2.freeze f
      exact k.nx Hs3 _ H2 _ (r3.setE hi hp rp3) q2
    | false => exact k.nx Hs2 _ H2 _ (r2.setE hi hp (v2.p ez)) q2
  · exact q.elim
/-- xs[i] = e, xs of the def's own -/
def dSetAt (i : Nat) (a j : DT) : DSt := fun E s => a s fun d s1 => (∃ z, s1.δ[i]? = some (some (.list z))) ∧ j s1 fun k s2 => match k with
  | .int n => (match s2.δ[i]? with
    | some (some (.list ds)) => (match ixN ds.length n with
      | some m => E.nx { s2 with δ := s2.δ.set i (some (.list (ds.set m d))) }
      | none => False)
    | _ => False)
  | _ => False
theorem simS_setAt (i : Nat) (hi : i ∈ C.M) (h : Sim C ca ta da) (hj : Sim C cb tb db) : SimS C cat (tAsg ta (gSub (tVar i) tb rSetL)) (dSetAt i da db) := by
  refine ⟨fun H0 S0 Hs σ H s E D' r q k => h.toE.run H0 S0 Hs σ H s _ _ r q fun Hs1 H1 v d s1 g1 r1 v1 q1 => ?_⟩
  obtain ⟨⟨z, ez⟩, q1⟩ := q1
  obtain ⟨x, xs, e1, _⟩ := r1.mtL hi ez
  refine ⟨_, e1, hj.run H0 S0 Hs1 σ H1 s1 _ _ r1 q1 fun Hs2 H2 w dk s2 g2 r2 v2 q2 => ?_⟩
  cases dk <;> first | exact q2.elim | skip
  rename_i n
  cases v2.int'
  have q2 : (match s2.δ[i]? with | some (some (.list ds)) => (match ixN ds.length n with | some m => E.nx { s2 with δ := s2.δ.set i (some (.list (ds.set m d))) } | none => False) | _ => False) := q2
  split at q2
  · rename_i ds2 e2
    split at q2
    · rename_i m em
      obtain ⟨x', o2, e4, e5, e6, e7, e8⟩ := r2.mt i _ e2 hi
      rw [e1] at e4
      cases e4
      cases e7
      rename_i xs2 e7
      obtain ⟨r3, _⟩ := r2.upd hi e2 e1 (.lst (e7.set m (Rp.mono g2.st v1)))
      exact ⟨x, xs2, n, m, rfl, rfl, e5, by rw [e7.len]; exact em, k.nx Hs2 _ _ _ r3 q2⟩
    · exact q2.elim
  · exact q2.elim
end

/-! ### what is walked -/
/-- J goes through the trees items, wherever Hs1 stays -/
def ItOk (C : Cf) (Hs1 : Hp) (J : It) (items : List D) : Prop := ∃ (G : Hp → Prop) (Y : Nat → Hp → V → Hp → Prop), Walk J items.length G Y ∧ (∀ H, Same Hs1 H → G H) ∧
  ∀ (i : Nat) (H : Hp) (x : V) (H2 : Hp) (H0 S0 Hs : Hp) (σ : L2.St) (s : S), i < items.length → R C H0 S0 Hs σ H s → Same Hs1 Hs → Y i H x H2 →
    ∃ Hs2 d, items[i]? = some d ∧ R C H0 S0 Hs2 σ H2 s ∧ Rp C.K Hs2 x d ∧ Go C σ Hs H Hs2 H2
abbrev DI := S → (List D → S → Prop) → Prop
structure SimI (C : Cf) (wi : TI) (t : DI) : Prop where
  run : ∀ (H0 S0 Hs : Hp) (σ : L2.St) (H : Hp) (s : S) (Q : List D → S → Prop) (Q' : It → Hp → Prop), R C H0 S0 Hs σ H s → t s Q →
    (∀ Hs' H' J items s', Go C σ Hs H Hs' H' → R C H0 S0 Hs' σ H' s' → ItOk C Hs' J items → Q items s' → Q' J H') → wi σ H Q'
section
variable {C : Cf} {cat : Cat} {te ta tb : TE} {t da db : DT} {ca cb : Cat} {ts us : TS} {a b : DSt}
theorem itOk_list {Hs1 : Hp} {x : Addr} {xs : List V} {ds : List D} (h : Hs1 x = some (.lst xs)) (hd : RpAll C.K Hs1 xs ds) : ItOk C Hs1 (Itl C.K x) ds := by
  refine ⟨_, _, by rw [← hd.len]; exact walk_list (xs := xs), fun H e => SqL.of (e _ _ h), fun i H v H2 H0 S0 Hs σ s hi r e y => ?_⟩
  obtain ⟨rfl, y⟩ := y
  obtain ⟨d, e1, e2⟩ := hd.getV y
  exact ⟨Hs, d, e1, r, Rp.mono e e2, Go.refl⟩
theorem itOk_tup {Hs1 : Hp} {x : Addr} {xs : List V} {ds : List D} (h : SqT C.K Hs1 x xs) (hd : RpAll C.K Hs1 xs ds) : ItOk C Hs1 (Itt C.K x) ds := by
  refine ⟨_, _, by rw [← hd.len]; exact walk_tup (xs := xs), fun H e => Same.sqT e h, fun i H v H2 H0 S0 Hs σ s hi r e y => ?_⟩
  obtain ⟨rfl, y⟩ := y
  obtain ⟨d, e1, e2⟩ := hd.getV y
  exact ⟨Hs, d, e1, r, Rp.mono e e2, Go.refl⟩
/-- a list -/
theorem simI_list (h : Sim C ca te t) : SimI C (iList C.K te) (fun s Q => t s fun d s1 => match d with | .list ds => Q ds s1 | _ => False) := by
  refine ⟨fun H0 S0 Hs σ H s Q Q' r q k => h.toE.run H0 S0 Hs σ H s _ _ r q fun Hs1 H1 v d s1 g1 r1 v1 q1 => ?_⟩
  cases d <;> first | exact q1.elim | skip
  cases v1 with
  | @lst x xs _ e1 e2 => exact ⟨x, rfl, ⟨xs, SqL.of (r1.sub _ _ e1)⟩, k Hs1 H1 _ _ s1 g1 r1 (itOk_list e1 e2) q1⟩
theorem simI_tup (h : Sim C ca te t) : SimI C (iTup C.K te) (fun s Q => t s fun d s1 => match d with | .tuple ds => Q ds s1 | _ => False) := by
  refine ⟨fun H0 S0 Hs σ H s Q Q' r q k => h.toE.run H0 S0 Hs σ H s _ _ r q fun Hs1 H1 v d s1 g1 r1 v1 q1 => ?_⟩
  cases d <;> first | exact q1.elim | skip
  cases v1 with
  | @tup x xs _ e1 e2 => exact ⟨x, rfl, ⟨xs, Same.sqT r1.sub e1⟩, k Hs1 H1 _ _ s1 g1 r1 (itOk_tup e1 e2) q1⟩
/-- range -/
def rgD (lo : Int) (n : Nat) : List D := (List.range n).map fun i => .int (lo + (i : Nat))
theorem itOk_range {Hs1 : Hp} (lo : Int) (n : Nat) : ItOk C Hs1 (Itr lo n) (rgD lo n) := by
  have hl : (rgD lo n).length = n := by unfold rgD; rw [List.length_map, List.length_range]
  refine ⟨_, _, by rw [hl]; exact walk_range, fun H e => True.intro, fun i H v H2 H0 S0 Hs σ s hi r e y => ?_⟩
  obtain ⟨rfl, rfl⟩ := y
  refine ⟨Hs, .int (lo + (i : Nat)), ?_, r, Rp.int _, Go.refl⟩
  unfold rgD
  rw [hl] at hi
  rw [List.getElem?_map, List.getElem?_range hi]
  rfl
def dRange1 (a : DT) : DI := fun s Q => a s fun d s1 => match d with
  | .int j => (-(2 ^ 62) ≤ j ∧ j < 2 ^ 62) ∧ Q (rgD 0 j.toNat) s1
  | _ => False
theorem simI_range1 (h : Sim C ca te t) : SimI C (iRng1 (tCons te tNil)) (dRange1 t) := by
  refine ⟨fun H0 S0 Hs σ H s Q Q' r q k => h.run H0 S0 Hs σ H s _ _ r q fun Hs1 H1 v d s1 g1 r1 v1 q1 => ?_⟩
  cases d <;> first | exact q1.elim | skip
  rename_i j
  cases v1.int'
  exact ⟨j, rfl, q1.1.1, q1.1.2, k Hs1 H1 _ _ s1 g1 r1 (itOk_range 0 j.toNat) q1.2⟩
def dRange2 (a b : DT) : DI := fun s Q => a s fun d s1 => b s1 fun e s2 => match d, e with
  | .int i, .int j => (-(2 ^ 62) ≤ i ∧ i < 2 ^ 62 ∧ -(2 ^ 62) ≤ j ∧ j < 2 ^ 62) ∧ Q (rgD i (j - i).toNat) s2
  | _, _ => False
theorem simI_range2 (ha : Sim C ca ta da) (hb : Sim C cb tb db) : SimI C (iRng2 (tCons ta (tCons tb tNil))) (dRange2 da db) := by
  refine ⟨fun H0 S0 Hs σ H s Q Q' r q k => ha.run H0 S0 Hs σ H s _ _ r q fun Hs1 H1 v d s1 g1 r1 v1 q1 => hb.run H0 S0 Hs1 σ H1 s1 _ _ r1 q1 fun Hs2 H2 w e s2 g2 r2 v2 q2 => ?_⟩
  cases d <;> cases e <;> first | exact q2.elim | skip
  rename_i i j
  cases v1.int'
  cases v2.int'
  exact ⟨i, j, rfl, q2.1, k Hs2 H2 _ _ s2 (g1.trans g2) r2 (itOk_range i (j - i).toNat) q2.2⟩
/-- pairs: enumerate, zip -/
def prD (xs ys : List D) : List D := (xs.zip ys).map fun p => .tuple [p.1, p.2]
theorem pair_it {H0 S0 Hs : Hp} {σ : L2.St} {H : Hp} {s : S} {T : Addr} {x y : V} {dx dy : D} (r : R C H0 S0 Hs σ H s) (n : H T = none) (hx : Rp C.K Hs x dx) (hy : Rp C.K Hs y dy) :
    ∃ Hs2, R C H0 S0 Hs2 σ (L2.upd H T (.tup [x, y])) s ∧ Rp C.K Hs2 (.ref T) (.tuple [dx, dy]) ∧ Go C σ Hs H Hs2 (L2.upd H T (.tup [x, y])) := by
  obtain ⟨r', g'⟩ := r.newTup (o := .tup [x, y]) n
  exact ⟨_, r', Rp.tup (SqT.of upd_same) (.cons (Rp.mono g'.st hx) (.cons (Rp.mono g'.st hy) .nil)), g'⟩
def dEnum (a : DT) : DI := fun s Q => a s fun d s1 => match d with
  | .list ds => Q (prD (rgD 0 ds.length) ds) s1
  | _ => False
theorem enum_len (ds : List D) : (prD (rgD 0 ds.length) ds).length = ds.length := by
  unfold prD rgD
  rw [List.length_map, List.length_zip, List.length_map, List.length_range, Nat.min_self]
theorem enum_get {ds : List D} {i : Nat} {d : D} (h : ds[i]? = some d) : (prD (rgD 0 ds.length) ds)[i]? = some (.tuple [.int (i : Nat), d]) := by
  have hi : i < ds.length := (List.getElem?_eq_some_iff.mp h).1
  have h1 : (rgD 0 ds.length)[i]? = some (.int (0 + (i : Nat))) := by
    unfold rgD
    rw [List.getElem?_map, List.getElem?_range hi]
    rfl
  have h2 : ((rgD 0 ds.length).zip ds)[i]? = some (.int (0 + (i : Nat)), d) := List.getElem?_zip_eq_some.mpr ⟨h1, h⟩
  unfold prD
  rw [List.getElem?_map, h2]
  simp
theorem itOk_enum {Hs1 : Hp} {x : Addr} {xs : List V} {ds : List D} (h : Hs1 x = some (.lst xs)) (hd : RpAll C.K Hs1 xs ds) : ItOk C Hs1 (Ite C.K x) (prD (rgD 0 ds.length) ds) := by
  refine ⟨_, _, by rw [enum_len, ← hd.len]; exact walk_enum (xs := xs), fun H e => SqL.of (e _ _ h), fun i H v H2 H0 S0 Hs σ s hi r e y => ?_⟩
  obtain ⟨T, x1, x2, rfl, nT, rfl, e1, e2⟩ := y
  cases e1
  obtain ⟨d, e3, e4⟩ := hd.getV e2
  obtain ⟨Hs2, r2, rp, g⟩ := pair_it r nT (Rp.int ((i : Nat) : Int)) (Rp.mono e e4)
  exact ⟨Hs2, _, enum_get e3, r2, rp, g⟩
theorem simI_enum (h : Sim C ca te t) : SimI C (iEnum C.K (tCons te tNil)) (dEnum t) := by
  refine ⟨fun H0 S0 Hs σ H s Q Q' r q k => h.toE.run H0 S0 Hs σ H s _ _ r q fun Hs1 H1 v d s1 g1 r1 v1 q1 => ?_⟩
  cases d <;> first | exact q1.elim | skip
  cases v1 with
  | @lst x xs _ e1 e2 => exact ⟨x, xs, rfl, SqL.of (r1.sub _ _ e1), k Hs1 H1 _ _ s1 g1 r1 (itOk_enum e1 e2) q1⟩
def dZip (a b : DT) : DI := fun s Q => a s fun d s1 => b s1 fun e s2 => match d, e with
  | .list ds, .list es => Q (prD ds es) s2
  | .tuple ds, .tuple es => Q (prD ds es) s2
  | _, _ => False
theorem zip_len (ds es : List D) : (prD ds es).length = min ds.length es.length := by
  unfold prD
  rw [List.length_map, List.length_zip]
theorem zip_get {ds es : List D} {i : Nat} {d e : D} (h : ds[i]? = some d) (h' : es[i]? = some e) : (prD ds es)[i]? = some (.tuple [d, e]) := by
  have h2 : (ds.zip es)[i]? = some (d, e) := List.getElem?_zip_eq_some.mpr ⟨h, h'⟩
  unfold prD
  rw [List.getElem?_map, h2]
  rfl
theorem simI_zip (ha : Sim C ca ta da) (hb : Sim C cb tb db) : SimI C (iZipA C.K (tCons ta (tCons tb tNil))) (dZip da db) := by
  refine ⟨fun H0 S0 Hs σ H s Q Q' r q k => ha.toE.run H0 S0 Hs σ H s _ _ r q fun Hs1 H1 v d s1 g1 r1 v1 q1 => hb.toE.run H0 S0 Hs1 σ H1 s1 _ _ r1 q1 fun Hs2 H2 w e s2 g2 r2 v2 q2 => ?_⟩
  cases d <;> cases e <;> first | exact q2.elim | skip
  case list.list ds es =>
    cases v1 with
    | @lst x xs _ e1 e2 =>
    cases v2 with
    | @lst y ys _ e3 e4 =>
    have e1' := g2.st _ _ e1
    have e2' := RpAll.mono g2.st e2
    refine ⟨x, y, xs, ys, rfl, .inl ⟨SqL.of (r2.sub _ _ e1'), SqL.of (r2.sub _ _ e3), k Hs2 H2 _ _ s2 (g1.trans g2) r2 ?_ q2⟩⟩
    refine ⟨_, _, walk_zip (K := C.K) (a := x) (b := y) (xs := xs) (ys := ys) (by rw [zip_len, e2.len, e4.len]), fun H e => ⟨SqL.of (e _ _ e1'), SqL.of (e _ _ e3)⟩, fun i H v H2 H0 S0 Hs σ s hi r e y => ?_⟩
    obtain ⟨T, x1, x2, rfl, nT, rfl, f1, f2⟩ := y
    obtain ⟨d, f3, f4⟩ := e2'.getV f1
    obtain ⟨d', f5, f6⟩ := e4.getV f2
    obtain ⟨Hs2, r2, rp, g⟩ := pair_it r nT (Rp.mono e f4) (Rp.mono e f6)
    exact ⟨Hs2, _, zip_get f3 f5, r2, rp, g⟩
  case tuple.tuple ds es =>
    cases v1 with
    | @tup x xs _ e1 e2 =>
    cases v2 with
    | @tup y ys _ e3 e4 =>
    have e1' := Same.sqT g2.st e1
    have e2' := RpAll.mono g2.st e2
    refine ⟨x, y, xs, ys, rfl, .inr ⟨Same.sqT r2.sub e1', Same.sqT r2.sub e3, k Hs2 H2 _ _ s2 (g1.trans g2) r2 ?_ q2⟩⟩
    refine ⟨_, _, walk_zipT (K := C.K) (a := x) (b := y) (xs := xs) (ys := ys) (by rw [zip_len, e2.len, e4.len]), fun H e => ⟨Same.sqT e e1', Same.sqT e e3⟩, fun i H v H2 H0 S0 Hs σ s hi r e y => ?_⟩
    obtain ⟨T, x1, x2, rfl, nT, rfl, f1, f2⟩ := y
    obtain ⟨d, f3, f4⟩ := e2'.getV f1
    obtain ⟨d', f5, f6⟩ := e4.getV f2
    obtain ⟨Hs2, r2, rp, g⟩ := pair_it r nT (Rp.mono e f4) (Rp.mono e f6)
    exact ⟨Hs2, _, zip_get f3 f5, r2, rp, g⟩
/-- a text, sign by sign -/
def signs (z : Str) : List D := z.cps.toList.map fun c => .str ⟨#[c]⟩
def dStr (a : DT) : DI := fun s Q => a s fun d s1 => match d with
  | .str z => Q (signs z) s1
  | _ => False
theorem simI_str (h : Sim C ca te t) : SimI C (iStr te) (dStr t) := by
  refine ⟨fun H0 S0 Hs σ H s Q Q' r q k => h.toE.run H0 S0 Hs σ H s _ _ r q fun Hs1 H1 v d s1 g1 r1 v1 q1 => ?_⟩
  cases d <;> first | exact q1.elim | skip
  rename_i z
  cases v1
  refine ⟨z, rfl, k Hs1 H1 _ _ s1 g1 r1 ?_ q1⟩
  have hl : (signs z).length = z.cps.size := by unfold signs; rw [List.length_map, Array.length_toList]
  refine ⟨_, _, by rw [hl]; exact walk_str, fun H e => True.intro, fun i H v H2 H0 S0 Hs σ s hi r e y => ?_⟩
  obtain ⟨rfl, c, e1, rfl⟩ := y
  refine ⟨Hs, .str ⟨#[c]⟩, ?_, r, Rp.str _, Go.refl⟩
  unfold signs
  rw [List.getElem?_map, Array.getElem?_toList, e1]
  rfl
/-! ### for, while -/
theorem R.base {H0 S0 Hs : Hp} {σ : L2.St} {H : Hp} {s : S} (r : R C H0 S0 Hs σ H s) : R C H0 Hs Hs σ H s :=
  ⟨r.len, r.sub, r.slot, r.mt, r.dead, r.sep, r.pn, r.br, Same.refl _, r.h0, fun _ h1 h2 => absurd h1 h2⟩
theorem R.back {H0 S0 Hs1 Hs : Hp} {σ1 σ : L2.St} {H1 H : Hp} {s1 s : S} (r1 : R C H0 S0 Hs1 σ1 H1 s1) (r : R C H0 Hs1 Hs σ H s) : R C H0 S0 Hs σ H s := by
  refine ⟨r.len, r.sub, r.slot, r.mt, r.dead, r.sep, r.pn, r.br, r1.s0.trans r.s0, r.h0, fun b e1 e2 => ?_⟩
  cases q : Hs1 b with
  | some o => exact r1.new b e1 (by rw [q]; exact fun z => nomatch z)
  | none => exact r.new b q e2
def forD (g : D → S → (S → Prop) → Prop) (b : DSt) (E : DEnds) : List D → S → Prop
  | [], s => E.nx s
  | d :: ds, s => g d s fun s1 => b { E with nx := forD g b E ds, ct := forD g b E ds, bk := E.nx } s1
def dFor (it : DI) (g : D → S → (S → Prop) → Prop) (b : DSt) : DSt := fun E s => it s fun items s1 => forD g b E items s1
theorem simS_for {wi : TI} {it : DI} {tl : List Nat} {g : TG} {x : D → S → (S → Prop) → Prop} (hi : SimI C wi it) (hg : SimG C tl g x) (hb : SimS C cat ts a) : SimS C cat (tFor wi g ts) (dFor it x a) := by
  refine ⟨fun H0 S0 Hs σ H s E D' r q k => hi.run H0 S0 Hs σ H s _ _ r q fun Hs1 H1 J items s1 g1 r1 io q1 => ?_⟩
  obtain ⟨G, Y, W, hG, hY⟩ := io
  refine for_it W (fun i σ H => ∃ Hs s, R C H0 Hs1 Hs σ H s ∧ forD x a E (items.drop i) s) ⟨Hs1, s1, r1.base, q1⟩ (fun i σ H _ ⟨Hs, s, r, _⟩ => hG H (r.s0.trans r.sub)) (fun i v σ H H' hi' ⟨Hs, s, r, q⟩ y => ?_) (fun σ H ⟨Hs, s, r, q⟩ => ?_)
  · obtain ⟨Hs2, d, e1, r2, rp, _⟩ := hY i H v H' H0 Hs1 Hs σ s hi' r r.s0 y
    rw [List.drop_eq_getElem_cons hi'] at q
    have ed : items[i] = d := by
      rw [List.getElem?_eq_getElem hi'] at e1
      exact Option.some.inj e1
    rw [ed] at q
    refine hg.run H0 Hs1 Hs2 σ H' s v d _ _ r2 rp q fun σ3 s3 r3 _ _ q3 => ?_
    refine hb.run H0 Hs1 Hs2 σ3 H' s3 _ _ r3 q3 ⟨fun Hs σ H s r q => ⟨Hs, s, r, q⟩, fun Hs σ H s v d r rv q => k.rt Hs σ H s v d (r1.back r) rv q, fun Hs σ H s r q => k.nx Hs σ H s (r1.back r) q, fun Hs σ H s r q => ⟨Hs, s, r, q⟩⟩
  · rw [List.drop_length] at q
    exact k.nx Hs σ H s (r1.back r) q
def dWhile (c : DB) (b : DSt) : DSt := fun E s => ∃ W : Nat → S → Prop, (∃ m, W m s) ∧ ∀ m s, W m s → c s fun k s1 => if k = true then b { E with nx := fun s' => ∃ m', m' < m ∧ W m' s', ct := fun s' => ∃ m', m' < m ∧ W m' s', bk := E.nx } s1 else E.nx s1
theorem simS_while {tt : TT} {c : DB} (hc : SimT C tt c) (hb : SimS C cat ts a) : SimS C cat (tWhile tt ts) (dWhile c a) := by
  refine ⟨fun H0 S0 Hs σ H s E D' r q k => ?_⟩
  obtain ⟨W, ⟨m0, w0⟩, turn⟩ := q
  refine ⟨fun m σ H => ∃ Hs s, R C H0 S0 Hs σ H s ∧ W m s, ⟨m0, Hs, s, r, w0⟩, fun m σ H ⟨Hs, s, r, w⟩ => ?_⟩
  refine hc.run H0 S0 Hs σ H s _ _ r (turn m s w) fun Hs1 H1 c s1 g1 r1 q1 => ?_
  cases c with
  | true =>
    refine ifp rfl ⟨fun σ' H' => ∃ m', m' < m ∧ ∃ Hs s, R C H0 S0 Hs σ' H' s ∧ W m' s, fun _ _ h => h, ?_⟩
    rw [if_pos rfl] at q1
    exact hb.run H0 S0 Hs1 σ H1 s1 _ _ r1 q1 ⟨fun Hs σ H s r ⟨m', h1, h2⟩ => ⟨m', h1, Hs, s, r, h2⟩, k.rt, k.nx, fun Hs σ H s r ⟨m', h1, h2⟩ => ⟨m', h1, Hs, s, r, h2⟩⟩
  | false => exact ifn Bool.false_ne_true (k.nx Hs1 σ H1 s1 r1 (by simpa using q1))
/-- a list or dict of the def's own goes into the still part from here on -/
theorem R.still {H0 S0 Hs : Hp} {σ : L2.St} {H : Hp} {s : S} {i : Nat} {M' : List Nat} (r : R C H0 S0 Hs σ H s) (hM : ∀ j, j ∈ C.M ↔ j = i ∨ j ∈ M') (hn : i ∉ M') (hb : i ∉ C.bs) : ∃ Hs', R { C with M := M' } H0 S0 Hs' σ H s := by
  have hi : i ∈ C.M := (hM i).mpr (.inl rfl)
  have br : ∀ b, b ∈ C.bor → (∃ j, j ∈ C.bs ∧ j ∈ M' ∧ σ[j]? = some (some (.ref b))) ∧ H0 b ≠ none := fun b hb' => by
    obtain ⟨⟨j, b1, b2, b3⟩, b4⟩ := r.br b hb'
    exact ⟨⟨j, b1, ((hM j).mp b2).resolve_left (fun z => hb (by rw [← z]; exact b1)), b3⟩, b4⟩
  by_cases hl : ∃ d, s.δ[i]? = some (some d)
  · obtain ⟨d, e⟩ := hl
    obtain ⟨x, u, e1, e2, e3, e4, e5⟩ := r.mt i d e hi
    have e5 : H0 x = none := by
      rcases e5 with e5 | e5
      · exact e5
      · obtain ⟨⟨j, b1, b2, b3⟩, _⟩ := r.br x e5
        exact absurd (by rw [← r.sep j i x b2 hi b3 e1]; exact b1) hb
    have sm : Same Hs (L2.upd Hs x u) := same_upd e3
    refine ⟨L2.upd Hs x u, r.len, fun b o q => ?_, fun j d' q m => ?_, fun j d' q m => ?_, fun j m q => r.dead j ((hM j).mpr (.inr m)) q, fun j l y m1 m2 => r.sep j l y ((hM j).mpr (.inr m1)) ((hM l).mpr (.inr m2)), fun p c q => ?_, br, r.s0.trans sm, r.h0, fun b q1 q2 => ?_⟩
    · by_cases z : b = x
      · subst z; rw [upd_same] at q; cases q; exact e2
      · rw [upd_ne z] at q; exact r.sub _ _ q
    · by_cases hj : j = i
      · subst hj
        rw [e] at q
        cases q
        exact ⟨_, e1, (e4.mono sm).rp upd_same⟩
      · obtain ⟨v, f1, f2⟩ := r.slot j d' q (fun z => ((hM j).mp z).elim hj m)
        exact ⟨v, f1, Rp.mono sm f2⟩
    · obtain ⟨y, w, f2, f3, f4, f5, f6⟩ := r.mt j d' q ((hM j).mpr (.inr m))
      refine ⟨y, w, f2, f3, ?_, f5.mono sm, f6⟩
      rw [upd_ne (fun z => by subst z; exact hn ((r.sep j i y ((hM j).mpr (.inr m)) hi f2 e1) ▸ m))]
      exact f4
    · obtain ⟨f1, f2, f3, f4, f5, f6, f7, f8⟩ := r.pn p c q
      refine ⟨f1, f2, ?_, f4, f5, f6, fun z => f7 ((hM _).mpr (.inr z)), f8⟩
      rw [upd_ne (fun z => f4 (by rw [z]; exact e5))]
      exact f3
    · by_cases z : b = x
      · subst z; exact e5
      · rw [upd_ne z] at q2; exact r.new b q1 q2
  · refine ⟨Hs, r.len, r.sub, fun j d' q m => ?_, fun j d' q m => r.mt j d' q ((hM j).mpr (.inr m)), fun j m q => r.dead j ((hM j).mpr (.inr m)) q, fun j l y m1 m2 => r.sep j l y ((hM j).mpr (.inr m1)) ((hM l).mpr (.inr m2)), fun p c q => ?_, br, r.s0, r.h0, r.new⟩
    · exact r.slot j d' q (fun z => ((hM j).mp z).elim (fun e => hl ⟨d', by rw [← e]; exact q⟩) m)
    · obtain ⟨f1, f2, f3, f4, f5, f6, f7, f8⟩ := r.pn p c q
      exact ⟨f1, f2, f3, f4, f5, f6, fun z => f7 ((hM _).mpr (.inr z)), f8⟩
end

/-! ### comprehensions -/
def wipeL (δ : List (Option D)) : List Nat → List (Option D)
  | [] => δ
  | v :: vs => (wipeL δ vs).set v none
def wipeS (s : S) (vs : List Nat) : S := { s with δ := wipeL s.δ vs }
theorem wipeL_length (δ : List (Option D)) : ∀ vs : List Nat, (wipeL δ vs).length = δ.length
  | [] => rfl
  | v :: vs => by unfold wipeL; rw [List.length_set, wipeL_length δ vs]
theorem wipeL_out {δ : List (Option D)} {i : Nat} : ∀ {vs : List Nat}, i ∉ vs → (wipeL δ vs)[i]? = δ[i]?
  | [], _ => rfl
  | v :: vs, h => by
    unfold wipeL
    rw [List.mem_cons, not_or] at h
    rw [List.getElem?_set_ne (Ne.symm h.1)]
    exact wipeL_out h.2
theorem wipeL_in {δ : List (Option D)} {i : Nat} : ∀ {vs : List Nat}, i ∈ vs → ∀ d, (wipeL δ vs)[i]? ≠ some (some d)
  | v :: vs, h, d => by
    unfold wipeL
    by_cases hv : v = i
    · subst hv
      intro q
      have il : v < (wipeL δ vs).length := by
        have := (List.getElem?_eq_some_iff.mp q).1
        simpa using this
      rw [List.getElem?_set_self il] at q
      cases q
    · rw [List.getElem?_set_ne hv]
      exact wipeL_in ((List.mem_cons.mp h).resolve_left (Ne.symm hv)) d
theorem wipe_eq {σ σ' : L2.St} {vs : List Nat} (hl : σ'.length = σ.length) (h : ∀ j, j ∉ vs → σ'[j]? = σ[j]?) : wipe σ' vs = wipe σ vs := by
  apply List.ext_getElem?
  intro i
  by_cases hi : i ∈ vs
  · have z : ∀ (τ : L2.St), i < τ.length → (wipe τ vs)[i]? = some none := fun τ ht => by
      have hl : i < (wipe τ vs).length := by rw [wipe_length]; exact ht
      rw [List.getElem?_eq_getElem hl]
      cases q : (wipe τ vs)[i] with
      | none => rfl
      | some v =>
        have := wipe_some (σ := τ) (vs := vs) (i := i) (x := v) (by rw [List.getElem?_eq_getElem hl, q])
        exact absurd hi this.2
    by_cases hx : i < σ.length
    · rw [z σ hx, z σ' (by rw [hl]; exact hx)]
    · rw [List.getElem?_eq_none (by rw [wipe_length, hl]; omega), List.getElem?_eq_none (by rw [wipe_length]; omega)]
  · rw [wipe_out hi, wipe_out hi]
    exact h i hi
section
variable {C : Cf} {cat : Cat} {te ta tb : TE} {t da db : DT} {ca cb : Cat}
theorem R.wipe {H0 S0 Hs : Hp} {σ : L2.St} {H : Hp} {s : S} {vs : List Nat} (r : R C H0 S0 Hs σ H s) (hM : ∀ v ∈ vs, v ∉ C.M) (hp : ∀ v ∈ vs, v ≠ C.ps) : R C H0 S0 Hs (L2.wipe σ vs) H (wipeS s vs) := by
  have out : ∀ j, j ∈ C.M → j ∉ vs := fun j m z => hM j z m
  have e1 : ∀ j, j ∉ vs → (wipeS s vs).δ[j]? = s.δ[j]? := fun j h => wipeL_out h
  refine ⟨by rw [wipe_length]; exact r.len.trans (wipeL_length s.δ vs).symm, r.sub, fun j d q m => ?_, fun j d q m => ?_, fun j m q => ?_, fun j l y m1 m2 q1 q2 => ?_, fun p c q => ?_, fun b hb => ?_, r.s0, r.h0, r.new⟩
  · by_cases hj : j ∈ vs
    · exact absurd q (wipeL_in hj d)
    · rw [e1 j hj] at q
      rw [wipe_out hj]
      exact r.slot j d q m
  · rw [e1 j (out j m)] at q
    rw [wipe_out (out j m)]
    exact r.mt j d q m
  · rw [e1 j (out j m)] at q
    rw [wipe_out (out j m)]
    exact r.dead j m q
  · rw [wipe_out (out j m1)] at q1
    rw [wipe_out (out l m2)] at q2
    exact r.sep j l y m1 m2 q1 q2
  · obtain ⟨f1, f2, f3, f4, f5, f6, f7⟩ := r.pn p c q
    have hn : C.ps ∉ vs := fun z => hp _ z rfl
    exact ⟨by rw [wipe_out hn]; exact f1, f2, f3, f4, f5, by rw [e1 _ hn]; exact f6, f7⟩
  · obtain ⟨⟨j, b1, b2, b3⟩, b4⟩ := r.br b hb
    exact ⟨⟨j, b1, b2, by rw [wipe_out (out j b2)]; exact b3⟩, b4⟩
theorem R.unwipe {H0 S0 Hs : Hp} {σ : L2.St} {H : Hp} {s : S} {vs : List Nat} (r : R C H0 S0 Hs (L2.wipe σ vs) H s) (hM : ∀ v ∈ vs, v ∉ C.M) (hp : ∀ v ∈ vs, v ≠ C.ps) (hn : ∀ v ∈ vs, ∀ d, s.δ[v]? ≠ some (some d)) : R C H0 S0 Hs σ H s := by
  have out : ∀ j, j ∈ C.M → j ∉ vs := fun j m z => hM j z m
  refine ⟨by rw [← wipe_length σ vs]; exact r.len, r.sub, fun j d q m => ?_, fun j d q m => ?_, fun j m q => ?_, fun j l y m1 m2 q1 q2 => ?_, fun p c q => ?_, fun b hb => ?_, r.s0, r.h0, r.new⟩
  · by_cases hj : j ∈ vs
    · exact absurd q (hn j hj d)
    · have := r.slot j d q m
      rw [wipe_out hj] at this
      exact this
  · have := r.mt j d q m
    rw [wipe_out (out j m)] at this
    exact this
  · have := r.dead j m q
    rw [wipe_out (out j m)] at this
    exact this
  · rw [← wipe_out (vs := vs) (out j m1)] at q1
    rw [← wipe_out (vs := vs) (out l m2)] at q2
    exact r.sep j l y m1 m2 q1 q2
  · obtain ⟨f1, f⟩ := r.pn p c q
    rw [wipe_out (fun z => hp _ z rfl)] at f1
    exact ⟨f1, f⟩
  · obtain ⟨⟨j, b1, b2, b3⟩, b4⟩ := r.br b hb
    rw [wipe_out (out j b2)] at b3
    exact ⟨⟨j, b1, b2, b3⟩, b4⟩
theorem Go.own {σ σ' : L2.St} {Hs H Hs' H' : Hp} (g : Go C σ Hs H Hs' H') (h : ∀ b, Own C σ b → Own C σ' b) : Go C σ' Hs H Hs' H' :=
  ⟨g.st, fun b o e n m => g.kp b o e (fun z => n (h b z)) m, g.th, g.nw⟩
theorem own_of {σ σ' : L2.St} {vs : List Nat} (hM : ∀ v ∈ vs, v ∉ C.M) (h : ∀ j, j ∉ vs → σ'[j]? = σ[j]?) : ∀ b, Own C σ' b → Own C σ b := fun b ⟨i, m, e⟩ => ⟨i, m, by rw [← h i (fun z => hM i z m)]; exact e⟩
theorem R.updF {H0 S0 Hs : Hp} {σ : L2.St} {H : Hp} {s : S} {x : Addr} {o : HO} (r : R C H0 S0 Hs σ H s) (h1 : Hs x = none) (h2 : H0 x = none) (h3 : ¬ Own C σ x) : R C H0 S0 Hs σ (L2.upd H x o) s := by
  have sm : ∀ b u, b ≠ x → H b = some u → L2.upd H x o b = some u := fun b u n q => by rw [upd_ne n]; exact q
  refine ⟨r.len, fun b u q => sm b u (fun z => by subst z; rw [h1] at q; cases q) (r.sub b u q), r.slot, fun j d q m => ?_, r.dead, r.sep, fun p c q => ?_, r.br, r.s0, fun b u n q => sm b u (fun z => by subst z; rw [h2] at q; cases q) (r.h0 b u n q), r.new⟩
  · obtain ⟨y, w, f2, f3, f4⟩ := r.mt j d q m
    exact ⟨y, w, f2, sm y _ (fun z => h3 ⟨j, m, by rw [← z]; exact f2⟩) f3, f4⟩
  · obtain ⟨f1, f2, f3, f4, f5, f6⟩ := r.pn p c q
    exact ⟨f1, f2.but (q := x) (fun b u n q => sm b u n q) (fun z => f4 (z ▸ h2)) (fun z => f5 (z ▸ h2)), f3, f4, f5, f6⟩
def lcD (g : D → S → (S → Prop) → Prop) (c : DB) (e : DT) (vs : List Nat) (Q : List D → S → Prop) : List D → List D → S → Prop
  | [], acc, s => Q acc s
  | d :: ds, acc, s => g d s fun s1 => c s1 fun k s2 => if k = true then e s2 fun y s3 => lcD g c e vs Q ds (acc ++ [y]) (wipeS s3 vs) else lcD g c e vs Q ds acc (wipeS s2 vs)
def dLc (it : DI) (g : D → S → (S → Prop) → Prop) (c : DB) (e : DT) (vs : List Nat) : DT := fun s Q => it s fun items s1 => items.length ≤ sizeLine ∧ lcD g c e vs (fun acc s2 => Q (.list acc) s2) items [] (wipeS s1 vs)
def dYes : DB := fun s Q => Q true s
theorem simT_yes : SimT C tYes dYes := ⟨fun H0 S0 Hs σ H s Q Q' r q k => k Hs H true s Go.refl r q⟩
theorem Go.updF {σ : L2.St} {Hs H Hs' H' : Hp} {x : Addr} {o : HO} (g : Go C σ Hs H Hs' H') (h : H x = none) : Go C σ Hs H Hs' (L2.upd H' x o) := by
  refine ⟨g.st, fun b u q n m => ?_, fun b u q => ?_, g.nw⟩
  · rw [upd_ne (ne_of_none q h)]
    exact g.kp b u q n m
  · obtain ⟨u', h'⟩ := g.th b u q
    exact ⟨u', by rw [upd_ne (ne_of_none q h)]; exact h'⟩
theorem sim_lc {wi : TI} {it : DI} {tl vs : List Nat} {g : TG} {x : D → S → (S → Prop) → Prop} {tt : TT} {c : DB} (hi : SimI C wi it) (hg : SimG C tl g x) (ht : SimT C tt c) (he : Sim C ca te t) (hv : ∀ j, j ∈ tl → j ∈ vs) (hM : ∀ v ∈ vs, v ∉ C.M) (hp : ∀ v ∈ vs, v ≠ C.ps) :
    Sim C .F (tLc wi g tt te vs) (dLc it x c t vs) := by
  refine ⟨fun H0 S0 Hs σ H s Q Q' r q k => hi.run H0 S0 Hs σ H s _ _ r q fun Hs1 H1 J items s1 g1 r1 io q1 => fun L nL => ?_⟩
  obtain ⟨hz, q1⟩ := q1
  obtain ⟨G, Y, W, hG, hY⟩ := io
  obtain ⟨l0, l1, l2, l3⟩ := r1.free0 nL
  have ow : ∀ b, Own C (L2.wipe σ vs) b → Own C σ b := own_of hM fun j h => wipe_out h
  have lw : ¬ Own C (L2.wipe σ vs) L := fun z => l2 (ow L z)
  refine lc_it W (fun i H => ∃ Hs s accV accD, R C H0 Hs1 Hs (L2.wipe σ vs) H s ∧ H L = some (.lst accV) ∧ Hs L = none ∧ RpAll C.K Hs accV accD ∧ accD.length ≤ i ∧ Go C σ Hs1 H1 Hs H ∧ (∀ v ∈ vs, ∀ d, s.δ[v]? ≠ some (some d)) ∧ lcD x c t vs (fun acc s2 => Q (.list acc) s2) (items.drop i) accD s)
    ⟨Hs1, wipeS s1 vs, [], [], ((r1.laid nL).wipe hM hp).base, upd_same, l1, .nil, Nat.le_refl _, Go.laid nL, fun v m d => wipeL_in m d, q1⟩ (fun i H _ ⟨Hs, s, _, _, r, _⟩ => hG H (r.s0.trans r.sub)) (fun i v H H' hi' ⟨Hs, s, accV, accD, r, hL, hsL, ra, la, ga, _, q⟩ y => ?_) (fun H ⟨Hs, s, accV, accD, r, hL, hsL, ra, la, ga, hn, q⟩ => ?_)
  · obtain ⟨Hs2, d, e1, r2, rp, g2⟩ := hY i H v H' H0 Hs1 Hs (L2.wipe σ vs) s hi' r r.s0 y
    rw [List.drop_eq_getElem_cons hi'] at q
    have ed : items[i] = d := by
      rw [List.getElem?_eq_getElem hi'] at e1
      exact Option.some.inj e1
    rw [ed] at q
    have hL2 := g2.kp L _ hL lw l3
    have hsL2 := none_of_new g2.nw hsL hL
    refine hg.run H0 Hs1 Hs2 (L2.wipe σ vs) H' s v d _ _ r2 rp q fun σ3 s3 r3 len3 out3 q3 => ?_
    have out3' : ∀ j, j ∉ vs → σ3[j]? = σ[j]? := fun j h => (out3 j (fun z => h (hv j z))).trans (wipe_out h)
    have wq : L2.wipe σ3 vs = L2.wipe σ vs := wipe_eq (by rw [len3, wipe_length]) out3'
    have ow3 : ∀ b, Own C σ3 b → Own C σ b := own_of hM out3'
    have lw3 : ¬ Own C σ3 L := fun z => l2 (ow3 L z)
    refine ⟨wq, ht.run H0 Hs1 Hs2 σ3 H' s3 _ _ r3 q3 fun Hs4 H4 b4 s4 g4 r4 q4 => ?_⟩
    have hL4 := g4.kp L _ hL2 lw3 l3
    have hsL4 := none_of_new g4.nw hsL2 hL2
    have ga4 : Go C σ Hs1 H1 Hs4 H4 := ga.trans ((g2.own ow).trans (g4.own ow3))
    cases b4 with
    | true =>
      refine ifp rfl (he.toE.run H0 Hs1 Hs4 σ3 H4 s4 _ _ r4 (by simpa using q4) fun Hs5 H5 w dw s5 g5 r5 v5 q5 => ?_)
      have hL5 := g5.kp L _ hL4 lw3 l3
      have hsL5 := none_of_new g5.nw hsL4 hL4
      have ra5 := RpAll.mono (g2.st.trans (g4.st.trans g5.st)) ra
      refine ⟨accV, hL5, by rw [ra5.len]; omega, Hs5, wipeS s5 vs, _, accD ++ [dw], ?_, upd_same, hsL5, ra5.app (.cons v5 .nil), by rw [List.length_append]; show accD.length + 1 ≤ i + 1; omega, (ga4.trans (g5.own ow3)).updF nL, fun v m d => wipeL_in m d, q5⟩
      rw [← wq]
      exact (r5.updF hsL5 l0 lw3).wipe hM hp
    | false =>
      refine ifn Bool.false_ne_true ⟨Hs4, wipeS s4 vs, accV, accD, ?_, hL4, hsL4, RpAll.mono (g2.st.trans g4.st) ra, by omega, ga4, fun v m d => wipeL_in m d, by simpa using q4⟩
      rw [← wq]
      exact r4.wipe hM hp
  · rw [List.drop_length] at q
    refine k Hs H _ (.list accD) s (g1.trans ga) (r1.back (r.unwipe hM hp hn)) (Val.mkC ⟨_, hL, hsL, l0, g1.back L nL, .lst ra, l2⟩) q
end
theorem rvNon {K : PySem.W.Frag} {H0 Hs H : Hp} (cat : Cat) : RV K H0 Hs H cat .non .none := by
  cases cat with
  | E => exact Rp.non
  | F => simp only [RV, isC, if_neg Bool.false_ne_true]; exact Rp.non
/-! ### the end of a body: a list of the def's own may go into the still part -/
structure SimE (C : Cf) (cat : Cat) (ts : TS) (t : DSt) : Prop where
  run : ∀ (H0 S0 Hs : Hp) (σ : L2.St) (H : Hp) (s : S) (E : DEnds) (D' : Ends), R C H0 S0 Hs σ H s → t E s →
    (∀ M' Hs σ H s, R { C with M := M' } H0 S0 Hs σ H s → E.nx s → D'.nx σ H) → (∀ M' Hs σ H s v d, R { C with M := M' } H0 S0 Hs σ H s → RV C.K H0 Hs H cat v d → E.rt d s → D'.rt v H) →
    (∀ Hs σ H s, R C H0 S0 Hs σ H s → E.bk s → D'.bk σ H) → (∀ Hs σ H s, R C H0 S0 Hs σ H s → E.ct s → D'.ct σ H) → ts D' σ H
section
variable {C : Cf} {cat : Cat} {ts us : TS} {a b : DSt}
theorem SimS.e (h : SimS C cat ts a) : SimE C cat ts a :=
  ⟨fun H0 S0 Hs σ H s E D' r q k1 k2 k3 k4 => h.run H0 S0 Hs σ H s E D' r q ⟨fun Hs σ H s r q => k1 C.M Hs σ H s r q, fun Hs σ H s v d r rv q => k2 C.M Hs σ H s v d r rv q, k3, k4⟩⟩
theorem simE_seq (ha : SimS C cat ts a) (hb : SimE C cat us b) : SimE C cat (tSeq ts us) (dSeq a b) :=
  ⟨fun H0 S0 Hs σ H s E D' r q k1 k2 k3 k4 => ha.run H0 S0 Hs σ H s _ _ r q ⟨fun Hs σ H s r q => hb.run H0 S0 Hs σ H s E D' r q k1 k2 k3 k4, fun Hs σ H s v d r rv q => k2 C.M Hs σ H s v d r rv q, k3, k4⟩⟩
/-- from here on slot i is still; behind this no break or continue -/
theorem simE_still (i : Nat) (M' : List Nat) (hM : ∀ j, j ∈ C.M ↔ j = i ∨ j ∈ M') (hn : i ∉ M') (hb : i ∉ C.bs) (h : SimE { C with M := M' } cat us b) : SimE C cat us (fun E s => b { E with bk := fun _ => False, ct := fun _ => False } s) := by
  refine ⟨fun H0 S0 Hs σ H s E D' r q k1 k2 k3 k4 => ?_⟩
  obtain ⟨Hs', r'⟩ := r.still hM hn hb
  exact h.run H0 S0 Hs' σ H s _ D' r' q (fun M2 Hs σ H s r q => k1 M2 Hs σ H s r q) (fun M2 Hs σ H s v d r rv q => k2 M2 Hs σ H s v d r rv q) (fun _ _ _ _ _ z => z.elim) (fun _ _ _ _ _ z => z.elim)
end

/-! ### a def's promise from its body -/
def start' (n : Nat) (ds : List D) : List (Option D) := ds.map some ++ List.replicate (n - ds.length) none
section
variable {P : Program} {w : World} {K : PySem.W.Frag} {mg : Str → Option Value} {base : Heap}
theorem start_slot {vs : List V} {ds : List D} {H : Hp} (N : List Str) (h : RpAll K H vs ds) : (L2.start N vs).length = (start' N.length ds).length ∧ ∀ (i : Nat) (d : D), (start' N.length ds)[i]? = some (some d) → ∃ v, (L2.start N vs)[i]? = some (some v) ∧ Rp K H v d := by
  refine ⟨?_, fun i d e => ?_⟩
  · unfold L2.start start'
    rw [List.length_append, List.length_append, List.length_map, List.length_map, List.length_replicate, List.length_replicate, h.len]
  · unfold start' at e
    by_cases hi : i < ds.length
    · rw [List.getElem?_append_left (by simpa using hi), List.getElem?_map] at e
      cases q : ds[i]? with
      | none => rw [q] at e; cases e
      | some d' =>
        rw [q] at e
        cases e
        obtain ⟨v, e1, e2⟩ := h.get q
        refine ⟨v, ?_, e2⟩
        unfold L2.start
        rw [List.getElem?_append_left (by rw [List.length_map, h.len]; exact hi), List.getElem?_map, e1]
        rfl
    · rw [List.getElem?_append_right (by simpa using hi)] at e
      rw [List.getElem?_replicate] at e
      split at e
      · cases e
      · cases e
theorem start_none {vs : List V} (N : List Str) {i : Nat} (h1 : vs.length ≤ i) (h2 : i < N.length) : (L2.start N vs)[i]? = some none := by
  unfold L2.start
  rw [List.getElem?_append_right (by simpa using h1), List.getElem?_replicate, List.length_map, if_pos (by omega)]
/-- a def without a pen -/
theorem Fn.ofNE {x : Str} {st : Stmt} {f0 : Addr} {fd0 : FuncData} {N ps : List Str} {k n : Nat} {cat : Cat} {M : List Nat} {F : DF} (D' : Fun K x x st f0 fd0) (S' : FnScope N ps (defScope st)) (hn : ps.length = n) (hM : ∀ i ∈ M, n ≤ i ∧ i < N.length)
    (hbody : ∀ (f : Addr) (cdv : Value) (A : Around) (outer : List Env) (s : Shared) (H : Hp) (E : XK), Rm k (A.deeper (envOfC x (defScope st) s.heap.objs.size f cdv)) →
      ∃ t d, PSs (cxOf CX0 P w K mg base N x (defScope st) f cdv A outer s H E).nox (defBody st) t ∧ SimE { K := K, pen := none, ps := 1000, M := M } cat t d ∧ ∀ ds (Q : D → Prop), ds.length = n → F ds Q → d { nx := fun _ => Q .none, rt := fun z _ => Q z } { δ := start' N.length ds, n := 0 }) :
    FnG P w K mg base (k + 1) f0 fd0 ps (spN K n cat F) := by
  refine Fn.mk D' S' (fun vs H Q E h => ?_) (fun f cdv A outer s H vs Q E hr h => ?_)
  · obtain ⟨Hs, ds, Q0, _, h2, h3, _⟩ := h
    rw [h2.len, h3, hn]
  obtain ⟨Hs, ds, Q0, h1, h2, h3, h4, h5⟩ := h
  obtain ⟨t, d, ht, hs, hd⟩ := hbody f cdv A outer s H E hr
  refine ⟨t, ht, ?_⟩
  obtain ⟨sl, ss⟩ := start_slot N h2
  refine hs.run H Hs Hs (L2.start N vs) H _ { nx := fun _ => Q0 .none, rt := fun z _ => Q0 z } _ ?_ (hd ds Q0 h3 h4) (fun M' Hs' σ' H' s' r q => ?_) (fun M' Hs' σ' H' s' v dd r rv q => ?_) (fun _ _ _ _ _ q => q.elim) (fun _ _ _ _ _ q => q.elim)
  · refine ⟨sl, h1, fun i dd e m => ss i dd e, fun i dd e m => ?_, fun i m e => start_none N (by rw [h2.len, h3]; exact (hM i m).1) (hM i m).2, fun i j a m1 m2 e1 e2 => ?_, fun p c e => (nomatch e), fun b hb => (nomatch hb), Same.refl _, fun b o _ e => e, fun b e1 e2 => absurd e1 e2⟩
    · obtain ⟨v, e1, _⟩ := ss i dd e
      rw [start_none N (by rw [h2.len, h3]; exact (hM i m).1) (hM i m).2] at e1
      cases e1
    · rw [start_none N (by rw [h2.len, h3]; exact (hM i m1).1) (hM i m1).2] at e1
      cases e1
  · exact h5 .none Hs' H' .non q r.s0 r.sub (fun b o e => r.h0 b o (fun z => z.elim (fun ⟨_, z⟩ => nomatch z) (fun z => nomatch z)) e) r.new (rvNon cat)
  · exact h5 dd Hs' H' v q r.s0 r.sub (fun b o e => r.h0 b o (fun z => z.elim (fun ⟨_, z⟩ => nomatch z) (fun z => nomatch z)) e) r.new rv
theorem Ok.ofNE {x : Str} {st : Stmt} {N ps : List Str} {k n : Nat} {cat : Cat} {M : List Nat} {F : DF} (D' : Df K mg x st ps) (S' : FnScope N ps (defScope st)) (hn : ps.length = n) (hM : ∀ i ∈ M, n ≤ i ∧ i < N.length)
    (hbody : ∀ (f : Addr) (cdv : Value) (A : Around) (outer : List Env) (s : Shared) (H : Hp) (E : XK), Rm k (A.deeper (envOfC x (defScope st) s.heap.objs.size f cdv)) →
      ∃ t d, PSs (cxOf CX0 P w K mg base N x (defScope st) f cdv A outer s H E).nox (defBody st) t ∧ SimE { K := K, pen := none, ps := 1000, M := M } cat t d ∧ ∀ ds (Q : D → Prop), ds.length = n → F ds Q → d { nx := fun _ => Q .none, rt := fun z _ => Q z } { δ := start' N.length ds, n := 0 }) :
    Ok P w K mg base (k + 1) x ps (spN K n cat F) := by
  obtain ⟨f, fd, F', b, g⟩ := D'
  exact ⟨f, fd, g, F'.kp, b, Fn.ofNE F' S' hn hM hbody⟩
/-- the same, no list of its own goes still -/
theorem Ok.ofN {x : Str} {st : Stmt} {N ps : List Str} {k n : Nat} {cat : Cat} {M : List Nat} {F : DF} (D' : Df K mg x st ps) (S' : FnScope N ps (defScope st)) (hn : ps.length = n) (hM : ∀ i ∈ M, n ≤ i ∧ i < N.length)
    (hbody : ∀ (f : Addr) (cdv : Value) (A : Around) (outer : List Env) (s : Shared) (H : Hp) (E : XK), Rm k (A.deeper (envOfC x (defScope st) s.heap.objs.size f cdv)) →
      ∃ t d, PSs (cxOf CX0 P w K mg base N x (defScope st) f cdv A outer s H E).nox (defBody st) t ∧ SimS { K := K, pen := none, ps := 1000, M := M } cat t d ∧ ∀ ds (Q : D → Prop), ds.length = n → F ds Q → d { nx := fun _ => Q .none, rt := fun z _ => Q z } { δ := start' N.length ds, n := 0 }) :
    Ok P w K mg base (k + 1) x ps (spN K n cat F) := by
  exact Ok.ofNE D' S' hn hM fun f cdv A outer s H E hr => by
    obtain ⟨t, d, h1, h2, h3⟩ := hbody f cdv A outer s H E hr
    exact ⟨t, d, h1, h2.e, h3⟩
/-- a def with a pen, its first parameter -/
theorem Ok.ofPE {x : Str} {st : Stmt} {N ps : List Str} {k n : Nat} {cat : Cat} {M : List Nat} {F : DFP} (D' : Df K mg x st ps) (S' : FnScope N ps (defScope st)) (hn : ps.length = n + 1) (hM : ∀ i ∈ M, n + 1 ≤ i ∧ i < N.length) (hN : 0 < N.length)
    (hbody : ∀ (f : Addr) (cdv : Value) (A : Around) (outer : List Env) (s : Shared) (H : Hp) (E : XK) (p c : Addr), Rm k (A.deeper (envOfC x (defScope st) s.heap.objs.size f cdv)) →
      ∃ t d, PSs (cxOf CX0 P w K mg base N x (defScope st) f cdv A outer s H E).nox (defBody st) t ∧ SimE { K := K, pen := some (p, c), ps := 0, M := M } cat t d ∧ ∀ ds m (Q : D → Nat → Prop), ds.length = n → F ds m Q → d { nx := fun s => Q .none s.n, rt := fun z s => Q z s.n } { δ := none :: start' (N.length - 1) ds, n := m }) :
    Ok P w K mg base (k + 1) x ps (spP K n cat F) := by
  refine Ok.mk D' S' (fun vs H Q E h => ?_) (fun f cdv A outer s H vs Q E hr h => ?_)
  · obtain ⟨Hs, p, c, m, vs', ds, Q0, rfl, _, _, _, h2, h3, _⟩ := h
    rw [List.length_cons, h2.len, h3, hn]
  obtain ⟨Hs, p, c, m, vs', ds, Q0, rfl, pe, hsp, h1, h2, h3, h4, h5⟩ := h
  obtain ⟨t, d, ht, hs, hd⟩ := hbody f cdv A outer s H E p c hr
  refine ⟨t, ht, ?_⟩
  obtain ⟨N0, N', rfl⟩ : ∃ a b, N = a :: b := by
    cases N with
    | nil => exact absurd hN (by simp)
    | cons a b => exact ⟨a, b, rfl⟩
  obtain ⟨sl, ss⟩ := start_slot N' h2
  have es : L2.start (N0 :: N') (V.ref p :: vs') = some (.ref p) :: L2.start N' vs' := by
    unfold L2.start
    rw [List.map_cons, List.length_cons, List.length_cons, Nat.add_sub_add_right]
    rfl
  have en : (N0 :: N').length - 1 = N'.length := by rw [List.length_cons]; rfl
  rw [en] at hd
  have nn : ∀ i, i ∈ M → (some (V.ref p) :: L2.start N' vs')[i]? = some none := fun i m => by
    have := hM i m
    rw [List.length_cons] at this
    obtain ⟨j, rfl⟩ : ∃ j, i = j + 1 := ⟨i - 1, by omega⟩
    show (L2.start N' vs')[j]? = some none
    exact start_none N' (by rw [h2.len, h3]; omega) (by omega)
  obtain ⟨a0, r0, ep, _⟩ := pe.pen
  obtain ⟨ns, ec⟩ := pe.cells
  rw [es]
  refine hs.run H Hs Hs _ H _ { nx := fun s => Q0 .none s.n, rt := fun z s => Q0 z s.n } _ ?_ (hd ds m Q0 h3 h4) (fun M' Hs' σ' H' s' r q => ?_) (fun M' Hs' σ' H' s' v dd r rv q => ?_) (fun _ _ _ _ _ q => q.elim) (fun _ _ _ _ _ q => q.elim)
  · refine ⟨by rw [List.length_cons, sl]; rfl, h1, fun i dd e _ => ?_, fun i dd e m => ?_, fun i m e => nn i m, fun i j a m1 m2 e1 e2 => ?_, fun p' c' e => ?_, fun b hb => (nomatch hb), Same.refl _, fun b o _ e => e, fun b e1 e2 => absurd e1 e2⟩
    · cases i with
      | zero => cases e
      | succ j => exact ss j dd e
    · cases i with
      | zero => cases e
      | succ j =>
        obtain ⟨v, e1, _⟩ := ss j dd e
        have := nn (j + 1) m
        have : (L2.start N' vs')[j]? = some none := this
        rw [this] at e1
        cases e1
    · rw [nn i m1] at e1
      cases e1
    · cases e
      exact ⟨rfl, pe, hsp, (by rw [ep]; simp), (by rw [ec]; simp), rfl, fun z => absurd (hM 0 z).1 (by omega), fun z => (nomatch z), fun z => (nomatch z)⟩
  · have ip : ∀ b, ¬ IsPen { K := K, pen := some (p, c), ps := 0, M := M' } b ↔ b ≠ p := fun b => ⟨fun h e => h (.inl ⟨c, by rw [e]⟩), fun h z => z.elim (fun ⟨c', e⟩ => h (by cases e; rfl)) (fun z => nomatch z)⟩
    obtain ⟨f1, f2, f3, _⟩ := r.pn p c rfl
    exact h5 .none s'.n Hs' H' .non q r.s0 r.sub (fun b o nb e => r.h0 b o ((ip b).mpr nb) e) r.new f3 f2 (rvNon cat)
  · have ip : ∀ b, ¬ IsPen { K := K, pen := some (p, c), ps := 0, M := M' } b ↔ b ≠ p := fun b => ⟨fun h e => h (.inl ⟨c, by rw [e]⟩), fun h z => z.elim (fun ⟨c', e⟩ => h (by cases e; rfl)) (fun z => nomatch z)⟩
    obtain ⟨f1, f2, f3, _⟩ := r.pn p c rfl
    exact h5 dd s'.n Hs' H' v q r.s0 r.sub (fun b o nb e => r.h0 b o ((ip b).mpr nb) e) r.new f3 f2 rv
/-- the same, no list of its own goes still -/
theorem Ok.ofP {x : Str} {st : Stmt} {N ps : List Str} {k n : Nat} {cat : Cat} {M : List Nat} {F : DFP} (D' : Df K mg x st ps) (S' : FnScope N ps (defScope st)) (hn : ps.length = n + 1) (hM : ∀ i ∈ M, n + 1 ≤ i ∧ i < N.length) (hN : 0 < N.length)
    (hbody : ∀ (f : Addr) (cdv : Value) (A : Around) (outer : List Env) (s : Shared) (H : Hp) (E : XK) (p c : Addr), Rm k (A.deeper (envOfC x (defScope st) s.heap.objs.size f cdv)) →
      ∃ t d, PSs (cxOf CX0 P w K mg base N x (defScope st) f cdv A outer s H E).nox (defBody st) t ∧ SimS { K := K, pen := some (p, c), ps := 0, M := M } cat t d ∧ ∀ ds m (Q : D → Nat → Prop), ds.length = n → F ds m Q → d { nx := fun s => Q .none s.n, rt := fun z s => Q z s.n } { δ := none :: start' (N.length - 1) ds, n := m }) :
    Ok P w K mg base (k + 1) x ps (spP K n cat F) := by
  exact Ok.ofPE D' S' hn hM hN fun f cdv A outer s H E p c hr => by
    obtain ⟨t, d, h1, h2, h3⟩ := hbody f cdv A outer s H E p c hr
    exact ⟨t, d, h1, h2.e, h3⟩
/-- the draws -/
structure TakeP (m : Int) (n : Nat) (Q : D → Nat → Prop) : Prop where
  hn : n ≤ penLim
  h0 : 0 < m
  h1 : m.natAbs < 2 ^ 9000
  k : ∀ r : Int, 0 ≤ r → r < m → Q (.int r) (n + 1)
def takeF : DFP := fun ds n Q => match ds with
  | [d] => (match d with
    | .int m => TakeP m n Q
    | _ => False)
  | _ => False
theorem ok_takeP {k : Nat} (h : Ok P w K mg base k "_law_take" ["_law_pen", "_law_many"] spTake) : Ok P w K mg base k "_law_take" ["_law_pen", "_law_many"] (spP K 1 .E takeF) := by
  refine h.imp fun vs H Q E h => ?_
  obtain ⟨Hs, p, c, m, vs', ds, Q0, rfl, pe, hsp, h1, h2, h3, h4, h5⟩ := h
  match vs', ds, h2 with
  | [v], [d], .cons hd .nil =>
    cases d <;> first | exact h4.elim | skip
    cases hd
    rename_i i
    obtain ⟨e1, e2, e3, e4⟩ := h4
    refine ⟨p, c, m, i, rfl, pe, e1, e2, e3, fun r H' r0 r1 bt pe' => ?_⟩
    refine h5 (.int r) (m + 1) Hs H' _ (e4 r r0 r1) (Same.refl _) (fun b o e => bt b o (fun z => by subst z; rw [hsp] at e; cases e) (h1 b o e)) bt (fun b q1 q2 => absurd q1 q2) hsp pe' (Rp.int r)
  | [], [], _ => exact h4.elim
  | _ :: _ :: _, _ :: _ :: _, _ => exact absurd h3 (by simp)
end

/-! ### words for the printed terms -/
section
variable {C : Cf}
theorem nm {i : Nat} (h : C.M.contains i = false) : i ∉ C.M := fun z => by
  have := List.contains_iff_mem.mpr z
  rw [h] at this
  cases this
theorem ym {i : Nat} (h : C.M.contains i = true) : i ∈ C.M := List.contains_iff_mem.mp h
theorem np {i : Nat} (h : (i == C.ps) = false) : i ≠ C.ps := fun z => by
  rw [z] at h
  simp at h
theorem nmv {vs : List Nat} (h : (vs.all fun v => !C.M.contains v) = true) : ∀ v ∈ vs, v ∉ C.M := fun v m => nm (by
  have := List.all_eq_true.mp h v m
  simpa using this)
theorem npv {vs : List Nat} (h : (vs.all fun v => !(v == C.ps)) = true) : ∀ v ∈ vs, v ≠ C.ps := fun v m => np (by
  have := List.all_eq_true.mp h v m
  simpa using this)
theorem inv' {ts vs : List Nat} (h : (ts.all fun v => vs.contains v) = true) : ∀ j, j ∈ ts → j ∈ vs := fun j m => by
  have := List.all_eq_true.mp h j m
  exact List.contains_iff_mem.mp this
theorem u65 {A : Around} {k : Nat} (hr : Room k A) : A.units + 65 < cLine := by
  have := hr.un
  omega
theorem isiK {X : Cx} (K : PySem.W.Frag) (eK : X.K = K) : CallR X (.builtin "isinstance") (rIsi K) := eK ▸ call_isi
theorem isiTK {X : Cx} (K : PySem.W.Frag) (eK : X.K = K) : CallR X (.builtin "isinstance") (rIsiT K) := eK ▸ call_isiT
theorem sumK {X : Cx} (K : PySem.W.Frag) (eK : X.K = K) (hc : X.calm = true) : CallR X (.builtin "sum") (rSum K) := eK ▸ cr_sum hc
theorem allK {X : Cx} (K : PySem.W.Frag) (eK : X.K = K) (hc : X.calm = true) : CallR X (.builtin "all") (rAll K) := eK ▸ cr_all hc
theorem anyK {X : Cx} (K : PySem.W.Frag) (eK : X.K = K) (hc : X.calm = true) : CallR X (.builtin "any") (rAny K) := eK ▸ cr_any hc
/-- list(range(..)) -/
theorem rg_all {K : PySem.W.Frag} {H : Hp} (lo hi : Int) : RpAll K H (rgV lo hi) (rgD lo (hi - lo).toNat) := by
  unfold rgV rgD
  generalize (hi - lo).toNat = n
  have : ∀ l : List Nat, RpAll K H (l.map fun i => V.int (lo + (i : Nat))) (l.map fun i => (PyData.int (lo + (i : Nat)) : D)) := fun l => by
    induction l with
    | nil => exact .nil
    | cons x l ih => exact .cons (.int _) ih
  exact this _
def dListRg1 (a : DT) : DT := fun s Q => a s fun d s1 => match d with
  | .int n => RgOk 0 n ∧ Q (.list (rgD 0 n.toNat)) s1
  | _ => False
theorem sim_listRg1 {te : TE} {t : DT} {ca : Cat} (h : Sim C ca te t) : Sim C .F (tLstRg (tRg1 te)) (dListRg1 t) := by
  refine ⟨fun H0 S0 Hs σ H s Q Q' r q k => h.run H0 S0 Hs σ H s _ _ r q fun Hs1 H1 v d s1 g1 r1 v1 q1 => ?_⟩
  cases d <;> first | exact q1.elim | skip
  rename_i n
  cases v1.int'
  have e : (n - 0).toNat = n.toNat := by omega
  refine ⟨n, rfl, q1.1, fun p np => k Hs1 _ _ (.list (rgD 0 n.toNat)) s1 (g1.trans (Go.laid np)) (r1.laid np) ((r1.newList np ?_).anew fun a e => g1.back a e) q1.2⟩
  rw [← e]
  exact rg_all 0 n
def dListRg2 (a b : DT) : DT := fun s Q => a s fun d s1 => b s1 fun e s2 => match d, e with
  | .int m, .int n => RgOk m n ∧ Q (.list (rgD m (n - m).toNat)) s2
  | _, _ => False
theorem sim_listRg2 {ta tb : TE} {da db : DT} {ca cb : Cat} (ha : Sim C ca ta da) (hb : Sim C cb tb db) : Sim C .F (tLstRg (tRg2 ta tb)) (dListRg2 da db) := by
  refine ⟨fun H0 S0 Hs σ H s Q Q' r q k => ha.run H0 S0 Hs σ H s _ _ r q fun Hs1 H1 v d s1 g1 r1 v1 q1 => hb.run H0 S0 Hs1 σ H1 s1 _ _ r1 q1 fun Hs2 H2 w e s2 g2 r2 v2 q2 => ?_⟩
  cases d <;> cases e <;> first | exact q2.elim | skip
  rename_i m n
  cases v1.int'
  cases v2.int'
  exact ⟨m, n, rfl, rfl, q2.1, fun p np => k Hs2 _ _ (.list (rgD m (n - m).toNat)) s2 ((g1.trans g2).trans (Go.laid np)) (r2.laid np) ((r2.newList np (rg_all m n)).anew fun a e => (g1.trans g2).back a e) q2.2⟩
end

/-! ### more words -/
theorem boot_isi : bootBuiltins "isinstance" = some (.builtin "isinstance") := by decide +kernel
theorem boot_len : bootBuiltins "len" = some (.builtin "len") := by decide +kernel
theorem boot_tuple : bootBuiltins "tuple" = some (.type "tuple") := by decide +kernel
theorem boot_list : bootBuiltins "list" = some (.type "list") := by decide +kernel
theorem boot_str : bootBuiltins "str" = some (.type "str") := by decide +kernel
theorem boot_int : bootBuiltins "int" = some (.type "int") := by decide +kernel
theorem boot_bool : bootBuiltins "bool" = some (.type "bool") := by decide +kernel
theorem boot_dict : bootBuiltins "dict" = some (.type "dict") := by decide +kernel
theorem boot_min : bootBuiltins "min" = some (.builtin "min") := by decide +kernel
theorem boot_max : bootBuiltins "max" = some (.builtin "max") := by decide +kernel
theorem boot_sum : bootBuiltins "sum" = some (.builtin "sum") := by decide +kernel
theorem boot_all : bootBuiltins "all" = some (.builtin "all") := by decide +kernel
theorem boot_any : bootBuiltins "any" = some (.builtin "any") := by decide +kernel
section
variable {C : Cf} {te ta tb : TE} {t da db : DT} {ca cb : Cat}
theorem nb {i : Nat} (h : C.bs.contains i = false) : i ∉ C.bs := fun z => by
  have := List.contains_iff_mem.mpr z
  rw [h] at this
  cases this
def dNeg (a : DT) : DT := fun s Q => a s fun d s1 => match d with
  | .int i => Q (.int (-i)) s1
  | _ => False
theorem sim_neg (h : Sim C ca te t) : Sim C .F (tUn (rU fun i => .int (-i)) te) (dNeg t) := by
  refine ⟨fun H0 S0 Hs σ H s Q Q' r q k => h.run H0 S0 Hs σ H s _ _ r q fun Hs1 H1 v d s1 g1 r1 v1 q1 => ?_⟩
  cases d <;> first | exact q1.elim | skip
  rename_i i
  cases v1.int'
  exact ⟨i, rfl, k Hs1 H1 _ (.int (-i)) s1 g1 r1 (Val.mkP (Rp.int _) rfl) q1⟩
/-- sep.join(xs) -/
def rJoinQ (K : PySem.W.Frag) : V → List V → Hp → VK → Prop := fun x xs H Q => ∃ a p, ∃ ys : List Str, x = .str a ∧ xs = [.ref p] ∧ (SqL K H p (ys.map V.str) ∨ SqT K H p (ys.map V.str)) ∧
    (ys.map (·.length)).sum + ys.length * a.length ≤ 16777216 ∧ Q (.str (Txt.join a ys)) H
theorem joinK {X : Cx} (K : PySem.W.Frag) (eK : X.K = K) {o e : Expr} {to te : TE} {apos pos : Pos} (ho : PE X o to) (he : PE X e te) (hs : starEach [e] X.env = [(false, eval e X.env)] := by rfl) (hbase : attributeBase o "join" X.env (eval o X.env) = eval o X.env := by rfl) (hline : (apos.endLine == pos.line) = true := by rfl) :
    PE X (.Call (.Attribute o "join" apos) [e] [] pos) (tM1 (rJoinQ K) to te) := by
  subst eK
  exact pe_join ho he hs hbase hline
def strsOf : List D → Option (List Str)
  | [] => some []
  | .str i :: r => (strsOf r).map (i :: ·)
  | _ :: _ => none
theorem strs_rp {K : PySem.W.Frag} {H : Hp} : ∀ {xs : List V} {ds : List D} {ns : List Str}, RpAll K H xs ds → strsOf ds = some ns → xs = ns.map V.str
  | _, _, _, .nil, e => by cases e; rfl
  | _, _, _, .cons (d := d) (ds := ds) a b, e => by
    cases d <;> first | (exfalso; have e' : (none : Option (List Str)) = some _ := e; cases e'; done) | skip
    cases a
    simp only [strsOf, Option.map_eq_some_iff] at e
    obtain ⟨ms, e1, rfl⟩ := e
    rw [strs_rp b e1]
    rfl
def joinD (a : Str) (d : D) (Q : D → Prop) : Prop := match d with
  | .list xs => ∃ ys, strsOf xs = some ys ∧ (ys.map (·.length)).sum + ys.length * a.length ≤ 16777216 ∧ Q (.str (Txt.join a ys))
  | .tuple xs => ∃ ys, strsOf xs = some ys ∧ (ys.map (·.length)).sum + ys.length * a.length ≤ 16777216 ∧ Q (.str (Txt.join a ys))
  | _ => False
def dJoin (a b : DT) : DT := fun s Q => a s fun x s1 => match x with
  | .str z => b s1 fun y s2 => joinD z y fun w => Q w s2
  | _ => False
theorem sim_join (ha : Sim C ca ta da) (hb : Sim C cb tb db) : Sim C .F (tM1 (rJoinQ C.K) ta tb) (dJoin da db) := by
  refine ⟨fun H0 S0 Hs σ H s Q Q' r q k => ha.toE.run H0 S0 Hs σ H s _ _ r q fun Hs1 H1 v d s1 g1 r1 v1 q1 => ?_⟩
  cases d <;> first | exact q1.elim | skip
  rename_i z
  cases v1
  refine ⟨⟨z, rfl⟩, hb.run H0 S0 Hs1 σ H1 s1 _ _ r1 q1 fun Hs2 H2 w e s2 g2 r2 v2 q2 => ?_⟩
  have rd := v2.rd r2.sub
  cases e <;> first | exact q2.elim | skip
  case list xs =>
    obtain ⟨p, ys, rfl, e1, e2⟩ := Rd'.list rd
    obtain ⟨zs, e3, e4, q2⟩ := q2
    rw [strs_rp e2 e3] at e1
    exact ⟨z, p, zs, rfl, rfl, .inl (SqL.of e1), e4, k Hs2 H2 _ (.str _) s2 (g1.trans g2) r2 (Val.mkP (Rp.str _) rfl) q2⟩
  case tuple xs =>
    obtain ⟨zs, e3, e4, q2⟩ := q2
    cases (show Rp C.K Hs2 w (.tuple xs) from rd) with
    | @tup p ys _ e1 e2 =>
    rw [strs_rp e2 e3] at e1
    exact ⟨z, p, zs, rfl, rfl, .inr (Same.sqT r2.sub e1), e4, k Hs2 H2 _ (.str _) s2 (g1.trans g2) r2 (Val.mkP (Rp.str _) rfl) q2⟩
theorem opA_iadd : OpA C (rI0 fun i j => .int (i + j)) (fun x y Q => match x, y with | .int i, .int j => Q (.int (i + j)) | _, _ => False) := by
  intro H0 S0 Hs σ H s x y dx dy Q Q' r hx hy q k
  cases dx <;> cases dy <;> first | exact q.elim | skip
  case int.int i j => cases hx; cases hy; exact ⟨i, j, rfl, rfl, k Hs H _ (.int (i + j)) Go.refl r (Val.mkP (Rp.int _) rfl) q⟩
end

/-! ### repr of a tree without dicts -/
def rRepr (K : PySem.W.Frag) : List V → Hp → VK → Prop := fun xs H Q => ∃ x d, xs = [x] ∧ Dp K H x d ∧ Sh d ∧ d.showable = true ∧ d.shown.length ≤ sizeLine ∧ Q (.str d.shown) H
theorem reprK {X : Cx} (K : PySem.W.Frag) (eK : X.K = K) (hg : X.A.guards = some []) (hu : X.A.units + 65 < cLine) : CallR X (.builtin "repr") (rRepr K) := by
  subst eK
  intro pins s σ H xs us Q I rv h
  obtain ⟨x, d, rfl, hd, sd, hw, hz, q⟩ := h
  obtain ⟨u, rfl, ru⟩ := vals1 rv
  obtain ⟨as, rd⟩ := Dp.reads I d x u hd ru
  have hs : d.canLay0 = true ∧ d.depth ≤ 64 := by
    have : (d.canLay0 && decide (d.depth ≤ 64)) = true := sd
    simpa using this
  have nd : d.hasDict = false := PyData.hasDict_of_canLay d hs.1
  have no : d.hasDict = true → sysModules ∉ as := fun z => by rw [nd] at z; cases z
  cases rd with
  | none => exact PySem.P.repr_of_none ⟨.str _, H, I.tok _, ⟨_, rfl⟩, q⟩
  | bool b => exact PySem.P.repr_of_bool ⟨.str _, H, I.tok _, ⟨_, rfl⟩, q⟩
  | int i t => exact PySem.P.repr_of_int (by simpa [PyData.showable] using hw) ⟨.str _, H, I.tok _, ⟨_, rfl⟩, q⟩
  | str z t => exact PySem.P.repr_of_str ⟨.str _, H, I.tok _, ⟨_, rfl⟩, q⟩ hz
  | list a b c r => exact repr_of_reads' (.list a b c r) hw no hg (by omega) (fun _ _ z => z) (fun h' t tk kp => ⟨.str _, H, I.kept kp, ⟨_, rfl⟩, q⟩) hz
  | tuple a b c r => exact repr_of_reads' (.tuple a b c r) hw no hg (by omega) (fun _ _ z => z) (fun h' t tk kp => ⟨.str _, H, I.kept kp, ⟨_, rfl⟩, q⟩) hz
  | dict a b c r1 r2 => exact absurd nd (by simp [PyData.hasDict])
def reprD : DF := fun ds Q => match ds with
  | [d] => Sh d ∧ d.showable = true ∧ d.shown.length ≤ sizeLine ∧ Q (.str d.shown)
  | _ => False
theorem caA_repr {C : Cf} : CaA C (rRepr C.K) reprD := by
  intro H0 S0 Hs σ H s vs ds Q Q' r hd q k
  match vs, ds, hd with
  | [v], [d], ⟨h, _⟩ => exact ⟨v, d, rfl, h.dp r.sub q.1, q.1, q.2.1, q.2.2.1, k Hs H _ (.str _) Go.refl r (Val.mkP (Rp.str _) rfl) q.2.2.2⟩
  | [], [], _ => exact q.elim
  | _ :: _ :: _, _ :: _ :: _, _ => exact q.elim

/-! ### own classes, globals -/
def Mt (K : PySem.W.Frag) (C : Addr) (m q : Str) (st : Stmt) (ps : List Str) : Prop := ∃ (f : Addr) (fd : FuncData), Fun K m q st f fd ∧ Binds K fd ps [] ∧ Meth K C m f
def OkM (P : Program) (w : World) (K : PySem.W.Frag) (mg : Str → Option Value) (base : Heap) (C : Addr) (k : Nat) (m : Str) (ps : List Str) (sp : Sp) : Prop :=
  ∃ (f : Addr) (fd : FuncData), Meth K C m f ∧ Binds K fd ps [] ∧ FnG P w K mg base k f fd ps sp
def Gv (mg : Str → Option Value) (x : Str) (v : V) : Prop := ∃ u, mg x = some u ∧ RelV v u
/-- a class as the top made it: its name, its __init__ -/
structure Kl (K : PySem.W.Frag) (mg : Str → Option Value) (C : Addr) (x q : Str) (st : Stmt) (ps : List Str) : Prop where
  cl : Cls K C
  g : mg x = some (.ref C)
  mks : PySem.W.makesIn K C = true
  kp : PySem.W.keepIn K (.ref C) = true
  init : Mt K C "__init__" q st ps
section
variable {P : Program} {w : World} {K : PySem.W.Frag} {mg : Str → Option Value} {base : Heap}
theorem OkM.mk {m q : Str} {C : Addr} {st : Stmt} {N ps : List Str} {k : Nat} {sp : Sp} (D : Mt K C m q st ps) (S : FnScope N ps (defScope st)) (len : ∀ vs H Q E, sp vs H Q E → vs.length = ps.length)
    (hbody : ∀ (f : Addr) (cdv : Value) (A : Around) (outer : List Env) (s : Shared) (H : Hp) (vs : List V) (Q : VK) (E : XK), Rm k (A.deeper (envOfC q (defScope st) s.heap.objs.size f cdv)) → sp vs H Q E →
      ∃ t, PSs (cxOf CX0 P w K mg base N q (defScope st) f cdv A outer s H E).nox (defBody st) t ∧ t { nx := fun _ H' => Q .non H', rt := Q } (start N vs) H) : OkM P w K mg base C (k + 1) m ps sp := by
  obtain ⟨f, fd, F, b, g⟩ := D
  exact ⟨f, fd, g, b, Fun.okG F S len fun cdv A outer s H vs Q E hr hg h => hbody f cdv A outer s H vs Q E ⟨hr, hg⟩ h⟩
theorem OkM.mono {C : Addr} {m : Str} {ps : List Str} {j k : Nat} {sp : Sp} (h : OkM P w K mg base C j m ps sp) (l : j ≤ k) : OkM P w K mg base C k m ps sp := by
  obtain ⟨f, fd, hm, hb, F⟩ := h
  exact ⟨f, fd, hm, hb, F.mono l⟩
end
section
variable {X : Cx}
theorem pe_mth {pl : Sem Bool} {C : Addr} {k : Nat} {m : Str} {ps : List Str} {sp : Sp} {o e : Expr} {es : List Expr} {ta : TE} {t : TA} {apos pos : Pos} (he : PE X o ta) (c : Cls X.K C) (O : OkM X.prog X.w X.K X.mg X.base C k m ps sp) (hr : Rm k X.A) (ha : PA X (e :: es) t)
    (hst : starEach (e :: es) X.env = (false, eval e X.env) :: starEach es X.env := by rfl) (hpl : (backTo pos (starEach es X.env)).any (·.1) = false := by rfl)
    (ht : eval (.Call (.Attribute o m apos) (e :: es) [] pos) X.env = (do
      let ov ← eval o X.env
      standAt apos.atName
      let (f, first) ← holding [ov] (getMethod ov m pl)
      callWith pos f first (backTo pos (starEach (e :: es) X.env)) (backToKw pos (keywordEach [] X.env))) := by rfl) :
    PE X (.Call (.Attribute o m apos) (e :: es) [] pos) (tMeth C m sp [] E0 ta t) := by
  obtain ⟨f, fd, hm, hb, F⟩ := O
  refine ⟨fun pins s σ H Q I h => PySem.W.methodCall_KW (pl := pl) (thn (he.run pins s σ H _ I h) fun u s1 ⟨y, H1, I1, ry, a, dx, fs, ey, ea, l, q⟩ => ?_) ht⟩
  subst ey
  obtain rfl : u = Value.ref a := ry
  exact getmeth_ok I1 ea c hm l (PySem.W.callWith_K (first := [.ref a]) (h₀ := X.base) I.ok.mod.kin hm.kp (thn (ha.run pos pins s1 σ H1 _ I1 q) fun us s2 ⟨vs, H2, I2, r, q2⟩ => ⟨I2.kIn, runG (us := .ref a :: us) (vs := .ref a :: vs) F hr.toRoom hr.gd hb I2 (.cons rfl r) (by have q3 : sp (V.ref a :: (vs ++ [])) H2 Q E0 := q2; rwa [List.append_nil] at q3)⟩) hst hpl)
theorem pe_mth0 {pl : Sem Bool} {C : Addr} {k : Nat} {m : Str} {ps : List Str} {sp : Sp} {o : Expr} {ta : TE} {apos pos : Pos} (he : PE X o ta) (c : Cls X.K C) (O : OkM X.prog X.w X.K X.mg X.base C k m ps sp) (hr : Rm k X.A)
    (ht : eval (.Call (.Attribute o m apos) [] [] pos) X.env = (do
      let ov ← eval o X.env
      standAt apos.atName
      let (f, first) ← holding [ov] (getMethod ov m pl)
      callWith pos f first (backTo pos (starEach [] X.env)) (backToKw pos (keywordEach [] X.env))) := by rfl) :
    PE X (.Call (.Attribute o m apos) [] [] pos) (tMeth C m sp [] E0 ta tNil) := by
  obtain ⟨f, fd, hm, hb, F⟩ := O
  refine ⟨fun pins s σ H Q I h => PySem.W.methodCall_KW (pl := pl) (thn (he.run pins s σ H _ I h) fun u s1 ⟨y, H1, I1, ry, a, dx, fs, ey, ea, l, q⟩ => ?_) ht⟩
  subst ey
  obtain rfl : u = Value.ref a := ry
  exact getmeth_ok I1 ea c hm l (PySem.W.callWith_K0 (first := [.ref a]) I1.kIn hm.kp (runG (us := [.ref a]) (vs := [.ref a]) F hr.toRoom hr.gd hb I1 (.cons rfl .nil) q))
theorem makeG {C : Addr} {k : Nat} {f : Addr} {fd : FuncData} {ps : List Str} {sp : Sp} {pins : List (Addr × Obj)} {σ : L2.St} {H : Hp} {s : Shared} {Q : VK} {us : List Value} {vs : List V} (M : Mk X.K C f) (F : FnG X.prog X.w X.K X.mg X.base k f fd ps sp) (hr : Room (k + 1) X.A) (hg : X.A.guards = some []) (hb : Binds X.K fd ps [])
    (I : Inv X pins σ H s) (rv : Vals vs us) (h : ∀ x dx, H x = none → H dx = none → dx ≠ x → sp (.ref x :: vs) (L2.upd (L2.upd H dx (.own x)) x (.ins C dx [])) (fun v H2 => v = .non ∧ Q (.ref x) H2) E0) :
    wpAny (model X.prog X.w) X.A (call (.ref C) us) (EP X pins σ Q) X.xe s := by
  have hq := h (s.heap.objs.size + 1) s.heap.objs.size (I.hok.fresh (Nat.le_succ _)) (I.hok.fresh (Nat.le_refl _)) (Nat.ne_of_lt (Nat.lt_succ_self _))
  have J := Inv.made (C := C) I
  have r2 : Vals (V.ref (s.heap.objs.size + 1) :: vs) (Value.ref (s.heap.objs.size + 1) :: us) := .cons rfl rv
  have hl : ((Value.ref (s.heap.objs.size + 1) :: us) ++ []).length = ps.length := by
    rw [List.append_nil, ← r2.length]
    exact F.len _ _ _ _ hq
  have b := hb _ (Value.ref (s.heap.objs.size + 1) :: us) J.kIn hl
  rw [List.append_nil] at b
  refine wpAny_call (make_map (f := f) I.kIn M.makes M.init (beq_iff_eq.mp M.fn) (codeAny_mono (F.run _ X.stack _ _ ⟨_, []⟩ _ _ _ E0 (hr.make C us []) (by
      have ng : (Code.builtin "type.__call__" ⟨Value.ref C :: us, []⟩).guards = [] := by first | rfl | (with_unfolding_all rfl) | (simp [Code.guards, Code.isGuard]; done)
      show pushGuards (Code.builtin "type.__call__" ⟨Value.ref C :: us, []⟩).guards X.A.guards = some []
      rw [ng]
      exact hg) (J.env0.make C us []) b r2 hq) fun r s' z => ?_))
  match r, z with
  | .ok (.ret u), z =>
    obtain ⟨v, H', I3, rv', ev, q3⟩ := J.after z
    subst ev
    exact ⟨rv', ⟨V.ref (s.heap.objs.size + 1), H', I3, rfl, q3⟩⟩
  | .ok .next, z => exact False.elim z
  | .ok .brk, z => exact False.elim z
  | .ok .cont, z => exact False.elim z
  | .error e, z => exact False.elim z
theorem pe_new {C : Addr} {k : Nat} {x q : Str} {st : Stmt} {ps : List Str} {sp : Sp} {e : Expr} {es : List Expr} {t : TA} {p pos : Pos} (L : Kl X.K X.mg C x q st ps) (O : OkM X.prog X.w X.K X.mg X.base C k "__init__" ps sp) (hr : Rm (k + 1) X.A) (hg : Gl X x) (ha : PA X (e :: es) t)
    (hdb : (x == ("__debug__" : Str)) = false := by decide) (he : starEach (e :: es) X.env = (false, eval e X.env) :: starEach es X.env := by rfl) (hpl : (backTo pos (starEach es X.env)).any (·.1) = false := by rfl) :
    PE X (.Call (.Name x p) (e :: es) [] pos) (tMake C sp [] E0 t) := by
  obtain ⟨f, fd, hm, hb, F⟩ := O
  exact ⟨fun pins s σ H Q I h => wpAny_Call_Name_kw (ld_glob I hg L.g (PySem.W.callWith_K (h₀ := X.base) I.ok.mod.kin L.kp (thn (ha.run pos pins s σ H _ I h) fun us s1 ⟨vs, H1, I1, r, q⟩ => ⟨I1.kIn, makeG ⟨L.mks, hm.at_, hm.fn, L.kp⟩ F hr.toRoom hr.gd hb I1 r (fun y dy n1 n2 n3 => by have q3 := q y dy n1 n2 n3; rwa [List.append_nil] at q3)⟩) he hpl) hdb)⟩
theorem pe_gv {x : Str} {v : V} {pos : Pos} (hg : Gl X x) (h : Gv X.mg x v) (hd : (x == ("__debug__" : Str)) = false := by decide) : PE X (.Name x pos) (tC v) := by
  obtain ⟨u, e, r⟩ := h
  exact pe_glob hg e r hd
theorem tkEnd {e : Prop} (h : e) : e := h
end

/-! ### loops by invariants, promises of nothing, the law's own frame -/
theorem forD_ind {g : D → S → (S → Prop) → Prop} {b : DSt} {E : DEnds} {items : List D} (Inv : Nat → S → Prop) {s : S} (h0 : Inv 0 s)
    (step : ∀ i d s (N : S → Prop), items[i]? = some d → Inv i s → (∀ s', Inv (i + 1) s' → N s') → g d s fun s1 => b { E with nx := N, ct := N, bk := E.nx } s1) (fin : ∀ s, Inv items.length s → E.nx s) : forD g b E items s := by
  have : ∀ (n i : Nat) (s : S), i + n = items.length → Inv i s → forD g b E (items.drop i) s := by
    intro n
    induction n with
    | zero =>
      intro i s e h
      rw [List.drop_of_length_le (by omega)]
      exact fin s (by rw [← e, Nat.add_zero]; exact h)
    | succ n ih =>
      intro i s e h
      have hi : i < items.length := by omega
      rw [List.drop_eq_getElem_cons hi]
      exact step i _ s _ (List.getElem?_eq_getElem hi) h fun s' h' => ih (i + 1) s' (by omega) h'
  exact this items.length 0 s (by omega) h0
theorem lcD_ind {g : D → S → (S → Prop) → Prop} {c : DB} {e : DT} {vs : List Nat} {Q : List D → S → Prop} {items : List D} (Inv : Nat → List D → S → Prop) {s : S} (h0 : Inv 0 [] s)
    (step : ∀ i d acc s (N : List D → S → Prop), items[i]? = some d → Inv i acc s → (∀ acc' s', Inv (i + 1) acc' s' → N acc' s') → g d s fun s1 => c s1 fun k s2 => if k = true then e s2 fun y s3 => N (acc ++ [y]) (wipeS s3 vs) else N acc (wipeS s2 vs))
    (fin : ∀ acc s, Inv items.length acc s → Q acc s) : lcD g c e vs Q items [] s := by
  have : ∀ (n i : Nat) (acc : List D) (s : S), i + n = items.length → Inv i acc s → lcD g c e vs Q (items.drop i) acc s := by
    intro n
    induction n with
    | zero =>
      intro i acc s e h
      rw [List.drop_of_length_le (by omega)]
      exact fin acc s (by rw [← e, Nat.add_zero]; exact h)
    | succ n ih =>
      intro i acc s e h
      have hi : i < items.length := by omega
      rw [List.drop_eq_getElem_cons hi]
      exact step i _ acc s (fun acc s => lcD g c _ vs Q (items.drop (i + 1)) acc s) (List.getElem?_eq_getElem hi) h fun acc' s' h' => ih (i + 1) acc' s' (by omega) h'
  exact this items.length 0 [] s (by omega) h0
theorem rgD_len (lo : Int) (n : Nat) : (rgD lo n).length = n := by unfold rgD; rw [List.length_map, List.length_range]
theorem rgD_get {lo : Int} {n i : Nat} {d : D} (h : (rgD lo n)[i]? = some d) : i < n ∧ d = .int (lo + (i : Nat)) := by
  have hi := (List.getElem?_eq_some_iff.mp h).1
  rw [rgD_len] at hi
  refine ⟨hi, ?_⟩
  unfold rgD at h
  rw [List.getElem?_map, List.getElem?_range hi] at h
  exact (Option.some.inj h).symm
section
variable {P : Program} {w : World} {K : PySem.W.Frag} {mg : Str → Option Value} {base : Heap}
theorem Ok.no {x : Str} {st : Stmt} {N ps : List Str} {sp : Sp} (D' : Df K mg x st ps) (S' : FnScope N ps (defScope st)) (h : ∀ vs H Q E, sp vs H Q E → False) : Ok P w K mg base 1 x ps sp :=
  Ok.mk D' S' (fun vs H Q E z => (h vs H Q E z).elim) (fun f cdv A outer s H vs Q E hr z => (h vs H Q E z).elim)
theorem spN_no {n : Nat} {cat : Cat} {F : DF} (h : ∀ ds Q, F ds Q → False) : ∀ vs H Q E, spN K n cat F vs H Q E → False := fun vs H Q E ⟨_, _, _, _, _, _, f, _⟩ => h _ _ f
theorem spP_no {n : Nat} {cat : Cat} {F : DFP} (h : ∀ ds n Q, F ds n Q → False) : ∀ vs H Q E, spP K n cat F vs H Q E → False := fun vs H Q E ⟨_, _, _, _, _, _, _, _, _, _, _, _, _, f, _⟩ => h _ _ _ f
/-- the law: its pen is opened first, then the rest in the plain layer -/
theorem Ok.ofLaw {st : Stmt} {fa : Addr} {fda : FuncData} {N0 N1 : Str} {N' : List Str} {k : Nat} {M : List Nat} (F : Fun K "law" "law" st fa fda) (S' : FnScope (N0 :: N1 :: N') ["_law_script"] (defScope st)) (hM : ∀ i ∈ M, 2 ≤ i ∧ i < N'.length + 2)
    (hbody : ∀ (f : Addr) (cdv : Value) (A : Around) (outer : List Env) (s : Shared) (H : Hp) (E : XK), Rm k (A.deeper (envOfC "law" (defScope st) s.heap.objs.size f cdv)) →
      ∃ t, PSs (cxOf CX0 P w K mg base (N0 :: N1 :: N') "law" (defScope st) f cdv A outer s H E).nox (defBody st) (tSeq (tAsg (tCall (spOpen K) [] E0 (tCons (tVar 0) tNil)) (gName 1)) t) ∧
        ∀ p c, ∃ d, SimS { K := K, pen := some (p, c), ps := 1, M := M } .E t d ∧ d { nx := fun _ => False, rt := fun z _ => z = .bool true } { δ := none :: none :: List.replicate N'.length none, n := 0 }) :
    FnG P w K mg base (k + 1) fa fda ["_law_script"] (spLaw K) := by
  refine Fun.okG F S' (fun vs H Q E h => ?_) (fun cdv A outer s H vs Q E hr hg h => ?_)
  · obtain ⟨a, ns, rfl, _⟩ := h; rfl
  obtain ⟨a, ns, rfl, hS, hl, q⟩ := h
  obtain ⟨t, ht, hs⟩ := hbody fa cdv A outer s H E ⟨hr, hg⟩
  refine ⟨_, ht, ?_⟩
  refine ⟨_, rfl, a, ns, rfl, hS, hl, fun p c H1 sm np nc pe => ?_⟩
  obtain ⟨d, sd, hd⟩ := hs p c
  obtain ⟨a0, r0, ep, _⟩ := pe.pen
  obtain ⟨nn, ec⟩ := pe.cells
  have es : (L2.start (N0 :: N1 :: N') [V.ref a]).set 1 (some (.ref p)) = some (.ref a) :: some (.ref p) :: List.replicate N'.length none := by
    unfold L2.start
    rfl
  show t _ ((L2.start (N0 :: N1 :: N') [V.ref a]).set 1 (some (.ref p))) H1
  rw [es]
  have gn : ∀ i, i ∈ M → (some (V.ref a) :: some (V.ref p) :: List.replicate N'.length (none : Option V))[i]? = some none := fun i m => by
    have := hM i m
    obtain ⟨j, rfl⟩ : ∃ j, i = j + 2 := ⟨i - 2, by omega⟩
    show (List.replicate N'.length none)[j]? = some none
    rw [List.getElem?_replicate, if_pos (by omega)]
  refine sd.run H1 (fun _ => none) (fun _ => none) _ H1 _ _ _ ?_ hd ⟨fun Hs' σ' H' s' r q => q.elim, fun Hs' σ' H' s' v dd r rv e => ?_, fun _ _ _ _ _ q => q.elim, fun _ _ _ _ _ q => q.elim⟩
  · refine ⟨(by simp), (fun b o e => nomatch e), fun i dd e _ => ?_, fun i dd e m => ?_, fun i m e => gn i m, fun i j x m1 m2 e1 e2 => ?_, fun p' c' e => ?_, fun b hb => (nomatch hb), Same.refl _, fun b o _ e => e, fun b e1 e2 => absurd e1 e2⟩
    · exfalso
      match i, e with
      | j + 2, e =>
        have e : (List.replicate N'.length (none : Option D))[j]? = some (some dd) := e
        rw [List.getElem?_replicate] at e
        split at e <;> cases e
    · exfalso
      match i, e with
      | j + 2, e =>
        have e : (List.replicate N'.length (none : Option D))[j]? = some (some dd) := e
        rw [List.getElem?_replicate] at e
        split at e <;> cases e
    · rw [gn i m1] at e1
      cases e1
    · cases e
      exact ⟨rfl, pe, rfl, (by rw [ep]; simp), (by rw [ec]; simp), rfl, fun z => absurd (hM 1 z).1 (by omega), fun z => (nomatch z), fun z => (nomatch z)⟩
  · have e' : dd = .bool true := e
    subst e'
    have rv' : Rp K Hs' v (.bool true) := rv
    cases rv'
    exact q H'
end

/-- one statement, then the rest, with a word between them -/
def dCut (a b : DSt) : DSt := fun E s => ∃ Mid : S → Prop, a { E with nx := Mid } s ∧ ∀ s', Mid s' → b E s'
theorem simS_cut {C : Cf} {cat : Cat} {ts us : TS} {a b : DSt} (ha : SimS C cat ts a) (hb : SimS C cat us b) : SimS C cat (tSeq ts us) (dCut a b) :=
  ⟨fun H0 S0 Hs σ H s E D' r ⟨Mid, q, h⟩ k => ha.run H0 S0 Hs σ H s _ _ r q ⟨fun Hs σ H s r q => hb.run H0 S0 Hs σ H s E D' r (h s q) k, k.rt, k.bk, k.ct⟩⟩
theorem small9 {m : Int} (h0 : 0 < m) (h1 : m < 2 ^ 63) : m.natAbs < 2 ^ 9000 := Nat.lt_of_lt_of_le (show m.natAbs < 2 ^ 63 by omega) (Nat.pow_le_pow_right (by decide) (by decide))
theorem take_ok {m : Int} {n : Nat} {Q : D → Nat → Prop} (hn : n ≤ 1000000000) (h0 : 0 < m) (h1 : m < 2 ^ 63) (k : ∀ r : Int, 0 ≤ r → r < m → Q (.int r) (n + 1)) : TakeP m n Q := ⟨Nat.le_trans hn pen9, h0, small9 h0 h1, k⟩
theorem tk_ok {m : Int} {n : Nat} {Q : D → Nat → Prop} (hn : n ≤ penLim) (h0 : 0 < m) (h1 : m < 2 ^ 63) (k : ∀ r : Int, 0 ≤ r → r < m → Q (.int r) (n + 1)) : TakeP m n Q := ⟨hn, h0, small9 h0 h1, k⟩
theorem log_lt {n k : Nat} (h : n < 2 ^ k) (hk : 0 < k) : n.log2 < k := by
  by_cases h0 : n = 0
  · subst h0
    exact Nat.lt_of_le_of_lt (Nat.le_of_eq (by decide)) hk
  · exact (Nat.log2_lt h0).mpr h
theorem mulOk {i j : Int} (hi : i.natAbs < 2 ^ 2000) (hj : j.natAbs < 2 ^ 2000) : CMulW i j := by
  have h1 := log_lt hi (by decide)
  have h2 := log_lt hj (by decide)
  show i.natAbs.log2 + j.natAbs.log2 < 1000000
  omega
theorem lt2000 {n : Nat} (h : n < 10 ^ 40) : n < 2 ^ 2000 := Nat.lt_of_lt_of_le (show n < 2 ^ 200 from Nat.lt_of_lt_of_le h (by decide)) (Nat.pow_le_pow_right (by decide) (by decide))
theorem ix_ok {ds : List D} {i : Int} {Q : D → Prop} {d : D} (j : Nat) (e : i = (j : Int)) (h : ds[j]? = some d) (q : Q d) : IxP (atI ds i) Q := ⟨d, atI_of j e h, q⟩
theorem ixs_ok {z : Str} {i : Int} {Q : D → Prop} {c : Nat} (hz : z.length ≤ sizeLine) (e : atI z.cps.toList i = some c) (q : Q (.str ⟨#[c]⟩)) : IxS z i Q := ⟨hz, c, e, q⟩

section
variable {C : Cf} {cat : Cat} {ts us : TS} {a b : DSt}
theorem simE_cut (ha : SimS C cat ts a) (hb : SimE C cat us b) : SimE C cat (tSeq ts us) (dCut a b) :=
  ⟨fun H0 S0 Hs σ H s E D' r ⟨Mid, q, h⟩ k1 k2 k3 k4 => ha.run H0 S0 Hs σ H s _ _ r q ⟨fun Hs σ H s r q => hb.run H0 S0 Hs σ H s E D' r (h s q) k1 k2 k3 k4, fun Hs σ H s v d r rv q => k2 C.M Hs σ H s v d r rv q, k3, k4⟩⟩
end

/-! ### plain lists -/
theorem cutD_to (ds : List D) (j : Nat) : cutD ds none (some (j : Int)) = ds.take j := by
  unfold cutD
  rw [HT.sIx_none, HT.sIx_nat, List.drop_zero, Nat.sub_zero]
  rcases Nat.le_total j ds.length with h | h
  · rw [Nat.min_eq_left h]
  · rw [Nat.min_eq_right h, List.take_of_length_le (Nat.le_refl _), List.take_of_length_le h]
theorem cutD_from (ds : List D) (j : Nat) (h : j ≤ ds.length) : cutD ds (some (j : Int)) none = ds.drop j := by
  unfold cutD
  rw [HT.sIx_none, HT.sIx_nat, Nat.min_eq_left h]
  exact List.take_of_length_le (by rw [List.length_drop]; omega)
theorem prD_get {xs ys : List D} {i : Nat} {d : D} (h : (prD xs ys)[i]? = some d) : ∃ x y, xs[i]? = some x ∧ ys[i]? = some y ∧ d = .tuple [x, y] := by
  unfold prD at h
  rw [List.getElem?_map] at h
  cases e : (xs.zip ys)[i]? with
  | none => rw [e] at h; cases h
  | some p =>
    rw [e] at h
    obtain ⟨x, y⟩ := p
    obtain ⟨h1, h2⟩ := List.getElem?_zip_eq_some.mp e
    exact ⟨x, y, h1, h2, (Option.some.inj h).symm⟩
/-- data without dicts, of so many floors -/
def dat : Nat → D → Prop
  | _, .none => True
  | _, .bool _ => True
  | _, .int _ => True
  | _, .str _ => True
  | k + 1, .list ds => ds.length ≤ sizeLine ∧ ∀ d ∈ ds, dat k d
  | k + 1, .tuple ds => ds.length ≤ sizeLine ∧ ∀ d ∈ ds, dat k d
  | _, _ => False
def sameF : Nat → DF
  | 0 => fun _ _ => False
  | k + 1 => fun ds Q => match ds with
    | [a, b] => a = b ∧ dat k a ∧ Q (.bool true)
    | _ => False
theorem nin_true {n : Nat} {Q : D → Prop} (q : Q (.bool true)) : inD true (.bool false) (.list (List.replicate n (.bool true))) Q := by
  refine .inl ⟨rfl, ?_, ?_⟩
  · rw [List.all_eq_true]
    intro x hx
    rw [List.eq_of_mem_replicate hx]
    rfl
  · have : ((List.replicate n (PyData.bool true)).any fun z => eqF z (.bool false)) = false := by
      rw [List.any_eq_false]
      intro x hx
      rw [List.eq_of_mem_replicate hx]
      decide
    rw [this]
    exact q

/-! ### sum of a tuple, tuple * 0 and * 1, a display of texts indexed at once -/
section
variable {prog : Program} {w : World} {A : Around} {E : Value → Shared → Prop} {s : Shared} {l : Addr}
theorem sum_rawT {its : List Value} {ns : List Int} {Q : Value → Shared → Prop} (hh : A.handled = none) (hl : s.heap.IsTuple l its.toArray) (hi : IntsAre its ns)
    (h : ∀ h' tk t', (∀ b o, s.heap.get? b = some o → h'.get? b = some o) → Q (.int ns.sum t') { s with heap := h', toks := tk }) : wpAny (model prog w) A (call (.builtin "sum") [.ref l]) Q E s := by
  obtain ⟨xs, e⟩ := hi.allInts.items
  have hn : numsOf (intItems xs).toList = ns := by rw [← e]; exact hi.numsOf
  rw [nums_intItems] at hn
  rw [e] at hl
  have hlt : l < s.heap.objs.size := by obtain ⟨_, e, _⟩ := hl; exact Heap.lt_size e
  refine PySem.call_sum_walkG (wpAny_pyIter_tuple hl ⟨_, _, _, _, _, _, numAt xs, rfl, Walks.tuple (A := A.in1) hh _ l (Nat.ne_of_lt hlt) (intItems xs), ⟨⟨_, Heap.get?_push_size _ rfl, rfl, rfl⟩, hl.push _⟩, fun b hb => ?_, (fun _ _ => intItems_at), fun h' tk t' hk => ?_⟩)
  · show b < (s.heap.push _).objs.size
    rw [Heap.size_push]
    rcases List.mem_cons.mp hb with rfl | hb
    · exact Nat.lt_succ_self _
    · rcases List.mem_cons.mp hb with rfl | hb
      · exact Nat.lt_succ_of_lt hlt
      · cases hb
  · have hk' : ∀ b o, s.heap.get? b = some o → h'.get? b = some o := fun b o e => hk b o (fun hb => absurd (Heap.lt_size e) ((List.mem_singleton.mp hb) ▸ Nat.lt_irrefl _)) (Heap.get?_push_of_some _ e)
    have := h h' tk t' hk'
    have e2 : preSum (numAt xs) (intItems xs).size = ns.sum := by
      rw [preSum_eq, List.take_of_length_le (by simp [intItems]), hn]
    rw [e2]
    exact this
end
def rSumT (K : PySem.W.Frag) : List V → Hp → VK → Prop := fun vs H Q => ∃ (a : Addr) (ns : List Int), vs = [V.ref a] ∧ SqT K H a (ns.map V.int) ∧ Q (.int ns.sum) H
def rSumG (K : PySem.W.Frag) : List V → Hp → VK → Prop := fun xs H Q => rSum K xs H Q ∨ rSumT K xs H Q
theorem sumG {X : Cx} (K : PySem.W.Frag) (eK : X.K = K) (hc : X.calm = true) : CallR X (.builtin "sum") (rSumG K) := by
  subst eK
  refine CallR.or (cr_sum hc) ?_
  intro pins s σ H vs us Q I r h
  obtain ⟨a, ns, rfl, hs, q⟩ := h
  obtain ⟨its, rv, hl, _⟩ := I.tuple hs
  rw [Vals.ref1 r]
  exact sum_rawT (I.ok.hd hc) hl rv.ints fun h' tk t' hk => ⟨.int _, H, I.kept hk, ⟨_, rfl⟩, q⟩
def sumGD : DF := fun ds Q => match ds with
  | [d] => (match d with
    | .list xs => ∃ ns, intsOf xs = some ns ∧ Q (.int ns.sum)
    | .tuple xs => ∃ ns, intsOf xs = some ns ∧ Q (.int ns.sum)
    | _ => False)
  | _ => False
theorem caA_sumG {C : Cf} : CaA C (rSumG C.K) sumGD := by
  intro H0 S0 Hs σ H s vs ds Q Q' r hd q k
  match vs, ds, hd with
  | [v], [d], ⟨h, _⟩ =>
    cases d <;> first | exact q.elim | skip
    case list xs =>
      obtain ⟨a, ys, rfl, e1, e2⟩ := Rd'.list h
      obtain ⟨ns, e3, q⟩ := q
      rw [ints_rp e2 e3] at e1
      exact .inl ⟨a, ns, rfl, SqL.of e1, k Hs H _ (.int _) Go.refl r (Val.mkP (Rp.int _) rfl) q⟩
    case tuple xs =>
      cases h with
      | @tup a ys _ e1 e2 =>
      obtain ⟨ns, e3, q⟩ := q
      rw [ints_rp e2 e3] at e1
      exact .inr ⟨a, ns, rfl, Same.sqT r.sub e1, k Hs H _ (.int _) Go.refl r (Val.mkP (Rp.int _) rfl) q⟩
  | [], [], _ => exact q.elim
  | _ :: _ :: _, _ :: _ :: _, _ => exact q.elim
/-! tuple * 0, tuple * 1 -/
theorem tuple_mul1 (l : Addr) (items : Array Value) (n : Nat) (dd : Option Addr) (sl : Array (Option Value)) (x : Int) (u : Tok) (c0 : (decide (x < -(2 ^ 63)) || decide (x ≥ 2 ^ 63)) = false) (c1 : (items.isEmpty || x == 1) = true) :
    Meets (Builtin.«tuple.__mul__» ⟨[.ref l, .int x u], []⟩) (fun _ R s => s.heap.get? l = some { cls := .type "tuple", dict := dd, data := .seq items n, slots := sl } ∧ R (.ok (.ret (Value.ref l))) s) :=
  .of_wp fun prog w A R s h => by
    obtain ⟨hp, g, d, tk, os⟩ := s
    obtain ⟨hl, h⟩ := h
    have f1 := AutoSeq1.idx_int
    wp_walk using wpAny_loadPart' hl
    repeat (first
      | (refine wpAny_ite_false (decide_eq_false (by rw [c0]; exact Bool.false_ne_true)) ?_; wp_walk using wpAny_loadPart' hl)
      | (refine wpAny_ite_true (decide_eq_true c1) ?_; wp_walk using wpAny_loadPart' hl))
    exact ⟨_, rfl, h⟩
theorem tuple_mul0 (l : Addr) (items : Array Value) (n : Nat) (dd : Option Addr) (sl : Array (Option Value)) (x : Int) (u : Tok) (c0 : (decide (x < -(2 ^ 63)) || decide (x ≥ 2 ^ 63)) = false) (c1 : (items.isEmpty || x == 1) = false) (c2 : (decide (x ≤ 0) || items.isEmpty) = true) :
    Meets (Builtin.«tuple.__mul__» ⟨[.ref l, .int x u], []⟩) (fun _ R s => s.heap.get? l = some { cls := .type "tuple", dict := dd, data := .seq items n, slots := sl } ∧
      R (.ok (.ret (Value.ref s.heap.objs.size))) { s with heap := s.heap.push { cls := Value.type "tuple", data := Data.seq #[] }, toks := s.toks }) :=
  .of_wp fun prog w A R s h => by
    obtain ⟨hp, g, d, tk, os⟩ := s
    obtain ⟨hl, h⟩ := h
    have f1 := AutoSeq1.idx_int
    wp_walk using wpAny_loadPart' hl
    repeat (first
      | (refine wpAny_ite_false (decide_eq_false (by rw [c0]; exact Bool.false_ne_true)) ?_; wp_walk using wpAny_loadPart' hl)
      | (refine wpAny_ite_false (decide_eq_false (by rw [c1]; exact Bool.false_ne_true)) ?_; wp_walk using wpAny_loadPart' hl)
      | (refine wpAny_ite_true (decide_eq_true c2) ?_; wp_walk using wpAny_loadPart' hl))
    exact ⟨_, rfl, h⟩
def rRep01 (K : PySem.W.Frag) : R2 := fun x y H Q => ∃ l k xs, x = .ref l ∧ y = .int k ∧ SqT K H l xs ∧ 0 ≤ k ∧ k ≤ 1 ∧ (k = 1 ∨ xs = [] → Q (.ref l) H) ∧ (k = 0 → xs ≠ [] → ∀ p, H p = none → Q (.ref p) (upd H p (.tup [])))
theorem op_rep01 {X : Cx} (K : PySem.W.Frag) (eK : X.K = K) : OpR X (binaryOp .Mult) (rRep01 K) := by
  subst eK
  intro pins s σ H x y v u Q I rx ry h
  obtain ⟨l, k, xs, rfl, rfl, hT, h1, h2, q1, q0⟩ := h
  cases rx
  obtain ⟨t, rfl⟩ := ry
  obtain ⟨its, r, ⟨⟨cls, dd, data, sl⟩, ho, hc, n, hd⟩, hs⟩ := I.tuple hT
  simp only at hc hd
  subst hc hd
  have hle : its.length = xs.length := r.length.symm
  have c0 : (decide (k < -(2 ^ 63)) || decide (k ≥ 2 ^ 63)) = false := by
    rw [decide_eq_false (by omega), decide_eq_false (by omega)] <;> rfl
  by_cases hk : k = 1 ∨ xs = []
  · have c1 : (its.toArray.isEmpty || k == 1) = true := by
      rcases hk with rfl | hk
      · simp
      · rw [hk] at hle
        rw [List.eq_nil_of_length_eq_zero hle]
        rfl
    refine wpAny_binaryOp_repeat_ref (T := "tuple") (U := "int") (by decide) ⟨_, ho, rfl⟩ (fun s' => typeIs_int s' k t) noFill_tuple_mul F.fills_int_mul F.slot_int_rmul repeat_tuple F.slot_int_index.lookup
      (call_meets F.slot_int_rmul (typeIs_int s k t) F.entry_int_rmul (F.args_int_rmul_2 _ _) (int_rmul_tuple k t l its.toArray n dd sl)
        ⟨ho, rfl, ⟨_, ho, rfl⟩, call_meets F.slot_tuple_mul ⟨_, ho, rfl⟩ F.entry_tuple_mul (F.args_tuple_mul_2 _ _) (tuple_mul1 l its.toArray n dd sl k t c0 c1) ⟨ho, ?_⟩⟩)
    exact ⟨.ref l, H, I, rfl, q1 hk⟩
  · have hn : its ≠ [] := fun e => hk (.inr (by rw [e] at hle; exact List.eq_nil_of_length_eq_zero hle.symm))
    have hi : its.toArray.isEmpty = false := by
      cases its with
      | nil => exact absurd rfl hn
      | cons a b => rfl
    have k0 : k = 0 := by
      have : ¬ k = 1 := fun e => hk (.inl e)
      omega
    subst k0
    have c1 : (its.toArray.isEmpty || (0 : Int) == 1) = false := by rw [hi]; rfl
    have c2 : (decide ((0 : Int) ≤ 0) || its.toArray.isEmpty) = true := by rw [hi]; rfl
    refine wpAny_binaryOp_repeat_ref (T := "tuple") (U := "int") (by decide) ⟨_, ho, rfl⟩ (fun s' => typeIs_int s' 0 t) noFill_tuple_mul F.fills_int_mul F.slot_int_rmul repeat_tuple F.slot_int_index.lookup
      (call_meets F.slot_int_rmul (typeIs_int s 0 t) F.entry_int_rmul (F.args_int_rmul_2 _ _) (int_rmul_tuple 0 t l its.toArray n dd sl)
        ⟨ho, rfl, ⟨_, ho, rfl⟩, call_meets F.slot_tuple_mul ⟨_, ho, rfl⟩ F.entry_tuple_mul (F.args_tuple_mul_2 _ _) (tuple_mul0 l its.toArray n dd sl 0 t c0 c1 c2) ⟨ho, ?_⟩⟩)
    refine ⟨.ref s.heap.objs.size, _, I.laid (t' := s.toks) (o := .tup []) (fun b ob q => Heap.get?_push_of_some _ q) (Nat.le_refl _) ?_, rfl, q0 rfl (fun e => hk (.inr e)) _ (I.hok.fresh (Nat.le_refl _))⟩
    exact ⟨by decide, [], .nil, IsTup.new _ _⟩
def rep01D : DO := fun x y Q => match x, y with
  | .tuple a, .int k => (k = 1 ∧ Q (.tuple a)) ∨ (k = 0 ∧ Q (.tuple []))
  | _, _ => False
theorem opA_rep01 {C : Cf} : OpA C (rRep01 C.K) rep01D := by
  intro H0 S0 Hs σ H s x y dx dy Q Q' r hx hy q k
  cases dx <;> cases dy <;> first | exact q.elim | skip
  case tuple.int ds n =>
    cases hx with
    | @tup a xs _ h1 h2 =>
    cases hy
    rcases q with ⟨rfl, q⟩ | ⟨rfl, q⟩
    · exact ⟨a, 1, xs, rfl, rfl, Same.sqT r.sub h1, by decide, by decide, fun _ => k Hs H _ (.tuple ds) Go.refl r (Val.mkP (Rp.tup h1 h2) rfl) q, fun e => absurd e (by decide)⟩
    · refine ⟨a, 0, xs, rfl, rfl, Same.sqT r.sub h1, by decide, by decide, fun e => ?_, fun _ _ p np => ?_⟩
      · have e : xs = [] := e.resolve_left (by decide)
        subst e
        cases h2
        exact k Hs H _ (.tuple []) Go.refl r (Val.mkP (Rp.tup h1 .nil) rfl) q
      · obtain ⟨r', g'⟩ := r.newTup (o := .tup []) np
        exact k _ _ _ (.tuple []) g' r' (Val.mkP (Rp.tup (SqT.of upd_same) .nil) rfl) q
/-! {"a": x, "b": y}[z] -/
section
variable {C : Cf} {t1 t2 tb : TE} {d1 d2 db : DT} {c1 c2 cb : Cat}
def dSel2 (k1 k2 : Str) (d1 d2 db : DT) : DT := fun s Q => d1 s fun x s1 => d2 s1 fun y s2 => db s2 fun z s3 => (z = .str k1 ∧ Q x s3) ∨ (z = .str k2 ∧ Q y s3)
theorem sim_dsel2 {k1 k2 : Str} (hk : k1 ≠ k2) (h1 : Sim C c1 t1 d1) (h2 : Sim C c2 t2 d2) (hb : Sim C cb tb db) : Sim C .E (tOp rIxDk (tDisp [(tC (.str k1), t1), (tC (.str k2), t2)]) tb) (dSel2 k1 k2 d1 d2 db) := by
  refine ⟨fun H0 S0 Hs σ H s Q Q' r q k => fun p np => ?_⟩
  obtain ⟨f0, f1, f2, f3⟩ := r.free0 np
  have r0 := r.laid (o := .dK []) np
  have g0 : Go C σ Hs H Hs (upd H p (.dK [])) := Go.laid np
  refine h1.toE.run H0 S0 Hs σ _ s _ _ r0 q fun Hs1 H1 x dx s1 g1 r1 v1 q1 => ?_
  have p1 : H1 p = some (.dK []) := g1.kp p _ upd_same f2 f3
  have n1 : Hs1 p = none := none_of_new g1.nw f1 upd_same
  refine h2.toE.run H0 S0 Hs1 σ H1 s1 _ _ r1 q1 fun Hs2 H2 y dy s2 g2 r2 v2 q2 => ?_
  have p2 : H2 p = some (.dK []) := g2.kp p _ p1 f2 f3
  have n2 : Hs2 p = none := none_of_new g2.nw n1 p1
  refine ⟨p2, [(.inr k1, x), (.inr k2, y)], rfl, by simp, ?_⟩
  have em : mergeK [] [((.inr k1 : Key), x), (.inr k2, y)] = [(.inr k1, x), (.inr k2, y)] := by
    have : ¬ ((Sum.inr k1 : Key) = .inr k2) := fun e => hk (by cases e; rfl)
    simp [mergeK, putK, this]
  rw [em]
  have r3 := r2.updF (o := .dK [(.inr k1, x), (.inr k2, y)]) n2 f0 f2
  have g3 : Go C σ Hs H Hs2 (upd H2 p (.dK [(.inr k1, x), (.inr k2, y)])) := (g0.trans (g1.trans g2)).updF np
  refine hb.toE.run H0 S0 Hs2 σ _ s2 _ _ r3 q2 fun Hs3 H3 z dz s3 g4 r4 v4 q4 => ?_
  have p3 : H3 p = some (.dK [(.inr k1, x), (.inr k2, y)]) := g4.kp p _ upd_same f2 f3
  have v1' : Rp C.K Hs3 x dx := Rp.mono (g2.st.trans g4.st) v1
  have v2' : Rp C.K Hs3 y dy := Rp.mono g4.st v2
  have v4' : Rp C.K Hs3 z dz := v4
  rcases q4 with ⟨rfl, q4⟩ | ⟨rfl, q4⟩
  · cases v4'
    refine ⟨p, _, .inr k1, x, rfl, rfl, .inl p3, ?_, k Hs3 H3 x dx s3 (g3.trans g4) r4 v1' q4⟩
    simp [valV]
  · cases v4'
    refine ⟨p, _, .inr k2, y, rfl, rfl, .inl p3, ?_, k Hs3 H3 y dy s3 (g3.trans g4) r4 v2' q4⟩
    have : ¬ ((Sum.inr k1 : Key) = .inr k2) := fun e => hk (by cases e; rfl)
    simp [valV, this]
end
/-! str(x) of an int or a text -/
def rStrG : List V → Hp → VK → Prop := fun xs H Q => (∃ i, xs = [.int i] ∧ i.natAbs.log2 < 1920 ∧ Q (.str (toString i)) H) ∨ ∃ a, xs = [.str a] ∧ Q (.str a) H
theorem strG {X : Cx} : CallR X (.type "str") rStrG := CallR.or call_str_int SkE.call_str_str
def strGD : DF := fun ds Q => match ds with
  | [d] => (match d with
    | .int i => i.natAbs.log2 < 1920 ∧ Q (.str (toString i))
    | .str a => Q (.str a)
    | _ => False)
  | _ => False
theorem caA_strG {C : Cf} : CaA C rStrG strGD := by
  intro H0 S0 Hs σ H s vs ds Q Q' r hd q k
  match vs, ds, hd with
  | [v], [d], ⟨h, _⟩ =>
    cases d <;> first | exact q.elim | skip
    case int i =>
      cases h
      exact .inl ⟨_, rfl, q.1, k Hs H _ (.str _) Go.refl r (Val.mkP (Rp.str _) rfl) q.2⟩
    case str a =>
      cases h
      exact .inr ⟨_, rfl, k Hs H _ (.str _) Go.refl r (Val.mkP (Rp.str _) rfl) q⟩
  | [], [], _ => exact q.elim
  | _ :: _ :: _, _ :: _ :: _, _ => exact q.elim


/-! ### enumerate of a text -/
def Ites (x : Str) : It := ⟨fun i _ => i < x.cps.size, fun i H v H' => ∃ T c, v = .ref T ∧ H T = none ∧ H' = L2.upd H T (.tup [.int (i : Nat), .str ⟨#[c]⟩]) ∧ x.cps[i]? = some c, fun i _ => x.cps.size ≤ i⟩
theorem turn_enumS {P : Program} {w : World} {K : PySem.W.Frag} {elts : List Expr} {kk : Nat} {tpos : Pos} (e it : Addr) (x : Str) (t : Tok) (ty : String) (hty : ty = "str_ascii_iterator" ∨ ty = "str_iterator") :
    Turn P w K (.Tuple elts kk tpos) (Ites x) [e, it] e (fun i h => ((∃ old, IsEnum h e it ((i : Nat) : Int) old) ∧ h.IsStrIter it ty x t i ∧ e ≠ it) ∧ i ≤ x.cps.size) where
  mem := by simp
  obj := fun i h st b hb => by
    obtain ⟨⟨⟨old, he⟩, ⟨o, ho, hc, hd⟩, _⟩, _⟩ := st
    have e' : b = e ∨ b = it := by simpa using hb
    rcases e' with z | z
    · rw [z]; exact ⟨_, he, fun v q => nomatch q⟩
    · rw [z]; exact ⟨o, ho, fun v q => by rw [hd] at q; cases q⟩
  keep := fun i h h' st k => let ⟨⟨⟨old, he⟩, ⟨o, ho, r⟩, hne⟩, hl⟩ := st; ⟨⟨⟨old, k e (by simp) _ he⟩, ⟨o, k it (by simp) o ho, r⟩, hne⟩, hl⟩
  item := by
    intro X hP hw hK hc i pins s σ H E I hf st hg
    subst hP hw hK
    obtain ⟨⟨⟨old, he⟩, hit, hne⟩, _⟩ := st
    have hel : e < s.heap.objs.size := Heap.lt_size he
    have hil : it < s.heap.objs.size := by obtain ⟨_, q, _⟩ := hit; exact Heap.lt_size q
    have D : Draws X.prog X.w X.A.in1 it [it] x.cps.size (fun i v => ∃ c u, x.cps[i]? = some c ∧ v = .str ⟨#[c]⟩ u) (fun i h => h.IsStrIter it ty x t i) := by
      have hh : X.A.in1.handled = none := I.ok.hd hc
      rcases hty with z | z
      · rw [z]; exact Draws.strAscii hh it x t
      · rw [z]; exact Draws.strWide hh it x t
    refine wpAny_pyNext_enum_itemD D he hit hg hne (by simpa using hne) fun v h' tk hv ho hit' hT hsz hk => ?_
    obtain ⟨c, u, hc', rfl⟩ := hv
    refine ⟨_, rfl, wpAny_letOwnedTupleGo_enum (s := { s with heap := h', toks := tk + 1 }) ho fun h'' he' sb => ?_⟩
    have hT2 : h''.get? s.heap.objs.size = some { cls := .type "tuple", data := .seq #[.int i tk, .str ⟨#[c]⟩ u] } := (sb.2 _ (Nat.ne_of_gt hel)).trans hT
    have new : ObjOk X.prog X.w (L2.upd H s.heap.objs.size (.tup [.int (i : Nat), .str ⟨#[c]⟩])) h'' s.heap.objs.size (.tup [.int (i : Nat), .str ⟨#[c]⟩]) :=
      ⟨by show 2 ≤ sizeLine; decide, [.int i tk, .str ⟨#[c]⟩ u], .cons ⟨_, rfl⟩ (.cons ⟨_, rfl⟩ .nil), ⟨_, hT2, rfl, _, rfl⟩⟩
    have I1 : Inv X pins σ (L2.upd H s.heap.objs.size (.tup [.int (i : Nat), .str ⟨#[c]⟩])) { s with heap := h'', toks := tk + 1 } :=
      I.turnedNew (ch := [e, it]) (fun b ob hb q => (sb.2 b (fun z => hb (by simp [z]))).trans (hk b ob (fun z => hb (by simp [z])) (fun z => hb (by simp [z])) q)) hf (Nat.le_refl _) new
    have hg' : i < x.cps.size := hg
    refine ⟨.ref s.heap.objs.size, _, I1, rfl, ⟨_, c, rfl, I.hok.fresh (Nat.le_refl _), rfl, hc'⟩, ⟨⟨⟨.str ⟨#[c]⟩ u, ?_⟩, (let ⟨o, ho, r⟩ := hit'; ⟨o, (sb.2 it (Ne.symm hne)).trans ho, r⟩), hne⟩, hg'⟩, fun b hb => ?_⟩
    · have e1 : ((i + 1 : Nat) : Int) = (i : Int) + 1 := by omega
      rw [e1]; exact he'
    · have hb' : b < s.heap.objs.size := by
        have e' : b = e ∨ b = it := by simpa using hb
        rcases e' with z | z
        · rw [z]; exact hel
        · rw [z]; exact hil
      rw [upd_ne (Nat.ne_of_lt hb')]
      exact (hf b hb).1
  done := by
    intro X hP hw hK hc i pins s σ H E I hf st hg
    subst hP hw hK
    obtain ⟨⟨⟨old, he⟩, hit, hne⟩, hl⟩ := st
    have hg : x.cps.size ≤ i := hg
    have ei : i = x.cps.size := by omega
    subst ei
    have D : Draws X.prog X.w X.A.in1 it [it] x.cps.size (fun i v => ∃ c u, x.cps[i]? = some c ∧ v = .str ⟨#[c]⟩ u) (fun i h => h.IsStrIter it ty x t i) := by
      have hh : X.A.in1.handled = none := I.ok.hd hc
      rcases hty with z | z
      · rw [z]; exact Draws.strAscii hh it x t
      · rw [z]; exact Draws.strWide hh it x t
    obtain ⟨f0, f1, f2, f3, f4, f5⟩ := hf it (by simp)
    exact wpAny_pyNext_enum_endD D he hit fun h' eb => ⟨rfl, I.turned (t' := s.toks) (fun b o hb q => eb b o hb q) f0 f1 f3 f4 f5⟩
  self := fun A i s Q E st h => let ⟨⟨⟨_, he⟩, _⟩, _⟩ := st; wpAny_pyIter_enum he h
def iEnumS (ta : TA) : TI := fun σ H R => ta σ H fun vs H1 => ∃ x, vs = [.str x] ∧ R (Ites x) H1
theorem pi_enumS {X : Cx} {e : Expr} {ta : TA} {p pos tpos : Pos} {elts : List Expr} {kk : Nat} (hg : Gl X "enumerate") (hm : X.mg "enumerate" = none) (ha : PA X [e] ta) (hs : starEach [e] X.env = [(false, eval e X.env)] := by rfl) :
    PI X (.Tuple elts kk tpos) (.Call (.Name "enumerate" p) [e] [] pos) (iEnumS ta) := by
  refine ⟨fun pins s σ H R I h => ?_⟩
  refine Call_ (ld_blt I hg hm boot_enumerate (PyProof.Rows.callWith_type1 (thn (ha.run pos pins s σ H _ I h) fun us s1 ⟨vs, H1, I1, r1, q1⟩ => ?_) hs rfl))
  obtain ⟨x, ex, q⟩ := q1
  subst ex
  cases r1 with
  | cons r rr =>
    cases rr
    obtain ⟨t, rfl⟩ := r
    refine call_enumerate_str fun h' he hit hsz hk => wpAny_pyIter_enum he ?_
    have I2 : Inv X pins σ H1 { s1 with heap := h' } := I1.kept (t' := s1.toks) hk
    have hty : strIterType x = "str_ascii_iterator" ∨ strIterType x = "str_iterator" := by unfold strIterType; split <;> simp
    refine ⟨s1.heap.objs.size + 1, [s1.heap.objs.size + 1, s1.heap.objs.size], _, _, H1, rfl, I2, turn_enumS (s1.heap.objs.size + 1) s1.heap.objs.size x t _ hty, ⟨⟨⟨.none, he⟩, hit, Nat.succ_ne_self _⟩, Nat.zero_le _⟩, fun b hb => ?_, q⟩
    have e' : b = s1.heap.objs.size + 1 ∨ b = s1.heap.objs.size := by simpa using hb
    have hle : s1.heap.objs.size ≤ b := by
      rcases e' with z | z
      · rw [z]; exact Nat.le_add_right _ _
      · rw [z]; exact Nat.le_refl _
    exact I1.fpOk hle (I1.hok.fresh hle)
theorem walk_enumS {z : Str} : Walk (Ites z) z.cps.size (fun _ => True) (fun i H v H' => ∃ T c, v = .ref T ∧ H T = none ∧ H' = L2.upd H T (.tup [.int (i : Nat), .str ⟨#[c]⟩]) ∧ z.cps[i]? = some c) :=
  ⟨fun _ _ hi _ => hi, fun _ _ => Nat.le_refl _, fun _ _ _ _ _ _ y => y⟩
def dEnumS (a : DT) : DI := fun s Q => a s fun d s1 => match d with
  | .str z => Q (prD (rgD 0 (signs z).length) (signs z)) s1
  | _ => False
section
variable {C : Cf} {ca : Cat} {te : TE} {t : DT}
theorem simI_enumS (h : Sim C ca te t) : SimI C (iEnumS (tCons te tNil)) (dEnumS t) := by
  refine ⟨fun H0 S0 Hs σ H s Q Q' r q k => h.toE.run H0 S0 Hs σ H s _ _ r q fun Hs1 H1 v d s1 g1 r1 v1 q1 => ?_⟩
  cases d <;> first | exact q1.elim | skip
  rename_i z
  cases v1
  refine ⟨z, rfl, k Hs1 H1 _ _ s1 g1 r1 ?_ q1⟩
  have hl : (signs z).length = z.cps.size := by unfold signs; rw [List.length_map, Array.length_toList]
  refine ⟨_, _, by rw [enum_len, hl]; exact walk_enumS, fun H e => True.intro, fun i H v H2 H0 S0 Hs σ s hi r e y => ?_⟩
  obtain ⟨T, c, rfl, nT, rfl, e1⟩ := y
  obtain ⟨Hs2, r2, rp, g⟩ := pair_it r nT (Rp.int ((i : Nat) : Int)) (Rp.str ⟨#[c]⟩)
  refine ⟨Hs2, _, enum_get ?_, r2, rp, g⟩
  unfold signs
  rw [List.getElem?_map, Array.getElem?_toList, e1]
  rfl
end
/-! ### a text so often -/
def repS (x : Str) (n : Nat) : Str := ⟨(List.replicate n x.cps.toList).flatten.toArray⟩
def rRepS : R2 := fun x y H Q => ∃ z n, x = .str z ∧ y = .int n ∧ 0 ≤ n ∧ n < 2 ^ 62 ∧ z.length * n.toNat ≤ sizeLine ∧ Q (.str (repS z n.toNat)) H
theorem fold_app (x : Array Nat) : ∀ (n : Nat) (acc : Array Nat), (List.replicate n x).foldl (· ++ ·) acc = acc ++ (List.replicate n x.toList).flatten.toArray
  | 0, acc => by simp
  | n + 1, acc => by
    rw [List.replicate_succ, List.foldl_cons, fold_app x n]
    rw [List.replicate_succ, List.flatten_cons, Array.append_assoc]
    congr 1
    apply Array.ext'
    simp
theorem repS_len (x : Str) (n : Nat) : (repS x n).length = x.length * n := by
  unfold repS
  show (List.replicate n x.cps.toList).flatten.toArray.size = x.cps.size * n
  simp [Nat.mul_comm]
theorem op_repS {X : Cx} : OpR X (binaryOp .Mult) rRepS := by
  intro pins s σ H x y v u Q I rx ry h
  obtain ⟨z, n, rfl, rfl, h1, h2, hz, q⟩ := h
  obtain ⟨t, rfl⟩ := rx
  obtain ⟨t', rfl⟩ := ry
  by_cases h0 : n < 1
  · have e0 : n = 0 := by omega
    subst e0
    refine P.mul_str_none h0 (by decide) ?_
    have ee : repS z (0 : Int).toNat = Str.empty := by unfold repS; rfl
    rw [ee] at q
    exact ⟨.str Str.empty, H, I.tok _, ⟨_, rfl⟩, q⟩
  have hn1 : 1 ≤ n.toNat := by omega
  have hlong : Builtin.Str.tooLong (z.length * n.toNat) = false := by
    unfold Builtin.Str.tooLong
    exact decide_eq_false (by omega)
  refine P.mul_str ?_ (fun _ _ => ?_) (fun _ _ => hlong) ?_
  · rw [decide_eq_false (by omega), decide_eq_false (by omega)]; rfl
  · have hz' : (z.length : Int) * n ≤ sizeLine := by
      have e : n = ((n.toNat : Nat) : Int) := by omega
      rw [e]
      exact_mod_cast hz
    have hsz : (sizeLine : Int) ≤ 2 ^ 63 - 1 := by decide
    intro hgt
    have h3 : (z.length : Int) ≤ (2 ^ 63 - 1) / n := (Int.le_ediv_iff_mul_le (by omega)).mpr (by omega)
    omega
  · rw [if_neg (by omega)]
    have fin : repS z n.toNat = ⟨(List.replicate n.toNat z.cps).foldl (· ++ ·) #[]⟩ := by
      rw [fold_app]; unfold repS; simp
    split
    · rename_i hh
      have ez : repS z n.toNat = z := by
        rcases Bool.or_eq_true_iff.mp hh with h | h
        · have e1 : n = 1 := by simpa using h
          subst e1
          unfold repS
          simp
        · have e0 : z.cps.toList = [] := by
            have : z.length = 0 := by simpa using h
            have : z.cps.size = 0 := this
            exact List.eq_nil_of_length_eq_zero (by rw [Array.length_toList]; exact this)
          obtain ⟨zc⟩ := z
          unfold repS
          dsimp only at e0 ⊢
          rw [e0]
          have : zc = #[] := by apply Array.ext'; exact e0
          rw [this]
          simp
      rw [ez] at q
      exact ⟨.str z, H, I, ⟨_, rfl⟩, q⟩
    · rw [← fin]
      refine ⟨?_, .str (repS z n.toNat), H, I.tok _, ⟨_, rfl⟩, q⟩
      rw [repS_len]; exact hz
def repD : DO := fun x y Q => match x, y with
  | .str z, .int n => 0 ≤ n ∧ n < 2 ^ 62 ∧ z.length * n.toNat ≤ sizeLine ∧ Q (.str (repS z n.toNat))
  | _, _ => False
theorem opA_repS {C : Cf} : OpA C rRepS repD := by
  intro H0 S0 Hs σ H s x y dx dy Q Q' r hx hy q k
  cases dx <;> cases dy <;> first | exact q.elim | skip
  case str.int z n => cases hx; cases hy; exact ⟨z, n, rfl, rfl, q.1, q.2.1, q.2.2.1, k Hs H _ (.str _) Go.refl r (Val.mkP (Rp.str _) rfl) q.2.2.2⟩

/-! ### dicts with texts as keys: display, get with a default -/
theorem lt_u1 {a b : Nat} (h : a + 65 < b) : a + 1 < b := by omega
def findS : List (D × D) → Str → Option D
  | [], _ => none
  | (.str k, d) :: r, x => if k = x then some d else findS r x
  | _ :: r, x => findS r x
structure SimP (C : Cf) (ks : List Str) (trs : List (TE × TE)) (t : DA) : Prop where
  run : ∀ (H0 S0 Hs : Hp) (σ : L2.St) (H : Hp) (s : S) (Q : List D → S → Prop) (Q' : List (V × V) → Hp → Prop), R C H0 S0 Hs σ H s → t s Q →
    (∀ Hs' H' kvs ds s', Go C σ Hs H Hs' H' → R C H0 S0 Hs' σ H' s' → RpKV C.K Hs' kvs ((ks.map PyData.str).zip ds) → kvs.map Prod.fst = ks.map Sum.inr → Q ds s' → Q' (kvs.map fun kv => (kV kv.1, kv.2)) H') → tPairs trs σ H Q'
def dDisp (ks : List Str) (a : DA) : DT := fun s Q => a s fun ds s1 => Q (.dict ((ks.map PyData.str).zip ds)) s1
def dGet2 (a b c : DT) : DT := fun s Q => a s fun d s1 => match d with
  | .dict kvs => b s1 fun k s2 => c s2 fun z s3 => isKey k = true ∧ Q ((findD kvs k).getD z) s3
  | _ => False
def dGet1 (a b : DT) : DT := fun s Q => a s fun d s1 => match d with
  | .dict kvs => b s1 fun k s2 => isKey k = true ∧ Q ((findD kvs k).getD .none) s2
  | _ => False
theorem nodup_inr : ∀ {ks : List Str}, ks.Nodup → (ks.map (Sum.inr : Str → Key)).Nodup
  | [], _ => .nil
  | k :: ks, h => by
    obtain ⟨h1, h2⟩ := List.nodup_cons.mp h
    refine List.nodup_cons.mpr ⟨fun m => ?_, nodup_inr h2⟩
    obtain ⟨y, m, e⟩ := List.mem_map.mp m
    cases e
    exact h1 m
theorem merge_nodup : ∀ (kvs acc : List (Key × V)), (kvs.map Prod.fst).Nodup → (∀ k ∈ kvs.map Prod.fst, k ∉ acc.map Prod.fst) → mergeK acc kvs = acc ++ kvs
  | [], acc, _, _ => by rw [List.append_nil]; rfl
  | (k, v) :: r, acc, h, hd => by
    show mergeK (putK acc k v) r = _
    have hk : k ∉ acc.map Prod.fst := hd k (List.mem_cons_self ..)
    have e : putK acc k v = acc ++ [(k, v)] := by
      unfold putK
      rw [if_neg]
      intro z
      obtain ⟨p, m, e⟩ := List.any_eq_true.mp z
      exact hk (List.mem_map.mpr ⟨p, m, of_decide_eq_true e⟩)
    rw [e, merge_nodup r (acc ++ [(k, v)]) (List.nodup_cons.mp h).2 (fun k' m => ?_), List.append_assoc]
    · rfl
    · rw [List.map_append, List.mem_append]
      rintro (z | z)
      · exact hd k' (List.mem_cons_of_mem _ m) z
      · rw [List.map_cons, List.map_nil, List.mem_singleton] at z
        have z : k' = k := z
        rw [z] at m
        exact (List.nodup_cons.mp h).1 m
theorem find_rp {K : PySem.W.Frag} {H : Hp} {x : Str} : ∀ {kvs : List (Key × V)} {ds : List (D × D)}, RpKV K H kvs ds → (findS ds x = none ∧ valV kvs (.inr x) = none) ∨ ∃ d v, findS ds x = some d ∧ valV kvs (.inr x) = some v ∧ Rp K H v d
  | _, _, .nil => .inl ⟨rfl, rfl⟩
  | _, _, .cons (k := k) (v := v) (d := d) (vs := vs) (ds := ds) a b => by
    cases k with
    | inl i =>
      have e : findS ((keyD (.inl i), d) :: ds) x = findS ds x := rfl
      rw [e, valV_neg (p := (Sum.inl i, v)) (k := Sum.inr x) (fun z => nomatch z)]
      exact find_rp b
    | inr y =>
      by_cases h : y = x
      · subst h
        exact .inr ⟨d, v, if_pos rfl, valV_pos rfl, a⟩
      · have e : findS ((keyD (.inr y), d) :: ds) x = findS ds x := if_neg h
        rw [e, valV_neg (p := (Sum.inr y, v)) (k := Sum.inr x) (fun z => h (by injection z))]
        exact find_rp b
section
variable {C : Cf} {te ta tb tc : TE} {t da db dc : DT} {ca cb cc : Cat}
theorem simP_nil : SimP C [] [] dNil := ⟨fun H0 S0 Hs σ H s Q Q' r q k => k Hs H [] [] s Go.refl r .nil rfl q⟩
theorem simP_cons {ks : List Str} {k : Str} {trs : List (TE × TE)} {dr : DA} (ha : Sim C ca ta da) (hr : SimP C ks trs dr) : SimP C (k :: ks) ((tC (.str k), ta) :: trs) (dCons da dr) := by
  refine ⟨fun H0 S0 Hs σ H s Q Q' r q kk => ha.toE.run H0 S0 Hs σ H s _ _ r q fun Hs1 H1 x dx s1 g1 r1 v1 q1 => hr.run H0 S0 Hs1 σ H1 s1 _ _ r1 q1 fun Hs2 H2 kvs ds s2 g2 r2 v2 l2 q2 => ?_⟩
  exact kk Hs2 H2 ((.inr k, x) :: kvs) (dx :: ds) s2 (g1.trans g2) r2 (.cons (k := .inr k) (Rp.mono g2.st v1) v2) (by rw [List.map_cons, List.map_cons, l2]) q2
theorem sim_disp {ks : List Str} {trs : List (TE × TE)} {a : DA} (hk : ks.Nodup) (hl : ks.length ≤ 15) (h : SimP C ks trs a) : Sim C .F (tDisp trs) (dDisp ks a) := by
  refine ⟨fun H0 S0 Hs σ H s Q Q' r q k => fun p np => ?_⟩
  obtain ⟨f0, f1, f2, f3⟩ := r.free0 np
  have r0 := r.laid (o := .dK []) np
  have g0 : Go C σ Hs H Hs (L2.upd H p (.dK [])) := Go.laid np
  refine h.run H0 S0 Hs σ _ s _ _ r0 q fun Hs1 H1 kvs ds s1 g1 r1 v1 l1 q1 => ?_
  have p1 : H1 p = some (.dK []) := g1.kp p _ upd_same f2 f3
  have n1 : Hs1 p = none := none_of_new g1.nw f1 upd_same
  refine ⟨p1, kvs, rfl, ?_, ?_⟩
  · have := congrArg List.length l1
    rw [List.length_map, List.length_map] at this
    omega
  have em : mergeK [] kvs = kvs := by
    have := merge_nodup kvs [] (by rw [l1]; exact nodup_inr hk) (fun k _ m => nomatch m)
    rw [List.nil_append] at this
    exact this
  rw [em]
  have r2 := r1.updF (o := .dK kvs) n1 f0 f2
  have g2 : Go C σ Hs H Hs1 (L2.upd H1 p (.dK kvs)) := (g0.trans g1).updF np
  exact k Hs1 _ _ (.dict ((ks.map PyData.str).zip ds)) s1 g2 r2 (Val.mkC ⟨_, upd_same, n1, f0, np, .dic v1, f2⟩) q1
theorem sim_dget2 (ha : Sim C ca ta da) (hb : Sim C cb tb db) (hc : Sim C cc tc dc) : Sim C .E (tDGet2 ta tb tc) (dGet2 da db dc) := by
  refine ⟨fun H0 S0 Hs σ H s Q Q' r q k => ha.toE.run H0 S0 Hs σ H s _ _ r q fun Hs1 H1 x dx s1 g1 r1 v1 q1 => ?_⟩
  cases dx <;> first | exact q1.elim | skip
  have v1' : Rp C.K Hs1 x _ := v1
  cases v1' with
  | dic e1 e2 =>
  refine ⟨_, rfl, .inl ⟨_, rd_same r1.sub e1⟩, ?_⟩
  refine hb.toE.run H0 S0 Hs1 σ H1 s1 _ _ r1 q1 fun Hs2 H2 y dy s2 g2 r2 v2 q2 => ?_
  refine hc.toE.run H0 S0 Hs2 σ H2 s2 _ _ r2 q2 fun Hs3 H3 z dz s3 g3 r3 v3 q3 => ?_
  obtain ⟨hk, q3⟩ := q3
  obtain ⟨kx, rfl⟩ := isKey_of hk
  have v2' : Rp C.K Hs2 y (keyD kx) := v2
  obtain rfl := v2'.key
  have e1' := rd_same g3.st (rd_same g2.st e1)
  have e2' := RpKV.mono (g2.st.trans g3.st) e2
  refine ⟨_, .inl ⟨_, kx, rd_same r3.sub e1', rfl, rfl⟩, ?_⟩
  rcases findD_rp (x := kx) e2' with ⟨f1, f2⟩ | ⟨d, v, f1, f2, f3⟩
  · rw [f2]
    rw [f1] at q3
    exact k Hs3 H3 z dz s3 (g1.trans (g2.trans g3)) r3 v3 q3
  · rw [f2]
    rw [f1] at q3
    exact k Hs3 H3 v d s3 (g1.trans (g2.trans g3)) r3 f3 q3
theorem sim_dget1 (ha : Sim C ca ta da) (hb : Sim C cb tb db) : Sim C .E (tDGet1 ta tb) (dGet1 da db) := by
  refine ⟨fun H0 S0 Hs σ H s Q Q' r q k => ha.toE.run H0 S0 Hs σ H s _ _ r q fun Hs1 H1 x dx s1 g1 r1 v1 q1 => ?_⟩
  cases dx <;> first | exact q1.elim | skip
  have v1' : Rp C.K Hs1 x _ := v1
  cases v1' with
  | dic e1 e2 =>
  refine ⟨_, rfl, .inl ⟨_, rd_same r1.sub e1⟩, ?_⟩
  refine hb.toE.run H0 S0 Hs1 σ H1 s1 _ _ r1 q1 fun Hs2 H2 y dy s2 g2 r2 v2 q2 => ?_
  obtain ⟨hk, q2⟩ := q2
  obtain ⟨kx, rfl⟩ := isKey_of hk
  have v2' : Rp C.K Hs2 y (keyD kx) := v2
  obtain rfl := v2'.key
  have e1' := rd_same g2.st e1
  have e2' := RpKV.mono g2.st e2
  refine ⟨_, .inl ⟨_, kx, rd_same r2.sub e1', rfl, rfl⟩, ?_⟩
  rcases findD_rp (x := kx) e2' with ⟨f1, f2⟩ | ⟨d, v, f1, f2, f3⟩
  · rw [f2]
    rw [f1] at q2
    exact k Hs2 H2 .non .none s2 (g1.trans g2) r2 .non q2
  · rw [f2]
    rw [f1] at q2
    exact k Hs2 H2 v d s2 (g1.trans g2) r2 f3 q2
/-- {} -/
theorem sim_dnew : Sim C .F tDNewK (dC (.dict [])) := by
  refine ⟨fun H0 S0 Hs σ H s Q Q' r q k => fun p np => ?_⟩
  exact k Hs _ _ (.dict []) s (Go.laid np) (r.laid np) (r.newC np (.dic .nil)) q
/-! d[k] = v, of its own -/
def putD (kvs : List (D × D)) (k v : D) : List (D × D) := if (findD kvs k).isSome = true then kvs.map fun kv => if keyIs kv.1 k = true then (kv.1, v) else kv else kvs ++ [(k, v)]
theorem RpKV.map {K : PySem.W.Frag} {H : Hp} {k : Key} {v : V} {d : D} (hv : Rp K H v d) : ∀ {kvs : List (Key × V)} {ds : List (D × D)}, RpKV K H kvs ds → RpKV K H (kvs.map fun kv => if kv.1 = k then (kv.1, v) else kv) (ds.map fun kv => if keyIs kv.1 (keyD k) = true then (kv.1, d) else kv)
  | _, _, .nil => .nil
  | _, _, .cons (k := k') (v := v') (d := d') a b => by
    rw [List.map_cons, List.map_cons]
    have e : keyIs (keyD k') (keyD k) = decide (k' = k) := keyIs_key _ _
    by_cases h : k' = k
    · rw [if_pos h, if_pos (by rw [e, decide_eq_true h])]
      exact .cons hv (RpKV.map hv b)
    · rw [if_neg h, if_neg (by rw [e, decide_eq_false h]; exact Bool.false_ne_true)]
      exact .cons a (RpKV.map hv b)
theorem RpKV.snoc {K : PySem.W.Frag} {H : Hp} {k : Key} {v : V} {d : D} (hv : Rp K H v d) : ∀ {kvs : List (Key × V)} {ds : List (D × D)}, RpKV K H kvs ds → RpKV K H (kvs ++ [(k, v)]) (ds ++ [(keyD k, d)])
  | _, _, .nil => .cons hv .nil
  | _, _, .cons a b => .cons a (RpKV.snoc hv b)
theorem RpKV.put {K : PySem.W.Frag} {H : Hp} {kvs : List (Key × V)} {ds : List (D × D)} {k : Key} {v : V} {d : D} (h : RpKV K H kvs ds) (hv : Rp K H v d) : RpKV K H (putK kvs k v) (putD ds (keyD k) d) := by
  unfold putK putD
  rw [findD_is h, valV_any]
  cases e : (valV kvs k).isSome with
  | true => rw [if_pos rfl, if_pos rfl]; exact h.map hv
  | false => rw [if_neg Bool.false_ne_true, if_neg Bool.false_ne_true]; exact h.snoc hv
def dSetK (i : Nat) (a j : DT) : DSt := fun E s => a s fun d s1 => (∃ z, s1.δ[i]? = some (some (.dict z))) ∧ j s1 fun k s2 => isKey k = true ∧ match s2.δ[i]? with
  | some (some (.dict kvs)) => kvs.length < sizeLine ∧ E.nx { s2 with δ := s2.δ.set i (some (.dict (putD kvs k d))) }
  | _ => False
theorem simS_setK {cat : Cat} (i : Nat) (hi : i ∈ C.M) (h : Sim C ca ta da) (hj : Sim C cb tb db) : SimS C cat (sDPut (tVar i) tb ta) (dSetK i da db) := by
  refine ⟨fun H0 S0 Hs σ H s E D' r q k => h.toE.run H0 S0 Hs σ H s _ _ r q fun Hs1 H1 v d s1 g1 r1 v1 q1 => ?_⟩
  obtain ⟨⟨z, ez⟩, q1⟩ := q1
  obtain ⟨b, o, e1, e2, e3, e4, _⟩ := r1.mt i _ ez hi
  refine ⟨_, e1, hj.toE.run H0 S0 Hs1 σ H1 s1 _ _ r1 q1 fun Hs2 H2 y dy s2 g2 r2 v2 q2 => ?_⟩
  obtain ⟨hk, q2⟩ := q2
  obtain ⟨kx, rfl⟩ := isKey_of hk
  have v2' : Rp C.K Hs2 y (keyD kx) := v2
  obtain rfl := v2'.key
  split at q2
  · rename_i kvs ex
    obtain ⟨b', o', f1, f2, f3, f4, _⟩ := r2.mt i _ ex hi
    rw [e1] at f1
    cases f1
    cases f4 with
    | dic f4 =>
      rename_i xs
      obtain ⟨r3, g3⟩ := r2.upd hi ex e1 (.dic (f4.put (k := kx) (Rp.mono g2.st v1)))
      exact ⟨b, _, rfl, DPut.k f2 (by rw [f4.len]; exact q2.1), k.nx Hs2 σ _ _ r3 q2.2⟩
  · exact q2.elim
/-! dict(d), dict([(k, v), ..]) -/
def pairsOf : List D → Option (List (D × D))
  | [] => some []
  | .tuple [k, v] :: r => if isKey k = true then (pairsOf r).map ((k, v) :: ·) else none
  | _ :: _ => none
def mergeD (acc : List (D × D)) (more : List (D × D)) : List (D × D) := more.foldl (fun a kv => putD a kv.1 kv.2) acc
theorem RpKV.merge {K : PySem.W.Frag} {H : Hp} : ∀ {more : List (Key × V)} {ms : List (D × D)} {kvs : List (Key × V)} {ds : List (D × D)}, RpKV K H more ms → RpKV K H kvs ds → RpKV K H (mergeK kvs more) (mergeD ds ms)
  | _, _, _, _, .nil, h => h
  | _, _, _, _, .cons (k := k) a b, h => by
    have := RpKV.merge b (h.put (k := k) a)
    exact this
theorem pairs_rp {K : PySem.W.Frag} {Hs H : Hp} (sub : Same Hs H) : ∀ {xs : List V} {ds : List D} {kvs : List (D × D)}, RpAll K Hs xs ds → pairsOf ds = some kvs → ∃ (ps : List Addr) (ks : List (Key × V)), xs = ps.map V.ref ∧ Paired (fun p kv => SqT K H p [kV kv.1, kv.2]) ps ks ∧ RpKV K Hs ks kvs
  | _, _, _, .nil, e => by cases e; exact ⟨[], [], rfl, .nil, .nil⟩
  | _, _, kvs, .cons (d := d) (ds := r1) a b, e => by
    unfold pairsOf at e
    split at e
    · rename_i e0; cases e0
    · rename_i k0 v0 r0 e0
      injection e0 with e1 e2
      subst e1 e2
      split at e
      · rename_i hk
        obtain ⟨kk, rfl⟩ := isKey_of hk
        cases e3 : pairsOf r1 with
        | none => rw [e3] at e; cases e
        | some w =>
          rw [e3] at e
          cases e
          obtain ⟨ps, ks, rfl, h2, h3⟩ := pairs_rp sub b e3
          cases a with
          | @tup t zs _ h4 h5 =>
            cases h5 with
            | cons h6 h7 =>
              cases h7 with
              | cons h8 h9 =>
                cases h9
                obtain rfl := h6.key
                exact ⟨t :: ps, (kk, _) :: ks, rfl, .cons (Same.sqT sub h4) h2, .cons h8 h3⟩
      · cases e
    · cases e
def rDictG (K : PySem.W.Frag) : List V → Hp → VK → Prop := fun xs H Q => (∃ (a : Addr) (kvs : List (Key × V)), xs = [.ref a] ∧ Rd H a (.dK kvs) ∧ ∀ p, H p = none → Q (.ref p) (upd H p (.dK kvs))) ∨
  (∃ (a : Addr) (ps : List Addr) (kvs : List (Key × V)), xs = [.ref a] ∧ SqL K H a (ps.map V.ref) ∧ Paired (fun p kv => SqT K H p [kV kv.1, kv.2]) ps kvs ∧ ∀ p, H p = none → Q (.ref p) (upd H p (.dK (mergeK [] kvs))))
theorem dictG {X : Cx} (K : PySem.W.Frag) (eK : X.K = K) (hc : X.calm = true) : CallR X (.type "dict") (rDictG K) := by
  subst eK
  exact CallR.or call_dictD (call_dictP hc)
def dictD : DF := fun ds Q => match ds with
  | [d] => (match d with
    | .dict kvs => Q (.dict kvs)
    | .list ps => ∃ kvs, pairsOf ps = some kvs ∧ Q (.dict (mergeD [] kvs))
    | _ => False)
  | _ => False
theorem caA_dict : CaA C (rDictG C.K) dictD := by
  intro H0 S0 Hs σ H s vs ds Q Q' r hd q k
  match vs, ds, hd with
  | [v], [d], ⟨h, _⟩ =>
    cases d <;> first | exact q.elim | skip
    case dict kvs =>
      obtain ⟨a, ls, rfl, e1, e2⟩ := Rd'.dict h
      exact .inl ⟨a, ls, rfl, e1, fun p np => k Hs _ _ (.dict kvs) (Go.laid np) (r.laid np) (r.newC np (.dic e2)) q⟩
    case list ps =>
      obtain ⟨a, xs, rfl, e1, e2⟩ := Rd'.list h
      obtain ⟨kvs, e3, q⟩ := q
      obtain ⟨as, ks, rfl, h2, h3⟩ := pairs_rp r.sub e2 e3
      exact .inr ⟨a, as, ks, rfl, SqL.of e1, h2, fun p np => k Hs _ _ (.dict _) (Go.laid np) (r.laid np) (r.newC np (.dic (h3.merge .nil))) q⟩
  | [], [], _ => exact q.elim
  | _ :: _ :: _, _ :: _ :: _, _ => exact q.elim
/-! sorted -/
def sortD : DF := fun ds Q => match ds with
  | [d] => (match d with
    | .dict kvs => ∃ ks : List Str, kvs.map Prod.fst = ks.map PyData.str ∧ ks.length < 64 ∧ ∀ ys : List Str, ys.Perm ks → sortedS ys = true → Q (.list (ys.map PyData.str))
    | .list xs => ∃ ks : List Str, xs = ks.map PyData.str ∧ ks.length < 64 ∧ ∀ ys : List Str, ys.Perm ks → sortedS ys = true → Q (.list (ys.map PyData.str))
    | _ => False)
  | _ => False
def rSortG (K : PySem.W.Frag) : List V → Hp → VK → Prop := fun xs H Q => (∃ (a : Addr) (kvs : List (Key × V)) (ks : List Str), xs = [.ref a] ∧ Rd H a (.dK kvs) ∧ kvs.map (·.1) = ks.map Sum.inr ∧ ks.length < 64 ∧
    ∀ ys p, ys.Perm ks → sortedS ys = true → H p = none → Q (.ref p) (upd H p (.lst (ys.map V.str)))) ∨
  rSortedS K xs H Q
theorem sortG {X : Cx} (K : PySem.W.Frag) (eK : X.K = K) (hc : X.calm = true) : CallR X (.builtin "sorted") (rSortG K) := by
  subst eK
  exact CallR.or (call_sortedD hc) cr_sortedS
theorem strs_map {K : PySem.W.Frag} {H : Hp} : ∀ {xs : List V} {ks : List Str}, RpAll K H xs (ks.map PyData.str) → xs = ks.map V.str
  | _, [], h => by cases h; rfl
  | _, k :: ks, h => by
    cases h with
    | cons a b => cases a; rw [strs_map b]; rfl
theorem strs_rp' {K : PySem.W.Frag} {H : Hp} : ∀ ys : List Str, RpAll K H (ys.map V.str) (ys.map PyData.str)
  | [] => .nil
  | y :: ys => .cons (.str y) (strs_rp' ys)
theorem keys_map {K : PySem.W.Frag} {H : Hp} : ∀ {kvs : List (Key × V)} {ds : List (D × D)} {ks : List Str}, RpKV K H kvs ds → ds.map Prod.fst = ks.map PyData.str → kvs.map (·.1) = ks.map Sum.inr
  | _, _, [], .nil, _ => rfl
  | _, _, k :: ks, .nil, e => by cases e
  | _, _, [], .cons a b, e => by cases e
  | _, _, k :: ks, .cons (k := kk) a b, e => by
    rw [List.map_cons, List.map_cons] at e
    injection e with e1 e2
    rw [List.map_cons, List.map_cons, keys_map b e2]
    cases kk with
    | inl i => cases e1
    | inr z => cases e1; rfl
theorem caA_sort : CaA C (rSortG C.K) sortD := by
  intro H0 S0 Hs σ H s vs ds Q Q' r hd q k
  match vs, ds, hd with
  | [v], [d], ⟨h, _⟩ =>
    cases d <;> first | exact q.elim | skip
    case dict kvs =>
      obtain ⟨a, ls, rfl, e1, e2⟩ := Rd'.dict h
      obtain ⟨ks, e3, hl, q⟩ := q
      exact .inl ⟨a, ls, ks, rfl, e1, keys_map e2 e3, hl, fun ys p hp hs np => k Hs _ _ (.list _) (Go.laid np) (r.laid np) (r.newList np (strs_rp' ys)) (q ys hp hs)⟩
    case list xs =>
      obtain ⟨a, ls, rfl, e1, e2⟩ := Rd'.list h
      obtain ⟨ks, rfl, hl, q⟩ := q
      obtain rfl := strs_map e2
      exact .inr ⟨a, ks, rfl, SqL.of e1, hl, fun ys p hp hs np => k Hs _ _ (.list _) (Go.laid np) (r.laid np) (r.newList np (strs_rp' ys)) (q ys hp hs)⟩
  | [], [], _ => exact q.elim
  | _ :: _ :: _, _ :: _ :: _, _ => exact q.elim
end



/-! ### a list or dict that a def changes for its caller -/
def spB (K : PySem.W.Frag) (j n : Nat) (F : List D → (D → D → Prop) → Prop) : Sp := fun vs H Q _ => ∃ (Hs : Hp) (ds : List D) (Q0 : D → D → Prop) (p : Addr) (o : HO) (dj : D), Same Hs H ∧ vs[j]? = some (.ref p) ∧ H p = some o ∧ Hs p = none ∧ Cn K Hs o dj ∧ vs.length = n ∧ ds.length = n ∧ ds[j]? = some dj ∧
  (∀ i v d, i ≠ j → vs[i]? = some v → ds[i]? = some d → Rp K Hs v d) ∧ F ds Q0 ∧
  ∀ d dj' Hs' H' v o', Q0 d dj' → Same Hs Hs' → Same Hs' H' → But p H H' → (∀ b, Hs b = none → Hs' b ≠ none → H b = none) → Hs' p = none → H' p = some o' → Cn K Hs' o' dj' → Rp K Hs' v d → Q v H'
section
variable {C : Cf} {σ : L2.St} {H0 S0 Hs H Hs' H' : Hp} {s : S}
theorem R.stepB {i : Nat} {b : Addr} {dj dj' : D} {o' : HO} (r : R C H0 S0 Hs σ H s) (hi : i ∈ C.M) (es : σ[i]? = some (some (.ref b))) (hd : s.δ[i]? = some (some dj)) (st : Same Hs Hs') (sb : Same Hs' H') (hh : But b H H') (nw : ∀ b, Hs b = none → Hs' b ≠ none → H b = none) (nb : Hs' b = none) (ho : H' b = some o') (c : Cn C.K Hs' o' dj') :
    R C H0 S0 Hs' σ H' { s with δ := s.δ.set i (some dj') } ∧ Go C σ Hs H Hs' H' := by
  have hil : i < s.δ.length := (List.getElem?_eq_some_iff.mp hd).1
  obtain ⟨b0, o0, e1, e2, e3, e4, e5⟩ := r.mt i dj hd hi
  rw [es] at e1
  obtain rfl : b = b0 := by cases e1; rfl
  have bne : ∀ {x : Addr}, H0 x ≠ none → x ∉ C.bor → x ≠ b := fun h1 h2 z => by
    subst z
    rcases e5 with e5 | e5
    · exact h1 e5
    · exact h2 e5
  have sete : (s.δ.set i (some dj'))[i]? = some (some dj') := by rw [List.getElem?_set_self hil]
  have setn : ∀ k, k ≠ i → (s.δ.set i (some dj'))[k]? = s.δ[k]? := fun k h => List.getElem?_set_ne (Ne.symm h)
  refine ⟨⟨by rw [List.length_set]; exact r.len, sb, fun k d e m => ?_, fun k d e m => ?_, fun k m e => ?_, r.sep, fun p c' e => ?_, r.br, r.s0.trans st, fun b' o n e => ?_, fun b' h1 h2 => ?_⟩, st, fun b' o e n m => ?_, fun b' o e => ?_, nw⟩
  · have hk : k ≠ i := fun z => m (by rw [z]; exact hi)
    have e : (s.δ.set i (some dj'))[k]? = some (some d) := e
    rw [setn k hk] at e
    obtain ⟨v, f1, f2⟩ := r.slot k d e m
    exact ⟨v, f1, Rp.mono st f2⟩
  · have e : (s.δ.set i (some dj'))[k]? = some (some d) := e
    by_cases hk : k = i
    · subst hk
      rw [sete] at e
      cases e
      exact ⟨b, o', es, ho, nb, c, e5⟩
    · rw [setn k hk] at e
      obtain ⟨a, u, f1, f2, f3, f4, f5⟩ := r.mt k d e m
      have hab : a ≠ b := fun z => hk (r.sep k i a m hi f1 (by rw [z]; exact es))
      exact ⟨a, u, f1, hh a u hab f2, none_of_new nw f3 f2, f4.mono st, f5⟩
  · have e : (s.δ.set i (some dj'))[k]? = some none := e
    have hk : k ≠ i := fun z => by subst z; rw [sete] at e; cases e
    rw [setn k hk] at e
    exact r.dead k m e
  · obtain ⟨f1, f2, f3, f4, f5, f6, f7, f8, f9⟩ := r.pn p c' e
    have pb : p ≠ b := bne f4 f8
    have cb : c' ≠ b := bne f5 f9
    obtain ⟨_, _, ep, _⟩ := f2.pen
    refine ⟨f1, f2.but (q := b) hh pb cb, none_of_new nw f3 ep, f4, f5, ?_, f7, f8, f9⟩
    have hk : C.ps ≠ i := fun z => f7 (by rw [z]; exact hi)
    show (s.δ.set i (some dj'))[C.ps]? = some none
    rw [setn _ hk]
    exact f6
  · have hb : b' ≠ b := fun z => by
      subst z
      rcases e5 with e5 | e5
      · rw [e5] at e; cases e
      · exact n (.inr e5)
    exact hh b' o hb (r.h0 b' o n e)
  · cases q : Hs b' with
    | some o => exact r.new b' h1 (by rw [q]; exact fun z => nomatch z)
    | none => exact (r.free0 (nw b' q h2)).1
  · have hb : b' ≠ b := fun z => n ⟨i, hi, by rw [z]; exact es⟩
    exact hh b' o hb e
  · by_cases hb : b' = b
    · exact ⟨o', by rw [hb]; exact ho⟩
    · exact ⟨o, hh b' o hb e⟩
/-- the arguments of a call, the one at j a list or dict of its own -/
structure SimB (C : Cf) (i j n : Nat) (ta : TA) (t : DA) : Prop where
  run : ∀ (H0 S0 Hs : Hp) (σ : L2.St) (H : Hp) (s : S) (Q : List D → S → Prop) (Q' : List V → Hp → Prop), R C H0 S0 Hs σ H s → t s Q →
    (∀ Hs' H' vs ds s', Go C σ Hs H Hs' H' → R C H0 S0 Hs' σ H' s' → (∃ b, σ[i]? = some (some (.ref b)) ∧ vs[j]? = some (.ref b)) → vs.length = n → ds.length = n → (∀ k v d, k ≠ j → vs[k]? = some v → ds[k]? = some d → Rp C.K Hs' v d) → Q ds s' → Q' vs H') → ta σ H Q'
def dHole (i : Nat) (r : DA) : DA := fun s Q => (∃ d, s.δ[i]? = some (some d)) ∧ r s fun ds s1 => Q (.none :: ds) s1
theorem RpAll.at {K : PySem.W.Frag} {H : Hp} {vs : List V} {ds : List D} (h : RpAll K H vs ds) {k : Nat} {v : V} {d : D} (e1 : vs[k]? = some v) (e2 : ds[k]? = some d) : Rp K H v d := by
  obtain ⟨x, e, r⟩ := h.get e2
  rw [e1] at e
  cases e
  exact r
theorem simB_here {i n : Nat} {ta : TA} {t : DA} (hi : i ∈ C.M) (h : SimA C n ta t) : SimB C i 0 (n + 1) (tCons (tVar i) ta) (dHole i t) := by
  refine ⟨fun H0 S0 Hs σ H s Q Q' r ⟨⟨d, e⟩, q⟩ k => ?_⟩
  obtain ⟨b, o, e1, _⟩ := r.mt i d e hi
  refine ⟨.ref b, e1, h.run H0 S0 Hs σ H s _ _ r q fun Hs1 H1 vs ds s1 g1 r1 v1 l1 q1 => ?_⟩
  refine k Hs1 H1 _ _ s1 g1 r1 ⟨b, e1, rfl⟩ (by rw [List.length_cons, v1.len, l1]) (by rw [List.length_cons, l1]) (fun j v d hj ev ed => ?_) q1
  cases j with
  | zero => exact absurd rfl hj
  | succ j => exact v1.at (k := j) ev ed
theorem simB_cons {i j n : Nat} {ca : Cat} {te : TE} {dt : DT} {ta : TA} {t : DA} (ha : Sim C ca te dt) (h : SimB C i j n ta t) : SimB C i (j + 1) (n + 1) (tCons te ta) (dCons dt t) := by
  refine ⟨fun H0 S0 Hs σ H s Q Q' r q k => ?_⟩
  refine ha.toE.run H0 S0 Hs σ H s _ _ r q fun Hs1 H1 v d s1 g1 r1 v1 q1 => ?_
  refine h.run H0 S0 Hs1 σ H1 s1 _ _ r1 q1 fun Hs2 H2 vs ds s2 g2 r2 hb l1 l2 ap q2 => ?_
  refine k Hs2 H2 _ _ s2 (g1.trans g2) r2 hb (by rw [List.length_cons, l1]) (by rw [List.length_cons, l2]) (fun m x y hm ex ey => ?_) q2
  cases m with
  | zero => cases ex; cases ey; exact Rp.mono g2.st v1
  | succ m => exact ap m x y (fun z => hm (by rw [z])) ex ey
def dCallB (F : List D → (D → D → Prop) → Prop) (i j : Nat) (a : DA) : DT := fun s Q => a s fun ds s1 => match s1.δ[i]? with
  | some (some dj) => F (ds.set j dj) fun d dj' => Q d { s1 with δ := s1.δ.set i (some dj') }
  | _ => False
theorem sim_callB {i j n : Nat} {F : List D → (D → D → Prop) → Prop} {ta : TA} {a : DA} (hi : i ∈ C.M) (hj : j < n) (h : SimB C i j n ta a) : Sim C .E (tCall (spB C.K j n F) [] E0 ta) (dCallB F i j a) := by
  refine ⟨fun H0 S0 Hs σ H s Q Q' r q k => h.run H0 S0 Hs σ H s _ _ r q fun Hs1 H1 vs ds s1 g1 r1 ⟨b, eb, ev⟩ l1 l2 ap q1 => ?_⟩
  rw [List.append_nil]
  split at q1
  · rename_i dj ej
    obtain ⟨b', o, e1, e2, e3, e4, e5⟩ := r1.mt i dj ej hi
    rw [eb] at e1
    cases e1
    refine ⟨Hs1, ds.set j dj, _, b, o, dj, r1.sub, ev, e2, e3, e4, l1, by rw [List.length_set]; exact l2, by rw [List.getElem?_set_self (by omega)], fun m v d hm e1 e2 => ?_, q1, fun d dj' Hs' H' v o' q2 st sb hh nw np ho cn rp => ?_⟩
    · rw [List.getElem?_set_ne (Ne.symm hm)] at e2
      exact ap m v d hm e1 e2
    · obtain ⟨r2, g2⟩ := r1.stepB hi eb ej st sb hh nw np ho cn
      exact k Hs' H' v d _ (g1.trans g2) r2 rp q2
  · exact q1.elim
end
section
variable {P : Program} {w : World} {K : PySem.W.Frag} {mg : Str → Option Value} {base : Heap}
theorem RpSlots {H : Hp} {p : Addr} : ∀ {vs : List V} {ds : List D} (N : List Str) (j : Nat), vs.length = ds.length → (∀ i v d, i ≠ j → vs[i]? = some v → ds[i]? = some d → Rp K H v d) → (L2.start N vs).length = (start' N.length ds).length ∧ ∀ (i : Nat) (d : D), i ≠ j → (start' N.length ds)[i]? = some (some d) → ∃ v, (L2.start N vs)[i]? = some (some v) ∧ Rp K H v d := by
  intro vs ds N j hl h
  unfold L2.start start'
  refine ⟨by rw [List.length_append, List.length_append, List.length_map, List.length_map, List.length_replicate, List.length_replicate, hl], fun i d hij e => ?_⟩
  by_cases hi : i < ds.length
  · rw [List.getElem?_append_left (by rw [List.length_map]; exact hi), List.getElem?_map] at e
    rw [List.getElem?_append_left (by rw [List.length_map, hl]; exact hi), List.getElem?_map]
    cases q : ds[i]? with
    | none => rw [q] at e; cases e
    | some d' =>
      rw [q] at e
      cases e
      have hv : i < vs.length := by rw [hl]; exact hi
      refine ⟨vs[i], by rw [List.getElem?_eq_getElem hv]; rfl, h i _ d hij (List.getElem?_eq_getElem hv) q⟩
  · rw [List.getElem?_append_right (by rw [List.length_map]; omega), List.getElem?_replicate] at e
    split at e <;> cases e
/-- a def that changes the list or dict handed in at j -/
theorem Ok.ofB {x : Str} {st : Stmt} {N ps : List Str} {k j n : Nat} {M : List Nat} {F : List D → (D → D → Prop) → Prop} (D' : Df K mg x st ps) (S' : FnScope N ps (defScope st)) (hn : ps.length = n) (hj : j < n) (hM : ∀ i ∈ M, n ≤ i ∧ i < N.length)
    (hbody : ∀ (f : Addr) (cdv : Value) (A : Around) (outer : List Env) (s : Shared) (H : Hp) (E : XK) (p : Addr), Rm k (A.deeper (envOfC x (defScope st) s.heap.objs.size f cdv)) →
      ∃ t d, PSs (cxOf CX0 P w K mg base N x (defScope st) f cdv A outer s H E).nox (defBody st) t ∧ SimS { K := K, pen := none, ps := 1000, M := j :: M, bor := [p], bs := [j] } .E t d ∧ ∀ ds (Q : D → D → Prop), ds.length = n → F ds Q →
        d { nx := fun s => ∀ dj, s.δ[j]? = some (some dj) → Q .none dj, rt := fun z s => ∀ dj, s.δ[j]? = some (some dj) → Q z dj } { δ := start' N.length ds, n := 0 }) :
    Ok P w K mg base (k + 1) x ps (spB K j n F) := by
  refine Ok.mk D' S' (fun vs H Q E h => ?_) (fun f cdv A outer s H vs Q E hr h => ?_)
  · obtain ⟨Hs, ds, Q0, p, o, dj, _, _, _, _, _, h2, _⟩ := h
    rw [h2, hn]
  obtain ⟨Hs, ds, Q0, p, o, dj, h1, ep, eo, np, cn, l1, l2, ej, rp, hF, h5⟩ := h
  obtain ⟨t, d, ht, hs, hd⟩ := hbody f cdv A outer s H E p hr
  refine ⟨t, ht, ?_⟩
  obtain ⟨sl, ss⟩ := RpSlots (K := K) (H := Hs) (p := p) N j (by rw [l1, l2]) rp
  have sj : (L2.start N vs)[j]? = some (some (.ref p)) := by
    unfold L2.start
    rw [List.getElem?_append_left (by rw [List.length_map, l1]; exact hj), List.getElem?_map, ep]
    rfl
  have dj0 : (start' N.length ds)[j]? = some (some dj) := by
    unfold start'
    rw [List.getElem?_append_left (by rw [List.length_map, l2]; exact hj), List.getElem?_map, ej]
    rfl
  have nn : ∀ i, i ∈ M → (L2.start N vs)[i]? = some none := fun i m => start_none N (by rw [l1]; exact (hM i m).1) (hM i m).2
  have jM : j ∉ M := fun z => by have := (hM j z).1; omega
  have fin : ∀ (Hs' : Hp) (σ' : L2.St) (H' : Hp) (s' : S) (v : V) (z : D), R { K := K, pen := none, ps := 1000, M := j :: M, bor := [p], bs := [j] } H Hs Hs' σ' H' s' → Rp K Hs' v z → (∀ dj, s'.δ[j]? = some (some dj) → Q0 z dj) → Q v H' := by
    intro Hs' σ' H' s' v z r rz q
    obtain ⟨⟨i, hib, him, hip⟩, _⟩ := r.br p (List.mem_singleton.mpr rfl)
    have hib : i ∈ [j] := hib
    rw [List.mem_singleton] at hib
    subst hib
    have il : i < s'.δ.length := by rw [← r.len]; exact (List.getElem?_eq_some_iff.mp hip).1
    cases e : s'.δ[i]'il with
    | none =>
      have := r.dead i him (by rw [List.getElem?_eq_getElem il, e])
      rw [hip] at this
      cases this
    | some dj' =>
      have e' : s'.δ[i]? = some (some dj') := by rw [List.getElem?_eq_getElem il, e]
      obtain ⟨a, o', f1, f2, f3, f4, _⟩ := r.mt i dj' e' him
      rw [hip] at f1
      cases f1
      refine h5 z dj' Hs' H' v o' (q dj' e') r.s0 r.sub (fun b u nb eb => r.h0 b u (fun z => ?_) eb) r.new f3 f2 f4 rz
      rcases z with ⟨c, z⟩ | z
      · cases z
      · exact nb (List.mem_singleton.mp z)
  refine hs.run H Hs Hs (L2.start N vs) H _ { nx := fun s => ∀ dj, s.δ[j]? = some (some dj) → Q0 .none dj, rt := fun z s => ∀ dj, s.δ[j]? = some (some dj) → Q0 z dj } _ ?_ (hd ds Q0 l2 hF) ⟨fun Hs' σ' H' s' r q => fin Hs' σ' H' s' .non .none r .non q, fun Hs' σ' H' s' v z r rv q => fin Hs' σ' H' s' v z r rv q, fun _ _ _ _ _ q => q.elim, fun _ _ _ _ _ q => q.elim⟩
  refine ⟨sl, h1, fun i dd e m => ss i dd (fun z => m (by rw [z]; exact List.mem_cons_self ..)) e, fun i dd e m => ?_, fun i m e => ?_, fun i i2 a m1 m2 e1 e2 => ?_, fun p c e => (nomatch e), fun b hb => ?_, Same.refl _, fun b o _ e => e, fun b e1 e2 => absurd e1 e2⟩
  · rcases List.mem_cons.mp m with rfl | m
    · rw [dj0] at e
      cases e
      exact ⟨p, o, sj, eo, np, cn, .inr (List.mem_singleton.mpr rfl)⟩
    · exfalso
      have hh := (hM i m)
      have : (start' N.length ds)[i]? = some none := by
        unfold start'
        rw [List.getElem?_append_right (by rw [List.length_map, l2]; exact hh.1), List.getElem?_replicate, if_pos (by rw [List.length_map]; omega)]
      rw [this] at e
      cases e
  · rcases List.mem_cons.mp m with rfl | m
    · rw [dj0] at e
      cases e
    · exact nn i m
  · rcases List.mem_cons.mp m1 with rfl | m1
    · rcases List.mem_cons.mp m2 with rfl | m2
      · rfl
      · rw [nn i2 m2] at e2; cases e2
    · rw [nn i m1] at e1; cases e1
  · have hb : b ∈ [p] := hb
    rw [List.mem_singleton] at hb
    subst hb
    exact ⟨⟨j, List.mem_singleton.mpr rfl, List.mem_cons_self .., sj⟩, by rw [eo]; simp⟩
end

open PySem.Sem (wp)
open TL (tl)
/-! ### zip(text, tuple, strict=True), both as long -/
abbrev IsZipS (h : Heap) (z TI TO : Addr) (f0 : Value) : Prop :=
  h.get? z = some { cls := .type "zip", dict := none, data := .fields #[f0, .bool false, .bool true, .ref TI, .ref TO], slots := #[] }
section
variable {prog : Program} {w : World} {A : Around} {E : Value → Shared → Prop} {s : Shared} {it : Addr} {fp : List Addr} {n i : Nat} {P : Nat → Value → Prop} {St : Nat → Heap → Prop}
theorem nextE_item (D : Draws prog w A it fp n P St) {Q : Option Value → Shared → Prop} (hi : i < n) (st : St i s.heap)
    (hQ : ∀ x h' tk, P i x → St (i + 1) h' → Heap.SameBut it s.heap h' → Q (some x) { s with heap := h', toks := tk }) : wpAny (model prog w) A (Builtin.SmallTypes.nextOrEnd (.ref it)) Q E s := by
  unfold Builtin.SmallTypes.nextOrEnd
  exact wpAny_bind (wpAny_attempt (D.item i s _ _ hi st fun x h' tk p st' sb => wpAny_pure (hQ x h' tk p st' sb)))
theorem nextE_end (D : Draws prog w A it fp n P St) {Q : Option Value → Shared → Prop} (st : St n s.heap)
    (hQ : ∀ h', Heap.ExtBut it s.heap h' → Q none { s with heap := h' }) : wpAny (model prog w) A (Builtin.SmallTypes.nextOrEnd (.ref it)) Q E s := by
  unfold Builtin.SmallTypes.nextOrEnd
  refine wpAny_bind (wpAny_attempt (D.done s _ _ st fun h' e hx he => ?_))
  obtain ⟨o, ho, hc⟩ := he
  refine wpAny_bind (wpAny_isInstance (T := "StopIteration") (b := true) ⟨o, ho, hc⟩ isSubtype_stop ?_)
  exact wpAny_pure (hQ _ hx)
end
section
variable {prog : Program} {w : World} {A : Around} {E : Value → Shared → Prop} {s : Shared} {z TI TO i1 i2 : Addr} {fp1 fp2 : List Addr} {n i : Nat} {P1 P2 : Nat → Value → Prop} {St1 St2 : Nat → Heap → Prop} {a1 a2 : Value}
theorem zipS_next_item {Q : Value → Shared → Prop} (S : ZipSep2 z TI TO i1 i2 fp1 fp2) (D1 : Draws prog w A i1 fp1 n P1 St1) (D2 : Draws prog w A i2 fp2 n P2 St2)
    (hz : IsZipS s.heap z TI TO .none) (hTI : IsTupOf2 s.heap TI (.ref i1) (.ref i2)) (hTO : IsTupOf2 s.heap TO a1 a2) (st1 : St1 i s.heap) (st2 : St2 i s.heap) (hlt : i < n)
    (hQ : ∀ x1 x2 h' tk, P1 i x1 → P2 i x2 → IsZipS h' z TI TO (rawInt s.heap.objs.size) → IsTupOf2 h' TO x1 x2 → St1 (i + 1) h' → St2 (i + 1) h' → IsTupOf2 h' s.heap.objs.size x1 x2 → h'.objs.size = s.heap.objs.size + 1 →
      (∀ c o, c ≠ z → c ≠ TO → c ≠ i1 → c ≠ i2 → s.heap.get? c = some o → h'.get? c = some o) → Q (.ref s.heap.objs.size) { s with heap := h', toks := tk }) :
    wpAny (model prog w) A (Builtin.«zip.__next__» ⟨[.ref z], []⟩) (fun fin s' => ∃ v, fin = .done (.ret v) ∧ Q v s') E s := by
  obtain ⟨hp, g, d, tk0, os⟩ := s
  show wpAny _ _ (field (.ref z) 2 >>= _) _ _ _
  refine wpAny_bind (wpAny_field hz rfl (x := .bool true) rfl ?_)
  show wpAny _ _ (field (.ref z) 3 >>= _) _ _ _
  refine wpAny_bind (wpAny_field hz rfl (x := .ref TI) rfl ?_)
  refine wpAny_bind (wpAny_seqItems hTI rfl ?_)
  show wpAny _ _ (Builtin.SmallTypes.ownedTupleIsFree (.ref z) >>= _) _ _ _
  refine wpAny_bind ?_
  unfold Builtin.SmallTypes.ownedTupleIsFree
  refine wpAny_bind (wpAny_field hz rfl (x := .none) rfl (wpAny_pure ?_))
  simp only [if_true]
  refine wpAny_bind (wpAny_rule ?_)
  refine wpAny_bind (wpAny_field hz rfl (x := .ref TO) rfl ?_)
  refine wpAny_bind (wpAny_setField_rec hz (by simp) fun g0 hz0 hs0 => ?_)
  replace hz0 : IsZipS g0 z TI TO .ellipsis := hz0
  replace hs0 : Heap.SameBut z hp g0 := hs0
  refine wpAny_bind ?_
  simp only [List.zipIdx_cons, List.zipIdx_nil, List.forIn_cons, List.forIn_nil]
  refine wpAny_bind (wpAny_bind (wpAny_onRaise ?_))
  show wpAny _ _ (Builtin.SmallTypes.nextOrEnd (.ref i1)) _ _ ⟨g0, g, d, tk0, os⟩
  refine nextE_item D1 hlt (D1.over st1 hs0 S.zf1) fun x1 p1 tk1 hx1 sn1 hp1 => ?_
  replace hp1 : Heap.SameBut i1 g0 p1 := hp1
  have hU1 : IsTupOf2 p1 TO a1 a2 := hp1.extBut _ _ S.Ti1 (hs0.extBut _ _ S.TOz hTO)
  refine wpAny_bind (wpAny_seqItems (s := ⟨p1, g, d, tk1, os⟩) hU1 rfl ?_)
  refine wpAny_bind (updateSeq_IsTupOf2 (s := ⟨p1, g, d, tk1, os⟩) hU1 fun g1 hT1 hs1 => ?_)
  replace hT1 : IsTupOf2 g1 TO x1 a2 := hT1
  replace hs1 : Heap.SameBut TO p1 g1 := hs1
  refine wpAny_bind (wpAny_letGo (wpAny_pure ?_))
  refine wpAny_bind (wpAny_bind (wpAny_onRaise ?_))
  show wpAny _ _ (Builtin.SmallTypes.nextOrEnd (.ref i2)) _ _ ⟨g1, g, d, tk1, os⟩
  refine nextE_item D2 hlt (D2.over (D2.over (D2.over st2 hs0 S.zf2) hp1 S.sep1_2) hs1 S.Tf2) fun x2 p2 tk2 hx2 sn2 hp2 => ?_
  replace hp2 : Heap.SameBut i2 g1 p2 := hp2
  have hU2 : IsTupOf2 p2 TO x1 a2 := hp2.extBut _ _ S.Ti2 hT1
  refine wpAny_bind (wpAny_seqItems (s := ⟨p2, g, d, tk2, os⟩) hU2 rfl ?_)
  refine wpAny_bind (updateSeq_IsTupOf2 (s := ⟨p2, g, d, tk2, os⟩) hU2 fun g2 hT2 hs2 => ?_)
  replace hT2 : IsTupOf2 g2 TO x1 x2 := hT2
  replace hs2 : Heap.SameBut TO p2 g2 := hs2
  refine wpAny_bind (wpAny_letGo (wpAny_pure (wpAny_pure ?_)))
  refine wpAny_bind (wpAny_seqItems (s := ⟨g2, g, d, tk2, os⟩) hT2 rfl ?_)
  refine wpAny_bind (wpAny_newTuple ?_)
  have hsz : g2.objs.size = hp.objs.size := by rw [hs2.1, hp2.1, hs1.1, hp1.1, hs0.1]
  have hzz : IsZipS g2 z TI TO .ellipsis := (hs2.extBut _ _ S.TOz.symm (hp2.extBut _ _ S.zi2 (hs1.extBut _ _ S.TOz.symm (hp1.extBut _ _ S.zi1 hz0))))
  have hkk : ∀ c o, c ≠ z → c ≠ TO → c ≠ i1 → c ≠ i2 → hp.get? c = some o → g2.get? c = some o := fun c o cz cT c1 c2 e =>
    (hs2.extBut _ _ cT (hp2.extBut _ _ c2 (hs1.extBut _ _ cT (hp1.extBut _ _ c1 (hs0.extBut _ _ cz e)))))
  have hj1 : St1 (i + 1) g2 := (D1.over (D1.over (D1.over sn1 hs1 S.Tf1) hp2 S.sep2_1) hs2 S.Tf1)
  have hj2 : St2 (i + 1) g2 := (D2.over sn2 hs2 S.Tf2)
  have hzlt : z < g2.objs.size := Heap.lt_size hzz
  show wpAny _ _ (Builtin.SmallTypes.ownedTupleHandOut (.ref z) (.ref g2.objs.size) >>= _) _ _ ⟨g2.push { cls := .type "tuple", data := .seq #[x1, x2] }, g, d, tk2, os⟩
  refine wpAny_bind ?_
  unfold Builtin.SmallTypes.ownedTupleHandOut
  have hz₆ : IsZipS (g2.push { cls := .type "tuple", data := .seq #[x1, x2] }) z TI TO .ellipsis := Heap.get?_push_of_some _ hzz
  refine wpAny_bind (wpAny_setField_rec hz₆ (by simp) fun h₇ hz₇ hs₇ => ?_)
  replace hz₇ : IsZipS h₇ z TI TO (rawInt g2.objs.size) := hz₇
  refine wpAny_setField_rec hz₇ (by simp) fun h₈ hz₈ hs₈ => ?_
  replace hz₈ : IsZipS h₈ z TI TO (rawInt g2.objs.size) := hz₈
  replace hs₇ : Heap.SameBut z (g2.push { cls := .type "tuple", data := .seq #[x1, x2] }) h₇ := hs₇
  replace hs₈ : Heap.SameBut z h₇ h₈ := hs₈
  have up : ∀ c o, c ≠ z → g2.get? c = some o → h₈.get? c = some o := fun c o c1 e => hs₈.extBut _ _ c1 (hs₇.extBut _ _ c1 (Heap.get?_push_of_some _ e))
  have hT₈ : IsTupOf2 h₈ g2.objs.size x1 x2 := hs₈.extBut _ _ (Nat.ne_of_gt hzlt) (hs₇.extBut _ _ (Nat.ne_of_gt hzlt) (Heap.get?_push_size _ rfl))
  have hz8 : h₈.objs.size = g2.objs.size + 1 := by rw [hs₈.1, hs₇.1, Heap.size_push]
  rw [hsz] at hz₈ hT₈ hz8
  refine wpAny_pure ⟨_, rfl, ?_⟩
  show Q (.ref g2.objs.size) ⟨h₈, g, d, tk2, os⟩
  rw [hsz]
  exact hQ x1 x2 h₈ tk2 hx1 hx2 hz₈ (up _ _ S.TOz hT2) (D1.frame _ _ _ hj1 fun b hb o e => up b o (fun q => S.zf1 (q ▸ hb)) e) (D2.frame _ _ _ hj2 fun b hb o e => up b o (fun q => S.zf2 (q ▸ hb)) e) hT₈ hz8 fun c o cz cT c1 c2 e => up c o cz (hkk c o cz cT c1 c2 e)
theorem zipS_next_end {Q : Fin → Shared → Prop} (hh : A.handled = none) (S : ZipSep2 z TI TO i1 i2 fp1 fp2) (D1 : Draws prog w A i1 fp1 n P1 St1) (D2 : Draws prog w A i2 fp2 n P2 St2)
    (hz : IsZipS s.heap z TI TO .none) (hTI : IsTupOf2 s.heap TI (.ref i1) (.ref i2)) (hTO : IsTupOf2 s.heap TO a1 a2) (st1 : St1 n s.heap) (st2 : St2 n s.heap)
    (hE : ∀ h' tk e, (∀ c o, c ≠ z → c ≠ TO → c ≠ i1 → c ≠ i2 → s.heap.get? c = some o → h'.get? c = some o) → (∃ o, h'.get? e = some o ∧ o.cls = .type "StopIteration") → E (.ref e) { s with heap := h', toks := tk }) :
    wpAny (model prog w) A (Builtin.«zip.__next__» ⟨[.ref z], []⟩) Q E s := by
  obtain ⟨hp, g, d, tk0, os⟩ := s
  show wpAny _ _ (field (.ref z) 2 >>= _) _ _ _
  refine wpAny_bind (wpAny_field hz rfl (x := .bool true) rfl ?_)
  show wpAny _ _ (field (.ref z) 3 >>= _) _ _ _
  refine wpAny_bind (wpAny_field hz rfl (x := .ref TI) rfl ?_)
  refine wpAny_bind (wpAny_seqItems hTI rfl ?_)
  show wpAny _ _ (Builtin.SmallTypes.ownedTupleIsFree (.ref z) >>= _) _ _ _
  refine wpAny_bind ?_
  unfold Builtin.SmallTypes.ownedTupleIsFree
  refine wpAny_bind (wpAny_field hz rfl (x := .none) rfl (wpAny_pure ?_))
  simp only [if_true]
  refine wpAny_bind (wpAny_rule ?_)
  refine wpAny_bind (wpAny_field hz rfl (x := .ref TO) rfl ?_)
  refine wpAny_bind (wpAny_setField_rec hz (by simp) fun g0 hz0 hs0 => ?_)
  replace hz0 : IsZipS g0 z TI TO .ellipsis := hz0
  replace hs0 : Heap.SameBut z hp g0 := hs0
  refine wpAny_bind ?_
  simp only [List.zipIdx_cons, List.zipIdx_nil, List.forIn_cons, List.forIn_nil]
  refine wpAny_bind (wpAny_bind (wpAny_onRaise ?_))
  show wpAny _ _ (Builtin.SmallTypes.nextOrEnd (.ref i1)) _ _ ⟨g0, g, d, tk0, os⟩
  refine nextE_end D1 (D1.over st1 hs0 S.zf1) fun q hq => ?_
  replace hq : Heap.ExtBut i1 g0 q := hq
  have hzq : IsZipS q z TI TO .ellipsis := hq _ _ S.zi1 hz0
  refine wpAny_bind (wpAny_setField_rec (s := ⟨q, g, d, tk0, os⟩) hzq (by simp) fun q' hz' hq' => ?_)
  replace hz' : IsZipS q' z TI TO .none := hz'
  replace hq' : Heap.SameBut z q q' := hq'
  refine wpAny_bind ?_
  show wpAny _ _ ((forIn [(Value.ref i2, 1)] PUnit.unit _) >>= _) _ _ ⟨q', g, d, tk0, os⟩
  simp only [List.forIn_cons, List.forIn_nil]
  have st2' : St2 n q' := D2.frame _ _ _ st2 fun b hb o e => hq'.extBut b o (fun x => S.zf2 (x ▸ hb)) (hq b o (fun x => S.sep1_2 (x ▸ hb)) (hs0.extBut b o (fun x => S.zf2 (x ▸ hb)) e))
  refine wpAny_bind (wpAny_bind (wpAny_bind (nextE_end D2 (s := ⟨q', g, d, tk0, os⟩) st2' fun q2 hq2 => ?_)))
  replace hq2 : Heap.ExtBut i2 q' q2 := hq2
  refine wpAny_pure (wpAny_pure ?_)
  refine wpAny_bind (wpAny_rule ?_)
  unfold Builtin.SmallTypes.stopIteration
  refine wpAny_bind ?_
  simp only [newExc, newTuple]
  refine wpAny_bind (wpAny_newObj_type ?_ (by size_fits))
  refine wpAny_bind (m := firstArgMember _ _) (wpAny_of_eq (a := Value.none) (by first | rfl | (simp only [firstArgMember]; rfl)) ?_)
  refine wpAny_newObj_type ?_ (by size_fits)
  simp only [raiseNew]
  refine wpAny_bind (wpAny_handled ?_)
  rw [hh]
  refine wpAny_bind (wpAny_pure (wpAny_throw ?_))
  refine hE _ _ _ (fun c o cz cT c1 c2 e => ?_) ⟨_, Heap.get?_push_size _ rfl, rfl⟩
  exact Heap.get?_push_of_some _ (Heap.get?_push_of_some _ (hq2 c o c2 (hq'.extBut c o cz (hq c o c1 (hs0.extBut c o cz e)))))
theorem pyNext_zipS_item {Q : Option Value → Shared → Prop} (S : ZipSep2 z TI TO i1 i2 fp1 fp2) (D1 : Draws prog w A.in1 i1 fp1 n P1 St1) (D2 : Draws prog w A.in1 i2 fp2 n P2 St2)
    (hz : IsZipS s.heap z TI TO .none) (hTI : IsTupOf2 s.heap TI (.ref i1) (.ref i2)) (hTO : IsTupOf2 s.heap TO a1 a2) (st1 : St1 i s.heap) (st2 : St2 i s.heap) (hlt : i < n)
    (hQ : ∀ x1 x2 h' tk, P1 i x1 → P2 i x2 → IsZipS h' z TI TO (rawInt s.heap.objs.size) → IsTupOf2 h' TO x1 x2 → St1 (i + 1) h' → St2 (i + 1) h' → IsTupOf2 h' s.heap.objs.size x1 x2 → h'.objs.size = s.heap.objs.size + 1 →
      (∀ c o, c ≠ z → c ≠ TO → c ≠ i1 → c ≠ i2 → s.heap.get? c = some o → h'.get? c = some o) → Q (some (.ref s.heap.objs.size)) { s with heap := h', toks := tk }) :
    wpAny (model prog w) A (pyNext (.ref z)) Q E s := by
  have hT : s.TypeIs (.ref z) "zip" := ⟨_, hz, rfl⟩
  unfold pyNext
  exact wpAny_bind (wpAny_attempt (wpAny_callSpecial?_slot (name := Str.ofString "__next__") hT F.slot_zip_next
    (wpAny_call_entry F.slot_zip_next hT F.entry_zip_next
      (zipS_next_item S D1 D2 hz hTI hTO st1 st2 hlt fun x1 x2 h' tk y1 y2 b1 b2 d1 d2 b5 b6 b7 => wpAny_pure (hQ x1 x2 h' tk y1 y2 b1 b2 d1 d2 b5 b6 b7)) (F.args_zip_next_1 _))))
theorem pyNext_zipS_end {Q : Option Value → Shared → Prop} (hh : A.handled = none) (S : ZipSep2 z TI TO i1 i2 fp1 fp2) (D1 : Draws prog w A.in1 i1 fp1 n P1 St1) (D2 : Draws prog w A.in1 i2 fp2 n P2 St2)
    (hz : IsZipS s.heap z TI TO .none) (hTI : IsTupOf2 s.heap TI (.ref i1) (.ref i2)) (hTO : IsTupOf2 s.heap TO a1 a2) (st1 : St1 n s.heap) (st2 : St2 n s.heap)
    (hQ : ∀ h' tk, (∀ c o, c ≠ z → c ≠ TO → c ≠ i1 → c ≠ i2 → s.heap.get? c = some o → h'.get? c = some o) → Q none { s with heap := h', toks := tk }) : wpAny (model prog w) A (pyNext (.ref z)) Q E s := by
  have hT : s.TypeIs (.ref z) "zip" := ⟨_, hz, rfl⟩
  unfold pyNext
  refine wpAny_bind (wpAny_attempt (wpAny_callSpecial?_slot (name := Str.ofString "__next__") hT F.slot_zip_next
    (wpAny_call_entry F.slot_zip_next hT F.entry_zip_next (zipS_next_end (show A.in1.handled = none from hh) S D1 D2 hz hTI hTO st1 st2 fun h' tk e hk he => ?_) (F.args_zip_next_1 _))))
  obtain ⟨o, ho, hc⟩ := he
  refine wpAny_bind (wpAny_isInstance (T := "StopIteration") (b := true) ⟨o, ho, hc⟩ isSubtype_stop ?_)
  exact wpAny_pure (hQ _ _ hk)
end
/-! its beginning -/
theorem typeCall_zip_strict (a b : Value) : checkTypeCall "zip" ⟨[a, b], [(Str.ofString "strict", .bool true)]⟩ = pure () := by kernel_rfl
theorem newCall_zip_strict (a b : Value) : checkBuiltinCall "zip.__new__" ⟨[.type "zip", a, b], [(Str.ofString "strict", .bool true)]⟩ = pure () := by kernel_rfl
theorem args_init_strict (obj a b : Value) : argsOk "object.__init__" ⟨[obj, a, b], [(Str.ofString "strict", .bool true)]⟩ := by unfold argsOk; kernel_rfl
abbrev gzS (h : Heap) (o1 o2 : Obj) : Heap := (gzO2 h o1 o2).push { cls := .type "zip", data := .fields #[.none, .bool false, .bool true, .ref ((h.push o1).push o2).objs.size, .ref (gzT2 h o1 o2).objs.size] }
theorem meets_zip_newS {v1 v2 : Value} {o1 o2 : Obj} {H1 H2 : Heap → Prop} (B1 : Begins v1 o1 H1) (B2 : Begins v2 o2 H2) :
    Meets (Builtin.«zip.__new__» ⟨[.type "zip", v1, v2], [(Str.ofString "strict", .bool true)]⟩) (fun _ R s => (H1 s.heap ∧ H2 s.heap) ∧
      R (.ok (.ret (.ref (gzO2 s.heap o1 o2).objs.size))) { s with heap := gzS s.heap o1 o2 }) :=
  .of_wp fun prog w A R s h => by
    obtain ⟨hp, g, d, tk, os⟩ := s; obtain ⟨⟨h1, h2⟩, h⟩ := h
    have hsub := sub_zip
    have q1 : ∀ {A' : Around} {E : Value → Shared → Prop} {Q : Value → Shared → Prop}, Q (.ref hp.objs.size) ⟨(hp.push o1), g, d, tk, os⟩ → wpAny (model prog w) A' (pyIter v1) Q E ⟨hp, g, d, tk, os⟩ :=
      fun q => B1.iter prog w _ _ ⟨hp, g, d, tk, os⟩ _ (B1.keeps _ _ h1 fun b o' e => e) q
    have q2 : ∀ {A' : Around} {E : Value → Shared → Prop} {Q : Value → Shared → Prop}, Q (.ref (hp.push o1).objs.size) ⟨((hp.push o1).push o2), g, d, tk, os⟩ → wpAny (model prog w) A' (pyIter v2) Q E ⟨(hp.push o1), g, d, tk, os⟩ :=
      fun q => B2.iter prog w _ _ ⟨(hp.push o1), g, d, tk, os⟩ _ (B2.keeps _ _ h2 fun b o' e => (Heap.get?_push_of_some _ e)) q
    have e1 : (Str.ofString "strict" != ("strict" : Str)) = false := by decide +kernel
    wp_walk using q1, q2
    exact ⟨_, rfl, h⟩
section
variable {prog : Program} {w : World} {A : Around} {E : Value → Shared → Prop} {s : Shared}
theorem zip_beginsS {v1 v2 : Value} {o1 o2 : Obj} {H1 H2 : Heap → Prop} {Q : Value → Shared → Prop} (B1 : Begins v1 o1 H1) (B2 : Begins v2 o2 H2) (h1 : H1 s.heap) (h2 : H2 s.heap)
    (h : ∀ h', IsZipS h' (s.heap.objs.size + 4) (s.heap.objs.size + 2) (s.heap.objs.size + 3) .none → IsTupOf2 h' (s.heap.objs.size + 2) (.ref s.heap.objs.size) (.ref (s.heap.objs.size + 1)) →
      IsTupOf2 h' (s.heap.objs.size + 3) .none .none → h'.get? s.heap.objs.size = some o1 → h'.get? (s.heap.objs.size + 1) = some o2 → h'.objs.size = s.heap.objs.size + 5 →
      (∀ c o, s.heap.get? c = some o → h'.get? c = some o) → Q (.ref (s.heap.objs.size + 4)) { s with heap := h' }) :
    wpAny (model prog w) A (call (.type "zip") [v1, v2] [(Str.ofString "strict", .bool true)]) Q E s := by
  refine callType_newKw F.called_zip (by decide) (typeCall_zip_strict _ _) (newCall_zip_strict _ _) (fun obj => args_init_strict obj _ _) F.entry_zip_new (meets_zip_newS B1 B2) ⟨⟨h1, h2⟩, ?_⟩
  have z1 : (s.heap.push o1).objs.size = s.heap.objs.size + 1 := by rw [Heap.size_push]
  have z2 : ((s.heap.push o1).push o2).objs.size = s.heap.objs.size + 2 := by rw [Heap.size_push, z1]
  have zT : (gzT2 s.heap o1 o2).objs.size = s.heap.objs.size + 3 := by rw [Heap.size_push, z2]
  have zO : (gzO2 s.heap o1 o2).objs.size = s.heap.objs.size + 4 := by rw [Heap.size_push, zT]
  have zZ : (gzS s.heap o1 o2).objs.size = s.heap.objs.size + 5 := by rw [Heap.size_push, zO]
  have gZ : (gzS s.heap o1 o2).get? (gzO2 s.heap o1 o2).objs.size = some { cls := .type "zip", data := .fields #[.none, .bool false, .bool true, .ref ((s.heap.push o1).push o2).objs.size, .ref (gzT2 s.heap o1 o2).objs.size] } := Heap.get?_push_size _ rfl
  have gO : (gzS s.heap o1 o2).get? (gzT2 s.heap o1 o2).objs.size = some { cls := .type "tuple", data := .seq #[.none, .none] } := Heap.get?_push_of_some _ (Heap.get?_push_size _ rfl)
  have gT : (gzS s.heap o1 o2).get? ((s.heap.push o1).push o2).objs.size = some { cls := .type "tuple", data := .seq #[.ref s.heap.objs.size, .ref (s.heap.push o1).objs.size] } := Heap.get?_push_of_some _ (Heap.get?_push_of_some _ (Heap.get?_push_size _ rfl))
  have g1 : (gzS s.heap o1 o2).get? s.heap.objs.size = some o1 := Heap.get?_push_of_some _ (Heap.get?_push_of_some _ (Heap.get?_push_of_some _ (Heap.get?_push_of_some _ (Heap.get?_push_size _ B1.free))))
  have g2 : (gzS s.heap o1 o2).get? (s.heap.push o1).objs.size = some o2 := Heap.get?_push_of_some _ (Heap.get?_push_of_some _ (Heap.get?_push_of_some _ (Heap.get?_push_size _ B2.free)))
  rw [zO, zT, z2] at gZ
  rw [zT] at gO
  rw [z2, z1] at gT
  rw [z1] at g2
  show _ ∧ _
  rw [zO]
  exact ⟨⟨_, gZ, rfl⟩, h _ gZ gT gO g1 g2 zZ fun c o e => Heap.get?_push_of_some _ (Heap.get?_push_of_some _ (Heap.get?_push_of_some _ (Heap.get?_push_of_some _ (Heap.get?_push_of_some _ e))))⟩
end
/-! the walk -/
section
variable {M : Model} {A : Around} {E : Value → Shared → Prop} {s : Shared} {env : Env}
theorem callWith_tkw {pos : Pos} {T : String} {e : Expr} {rest : List Expr} {kws : List Keyword} {Q : Value → Shared → Prop}
    (h : wpAny M A (spliced (backTo pos (starEach (e :: rest) env))) (fun vs s₁ => wpAny M A (evalAll ((backToKw pos (keywordEach kws env)).map (·.2)))
      (fun kvs s₂ => wpAny M A (call (.type T) vs (((backToKw pos (keywordEach kws env)).filterMap (·.1)).zip kvs)) Q E s₂) E s₁) E s)
    (he : backTo pos (starEach (e :: rest) env) = (false, eval e env) :: backTo pos (starEach rest env) := by rfl)
    (hplain : (backTo pos (starEach (e :: rest) env)).any (·.1) = false := by rfl)
    (hall : (backToKw pos (keywordEach kws env)).all (·.1.isSome) = true := by rfl)
    (hkw : (backToKw pos (keywordEach kws env)).any (·.1.isNone) = false := by rfl) :
    wpAny M A (callWith pos (.type T) [] (backTo pos (starEach (e :: rest) env)) (backToKw pos (keywordEach kws env))) Q E s := by
  have h' : wpAny M A (evalArgs (.type T) true (backTo pos (starEach (e :: rest) env)) (backToKw pos (keywordEach kws env))) (fun a s₁ => wpAny M A (call (.type T) ([] ++ a.pos) a.kw) Q E s₁) E s := by
    rw [he] at h ⊢
    exact PyProof.Rows.evalArgs_kwB hall h
  unfold callWith
  refine wpAny_bind (wpAny_holding (wpAny_mono h' (fun a s₁ h₁ => wpAny_bind (wpAny_standAt ?_)) fun _ _ x => x))
  simp only [hplain, hkw, Bool.or_false]
  refine wpAny_bind (wpAny_pure ?_)
  exact wpAny_bind (wpAny_mono h₁ (fun r s₂ hr => wpAny_bind (wpAny_holding (wpAny_point (wpAny_pure hr)))) fun _ _ x => x)
end
section
variable {prog : Program} {w : World} {A : Around} {E : Value → Shared → Prop} {s : Shared}
theorem letGo_zipS {elts : List Expr} {x1} {pos : Pos} {z TI TO T : Addr} {Q : Unit → Shared → Prop} (hz : IsZipS s.heap z TI TO (rawInt T))
    (hQ : ∀ h', IsZipS h' z TI TO .none → Heap.SameBut z s.heap h' → Q () { s with heap := h' }) :
    wpAny (model prog w) A (letOwnedTupleGo (.Tuple elts x1 pos) (.ref z) (.ref T)) Q E s := by
  unfold letOwnedTupleGo
  refine wpAny_bind (wpAny_load hz ?_)
  show wpAny _ _ (if (["enumerate", "zip", "dict_itemiterator", "dict_reverseitemiterator", "odict_iterator", "itertools.zip_longest", "itertools.pairwise"].contains "zip" &&
      (#[rawInt T, .bool false, .bool true, .ref TI, .ref TO] : Array Value)[0]? == some (rawInt T)) = true then _ else _) Q E s
  rw [if_pos (by simp)]
  refine wpAny_bind (wpAny_rule ?_)
  show wpAny _ _ (setField (.ref z) 0 .none) Q E s
  exact wpAny_setField_rec hz (by simp) fun h' hz' hs' => hQ h' hz' hs'
theorem pyIter_zipS {z TI TO : Addr} {f0 : Value} {Q : Value → Shared → Prop} (hz : IsZipS s.heap z TI TO f0) (h : Q (.ref z) s) : wpAny (model prog w) A (pyIter (.ref z)) Q E s := by
  have hT : s.TypeIs (.ref z) "zip" := ⟨_, hz, rfl⟩
  refine wpAny_pyIter_slot hT F.slot_zip_iter (wpAny_call_entry F.slot_zip_iter hT F.entry_zip_iter ?_ (F.args_zip_iter_1 _))
  show wpAny _ _ (ret (.ref z)) _ _ s
  exact wpAny_pure ⟨_, rfl, "zip", _, hT, F.slot_zip_next.lookup, h⟩
end
def ItzS (K : PySem.W.Frag) (x : Str) (b : Addr) : It :=
  ⟨fun i H => ∃ (ys : List V) (y : V), SqT K H b ys ∧ ys.length = x.cps.size ∧ ys[i]? = some y,
    fun i H v H' => ∃ T c y, v = .ref T ∧ H T = none ∧ H' = L2.upd H T (.tup [.str ⟨#[c]⟩, y]) ∧ x.cps[i]? = some c ∧ ∀ ys, SqT K H b ys → ys[i]? = some y,
    fun i H => ∃ ys : List V, SqT K H b ys ∧ ys.length = x.cps.size ∧ x.cps.size ≤ i⟩
theorem turn_zipS {P : Program} {w : World} {K : PySem.W.Frag} {elts : List Expr} {kk : Nat} {tpos : Pos} {x : Str} {t : Tok} {b z TI TO i1 i2 : Addr} (D : ZipSep2 z TI TO i1 i2 [i1] [i2, b]) (hne : b ≠ i2) :
    Turn P w K (.Tuple elts kk tpos) (ItzS K x b) [z, TI, TO, i1, i2] z (fun i h => IsZipS h z TI TO .none ∧ IsTupOf2 h TI (.ref i1) (.ref i2) ∧ (∃ u v, IsTupOf2 h TO u v) ∧ h.IsStrIter i1 (strIterType x) x t i ∧ h.IsTupleIter i2 b i ∧ i ≤ x.cps.size) where
  mem := by simp
  obj := fun i h st c hc => by
    obtain ⟨hz, hTI, ⟨u, v, hTO⟩, ⟨o1, e1, _, d1⟩, ⟨o2, e2, _, d2⟩, _⟩ := st
    have e' : c = z ∨ c = TI ∨ c = TO ∨ c = i1 ∨ c = i2 := by simpa using hc
    rcases e' with q | q | q | q | q
    · rw [q]; exact ⟨_, hz, fun v q => nomatch q⟩
    · rw [q]; exact ⟨_, hTI, fun v q => nomatch q⟩
    · rw [q]; exact ⟨_, hTO, fun v q => nomatch q⟩
    · rw [q]; exact ⟨o1, e1, fun v q => by rw [d1] at q; cases q⟩
    · rw [q]; exact ⟨o2, e2, fun v q => by rw [d2] at q; cases q⟩
  keep := fun i h h' st k => by
    obtain ⟨hz, hTI, ⟨u, v, hTO⟩, ⟨o1, e1, r1⟩, h2, hl⟩ := st
    exact ⟨k z (by simp) _ hz, k TI (by simp) _ hTI, ⟨u, v, k TO (by simp) _ hTO⟩, ⟨o1, k i1 (by simp) o1 e1, r1⟩, h2.at fun o q => k i2 (by simp) o q, hl⟩
  item := by
    intro X hP hw hK hc i pins s σ H E I hf st hg
    subst hP hw hK
    obtain ⟨hz, hTI, ⟨u0, v0, hTO⟩, h1, h2, hl⟩ := st
    obtain ⟨ys, y, hqy, hlen, hy⟩ := hg
    obtain ⟨its2, rv2, p2, _⟩ := I.tuple hqy
    obtain ⟨u2, hu2, ru2⟩ := rv2.get hy
    have hzl : z < s.heap.objs.size := Heap.lt_size hz
    have hil : i < x.cps.size := by
      have := (List.getElem?_eq_some_iff.mp hy).1
      omega
    have hh : X.A.in1.handled = none := I.ok.hd hc
    have hsz : its2.toArray.size = x.cps.size := by rw [List.size_toArray, ← rv2.length, hlen]
    have D2 := Draws.tuple (prog := X.prog) (w := X.w) hh i2 b hne its2.toArray
    rw [hsz] at D2
    refine pyNext_zipS_item D (Draws.text hh i1 x t) D2 hz hTI hTO h1 ⟨h2, p2⟩ hil fun w1 w2 h' tk q1 q2 z' TO' h1' h2' hT hsz' hk => ?_
    obtain ⟨c, u, hc', rfl⟩ := q1
    have ew : w2 = u2 := by
      have e : its2.toArray[i]? = some w2 := q2
      rw [List.getElem?_toArray, hu2] at e
      exact (Option.some.inj e).symm
    subst ew
    refine ⟨_, rfl, letGo_zipS (s := { s with heap := h', toks := tk }) z' fun h'' z'' sb => ?_⟩
    have hT2 : h''.get? s.heap.objs.size = some { cls := .type "tuple", data := .seq #[.str ⟨#[c]⟩ u, w2] } := (sb.2 _ (Nat.ne_of_gt hzl)).trans hT
    have new : ObjOk X.prog X.w (L2.upd H s.heap.objs.size (.tup [.str ⟨#[c]⟩, y])) h'' s.heap.objs.size (.tup [.str ⟨#[c]⟩, y]) :=
      ⟨by show 2 ≤ sizeLine; decide, [.str ⟨#[c]⟩ u, w2], .cons ⟨_, rfl⟩ (.cons ru2 .nil), ⟨_, hT2, rfl, _, rfl⟩⟩
    have I1 : Inv X pins σ (L2.upd H s.heap.objs.size (.tup [.str ⟨#[c]⟩, y])) { s with heap := h'', toks := tk } :=
      I.turnedNew (ch := [z, TI, TO, i1, i2]) (fun c o hb q => (sb.2 c (fun q' => hb (by simp [q']))).trans (hk c o (fun q' => hb (by simp [q'])) (fun q' => hb (by simp [q'])) (fun q' => hb (by simp [q'])) (fun q' => hb (by simp [q'])) q)) hf (Nat.le_refl _) new
    refine ⟨.ref s.heap.objs.size, _, I1, rfl, ⟨_, c, y, rfl, I.hok.fresh (Nat.le_refl _), rfl, hc', fun l hl => by rw [I.tuple_inj hl hqy]; exact hy⟩, ⟨z'', ?_, ⟨.str ⟨#[c]⟩ u, w2, ?_⟩, ?_, ?_, hil⟩, fun c hcm => ?_⟩
    · exact (sb.2 _ D.TIz).trans (hk _ _ D.TIz D.TITO D.TIi1 D.TIi2 hTI)
    · exact (sb.2 _ D.TOz).trans TO'
    · obtain ⟨o1, e1, r1⟩ := h1'
      exact ⟨o1, (sb.2 _ (Ne.symm D.zi1)).trans e1, r1⟩
    · exact h2'.1.at fun o q => (sb.2 _ (Ne.symm D.zi2)).trans q
    · have hlt : c < s.heap.objs.size := by
        have e' : c = z ∨ c = TI ∨ c = TO ∨ c = i1 ∨ c = i2 := by simpa using hcm
        rcases e' with q | q | q | q | q
        · rw [q]; exact hzl
        · rw [q]; exact Heap.lt_size hTI
        · rw [q]; exact Heap.lt_size hTO
        · rw [q]; obtain ⟨_, e1, _⟩ := h1; exact Heap.lt_size e1
        · rw [q]; obtain ⟨_, e2, _⟩ := h2; exact Heap.lt_size e2
      rw [upd_ne (Nat.ne_of_lt hlt)]
      exact (hf c hcm).1
  done := by
    intro X hP hw hK hc i pins s σ H E I hf st hg
    subst hP hw hK
    obtain ⟨hz, hTI, ⟨u0, v0, hTO⟩, h1, h2, hl⟩ := st
    obtain ⟨ys, hqy, hlen, hend⟩ := hg
    obtain ⟨its2, rv2, p2, _⟩ := I.tuple hqy
    have ei : i = x.cps.size := by omega
    subst ei
    have hh : X.A.in1.handled = none := I.ok.hd hc
    have hsz : its2.toArray.size = x.cps.size := by rw [List.size_toArray, ← rv2.length, hlen]
    have D2 := Draws.tuple (prog := X.prog) (w := X.w) hh i2 b hne its2.toArray
    rw [hsz] at D2
    exact pyNext_zipS_end (I.ok.hd hc) D (Draws.text hh i1 x t) D2 hz hTI hTO h1 ⟨h2, p2⟩ fun h' tk hk => ⟨rfl, I.turnedL (t' := tk) (ch := [z, TI, TO, i1, i2]) (fun c o hb q =>
      hk c o (fun q' => hb (by simp [q'])) (fun q' => hb (by simp [q'])) (fun q' => hb (by simp [q'])) (fun q' => hb (by simp [q'])) q) hf⟩
  self := fun A i s Q E st h => pyIter_zipS st.1 h
def iZipS (K : PySem.W.Frag) (ta : TA) : TI := fun σ H R => ta σ H fun vs H1 => ∃ x b ys, vs = [.str x, .ref b] ∧ SqT K H1 b ys ∧ ys.length = x.cps.size ∧ R (ItzS K x b) H1
theorem pi_zipS {X : Cx} {e e2 : Expr} {ta : TA} {p pos tpos kp kp2 : Pos} {k2 : Nat} {elts : List Expr} {kk : Nat} (hg : Gl X "zip") (hm : X.mg "zip" = none) (ha : PA X [e, e2] ta)
    (he : backTo pos (starEach [e, e2] X.env) = (false, eval e X.env) :: backTo pos (starEach [e2] X.env) := by rfl) (hpl : (backTo pos (starEach [e, e2] X.env)).any (·.1) = false := by rfl) :
    PI X (.Tuple elts kk tpos) (.Call (.Name "zip" p) [e, e2] [⟨some "strict", .Constant (.bool true) k2 kp2, kp⟩] pos) (iZipS X.K ta) := by
  refine ⟨fun pins s σ H R I h => ?_⟩
  refine wpAny_Call_Name_kw (ld_blt I hg hm PyProof.Rows.boot_zip (callWith_tkw (thn (ha.run pos pins s σ H _ I h) fun us s1 ⟨vs, H1, I1, r1, q1⟩ => PyProof.Rows.kws_cons ?_) he hpl rfl rfl))
  obtain ⟨x, b, ys, ex, hq, hlen, q⟩ := q1
  subst ex
  cases r1 with
  | cons r rr =>
    cases rr with
    | cons r' rr =>
      cases rr
      obtain ⟨t, rfl⟩ := r
      cases r'
      have fresh5 : ∀ c, c ∈ [s1.heap.objs.size + 4, s1.heap.objs.size + 2, s1.heap.objs.size + 3, s1.heap.objs.size, s1.heap.objs.size + 1] → FpOk X pins H1 c := fun c hcm => by
        have e' : c = s1.heap.objs.size + 4 ∨ c = s1.heap.objs.size + 2 ∨ c = s1.heap.objs.size + 3 ∨ c = s1.heap.objs.size ∨ c = s1.heap.objs.size + 1 := by simpa using hcm
        have hle : s1.heap.objs.size ≤ c := by
          rcases e' with z | z | z | z | z
          · rw [z]; exact Nat.le_add_right _ _
          · rw [z]; exact Nat.le_add_right _ _
          · rw [z]; exact Nat.le_add_right _ _
          · rw [z]; exact Nat.le_refl _
          · rw [z]; exact Nat.le_add_right _ _
        exact I1.fpOk hle (I1.hok.fresh hle)
      obtain ⟨its2, rv2, p2, _⟩ := I1.tuple hq
      obtain ⟨o2, ho2, _⟩ := id p2
      have hbl : b < s1.heap.objs.size := Heap.lt_size ho2
      refine PyProof.Rows.Constant_bool ?_
      refine PyProof.Rows.kws_nil ?_
      refine zip_beginsS (begins_text x t) (begins_tuple b its2.toArray) trivial (show s1.heap.IsTuple b its2.toArray from p2) fun h' hz hTI hTO g1 g2 hsz hk => pyIter_zipS hz ?_
      have I2 : Inv X pins σ H1 { s1 with heap := h' } := I1.kept (t' := s1.toks) hk
      have sep : ZipSep2 (s1.heap.objs.size + 4) (s1.heap.objs.size + 2) (s1.heap.objs.size + 3) s1.heap.objs.size (s1.heap.objs.size + 1) [s1.heap.objs.size] [s1.heap.objs.size + 1, b] := by
        have k : ∀ {a b : Nat}, a ≠ b → s1.heap.objs.size + a ≠ s1.heap.objs.size + b := fun h e => h (Nat.add_left_cancel e)
        have k0 : ∀ {a : Nat}, 0 < a → s1.heap.objs.size + a ≠ s1.heap.objs.size := fun {a} h e => by
          have e : s1.heap.objs.size + a = s1.heap.objs.size + 0 := e
          have := Nat.add_left_cancel e
          omega
        have kb : ∀ {a : Nat}, s1.heap.objs.size + a ≠ b := fun {a} e => Nat.lt_irrefl b (Nat.lt_of_lt_of_le hbl (by rw [← e]; exact Nat.le_add_right _ _))
        exact ⟨k (by decide), k (by decide), k (by decide), k0 (by decide), by simp, by simpa using k0 (by decide), by simpa using k0 (by decide), k (by decide), by simp, by simpa using kb, by simpa using kb, by simpa using (kb (a := 0)), by simpa using k0 (by decide)⟩
      exact ⟨s1.heap.objs.size + 4, [s1.heap.objs.size + 4, s1.heap.objs.size + 2, s1.heap.objs.size + 3, s1.heap.objs.size, s1.heap.objs.size + 1], _, _, H1, rfl, I2, turn_zipS (x := x) (t := t) sep (Nat.ne_of_lt (Nat.lt_of_lt_of_le hbl (Nat.le_add_right _ _))), ⟨hz, hTI, ⟨_, _, hTO⟩, ⟨_, g1, rfl, rfl⟩, ⟨_, g2, rfl, rfl⟩, Nat.zero_le _⟩, fresh5, q⟩
theorem walk_zipS {K : PySem.W.Frag} {x : Str} {b : Addr} {ys : List V} (hl : ys.length = x.cps.size) : Walk (ItzS K x b) x.cps.size (fun H => SqT K H b ys) (fun i H v H' => ∃ T c y, v = .ref T ∧ H T = none ∧ H' = L2.upd H T (.tup [.str ⟨#[c]⟩, y]) ∧ x.cps[i]? = some c ∧ ys[i]? = some y) := by
  refine ⟨fun i H hi q => ⟨ys, ys[i], q, hl, List.getElem?_eq_getElem (by omega)⟩, fun H q => ⟨ys, q, hl, Nat.le_refl _⟩, fun i H v H' _ q y => ?_⟩
  obtain ⟨T, c, y, h1, h2, h3, h4, h5⟩ := y
  exact ⟨T, c, y, h1, h2, h3, h4, h5 ys q⟩
section
variable {C : Cf} {ca cb : Cat} {ta tb : TE} {da db : DT}
def dZipS (a b : DT) : DI := fun s Q => a s fun d s1 => b s1 fun e s2 => match d, e with
  | .str z, .tuple es => es.length = (signs z).length ∧ Q (prD (signs z) es) s2
  | _, _ => False
theorem simI_zipS (ha : Sim C ca ta da) (hb : Sim C cb tb db) : SimI C (iZipS C.K (tCons ta (tCons tb tNil))) (dZipS da db) := by
  refine ⟨fun H0 S0 Hs σ H s Q Q' r q k => ha.toE.run H0 S0 Hs σ H s _ _ r q fun Hs1 H1 v d s1 g1 r1 v1 q1 => hb.toE.run H0 S0 Hs1 σ H1 s1 _ _ r1 q1 fun Hs2 H2 w e s2 g2 r2 v2 q2 => ?_⟩
  cases d <;> cases e <;> first | exact q2.elim | skip
  rename_i z es
  have v1' : Rp C.K Hs1 v (.str z) := v1
  have v2' : Rp C.K Hs2 w (.tuple es) := v2
  cases v1'
  cases v2' with
  | @tup y ys _ e3 e4 =>
  obtain ⟨hl, q2⟩ := q2
  have hsl : (signs z).length = z.cps.size := by unfold signs; rw [List.length_map, Array.length_toList]
  have hyl : ys.length = z.cps.size := by rw [e4.len, hl, hsl]
  refine ⟨z, y, ys, rfl, Same.sqT r2.sub e3, hyl, k Hs2 H2 _ _ s2 (g1.trans g2) r2 ?_ q2⟩
  have hpl : (prD (signs z) es).length = z.cps.size := by rw [zip_len, hl, Nat.min_self, hsl]
  refine ⟨_, _, by rw [hpl]; exact walk_zipS hyl, fun H e => Same.sqT e e3, fun i H v H2 H0 S0 Hs σ s hi r e y => ?_⟩
  obtain ⟨T, c, x2, rfl, nT, rfl, f1, f2⟩ := y
  obtain ⟨d', f5, f6⟩ := e4.getV f2
  obtain ⟨Hs2, r2, rp, g⟩ := pair_it r nT (Rp.str ⟨#[c]⟩) (Rp.mono e f6)
  refine ⟨Hs2, _, zip_get ?_ f5, r2, rp, g⟩
  unfold signs
  rw [List.getElem?_map, Array.getElem?_toList, f1]
  rfl
end

/-! ### constants of the module: tuples, tables with texts as keys -/
mutual
def ktIn (K : PySem.W.Frag) : D → Value → Bool
  | .none, .none => true
  | .bool a, .bool b => a == b
  | .int a, .int b _ => decide (a = b)
  | .str a, .str b _ => decide (a = b)
  | .tuple ds, .ref a => (match K.lookup a with
    | some ⟨.type "tuple", _, .seq its _, _⟩ => decide (its.size ≤ 1000) && ktAll K ds its.toList
    | _ => false)
  | _, _ => false
def ktAll (K : PySem.W.Frag) : List D → List Value → Bool
  | [], [] => true
  | d :: ds, u :: us => ktIn K d u && ktAll K ds us
  | _, _ => false
end
mutual
theorem kt_rp {K : PySem.W.Frag} : ∀ (d : D) (u : Value), ktIn K d u = true → ∃ v, RelV v u ∧ ∀ H, Rp K H v d
  | .none, u, h => by
    cases u <;> first | (simp [ktIn] at h; done) | skip
    exact ⟨.non, rfl, fun H => .non⟩
  | .bool a, u, h => by
    cases u <;> first | (simp [ktIn] at h; done) | skip
    simp only [ktIn, beq_iff_eq] at h
    subst h
    exact ⟨.bl _, rfl, fun H => .bl _⟩
  | .int a, u, h => by
    cases u <;> first | (simp [ktIn] at h; done) | skip
    simp only [ktIn, decide_eq_true_eq] at h
    subst h
    exact ⟨.int _, ⟨_, rfl⟩, fun H => .int _⟩
  | .str a, u, h => by
    cases u <;> first | (simp [ktIn] at h; done) | skip
    simp only [ktIn, decide_eq_true_eq] at h
    subst h
    exact ⟨.str _, ⟨_, rfl⟩, fun H => .str _⟩
  | .list ds, u, h => by cases u <;> simp [ktIn] at h
  | .dict ds, u, h => by cases u <;> simp [ktIn] at h
  | .tuple ds, u, h => by
    cases u <;> first | (simp [ktIn] at h; done) | skip
    rename_i a
    unfold ktIn at h
    split at h
    · rename_i od its n sl e
      rw [Bool.and_eq_true, decide_eq_true_eq] at h
      obtain ⟨vs, h1, h2⟩ := kt_all ds its.toList h.2
      exact ⟨.ref a, rfl, fun H => .tup (.inr ⟨_, its, n, e, rfl, rfl, Nat.le_trans h.1 (by decide), h1⟩) (h2 H)⟩
    · cases h
theorem kt_all {K : PySem.W.Frag} : ∀ (ds : List D) (us : List Value), ktAll K ds us = true → ∃ vs, Vals vs us ∧ ∀ H, RpAll K H vs ds
  | [], us, h => by
    cases us with
    | nil => exact ⟨[], .nil, fun H => .nil⟩
    | cons u us => simp [ktAll] at h
  | d :: ds, us, h => by
    cases us with
    | nil => simp [ktAll] at h
    | cons u us =>
      rw [ktAll, Bool.and_eq_true] at h
      obtain ⟨v, h1, h2⟩ := kt_rp d u h.1
      obtain ⟨vs, h3, h4⟩ := kt_all ds us h.2
      exact ⟨v :: vs, .cons h1 h3, fun H => .cons (h2 H) (h4 H)⟩
end
/-- a constant of the module that is a tuple -/
def Gt (K : PySem.W.Frag) (mg : Str → Option Value) (x : Str) (d : D) : Prop := ∃ u, mg x = some u ∧ ktIn K d u = true
theorem Gt.ex {K : PySem.W.Frag} {mg : Str → Option Value} {x : Str} {d : D} (h : Gt K mg x d) : ∃ v u, mg x = some u ∧ RelV v u ∧ ∀ H, Rp K H v d := by
  obtain ⟨u, e, k⟩ := h
  obtain ⟨v, r, q⟩ := kt_rp d u k
  exact ⟨v, u, e, r, q⟩
noncomputable def Gt.v {K : PySem.W.Frag} {mg : Str → Option Value} {x : Str} {d : D} (h : Gt K mg x d) : V := h.ex.choose
theorem Gt.spec {K : PySem.W.Frag} {mg : Str → Option Value} {x : Str} {d : D} (h : Gt K mg x d) : ∃ u, mg x = some u ∧ RelV h.v u ∧ ∀ H, Rp K H h.v d := h.ex.choose_spec
theorem pe_gt {X : Cx} {x : Str} {d : D} {pos : Pos} {K : PySem.W.Frag} {mg : Str → Option Value} (hg : Gl X x) (h : Gt K mg x d) (hm : X.mg = mg := by rfl) (hd : (x == ("__debug__" : Str)) = false := by decide) : PE X (.Name x pos) (tC h.v) := by
  obtain ⟨u, e, r, _⟩ := h.spec
  exact pe_glob hg (by rw [hm]; exact e) r hd
theorem sim_gt {C : Cf} {mg : Str → Option Value} {x : Str} {d : D} (h : Gt C.K mg x d) : Sim C .E (tC h.v) (dC d) := by
  obtain ⟨u, e, r, q⟩ := h.spec
  exact ⟨fun H0 S0 Hs σ H s Q Q' r q' k => k Hs H _ d s Go.refl r (q Hs) q'⟩
/-! tables -/
def findT : List (Str × D) → Str → Option D
  | [], _ => none
  | (k, d) :: r, z => if k = z then some d else findT r z
def tabIn (K : PySem.W.Frag) : List (Str × D) → List DictEntry → Bool
  | [], [] => true
  | (k, d) :: r, e :: es => (match e.key with | .str y _ => decide (k = y) | _ => false) && ktIn K d e.val && tabIn K r es
  | _, _ => false
structure GdAt (w : World) (K : PySem.W.Frag) (mg : Str → Option Value) (x : Str) (tab : List (Str × D)) (a : Addr) : Prop where
  g : mg x = some (.ref a)
  ex : ∃ (es : Array DictEntry) (n : Nat), K.lookup a = some ⟨.type "dict", none, .dict es n, #[]⟩ ∧ PySem.W.KeysLit w.params es.toList ∧ tabIn K tab es.toList = true
  low : (a == sysModules) = false
def Gd (w : World) (K : PySem.W.Frag) (mg : Str → Option Value) (x : Str) (tab : List (Str × D)) : Prop := ∃ a, GdAt w K mg x tab a
theorem tab_find {K : PySem.W.Frag} {z : Str} : ∀ (tab : List (Str × D)) (es : List DictEntry), tabIn K tab es = true → (findT tab z = none ∧ es.find? (·.key.isStr z) = none) ∨ ∃ d e, findT tab z = some d ∧ es.find? (·.key.isStr z) = some e ∧ ktIn K d e.val = true
  | [], [], _ => .inl ⟨rfl, rfl⟩
  | [], _ :: _, h => by simp [tabIn] at h
  | _ :: _, [], h => by simp [tabIn] at h
  | (k, d) :: r, e :: es, h => by
    rw [tabIn, Bool.and_eq_true, Bool.and_eq_true] at h
    obtain ⟨⟨h1, h2⟩, h3⟩ := h
    split at h1
    · rename_i y t ey
      have h1 := of_decide_eq_true h1
      subst h1
      by_cases hz : k = z
      · subst hz
        refine .inr ⟨d, e, if_pos rfl, ?_, h2⟩
        rw [List.find?_cons, ey]
        have : (Value.str k t).isStr k = true := by rw [PySem.W.isStr_of]; simp [Value.isStrOf]
        rw [this]
      · have e1 : findT ((k, d) :: r) z = findT r z := if_neg hz
        have e2 : (e :: es).find? (·.key.isStr z) = es.find? (·.key.isStr z) := by
          rw [List.find?_cons, ey]
          have : (Value.str k t).isStr z = false := by
            rw [PySem.W.isStr_of]
            simp [Value.isStrOf, hz]
            try exact fun q => hz q.symm
          rw [this]
        rw [e1, e2]
        exact tab_find r es h3
    · cases h1
theorem tab_nos {K : PySem.W.Frag} : ∀ (tab : List (Str × D)) (es : List DictEntry), tabIn K tab es = true → es.any (·.refKey) = false
  | [], [], _ => rfl
  | [], _ :: _, h => by simp [tabIn] at h
  | _ :: _, [], h => by simp [tabIn] at h
  | (k, d) :: r, e :: es, h => by
    rw [tabIn, Bool.and_eq_true, Bool.and_eq_true] at h
    obtain ⟨⟨h1, h2⟩, h3⟩ := h
    rw [List.any_cons, tab_nos r es h3, Bool.or_false]
    split at h1
    · rename_i y t ey
      unfold DictEntry.refKey
      rw [ey]
    · cases h1
theorem GdAt.ns {w : World} {K : PySem.W.Frag} {mg : Str → Option Value} {x : Str} {tab : List (Str × D)} {a : Addr} (h : GdAt w K mg x tab a) (z : Str) : (findT tab z = none ∧ PySem.W.nsIn K a z = some none) ∨ ∃ d u, findT tab z = some d ∧ PySem.W.nsIn K a z = some (some u) ∧ ktIn K d u = true := by
  obtain ⟨es, n, l, kl, ti⟩ := h.ex
  unfold PySem.W.nsIn
  rw [l]
  dsimp only
  rcases tab_find (z := z) tab es.toList ti with ⟨h1, h2⟩ | ⟨d, e, h1, h2, h3⟩
  · refine .inl ⟨h1, ?_⟩
    rw [h2]
    dsimp only
    rw [if_neg]
    rw [tab_nos _ _ ti]
    exact Bool.false_ne_true
  · refine .inr ⟨d, e.val, h1, ?_, h3⟩
    rw [h2]
noncomputable def Gd.a {w : World} {K : PySem.W.Frag} {mg : Str → Option Value} {x : Str} {tab : List (Str × D)} (h : Gd w K mg x tab) : Addr := h.choose
theorem Gd.at_ {w : World} {K : PySem.W.Frag} {mg : Str → Option Value} {x : Str} {tab : List (Str × D)} (h : Gd w K mg x tab) : GdAt w K mg x tab h.a := h.choose_spec
section
variable {X : Cx} {w : World} {K : PySem.W.Frag} {mg : Str → Option Value} {x : Str} {tab : List (Str × D)}
theorem pe_tab {pos : Pos} (hg : Gl X x) (h : Gd w K mg x tab) (hm : X.mg = mg := by rfl) (hd : (x == ("__debug__" : Str)) = false := by decide) : PE X (.Name x pos) (tC (.ref h.a)) :=
  pe_glob hg (by rw [hm]; exact h.at_.g) rfl hd
def rTabIn (neg : Bool) (K : PySem.W.Frag) (a : Addr) : R2 := fun x y H Q => ∃ (z : Str) (r : Option Value), x = .str z ∧ y = .ref a ∧ PySem.W.nsIn K a z = some r ∧ Q (.bl (xor neg r.isSome)) H
theorem inTab (h : Gd w K mg x tab) (hK : X.K = K := by rfl) (hw : X.w = w := by rfl) : OpR X (compareOp .In) (rTabIn false K h.a) := by
  subst hK hw
  obtain ⟨es, n, l, kl, ti⟩ := h.at_.ex
  intro pins s σ H x y v u Q I rx ry q
  obtain ⟨z, r, e1, e2, e3, q⟩ := q
  exact op_in_kd ⟨l, kl, h.at_.low⟩ pins s σ H x y v u Q I rx ry ⟨z, r, e1, e2, e3, by simpa using q⟩
theorem ninTab (h : Gd w K mg x tab) (hK : X.K = K := by rfl) (hw : X.w = w := by rfl) : OpR X (compareOp .NotIn) (rTabIn true K h.a) := by
  subst hK hw
  obtain ⟨es, n, l, kl, ti⟩ := h.at_.ex
  intro pins s σ H x y v u Q I rx ry q
  obtain ⟨z, r, e1, e2, e3, q⟩ := q
  exact op_notIn_kd ⟨l, kl, h.at_.low⟩ pins s σ H x y v u Q I rx ry ⟨z, r, e1, e2, e3, by simpa using q⟩
theorem ixTab (hK : X.K = K := by rfl) (hw : X.w = w := by rfl) : IxR X (rIxD K w) := by subst hK hw; exact ix_kdict
end
section
variable {C : Cf} {w : World} {mg : Str → Option Value} {x : Str} {tab : List (Str × D)} {ta : TE} {da : DT} {ca : Cat}
def dTabIn (neg : Bool) (tab : List (Str × D)) (da : DT) : DT := fun s Q => da s fun d s1 => match d with
  | .str z => Q (.bool (xor neg (findT tab z).isSome)) s1
  | _ => False
theorem sim_tabIn (neg : Bool) (h : Gd w C.K mg x tab) (ha : Sim C ca ta da) : Sim C .F (tOp (rTabIn neg C.K h.a) ta (tC (.ref h.a))) (dTabIn neg tab da) := by
  refine ⟨fun H0 S0 Hs σ H s Q Q' r q k => ha.toE.run H0 S0 Hs σ H s _ _ r q fun Hs1 H1 v d s1 g1 r1 v1 q1 => ?_⟩
  cases d <;> first | exact q1.elim | skip
  rename_i z
  have v1' : Rp C.K Hs1 v (.str z) := v1
  cases v1'
  rcases h.at_.ns z with ⟨e1, e2⟩ | ⟨d, u, e1, e2, e3⟩
  · refine ⟨z, none, rfl, rfl, e2, k Hs1 H1 _ (.bool _) s1 g1 r1 (Val.mkP (Rp.bl _) rfl) ?_⟩
    have q1 : Q (.bool (xor neg (findT tab z).isSome)) s1 := q1
    rw [e1] at q1
    exact q1
  · refine ⟨z, some u, rfl, rfl, e2, k Hs1 H1 _ (.bool _) s1 g1 r1 (Val.mkP (Rp.bl _) rfl) ?_⟩
    have q1 : Q (.bool (xor neg (findT tab z).isSome)) s1 := q1
    rw [e1] at q1
    exact q1
def dTabGet (tab : List (Str × D)) (da : DT) : DT := fun s Q => da s fun d s1 => match d with
  | .str z => IxP (findT tab z) fun e => Q e s1
  | _ => False
theorem sim_tabGet (h : Gd w C.K mg x tab) (ha : Sim C ca ta da) : Sim C .E (tOp (rIxD C.K w) (tC (.ref h.a)) ta) (dTabGet tab da) := by
  refine ⟨fun H0 S0 Hs σ H s Q Q' r q k => ha.toE.run H0 S0 Hs σ H s _ _ r q fun Hs1 H1 v d s1 g1 r1 v1 q1 => ?_⟩
  cases d <;> first | exact q1.elim | skip
  rename_i z
  have v1' : Rp C.K Hs1 v (.str z) := v1
  cases v1'
  obtain ⟨⟨e, he, q1⟩⟩ := (show IxP (findT tab z) _ from q1)
  rcases h.at_.ns z with ⟨e1, e2⟩ | ⟨d, u, e1, e2, e3⟩
  · rw [e1] at he; cases he
  · rw [e1] at he
    cases he
    obtain ⟨v, rv, rp⟩ := kt_rp _ u e3
    obtain ⟨es, n, l, kl, ti⟩ := h.at_.ex
    exact ⟨_, z, v, rfl, rfl, ⟨es, n, u, l, kl, e2, rv⟩, k Hs1 H1 v _ s1 g1 r1 (rp Hs1) q1⟩
end
/-! ### keywords in a call -/
def DfK (K : PySem.W.Frag) (mg : Str → Option Value) (x : Str) (st : Stmt) (ps ks : List Str) (n : Nat) : Prop :=
  ∃ (f : Addr) (fd : FuncData), Fun K x x st f fd ∧ KBn K fd ps n ks (fun us ws => us ++ ws) (fun vs zs => vs ++ zs) ∧ mg x = some (.ref f)
def OkK (P : Program) (w : World) (K : PySem.W.Frag) (mg : Str → Option Value) (base : Heap) (k : Nat) (x : Str) (ps ks : List Str) (n : Nat) (sp : Sp) : Prop :=
  ∃ (f : Addr) (fd : FuncData), mg x = some (.ref f) ∧ PySem.W.keepIn K (.ref f) = true ∧ KBn K fd ps n ks (fun us ws => us ++ ws) (fun vs zs => vs ++ zs) ∧ FnG P w K mg base k f fd ps sp
section
variable {P : Program} {w : World} {K : PySem.W.Frag} {mg : Str → Option Value} {base : Heap}
theorem OkK.mono {x : Str} {ps ks : List Str} {n j k : Nat} {sp : Sp} (h : OkK P w K mg base j x ps ks n sp) (l : j ≤ k) : OkK P w K mg base k x ps ks n sp := by
  obtain ⟨f, fd, hm, hk, hb, F⟩ := h
  exact ⟨f, fd, hm, hk, hb, F.mono l⟩
theorem OkK.ofN {x : Str} {st : Stmt} {N ps ks : List Str} {k n m : Nat} {cat : Cat} {M : List Nat} {F : DF} (D' : DfK K mg x st ps ks m) (S' : FnScope N ps (defScope st)) (hn : ps.length = n) (hM : ∀ i ∈ M, n ≤ i ∧ i < N.length)
    (hbody : ∀ (f : Addr) (cdv : Value) (A : Around) (outer : List Env) (s : Shared) (H : Hp) (E : XK), Rm k (A.deeper (envOfC x (defScope st) s.heap.objs.size f cdv)) →
      ∃ t d, PSs (cxOf CX0 P w K mg base N x (defScope st) f cdv A outer s H E).nox (defBody st) t ∧ SimS { K := K, pen := none, ps := 1000, M := M } cat t d ∧ ∀ ds (Q : D → Prop), ds.length = n → F ds Q → d { nx := fun _ => Q .none, rt := fun z _ => Q z } { δ := start' N.length ds, n := 0 }) :
    OkK P w K mg base (k + 1) x ps ks m (spN K n cat F) := by
  obtain ⟨f, fd, F', b, g⟩ := D'
  exact ⟨f, fd, g, F'.kp, b, Fn.ofNE F' S' hn hM fun f cdv A outer s H E hr => by
    obtain ⟨t, d, h1, h2, h3⟩ := hbody f cdv A outer s H E hr
    exact ⟨t, d, h1, h2.e, h3⟩⟩
end
theorem pe_fnK {X : Cx} {k n : Nat} {x : Str} {ps ks : List Str} {sp : Sp} {e : Expr} {es : List Expr} {kws : List Keyword} {t tk : TA} {p pos : Pos} (O : OkK X.prog X.w X.K X.mg X.base k x ps ks n sp) (hr : Rm k X.A) (hg : Gl X x) (ha : PA X (e :: es) t) (hkw : PK X kws tk)
    (hall : (backToKw pos (keywordEach kws X.env)).all (·.1.isSome) = true := by rfl) (hks : (backToKw pos (keywordEach kws X.env)).filterMap (·.1) = ks := by rfl)
    (hdb : (x == ("__debug__" : Str)) = false := by decide) (he : starEach (e :: es) X.env = (false, eval e X.env) :: starEach es X.env := by rfl)
    (hpl : ((backTo pos (starEach (e :: es) X.env)).any (·.1) || (backToKw pos (keywordEach kws X.env)).any (·.1.isNone)) = false := by rfl) :
    PE X (.Call (.Name x p) (e :: es) kws pos) (tCallN n ks.length sp (fun vs zs => vs ++ zs) E0 t tk) := by
  obtain ⟨f, fd, hm, hk, hb, F⟩ := O
  refine ⟨fun pins s σ H Q I h => ?_⟩
  refine wpAny_Call_Name_kw (ld_glob I hg hm ?_ hdb)
  refine PySem.W.callWith_KW (h₀ := X.base) I.ok.mod.kin hk hall (thn (ha.run pos pins s σ H _ I h) fun us s1 ⟨vs, H1, I1, r, q⟩ => ?_) hpl he
  refine thn (hkw.run pos pins s1 σ H1 _ I1 q) fun ws s2 ⟨zs, H2, I2, rz, l1, l2, q2⟩ => ⟨I2.kIn, ?_⟩
  rw [hks]
  have r2 := hb.rel r rz
  refine wpAny_call (codeAny_mono (F.run X.A X.stack s2 H2 ⟨us, ks.zip ws⟩ (us ++ ws) (vs ++ zs) Q E0 hr.toRoom hr.gd I2.env0 (hb.to s2 us ws I2.kIn (r.length.symm.trans l1) (rz.length.symm.trans l2)) r2 q2) fun r s' z => ?_)
  match r, z with
  | .ok (.ret u), z => exact I2.after z
  | .ok .next, z => exact False.elim z
  | .ok .brk, z => exact False.elim z
  | .ok .cont, z => exact False.elim z
  | .error e, z => exact False.elim z
def dApp (a b : DA) : DA := fun s Q => a s fun ds s1 => b s1 fun es s2 => Q (ds ++ es) s2
theorem sim_callK {C : Cf} {n m : Nat} {cat : Cat} {F : DF} {ta tk : TA} {a b : DA} (h : SimA C n ta a) (h' : SimA C m tk b) : Sim C cat (tCallN n m (spN C.K (n + m) cat F) (fun vs zs => vs ++ zs) E0 ta tk) (dCall F (dApp a b)) := by
  refine ⟨fun H0 S0 Hs σ H s Q Q' r q k => h.run H0 S0 Hs σ H s _ _ r q fun Hs1 H1 vs ds s1 g1 r1 v1 l1 q1 => h'.run H0 S0 Hs1 σ H1 s1 _ _ r1 q1 fun Hs2 H2 zs es s2 g2 r2 v2 l2 q2 => ?_⟩
  refine ⟨by rw [v1.len, l1], by rw [v2.len, l2], Hs2, ds ++ es, _, r2.sub, (RpAll.mono g2.st v1).app v2, by rw [List.length_append, l1, l2], q2, fun d Hs' H' v q3 st sb hh nw rv => ?_⟩
  obtain ⟨r3, g3⟩ := r2.step st sb hh nw
  exact k Hs' H' v d s2 (g1.trans (g2.trans g3)) r3 ((rv.val r2).anew fun a e => (g1.trans g2).back a e) q3
/-! ### text.split(text), is of bools -/
section
variable {C : Cf} {ca cb : Cat} {ta tb : TE} {da db : DT}
def dSplit (a b : DT) : DT := fun s Q => a s fun x s1 => match x with
  | .str z => b s1 fun y s2 => (match y with
    | .str c => (c.length == 0) = false ∧ z.length + 2 ≤ sizeLine ∧ Q (.list ((Txt.split z c).map PyData.str)) s2
    | _ => False)
  | _ => False
theorem sim_split (ha : Sim C ca ta da) (hb : Sim C cb tb db) : Sim C .F (tM1 (fun x xs H Q => ∃ a b, x = .str a ∧ xs = [.str b] ∧ (b.length == 0) = false ∧ a.length + 2 ≤ sizeLine ∧ rNewStrs (Txt.split a b) H Q) ta tb) (dSplit da db) := by
  refine ⟨fun H0 S0 Hs σ H s Q Q' r q k => ha.toE.run H0 S0 Hs σ H s _ _ r q fun Hs1 H1 x dx s1 g1 r1 v1 q1 => ?_⟩
  cases dx <;> first | exact q1.elim | skip
  rename_i z
  have v1' : Rp C.K Hs1 x (.str z) := v1
  cases v1'
  refine ⟨⟨_, rfl⟩, hb.toE.run H0 S0 Hs1 σ H1 s1 _ _ r1 q1 fun Hs2 H2 y dy s2 g2 r2 v2 q2 => ?_⟩
  cases dy <;> first | exact q2.elim | skip
  rename_i c
  have v2' : Rp C.K Hs2 y (.str c) := v2
  cases v2'
  refine ⟨z, c, rfl, rfl, q2.1, q2.2.1, fun p np => ?_⟩
  exact k Hs2 _ _ (.list _) s2 ((g1.trans g2).trans (Go.laid np)) (r2.laid np) ((r2.newList np (strs_rp' _)).anew fun a e => (g1.trans g2).back a e) q2.2.2
def isBD : DO := fun x y Q => match x, y with
  | .bool a, .bool b => Q (.bool (decide (a = b)))
  | _, _ => False
theorem opA_isB : OpA C rIsB isBD := by
  intro H0 S0 Hs σ H s x y dx dy Q Q' r hx hy q k
  cases dx <;> cases dy <;> first | exact q.elim | skip
  cases hx; cases hy
  exact ⟨_, _, rfl, rfl, k Hs H _ (.bool _) Go.refl r (Val.mkP (Rp.bl _) rfl) q⟩
end
theorem vals_app : ∀ {vs zs : List V} {us ws : List Value}, Vals vs us → Vals zs ws → Vals (vs ++ zs) (us ++ ws)
  | _, _, _, _, .nil, h => h
  | _, _, _, _, .cons a b, h => .cons a (vals_app b h)

/-! ### x = a new dict; x["k"] = e: then it is still -/
section
variable {C : Cf} {cat ca cb : Cat} {ta tb : TE} {da db : DT} {us : TS} {b : DSt}
theorem R.setN {H0 S0 Hs : Hp} {σ : L2.St} {H : Hp} {s : S} {i : Nat} {v : V} (r : R C H0 S0 Hs σ H s) (hi : i ∉ C.M) (hp : i ≠ C.ps) : R C H0 S0 Hs (σ.set i (some v)) H { s with δ := s.δ.set i none } := by
  have ne : ∀ j, j ∈ C.M → j ≠ i := fun j m z => hi (z ▸ m)
  refine ⟨by simpa using r.len, r.sub, fun j d' q m => ?_, fun j d' q m => ?_, fun j m q => ?_, fun j l x m1 m2 q1 q2 => ?_, fun p c q => ?_, fun b hb => ?_, r.s0, r.h0, r.new⟩
  · by_cases hj : j = i
    · subst hj
      have il : j < s.δ.length := by
        have := (List.getElem?_eq_some_iff.mp q).1
        simpa using this
      rw [List.getElem?_set_self il] at q
      cases q
    · rw [List.getElem?_set_ne (Ne.symm hj)] at q ⊢
      exact r.slot j d' q m
  · rw [List.getElem?_set_ne (Ne.symm (ne j m))] at q ⊢
    exact r.mt j d' q m
  · rw [List.getElem?_set_ne (Ne.symm (ne j m))] at q ⊢
    exact r.dead j m q
  · rw [List.getElem?_set_ne (Ne.symm (ne j m1))] at q1
    rw [List.getElem?_set_ne (Ne.symm (ne l m2))] at q2
    exact r.sep j l x m1 m2 q1 q2
  · obtain ⟨f1, f2, f3, f4, f5, f6, f7⟩ := r.pn p c q
    exact ⟨by rw [List.getElem?_set_ne hp]; exact f1, f2, f3, f4, f5, by rw [List.getElem?_set_ne hp]; exact f6, f7⟩
  · obtain ⟨⟨j, b1, b2, b3⟩, b4⟩ := r.br b hb
    exact ⟨⟨j, b1, b2, by rw [List.getElem?_set_ne (Ne.symm (ne j b2))]; exact b3⟩, b4⟩
def dSetPut (i : Nat) (da : DT) (key : Str) (db : DT) (b : DSt) : DSt := fun E s => da s fun d s1 => match d with
  | .dict kvs => db { s1 with δ := s1.δ.set i none } fun v s2 => kvs.length < sizeLine ∧ b E { s2 with δ := s2.δ.set i (some (.dict (putD kvs (.str key) v))) }
  | _ => False
theorem simS_putSeq {key : Str} (i : Nat) (hi : i ∉ C.M) (hp : i ≠ C.ps) (h1 : Sim C .F ta da) (h2 : Sim C cb tb db) (hb : SimS C cat us b) :
    SimS C cat (tSeq (tAsg ta (gName i)) (tSeq (sDPut (tVar i) (tC (.str key)) tb) us)) (fun E s => i < s.δ.length ∧ dSetPut i da key db b E s) := by
  refine ⟨fun H0 S0 Hs σ H s E D' r ⟨hil, q⟩ k => h1.run H0 S0 Hs σ H s _ _ r q fun Hs1 H1 v d s1 g1 r1 v1 q1 => ?_⟩
  cases d <;> first | exact q1.elim | skip
  rename_i kvs
  obtain ⟨a, rfl, o, f1, f2, f3, f4, f5, f6⟩ := v1.c rfl
  have hiσ : i < σ.length := by rw [r.len]; exact hil
  have own' : ∀ {x : Addr}, Own C (σ.set i (some (.ref a))) x → Own C σ x := fun {x} ⟨j, m, e⟩ => ⟨j, m, by
    rw [List.getElem?_set_ne (fun z => hi (by rw [z]; exact m))] at e
    exact e⟩
  have r2 := r1.setN (v := .ref a) hi hp
  have v1' : Val C H0 H Hs1 (σ.set i (some (.ref a))) H1 .F (.ref a) (.dict kvs) := Val.mkC ⟨o, f1, f2, f3, f4, f5, fun z => f6 (own' z)⟩
  refine h2.toE.run H0 S0 Hs1 (σ.set i (some (.ref a))) H1 _ _ _ r2 q1 fun Hs2 H2 y dy s2 g2 r3 v2 q2 => ?_
  have v3 := v1'.go r2 g2
  obtain ⟨a', e, o2, z1, z2, z3, z4, cn, no⟩ := v3.c rfl
  cases e
  cases cn with
  | dic rp =>
    rename_i xs
    have v2' : Rp C.K Hs2 y dy := v2
    refine ⟨.ref a, List.getElem?_set_self hiσ, a, _, rfl, DPut.k (k := .inr key) z1 (by rw [rp.len]; exact q2.1), ?_⟩
    have r4 := r3.updF (o := .dK (putK xs (.inr key) y)) z2 z3 no
    obtain ⟨Hs3, sm, r5, rp5, _⟩ := r4.freeze (Hst := H) (a := a) (d := .dict (putD kvs (.str key) dy)) ⟨_, upd_same, z2, z3, z4, .dic (rp.put (k := .inr key) v2'), no⟩
    have r6 := r5.setE hi hp rp5
    rw [List.set_set] at r6
    exact hb.run H0 S0 Hs3 _ _ _ E D' r6 q2.2 k
end
/-! ### x = a new list; x is changed; then it is still -/
section
variable {C : Cf} {cat ca cb : Cat} {ta tb : TE} {da db : DT} {ts us : TS} {a b : DSt}
theorem R.toM {H0 S0 Hs : Hp} {σ : L2.St} {H : Hp} {s : S} {i : Nat} {x : Addr} {d : D} {Hst : Hp} (r : R C H0 S0 Hs σ H s) (hi : i ∉ C.M) (hp : i ≠ C.ps) (hil : i < s.δ.length) (f : Fresh C H0 Hst Hs σ H x d) :
    R { C with M := i :: C.M } H0 S0 Hs (σ.set i (some (.ref x))) H { s with δ := s.δ.set i (some d) } := by
  obtain ⟨o, h1, h2, h3, _, h4, h5⟩ := f
  have ne : ∀ j, j ∈ C.M → j ≠ i := fun j m z => hi (z ▸ m)
  have hiσ : i < σ.length := by rw [r.len]; exact hil
  refine ⟨by simpa using r.len, r.sub, fun j d' q m => ?_, fun j d' q m => ?_, fun j m q => ?_, fun j l y m1 m2 q1 q2 => ?_, fun p c q => ?_, fun b hb' => ?_, r.s0, r.h0, r.new⟩
  · have hj : j ≠ i := fun z => m (by rw [z]; exact List.mem_cons_self ..)
    have hm : j ∉ C.M := fun z => m (List.mem_cons_of_mem _ z)
    rw [List.getElem?_set_ne (Ne.symm hj)] at q ⊢
    exact r.slot j d' q hm
  · by_cases hj : j = i
    · subst hj
      rw [List.getElem?_set_self hil] at q
      cases q
      exact ⟨x, o, List.getElem?_set_self hiσ, h1, h2, h4, .inl h3⟩
    · have hm : j ∈ C.M := (List.mem_cons.mp m).resolve_left hj
      rw [List.getElem?_set_ne (Ne.symm hj)] at q ⊢
      exact r.mt j d' q hm
  · by_cases hj : j = i
    · subst hj
      rw [List.getElem?_set_self hil] at q
      cases q
    · have hm : j ∈ C.M := (List.mem_cons.mp m).resolve_left hj
      rw [List.getElem?_set_ne (Ne.symm hj)] at q ⊢
      exact r.dead j hm q
  · by_cases hj : j = i
    · by_cases hl : l = i
      · rw [hj, hl]
      · subst hj
        rw [List.getElem?_set_self hiσ] at q1
        cases q1
        rw [List.getElem?_set_ne (Ne.symm hl)] at q2
        exact absurd ⟨l, (List.mem_cons.mp m2).resolve_left hl, q2⟩ h5
    · by_cases hl : l = i
      · subst hl
        rw [List.getElem?_set_self hiσ] at q2
        cases q2
        rw [List.getElem?_set_ne (Ne.symm hj)] at q1
        exact absurd ⟨j, (List.mem_cons.mp m1).resolve_left hj, q1⟩ h5
      · rw [List.getElem?_set_ne (Ne.symm hj)] at q1
        rw [List.getElem?_set_ne (Ne.symm hl)] at q2
        exact r.sep j l y ((List.mem_cons.mp m1).resolve_left hj) ((List.mem_cons.mp m2).resolve_left hl) q1 q2
  · obtain ⟨f1, f2, f3, f4, f5, f6, f7⟩ := r.pn p c q
    exact ⟨by rw [List.getElem?_set_ne hp]; exact f1, f2, f3, f4, f5, by rw [List.getElem?_set_ne hp]; exact f6, fun z => (List.mem_cons.mp z).elim (fun z => hp z.symm) f7.1, f7.2⟩
  · obtain ⟨⟨j, b1, b2, b3⟩, b4⟩ := r.br b hb'
    exact ⟨⟨j, b1, List.mem_cons_of_mem _ b2, by rw [List.getElem?_set_ne (Ne.symm (ne j b2))]; exact b3⟩, b4⟩
def dPhase (i : Nat) (da : DT) (a b : DSt) : DSt := fun E s => da s fun d s1 => isC d = true ∧ i < s1.δ.length ∧ a { nx := fun s' => b E s', rt := fun _ _ => False } { s1 with δ := s1.δ.set i (some d) }
theorem simS_phase (i : Nat) (hi : i ∉ C.M) (hp : i ≠ C.ps) (hb' : i ∉ C.bs) (h1 : Sim C .F ta da) (hA : SimS { C with M := i :: C.M } cat ts a) (hB : SimS C cat us b) : SimS C cat (tSeq (tAsg ta (gName i)) (tSeq ts us)) (dPhase i da a b) := by
  refine ⟨fun H0 S0 Hs σ H s E D' r q k => h1.run H0 S0 Hs σ H s _ _ r q fun Hs1 H1 v d s1 g1 r1 v1 q1 => ?_⟩
  obtain ⟨qc, hil, q1⟩ := q1
  obtain ⟨x, rfl, f⟩ := v1.c qc
  have r2 := r1.toM hi hp hil f
  refine hA.run H0 S0 Hs1 _ H1 _ _ _ r2 q1 ⟨fun Hs2 σ2 H2 s2 r3 q2 => ?_, fun _ _ _ _ _ _ _ _ z => z.elim, fun _ _ _ _ _ z => z.elim, fun _ _ _ _ _ z => z.elim⟩
  obtain ⟨Hs3, r4⟩ := r3.still (M' := C.M) (i := i) (fun j => List.mem_cons) hi hb'
  exact hB.run H0 S0 Hs3 σ2 H2 s2 E D' r4 q2 k
end
/-! ### powers of big bases -/
def powWD : DO := fun x y Q => match x, y with
  | .int i, .int j => CPowW i j ∧ Q (.int (i ^ j.toNat))
  | _, _ => False
theorem opA_powW {C : Cf} : OpA C (rI CPowW fun i j => .int (i ^ j.toNat)) powWD := by
  intro H0 S0 Hs σ H s x y dx dy Q Q' r hx hy q k
  cases dx <;> cases dy <;> first | exact q.elim | skip
  case int.int i j => cases hx; cases hy; exact ⟨i, j, rfl, rfl, q.1, k Hs H _ (.int (i ^ j.toNat)) Go.refl r (Val.mkP (Rp.int _) rfl) q.2⟩

/-! ### trees of bounded depth and size: what == and repr may see -/
mutual
def bd : D → Bool
  | .none => true
  | .bool _ => true
  | .int i => decide (i.natAbs < 10 ^ 420)
  | .str x => PyData.strOk x
  | .list ds => bdAll ds
  | .tuple ds => bdAll ds
  | .dict _ => false
def bdAll : List D → Bool
  | [] => true
  | d :: ds => bd d && bdAll ds
end
mutual
def sz : D → Nat
  | .none => 4
  | .bool _ => 5
  | .int i => if i.natAbs < 10 ^ 250 then 251 else 421
  | .str x => 10 * x.length + 2
  | .list ds => szAll ds + 3
  | .tuple ds => szAll ds + 3
  | .dict _ => 0
def szAll : List D → Nat
  | [] => 0
  | d :: ds => sz d + 2 + szAll ds
end
theorem strLen_app (a b : Str) : (a ++ b).length = a.length + b.length := by
  rw [TL.len_tl, TL.len_tl, TL.len_tl, TL.tl_append, List.length_append]
theorem log1920 {n : Nat} (h : n < 10 ^ 420) : n.log2 < 1920 := by
  by_cases h0 : n = 0
  · subst h0; decide
  · exact (Nat.log2_lt h0).mpr (Nat.lt_of_lt_of_le h (by decide +kernel))
mutual
theorem bd_lay : ∀ d : D, bd d = true → PyData.canLay0 d = true ∧ d.showable = true
  | .none, _ => ⟨rfl, rfl⟩
  | .bool _, _ => ⟨rfl, rfl⟩
  | .int i, h => ⟨rfl, by simp only [bd, decide_eq_true_eq] at h; simp only [PyData.showable]; exact decide_eq_true (log1920 h)⟩
  | .str x, h => ⟨by simpa [PyData.canLay0, bd] using h, rfl⟩
  | .list ds, h => by
    have := bd_layL ds (by simpa [bd] using h)
    exact ⟨by simpa [PyData.canLay0] using this.1, by simpa [PyData.showable] using this.2⟩
  | .tuple ds, h => by
    have := bd_layL ds (by simpa [bd] using h)
    exact ⟨by simpa [PyData.canLay0] using this.1, by simpa [PyData.showable] using this.2⟩
  | .dict _, h => by simp [bd] at h
theorem bd_layL : ∀ ds : List D, bdAll ds = true → PyData.canLayAll0 ds = true ∧ PyData.showableAll ds = true
  | [], _ => ⟨rfl, rfl⟩
  | d :: ds, h => by
    simp only [bdAll, Bool.and_eq_true] at h
    have h1 := bd_lay d h.1
    have h2 := bd_layL ds h.2
    exact ⟨by simp [PyData.canLayAll0, h1.1, h2.1], by simp [PyData.showableAll, h1.2, h2.2]⟩
end
theorem join_le (ts : List Str) : (Str.join ", " ts).length ≤ piled ts := by
  cases ts with
  | nil => decide +kernel
  | cons t r =>
    have := join_length_add (t :: r) (by simp)
    omega
theorem textFrom_le : ∀ (ts : List Str) (k : Nat) (acc : Str), (textFrom k acc ts).length ≤ acc.length + piled ts
  | [], k, acc => by show acc.length ≤ acc.length + piled []; omega
  | t :: r, k, acc => by
    by_cases hk : 0 < k
    · rw [textFrom_length_pos _ k acc hk]; exact Nat.le_refl _
    · have ih := textFrom_length_pos r (k + 1) (acc ++ (if k > 0 then ", " else "" : String) ++ t) (by omega)
      have e : (textFrom k acc (t :: r)) = textFrom (k + 1) (acc ++ (if k > 0 then ", " else "" : String) ++ t) r := rfl
      rw [e, ih, piled_cons, if_neg hk, strLen_app, strLen_app]
      have : ((("" : String) : Str)).length = 0 := by decide +kernel
      rw [this]
      omega
mutual
theorem shown_le : ∀ d : D, bd d = true → d.shown.length ≤ sz d
  | .none, _ => by simp only [PyData.shown, sz]; decide +kernel
  | .bool b, _ => by cases b <;> (simp only [PyData.shown, sz]; decide +kernel)
  | .int i, h => by
    simp only [bd, decide_eq_true_eq] at h
    simp only [PyData.shown, sz]
    have h2 : (Str.ofString (toString i)).length = (toString i).length := by
      exact PySem.ofString_length _
    by_cases hb : i.natAbs < 10 ^ 250
    · rw [if_pos hb]
      have h1 := int_text_length_le10 (a := i) (k := 250) (by decide) hb
      omega
    · rw [if_neg hb]
      have h1 := int_text_length_le10 (a := i) (k := 420) (by decide) h
      omega
  | .str x, h => by
    simp only [bd] at h
    simp only [PyData.shown, sz]
    refine PySem.StrLaws.reprText_len x fun c hc => ?_
    unfold PyData.strOk at h
    rw [Array.all_eq_true'] at h
    have := h c (by simpa using hc)
    simp at this
    omega
  | .list ds, h => by
    have := shownL_le ds (by simpa [bd] using h)
    have e := textFrom_le (PyData.shownAll ds) 0 "["
    simp only [PyData.shown, sz, listText]
    rw [strLen_app]
    have e1 : ((("[" : String) : Str)).length = 1 := by decide +kernel
    have e2 : ((("]" : String) : Str)).length = 1 := by decide +kernel
    omega
  | .tuple ds, h => by
    have := shownL_le ds (by simpa [bd] using h)
    have e := join_le (PyData.shownAll ds)
    simp only [PyData.shown, sz, tupleText]
    rw [strLen_app, strLen_app]
    have e1 : ((("(" : String) : Str)).length = 1 := by decide +kernel
    have e2 : (((if (PyData.shownAll ds).length == 1 then ",)" else ")" : String) : Str)).length ≤ 2 := by
      split <;> decide +kernel
    omega
  | .dict _, h => by simp [bd] at h
theorem shownL_le : ∀ ds : List D, bdAll ds = true → piled (PyData.shownAll ds) ≤ szAll ds
  | [], _ => by simp only [PyData.shownAll, szAll]; exact Nat.le_refl _
  | d :: ds, h => by
    simp only [bdAll, Bool.and_eq_true] at h
    have h1 := shown_le d h.1
    have h2 := shownL_le ds h.2
    simp only [PyData.shownAll, szAll, piled_cons]
    omega
end
/-- a tree of depth at most h, written with at most t signs -/
structure Bt (h t : Nat) (d : D) : Prop where
  b : bd d = true
  h : PyData.depth d ≤ h
  t : sz d ≤ t
structure BtL (h t : Nat) (ds : List D) : Prop where
  b : bdAll ds = true
  h : PyData.depthAll ds ≤ h
  t : szAll ds ≤ t
section
variable {h h' t t' a b : Nat} {d : D} {ds es : List D}
theorem Bt.to (x : Bt h t d) (l : h ≤ h') (m : t ≤ t') : Bt h' t' d := ⟨x.b, Nat.le_trans x.h l, Nat.le_trans x.t m⟩
theorem BtL.to (x : BtL h t ds) (l : h ≤ h') (m : t ≤ t') : BtL h' t' ds := ⟨x.b, Nat.le_trans x.h l, Nat.le_trans x.t m⟩
theorem Bt.lit (e : (bd d && decide (PyData.depth d ≤ h) && decide (sz d ≤ t)) = true) : Bt h t d := by
  simp only [Bool.and_eq_true, decide_eq_true_eq] at e
  exact ⟨e.1.1, e.1.2, e.2⟩
theorem BtL.nil : BtL h t [] := ⟨rfl, Nat.zero_le _, Nat.zero_le _⟩
theorem BtL.cons (x : Bt h a d) (y : BtL h b ds) : BtL h (a + b + 2) (d :: ds) := by
  refine ⟨by rw [bdAll, x.b, y.b]; rfl, ?_, ?_⟩
  · have := x.h; have := y.h; simp only [PyData.depthAll]; omega
  · have := x.t; have := y.t; simp only [szAll]; omega
theorem Bt.tup (x : BtL h t ds) : Bt (h + 1) (t + 3) (.tuple ds) := by
  refine ⟨by rw [bd, x.b], ?_, ?_⟩
  · have := x.h; simp only [PyData.depth]; omega
  · have := x.t; simp only [sz]; omega
theorem Bt.lst (x : BtL h t ds) : Bt (h + 1) (t + 3) (.list ds) := by
  refine ⟨by rw [bd, x.b], ?_, ?_⟩
  · have := x.h; simp only [PyData.depth]; omega
  · have := x.t; simp only [sz]; omega
theorem Bt.ofTup (x : Bt h t (.tuple ds)) : BtL (h - 1) t ds := by
  obtain ⟨x1, x2, x3⟩ := x
  rw [bd] at x1
  simp only [PyData.depth] at x2
  simp only [sz] at x3
  exact ⟨x1, by omega, by omega⟩
theorem Bt.ofLst (x : Bt h t (.list ds)) : BtL (h - 1) t ds := by
  obtain ⟨x1, x2, x3⟩ := x
  rw [bd] at x1
  simp only [PyData.depth] at x2
  simp only [sz] at x3
  exact ⟨x1, by omega, by omega⟩
theorem Bt.pos (x : Bt h t (.tuple ds)) : 1 ≤ h := by
  have := x.h
  simp only [PyData.depth] at this
  omega
theorem BtL.head (x : BtL h t (d :: ds)) : Bt h t d ∧ BtL h t ds := by
  obtain ⟨x1, x2, x3⟩ := x
  rw [bdAll, Bool.and_eq_true] at x1
  simp only [PyData.depthAll] at x2
  simp only [szAll] at x3
  exact ⟨⟨x1.1, by omega, by omega⟩, ⟨x1.2, by omega, by omega⟩⟩
theorem BtL.mem : ∀ {ds : List D}, BtL h t ds → ∀ d ∈ ds, Bt h t d
  | [], _, d, m => nomatch m
  | e :: ds, x, d, m => by
    obtain ⟨x1, x2⟩ := x.head
    rcases List.mem_cons.mp m with rfl | m
    · exact x1
    · exact BtL.mem x2 d m
theorem BtL.app : ∀ {ds es : List D} {a b : Nat}, BtL h a ds → BtL h b es → BtL h (a + b) (ds ++ es)
  | [], es, a, b, _, y => y.to (Nat.le_refl _) (by omega)
  | d :: ds, es, a, b, x, y => by
    obtain ⟨x1, x2, x3⟩ := x
    rw [bdAll, Bool.and_eq_true] at x1
    simp only [PyData.depthAll] at x2
    simp only [szAll] at x3
    have r := BtL.app (ds := ds) (a := a - sz d - 2) ⟨x1.2, by omega, by omega⟩ y
    refine ⟨by rw [List.cons_append, bdAll, x1.1, r.b]; rfl, ?_, ?_⟩
    · have := r.h; rw [List.cons_append]; simp only [PyData.depthAll]; omega
    · have := r.t; rw [List.cons_append]; simp only [szAll]; omega
theorem BtL.all : ∀ {ds : List D}, (∀ d ∈ ds, Bt h t d) → BtL h (ds.length * (t + 2)) ds
  | [], _ => ⟨rfl, Nat.zero_le _, Nat.zero_le _⟩
  | d :: ds, x => by
    have r := BtL.cons (x d (List.mem_cons_self ..)) (BtL.all fun e m => x e (List.mem_cons_of_mem _ m))
    refine r.to (Nat.le_refl _) ?_
    rw [List.length_cons, Nat.succ_mul]
    omega
theorem BtL.take (n : Nat) (x : BtL h t ds) : BtL h t (ds.take n) := by
  induction n generalizing ds t with
  | zero => rw [List.take_zero]; exact ⟨rfl, Nat.zero_le _, Nat.zero_le _⟩
  | succ n ih =>
    cases ds with
    | nil => exact x
    | cons d ds =>
      obtain ⟨x1, x2, x3⟩ := x
      rw [bdAll, Bool.and_eq_true] at x1
      simp only [PyData.depthAll] at x2
      simp only [szAll] at x3
      have r := ih (ds := ds) (t := t - sz d - 2) ⟨x1.2, by omega, by omega⟩
      refine ⟨by rw [List.take_succ_cons, bdAll, x1.1, r.b]; rfl, ?_, ?_⟩
      · have := r.h; rw [List.take_succ_cons]; simp only [PyData.depthAll]; omega
      · have := r.t; rw [List.take_succ_cons]; simp only [szAll]; omega
theorem BtL.drop (n : Nat) (x : BtL h t ds) : BtL h t (ds.drop n) := by
  induction n generalizing ds with
  | zero => exact x
  | succ n ih =>
    cases ds with
    | nil => exact x
    | cons d ds => exact ih x.head.2
theorem Bt.sh (x : Bt h t d) (l : h ≤ 64) : Sh d := by
  show (PyData.canLay0 _ && decide (PyData.depth _ ≤ 64)) = true
  rw [Bool.and_eq_true, decide_eq_true_eq]
  exact ⟨(bd_lay d x.b).1, Nat.le_trans x.h l⟩
theorem Bt.repr (x : Bt h t d) (l : h ≤ 64) (m : t ≤ 16000000) {Q : D → Prop} (q : Q (.str d.shown)) : reprD [d] Q :=
  ⟨x.sh l, (bd_lay d x.b).2, Nat.le_trans (shown_le d x.b) (Nat.le_trans x.t (Nat.le_trans m (by decide))), q⟩
theorem Bt.int {i : Int} (hi : i.natAbs < 10 ^ 250) : Bt h 251 (.int i) := ⟨by simp only [bd]; exact decide_eq_true (Nat.lt_of_lt_of_le hi (Nat.pow_le_pow_right (by decide) (by decide))), Nat.zero_le _, by simp only [sz]; rw [if_pos hi]; exact Nat.le_refl _⟩
theorem Bt.bigInt {i : Int} (hi : i.natAbs < 10 ^ 420) : Bt h 421 (.int i) := ⟨by simp only [bd]; exact decide_eq_true hi, Nat.zero_le _, by simp only [sz]; split <;> decide⟩
theorem Bt.str {x : Str} (hx : PyData.strOk x = true) {n : Nat} (hn : x.length ≤ n) : Bt h (10 * n + 2) (.str x) := ⟨by simp only [bd]; exact hx, Nat.zero_le _, by simp only [sz]; omega⟩
theorem i250 {i : Int} {k : Nat} (h : i.natAbs < 10 ^ 40) : i.natAbs < 10 ^ 250 := Nat.lt_of_lt_of_le h (Nat.pow_le_pow_right (by decide) (by decide))
end

/-! ### repr of a tree that may hold dicts -/
section
variable {X : Cx} {pins : List (Addr × Obj)} {σ : L2.St} {H : Hp} {s : Shared}
mutual
theorem Rp.rk (I : Inv X pins σ H s) : ∀ (d : D) (v : V) (u : Value), Rp X.K H v d → RelV v u → d.showable = true → d.shown.length ≤ sizeLine → ∃ as bs, Reads s.heap u d as ∧ ReadAtMost s.heap d.depth bs ∧ ReprK X.prog X.w bs s.heap d.depth u d.shown
  | .none, _, _, h, r, hs, hz => by
    cases h; cases r
    obtain ⟨bs, h1, h2⟩ := ReprK.of_reads (prog := X.prog) (w := X.w) (h₀ := s.heap) Reads.none hs (fun z => by cases z) hz
    exact ⟨_, bs, Reads.none, h1, h2⟩
  | .bool b, _, _, h, r, hs, hz => by
    cases h; cases r
    obtain ⟨bs, h1, h2⟩ := ReprK.of_reads (prog := X.prog) (w := X.w) (h₀ := s.heap) (Reads.bool b) hs (fun z => by cases z) hz
    exact ⟨_, bs, Reads.bool b, h1, h2⟩
  | .int i, _, _, h, r, hs, hz => by
    cases h; obtain ⟨t, rfl⟩ := r
    obtain ⟨bs, h1, h2⟩ := ReprK.of_reads (prog := X.prog) (w := X.w) (h₀ := s.heap) (Reads.int i t) hs (fun z => by cases z) hz
    exact ⟨_, bs, Reads.int i t, h1, h2⟩
  | .str x, _, _, h, r, hs, hz => by
    cases h; obtain ⟨t, rfl⟩ := r
    obtain ⟨bs, h1, h2⟩ := ReprK.of_reads (prog := X.prog) (w := X.w) (h₀ := s.heap) (Reads.str x t) hs (fun z => by cases z) hz
    exact ⟨_, bs, Reads.str x t, h1, h2⟩
  | .list ds, _, _, h, r, hs, hz => by
    cases h with
    | lst hq ha =>
      cases r
      obtain ⟨its, rv, ⟨o, n, ho, hc, _, hd⟩, _⟩ := I.list (SqL.of hq)
      have hz' : (listText (PyData.shownAll ds)).length ≤ sizeLine := by simpa only [PyData.shown] using hz
      obtain ⟨as, bs, h4, hb, hk⟩ := Rp.rkAll I ds _ its ha rv (by simpa [PyData.showable] using hs) (fun t ht => Nat.le_trans (listText_mem_le ht) hz')
      have rr : Reads s.heap (.ref _) (.list ds) _ := .list ho hc hd h4
      have hna := not_mem_of_deeper rr (by simp only [PyData.depth]; omega) hb
      refine ⟨_, _, rr, ReadAtMost.cons rr (by simp only [PyData.depth]; omega) hb, ?_⟩
      simp only [PyData.depth, PyData.shown]
      cases its with
      | nil =>
        cases h4
        simp only [PyData.shownAll, listText_nil]
        exact ReprK.listEmpty ho hc hd
      | cons x l => exact ReprK.list ho hc hd hna (by simpa using hk.length_eq) (fun i y e => hk.item i y (by simpa using e))
  | .tuple ds, _, _, h, r, hs, hz => by
    cases h with
    | tup hq ha =>
      cases r
      obtain ⟨its, rv, ⟨o, ho, hc, n, hd⟩, _⟩ := I.tuple hq
      have hz' : (tupleText (PyData.shownAll ds)).length ≤ sizeLine := by simpa only [PyData.shown] using hz
      obtain ⟨as, bs, h4, hb, hk⟩ := Rp.rkAll I ds _ its ha rv (by simpa [PyData.showable] using hs) (fun t ht => Nat.le_trans (tupleText_mem_le ht) hz')
      have rr : Reads s.heap (.ref _) (.tuple ds) _ := .tuple ho hc hd h4
      have hna := not_mem_of_deeper rr (by simp only [PyData.depth]; omega) hb
      refine ⟨_, _, rr, ReadAtMost.cons rr (by simp only [PyData.depth]; omega) hb, ?_⟩
      simp only [PyData.depth, PyData.shown]
      exact ReprK.tuple ho hc hd hna hk
  | .dict ds, _, _, h, r, hs, hz => by
    cases h with
    | dic hq ha =>
      cases r
      obtain ⟨_, hsm, vs, kv, o, es, ep, ho, hx, hd, _, hp, _⟩ := dk_rd I.hok hq
      have hz' : (dictText (PyData.shownKv ds)).length ≤ sizeLine := by simpa only [PyData.shown] using hz
      obtain ⟨hs1, hs2⟩ := PyData.showableKv_split ds (by simpa [PyData.showable] using hs)
      obtain ⟨as, bs, b1, b2, h1, h2, hb1, hb2, k1, k2⟩ := Rp.rkKV I ds _ vs es.toList ha kv hp hs1 hs2 (fun t ht => let ⟨p, hp, hl⟩ := PyData.shownKv_key_le ds t ht; Nat.le_trans hl (Nat.le_trans (dictText_mem_le hp) hz')) (fun t ht => let ⟨p, hp, hl⟩ := PyData.shownKv_val_le ds t ht; Nat.le_trans hl (Nat.le_trans (dictText_mem_le hp) hz'))
      have rr : Reads s.heap (.ref _) (.dict ds) _ := .dict ho hx.1 hd h1 h2
      have hb : ReadAtMost s.heap (PyData.depthKv ds) (b1 ++ b2) := (hb1.mono (PyData.depthAll_keys_le ds)).append (hb2.mono (PyData.depthAll_vals_le ds))
      have hna := not_mem_of_deeper rr (by simp only [PyData.depth]; omega) hb
      refine ⟨_, _, rr, ReadAtMost.cons rr (by simp only [PyData.depth]; omega) hb, ?_⟩
      simp only [PyData.depth, PyData.shown, PyData.shownKv_eq]
      exact ReprK.dict ho hx.1 hd hsm hna (ReprEntriesK.of_two es.toList _ _ (k1.more_le (fun b hb => List.mem_append_left _ hb) (PyData.depthAll_keys_le ds)) (k2.more_le (fun b hb => List.mem_append_right _ hb) (PyData.depthAll_vals_le ds)))
theorem Rp.rkAll (I : Inv X pins σ H s) : ∀ (ds : List D) (vs : List V) (us : List Value), RpAll X.K H vs ds → Vals vs us → PyData.showableAll ds = true → (∀ t ∈ PyData.shownAll ds, t.length ≤ sizeLine) →
    ∃ as bs, ReadsAll s.heap us ds as ∧ ReadAtMost s.heap (PyData.depthAll ds) bs ∧ ReprAllK X.prog X.w bs s.heap (PyData.depthAll ds) us (PyData.shownAll ds)
  | [], _, _, h, r, _, _ => by cases h; cases r; exact ⟨_, [], ReadsAll.nil, (fun _ h => nomatch h), by simp only [PyData.shownAll]; exact .nil⟩
  | d :: ds, _, _, h, r, hs, hz => by
    have hs' : d.showable = true ∧ PyData.showableAll ds = true := by simpa [PyData.showableAll] using hs
    cases h with
    | cons h1 h2 =>
      cases r with
      | cons r1 r2 =>
        obtain ⟨as, b1, q1, hb1, k1⟩ := Rp.rk I d _ _ h1 r1 hs'.1 (hz _ (by simp only [PyData.shownAll]; exact List.mem_cons_self ..))
        obtain ⟨bs, b2, q2, hb2, k2⟩ := Rp.rkAll I ds _ _ h2 r2 hs'.2 (fun t ht => hz t (by simp only [PyData.shownAll]; exact List.mem_cons_of_mem _ ht))
        refine ⟨_, b1 ++ b2, ReadsAll.cons q1 q2, ?_, ?_⟩
        · simp only [PyData.depthAll]
          exact (hb1.mono (Nat.le_max_left _ _)).append (hb2.mono (Nat.le_max_right _ _))
        · simp only [PyData.depthAll, PyData.shownAll]
          exact .cons ((k1.more fun b hb => List.mem_append_left _ hb).level_le (Nat.le_max_left _ _)) (k2.more_le (fun b hb => List.mem_append_right _ hb) (Nat.le_max_right _ _))
theorem Rp.rkKV (I : Inv X pins σ H s) : ∀ (ds : List (D × D)) (kvs : List (Key × V)) (vs : List (Key × Value)) (es : List DictEntry), RpKV X.K H kvs ds → KV kvs vs → Pairs (mixKind X.prog X.w) es vs →
    PyData.showableAll (ds.map (·.1)) = true → PyData.showableAll (ds.map (·.2)) = true → (∀ t ∈ PyData.shownAll (ds.map (·.1)), t.length ≤ sizeLine) → (∀ t ∈ PyData.shownAll (ds.map (·.2)), t.length ≤ sizeLine) →
    ∃ as bs b1 b2, ReadsAll s.heap (es.map (·.key)) (ds.map (·.1)) as ∧ ReadsAll s.heap (es.map (·.val)) (ds.map (·.2)) bs ∧ ReadAtMost s.heap (PyData.depthAll (ds.map (·.1))) b1 ∧ ReadAtMost s.heap (PyData.depthAll (ds.map (·.2))) b2 ∧
      ReprAllK X.prog X.w b1 s.heap (PyData.depthAll (ds.map (·.1))) (es.map (·.key)) (PyData.shownAll (ds.map (·.1))) ∧ ReprAllK X.prog X.w b2 s.heap (PyData.depthAll (ds.map (·.2))) (es.map (·.val)) (PyData.shownAll (ds.map (·.2)))
  | [], _, _, _, h, r, p, _, _, _, _ => by
    cases h; cases r; cases p
    exact ⟨_, _, [], [], ReadsAll.nil, ReadsAll.nil, (fun _ h => nomatch h), (fun _ h => nomatch h), by simp only [List.map_nil, PyData.shownAll]; exact .nil, by simp only [List.map_nil, PyData.shownAll]; exact .nil⟩
  | (k0, d) :: ds, _, _, _, h, r, p, s1, s2, z1, z2 => by
    cases h with
    | cons h1 h2 =>
      cases r with
      | cons r1 r2 =>
        cases p with
        | cons p1 p2 p3 =>
          rename_i kk _ _ _ _ ee _
          simp only [List.map_cons] at s1 s2 z1 z2 ⊢
          have s1' : PyData.showable (keyD kk) = true ∧ PyData.showableAll (ds.map (·.1)) = true := by simpa [PyData.showableAll] using s1
          have s2' : PyData.showable d = true ∧ PyData.showableAll (ds.map (·.2)) = true := by simpa [PyData.showableAll] using s2
          obtain ⟨as, bs, c1, c2, q1, q2, hb1, hb2, k1, k2⟩ := Rp.rkKV I ds _ _ _ h2 r2 p3 s1'.2 s2'.2 (fun t ht => z1 t (by simp only [PyData.shownAll]; exact List.mem_cons_of_mem _ ht)) (fun t ht => z2 t (by simp only [PyData.shownAll]; exact List.mem_cons_of_mem _ ht))
          obtain ⟨xs, e2, q3, hb3, k3⟩ := Rp.rk I d _ _ h1 r1.2 s2'.1 (z2 _ (by simp only [PyData.shownAll]; exact List.mem_cons_self ..))
          rw [← p2] at q3 k3
          have hk : Reads s.heap ee.key (keyD kk) [] := by
            rw [← r1.1] at p1
            rcases keyIs_shape p1 with ⟨i, t, e1, e2⟩ | ⟨x, t, e1, e2⟩
            · rw [show kk = Sum.inl i from e1, e2]; exact Reads.int i t
            · rw [show kk = Sum.inr x from e1, e2]; exact Reads.str x t
          have hnd : (keyD kk).hasDict = true → sysModules ∉ ([] : List Addr) := fun _ => List.not_mem_nil
          obtain ⟨e1, hb4, k4⟩ := ReprK.of_reads (prog := X.prog) (w := X.w) hk s1'.1 hnd (z1 _ (by simp only [PyData.shownAll]; exact List.mem_cons_self ..))
          refine ⟨_, _, e1 ++ c1, e2 ++ c2, ReadsAll.cons hk q1, ReadsAll.cons q3 q2, ?_, ?_, ?_, ?_⟩
          · simp only [PyData.depthAll]
            exact (hb4.mono (Nat.le_max_left _ _)).append (hb1.mono (Nat.le_max_right _ _))
          · simp only [PyData.depthAll]
            exact (hb3.mono (Nat.le_max_left _ _)).append (hb2.mono (Nat.le_max_right _ _))
          · simp only [PyData.depthAll, PyData.shownAll]
            exact .cons ((k4.more fun b hb => List.mem_append_left _ hb).level_le (Nat.le_max_left _ _)) (k1.more_le (fun b hb => List.mem_append_right _ hb) (Nat.le_max_right _ _))
          · simp only [PyData.depthAll, PyData.shownAll]
            exact .cons ((k3.more fun b hb => List.mem_append_left _ hb).level_le (Nat.le_max_left _ _)) (k2.more_le (fun b hb => List.mem_append_right _ hb) (Nat.le_max_right _ _))
end
end
def rReprT (K : PySem.W.Frag) : List V → Hp → VK → Prop := fun xs H Q => ∃ x d, xs = [x] ∧ Rp K H x d ∧ d.depth ≤ 64 ∧ d.showable = true ∧ d.shown.length ≤ sizeLine ∧ Q (.str d.shown) H
theorem reprT {X : Cx} (K : PySem.W.Frag) (eK : X.K = K) (hg : X.A.guards = some []) (hu : X.A.units + 65 < cLine) : CallR X (.builtin "repr") (rReprT K) := by
  subst eK
  intro pins s σ H xs us Q I rv h
  obtain ⟨x, d, rfl, hd, sd, hw, hz, q⟩ := h
  obtain ⟨u, rfl, ru⟩ := vals1 rv
  cases d with
  | none => cases hd; cases ru; exact PySem.P.repr_of_none ⟨.str _, H, I.tok _, ⟨_, rfl⟩, q⟩
  | bool b => cases hd; cases ru; exact PySem.P.repr_of_bool ⟨.str _, H, I.tok _, ⟨_, rfl⟩, q⟩
  | int i => cases hd; obtain ⟨t, rfl⟩ := ru; exact PySem.P.repr_of_int (by simpa [PyData.showable] using hw) ⟨.str _, H, I.tok _, ⟨_, rfl⟩, q⟩
  | str z => cases hd; obtain ⟨t, rfl⟩ := ru; exact PySem.P.repr_of_str ⟨.str _, H, I.tok _, ⟨_, rfl⟩, q⟩ hz
  | list ds =>
    cases hd with
    | lst hq ha =>
      cases ru
      obtain ⟨its, rv, ⟨o, n, ho, hc, _, hd⟩, _⟩ := I.list (SqL.of hq)
      have hz' : (listText (PyData.shownAll ds)).length ≤ sizeLine := by simpa only [PyData.shown] using hz
      obtain ⟨as, bs, h4, hb, hk⟩ := Rp.rkAll I ds _ its ha rv (by simpa [PyData.showable] using hw) (fun t ht => Nat.le_trans (listText_mem_le ht) hz')
      have rr : Reads s.heap (.ref _) (.list ds) _ := .list ho hc hd h4
      have hna := not_mem_of_deeper rr (by simp only [PyData.depth]; omega) hb
      simp only [PyData.depth] at sd
      simp only [PyData.shown] at q
      refine call_repr_slot (by omega) ⟨o, ho, hc⟩ F.slot_list_repr.toG ?_
      cases its with
      | nil =>
        cases h4
        simp only [PyData.shownAll, listText_nil] at q
        exact call_list_repr_empty ⟨o, ho, hc⟩ ho hd ⟨_, _, rfl, .str _, H, I.kept (fun _ _ e => e), ⟨_, rfl⟩, q⟩
      | cons x l => exact call_list_reprK ho hc hd hna (by simpa using hk.length_eq) (fun i y e => hk.item i y (by simpa using e)) hg (fun b _ => Clear.nil b) (by show X.A.units + 1 + _ < cLine; omega) (fun _ _ e => e) (fun h' u tk kp => ⟨_, _, rfl, .str _, H, I.kept kp, ⟨_, rfl⟩, q⟩) hz'
  | tuple ds =>
    cases hd with
    | tup hq ha =>
      cases ru
      obtain ⟨its, rv, ⟨o, ho, hc, n, hd⟩, _⟩ := I.tuple hq
      have hz' : (tupleText (PyData.shownAll ds)).length ≤ sizeLine := by simpa only [PyData.shown] using hz
      obtain ⟨as, bs, h4, hb, hk⟩ := Rp.rkAll I ds _ its ha rv (by simpa [PyData.showable] using hw) (fun t ht => Nat.le_trans (tupleText_mem_le ht) hz')
      have rr : Reads s.heap (.ref _) (.tuple ds) _ := .tuple ho hc hd h4
      have hna := not_mem_of_deeper rr (by simp only [PyData.depth]; omega) hb
      simp only [PyData.depth] at sd
      simp only [PyData.shown] at q
      refine call_repr_slot (by omega) ⟨o, ho, hc⟩ F.slot_tuple_repr ?_
      exact call_tuple_reprK ho hc hd hna hk hg (fun b _ => Clear.nil b) (by show X.A.units + 1 + _ < cLine; omega) (fun _ _ e => e) (fun h' u tk kp => ⟨_, _, rfl, .str _, H, I.kept kp, ⟨_, rfl⟩, q⟩) hz'
  | dict ds =>
    cases hd with
    | dic hq ha =>
      cases ru
      obtain ⟨_, hsm, vs, kv, o, es, ep, ho, hx, hd, _, hp, _⟩ := dk_rd I.hok hq
      have hz' : (dictText (PyData.shownKv ds)).length ≤ sizeLine := by simpa only [PyData.shown] using hz
      obtain ⟨hs1, hs2⟩ := PyData.showableKv_split ds (by simpa [PyData.showable] using hw)
      obtain ⟨as, bs, b1, b2, h1, h2, hb1, hb2, k1, k2⟩ := Rp.rkKV I ds _ vs es.toList ha kv hp hs1 hs2 (fun t ht => let ⟨p, hp, hl⟩ := PyData.shownKv_key_le ds t ht; Nat.le_trans hl (Nat.le_trans (dictText_mem_le hp) hz')) (fun t ht => let ⟨p, hp, hl⟩ := PyData.shownKv_val_le ds t ht; Nat.le_trans hl (Nat.le_trans (dictText_mem_le hp) hz'))
      have rr : Reads s.heap (.ref _) (.dict ds) _ := .dict ho hx.1 hd h1 h2
      have hb : ReadAtMost s.heap (PyData.depthKv ds) (b1 ++ b2) := (hb1.mono (PyData.depthAll_keys_le ds)).append (hb2.mono (PyData.depthAll_vals_le ds))
      have hna := not_mem_of_deeper rr (by simp only [PyData.depth]; omega) hb
      simp only [PyData.depth] at sd
      simp only [PyData.shown, PyData.shownKv_eq] at q
      refine call_repr_slot (by omega) ⟨o, ho, hx.1⟩ F.slot_dict_repr ?_
      exact call_dict_reprK ho hx.1 hd hsm hna (ReprEntriesK.of_two es.toList _ _ (k1.more_le (fun b hb => List.mem_append_left _ hb) (PyData.depthAll_keys_le ds)) (k2.more_le (fun b hb => List.mem_append_right _ hb) (PyData.depthAll_vals_le ds))) hg (fun b _ => Clear.nil b) (by show X.A.units + 1 + _ < cLine; omega) (fun _ _ e => e) (fun h' u tk kp => ⟨_, _, rfl, .str _, H, I.kept kp, ⟨_, rfl⟩, q⟩) (by rw [← PyData.shownKv_eq]; exact hz')
theorem Rd'.rp {K : PySem.W.Frag} {Hs H : Hp} {v : V} {d : D} (h : Rd' K Hs H v d) (sub : Same Hs H) : Rp K H v d := by
  cases e : isC d with
  | true =>
    cases d <;> first | (exfalso; have e' : false = true := e; cases e'; done) | skip
    case list ds =>
      obtain ⟨a, xs, rfl, h1, h2⟩ := Rd'.list h
      exact .lst h1 (RpAll.mono sub h2)
    case dict ds =>
      obtain ⟨a, xs, rfl, h1, h2⟩ := Rd'.dict h
      exact .dic h1 (RpKV.mono sub h2)
  | false =>
    have h : (if isC d = true then _ else Rp K Hs v d) := h
    rw [if_neg (by rw [e]; exact Bool.false_ne_true)] at h
    exact Rp.mono sub h
def reprTD : DF := fun ds Q => match ds with
  | [d] => PyData.depth d ≤ 64 ∧ d.showable = true ∧ d.shown.length ≤ sizeLine ∧ Q (.str d.shown)
  | _ => False
theorem caA_reprT {C : Cf} : CaA C (rReprT C.K) reprTD := by
  intro H0 S0 Hs σ H s vs ds Q Q' r hd q k
  match vs, ds, hd with
  | [v], [d], ⟨h, _⟩ => exact ⟨v, d, rfl, h.rp r.sub, q.1, q.2.1, q.2.2.1, k Hs H _ (.str _) Go.refl r (Val.mkP (Rp.str _) rfl) q.2.2.2⟩
  | [], [], _ => exact q.elim
  | _ :: _ :: _, _ :: _ :: _, _ => exact q.elim

/-! ### enumerate of a tuple -/
theorem meets_enum1B {v : Value} {o : Obj} {H : Heap → Prop} (B : Begins v o H) :
    Meets (Builtin.«enumerate.__new__» ⟨[.type "enumerate", v], []⟩) (fun _ R s => H s.heap ∧
      R (.ok (.ret (.ref (s.heap.push o).objs.size))) { s with heap := (s.heap.push o).push { cls := .type "enumerate", data := .fields #[.none, .bool false, .ref s.heap.objs.size, rawInt 0, .none, .none] } }) :=
  .of_wp fun prog w A R s h => by
    obtain ⟨hp, g, d, tk, os⟩ := s
    obtain ⟨h1, h⟩ := h
    have hsub := sub_enumerate
    have q1 : ∀ {A' : Around} {E : Value → Shared → Prop} {Q : Value → Shared → Prop}, Q (.ref hp.objs.size) ⟨hp.push o, g, d, tk, os⟩ → wpAny (model prog w) A' (pyIter v) Q E ⟨hp, g, d, tk, os⟩ :=
      fun q => B.iter prog w _ _ ⟨hp, g, d, tk, os⟩ _ h1 q
    wp_walk using q1
    refine wpAny_stack_any fun st => wpAny_pure ?_
    split
    · rename_i c _ _ _ _ _
      cases (c == Value.type "enumerate")
      · wp_walk using q1
        exact ⟨_, rfl, h⟩
      · wp_walk using q1
        exact ⟨_, rfl, h⟩
    · wp_walk using q1
      exact ⟨_, rfl, h⟩
section
variable {prog : Program} {w : World} {A : Around} {E : Value → Shared → Prop} {s : Shared}
theorem enum1_begins {v : Value} {o : Obj} {H : Heap → Prop} {Q : Value → Shared → Prop} (B : Begins v o H) (h1 : H s.heap)
    (h : ∀ h', IsEnum h' (s.heap.objs.size + 1) s.heap.objs.size 0 .none → h'.get? s.heap.objs.size = some o → h'.objs.size = s.heap.objs.size + 2 →
      (∀ b o, s.heap.get? b = some o → h'.get? b = some o) → Q (.ref (s.heap.objs.size + 1)) { s with heap := h' }) :
    wpAny (model prog w) A (call (.type "enumerate") [v]) Q E s := by
  refine callType_new F.called_enumerate (by decide) (F.typeCall_enumerate_1 _) (F.newCall_enumerate_1 _) (fun obj => F.args_object_init_2 obj _) F.entry_enumerate_new (meets_enum1B B) ⟨h1, ?_⟩
  have hz : (s.heap.push o).objs.size = s.heap.objs.size + 1 := Heap.size_push ..
  show _ ∧ _
  rw [hz]
  have he : IsEnum ((s.heap.push o).push { cls := .type "enumerate", data := .fields #[.none, .bool false, .ref s.heap.objs.size, rawInt 0, .none, .none] }) (s.heap.objs.size + 1) s.heap.objs.size 0 .none := by
    have := Heap.get?_push_size (s.heap.push o) (o := { cls := .type "enumerate", data := .fields #[.none, .bool false, .ref s.heap.objs.size, rawInt 0, .none, .none] }) rfl
    rw [hz] at this
    exact this
  exact ⟨⟨_, he, rfl⟩, h _ he (Heap.get?_push_of_some _ (Heap.get?_push_size _ B.free)) (by rw [Heap.size_push, hz]) fun b o x => Heap.get?_push_of_some _ (Heap.get?_push_of_some _ x)⟩
end
def IteT (K : PySem.W.Frag) (b : Addr) (n : Nat) : It :=
  ⟨fun i H => ∃ (ys : List V) (y : V), SqT K H b ys ∧ ys.length = n ∧ ys[i]? = some y,
    fun i H v H' => ∃ T y, v = .ref T ∧ H T = none ∧ H' = L2.upd H T (.tup [.int (i : Nat), y]) ∧ ∀ ys, SqT K H b ys → ys[i]? = some y,
    fun i H => ∃ ys : List V, SqT K H b ys ∧ ys.length = n ∧ n ≤ i⟩
theorem turn_enumT {P : Program} {w : World} {K : PySem.W.Frag} {elts : List Expr} {kk n : Nat} {tpos : Pos} (b e it : Addr) (hne : e ≠ it) (heb : e ≠ b) (hbi : b ≠ it) :
    Turn P w K (.Tuple elts kk tpos) (IteT K b n) [e, it] e (fun i h => (∃ old, IsEnum h e it ((i : Nat) : Int) old) ∧ h.IsTupleIter it b i ∧ i ≤ n) where
  mem := by simp
  obj := fun i h st c hc => by
    obtain ⟨⟨old, he⟩, ⟨o, ho, hcl, hd⟩, _⟩ := st
    have e' : c = e ∨ c = it := by simpa using hc
    rcases e' with z | z
    · rw [z]; exact ⟨_, he, fun v q => nomatch q⟩
    · rw [z]; exact ⟨o, ho, fun v q => by rw [hd] at q; cases q⟩
  keep := fun i h h' st k => by
    obtain ⟨⟨old, he⟩, hi, hl⟩ := st
    exact ⟨⟨old, k e (by simp) _ he⟩, hi.at fun o q => k it (by simp) o q, hl⟩
  item := by
    intro X hP hw hK hc i pins s σ H E I hf st hg
    subst hP hw hK
    obtain ⟨⟨old, he⟩, hit, hl⟩ := st
    obtain ⟨ys, y, hqy, hlen, hy⟩ := hg
    obtain ⟨its, rv, p2, _⟩ := I.tuple hqy
    obtain ⟨u2, hu2, ru2⟩ := rv.get hy
    have hel : e < s.heap.objs.size := Heap.lt_size he
    have hil : it < s.heap.objs.size := by obtain ⟨_, q, _⟩ := hit; exact Heap.lt_size q
    have hin : i < n := by
      have := (List.getElem?_eq_some_iff.mp hy).1
      omega
    have hh : X.A.in1.handled = none := I.ok.hd hc
    have hsz : its.toArray.size = n := by rw [List.size_toArray, ← rv.length, hlen]
    have D := Draws.tuple (prog := X.prog) (w := X.w) hh it b hbi its.toArray
    rw [hsz] at D
    refine wpAny_pyNext_enum_itemD D he ⟨hit, p2⟩ hin hne (by simp [hne, heb]) fun v h' tk hv ho hit' hT hsz' hk => ?_
    have ew : v = u2 := by
      have e : its.toArray[i]? = some v := hv
      rw [List.getElem?_toArray, hu2] at e
      exact (Option.some.inj e).symm
    subst ew
    refine ⟨_, rfl, wpAny_letOwnedTupleGo_enum (s := { s with heap := h', toks := tk + 1 }) ho fun h'' he' sb => ?_⟩
    have hT2 : h''.get? s.heap.objs.size = some { cls := .type "tuple", data := .seq #[.int i tk, v] } := (sb.2 _ (Nat.ne_of_gt hel)).trans hT
    have new : ObjOk X.prog X.w (L2.upd H s.heap.objs.size (.tup [.int (i : Nat), y])) h'' s.heap.objs.size (.tup [.int (i : Nat), y]) :=
      ⟨by show 2 ≤ sizeLine; decide, [.int i tk, v], .cons ⟨_, rfl⟩ (.cons ru2 .nil), ⟨_, hT2, rfl, _, rfl⟩⟩
    have I1 : Inv X pins σ (L2.upd H s.heap.objs.size (.tup [.int (i : Nat), y])) { s with heap := h'', toks := tk + 1 } :=
      I.turnedNew (ch := [e, it]) (fun b ob hb q => (sb.2 b (fun z => hb (by simp [z]))).trans (hk b ob (fun z => hb (by simp [z])) (fun z => hb (by simp [z])) q)) hf (Nat.le_refl _) new
    refine ⟨.ref s.heap.objs.size, _, I1, rfl, ⟨_, y, rfl, I.hok.fresh (Nat.le_refl _), rfl, fun l hl => by rw [I.tuple_inj hl hqy]; exact hy⟩, ⟨⟨v, ?_⟩, hit'.1.at fun o q => (sb.2 it (Ne.symm hne)).trans q, hin⟩, fun b hb => ?_⟩
    · have e1 : ((i + 1 : Nat) : Int) = (i : Int) + 1 := by omega
      rw [e1]; exact he'
    · have hb' : b < s.heap.objs.size := by
        have e' : b = e ∨ b = it := by simpa using hb
        rcases e' with z | z
        · rw [z]; exact hel
        · rw [z]; exact hil
      rw [upd_ne (Nat.ne_of_lt hb')]
      exact (hf b hb).1
  done := by
    intro X hP hw hK hc i pins s σ H E I hf st hg
    subst hP hw hK
    obtain ⟨⟨old, he⟩, hit, hl⟩ := st
    obtain ⟨ys, hqy, hlen, hend⟩ := hg
    obtain ⟨its, rv, p2, _⟩ := I.tuple hqy
    have ei : i = n := by omega
    subst ei
    have hh : X.A.in1.handled = none := I.ok.hd hc
    have hsz : its.toArray.size = i := by rw [List.size_toArray, ← rv.length, hlen]
    have D := Draws.tuple (prog := X.prog) (w := X.w) hh it b hbi its.toArray
    rw [hsz] at D
    obtain ⟨f0, f1, f2, f3, f4, f5⟩ := hf it (by simp)
    exact wpAny_pyNext_enum_endD D he ⟨hit, p2⟩ fun h' eb => ⟨rfl, I.turned (t' := s.toks) (fun b o hb q => eb b o hb q) f0 f1 f3 f4 f5⟩
  self := fun A i s Q E st h => let ⟨⟨_, he⟩, _⟩ := st; wpAny_pyIter_enum he h
def iEnumT (K : PySem.W.Frag) (ta : TA) : TI := fun σ H R => ta σ H fun vs H1 => ∃ b ys, vs = [.ref b] ∧ SqT K H1 b ys ∧ R (IteT K b ys.length) H1
theorem pi_enumT {X : Cx} {e : Expr} {ta : TA} {p pos tpos : Pos} {elts : List Expr} {kk : Nat} (hg : Gl X "enumerate") (hm : X.mg "enumerate" = none) (ha : PA X [e] ta) (hs : starEach [e] X.env = [(false, eval e X.env)] := by rfl) :
    PI X (.Tuple elts kk tpos) (.Call (.Name "enumerate" p) [e] [] pos) (iEnumT X.K ta) := by
  refine ⟨fun pins s σ H R I h => ?_⟩
  refine Call_ (ld_blt I hg hm boot_enumerate (PyProof.Rows.callWith_type1 (thn (ha.run pos pins s σ H _ I h) fun us s1 ⟨vs, H1, I1, r1, q1⟩ => ?_) hs rfl))
  obtain ⟨b, ys, ex, hq, q⟩ := q1
  subst ex
  cases r1 with
  | cons r rr =>
    cases rr
    cases r
    obtain ⟨its, rv, p2, _⟩ := I1.tuple hq
    obtain ⟨o2, ho2, _⟩ := id p2
    have hbl : b < s1.heap.objs.size := Heap.lt_size ho2
    refine enum1_begins (begins_tuple b its.toArray) (show s1.heap.IsTuple b its.toArray from p2) fun h' he g2 hsz hk => wpAny_pyIter_enum he ?_
    have I2 : Inv X pins σ H1 { s1 with heap := h' } := I1.kept (t' := s1.toks) hk
    refine ⟨s1.heap.objs.size + 1, [s1.heap.objs.size + 1, s1.heap.objs.size], _, _, H1, rfl, I2, turn_enumT b (s1.heap.objs.size + 1) s1.heap.objs.size (Nat.succ_ne_self _) (Nat.ne_of_gt (Nat.lt_succ_of_lt hbl)) (Nat.ne_of_lt hbl), ⟨⟨.none, he⟩, ⟨_, g2, rfl, rfl⟩, Nat.zero_le _⟩, fun b hb => ?_, q⟩
    have e' : b = s1.heap.objs.size + 1 ∨ b = s1.heap.objs.size := by simpa using hb
    have hle : s1.heap.objs.size ≤ b := by
      rcases e' with z | z
      · rw [z]; exact Nat.le_add_right _ _
      · rw [z]; exact Nat.le_refl _
    exact I1.fpOk hle (I1.hok.fresh hle)
theorem walk_enumT {K : PySem.W.Frag} {b : Addr} {ys : List V} : Walk (IteT K b ys.length) ys.length (fun H => SqT K H b ys) (fun i H v H' => ∃ T y, v = .ref T ∧ H T = none ∧ H' = L2.upd H T (.tup [.int (i : Nat), y]) ∧ ys[i]? = some y) := by
  refine ⟨fun i H hi q => ⟨ys, ys[i], q, rfl, List.getElem?_eq_getElem hi⟩, fun H q => ⟨ys, q, rfl, Nat.le_refl _⟩, fun i H v H' _ q y => ?_⟩
  obtain ⟨T, y, h1, h2, h3, h4⟩ := y
  exact ⟨T, y, h1, h2, h3, h4 ys q⟩
def dEnumT (a : DT) : DI := fun s Q => a s fun d s1 => match d with
  | .tuple ds => Q (prD (rgD 0 ds.length) ds) s1
  | _ => False
section
variable {C : Cf} {ca : Cat} {te : TE} {t : DT}
theorem simI_enumT (h : Sim C ca te t) : SimI C (iEnumT C.K (tCons te tNil)) (dEnumT t) := by
  refine ⟨fun H0 S0 Hs σ H s Q Q' r q k => h.toE.run H0 S0 Hs σ H s _ _ r q fun Hs1 H1 v d s1 g1 r1 v1 q1 => ?_⟩
  cases d <;> first | exact q1.elim | skip
  rename_i ds
  have v1' : Rp C.K Hs1 v (.tuple ds) := v1
  cases v1' with
  | @tup y ys _ e3 e4 =>
  refine ⟨y, ys, rfl, Same.sqT r1.sub e3, k Hs1 H1 _ _ s1 g1 r1 ?_ q1⟩
  refine ⟨_, _, by rw [enum_len, ← e4.len]; exact walk_enumT, fun H e => Same.sqT e e3, fun i H v H2 H0 S0 Hs σ s hi r e y => ?_⟩
  obtain ⟨T, x2, rfl, nT, rfl, f2⟩ := y
  obtain ⟨d', f5, f6⟩ := e4.getV f2
  obtain ⟨Hs2, r2, rp, g⟩ := pair_it r nT (Rp.int ((i : Nat) : Int)) (Rp.mono e f6)
  exact ⟨Hs2, _, enum_get f5, r2, rp, g⟩
end

/-! ### a dict that is walked through: locked meanwhile -/
/-- what stands at d is o from now on -/
def sw (d : Addr) (o : HO) (H : Hp) : Hp := fun b => if b = d ∧ H b ≠ none then some o else H b
section
variable {d : Addr} {o o' x : HO} {H H' : Hp} {b : Addr}
theorem sw_ne (h : b ≠ d) : sw d o H b = H b := by unfold sw; rw [if_neg (fun z => h z.1)]
theorem sw_at (h : H d ≠ none) : sw d o H d = some o := by unfold sw; rw [if_pos ⟨rfl, h⟩]
theorem sw_none (h : H b = none) : sw d o H b = none := by unfold sw; rw [if_neg (fun z => z.2 h)]; exact h
theorem sw_none' (h : sw d o H b = none) : H b = none := by
  unfold sw at h
  split at h
  · cases h
  · exact h
theorem sw_nn (h : H b ≠ none) : sw d o H b ≠ none := fun z => h (sw_none' z)
theorem sw_some (h : sw d o H b = some x) : (b = d ∧ x = o ∧ H d ≠ none) ∨ (b ≠ d ∧ H b = some x) := by
  by_cases hb : b = d
  · subst hb
    by_cases hn : H b = none
    · rw [sw_none hn] at h; cases h
    · rw [sw_at hn] at h; cases h; exact .inl ⟨rfl, rfl, hn⟩
  · rw [sw_ne hb] at h; exact .inr ⟨hb, h⟩
theorem sw_of (h : H b = some x) (hx : b = d → x = o) : sw d o H b = some x := by
  by_cases hb : b = d
  · subst hb; rw [sw_at (by rw [h]; simp), hx rfl]
  · rw [sw_ne hb]; exact h
theorem sw_upd (h : H d ≠ none) : sw d o H = upd H d o := by
  funext b
  unfold sw upd
  by_cases hb : b = d
  · subst hb; rw [if_pos ⟨rfl, h⟩, if_pos rfl]
  · rw [if_neg (fun z => hb z.1), if_neg hb]
theorem sw_sw : sw d o (sw d o' H) = sw d o H := by
  funext b
  by_cases hb : b = d
  · subst hb
    by_cases hn : H b = none
    · rw [sw_none (sw_none hn), sw_none hn]
    · rw [sw_at (sw_nn hn), sw_at hn]
  · rw [sw_ne hb, sw_ne hb, sw_ne hb]
theorem sw_id (h : ∀ x, H d = some x → x = o) : sw d o H = H := by
  funext b
  by_cases hb : b = d
  · subst hb
    cases q : H b with
    | none => exact sw_none q
    | some y => rw [sw_at (by rw [q]; simp), h y q]
  · exact sw_ne hb
theorem Same.sw (e : Same H H') : Same (sw d o H) (sw d o H') := fun b x h => by
  rcases sw_some h with ⟨rfl, rfl, hn⟩ | ⟨hb, h⟩
  · refine sw_at fun z => ?_
    cases q : H b with
    | none => exact hn q
    | some y => rw [e b y q] at z; cases z
  · rw [sw_ne hb]; exact e b x h
end
/-- a dict of these pairs, locked or not -/
def DAt' (kvs : List (Key × V)) (x : HO) : Prop := x = .dK kvs ∨ ∃ f, x = .frz f (.dK kvs)
section
variable {K : PySem.W.Frag} {d : Addr} {o : HO} {H : Hp} {kvs : List (Key × V)}
theorem SqT.sw (hd : ∀ x, H d = some x → DAt' kvs x) {a : Addr} {xs : List V} (h : SqT K H a xs) : SqT K (sw d o H) a xs := by
  rcases h with (h | ⟨f, h⟩) | h
  · have hn : a ≠ d := fun z => by
      rw [z] at h
      rcases hd _ h with e | ⟨_, e⟩ <;> cases e
    exact .inl (.inl (by rw [sw_ne hn]; exact h))
  · have hn : a ≠ d := fun z => by
      rw [z] at h
      rcases hd _ h with e | ⟨_, e⟩ <;> cases e
    exact .inl (.inr ⟨f, by rw [sw_ne hn]; exact h⟩)
  · exact .inr h
mutual
theorem Rp.sw (hd : ∀ x, H d = some x → DAt' kvs x) (ho : DAt' kvs o) : ∀ {v : V} {t : D}, Rp K H v t → Rp K (sw d o H) v t
  | _, _, .non => .non
  | _, _, .bl b => .bl b
  | _, _, .int i => .int i
  | _, _, .str z => .str z
  | _, _, .lst (a := a) q r => by
    refine .lst ?_ (RpAll.sw hd ho r)
    rw [sw_ne (fun z => ?_)]
    · exact q
    · rw [z] at q
      rcases hd _ q with e | ⟨_, e⟩ <;> cases e
  | _, _, .tup q r => .tup (SqT.sw hd q) (RpAll.sw hd ho r)
  | _, _, .dic (a := a) (kvs := ks) q r => by
    refine .dic ?_ (RpKV.sw hd ho r)
    by_cases ha : a = d
    · subst ha
      have e : ks = kvs := by
        rcases q with q | ⟨f, q⟩
        · rcases hd _ q with e | ⟨_, e⟩ <;> cases e; rfl
        · rcases hd _ q with e | ⟨_, e⟩ <;> cases e; rfl
      subst e
      have hn : H a ≠ none := by rcases q with q | ⟨f, q⟩ <;> (rw [q]; simp)
      rcases ho with rfl | ⟨f, rfl⟩
      · exact .inl (sw_at hn)
      · exact .inr ⟨f, sw_at hn⟩
    · rcases q with q | ⟨f, q⟩
      · exact .inl (by rw [sw_ne ha]; exact q)
      · exact .inr ⟨f, by rw [sw_ne ha]; exact q⟩
theorem RpAll.sw (hd : ∀ x, H d = some x → DAt' kvs x) (ho : DAt' kvs o) : ∀ {vs : List V} {ts : List D}, RpAll K H vs ts → RpAll K (sw d o H) vs ts
  | _, _, .nil => .nil
  | _, _, .cons a b => .cons (Rp.sw hd ho a) (RpAll.sw hd ho b)
theorem RpKV.sw (hd : ∀ x, H d = some x → DAt' kvs x) (ho : DAt' kvs o) : ∀ {vs : List (Key × V)} {ts : List (D × D)}, RpKV K H vs ts → RpKV K (sw d o H) vs ts
  | _, _, .nil => .nil
  | _, _, .cons a b => .cons (Rp.sw hd ho a) (RpKV.sw hd ho b)
end
theorem Cn.sw (hd : ∀ x, H d = some x → DAt' kvs x) (ho : DAt' kvs o) {u : HO} {t : D} (h : Cn K H u t) : Cn K (sw d o H) u t := by
  cases h with
  | lst a => exact .lst (RpAll.sw hd ho a)
  | dic a => exact .dic (RpKV.sw hd ho a)
end
section
variable {C : Cf} {σ : L2.St} {H0 S0 Hs H Hs' H' Hst : Hp} {s : S} {d : Addr} {o x : HO} {kvs : List (Key × V)}
theorem R.notPenS (r : R C H0 S0 Hs σ H s) (hx : Hs d = some x) : ¬ IsPen C d := fun z => by
  rcases z with ⟨c, z⟩ | z
  · have := (r.pn d c z).2.2.1
    rw [hx] at this; cases this
  · obtain ⟨⟨i, _, hi, e⟩, _⟩ := r.br d z
    have il : i < s.δ.length := by rw [← r.len]; exact (List.getElem?_eq_some_iff.mp e).1
    cases q : s.δ[i]'il with
    | none =>
      have := r.dead i hi (by rw [List.getElem?_eq_getElem il, q])
      rw [e] at this; cases this
    | some t =>
      obtain ⟨a, u, e1, _, e3, _⟩ := r.mt i t (by rw [List.getElem?_eq_getElem il, q]) hi
      rw [e] at e1; cases e1
      rw [hx] at e3; cases e3
theorem R.sw (r : R C H0 S0 Hs σ H s) (hx : Hs d = some x) (hd : DAt' kvs x) (ho : DAt' kvs o) : R C (sw d o H0) (sw d o S0) (sw d o Hs) σ (sw d o H) s := by
  have hd1 : ∀ y, Hs d = some y → DAt' kvs y := fun y e => by rw [hx] at e; cases e; exact hd
  have hH : H d = some x := r.sub _ _ hx
  have hnl : ∀ ys, x ≠ .lst ys := fun ys e => by rcases hd with z | ⟨_, z⟩ <;> rw [e] at z <;> cases z
  refine ⟨r.len, Same.sw r.sub, fun i t e m => ?_, fun i t e m => ?_, r.dead, r.sep, fun p c e => ?_, fun b hb => ?_, Same.sw r.s0, fun b u n e => ?_, fun b e1 e2 => ?_⟩
  · obtain ⟨v, e1, e2⟩ := r.slot i t e m
    exact ⟨v, e1, Rp.sw hd1 ho e2⟩
  · obtain ⟨a, u, e1, e2, e3, e4, e5⟩ := r.mt i t e m
    have hne : a ≠ d := fun z => by rw [z, hx] at e3; cases e3
    exact ⟨a, u, e1, by rw [sw_ne hne]; exact e2, by rw [sw_ne hne]; exact e3, e4.sw hd1 ho, e5.imp sw_none id⟩
  · obtain ⟨e1, ⟨⟨at_, rest, p1, p2⟩, ⟨ns, c1⟩, cp⟩, e3, e4, e5, e6⟩ := r.pn p c e
    have hp : p ≠ d := fun z => by rw [z, hx] at e3; cases e3
    have hc : c ≠ d := fun z => by rw [z, hH] at c1; cases c1; exact hnl _ rfl
    exact ⟨e1, ⟨⟨at_, rest, by rw [sw_ne hp]; exact p1, p2⟩, ⟨ns, by rw [sw_ne hc]; exact c1⟩, cp⟩, by rw [sw_ne hp]; exact e3, sw_nn e4, sw_nn e5, e6⟩
  · obtain ⟨e1, e2⟩ := r.br b hb
    exact ⟨e1, sw_nn e2⟩
  · rcases sw_some e with ⟨rfl, rfl, hn⟩ | ⟨hb, e⟩
    · exact sw_at (by rw [hH]; simp)
    · rw [sw_ne hb]; exact r.h0 b u n e
  · exact sw_none (r.new b (sw_none' e1) fun z => e2 (sw_none z))
theorem Go.sw (g : Go C σ Hs H Hs' H') : Go C σ (sw d o Hs) (sw d o H) (sw d o Hs') (sw d o H') := by
  refine ⟨Same.sw g.st, fun b u e n m => ?_, fun b u e => ?_, fun b e1 e2 => sw_none (g.nw b (sw_none' e1) fun z => e2 (sw_none z))⟩
  · rcases sw_some e with ⟨rfl, rfl, hn⟩ | ⟨hb, e⟩
    · refine sw_at fun z => ?_
      cases q : H b with
      | none => exact hn q
      | some y => obtain ⟨y', q'⟩ := g.th b y q; rw [q'] at z; cases z
    · rw [sw_ne hb]; exact g.kp b u e n m
  · cases q : LW.sw d o H' b with
    | some y => exact ⟨y, rfl⟩
    | none =>
      exfalso
      have q' := sw_none' q
      cases q2 : H b with
      | none => rw [sw_none q2] at e; cases e
      | some y => obtain ⟨y', q3⟩ := g.th b y q2; rw [q3] at q'; cases q'
theorem Val.sw {cat : Cat} {v : V} {t : D} (h : Val C H0 Hst Hs σ H cat v t) (hx : Hs d = some x) (hd : DAt' kvs x) (ho : DAt' kvs o) : Val C (sw d o H0) (sw d o Hst) (sw d o Hs) σ (sw d o H) cat v t := by
  have hd1 : ∀ y, Hs d = some y → DAt' kvs y := fun y e => by rw [hx] at e; cases e; exact hd
  cases cat with
  | E => exact Rp.sw hd1 ho h
  | F =>
    cases e : isC t with
    | true =>
      obtain ⟨a, rfl, u, h1, h2, h3, h4, h5, h6⟩ := h.c e
      have hne : a ≠ d := fun z => by rw [z, hx] at h2; cases h2
      exact Val.mkC ⟨u, by rw [sw_ne hne]; exact h1, by rw [sw_ne hne]; exact h2, sw_none h3, sw_none h4, h5.sw hd1 ho, h6⟩
    | false => exact Val.mkP (Rp.sw hd1 ho (h.p e)) e
end
/-- under a lock, where it isn't locked yet -/
def tLk (t : TE) : TE := fun σ H Q => t σ H Q ∨ tLockE t σ H Q
theorem pe_lk {X : Cx} {e : Expr} {t : TE} (h : PE X e t) : PE X e (tLk t) :=
  ⟨fun pins s σ H Q I q => q.elim (fun q => h.run pins s σ H Q I q) fun q => (pe_lock h).run pins s σ H Q I q⟩
/-- te follows from t, where slot j is a locked dict -/
structure SimF (C : Cf) (j : Nat) (cat : Cat) (te : TE) (t : DT) : Prop where
  run : ∀ (H0 S0 Hs : Hp) (σ : L2.St) (H : Hp) (s : S) (Q : D → S → Prop) (Q' : VK) (a : Addr) (f : Obj) (xs : List (Key × V)) (kvs : List (D × D)), R C H0 S0 Hs σ H s → σ[j]? = some (some (.ref a)) → Hs a = some (.frz f (.dK xs)) → RpKV C.K Hs xs kvs → s.δ[j]? = some (some (.dict kvs)) → t s Q →
    (∀ Hs' H' v d s', Go C σ Hs H Hs' H' → R C H0 S0 Hs' σ H' s' → Val C H0 H Hs' σ H' cat v d → Q d s' → Q' v H') → te σ H Q'
def dLk (j : Nat) (t : DT) : DT := fun s Q => (∃ kvs, s.δ[j]? = some (some (.dict kvs))) ∧ t s Q
section
variable {C : Cf} {cat : Cat} {te : TE} {t : DT} {j : Nat}
theorem sim_lk (hj : j ∉ C.M) (h : SimF C j cat te t) : Sim C cat (tLk te) (dLk j t) := by
  refine ⟨fun H0 S0 Hs σ H s Q Q' r ⟨⟨kvs, ej⟩, q⟩ k => ?_⟩
  obtain ⟨v, e1, rp⟩ := r.slot j _ ej hj
  cases rp with
  | @dic a xs _ q0 rk =>
  rcases q0 with q0 | ⟨f, q0⟩
  · refine .inr ⟨a, .dK xs, r.sub _ _ q0, True.intro, fun od => ?_⟩
    have dA : DAt' xs (.dK xs) := .inl rfl
    have dB : DAt' xs (.frz od (.dK xs)) := .inr ⟨od, rfl⟩
    have hH : H a ≠ none := by rw [r.sub _ _ q0]; simp
    have np := r.notPenS q0
    have r1 := r.sw q0 dA dB
    have hs1 : sw a (.frz od (.dK xs)) Hs a = some (.frz od (.dK xs)) := sw_at (by rw [q0]; simp)
    have i0 : ∀ y, H0 a = some y → y = .dK xs := fun y e => by have := r.h0 a y np e; rw [r.sub _ _ q0] at this; cases this; rfl
    have is0 : ∀ y, S0 a = some y → y = .dK xs := fun y e => by have := r.s0 a y e; rw [q0] at this; cases this; rfl
    have iH : ∀ y, H a = some y → y = .dK xs := fun y e => by rw [r.sub _ _ q0] at e; cases e; rfl
    have iHs : ∀ y, Hs a = some y → y = .dK xs := fun y e => by rw [q0] at e; cases e; rfl
    rw [← sw_upd hH]
    refine h.run _ _ _ σ _ s Q _ a od xs kvs r1 e1 hs1 (RpKV.sw (fun y e => by rw [q0] at e; cases e; exact dA) dB rk) ej q fun Hs' H' v' d' s' g' r' v1 q1 => ?_
    have hs2 : Hs' a = some (.frz od (.dK xs)) := g'.st _ _ hs1
    have hh2 : H' a = some (.frz od (.dK xs)) := r'.sub _ _ hs2
    refine ⟨hh2, ?_⟩
    rw [← sw_upd (by rw [hh2]; simp)]
    have r2 := r'.sw hs2 dB dA
    rw [sw_sw, sw_sw, sw_id i0, sw_id is0] at r2
    have g2 := g'.sw (d := a) (o := .dK xs)
    rw [sw_sw, sw_sw, sw_id iH, sw_id iHs] at g2
    have v2 := v1.sw hs2 dB dA
    rw [sw_sw, sw_sw, sw_id i0, sw_id iH] at v2
    exact k _ _ v' d' s' g2 r2 v2 q1
  · exact .inl (h.run H0 S0 Hs σ H s Q Q' a f xs kvs r e1 q0 rk ej q k)
end
/-! comprehensions, told from the walk on -/
section
variable {C : Cf} {cat : Cat} {te : TE} {t : DT} {ca : Cat}
theorem lc_run {H0 S0 Hs1 : Hp} {σ : L2.St} {H1 : Hp} {s1 : S} {Q : D → S → Prop} {Q' : VK} {J : It} {items : List D} {tl vs : List Nat} {g : TG} {x : D → S → (S → Prop) → Prop} {tt : TT} {c : DB} (r1 : R C H0 S0 Hs1 σ H1 s1) (io : ItOk C Hs1 J items) (hg : SimG C tl g x) (ht : SimT C tt c) (he : Sim C ca te t) (hv : ∀ j, j ∈ tl → j ∈ vs) (hM : ∀ v ∈ vs, v ∉ C.M) (hp : ∀ v ∈ vs, v ≠ C.ps)
    (hz : items.length ≤ sizeLine) (q1 : lcD x c t vs (fun acc s2 => Q (.list acc) s2) items [] (wipeS s1 vs))
    (k : ∀ Hs' H' v d s', Go C σ Hs1 H1 Hs' H' → R C H0 S0 Hs' σ H' s' → Val C H0 H1 Hs' σ H' .F v d → Q d s' → Q' v H') : tLc (fun _ H R => R J H) g tt te vs σ H1 Q' := by
  have wi : SimI { C with bor := C.bor } (fun _ _ _ => False) (fun _ _ => False) := ⟨fun _ _ _ _ _ _ _ _ _ z _ => z⟩
  intro L nL
  obtain ⟨G, Y, W, hG, hY⟩ := io
  obtain ⟨l0, l1, l2, l3⟩ := r1.free0 nL
  have ow : ∀ b, Own C (L2.wipe σ vs) b → Own C σ b := own_of hM fun j h => wipe_out h
  have lw : ¬ Own C (L2.wipe σ vs) L := fun z => l2 (ow L z)
  refine lc_it W (fun i H => ∃ Hs s accV accD, R C H0 Hs1 Hs (L2.wipe σ vs) H s ∧ H L = some (.lst accV) ∧ Hs L = none ∧ RpAll C.K Hs accV accD ∧ accD.length ≤ i ∧ Go C σ Hs1 H1 Hs H ∧ (∀ v ∈ vs, ∀ d, s.δ[v]? ≠ some (some d)) ∧ lcD x c t vs (fun acc s2 => Q (.list acc) s2) (items.drop i) accD s)
    ⟨Hs1, wipeS s1 vs, [], [], ((r1.laid nL).wipe hM hp).base, upd_same, l1, .nil, Nat.le_refl _, Go.laid nL, fun v m d => wipeL_in m d, q1⟩ (fun i H _ ⟨Hs, s, _, _, r, _⟩ => hG H (r.s0.trans r.sub)) (fun i v H H' hi' ⟨Hs, s, accV, accD, r, hL, hsL, ra, la, ga, _, q⟩ y => ?_) (fun H ⟨Hs, s, accV, accD, r, hL, hsL, ra, la, ga, hn, q⟩ => ?_)
  · obtain ⟨Hs2, d, e1, r2, rp, g2⟩ := hY i H v H' H0 Hs1 Hs (L2.wipe σ vs) s hi' r r.s0 y
    rw [List.drop_eq_getElem_cons hi'] at q
    have ed : items[i] = d := by
      rw [List.getElem?_eq_getElem hi'] at e1
      exact Option.some.inj e1
    rw [ed] at q
    have hL2 := g2.kp L _ hL lw l3
    have hsL2 := none_of_new g2.nw hsL hL
    refine hg.run H0 Hs1 Hs2 (L2.wipe σ vs) H' s v d _ _ r2 rp q fun σ3 s3 r3 len3 out3 q3 => ?_
    have out3' : ∀ j, j ∉ vs → σ3[j]? = σ[j]? := fun j h => (out3 j (fun z => h (hv j z))).trans (wipe_out h)
    have wq : L2.wipe σ3 vs = L2.wipe σ vs := wipe_eq (by rw [len3, wipe_length]) out3'
    have ow3 : ∀ b, Own C σ3 b → Own C σ b := own_of hM out3'
    have lw3 : ¬ Own C σ3 L := fun z => l2 (ow3 L z)
    refine ⟨wq, ht.run H0 Hs1 Hs2 σ3 H' s3 _ _ r3 q3 fun Hs4 H4 b4 s4 g4 r4 q4 => ?_⟩
    have hL4 := g4.kp L _ hL2 lw3 l3
    have hsL4 := none_of_new g4.nw hsL2 hL2
    have ga4 : Go C σ Hs1 H1 Hs4 H4 := ga.trans ((g2.own ow).trans (g4.own ow3))
    cases b4 with
    | true =>
      refine ifp rfl (he.toE.run H0 Hs1 Hs4 σ3 H4 s4 _ _ r4 (by simpa using q4) fun Hs5 H5 w dw s5 g5 r5 v5 q5 => ?_)
      have hL5 := g5.kp L _ hL4 lw3 l3
      have hsL5 := none_of_new g5.nw hsL4 hL4
      have ra5 := RpAll.mono (g2.st.trans (g4.st.trans g5.st)) ra
      refine ⟨accV, hL5, by rw [ra5.len]; omega, Hs5, wipeS s5 vs, _, accD ++ [dw], ?_, upd_same, hsL5, ra5.app (.cons v5 .nil), by rw [List.length_append]; show accD.length + 1 ≤ i + 1; omega, (ga4.trans (g5.own ow3)).updF nL, fun v m d => wipeL_in m d, q5⟩
      rw [← wq]
      exact (r5.updF hsL5 l0 lw3).wipe hM hp
    | false =>
      refine ifn Bool.false_ne_true ⟨Hs4, wipeS s4 vs, accV, accD, ?_, hL4, hsL4, RpAll.mono (g2.st.trans g4.st) ra, by omega, ga4, fun v m d => wipeL_in m d, by simpa using q4⟩
      rw [← wq]
      exact r4.wipe hM hp
  · rw [List.drop_length] at q
    refine k Hs H _ (.list accD) s ga (r1.back (r.unwipe hM hp hn)) (Val.mkC ⟨_, hL, hsL, l0, nL, .lst ra, l2⟩) q
/-- a dict comprehension over it -/
theorem dc_it {J : It} {n : Nat} {G : Hp → Prop} {Y : Nat → Hp → V → Hp → Prop} (w : Walk J n G Y) {g : TG} {tt : TT} {tk tv : TE} {vs : List Nat} {σ : L2.St} {H1 : Hp} {D : Addr} {Qd : Hp → Prop} (Pv : Nat → Hp → Prop) (h0 : Pv 0 (upd H1 D (.dK []))) (hG : ∀ i H, i ≤ n → Pv i H → G H)
    (hs : ∀ i x H H', i < n → Pv i H → Y i H x H' → g x (wipe σ vs) H' fun σ2 H2 => wipe σ2 vs = wipe σ vs ∧ tt σ2 H2 fun b H3 =>
      if b = true then tk σ2 H3 fun y H4 => tv σ2 H4 fun z H5 => ∃ kvs k, y = kV k ∧ H5 D = some (.dK kvs) ∧ kvs.length < sizeLine ∧ Pv (i + 1) (upd H5 D (.dK (putK kvs k z))) else Pv (i + 1) H3) (hd : ∀ H, Pv n H → Qd H) :
    ∃ W : Nat → Nat → Hp → Prop, (∃ m, W 0 m (upd H1 D (.dK []))) ∧ ∀ i m H, W i m H →
      (J.stop i H ∧ Qd H) ∨ (J.go i H ∧ ∃ Nx : Hp → Prop, (∀ H', Nx H' → ∃ m', m' < m ∧ W (i + 1) m' H') ∧ ∀ x H', J.yld i H x H' → g x (wipe σ vs) H' fun σ2 H2 => wipe σ2 vs = wipe σ vs ∧ tt σ2 H2 fun b H3 =>
        if b = true then tk σ2 H3 fun y H4 => tv σ2 H4 fun z H5 => ∃ kvs k, y = kV k ∧ H5 D = some (.dK kvs) ∧ kvs.length < sizeLine ∧ Nx (upd H5 D (.dK (putK kvs k z))) else Nx H3) := by
  refine ⟨fun i m H => m = n - i ∧ i ≤ n ∧ Pv i H, ⟨n, by simp, Nat.zero_le _, h0⟩, ?_⟩
  rintro i m H ⟨rfl, hi, p⟩
  have q := hG i H hi p
  by_cases hlt : i < n
  · refine .inr ⟨w.goes i H hlt q, Pv (i + 1), fun H' p' => ⟨n - (i + 1), by omega, rfl, hlt, p'⟩, fun x H' y => hs i x H H' hlt p (w.yields i H x H' hlt q y)⟩
  · have e : i = n := by omega
    subst e
    exact .inl ⟨w.stops H q, hd H p⟩
def dcD (g : D → S → (S → Prop) → Prop) (c : DB) (kx e : DT) (vs : List Nat) (Q : List (D × D) → S → Prop) : List D → List (D × D) → S → Prop
  | [], acc, s => Q acc s
  | d :: ds, acc, s => g d s fun s1 => c s1 fun k s2 => if k = true then kx s2 fun y s3 => e s3 fun z s4 => isKey y = true ∧ dcD g c kx e vs Q ds (putD acc y z) (wipeS s4 vs) else dcD g c kx e vs Q ds acc (wipeS s2 vs)
theorem putD_len (kvs : List (D × D)) (k v : D) : (putD kvs k v).length ≤ kvs.length + 1 := by
  unfold putD
  split
  · rw [List.length_map]; omega
  · rw [List.length_append]; exact Nat.le_refl _
theorem dc_run {H0 S0 Hs1 : Hp} {σ : L2.St} {H1 : Hp} {s1 : S} {Q : D → S → Prop} {Q' : VK} {J : It} {items : List D} {tl vs : List Nat} {g : TG} {x : D → S → (S → Prop) → Prop} {tt : TT} {c : DB} {tk : TE} {kx : DT} {ck : Cat} (r1 : R C H0 S0 Hs1 σ H1 s1) (io : ItOk C Hs1 J items) (hg : SimG C tl g x) (ht : SimT C tt c) (hk : Sim C ck tk kx) (he : Sim C ca te t) (hv : ∀ j, j ∈ tl → j ∈ vs) (hM : ∀ v ∈ vs, v ∉ C.M) (hp : ∀ v ∈ vs, v ≠ C.ps)
    (hz : items.length ≤ sizeLine) (q1 : dcD x c kx t vs (fun acc s2 => Q (.dict acc) s2) items [] (wipeS s1 vs))
    (k : ∀ Hs' H' v d s', Go C σ Hs1 H1 Hs' H' → R C H0 S0 Hs' σ H' s' → Val C H0 H1 Hs' σ H' .F v d → Q d s' → Q' v H') : tDc (fun _ H R => R J H) g tt tk te vs σ H1 Q' := by
  intro L nL
  obtain ⟨G, Y, W, hG, hY⟩ := io
  obtain ⟨l0, l1, l2, l3⟩ := r1.free0 nL
  have ow : ∀ b, Own C (L2.wipe σ vs) b → Own C σ b := own_of hM fun j h => wipe_out h
  have lw : ¬ Own C (L2.wipe σ vs) L := fun z => l2 (ow L z)
  refine dc_it W (fun i H => ∃ Hs s accV accD, R C H0 Hs1 Hs (L2.wipe σ vs) H s ∧ H L = some (.dK accV) ∧ Hs L = none ∧ RpKV C.K Hs accV accD ∧ accD.length ≤ i ∧ Go C σ Hs1 H1 Hs H ∧ (∀ v ∈ vs, ∀ d, s.δ[v]? ≠ some (some d)) ∧ dcD x c kx t vs (fun acc s2 => Q (.dict acc) s2) (items.drop i) accD s)
    ⟨Hs1, wipeS s1 vs, [], [], ((r1.laid nL).wipe hM hp).base, upd_same, l1, .nil, Nat.le_refl _, Go.laid nL, fun v m d => wipeL_in m d, q1⟩ (fun i H _ ⟨Hs, s, _, _, r, _⟩ => hG H (r.s0.trans r.sub)) (fun i v H H' hi' ⟨Hs, s, accV, accD, r, hL, hsL, ra, la, ga, _, q⟩ y => ?_) (fun H ⟨Hs, s, accV, accD, r, hL, hsL, ra, la, ga, hn, q⟩ => ?_)
  · obtain ⟨Hs2, d, e1, r2, rp, g2⟩ := hY i H v H' H0 Hs1 Hs (L2.wipe σ vs) s hi' r r.s0 y
    rw [List.drop_eq_getElem_cons hi'] at q
    have ed : items[i] = d := by
      rw [List.getElem?_eq_getElem hi'] at e1
      exact Option.some.inj e1
    rw [ed] at q
    have hL2 := g2.kp L _ hL lw l3
    have hsL2 := none_of_new g2.nw hsL hL
    refine hg.run H0 Hs1 Hs2 (L2.wipe σ vs) H' s v d _ _ r2 rp q fun σ3 s3 r3 len3 out3 q3 => ?_
    have out3' : ∀ j, j ∉ vs → σ3[j]? = σ[j]? := fun j h => (out3 j (fun z => h (hv j z))).trans (wipe_out h)
    have wq : L2.wipe σ3 vs = L2.wipe σ vs := wipe_eq (by rw [len3, wipe_length]) out3'
    have ow3 : ∀ b, Own C σ3 b → Own C σ b := own_of hM out3'
    have lw3 : ¬ Own C σ3 L := fun z => l2 (ow3 L z)
    refine ⟨wq, ht.run H0 Hs1 Hs2 σ3 H' s3 _ _ r3 q3 fun Hs4 H4 b4 s4 g4 r4 q4 => ?_⟩
    have hL4 := g4.kp L _ hL2 lw3 l3
    have hsL4 := none_of_new g4.nw hsL2 hL2
    have ga4 : Go C σ Hs1 H1 Hs4 H4 := ga.trans ((g2.own ow).trans (g4.own ow3))
    cases b4 with
    | true =>
      refine ifp rfl (hk.toE.run H0 Hs1 Hs4 σ3 H4 s4 _ _ r4 (by simpa using q4) fun Hs5 H5 w dw s5 g5 r5 v5 q5 => ?_)
      refine he.toE.run H0 Hs1 Hs5 σ3 H5 s5 _ _ r5 q5 fun Hs6 H6 w2 dw2 s6 g6 r6 v6 q6 => ?_
      obtain ⟨hky, q6⟩ := q6
      obtain ⟨kk, rfl⟩ := isKey_of hky
      have v5' : Rp C.K Hs5 w (keyD kk) := v5
      have hL5 := g6.kp L _ (g5.kp L _ hL4 lw3 l3) lw3 l3
      have hsL5 := none_of_new g6.nw (none_of_new g5.nw hsL4 hL4) (g5.kp L _ hL4 lw3 l3)
      have ra5 := RpKV.mono (g2.st.trans (g4.st.trans (g5.st.trans g6.st))) ra
      refine ⟨accV, kk, v5'.key, hL5, by rw [ra5.len]; omega, Hs6, wipeS s6 vs, _, putD accD (keyD kk) dw2, ?_, upd_same, hsL5, ra5.put (k := kk) v6, by have := putD_len accD (keyD kk) dw2; omega, (ga4.trans ((g5.own ow3).trans (g6.own ow3))).updF nL, fun v m d => wipeL_in m d, q6⟩
      rw [← wq]
      exact (r6.updF hsL5 l0 lw3).wipe hM hp
    | false =>
      refine ifn Bool.false_ne_true ⟨Hs4, wipeS s4 vs, accV, accD, ?_, hL4, hsL4, RpKV.mono (g2.st.trans g4.st) ra, by omega, ga4, fun v m d => wipeL_in m d, by simpa using q4⟩
      rw [← wq]
      exact r4.wipe hM hp
  · rw [List.drop_length] at q
    refine k Hs H _ (.dict accD) s ga (r1.back (r.unwipe hM hp hn)) (Val.mkC ⟨_, hL, hsL, l0, nL, .dic ra, l2⟩) q
/-! the walks of a locked dict -/
theorem RpKV.getV {K : PySem.W.Frag} {H : Hp} : ∀ {xs : List (Key × V)} {ds : List (D × D)} {i : Nat} {k : Key} {v : V}, RpKV K H xs ds → xs[i]? = some (k, v) → ∃ d, ds[i]? = some (keyD k, d) ∧ Rp K H v d
  | _, _, 0, _, _, .cons a _, e => by
    cases e
    exact ⟨_, rfl, a⟩
  | _, _, i + 1, k, v, .cons _ b, e => RpKV.getV (i := i) b e
theorem Rp.ofKey {K : PySem.W.Frag} {H : Hp} (k : Key) : Rp K H (kV k) (keyD k) := by cases k with
  | inl i => exact .int i
  | inr z => exact .str z
theorem itOk_keys {Hs1 : Hp} {a : Addr} {f : Obj} {xs : List (Key × V)} {ds : List (D × D)} (h : Hs1 a = some (.frz f (.dK xs))) (hd : RpKV C.K Hs1 xs ds) : ItOk C Hs1 (Itk a f xs) (ds.map Prod.fst) := by
  refine ⟨_, _, by rw [List.length_map, ← hd.len]; exact walk_keys, fun H e => e _ _ h, fun i H v H2 H0 S0 Hs σ s hi r e y => ?_⟩
  obtain ⟨rfl, k, w, e1, rfl⟩ := y
  obtain ⟨d, e2, _⟩ := hd.getV e1
  exact ⟨Hs, keyD k, by rw [List.getElem?_map, e2]; rfl, r, Rp.ofKey k, Go.refl⟩
def itemsD (kvs : List (D × D)) : List D := kvs.map fun kv => .tuple [kv.1, kv.2]
theorem itOk_items {Hs1 : Hp} {a : Addr} {f : Obj} {xs : List (Key × V)} {ds : List (D × D)} (h : Hs1 a = some (.frz f (.dK xs))) (hd : RpKV C.K Hs1 xs ds) : ItOk C Hs1 (Iti a f xs) (itemsD ds) := by
  refine ⟨_, _, by unfold itemsD; rw [List.length_map, ← hd.len]; exact walk_items, fun H e => e _ _ h, fun i H v H2 H0 S0 Hs σ s hi r e y => ?_⟩
  obtain ⟨T, x1, x2, rfl, nT, rfl, f1, f2⟩ := y
  dsimp only at f1 f2
  cases q : xs[i]? with
  | none => rw [q] at f1; cases f1
  | some kv =>
    obtain ⟨k, w⟩ := kv
    rw [q] at f1 f2
    cases f1; cases f2
    obtain ⟨d, e2, e3⟩ := hd.getV q
    obtain ⟨Hs2, r2, rp, g⟩ := pair_it r nT (Rp.ofKey k) (Rp.mono e e3)
    exact ⟨Hs2, _, by unfold itemsD; rw [List.getElem?_map, e2]; rfl, r2, rp, g⟩
/-- the keys, the pairs of the dict in slot j -/
def dKeys (j : Nat) : DI := fun s Q => match s.δ[j]? with
  | some (some (.dict kvs)) => Q (kvs.map Prod.fst) s
  | _ => False
def dItems (j : Nat) : DI := fun s Q => match s.δ[j]? with
  | some (some (.dict kvs)) => Q (itemsD kvs) s
  | _ => False
def dDc (it : DI) (g : D → S → (S → Prop) → Prop) (c : DB) (kx e : DT) (vs : List Nat) : DT := fun s Q => it s fun items s1 => items.length ≤ sizeLine ∧ dcD g c kx e vs (fun acc s2 => Q (.dict acc) s2) items [] (wipeS s1 vs)
theorem sim_lcKeys {j : Nat} {tl vs : List Nat} {g : TG} {x : D → S → (S → Prop) → Prop} {tt : TT} {c : DB} (hj : j ∉ C.M) (hg : SimG C tl g x) (ht : SimT C tt c) (he : Sim C ca te t) (hv : ∀ j, j ∈ tl → j ∈ vs) (hM : ∀ v ∈ vs, v ∉ C.M) (hp : ∀ v ∈ vs, v ≠ C.ps) :
    Sim C .F (tLk (tLc (iKeys (tVar j)) g tt te vs)) (dLk j (dLc (dKeys j) x c t vs)) := by
  refine sim_lk hj ⟨fun H0 S0 Hs σ H s Q Q' a f xs kvs r e1 hs rk ej q k => ?_⟩
  simp only [dLc, dKeys, ej] at q
  exact ⟨_, e1, a, f, rfl, .inl ⟨xs, r.sub _ _ hs, lc_run r (itOk_keys hs rk) hg ht he hv hM hp q.1 q.2 k⟩⟩
theorem sim_dcItems {j : Nat} {tl vs : List Nat} {g : TG} {x : D → S → (S → Prop) → Prop} {tt : TT} {c : DB} {tk : TE} {kx : DT} {ck : Cat} (hj : j ∉ C.M) (hg : SimG C tl g x) (ht : SimT C tt c) (hk : Sim C ck tk kx) (he : Sim C ca te t) (hv : ∀ j, j ∈ tl → j ∈ vs) (hM : ∀ v ∈ vs, v ∉ C.M) (hp : ∀ v ∈ vs, v ≠ C.ps) :
    Sim C .F (tLk (tDc (iItems (tVar j)) g tt tk te vs)) (dLk j (dDc (dItems j) x c kx t vs)) := by
  refine sim_lk hj ⟨fun H0 S0 Hs σ H s Q Q' a f xs kvs r e1 hs rk ej q k => ?_⟩
  simp only [dDc, dItems, ej] at q
  exact ⟨_, e1, a, f, xs, rfl, r.sub _ _ hs, dc_run r (itOk_items hs rk) hg ht hk he hv hM hp q.1 q.2 k⟩
end
/-! ### t += u, of tuples -/
theorem noI_tuple_add : typeLookup (.type "tuple") (dunderI "add") = pure none := by rw [typeLookup_type, builtinLookup_eq_fast]; kernel_rfl
theorem iop_catA {X : Cx} (K : PySem.W.Frag) (eK : X.K = K) : OpR X (inplaceOp .Add) (rCatA K) := by
  subst eK
  intro pins s σ H x y v u Q I rx ry h
  obtain ⟨a, b, xs, ys, rfl, rfl, ha, hb, hz, q0, q1, q2⟩ := h
  cases rx
  cases ry
  obtain ⟨its, r1, p1, _⟩ := I.tuple ha
  obtain ⟨its2, r2, p2, _⟩ := I.tuple hb
  obtain ⟨⟨cls, dd, data, sl⟩, ho, hc, n, hd⟩ := id p1
  obtain ⟨⟨cls2, dd2, data2, sl2⟩, ho2, hc2, n2, hd2⟩ := id p2
  simp only at hc hd hc2 hd2
  subst hc hd hc2 hd2
  have e : its.toArray ++ its2.toArray = (its ++ its2).toArray := by simp
  by_cases hx : xs = []
  · subst hx
    cases r1
    exact wpAny_inplaceOp_concat ⟨_, ho, rfl⟩ ⟨_, ho2, rfl⟩ noI_tuple_add noFill_tuple_add seq_tuple_add (call_meets PySem.F.slot_tuple_add ⟨_, ho, rfl⟩ PySem.F.entry_tuple_add (PySem.F.args_tuple_add_2 _ _)
      (tuple_addW0 a b ([] : List Value).toArray its2.toArray n n2 dd dd2 sl sl2 (by simp)) ⟨ho, ho2, ⟨.ref b, H, I, rfl, q0 rfl⟩⟩)
  · have hv : its ≠ [] := fun z => hx (r1.nil_iff.mp z)
    by_cases hw : its2 = []
    · exact wpAny_inplaceOp_concat ⟨_, ho, rfl⟩ ⟨_, ho2, rfl⟩ noI_tuple_add noFill_tuple_add seq_tuple_add (call_meets PySem.F.slot_tuple_add ⟨_, ho, rfl⟩ PySem.F.entry_tuple_add (PySem.F.args_tuple_add_2 _ _)
        (tuple_addW1 a b its.toArray its2.toArray n n2 dd dd2 sl sl2 (by simpa using hv) (by simp [hw])) ⟨ho, ho2, ⟨.ref a, H, I, rfl, q1 hx (r2.nil_iff.mp hw)⟩⟩)
    · refine wpAny_inplaceOp_concat ⟨_, ho, rfl⟩ ⟨_, ho2, rfl⟩ noI_tuple_add noFill_tuple_add seq_tuple_add (call_meets PySem.F.slot_tuple_add ⟨_, ho, rfl⟩ PySem.F.entry_tuple_add (PySem.F.args_tuple_add_2 _ _)
        (tuple_addW2 a b its.toArray its2.toArray n n2 dd dd2 sl sl2 (by simpa using hv) (by simpa using hw) (by rw [List.size_toArray, List.size_toArray, ← r1.length, ← r2.length]; exact hz)) ⟨ho, ho2, ?_⟩)
      rw [e]
      refine ⟨.ref s.heap.objs.size, _, I.laid (t' := s.toks) (o := .tup (xs ++ ys)) (fun b ob q => Heap.get?_push_of_some _ q) (Nat.le_refl _) ?_, rfl, q2 hx (fun w => hw (r2.nil_iff.mpr w)) _ (I.hok.fresh (Nat.le_refl _))⟩
      exact ⟨by rw [List.length_append]; exact hz, _, r1.append r2, IsTup.new _ _⟩
def catTD : DO := fun x y Q => match x, y with
  | .tuple xs, .tuple ys => xs.length + ys.length ≤ sizeLine ∧ Q (.tuple (xs ++ ys))
  | _, _ => False
theorem opA_catT {C : Cf} : OpA C (rCatA C.K) catTD := by
  intro H0 S0 Hs σ H s x y dx dy Q Q' r hx hy q k
  cases dx <;> cases dy <;> first | exact q.elim | skip
  rename_i ds es
  cases (show Rp C.K Hs x (.tuple ds) from hx) with
  | @tup a xs _ h1 h2 =>
  cases (show Rp C.K Hs y (.tuple es) from hy) with
  | @tup b ys _ h3 h4 =>
    refine ⟨a, b, xs, ys, rfl, rfl, Same.sqT r.sub h1, Same.sqT r.sub h3, by rw [h2.len, h4.len]; exact q.1, fun e => ?_, fun _ e => ?_, fun _ _ p np => ?_⟩
    · subst e
      cases h2
      exact k Hs H _ (.tuple ([] ++ es)) Go.refl r (Val.mkP (Rp.tup h3 h4) rfl) q.2
    · subst e
      cases h4
      exact k Hs H _ (.tuple (ds ++ [])) Go.refl r (Val.mkP (by rw [List.append_nil]; exact Rp.tup h1 h2) rfl) q.2
    · obtain ⟨r', g'⟩ := r.newTup (o := .tup (xs ++ ys)) np
      exact k _ _ _ (.tuple (ds ++ es)) g' r' (Val.mkP (Rp.tup (SqT.of upd_same) (RpAll.mono g'.st (h2.app h4))) rfl) q.2
/-! ### a call that only reads lists and dicts of the caller's own, and tells a truth, a number, a text or None -/
def isFl : D → Bool
  | .none => true
  | .bool _ => true
  | .int _ => true
  | .str _ => true
  | _ => false
/-- arguments, some of them own slots (told by their place) -/
structure SimO' (C : Cf) (n : Nat) (ta : TA) (t : DA) : Prop where
  run : ∀ (H0 S0 Hs : Hp) (σ : L2.St) (H : Hp) (s : S) (Q : List D → S → Prop) (Q' : List V → Hp → Prop), R C H0 S0 Hs σ H s → t s Q →
    (∀ Hs' H' vs ds s', Go C σ Hs H Hs' H' → R C H0 S0 Hs' σ H' s' → ds.length = n → (∃ Ht, Same Hs' Ht ∧ Same Ht H' ∧ (∀ b o, Ht b = some o → Hs' b = some o ∨ Own C σ b) ∧ RpAll C.K Ht vs ds) → Q ds s' → Q' vs H') → ta σ H Q'
section
variable {C : Cf} {ca : Cat} {te : TE} {dt : DT}
theorem simO'_of {n : Nat} {ta : TA} {t : DA} (h : SimA C n ta t) : SimO' C n ta t :=
  ⟨fun H0 S0 Hs σ H s Q Q' r q k => h.run H0 S0 Hs σ H s _ _ r q fun Hs1 H1 vs ds s1 g1 r1 v1 l1 q1 => k Hs1 H1 vs ds s1 g1 r1 l1 ⟨Hs1, Same.refl _, r1.sub, fun b o e => .inl e, v1⟩ q1⟩
/-- f(xs, ..): xs an own slot, the others still -/
def dOwn (i : Nat) (r : DA) : DA := fun s Q => (∃ d, s.δ[i]? = some (some d)) ∧ r s fun ds s1 => match s1.δ[i]? with
  | some (some d) => Q (d :: ds) s1
  | _ => False
theorem simO'_own {i n : Nat} {ta : TA} {t : DA} (hi : i ∈ C.M) (h : SimA C n ta t) : SimO' C (n + 1) (tCons (tVar i) ta) (dOwn i t) := by
  refine ⟨fun H0 S0 Hs σ H s Q Q' r ⟨⟨d, e⟩, q⟩ k => ?_⟩
  obtain ⟨b, o, e1, _⟩ := r.mt i d e hi
  refine ⟨.ref b, e1, h.run H0 S0 Hs σ H s _ _ r q fun Hs1 H1 vs ds s1 g1 r1 v1 l1 q1 => ?_⟩
  split at q1
  · rename_i d1 ed
    obtain ⟨b', o', f1, f2, f3, f4, _⟩ := r1.mt i d1 ed hi
    rw [e1] at f1
    cases f1
    have sm : Same Hs1 (upd Hs1 b o') := same_upd f3
    refine k Hs1 H1 _ _ s1 g1 r1 (by rw [List.length_cons, l1]) ⟨upd Hs1 b o', sm, fun c u ec => ?_, fun c u ec => ?_, .cons ((f4.mono sm).rp upd_same) (RpAll.mono sm v1)⟩ q1
    · by_cases hc : c = b
      · subst hc; rw [upd_same] at ec; cases ec; exact f2
      · rw [upd_ne hc] at ec; exact r1.sub _ _ ec
    · by_cases hc : c = b
      · exact .inr ⟨i, hi, by rw [hc]; exact e1⟩
      · rw [upd_ne hc] at ec; exact .inl ec
  · exact q1.elim
def dCallO (F : DF) (a : DA) : DT := fun s Q => a s fun ds s1 => F ds fun d => isFl d = true ∧ Q d s1
theorem Rp.flat {K : PySem.W.Frag} {H H' : Hp} {v : V} {d : D} (h : Rp K H v d) (f : isFl d = true) : Rp K H' v d := by
  cases h with
  | non => exact .non
  | bl b => exact .bl b
  | int i => exact .int i
  | str z => exact .str z
  | lst _ _ => cases f
  | tup _ _ => cases f
  | dic _ _ => cases f
theorem sim_callO {n : Nat} {F : DF} {ta : TA} {a : DA} (h : SimO' C n ta a) : Sim C .F (tCall (spN C.K n .E F) [] E0 ta) (dCallO F a) := by
  refine ⟨fun H0 S0 Hs σ H s Q Q' r q k => h.run H0 S0 Hs σ H s _ _ r q fun Hs1 H1 vs ds s1 g1 r1 l1 ⟨Ht, st, sb, ho, v1⟩ q1 => ?_⟩
  rw [List.append_nil]
  refine ⟨Ht, ds, _, sb, v1, l1, q1, fun d Hs' H' v q2 st' sb' hh nw rv => ?_⟩
  obtain ⟨r2, g2⟩ := r1.step (Hs' := Hs1) (H' := H') (Same.refl _) (r1.sub.trans hh) hh (fun b e1 e2 => absurd e1 e2)
  have rp : Rp C.K Hs' v d := rv
  have hc : isC d = false := by cases d <;> first | rfl | (cases q2.1)
  exact k Hs1 H' v d s1 (g1.trans g2) r2 (Val.mkP (rp.flat q2.1) hc) q2.2
end
/-! ### x = a new list; two or three statements on; then it is still -/
section
variable {C : Cf} {cat : Cat} {ta : TE} {da : DT} {t1 t2 t3 us : TS} {a1 a2 a3 b : DSt}
theorem simS_phase2 (i : Nat) (hi : i ∉ C.M) (hp : i ≠ C.ps) (hb' : i ∉ C.bs) (h1 : Sim C .F ta da) (hA : SimS { C with M := i :: C.M } cat (tSeq t1 t2) a1) (hB : SimS C cat us b) : SimS C cat (tSeq (tAsg ta (gName i)) (tSeq t1 (tSeq t2 us))) (dPhase i da a1 b) := by
  have h := simS_phase (ts := tSeq t1 t2) i hi hp hb' h1 hA hB
  exact h
theorem simS_phase3 (i : Nat) (hi : i ∉ C.M) (hp : i ≠ C.ps) (hb' : i ∉ C.bs) (h1 : Sim C .F ta da) (hA : SimS { C with M := i :: C.M } cat (tSeq t1 (tSeq t2 t3)) a1) (hB : SimS C cat us b) : SimS C cat (tSeq (tAsg ta (gName i)) (tSeq t1 (tSeq t2 (tSeq t3 us)))) (dPhase i da a1 b) := by
  have h := simS_phase (ts := tSeq t1 (tSeq t2 t3)) i hi hp hb' h1 hA hB
  exact h
end
/-! ### x = {k: v for ..}; x = [.. for k in d] under a lock -/
section
variable {X : Cx}
theorem ps_lkSet {st : Stmt} {t : TE} {i : Nat} (h : PS X st (tAsg t (gName i))) : PS X st (tAsg (tLk t) (gName i)) :=
  ⟨fun pins s σ H D I q => (show tAsg t (gName i) D σ H ∨ tLock (tAsg t (gName i)) D σ H from q).elim (fun q => h.run pins s σ H D I q) fun q => (ps_lock h).run pins s σ H D I q⟩
theorem ps_setDc {i : Nat} {y : Str} {py : Pos} {kx vx tg iter : Expr} {ifs : List Expr} {scope : Scope} {own : List (Str × Nat)} {pos spos : Pos} {wi : TI} {g : TG} {tt : TT} {tk tv : TE} (hc : X.calm = true) (hN : X.N.Nodup) (hy : X.N[i]? = some y) (hyl : X.env.scope.names.lookup y = some .local)
    (hsw : swapsWith (.DictComp kx vx [⟨tg, iter, ifs, 0⟩] scope pos) (some (.Name y py)) spos.line X.env = pure true) (hi : PI X tg iter wi) (ok : BlkOk X.N X.env.scope scope own)
    (hg : ∀ (s : Shared) (H : Hp) (C : Addr) (cl : List (Str × Addr)) (fp : List Addr), PG (X.blk s H scope (compEnvC scope cl C X.env) fp) tg g) (ht : ∀ (s : Shared) (H : Hp) (C : Addr) (cl : List (Str × Addr)) (fp : List Addr), PTs (X.blk s H scope (compEnvC scope cl C X.env) fp) ifs tt)
    (hk : ∀ (s : Shared) (H : Hp) (C : Addr) (cl : List (Str × Addr)) (fp : List Addr), PE (X.blk s H scope (compEnvC scope cl C X.env) fp) kx tk)
    (he : ∀ (s : Shared) (H : Hp) (C : Addr) (cl : List (Str × Addr)) (fp : List Addr), PE (X.blk s H scope (compEnvC scope cl C X.env) fp) vx tv) (hs : ∀ x, foldedSetIterable iter X.env x = pure x := by intro _; rfl) :
    PS X (.Assign [.Name y py] (.DictComp kx vx [⟨tg, iter, ifs, 0⟩] scope pos) spos) (tAsg (tDc wi g tt tk tv (own.map (·.2))) (gName i)) := by
  refine ⟨fun pins s σ H D I h => ?_⟩
  rw [exec_Assign_Name_used _ _ _ _ hsw]
  refine wpAny_bind (wpAny_standAt (wpAny_bind ?_))
  show wpAny _ X.A (do let _ ← comprehension (.DictComp kx vx [⟨tg, iter, ifs, 0⟩] scope pos) scope X.env (firstIterPos [⟨tg, iter, ifs, 0⟩] pos) newDict false (eval iter X.env) (some (assign (.Name y py) X.env))) _ _ s
  have h : tDc wi g tt tk tv (own.map (·.2)) σ H (fun x H1 => gName i x σ H1 D.nx) := h
  refine wpAny_bind (thn (dc_core (Qf := fun _ s' => SP X pins D .next s') hc hN I hi ok hg ht hk he hs h fun L C s' m H' I' q hn f => ?_) fun _ s' hq => wpAny_pure (wpAny_pure hq))
  show wpAny _ _ (assign (.Name y py) X.env (.ref L)) _ _ _
  refine wpAny_assign_Name (store_ok2 (v := V.ref L) I' hN hy (.inl hyl) rfl (fun s2 I2 ⟨a, sb, ha⟩ => ?_) (.inr hyl))
  obtain ⟨f0, f1, f2, f3, f4, f5⟩ := f
  have haC : C ≠ a := by
    rcases ha with z | z
    · rw [z]; exact f1
    · exact fun e => f4 y a z e.symm
  refine ⟨m, hn.sameBut sb haC, fun h3 sb3 => ?_⟩
  exact ⟨_, H', I2.turned (t' := s2.toks) (fun b o hb e => (sb3.2 b hb).trans e) f0 f1 f3 f4 f5, q⟩
theorem sw_trueD {kx vx : Expr} {gs : List Comprehension} {scope : Scope} {pos py : Pos} {y : Str} {l : Nat} {env : Env} (hk : env.scope.kind = .function) (hy : env.scope.names.lookup y = some .local) (hl : (py.line == pos.line) = true)
    (ha : (scope.names.any fun (n, k) => n == y && (k == .local || k == .cell)) = false) : swapsWith (.DictComp kx vx gs scope pos) (some (.Name y py)) l env = pure true := by
  have ky : env.kindOf y = some .local := hy
  have hb : env.blockKind = .function := by unfold Env.blockKind; rw [hk]; rfl
  unfold swapsWith
  simp only [hb, ky, ha, Expr.pos, hl]
  rfl
end
theorem dcD_ind {g : D → S → (S → Prop) → Prop} {c : DB} {kx e : DT} {vs : List Nat} {Q : List (D × D) → S → Prop} {items : List D} (Inv : Nat → List (D × D) → S → Prop) {s : S} (h0 : Inv 0 [] s)
    (step : ∀ i d acc s (N : List (D × D) → S → Prop), items[i]? = some d → Inv i acc s → (∀ acc' s', Inv (i + 1) acc' s' → N acc' s') → g d s fun s1 => c s1 fun k s2 => if k = true then kx s2 fun y s3 => e s3 fun z s4 => isKey y = true ∧ N (putD acc y z) (wipeS s4 vs) else N acc (wipeS s2 vs))
    (fin : ∀ acc s, Inv items.length acc s → Q acc s) : dcD g c kx e vs Q items [] s := by
  have : ∀ (n i : Nat) (acc : List (D × D)) (s : S), i + n = items.length → Inv i acc s → dcD g c kx e vs Q (items.drop i) acc s := by
    intro n
    induction n with
    | zero =>
      intro i acc s e h
      rw [List.drop_of_length_le (by omega)]
      exact fin acc s (by rw [← e, Nat.add_zero]; exact h)
    | succ n ih =>
      intro i acc s e h
      have hi : i < items.length := by omega
      rw [List.drop_eq_getElem_cons hi]
      exact step i _ acc s (fun acc s => dcD g c kx _ vs Q (items.drop (i + 1)) acc s) (List.getElem?_eq_getElem hi) h fun acc' s' h' => ih (i + 1) acc' s' (by omega) h'
  exact this items.length 0 [] s (by omega) h0
theorem itemsD_get {kvs : List (D × D)} {i : Nat} {d : D} (h : (itemsD kvs)[i]? = some d) : ∃ kv, kvs[i]? = some kv ∧ d = .tuple [kv.1, kv.2] := by
  unfold itemsD at h
  rw [List.getElem?_map] at h
  cases e : kvs[i]? with
  | none => rw [e] at h; cases h
  | some kv => rw [e] at h; exact ⟨kv, rfl, (Option.some.inj h).symm⟩
theorem nd_take {kvs : List (D × D)} {i : Nat} {kv kv' : D × D} (nd : (kvs.map Prod.fst).Nodup) (h : kvs[i]? = some kv) (m : kv' ∈ kvs.take i) : kv'.1 ≠ kv.1 := fun z => by
  obtain ⟨n, hn⟩ := List.getElem?_of_mem m
  rw [List.getElem?_take] at hn
  split at hn
  · rename_i hni
    have h1 : (kvs.map Prod.fst)[n]? = some kv.1 := by rw [List.getElem?_map, hn, ← z]; rfl
    have h2 : (kvs.map Prod.fst)[i]? = some kv.1 := by rw [List.getElem?_map, h]; rfl
    have hil : n < (kvs.map Prod.fst).length := (List.getElem?_eq_some_iff.mp h1).1
    have := (List.getElem?_inj hil nd).mp (h1.trans h2.symm)
    omega
  · cases hn

/-! ### more: own lists handed to readers, d.pop(k), tuple * int -/
section
variable {C : Cf} {ca cb : Cat} {te ta tb : TE} {t da db : DT}
theorem simO'_cons {n : Nat} {tx : TE} {dx : DT} {tr : TA} {a : DA} (h : Sim C ca tx dx) (hr : SimO' C n tr a) : SimO' C (n + 1) (tCons tx tr) (dCons dx a) := by
  refine ⟨fun H0 S0 Hs σ H s Q Q' r q k => h.toE.run H0 S0 Hs σ H s _ _ r q fun Hs1 H1 v d s1 g1 r1 v1 q1 => ?_⟩
  refine hr.run H0 S0 Hs1 σ H1 s1 _ _ r1 q1 fun Hs2 H2 vs ds s2 g2 r2 l2 ⟨Ht, st, sb, ho, va⟩ q2 => ?_
  refine k Hs2 H2 _ _ s2 (g1.trans g2) r2 (by rw [List.length_cons, l2]) ⟨Ht, st, sb, ho, .cons (Rp.mono st (Rp.mono g2.st v1)) va⟩ q2
/-! d.pop(k), of its own -/
def dropD (kvs : List (D × D)) (k : D) : List (D × D) := kvs.filter fun kv => !keyIs kv.1 k
theorem RpKV.drop {K : PySem.W.Frag} {H : Hp} {k : Key} : ∀ {kvs : List (Key × V)} {ds : List (D × D)}, RpKV K H kvs ds → RpKV K H (dropK kvs k) (dropD ds (keyD k))
  | _, _, .nil => .nil
  | _, _, .cons (k := k') a b => by
    have e : keyIs (keyD k') (keyD k) = decide (k' = k) := keyIs_key _ _
    have ih := RpKV.drop (k := k) b
    unfold dropK dropD at ih ⊢
    by_cases h : k' = k
    · rw [List.filter_cons_of_neg (by simp [h]), List.filter_cons_of_neg (by show ¬ (!keyIs (keyD k') (keyD k)) = true; rw [e, decide_eq_true h]; decide)]
      exact ih
    · rw [List.filter_cons_of_pos (by simp [h]), List.filter_cons_of_pos (by show (!keyIs (keyD k') (keyD k)) = true; rw [e, decide_eq_false h]; rfl)]
      exact .cons a ih
def dDPop (i : Nat) (db : DT) : DT := fun s Q => (∃ z, s.δ[i]? = some (some (.dict z))) ∧ db s fun k s1 => isKey k = true ∧ match s1.δ[i]? with
  | some (some (.dict kvs)) => ∃ v, findD kvs k = some v ∧ Q v { s1 with δ := s1.δ.set i (some (.dict (dropD kvs k))) }
  | _ => False
theorem sim_dpop (i : Nat) (hi : i ∈ C.M) (hb : Sim C cb tb db) : Sim C .E (tDPop1 (tVar i) tb) (dDPop i db) := by
  refine ⟨fun H0 S0 Hs σ H s Q Q' r q k => ?_⟩
  obtain ⟨⟨z, ez⟩, q⟩ := q
  obtain ⟨b, o, e1, e2, e3, e4, _⟩ := r.mt i _ ez hi
  cases e4 with
  | dic e4 =>
  refine ⟨_, e1, b, rfl, .inl ⟨_, .inl e2⟩, hb.toE.run H0 S0 Hs σ H s _ _ r q fun Hs2 H2 y dy s2 g2 r2 v2 q2 => ?_⟩
  obtain ⟨hk, q2⟩ := q2
  obtain ⟨kx, rfl⟩ := isKey_of hk
  have v2' : Rp C.K Hs2 y (keyD kx) := v2
  obtain rfl := v2'.key
  split at q2
  · rename_i kvs ex
    obtain ⟨b', o', f1, f2, f3, f4, _⟩ := r2.mt i _ ex hi
    rw [e1] at f1
    cases f1
    cases f4 with
    | dic f4 =>
      rename_i xs
      obtain ⟨dv, fv, q2⟩ := q2
      rcases findD_rp (x := kx) f4 with ⟨f5, f6⟩ | ⟨d, v, f5, f6, f7⟩
      · rw [f5] at fv; cases fv
      · rw [f5] at fv
        cases fv
        obtain ⟨r3, g3⟩ := r2.upd hi ex e1 (.dic (f4.drop (k := kx)))
        exact ⟨xs, kx, v, f2, rfl, f6, k Hs2 _ v _ _ (g2.trans g3) r3 f7 q2⟩
  · exact q2.elim
end
/-! tuple * int -/
def rRepTG (K : PySem.W.Frag) : R2 := fun x y H Q => rRep01 K x y H Q ∨ rRepT K x y H Q
theorem repTG {X : Cx} (K : PySem.W.Frag) (eK : X.K = K) : OpR X (binaryOp .Mult) (rRepTG K) := by
  subst eK
  exact OpR.or (op_rep01 X.K rfl) op_repT
def repTD : DO := fun x y Q => match x, y with
  | .tuple a, .int k => a ≠ [] ∧ 0 ≤ k ∧ k ≤ 1000 ∧ a.length ≤ 1000 ∧ Q (.tuple (List.replicate k.toNat a).flatten)
  | _, _ => False
theorem opA_repTG {C : Cf} : OpA C (rRepTG C.K) repTD := by
  intro H0 S0 Hs σ H s x y dx dy Q Q' r hx hy q k
  cases dx <;> cases dy <;> first | exact q.elim | skip
  case tuple.int ds n =>
    obtain ⟨hne, h0, h1, hl, q⟩ := q
    by_cases hn : n ≤ 1
    · refine .inl (opA_rep01 H0 S0 Hs σ H s x y (.tuple ds) (.int n) Q Q' r hx hy ?_ k)
      by_cases e : n = 1
      · subst e
        refine .inl ⟨rfl, ?_⟩
        have : (List.replicate (1 : Int).toNat ds).flatten = ds := by simp
        rw [this] at q
        exact q
      · obtain rfl : n = 0 := by omega
        exact .inr ⟨rfl, q⟩
    · cases hx with
      | @tup a xs _ h1 h2 =>
      cases hy
      have hxs : xs ≠ [] := fun e => by subst e; cases h2; exact hne rfl
      refine .inr ⟨a, n, xs, rfl, rfl, Same.sqT r.sub h1, hxs, by omega, by omega, by rw [h2.len]; exact hl, fun p np => ?_⟩
      obtain ⟨r', g'⟩ := r.newTup (o := .tup (List.replicate n.toNat xs).flatten) np
      exact k _ _ _ (.tuple _) g' r' (Val.mkP (Rp.tup (SqT.of upd_same) (RpAll.mono g'.st (h2.rep _))) rfl) q

def topS (i : Nat) : Stmt := PySem.Challenge.pw_leapwork_k05_which_notions_stand_firm.main.body.getD i (.Pass ⟨0, 0, 0, 0⟩)
abbrev s_sort_of : Stmt := topS 2
theorem sc_sort_of : FnScope ["word"] ["word"] (defScope s_sort_of) := ⟨rfl, rfl, rfl, by decide +kernel, rfl, by decide +kernel, by decide +kernel⟩
abbrev s_kinds_of : Stmt := topS 3
theorem sc_kinds_of : FnScope ["word"] ["word"] (defScope s_kinds_of) := ⟨rfl, rfl, rfl, by decide +kernel, rfl, by decide +kernel, by decide +kernel⟩
abbrev s_parts_of : Stmt := topS 4
theorem sc_parts_of : FnScope ["thing", "kind", "part"] ["thing"] (defScope s_parts_of) := ⟨rfl, rfl, rfl, by decide +kernel, rfl, by decide +kernel, by decide +kernel⟩
abbrev s_gather_notions : Stmt := topS 5
theorem sc_gather_notions : FnScope ["thing", "found", "part"] ["thing", "found"] (defScope s_gather_notions) := ⟨rfl, rfl, rfl, by decide +kernel, rfl, by decide +kernel, by decide +kernel⟩
abbrev s_notion_terms : Stmt := topS 6
theorem sc_notion_terms : FnScope ["thing", "found"] ["thing"] (defScope s_notion_terms) := ⟨rfl, rfl, rfl, by decide +kernel, rfl, by decide +kernel, by decide +kernel⟩
abbrev s_kind_of : Stmt := topS 9
theorem sc_kind_of : FnScope ["place"] ["place"] (defScope s_kind_of) := ⟨rfl, rfl, rfl, by decide +kernel, rfl, by decide +kernel, by decide +kernel⟩
abbrev s_takes : Stmt := topS 10
theorem sc_takes : FnScope ["notion", "places", "letter", "kind", "place"] ["notion", "places"] (defScope s_takes) := ⟨rfl, rfl, rfl, by decide +kernel, rfl, by decide +kernel, by decide +kernel⟩
abbrev s_own_term : Stmt := topS 11
theorem sc_own_term : FnScope ["notion", "term"] ["notion"] (defScope s_own_term) := ⟨rfl, rfl, rfl, by decide +kernel, rfl, by decide +kernel, by decide +kernel⟩
abbrev s_stands : Stmt := topS 12
theorem sc_stands : FnScope ["notion", "notions", "found", "own", "term"] ["notion", "notions", "found"] (defScope s_stands) := ⟨rfl, rfl, rfl, by decide +kernel, rfl, by decide +kernel, by decide +kernel⟩
abbrev s_firm : Stmt := topS 13
theorem sc_firm : FnScope ["notions", "found", "floor", "name"] ["notions"] (defScope s_firm) := ⟨rfl, rfl, rfl, by decide +kernel, rfl, by decide +kernel, by decide +kernel⟩
abbrev s__law_spread : Stmt := topS 15
theorem sc__law_spread : FnScope ["_law_cell", "_law_at", "_law_primes", "_law_one", "_law_two", "_law_three"] ["_law_cell", "_law_at"] (defScope s__law_spread) := ⟨rfl, rfl, rfl, by decide +kernel, rfl, by decide +kernel, by decide +kernel⟩
abbrev s__law_open : Stmt := topS 16
theorem sc__law_open : FnScope ["_law_script", "_law_cells", "_law_k", "_law_cell"] ["_law_script"] (defScope s__law_open) := ⟨rfl, rfl, rfl, by decide +kernel, rfl, by decide +kernel, by decide +kernel⟩
abbrev s__law_take : Stmt := topS 17
theorem sc__law_take : FnScope ["_law_pen", "_law_many", "_law_at", "_law_cell", "_law_found"] ["_law_pen", "_law_many"] (defScope s__law_take) := ⟨rfl, rfl, rfl, by decide +kernel, rfl, by decide +kernel, by decide +kernel⟩
abbrev s__law_same : Stmt := topS 18
theorem sc__law_same : FnScope ["_law_found", "_law_due_here", "_law_one", "_law_other"] ["_law_found", "_law_due_here"] (defScope s__law_same) := ⟨rfl, rfl, rfl, by decide +kernel, rfl, by decide +kernel, by decide +kernel⟩
abbrev s__law_names : Stmt := topS 19
theorem sc__law_names : FnScope ["_law_pen", "_law_many", "_law_letters", "_law_stem", "_law_k", "_law_at", "_law_first"] ["_law_pen", "_law_many"] (defScope s__law_names) := ⟨rfl, rfl, rfl, by decide +kernel, rfl, by decide +kernel, by decide +kernel⟩
abbrev s__law_free_names : Stmt := topS 20
theorem sc__law_free_names : FnScope ["_law_pen", "_law_many", "_law_name"] ["_law_pen", "_law_many"] (defScope s__law_free_names) := ⟨rfl, rfl, rfl, by decide +kernel, rfl, by decide +kernel, by decide +kernel⟩
abbrev s__law_terms_in : Stmt := topS 21
theorem sc__law_terms_in : FnScope ["_law_thing", "_law_found", "_law_kinds", "_law_place", "_law_part"] ["_law_thing"] (defScope s__law_terms_in) := ⟨rfl, rfl, rfl, by decide +kernel, rfl, by decide +kernel, by decide +kernel⟩
abbrev s__law_due : Stmt := topS 22
theorem sc__law_due : FnScope ["_law_notions", "_law_good", "_law_size", "_law_kept_ones", "_law_name", "_law_notion", "_law_right", "_law_other", "_law_kinds", "_law_letter", "_law_kind"] ["_law_notions"] (defScope s__law_due) := ⟨rfl, rfl, rfl, by decide +kernel, rfl, by decide +kernel, by decide +kernel⟩
abbrev s__law_use : Stmt := topS 23
theorem sc__law_use : FnScope ["_law_pen", "_law_names_here", "_law_kinds_by", "_law_name", "_law_kinds", "_law_way", "_law_places", "_law_kind"] ["_law_pen", "_law_names_here", "_law_kinds_by"] (defScope s__law_use) := ⟨rfl, rfl, rfl, by decide +kernel, rfl, by decide +kernel, by decide +kernel⟩
abbrev s__law_made : Stmt := topS 24
theorem sc__law_made : FnScope ["_law_pen", "_law_name", "_law_floor_here", "_law_names_here", "_law_kinds_by", "_law_letters", "_law_k", "_law_kind", "_law_parts", "_law_part", "_law_turn", "_law_other", "_law_last", "_law_own", "_law_letter"] ["_law_pen", "_law_name", "_law_floor_here", "_law_names_here", "_law_kinds_by"] (defScope s__law_made) := ⟨rfl, rfl, rfl, by decide +kernel, rfl, by decide +kernel, by decide +kernel⟩
abbrev s_law : Stmt := topS 25
theorem sc_law : FnScope ["_law_script", "_law_pen", "_law_turn", "_law_names_here", "_law_kinds_by", "_law_name", "_law_k", "_law_notions", "_law_wide", "_law_floor_here", "_law_some", "_law_seen", "_law_again", "_law_found", "_law_less"] ["_law_script"] (defScope s_law) := ⟨rfl, rfl, rfl, by decide +kernel, rfl, by decide +kernel, by decide +kernel⟩
def tab_FORMS : List (Str × D) := [("num", .tuple [.str "term", .str "n"]), ("name", .tuple [.str "term", .str "x"]), ("add", .tuple [.str "term", .str "tt"]), ("mul", .tuple [.str "term", .str "nt"]), ("read", .tuple [.str "term", .str "rt"]), ("size", .tuple [.str "term", .str "r"]), ("div", .tuple [.str "term", .str "tk"]), ("mod", .tuple [.str "term", .str "tk"]), ("notion", .tuple [.str "term", .str "ab"]), ("row", .tuple [.str "row", .str "y"]), ("with", .tuple [.str "row", .str "rtt"]), ("room", .tuple [.str "row", .str "t"]), ("le", .tuple [.str "plain", .str "tt"]), ("eq", .tuple [.str "plain", .str "tt"]), ("not", .tuple [.str "plain", .str "p"]), ("and", .tuple [.str "plain", .str "pp"]), ("or", .tuple [.str "plain", .str "pp"]), ("all", .tuple [.str "all", .str "ttp"])]
structure Tx (w : World) (K : PySem.W.Frag) (mg : Str → Option Value) : Prop where
  d_sort_of : Df K mg "sort_of" s_sort_of ["word"]
  d_kinds_of : Df K mg "kinds_of" s_kinds_of ["word"]
  d_parts_of : Df K mg "parts_of" s_parts_of ["thing"]
  d_gather_notions : Df K mg "gather_notions" s_gather_notions ["thing", "found"]
  d_notion_terms : Df K mg "notion_terms" s_notion_terms ["thing"]
  d_kind_of : Df K mg "kind_of" s_kind_of ["place"]
  d_takes : Df K mg "takes" s_takes ["notion", "places"]
  d_own_term : Df K mg "own_term" s_own_term ["notion"]
  d_stands : Df K mg "stands" s_stands ["notion", "notions", "found"]
  d_firm : Df K mg "firm" s_firm ["notions"]
  d__law_spread : Df K mg "_law_spread" s__law_spread ["_law_cell", "_law_at"]
  d__law_open : Df K mg "_law_open" s__law_open ["_law_script"]
  d__law_take : Df K mg "_law_take" s__law_take ["_law_pen", "_law_many"]
  d__law_same : Df K mg "_law_same" s__law_same ["_law_found", "_law_due_here"]
  d__law_names : Df K mg "_law_names" s__law_names ["_law_pen", "_law_many"]
  d__law_free_names : Df K mg "_law_free_names" s__law_free_names ["_law_pen", "_law_many"]
  d__law_terms_in : Df K mg "_law_terms_in" s__law_terms_in ["_law_thing"]
  d__law_due : Df K mg "_law_due" s__law_due ["_law_notions"]
  d__law_use : Df K mg "_law_use" s__law_use ["_law_pen", "_law_names_here", "_law_kinds_by"]
  d__law_made : Df K mg "_law_made" s__law_made ["_law_pen", "_law_name", "_law_floor_here", "_law_names_here", "_law_kinds_by"]
  d_law : Df K mg "law" s_law ["_law_script"]
  z_bool : mg "bool" = none
  z_dict : mg "dict" = none
  z_enumerate : mg "enumerate" = none
  z_int : mg "int" = none
  z_isinstance : mg "isinstance" = none
  z_len : mg "len" = none
  z_list : mg "list" = none
  z_min : mg "min" = none
  z_range : mg "range" = none
  z_repr : mg "repr" = none
  z_sorted : mg "sorted" = none
  z_str : mg "str" = none
  z_tuple : mg "tuple" = none
  z_zip : mg "zip" = none
  t_FORMS : Gd w K mg "FORMS" tab_FORMS
  g_FLOORS : Gv mg "FLOORS" (.int 10)
/-! ### the draws: _law_spread, _law_open, _law_take -/
section
variable {P : Program} {w : World} {K : PySem.W.Frag} {mg : Str → Option Value} {base : Heap}
theorem pw_lt {x : Int} {n : Nat} (h0 : 0 ≤ x) (h : x < 2 ^ 64) : x.natAbs < 2 ^ 64 := by omega
theorem ok__law_spread (T : Tx w K mg) : Ok P w K mg base 1 "_law_spread" ["_law_cell", "_law_at"] spSpread := by
  refine Ok.mk T.d__law_spread sc__law_spread (fun vs H Q E h => ?_) (fun f cdv A outer s H vs Q E hr h => ?_)
  · obtain ⟨c, a, rfl, _⟩ := h
    rfl
  obtain ⟨c, a, rfl, h0, h1, q⟩ := h
  have hL : (2 : Int) ^ 100 ≤ (penLim : Int) := by have := pen100; omega
  generalize hLL : (penLim : Int) = L at h1 hL
  have ls : ∀ {x : Int}, 0 ≤ x → x ≤ 2 ^ 60 * L → x.natAbs < 2 ^ 9000 := fun a b => lim_small a (by rw [hLL]; exact b)
  refine ⟨_, (pss_cons (ps_if (pt_cmpR op_ge (pv 0) (pe_op op_powW (pe_int) (pe_int)) (nomark _))
 (pss_one (ps_ret (pv 0)))
 (pss_nil))
 (pss_cons (ps_set (i := 2) sc__law_spread.nd rfl (Or.inl rfl) (pe_lst (pa_cons (pe_int) (pa_cons (pe_int) (pa_cons (pe_int) (pa_cons (pe_int) (pa_cons (pe_int) (pa_cons (pe_int) (pa_cons (pe_int) (pa_cons (pe_int) (pa_nil)))))))))))
 (pss_cons (ps_set (i := 2) sc__law_spread.nd rfl (Or.inl rfl) (pe_op op_cat (pv 2) (pe_lst (pa_cons (pe_int) (pa_cons (pe_int) (pa_cons (pe_int) (pa_cons (pe_int) (pa_cons (pe_int) (pa_nil)))))))))
 (pss_cons (ps_set (i := 3) sc__law_spread.nd rfl (Or.inl rfl) (pe_op op_mod (pe_op op_powW (pe_op op_add (pe_op op_add (pe_op op_mul (pe_op op_mod (pv 0) (pe_int)) (pe_op op_add (pe_op op_mul (pe_int) (pv 1)) (pe_int))) (pe_op op_mul (pv 1) (pe_int))) (pe_int)) (pe_int)) (pe_ix (ixL K rfl) (pv 2) (pe_op op_mod (pv 1) (pe_int)) (fun _ _ => rfl))))
 (pss_cons (ps_set (i := 4) sc__law_spread.nd rfl (Or.inl rfl) (pe_op op_mod (pe_op op_powW (pe_op op_add (pe_op op_add (pe_op op_mul (pv 3) (pe_op op_add (pv 1) (pe_int))) (pe_op op_mod (pv 0) (pe_int))) (pe_int)) (pe_int)) (pe_ix (ixL K rfl) (pv 2) (pe_op op_mod (pe_op op_add (pv 1) (pe_int)) (pe_int)) (fun _ _ => rfl))))
 (pss_cons (ps_set (i := 5) sc__law_spread.nd rfl (Or.inl rfl) (pe_op op_mod (pe_op op_powW (pe_op op_add (pe_op op_add (pv 4) (pe_op op_mod (pv 3) (pe_int))) (pv 1)) (pe_int)) (pe_ix (ixL K rfl) (pv 2) (pe_op op_mod (pe_op op_add (pv 1) (pe_int)) (pe_int)) (fun _ _ => rfl))))
 (pss_one (ps_ret (pe_op op_add (pe_op op_mul (pe_op op_add (pe_op op_mul (pv 3) (pe_int)) (pv 4)) (pe_int)) (pv 5)))))))))), ?_⟩
  refine ⟨_, rfl, _, _, rfl, rfl, ⟨by decide, by decide, ls (by decide) (by omega)⟩, _, _, rfl, rfl, _, rfl, ite2 (fun e => ?_) (fun e => ?_)⟩
  · have e := of_decide_eq_true e
    refine ⟨_, rfl, ?_⟩
    refine q c H (Int.le_trans (by decide) e) (Same.refl H)
  · refine ⟨by show 8 ≤ sizeLine; decide, fun p1 n1 => ?_⟩
    have s1 := same_upd (o := .lst [V.int 2147483629, .int 2147483587, .int 2147483579, .int 2147483563, .int 2147483549, .int 2147483543, .int 2147483497, .int 2147483489]) n1
    refine ⟨_, rfl, ?_⟩
    refine ⟨by show 5 ≤ sizeLine; decide, fun p2 n2 => ?_⟩
    have s2 := same_upd (o := .lst [V.int 2147483477, .int 2147483423, .int 2147483399, .int 2147483353, .int 2147483323]) n2
    have n12 : p1 ≠ p2 := fun z => by rw [← z, upd_same] at n2; cases n2
    refine ⟨p1, p2, _, _, rfl, rfl, by rw [upd_ne n12]; exact upd_same, upd_same, by show 8 + 5 ≤ sizeLine; decide, fun p3 n3 => ?_⟩
    have s3 := same_upd (o := .lst ([V.int 2147483629, .int 2147483587, .int 2147483579, .int 2147483563, .int 2147483549, .int 2147483543, .int 2147483497, .int 2147483489] ++ [V.int 2147483477, .int 2147483423, .int 2147483399, .int 2147483353, .int 2147483323])) n3
    have hL : SqL K (upd (upd (upd H p1 (.lst [V.int 2147483629, .int 2147483587, .int 2147483579, .int 2147483563, .int 2147483549, .int 2147483543, .int 2147483497, .int 2147483489])) p2 (.lst [V.int 2147483477, .int 2147483423, .int 2147483399, .int 2147483353, .int 2147483323])) p3 (.lst ([V.int 2147483629, .int 2147483587, .int 2147483579, .int 2147483563, .int 2147483549, .int 2147483543, .int 2147483497, .int 2147483489] ++ [V.int 2147483477, .int 2147483423, .int 2147483399, .int 2147483353, .int 2147483323]))) p3 ([2147483629, 2147483587, 2147483579, 2147483563, 2147483549, 2147483543, 2147483497, 2147483489, 2147483477, 2147483423, 2147483399, 2147483353, 2147483323].map V.int) := SqL.of upd_same
    have sH := s1.trans (s2.trans s3)
    generalize (upd (upd (upd H p1 (.lst [V.int 2147483629, .int 2147483587, .int 2147483579, .int 2147483563, .int 2147483549, .int 2147483543, .int 2147483497, .int 2147483489])) p2 (.lst [V.int 2147483477, .int 2147483423, .int 2147483399, .int 2147483353, .int 2147483323])) p3 (.lst ([V.int 2147483629, .int 2147483587, .int 2147483579, .int 2147483563, .int 2147483549, .int 2147483543, .int 2147483497, .int 2147483489] ++ [V.int 2147483477, .int 2147483423, .int 2147483399, .int 2147483353, .int 2147483323]))) = H3 at hL sH ⊢
    have prime : ∀ i : Int, 0 ≤ i → ∃ pr : Int, atI ([2147483629, 2147483587, 2147483579, 2147483563, 2147483549, 2147483543, 2147483497, 2147483489, 2147483477, 2147483423, 2147483399, 2147483353, 2147483323].map V.int) (i % 13) = some (.int pr) ∧ 0 < pr ∧ pr < 2147483647 := fun i hi => by
      have h1 : 0 ≤ i % 13 := Int.emod_nonneg _ (by decide)
      have h2 : i % 13 < 13 := Int.emod_lt_of_pos _ (by decide)
      generalize i % 13 = k at h1 h2
      have hk : k = 0 ∨ k = 1 ∨ k = 2 ∨ k = 3 ∨ k = 4 ∨ k = 5 ∨ k = 6 ∨ k = 7 ∨ k = 8 ∨ k = 9 ∨ k = 10 ∨ k = 11 ∨ k = 12 := by omega
      rcases hk with rfl | rfl | rfl | rfl | rfl | rfl | rfl | rfl | rfl | rfl | rfl | rfl | rfl <;> exact ⟨_, rfl, by decide, by decide⟩
    obtain ⟨q1, a1, b1, c1⟩ := prime a h0
    obtain ⟨q2, a2, b2, c2⟩ := prime (a + 5) (by omega)
    obtain ⟨q3, a3, b3, c3⟩ := prime (a + 7) (by omega)
    have u0 : 0 ≤ c % 1000000007 := Int.emod_nonneg _ (by decide)
    have u1 : c % 1000000007 < 1000000007 := Int.emod_lt_of_pos _ (by decide)
    have v0 : 0 ≤ c % 65537 := Int.emod_nonneg _ (by decide)
    have v1 : c % 65537 < 65537 := Int.emod_lt_of_pos _ (by decide)
    have e1 : 0 ≤ c % 1000000007 * (2 * a + 69069) := Int.mul_nonneg u0 (by omega)
    have e2 : c % 1000000007 * (2 * a + 69069) ≤ 1000000007 * (2 * L + 69069) := Int.mul_le_mul (by omega) (by omega) (by omega) (by omega)
    -- one
    refine ⟨_, rfl, _, _, rfl, rfl, (by show (0 : Int) < _; decide), _, rfl, _, _, rfl, rfl, .inl ⟨by decide, by decide⟩, _, _, rfl, rfl, _, _, rfl, rfl, .inl ⟨by omega, by omega⟩, _, rfl, _, _, rfl, rfl, .inr ⟨by decide, by decide⟩, _, _, rfl, rfl, _, _, rfl, rfl, _, _, rfl, rfl, ⟨by decide, by decide, ls (by omega) (by omega)⟩,
      _, rfl, _, rfl, _, _, rfl, rfl, (by show (0 : Int) < _; decide), _, _, _, _, rfl, rfl, hL, a1, _, _, rfl, rfl, b1, ?_⟩
    have w0 : 0 ≤ (c % 1000000007 * (2 * a + 69069) + a * 40503 + 977) ^ 3 % q1 := Int.emod_nonneg _ (by omega)
    have w1 : (c % 1000000007 * (2 * a + 69069) + a * 40503 + 977) ^ 3 % q1 < q1 := Int.emod_lt_of_pos _ b1
    dsimp only [Int.reduceToNat]
    generalize (c % 1000000007 * (2 * a + 69069) + a * 40503 + 977) ^ 3 % q1 = o1 at w0 w1 ⊢
    have e3 : 0 ≤ o1 * (a + 3) := Int.mul_nonneg w0 (by omega)
    have e4 : o1 * (a + 3) ≤ 2147483647 * (L + 3) := Int.mul_le_mul (by omega) (by omega) (by omega) (by omega)
    -- two
    refine ⟨_, rfl, _, rfl, _, _, rfl, rfl, _, _, rfl, rfl, .inl ⟨by omega, by omega⟩, _, rfl, _, _, rfl, rfl, (by show (0 : Int) < _; decide), _, _, rfl, rfl, _, _, rfl, rfl, _, _, rfl, rfl, ⟨by decide, by decide, ls (by omega) (by omega)⟩,
      _, rfl, _, rfl, _, _, rfl, rfl, _, _, rfl, rfl, (by show (0 : Int) < _; decide), _, _, _, _, rfl, rfl, hL, a2, _, _, rfl, rfl, b2, ?_⟩
    have w2 : 0 ≤ (o1 * (a + 3) + c % 65537 + 5) ^ 5 % q2 := Int.emod_nonneg _ (by omega)
    have w3 : (o1 * (a + 3) + c % 65537 + 5) ^ 5 % q2 < q2 := Int.emod_lt_of_pos _ b2
    dsimp only [Int.reduceToNat]
    generalize (o1 * (a + 3) + c % 65537 + 5) ^ 5 % q2 = o2 at w2 w3 ⊢
    have x0 : 0 ≤ o1 % 1009 := Int.emod_nonneg _ (by decide)
    have x1 : o1 % 1009 < 1009 := Int.emod_lt_of_pos _ (by decide)
    -- three
    refine ⟨_, rfl, _, rfl, _, _, rfl, rfl, (by show (0 : Int) < _; decide), _, _, rfl, rfl, _, rfl, _, _, rfl, rfl, _, _, rfl, rfl, ⟨by decide, by decide, ls (by omega) (by omega)⟩,
      _, rfl, _, rfl, _, _, rfl, rfl, _, _, rfl, rfl, (by show (0 : Int) < _; decide), _, _, _, _, rfl, rfl, hL, a3, _, _, rfl, rfl, b3, ?_⟩
    have w4 : 0 ≤ (o2 + o1 % 1009 + a) ^ 3 % q3 := Int.emod_nonneg _ (by omega)
    dsimp only [Int.reduceToNat]
    generalize (o2 + o1 % 1009 + a) ^ 3 % q3 = o3 at w4 ⊢
    -- the answer
    refine ⟨_, rfl, _, _, rfl, rfl, .inr ⟨by decide, by decide⟩, _, rfl, _, _, rfl, rfl, _, _, rfl, rfl, .inr ⟨by decide, by decide⟩, _, rfl, _, _, rfl, rfl, ?_⟩
    exact q _ H3 (by omega) sH
theorem ok__law_open (T : Tx w K mg) : Ok P w K mg base 1 "_law_open" ["_law_script"] (spOpen K) := by
  refine Ok.mk T.d__law_open sc__law_open (fun vs H Q E h => ?_) (fun f cdv A outer s H vs Q E hr h => ?_)
  · obtain ⟨a, ns, rfl, _⟩ := h
    rfl
  obtain ⟨a, ns, rfl, hS, hl, q⟩ := h
  refine ⟨_, (pss_cons (ps_set (i := 1) sc__law_open.nd rfl (Or.inl rfl) (pe_callTy (listQ K rfl) (by rfl) T.z_list (by decide +kernel) (pa_cons (pe_slice (slL K rfl) (pv 0) po_none (po_some (pe_int))) (pa_nil))))
 (pss_cons (ps_for PassesOwn.never rfl (piE K rfl (by rfl) T.z_enumerate (pa_cons (pe_slice (slL K rfl) (pv 0) (po_some (pe_int)) (po_some (pe_int))) (pa_nil))) (pgT K rfl 2 rfl (pgs_cons (pg_nameL (i := 2) sc__law_open.nd rfl rfl) (pgs_cons (pg_nameL (i := 3) sc__law_open.nd rfl rfl) (pgs_nil))))
 (pss_one (ps_asg (pe_op op_add (pe_ix (ixL K rfl) (pv 1) (pe_op op_mod (pv 2) (pe_int)) (fun _ _ => rfl)) (pv 3)) (pg_sub (pv 1) (pe_op op_mod (pv 2) (pe_int)) set_list))))
 (pss_one (ps_ret (pe_lst (pa_cons (pv 1) (pa_cons (pe_int) (pa_cons (pe_int) (pa_nil))))))))), ?_⟩
  -- cells = list(script[:12])
  refine ⟨.ref a, rfl, _, rfl, a, ns.map V.int, rfl, hS, fun t1 n1 => ?_⟩
  have s1 := same_upd (o := .lst (cutV (ns.map V.int) none (some 12))) n1
  refine ⟨t1, _, rfl, .inl (SqL.of upd_same), fun c n2 => ?_⟩
  have s2 := same_upd (o := .lst (cutV (ns.map V.int) none (some 12))) n2
  have e12 : cutV (ns.map V.int) none (some 12) = (ns.take 12).map V.int := by
    rw [show (12 : Int) = ((12 : Nat) : Int) from rfl, cut_take, List.map_take]
  have sH := s1.trans s2
  have hc : upd (upd H t1 (.lst (cutV (ns.map V.int) none (some 12)))) c (.lst (cutV (ns.map V.int) none (some 12))) c = some (.lst ((ns.take 12).map V.int)) := by rw [upd_same, e12]
  have nc : H c = none := s1.free n2
  generalize upd (upd H t1 (.lst (cutV (ns.map V.int) none (some 12)))) c (.lst (cutV (ns.map V.int) none (some 12))) = H2 at sH hc ⊢
  -- the loop
  refine ⟨.ref a, rfl, _, rfl, _, rfl, a, ns.map V.int, rfl, sH.seq hS, fun t2 n3 => ?_⟩
  have e63 : cutV (ns.map V.int) (some 12) (some 63) = (ns.drop 12).map V.int := by
    rw [show (12 : Int) = ((12 : Nat) : Int) from rfl, show (63 : Int) = ((63 : Nat) : Int) from rfl, cut_drop _ _ _ (by decide), List.take_of_length_le (by rw [List.length_map]; exact hl), List.map_drop]
  rw [e63]
  have s3 := same_upd (o := .lst ((ns.drop 12).map V.int)) n3
  refine ⟨t2, (ns.drop 12).map V.int, rfl, SqL.of upd_same, for_it (walk_enum (K := K) (a := t2) (xs := (ns.drop 12).map V.int)) (fun i σ H3 => ∃ y2 y3 cs, σ = [some (.ref a), some (.ref c), y2, y3] ∧ But c H2 H3 ∧ H3 t2 = some (.lst ((ns.drop 12).map V.int)) ∧ H3 c = some (.lst (cs.map V.int)) ∧ (cs : List Int).length = (ns.take 12).length) ?_ ?_ ?_ ?_⟩
  · exact ⟨none, none, ns.take 12, rfl, But.of s3, upd_same, s3 _ _ hc, rfl⟩
  · rintro i σ H3 _ ⟨y2, y3, cs, _, _, h2, _⟩
    exact SqL.of h2
  · rintro i x σ H3 H4 hi ⟨y2, y3, cs, rfl, bt, h2, h3, hlc⟩ ⟨t, x1, x2, rfl, nt, rfl, z1, z2⟩
    cases z1
    have z2 : ((ns.drop 12).map V.int)[i]? = some x2 := z2
    have hx : ∃ m : Int, x2 = .int m := by
      rw [List.getElem?_map] at z2
      cases z3 : (ns.drop 12)[i]? with
      | none => rw [z3] at z2; cases z2
      | some m => rw [z3] at z2; exact ⟨m, (Option.some.inj z2).symm⟩
    obtain ⟨m, rfl⟩ := hx
    have hlen : cs.length = 12 := by
      rw [hlc, List.length_take]
      rw [List.length_map, List.length_drop] at hi
      omega
    have k0 : (i : Int) % 12 = ((i % 12 : Nat) : Int) := by omega
    have k1 : i % 12 < cs.length := by omega
    have ntc : c ≠ t := ne_of_none h3 nt
    have h3t : upd H3 t (.tup [V.int (i : Nat), .int m]) c = some (.lst (cs.map V.int)) := by rw [upd_ne ntc]; exact h3
    have g1 : (cs.map V.int)[i % 12]? = some (.int cs[i % 12]) := by rw [List.getElem?_map, List.getElem?_eq_getElem k1]; rfl
    refine ⟨t, _, rfl, SqT.of upd_same, rfl, _, _, rfl, _, _, rfl, rfl, ?_⟩
    refine ⟨_, rfl, _, rfl, _, _, rfl, rfl, (by show (0 : Int) < _; decide), c, _, _, _, rfl, rfl, SqL.of h3t, atI_of _ k0 g1, _, rfl, _, _, rfl, rfl, _, rfl, _, rfl, _, _, rfl, rfl, (by show (0 : Int) < _; decide), c, _, _, _, rfl, rfl, h3t, ixN_of _ k0 (by rw [List.length_map]; exact k1), ?_⟩
    have nct2 : t2 ≠ c := (ne_of_none hc n3).symm
    refine ⟨some (.int (i : Nat)), some (.int m), cs.set (i % 12) (cs[i % 12] + m), rfl, bt.trans ((But.new nt).trans But.upd), ?_, ?_, ?_⟩
    · rw [upd_ne nct2, upd_ne (ne_of_none h2 nt)]; exact h2
    · rw [upd_same, List.map_set]
    · rw [List.length_set]; exact hlc
  · rintro σ H3 ⟨y2, y3, cs, rfl, bt, h2, h3, hlc⟩
    refine ⟨_, rfl, by show 3 ≤ sizeLine; decide, fun p np => ?_⟩
    have ncp : c ≠ p := ne_of_none h3 np
    have npH : H p = none := (show Same H H2 from sH).free ((bt.free (Ne.symm ncp) np))
    refine q p c _ (fun b o e => ?_) npH nc ⟨⟨0, 0, upd_same, by decide, by decide, by decide⟩, ⟨cs, by rw [upd_ne ncp]; exact h3⟩, ncp⟩
    rw [upd_ne (ne_of_none e npH)]
    exact bt _ _ (ne_of_none e nc) (sH _ _ e)
theorem ok__law_take (T : Tx w K mg) (O__law_spread : Ok P w K mg base 1 "_law_spread" ["_law_cell", "_law_at"] spSpread) : Ok P w K mg base 2 "_law_take" ["_law_pen", "_law_many"] spTake := by
  refine Ok.mk T.d__law_take sc__law_take (fun vs H Q E h => ?_) (fun f cdv A outer s H vs Q E hr h => ?_)
  · obtain ⟨p, c, n, m, rfl, _⟩ := h
    rfl
  obtain ⟨p, c, n, m, rfl, pe, hn, hm, hw, q⟩ := h
  obtain ⟨⟨a, r, ep, a0, a1, r0⟩, ⟨ns, ec⟩, ncp⟩ := pe
  refine ⟨_, (pss_cons (ps_if (pt_cmpR op_lt (pe_ix (ixL K rfl) (pv 0) (pe_int) (fun _ _ => rfl)) (pv 1) (nomark _))
 (pss_cons (ps_set (i := 2) sc__law_take.nd rfl (Or.inl rfl) (pe_ix (ixL K rfl) (pv 0) (pe_int) (fun _ _ => rfl)))
 (pss_cons (ps_set (i := 3) sc__law_take.nd rfl (Or.inl rfl) (pe_int))
 (pss_cons (ps_if (pt_cmpR op_lt (pv 2) (pe_callB (lenQ K rfl) (by rfl) T.z_len PySem.boot_len (pa_cons (pe_ix (ixL K rfl) (pv 0) (pe_int) (fun _ _ => rfl)) (pa_nil))) (nomark _))
 (pss_one (ps_set (i := 3) sc__law_take.nd rfl (Or.inl rfl) (pe_ix (ixL K rfl) (pe_ix (ixL K rfl) (pv 0) (pe_int) (fun _ _ => rfl)) (pv 2) (fun _ _ => rfl))))
 (pss_one (ps_if (pt_cmpR op_gt (pe_callB (lenQ K rfl) (by rfl) T.z_len PySem.boot_len (pa_cons (pe_ix (ixL K rfl) (pv 0) (pe_int) (fun _ _ => rfl)) (pa_nil))) (pe_int) (nomark _))
 (pss_one (ps_set (i := 3) sc__law_take.nd rfl (Or.inl rfl) (pe_op op_mod (pe_ix (ixL K rfl) (pe_ix (ixL K rfl) (pv 0) (pe_int) (fun _ _ => rfl)) (pe_op op_mod (pe_op op_add (pe_op op_mul (pv 2) (pe_int)) (pe_int)) (pe_callB (lenQ K rfl) (by rfl) T.z_len PySem.boot_len (pa_cons (pe_ix (ixL K rfl) (pv 0) (pe_int) (fun _ _ => rfl)) (pa_nil)))) (fun _ _ => rfl)) (pe_op op_add (pe_op op_powW (pe_int) (pe_int)) (pv 2)))))
 (pss_nil))))
 (pss_cons (ps_asg (pe_op op_add (pv 2) (pe_int)) (pg_sub (pv 0) (pe_int) set_list))
 (pss_one (ps_asg (pe_fn O__law_spread (hr.mono (by omega)) (by rfl) (pa_cons (pv 3) (pa_cons (pv 2) (pa_nil)))) (pg_sub (pv 0) (pe_int) set_list)))))))
 (pss_nil))
 (pss_cons (ps_set (i := 4) sc__law_take.nd rfl (Or.inl rfl) (pe_op op_mod (pe_ix (ixL K rfl) (pv 0) (pe_int) (fun _ _ => rfl)) (pv 1)))
 (pss_cons (ps_asg (pe_op op_fdivW (pe_ix (ixL K rfl) (pv 0) (pe_int) (fun _ _ => rfl)) (pv 1)) (pg_sub (pv 0) (pe_int) set_list))
 (pss_one (ps_ret (pv 4)))))), ?_⟩
  have fin : ∀ (σ2 σ3 : Option V) (H1 : Hp) (a' r' : Int), But p H H1 → H1 p = some (.lst [.ref c, .int a', .int r']) → 0 ≤ a' → a' ≤ ((n + 1 : Nat) : Int) → 0 ≤ r' →
      (tSeq (tAsg (tOp (rI (fun _ j => 0 < j) fun i j => .int (i % j)) (tOp (rIxL K) (tVar 0) (tC (.int 2))) (tVar 1)) (gName 4)) (tSeq (tAsg (tOp (rI CDivW fun i j => .int (i / j)) (tOp (rIxL K) (tVar 0) (tC (.int 2))) (tVar 1)) (gSub (tVar 0) (tC (.int 2)) rSetL)) (tRet (tVar 4))) { nx := fun _ H' => Q .non H', rt := Q } [some (.ref p), some (.int m), σ2, σ3, none] H1) := by
    intro σ2 σ3 H1 a' r' bt e1 z0 z1 z2
    refine ⟨_, rfl, p, _, _, _, rfl, rfl, SqL.of e1, atI_of 2 rfl rfl, _, rfl, _, _, rfl, rfl, hm, ?_⟩
    refine ⟨_, rfl, p, _, _, _, rfl, rfl, SqL.of e1, atI_of 2 rfl rfl, _, rfl, _, _, rfl, rfl, wide_div hm hw (by decide) (by decide), _, rfl, p, _, _, _, rfl, rfl, e1, ixN_of 2 rfl (by show 2 < 3; decide), ?_⟩
    refine ⟨_, rfl, q _ _ (Int.emod_nonneg _ (by omega)) (Int.emod_lt_of_pos _ hm) (bt.trans But.upd) ⟨⟨a', r' / m, upd_same, z0, z1, Int.ediv_nonneg z2 (by omega)⟩, ⟨ns, ?_⟩, ncp⟩⟩
    rw [upd_ne ncp]
    exact bt _ _ ncp ec
  refine ⟨_, rfl, p, _, _, _, rfl, rfl, SqL.of ep, atI_of 2 rfl rfl, _, rfl, _, _, rfl, rfl, _, rfl, ite2 (fun e => ?_) (fun e => ?_)⟩
  · refine ⟨_, rfl, p, _, _, _, rfl, rfl, SqL.of ep, atI_of 1 rfl rfl, ?_⟩
    have fin2 : ∀ (cell : Int), (tSeq (tAsg (tOp (rI0 fun i j => .int (i + j)) (tVar 2) (tC (.int 1))) (gSub (tVar 0) (tC (.int 1)) rSetL)) (tAsg (tCall spSpread [] E0 (tCons (tVar 3) (tCons (tVar 2) tNil))) (gSub (tVar 0) (tC (.int 2)) rSetL)) { nx := fun σ1 H1 => (tSeq (tAsg (tOp (rI (fun _ j => 0 < j) fun i j => .int (i % j)) (tOp (rIxL K) (tVar 0) (tC (.int 2))) (tVar 1)) (gName 4)) (tSeq (tAsg (tOp (rI CDivW fun i j => .int (i / j)) (tOp (rIxL K) (tVar 0) (tC (.int 2))) (tVar 1)) (gSub (tVar 0) (tC (.int 2)) rSetL)) (tRet (tVar 4))) { nx := fun _ H' => Q .non H', rt := Q } σ1 H1), rt := Q } [some (.ref p), some (.int m), some (.int a), some (.int cell), none] H) := by
      intro cell
      refine ⟨_, rfl, _, _, rfl, rfl, _, rfl, p, _, _, _, rfl, rfl, ep, ixN_of 1 rfl (by show 1 < 3; decide), ?_⟩
      refine ⟨_, rfl, _, rfl, cell, a, rfl, a0, by omega, fun r' H2 hr0 sm => ?_⟩
      refine ⟨_, rfl, p, _, _, _, rfl, rfl, sm _ _ upd_same, ixN_of 2 rfl (by show 2 < 3; decide), ?_⟩
      exact fin _ _ _ (a + 1) r' (But.upd.trans ((But.of sm).trans But.upd)) upd_same (by omega) (by omega) hr0
    refine ⟨_, rfl, _, rfl, p, _, _, _, rfl, rfl, SqL.of ep, atI_of 0 rfl rfl, c, _, rfl, .inl (SqL.of ec), _, _, rfl, rfl, _, rfl, ite2 (fun e1 => ?_) (fun e1 => ?_)⟩
    · have e1 := of_decide_eq_true e1
      rw [List.length_map] at e1
      have k1 : a.toNat < ns.length := by omega
      have g1 : (ns.map V.int)[a.toNat]? = some (.int ns[a.toNat]) := by rw [List.getElem?_map, List.getElem?_eq_getElem k1]; rfl
      refine ⟨_, rfl, p, _, _, _, rfl, rfl, SqL.of ep, atI_of 0 rfl rfl, _, rfl, c, _, _, _, rfl, rfl, SqL.of ec, atI_of a.toNat (by omega) g1, ?_⟩
      exact fin2 _
    · refine ⟨_, rfl, p, _, _, _, rfl, rfl, SqL.of ep, atI_of 0 rfl rfl, c, _, rfl, .inl (SqL.of ec), _, _, rfl, rfl, _, rfl, ite2 (fun e2 => ?_) (fun e2 => ?_)⟩
      · have e2 := of_decide_eq_true e2
        rw [List.length_map] at e2
        have k0 : 0 ≤ (a * 5 + 3) % (ns.length : Int) := Int.emod_nonneg _ (by omega)
        have k1 : (a * 5 + 3) % (ns.length : Int) < ns.length := Int.emod_lt_of_pos _ e2
        have k2 : ((a * 5 + 3) % (ns.length : Int)).toNat < ns.length := by omega
        have g1 : (ns.map V.int)[((a * 5 + 3) % (ns.length : Int)).toNat]? = some (.int ns[((a * 5 + 3) % (ns.length : Int)).toNat]) := by rw [List.getElem?_map, List.getElem?_eq_getElem k2]; rfl
        refine ⟨_, rfl, p, _, _, _, rfl, rfl, SqL.of ep, atI_of 0 rfl rfl, _, rfl, _, _, rfl, rfl, .inr ⟨by decide, by decide⟩, _, _, rfl, rfl, _, rfl, p, _, _, _, rfl, rfl, SqL.of ep, atI_of 0 rfl rfl, c, _, rfl, .inl (SqL.of ec), _, _, rfl, rfl, by rw [List.length_map]; exact e2, c, _, _, _, rfl, rfl, SqL.of ec, atI_of _ (by rw [List.length_map]; omega) g1, _, _, rfl, rfl, ⟨by decide, by decide, lim_small (by decide) (by have := pen100; omega)⟩, _, rfl, _, _, rfl, rfl, _, _, rfl, rfl, ?_, ?_⟩
        · show (0 : Int) < 10 ^ (17 : Int).toNat + a
          have : (0 : Int) < 10 ^ (17 : Int).toNat := by decide
          omega
        · exact fin2 _
      · exact fin2 _
  · exact fin none none H a r (But.refl p H) ep a0 (by omega) r0
end

/-! ### texts and tests -/
open TL (tl)
open TL (numL joinL)
abbrev Sg (l : List Nat) : Str := ⟨l.toArray⟩
theorem tl_e : tl (Str.ofString "") = [] := by decide +kernel
theorem tl_small : tl (Str.ofString "abcdefghijklmnopqrstuvwxyz") = (List.range 26).map (97 + ·) := by decide +kernel
def ones (cs : List Nat) : List D := cs.map fun c => .str ⟨#[c]⟩
theorem strs_ones : ∀ cs : List Nat, strsOf (ones cs) = some (cs.map fun c => ⟨#[c]⟩)
  | [] => rfl
  | c :: cs => by
    show (strsOf (ones cs)).map _ = _
    rw [strs_ones cs]
    rfl
theorem joinL_nil : ∀ xs : List (List Nat), joinL [] xs = xs.flatten
  | [] => rfl
  | [x] => by simp [joinL]
  | x :: y :: r => by
    show x ++ ([] ++ joinL [] (y :: r)) = _
    rw [joinL_nil (y :: r)]
    simp
theorem join_ones (cs : List Nat) : Txt.join (Str.ofString "") (cs.map fun c => ⟨#[c]⟩) = Sg cs := by
  have h := SX.join_S [] (cs.map fun c => [c])
  rw [List.map_map, joinL_nil] at h
  have e : ∀ cs : List Nat, (cs.map fun c => [c]).flatten = cs := by
    intro cs
    induction cs with
    | nil => rfl
    | cons c cs ih => rw [List.map_cons, List.flatten_cons, ih]; rfl
  rw [e] at h
  have e2 : (Str.ofString "") = SX.S [] := TL.ext_tl tl_e
  rw [e2]
  exact h
theorem ones_sum (cs : List Nat) : ((cs.map fun c => (⟨#[c]⟩ : Str)).map (·.length)).sum = cs.length := by
  have e : (cs.map fun c => (⟨#[c]⟩ : Str)).map (·.length) = cs.map fun _ => 1 := by rw [List.map_map]; rfl
  rw [e]
  induction cs with
  | nil => rfl
  | cons c cs ih =>
    rw [List.map_cons, List.sum_cons, List.length_cons]
    have := ih (by rw [List.map_map]; rfl)
    omega
theorem in_textD {x : Str} {c : Nat} {Q : Bool → Prop} (h : Q (decide (c ∈ tl x))) : Q (xor false (!(Builtin.Str.occurrences x ⟨#[c]⟩ 0 x.length 1).isEmpty)) := by
  rw [Bool.false_xor, StrLaws.found_one]
  exact h
theorem cutS_to (l : List Nat) (j : Nat) : cutS (Sg l) none (some (j : Int)) = Sg (l.take j) := by
  unfold cutS
  rw [HT.sIx_none, HT.sIx_nat, TL.len_tl]
  refine congrArg Sg ?_
  show List.take _ (List.drop 0 l) = _
  rw [List.drop_zero, Nat.sub_zero]
  show List.take (min j l.length) l = _
  rcases Nat.le_total j l.length with h | h
  · rw [Nat.min_eq_left h]
  · rw [Nat.min_eq_right h, List.take_of_length_le (Nat.le_refl _), List.take_of_length_le h]
theorem cutS_from (l : List Nat) (j : Nat) (h : j ≤ l.length) : cutS (Sg l) (some (j : Int)) none = Sg (l.drop j) := by
  unfold cutS
  rw [HT.sIx_none, HT.sIx_nat, TL.len_tl]
  refine congrArg Sg ?_
  show List.take (l.length - min j l.length) (List.drop (min j l.length) l) = _
  rw [Nat.min_eq_left h]
  exact List.take_of_length_le (by rw [List.length_drop]; omega)
theorem sg_app (a b : List Nat) : (Sg a ++ Sg b : Str) = Sg (a ++ b) := by
  refine TL.ext_tl ?_
  rw [TL.tl_append]
theorem sg_len (a : List Nat) : (Sg a : Str).length = a.length := TL.len_tl _
theorem sg_tl (z : Str) : Sg (tl z) = z := TL.ext_tl rfl
theorem ite_either {b : Bool} {A B : Prop} (h1 : b = true → A) (h2 : b = false → B) : if b = true then A else B := by
  cases b with
  | true => exact h1 rfl
  | false => exact h2 rfl
/-! a test's worth, an expression's -/
def Tst (t : DB) (s : S) (b : Bool) : Prop := ∀ Q : Bool → S → Prop, Q b s → t s Q
def Exv (t : DT) (s : S) (d : D) : Prop := ∀ Q : D → S → Prop, Q d s → t s Q
theorem tst_and {a b : DB} {s : S} {x y : Bool} (h1 : Tst a s x) (h2 : x = true → Tst b s y) : Tst (dAnd a b) s (x && y) := fun Q q => h1 _ (by
  cases x with
  | true => exact ifp rfl (h2 rfl _ q)
  | false => exact ifn Bool.false_ne_true q)
theorem tst_or {a b : DB} {s : S} {x y : Bool} (h1 : Tst a s x) (h2 : x = false → Tst b s y) : Tst (dOr a b) s (x || y) := fun Q q => h1 _ (by
  cases x with
  | true => exact ifp rfl q
  | false => exact ifn Bool.false_ne_true (h2 rfl _ q))
theorem tst_not {a : DB} {s : S} {x : Bool} (h1 : Tst a s x) : Tst (dNot a) s (!x) := fun Q q => h1 _ q
theorem tst_ex {t : DT} {s : S} {b : Bool} (h : Exv t s (.bool b)) : Tst (dBl t) s b := fun Q q => h _ q
theorem exv_and {a b : DT} {s : S} {x y : Bool} (h1 : Exv a s (.bool x)) (h2 : x = true → Exv b s (.bool y)) : Exv (dAndV a b) s (.bool (x && y)) := fun Q q => h1 _ (by
  cases x with
  | true => exact h2 rfl _ q
  | false => exact q)
theorem exv_or {a b : DT} {s : S} {x y : Bool} (h1 : Exv a s (.bool x)) (h2 : x = false → Exv b s (.bool y)) : Exv (dOrV a b) s (.bool (x || y)) := fun Q q => h1 _ (by
  cases x with
  | true => exact q
  | false => exact h2 rfl _ q)
theorem exv_not {a : DT} {s : S} {x : Bool} (h1 : Exv a s (.bool x)) : Exv (dNotV a) s (.bool (!x)) := fun Q q => h1 _ q
theorem exv_if {c : DB} {a b : DT} {s : S} {k : Bool} {d : D} (h : Tst c s k) (h1 : k = true → Exv a s d) (h2 : k = false → Exv b s d) : Exv (dIf c a b) s d := fun Q q => h _ (by
  cases k with
  | true => exact ifp rfl (h1 rfl _ q)
  | false => exact ifn Bool.false_ne_true (h2 rfl _ q))
theorem exv_chain {a b c : DT} {f g : Int → Int → Bool} {s : S} {i j k : Int} (ha : Exv a s (.int i)) (hb : Exv b s (.int j)) (hc : Exv c s (.int k)) : Exv (dChain (cmpD f) (cmpD g) a b c) s (.bool (f i j && g j k)) := fun Q q => ha _ (hb _ (by
  show (cmpD f (.int i) (.int j) _)
  simp only [cmpD]
  cases h : f i j with
  | true => rw [h] at q; exact hc _ (by simp only [cmpD]; exact q)
  | false => rw [h] at q; exact q))
/-- if t: a (which leaves), then the rest -/
theorem seqIf {t : DB} {a r : DSt} {E : DEnds} {s : S} {b : Bool} (h : Tst t s b) (h1 : b = true → a { E with nx := r E } s) (h2 : b = false → r E s) : dSeq (dIfS t a dNext) r E s := h _ (by
  cases b with
  | true => exact ifp rfl (h1 rfl)
  | false => exact ifn Bool.false_ne_true (h2 rfl))
theorem ifS {t : DB} {a r : DSt} {E : DEnds} {s : S} {b : Bool} (h : Tst t s b) (h1 : b = true → a E s) (h2 : b = false → r E s) : dIfS t a r E s := h _ (by
  cases b with
  | true => exact ifp rfl (h1 rfl)
  | false => exact ifn Bool.false_ne_true (h2 rfl))
theorem retS {t : DT} {E : DEnds} {s : S} {d : D} (h : Exv t s d) (q : E.rt d s) : dRet t E s := h _ q
theorem boolsOf_map : ∀ bs : List Bool, boolsOf (bs.map PyData.bool) = some bs
  | [] => rfl
  | b :: bs => by
    show (boolsOf (bs.map PyData.bool)).map _ = _
    rw [boolsOf_map bs]
    rfl
theorem all_ok {bs : List Bool} {Q : D → Prop} (q : Q (.bool (bs.all id))) : allD [.list (bs.map PyData.bool)] Q := by
  exact ⟨bs, boolsOf_map bs, q⟩
/-! comprehensions with one name -/
theorem lc1 {i : Nat} {e : DT} {vs : List Nat} {Q : List D → S → Prop} {items : List D} (Inv : Nat → List D → S → Prop) {s : S} (h0 : Inv 0 [] s)
    (step : ∀ j d acc s (N : List D → S → Prop), items[j]? = some d → Inv j acc s → (∀ acc' s', Inv (j + 1) acc' s' → N acc' s') → e { s with δ := s.δ.set i (some d) } fun y s3 => N (acc ++ [y]) (wipeS s3 vs))
    (fin : ∀ acc s, Inv items.length acc s → Q acc s) : lcD (sName i) dYes e vs Q items [] s :=
  lcD_ind Inv h0 (fun j d acc s N hd hi hN => step j d acc s N hd hi hN) fin
theorem lc1if {i : Nat} {c : DB} {e : DT} {vs : List Nat} {Q : List D → S → Prop} {items : List D} (Inv : Nat → List D → S → Prop) {s : S} (h0 : Inv 0 [] s)
    (step : ∀ j d acc s (N : List D → S → Prop), items[j]? = some d → Inv j acc s → (∀ acc' s', Inv (j + 1) acc' s' → N acc' s') → c { s with δ := s.δ.set i (some d) } fun k s2 => if k = true then e s2 fun y s3 => N (acc ++ [y]) (wipeS s3 vs) else N acc (wipeS s2 vs))
    (fin : ∀ acc s, Inv items.length acc s → Q acc s) : lcD (sName i) c e vs Q items [] s :=
  lcD_ind Inv h0 (fun j d acc s N hd hi hN => step j d acc s N hd hi hN) fin
theorem orV_ok {a b : DT} {s : S} {x y : Bool} {Q : D → S → Prop} (h1 : Exv a s (.bool x)) (h2 : x = false → Exv b s (.bool y)) (q : Q (.bool (x || y)) s) : dOrV a b s Q := exv_or h1 h2 Q q
theorem andV_ok {a b : DT} {s : S} {x y : Bool} {Q : D → S → Prop} (h1 : Exv a s (.bool x)) (h2 : x = true → Exv b s (.bool y)) (q : Q (.bool (x && y)) s) : dAndV a b s Q := exv_and h1 h2 Q q
theorem seqPar {i j : Nat} {a : DA} {r : DSt} {E : DEnds} {s : S} {d e : D} (h : ∀ Q : List D → S → Prop, Q [d, e] s → a s Q) (k : r E { s with δ := (s.δ.set i (some d)).set j (some e) }) : dSeq (dPar i j a) r E s := h _ k
theorem seqSet {i : Nat} {a : DT} {r : DSt} {E : DEnds} {s : S} {d : D} (h : Exv a s d) (k : r E { s with δ := s.δ.set i (some d) }) : dSeq (dSet i a) r E s := h _ k

/-! ### forms: sort_of, kinds_of, is_whole, is_name, is_letter -/
open TL (tl)
theorem findT_mem {z : Str} {d : D} : ∀ {tab : List (Str × D)}, findT tab z = some d → (z, d) ∈ tab
  | (k, e) :: r, h => by
    by_cases hk : k = z
    · subst hk
      have : some e = some d := by rw [← h]; exact (if_pos rfl).symm
      cases this
      exact List.mem_cons_self ..
    · exact List.mem_cons_of_mem _ (findT_mem (by rw [← h]; exact (if_neg hk).symm))
def twoStr : D → Bool
  | .tuple [.str _, .str _] => true
  | _ => false
theorem forms_two {z : Str} {d : D} (h : findT tab_FORMS z = some d) : ∃ a b : Str, d = .tuple [.str a, .str b] := by
  have ha : (tab_FORMS.all fun p => twoStr p.2) = true := by decide +kernel
  have h2 := List.all_eq_true.mp ha _ (findT_mem h)
  dsimp only at h2
  unfold twoStr at h2
  split at h2
  · exact ⟨_, _, rfl⟩
  · cases h2
def pairT (w : Str) : Str × Str := match findT tab_FORMS w with
  | some (.tuple [.str a, .str b]) => (a, b)
  | _ => (Str.ofString "", Str.ofString "")
def sortOf : D → Str
  | .str w => (pairT w).1
  | _ => Str.ofString ""
def kindsOf : D → Str
  | .str w => (pairT w).2
  | _ => Str.ofString ""
def sortF : DF := fun ds Q => ∃ d, ds = [d] ∧ Q (.str (sortOf d))
def kindsF : DF := fun ds Q => ∃ d, ds = [d] ∧ Q (.str (kindsOf d))
section
variable {P : Program} {w : World} {K : PySem.W.Frag} {mg : Str → Option Value} {base : Heap}
theorem tab_pick {w : Str} {Q : D → Prop} (j : Nat) (x : Str) (e : ∀ a b : Str, pairT w = (a, b) → findT tab_FORMS w = some (.tuple [.str a, .str b]) → [PyData.str a, .str b][j]? = some (.str x)) (n : findT tab_FORMS w = none → x = Str.ofString "") (q : Q (.str x)) :
    if (findT tab_FORMS w).isSome = true then IxP (findT tab_FORMS w) fun d => (match d with | .tuple ds => IxP (atI ds (j : Int)) Q | _ => False) else Q (.str (Str.ofString "")) := by
  cases h : findT tab_FORMS w with
  | none => rw [n h] at q; exact ifn (by simp) q
  | some d =>
    obtain ⟨a, b, rfl⟩ := forms_two h
    refine ifp rfl ⟨_, rfl, ix_ok j rfl (e a b (by unfold pairT; rw [h]) h) q⟩
theorem ok_sort_of (T : Tx w K mg) : Ok P w K mg base 1 "sort_of" ["word"] (spN K 1 .E sortF) := by
  refine Ok.ofN (M := []) T.d_sort_of sc_sort_of rfl (by decide) fun f cdv A outer s H E hr => ⟨_, _, (pss_one (ps_ret (pe_ifExp (PW.pt (pw_and (pt_val (pe_callB (isiK K rfl) (by rfl) T.z_isinstance boot_isi (pa_cons (pv 0) (pa_cons (pe_bltn (v := .ty "str") (by rfl) T.z_str boot_str rfl) pa_nil)))) (pw_and1 (pt_cmpR (inTab T.t_FORMS) (pv 0) (pe_tab (by rfl) T.t_FORMS) (by rfl))))) (pe_ix (ixG K rfl (u65 hr.toRoom)) (pe_ix ixTab (pe_tab (by rfl) T.t_FORMS) (pv 0) (fun _ _ => rfl)) (pe_int) (fun _ _ => rfl)) (pe_str)))),
 (simS_ret (Sim.toE (sim_if (simT_and (simT_B (sim_isi .str (sim_var 0 (nm rfl)))) (simT_test (sim_tabIn false T.t_FORMS (sim_var 0 (nm rfl))))) (Sim.toE (opA_ix (sim_tabGet T.t_FORMS (sim_var 0 (nm rfl))) (sim_int _))) (Sim.toE (sim_str _))))), ?_⟩
  rintro ds Q hl ⟨d, rfl, q⟩
  cases d <;> first | exact q | skip
  rename_i x
  cases h : findT tab_FORMS x with
  | none =>
    have q : Q (.str (pairT x).1) := q
    have e : pairT x = (Str.ofString "", Str.ofString "") := by unfold pairT; rw [h]
    rw [e] at q
    show (if (xor false (findT tab_FORMS x).isSome) = true then _ else _)
    rw [h]
    exact ifn (by simp) q
  | some d =>
    obtain ⟨a, b, rfl⟩ := forms_two h
    have q : Q (.str (pairT x).1) := q
    have e : pairT x = (a, b) := by unfold pairT; rw [h]
    rw [e] at q
    show (if (xor false (findT tab_FORMS x).isSome) = true then IxP (findT tab_FORMS x) _ else _)
    rw [h]
    exact ifp rfl ⟨_, rfl, ix_ok 0 rfl rfl q⟩
theorem ok_kinds_of (T : Tx w K mg) : Ok P w K mg base 1 "kinds_of" ["word"] (spN K 1 .E kindsF) := by
  refine Ok.ofN (M := []) T.d_kinds_of sc_kinds_of rfl (by decide) fun f cdv A outer s H E hr => ⟨_, _, (pss_one (ps_ret (pe_ifExp (PW.pt (pw_and (pt_val (pe_callB (isiK K rfl) (by rfl) T.z_isinstance boot_isi (pa_cons (pv 0) (pa_cons (pe_bltn (v := .ty "str") (by rfl) T.z_str boot_str rfl) pa_nil)))) (pw_and1 (pt_cmpR (inTab T.t_FORMS) (pv 0) (pe_tab (by rfl) T.t_FORMS) (by rfl))))) (pe_ix (ixG K rfl (u65 hr.toRoom)) (pe_ix ixTab (pe_tab (by rfl) T.t_FORMS) (pv 0) (fun _ _ => rfl)) (pe_int) (fun _ _ => rfl)) (pe_str)))),
 (simS_ret (Sim.toE (sim_if (simT_and (simT_B (sim_isi .str (sim_var 0 (nm rfl)))) (simT_test (sim_tabIn false T.t_FORMS (sim_var 0 (nm rfl))))) (Sim.toE (opA_ix (sim_tabGet T.t_FORMS (sim_var 0 (nm rfl))) (sim_int _))) (Sim.toE (sim_str _))))), ?_⟩
  rintro ds Q hl ⟨d, rfl, q⟩
  cases d <;> first | exact q | skip
  rename_i x
  cases h : findT tab_FORMS x with
  | none =>
    have q : Q (.str (pairT x).2) := q
    have e : pairT x = (Str.ofString "", Str.ofString "") := by unfold pairT; rw [h]
    rw [e] at q
    show (if (xor false (findT tab_FORMS x).isSome) = true then _ else _)
    rw [h]
    exact ifn (by simp) q
  | some d =>
    obtain ⟨a, b, rfl⟩ := forms_two h
    have q : Q (.str (pairT x).2) := q
    have e : pairT x = (a, b) := by unfold pairT; rw [h]
    rw [e] at q
    show (if (xor false (findT tab_FORMS x).isSome) = true then IxP (findT tab_FORMS x) _ else _)
    rw [h]
    exact ifp rfl ⟨_, rfl, ix_ok 1 rfl rfl q⟩
end

/-! ### is_whole, is_name, is_letter -/
def isWhole : D → Bool
  | .int _ => true
  | _ => false
def kept : List Str := [Str.ofString "left", Str.ofString "given", Str.ofString "own"]
def isName : D → Bool
  | .str z => !(kept.contains z) && (decide (1 ≤ z.length) && decide (z.length ≤ 8)) && (tl z).all fun c => decide (c ∈ tl (Str.ofString "abcdefghijklmnopqrstuvwxyz"))
  | _ => false
def isLetter (row : Bool) : D → Bool
  | .int i => decide (0 ≤ i)
  | .str z => isName (.str z) || (decide (z = Str.ofString "given") || (!row && kept.contains z))
  | _ => false
def strS : D → Prop
  | .str z => z.length ≤ 1000000
  | _ => True
def wholeF : DF := fun ds Q => ∃ d, ds = [d] ∧ Q (.bool (isWhole d))
def nameF : DF := fun ds Q => ∃ d, ds = [d] ∧ strS d ∧ Q (.bool (isName d))
def letterF : DF := fun ds Q => ∃ d b, ds = [d, .bool b] ∧ strS d ∧ Q (.bool (isLetter b d))
theorem in_kept {z : Str} : ([PyData.str (Str.ofString "left"), .str (Str.ofString "given"), .str (Str.ofString "own")].any fun x => eqF x (.str z)) = kept.contains z := by
  simp only [List.any_cons, List.any_nil, eqF, kept, List.contains_cons, List.contains_nil, Bool.or_false]
  have e : ∀ a b : Str, (a == b) = (b == a) := fun a b => by
    rw [Bool.eq_iff_iff, beq_iff_eq, beq_iff_eq]
    exact eq_comm
  rw [e, e (Str.ofString "given"), e (Str.ofString "own")]
theorem signs_get {z : Str} {i : Nat} {d : D} (h : (signs z)[i]? = some d) : ∃ c, (tl z)[i]? = some c ∧ d = .str ⟨#[c]⟩ := by
  unfold signs at h
  rw [List.getElem?_map] at h
  cases e : z.cps.toList[i]? with
  | none => rw [e] at h; cases h
  | some c => rw [e] at h; exact ⟨c, rfl, (Option.some.inj h).symm⟩
theorem signs_len (z : Str) : (signs z).length = (tl z).length := by unfold signs; rw [List.length_map]
theorem map_take {α β : Type} {f : α → β} {l : List α} {i : Nat} {a : α} (h : l[i]? = some a) : (l.take (i + 1)).map f = (l.take i).map f ++ [f a] := by
  rw [List.take_add_one, h, List.map_append]
  rfl
section
variable {P : Program} {w : World} {K : PySem.W.Frag} {mg : Str → Option Value} {base : Heap}
end

/-! ### has_form, is_part, is_term, is_row, is_plain -/
def inBy : D → Bool
  | .int i => decide (1 ≤ i) && decide (i ≤ 1000000000)
  | _ => false
def partB (rec : Str → D → Bool) (c : Nat) (p : D) : Bool :=
  if c = 116 then rec (Str.ofString "term") p else if c = 114 then rec (Str.ofString "row") p else if c = 112 then rec (Str.ofString "plain") p
  else if c = 120 ∨ c = 121 then isLetter (decide (c = 121)) p
  else if c = 97 then isName p
  else if c = 98 then (match p with
    | .tuple qs => qs.all fun q => rec (Str.ofString "term") q || rec (Str.ofString "row") q
    | _ => false)
  else isWhole p && (decide (c = 110) || inBy p)
def hf : Nat → Str → D → Bool
  | k + 1, s, .tuple (w :: ps) => decide (sortOf w = s) && (decide (ps.length = (tl (kindsOf w)).length) && ((tl (kindsOf w)).zip ps).all fun x => partB (hf k) x.1 x.2)
  | _, _, _ => false
/-- a tree that all these may look at -/
abbrev Ok1 (k : Nat) (d : D) : Prop := Bt k 1000000 d
def formF (k : Nat) : DF := fun ds Q => ∃ d s, ds = [d, .str s] ∧ s ≠ Str.ofString "" ∧ Ok1 k d ∧ Q (.bool (hf k s d))
def termF (k : Nat) (s : Str) : DF := fun ds Q => ∃ d, ds = [d] ∧ Ok1 k d ∧ Q (.bool (hf k s d))
def partF (k : Nat) : DF := fun ds Q => ∃ c d, ds = [.str ⟨#[c]⟩, d] ∧ Ok1 k d ∧ Q (.bool (partB (hf k) c d))
theorem one_is {c k : Nat} {x : Str} (h : tl x = [k]) : decide ((⟨#[c]⟩ : Str) = x) = decide (c = k) := by
  rw [Bool.eq_iff_iff, decide_eq_true_eq, decide_eq_true_eq]
  constructor
  · intro e
    have := congrArg tl e
    rw [h] at this
    have : [c] = [k] := this
    injection this
  · intro e
    refine TL.ext_tl ?_
    rw [h, e]
theorem Bt.strS {k t : Nat} {d : D} (h : Bt k t d) (l : t ≤ 1000000) : strS d := by
  cases d <;> first | trivial | skip
  have := h.t
  simp only [sz] at this
  show _ ≤ 1000000
  omega
theorem Bt.tlen {k t : Nat} {ds : List D} (h : Bt k t (.tuple ds)) : ds.length ≤ t := by
  have h1 := h.t
  simp only [sz] at h1
  have : ∀ ds : List D, ds.length ≤ szAll ds := by
    intro ds
    induction ds with
    | nil => exact Nat.le_refl _
    | cons d ds ih => simp only [szAll, List.length_cons]; omega
  have := this ds
  omega
theorem cut1 (d : D) (ds : List D) : cutD (d :: ds) (some 1) none = ds := by
  rw [show (1 : Int) = ((1 : Nat) : Int) from rfl, cutD_from (d :: ds) 1 (by simp)]
  rfl
theorem eq_nilT {ds : List D} : PyData.eqv (.tuple ds) (.tuple []) = ds.isEmpty := by
  cases ds with
  | nil => decide +kernel
  | cons d ds => simp [PyData.eqv, PyData.eqvAll]
section
variable {P : Program} {w : World} {K : PySem.W.Frag} {mg : Str → Option Value} {base : Heap}
end

/-! ### what is right in form; parts_of, gather, letters_of -/
theorem sort_ne {w : D} {s : Str} (h : sortOf w = s) (hs : s ≠ Str.ofString "") : ∃ x a b, w = .str x ∧ findT tab_FORMS x = some (.tuple [.str a, .str b]) ∧ sortOf w = a ∧ kindsOf w = b := by
  cases w <;> first | exact absurd h.symm hs | skip
  rename_i x
  have h : (pairT x).1 = s := h
  cases e : findT tab_FORMS x with
  | none =>
    unfold pairT at h
    rw [e] at h
    exact absurd h.symm hs
  | some d =>
    obtain ⟨a, b, rfl⟩ := forms_two e
    refine ⟨x, a, b, rfl, e, ?_, ?_⟩
    · show (pairT x).1 = a
      unfold pairT; rw [e]
    · show (pairT x).2 = b
      unfold pairT; rw [e]
/-- a thing right in form: its word, its kinds, its parts -/
theorem hf_inv {k : Nat} {s : Str} {d : D} (hs : s ≠ Str.ofString "") (h : hf k s d = true) : ∃ j x ps a b, k = j + 1 ∧ d = .tuple (.str x :: ps) ∧ findT tab_FORMS x = some (.tuple [.str a, .str b]) ∧ a = s ∧ kindsOf (.str x) = b ∧ ps.length = (tl b).length ∧ ∀ p ∈ (tl b).zip ps, partB (hf j) p.1 p.2 = true := by
  cases k with
  | zero => cases h
  | succ j =>
    cases d <;> first | (cases h; done) | skip
    rename_i ds
    cases ds with
    | nil => cases h
    | cons w ps =>
      simp only [hf, Bool.and_eq_true, decide_eq_true_eq, List.all_eq_true] at h
      obtain ⟨h1, h2, h3⟩ := h
      obtain ⟨x, a, b, rfl, e, e1, e2⟩ := sort_ne h1 hs
      rw [e2] at h2 h3
      exact ⟨j, x, ps, a, b, rfl, rfl, e, by rw [← e1, h1], e2, h2, h3⟩
def isThing (k : Nat) (d : D) : Prop := ∃ s : Str, s ≠ Str.ofString "" ∧ hf k s d = true
theorem isThing.t {k : Nat} {d : D} {s : Str} (h : hf k s d = true) (hs : s ≠ Str.ofString "" := by decide +kernel) : isThing k d := ⟨s, hs, h⟩
def goes (c : Nat) : Bool := decide (c ∈ tl (Str.ofString "trp"))
def partsOf : D → List D
  | .tuple (.str x :: ps) => if x = Str.ofString "notion" then (match ps with | [_, .tuple qs] => qs | _ => []) else (((tl (kindsOf (.str x))).zip ps).filter fun p => goes p.1).map Prod.snd
  | _ => []
theorem goes_t {c : Nat} (h : goes c = true) : c = 116 ∨ c = 114 ∨ c = 112 := by
  have h := of_decide_eq_true h
  have e : tl (Str.ofString "trp") = [116, 114, 112] := by decide +kernel
  rw [e] at h
  simpa using h
/-- its parts are things, one floor lower -/
theorem parts_things {k : Nat} {d : D} (h : isThing k d) : ∃ j, k = j + 1 ∧ ∀ p ∈ partsOf d, isThing j p := by
  obtain ⟨s, hs, h⟩ := h
  obtain ⟨j, x, ps, a, b, rfl, rfl, e, _, eb, hl, hp⟩ := hf_inv hs h
  refine ⟨j, rfl, fun p hm => ?_⟩
  simp only [partsOf] at hm
  split at hm
  · rename_i hx
    subst hx
    have e2 : kindsOf (.str (Str.ofString "notion")) = Str.ofString "ab" := by decide +kernel
    rw [e2] at eb
    subst eb
    have et : tl (Str.ofString "ab") = [97, 98] := by decide +kernel
    rw [et] at hl hp
    match ps, hl with
    | [p0, p1], _ =>
      have h2 := hp (98, p1) (by simp)
      simp only [partB] at h2
      simp only [show ¬ (98 : Nat) = 116 by decide, show ¬ (98 : Nat) = 114 by decide, show ¬ (98 : Nat) = 112 by decide, show ¬ ((98 : Nat) = 120 ∨ (98 : Nat) = 121) by decide, show ¬ (98 : Nat) = 97 by decide, if_false, if_true] at h2
      obtain ⟨qs, rfl⟩ : ∃ qs, p1 = .tuple qs := by cases p1 <;> first | exact ⟨_, rfl⟩ | (cases h2; done)
      have hm : p ∈ qs := hm
      have h2 : (qs.all fun q => hf j (Str.ofString "term") q || hf j (Str.ofString "row") q) = true := h2
      have h3 := List.all_eq_true.mp h2 p hm
      rw [Bool.or_eq_true] at h3
      rcases h3 with h3 | h3
      · exact .t h3
      · exact .t h3
  · rw [List.mem_map] at hm
    obtain ⟨⟨c, y⟩, hm, rfl⟩ := hm
    rw [List.mem_filter] at hm
    rw [eb] at hm
    have h2 := hp _ hm.1
    rcases goes_t hm.2 with h3 | h3 | h3
    · have h3 : c = 116 := h3
      subst h3
      exact .t (s := Str.ofString "term") h2
    · have h3 : c = 114 := h3
      subst h3
      exact .t (s := Str.ofString "row") h2
    · have h3 : c = 112 := h3
      subst h3
      exact .t (s := Str.ofString "plain") h2
theorem parts_bt {k t : Nat} {d : D} (h : Bt k t d) : ∀ p ∈ partsOf d, Bt (k - 1) t p := by
  intro p hm
  cases d <;> first | (simp [partsOf] at hm; done) | skip
  rename_i ds
  have hd := h.ofTup
  cases ds with
  | nil => simp [partsOf] at hm
  | cons w ps =>
    cases w <;> first | (simp [partsOf] at hm; done) | skip
    rename_i x
    simp only [partsOf] at hm
    split at hm
    · split at hm
      · rename_i y qs
        have := (hd.mem (.tuple qs) (by simp)).ofTup.mem p hm
        exact this.to (by omega) (Nat.le_refl _)
      · exact nomatch hm
    · rw [List.mem_map] at hm
      obtain ⟨⟨c, y⟩, hm, rfl⟩ := hm
      rw [List.mem_filter] at hm
      exact hd.mem y (List.mem_cons_of_mem _ (List.of_mem_zip hm.1).2)
theorem szAll_mem : ∀ {ds : List D} {d : D}, d ∈ ds → sz d ≤ szAll ds
  | e :: ds, d, m => by
    simp only [szAll]
    rcases List.mem_cons.mp m with rfl | m
    · omega
    · have := szAll_mem m
      omega
def partsF : DF := fun ds Q => ∃ k d, ds = [d] ∧ k ≤ 60 ∧ Ok1 k d ∧ isThing k d ∧ Q (.list (partsOf d))
section
variable {P : Program} {w : World} {K : PySem.W.Frag} {mg : Str → Option Value} {base : Heap}
theorem ok_parts_of (T : Tx w K mg) (O_kinds_of : Ok P w K mg base 1 "kinds_of" ["word"] (spN K 1 .E kindsF)) : Ok P w K mg base 2 "parts_of" ["thing"] (spN K 1 .E partsF) := by
  refine Ok.ofN (M := []) T.d_parts_of sc_parts_of rfl (by decide) fun f cdv A outer s H E hr => ⟨_, _, (pss_cons (ps_if (pt_cmpR (eqG K rfl hr.units) (pe_ix (ixG K rfl (u65 hr.toRoom)) (pv 0) (pe_int) (fun _ _ => rfl)) (pe_str) (nomark _))
 (pss_one (ps_ret (pe_callTy (listQ K rfl) (by rfl) T.z_list boot_list (pa_cons (pe_ix (ixG K rfl (u65 hr.toRoom)) (pv 0) (pe_int) (fun _ _ => rfl)) (pa_nil)))))
 (pss_nil))
 (pss_one (ps_ret (pe_lc (own := [("kind", 1), ("part", 2)]) rfl sc_parts_of.nd (pi_zipS (by rfl) T.z_zip (pa_cons (pe_fn O_kinds_of (hr.mono (by omega)) (by rfl) (pa_cons (pe_ix (ixG K rfl (u65 hr.toRoom)) (pv 0) (pe_int) (fun _ _ => rfl)) (pa_nil))) (pa_cons (pe_slice (slG K rfl) (pv 0) (po_some (pe_int)) po_none) pa_nil))) (blkOk_by (own := [("kind", 1), ("part", 2)]) (N := ["thing", "kind", "part"]) (sc := defScope s_parts_of) (by decide +kernel)) (fun _ _ _ _ _ => pgT K rfl 2 rfl (pgs_cons (pg_nameL (i := 1) sc_parts_of.nd rfl rfl) (pgs_cons (pg_nameL (i := 2) sc_parts_of.nd rfl rfl) (pgs_nil)))) (fun _ _ _ _ _ => pts_one (pt_cmpR (inG K rfl (u65 hr.toRoom)) (pv 1) (pe_str) (by rfl))) (fun _ _ _ _ _ => pv 2))))),
 (simS_seq (simS_if (simT_test (sim_op opA_eq (opA_ix (sim_var 0 (nm rfl)) (sim_int _)) (sim_str _)))
 (simS_ret (Sim.toE (sim_cb caA_list (simA_cons (opA_ix (sim_var 0 (nm rfl)) (sim_int _)) (simA_nil)))))
 (simS_next))
 (simS_ret (Sim.toE (sim_lc (simI_zipS (sim_call (simA_cons (opA_ix (sim_var 0 (nm rfl)) (sim_int _)) (simA_nil))) (sim_sl (sim_var 0 (nm rfl)) (simO_some (sim_int _)) simO_none)) (simG_tup (simGs_cons (simG_name 1 (nm rfl) (np rfl)) (simGs_cons (simG_name 2 (nm rfl) (np rfl)) (simGs_nil)))) (simT_test (sim_op opA_in (sim_var 1 (nm rfl)) (sim_str _))) (sim_var 2 (nm rfl)) (inv' rfl) (nmv rfl) (npv rfl))))), ?_⟩
  rintro ds Q hl ⟨k, d, rfl, hk, ho, ht, q⟩
  obtain ⟨s, hs, h⟩ := ht
  obtain ⟨j, x, ps, a, b, rfl, rfl, e, _, eb, hlp, hp⟩ := hf_inv hs h
  have htl := ho.tlen
  refine seqIf (b := decide (x = Str.ofString "notion")) (fun Q q => ix_ok 0 rfl rfl q) (fun hx => ?_) (fun hx => ?_)
  · have hx := of_decide_eq_true hx
    subst hx
    have e2 : kindsOf (.str (Str.ofString "notion")) = Str.ofString "ab" := by decide +kernel
    rw [e2] at eb
    subst eb
    have et : tl (Str.ofString "ab") = [97, 98] := by decide +kernel
    rw [et] at hlp hp
    match ps, hlp with
    | [p0, p1], _ =>
      have h2 := hp (98, p1) (by simp)
      simp only [partB] at h2
      simp only [show ¬ (98 : Nat) = 116 by decide, show ¬ (98 : Nat) = 114 by decide, show ¬ (98 : Nat) = 112 by decide, show ¬ ((98 : Nat) = 120 ∨ (98 : Nat) = 121) by decide, show ¬ (98 : Nat) = 97 by decide, if_false, if_true] at h2
      obtain ⟨qs, rfl⟩ : ∃ qs, p1 = .tuple qs := by cases p1 <;> first | exact ⟨_, rfl⟩ | (cases h2; done)
      have e3 : partsOf (.tuple [.str (Str.ofString "notion"), p0, .tuple qs]) = qs := by simp [partsOf]
      rw [e3] at q
      exact ix_ok 2 rfl rfl q
  · have hx := of_decide_eq_false hx
    simp only [partsOf, if_neg hx, eb] at q
    refine ix_ok 0 rfl rfl ⟨_, rfl, ?_⟩
    rw [eb]
    show (cutD (.str x :: ps) (some 1) none).length = (signs b).length ∧ _
    rw [cut1]
    refine ⟨by rw [signs_len, hlp], ?_, lcD_ind (fun i acc s' => acc = ((((tl b).zip ps).take i).filter fun p => goes p.1).map Prod.snd ∧ s' = { δ := [some (.tuple (.str x :: ps)), none, none], n := 0 }) ⟨rfl, rfl⟩ ?_ ?_⟩
    · rw [zip_len]
      have htl : (PyData.str x :: ps).length ≤ 1000000 := htl
      rw [List.length_cons] at htl
      exact Nat.le_trans (Nat.min_le_right _ _) (Nat.le_trans (show ps.length ≤ 1000000 by omega) (by decide))
    · rintro i d acc s' N hi ⟨rfl, rfl⟩ hN
      obtain ⟨y, z, h3, h4, rfl⟩ := prD_get hi
      obtain ⟨c, hc, rfl⟩ := signs_get h3
      have hz : ((tl b).zip ps)[i]? = some (c, z) := List.getElem?_zip_eq_some.mpr ⟨hc, h4⟩
      refine ⟨rfl, in_textD (Q := fun k => if k = true then N (_ ++ [z]) _ else N _ _) (ite_either (fun hg => hN _ _ ⟨?_, rfl⟩) (fun hg => hN _ _ ⟨?_, rfl⟩))⟩
      · rw [List.take_add_one, hz, List.filter_append, List.map_append]
        have : ([(c, z)].filter fun p : Nat × D => goes p.1) = [(c, z)] := by simp [List.filter, show goes c = true from hg]
        rw [show (some (c, z)).toList = [(c, z)] from rfl, this]
        rfl
      · rw [List.take_add_one, hz, List.filter_append, List.map_append]
        have : ([(c, z)].filter fun p : Nat × D => goes p.1) = [] := by simp [List.filter, show goes c = false from hg]
        rw [show (some (c, z)).toList = [(c, z)] from rfl, this]
        rw [List.map_nil, List.append_nil]
    · rintro acc s' ⟨rfl, rfl⟩
      have el : (prD (signs b) ps).length = ((tl b).zip ps).length := by rw [zip_len, List.length_zip, signs_len]
      rw [el, List.take_length]
      exact q
end

/-! ### gather, letters_of -/
def kindOf (x : Str) : Str := if x = Str.ofString "name" then Str.ofString "number" else Str.ofString "row"
def oneOf (x : Str) (l : D) : D := .tuple [l, .str (kindOf x)]
def isOwn : D → Bool
  | .str z => decide (z = Str.ofString "own")
  | _ => false
def gatL (rec : D → Bool → List D → List D) (all hid : Bool) : Nat → List D → List D → List D
  | _, [], acc => acc
  | i, p :: ps, acc => gatL rec all hid (i + 1) ps (rec p (hid || (all && decide (i = 2))) acc)
def gat : Nat → D → Bool → List D → List D
  | k + 1, .tuple (.str x :: ps), hid, acc => if x = Str.ofString "name" ∨ x = Str.ofString "row" then (match ps with
      | l :: _ => if (!(acc.any fun z => PyData.eqv z (oneOf x l)) && !(hid && isOwn l)) = true then acc ++ [oneOf x l] else acc
      | [] => acc) else gatL (gat k) (decide (x = Str.ofString "all")) hid 0 (partsOf (.tuple (.str x :: ps))) acc
  | _, _, _, acc => acc
def Fo (acc : List D) : Prop := bdAll acc = true ∧ PyData.depthAll acc ≤ 1
theorem szAll_sub {a b : List D} (h : a.Sublist b) : szAll a ≤ szAll b := by
  induction h with
  | slnil => exact Nat.le_refl _
  | cons x _ ih => simp only [szAll]; omega
  | cons_cons x _ ih => simp only [szAll]; omega
theorem zip_sub {α β : Type} : ∀ (a : List α) (b : List β), ((a.zip b).map Prod.snd).Sublist b
  | [], b => by simp
  | _ :: _, [] => by simp
  | x :: a, y :: b => by
    rw [List.zip_cons_cons, List.map_cons]
    exact (zip_sub a b).cons_cons y
theorem szAll_parts (d : D) : szAll (partsOf d) + 3 ≤ sz d ∨ partsOf d = [] := by
  cases d <;> first | exact .inr rfl | skip
  rename_i ds
  cases ds with
  | nil => exact .inr rfl
  | cons w ps =>
    cases w <;> first | exact .inr rfl | skip
    rename_i x
    refine .inl ?_
    simp only [partsOf, sz, szAll]
    split
    · split
      · simp only [szAll, sz]; omega
      · simp only [szAll]; omega
    · have h1 : ((((tl (kindsOf (.str x))).zip ps).filter fun p => goes p.1).map Prod.snd).Sublist ps := ((List.filter_sublist).map Prod.snd).trans (zip_sub _ _)
      have := szAll_sub h1
      omega
theorem letter_of {j : Nat} {x : Str} {ps : List D} {a b s : Str} (hn : x = Str.ofString "name" ∨ x = Str.ofString "row") (eb : kindsOf (.str x) = b) (hl : ps.length = (tl b).length) (hp : ∀ p ∈ (tl b).zip ps, partB (hf j) p.1 p.2 = true) :
    ∃ l, ps = [l] ∧ ((∃ i, l = .int i) ∨ ∃ z, l = .str z) := by
  have main : ∀ c, tl b = [c] → c = 120 ∨ c = 121 → ∃ l, ps = [l] ∧ ((∃ i, l = .int i) ∨ ∃ z, l = .str z) := fun c et hc => by
    rw [et] at hl hp
    match ps, hl with
    | [l], _ =>
      refine ⟨l, rfl, ?_⟩
      have h2 := hp (c, l) (by simp)
      have h3 : isLetter (decide (c = 121)) l = true := by
        rcases hc with rfl | rfl <;> simpa [partB] using h2
      cases l <;> first | exact .inl ⟨_, rfl⟩ | exact .inr ⟨_, rfl⟩ | (cases h3; done)
  rcases hn with rfl | rfl
  · have e2 : kindsOf (.str (Str.ofString "name")) = Str.ofString "x" := by decide +kernel
    rw [e2] at eb
    subst eb
    exact main 120 (by decide +kernel) (.inl rfl)
  · have e2 : kindsOf (.str (Str.ofString "row")) = Str.ofString "y" := by decide +kernel
    rw [e2] at eb
    subst eb
    exact main 121 (by decide +kernel) (.inr rfl)
theorem Fo.app {acc : List D} {d : D} (h : Fo acc) (b : bd d = true) (e : PyData.depth d ≤ 1) : Fo (acc ++ [d]) := by
  have x : BtL 1 (szAll acc) acc := ⟨h.1, h.2, Nat.le_refl _⟩
  have y : BtL 1 (sz d + 2) [d] := ⟨by simp [bdAll, b], by simp only [PyData.depthAll]; omega, by simp only [szAll]; omega⟩
  have r := x.app y
  exact ⟨r.b, r.h⟩
theorem kindOf_ok (x : Str) : PyData.strOk (kindOf x) = true := by unfold kindOf; split <;> decide +kernel
theorem one_fo {x : Str} {l : D} (hb : bd l = true) (hd : PyData.depth l = 0) : bd (oneOf x l) = true ∧ PyData.depth (oneOf x l) ≤ 1 := by
  refine ⟨by simp [oneOf, bd, bdAll, hb, kindOf_ok], ?_⟩
  simp only [oneOf, PyData.depth, PyData.depthAll]
  omega
theorem gatL_ok {rec : D → Bool → List D → List D} {all hid : Bool} : ∀ (ps : List D) (i : Nat) (acc : List D), (∀ p ∈ ps, ∀ h a, Fo a → Fo (rec p h a) ∧ (rec p h a).length ≤ a.length + sz p) → Fo acc → Fo (gatL rec all hid i ps acc) ∧ (gatL rec all hid i ps acc).length ≤ acc.length + szAll ps
  | [], i, acc, _, h => ⟨h, by simp only [gatL, szAll]; omega⟩
  | p :: ps, i, acc, hr, h => by
    obtain ⟨a1, a2⟩ := hr p (List.mem_cons_self ..) (hid || (all && decide (i = 2))) acc h
    obtain ⟨b1, b2⟩ := gatL_ok (rec := rec) (all := all) (hid := hid) ps (i + 1) _ (fun q m => hr q (List.mem_cons_of_mem _ m)) a1
    refine ⟨b1, ?_⟩
    simp only [gatL, szAll]
    omega
theorem gat_ok : ∀ {k : Nat} {d : D} {hid : Bool} {acc : List D}, bd d = true → isThing k d → Fo acc → Fo (gat k d hid acc) ∧ (gat k d hid acc).length ≤ acc.length + sz d
  | 0, d, hid, acc, hb, ht, hf' => ⟨hf', by simp only [gat]; omega⟩
  | k + 1, d, hid, acc, hb, ht, hf' => by
    have ht' := ht
    obtain ⟨s, hs, h⟩ := ht
    obtain ⟨j, x, ps, a, b, ej, rfl, e, _, eb, hl, hp⟩ := hf_inv hs h
    obtain rfl : k = j := by omega
    simp only [gat]
    by_cases hn : x = Str.ofString "name" ∨ x = Str.ofString "row"
    · rw [if_pos hn]
      obtain ⟨l, rfl, hle⟩ := letter_of (a := a) (s := s) hn eb hl hp
      dsimp only
      have hbl : bd l = true := by
        have : bd (.tuple [.str x, l]) = true := hb
        simp only [bd, bdAll, Bool.and_eq_true] at this
        exact this.2.1
      have hd : PyData.depth l = 0 := by rcases hle with ⟨i, rfl⟩ | ⟨z, rfl⟩ <;> rfl
      split
      · refine ⟨hf'.app (one_fo hbl hd).1 (one_fo hbl hd).2, ?_⟩
        rw [List.length_append]
        simp only [sz, szAll, List.length_singleton]
        omega
      · exact ⟨hf', by omega⟩
    · rw [if_neg hn]
      obtain ⟨j', ej', hpt⟩ := parts_things ht'
      obtain rfl : k = j' := by omega
      have hbp : ∀ p ∈ partsOf (.tuple (.str x :: ps)), bd p = true := fun p m => (parts_bt (k := PyData.depth (.tuple (.str x :: ps))) (t := sz (.tuple (.str x :: ps))) ⟨hb, Nat.le_refl _, Nat.le_refl _⟩ p m).b
      obtain ⟨r1, r2⟩ := gatL_ok (rec := gat k) (all := decide (x = Str.ofString "all")) (hid := hid) (partsOf (.tuple (.str x :: ps))) 0 acc (fun p m h a fa => gat_ok (hbp p m) (hpt p m) fa) hf'
      refine ⟨r1, ?_⟩
      rcases szAll_parts (.tuple (.str x :: ps)) with h3 | h3
      · omega
      · rw [h3] at r2 ⊢
        simp only [szAll] at r2
        omega
def gathF (k : Nat) : List D → (D → D → Prop) → Prop := fun ds Q => ∃ d acc hid, ds = [d, .list acc, .bool hid] ∧ Ok1 k d ∧ isThing k d ∧ Fo acc ∧ acc.length + sz d ≤ 10000000 ∧ Q .none (.list (gat k d hid acc))
theorem Fo.sh {acc : List D} (h : Fo acc) : Sh (.list acc) := by
  have x : BtL 1 (szAll acc) acc := ⟨h.1, h.2, Nat.le_refl _⟩
  exact (Bt.lst x).sh (by decide)
theorem gatL_snoc {rec : D → Bool → List D → List D} {all hid : Bool} : ∀ (ps : List D) (p : D) (i : Nat) (acc : List D), gatL rec all hid i (ps ++ [p]) acc = rec p (hid || (all && decide (i + ps.length = 2))) (gatL rec all hid i ps acc)
  | [], p, i, acc => by simp [gatL]
  | q :: ps, p, i, acc => by
    rw [List.cons_append, gatL, gatL_snoc ps p (i + 1), gatL, List.length_cons]
    rw [show i + 1 + ps.length = i + (ps.length + 1) by omega]
section
variable {P : Program} {w : World} {K : PySem.W.Frag} {mg : Str → Option Value} {base : Heap}
def lettersF (k : Nat) : DF := fun ds Q => ∃ d, ds = [d] ∧ Ok1 k d ∧ isThing k d ∧ Q (.list (gat k d false []))
end

/-! ### drawn things: helpers, names, numbers, letters -/
theorem ix_any {ds : List D} {r : Int} {Q : D → Prop} (h0 : 0 ≤ r) (h1 : r < (ds.length : Int)) (k : ∀ d ∈ ds, Q d) : IxP (atI ds r) Q := by
  have hr : r.toNat < ds.length := by omega
  exact ix_ok r.toNat (by omega) (List.getElem?_eq_getElem hr) (k _ (List.getElem_mem hr))
def wOk (w : Str) : Bool := PyData.strOk w && decide (w.length ≤ 8)
theorem bt_w {h : Nat} {w : Str} (e : wOk w = true) : Bt h 82 (.str w) := by
  rw [wOk, Bool.and_eq_true, decide_eq_true_eq] at e
  exact Bt.str e.1 e.2
theorem bt2 {h a : Nat} {w : Str} {x : D} (e : wOk w = true) (x1 : Bt h a x) : Bt (h + 1) (a + 89) (.tuple [.str w, x]) :=
  (Bt.tup (BtL.cons (bt_w e) (BtL.cons x1 (BtL.nil (t := 0))))).to (Nat.le_refl _) (by omega)
theorem bt3 {h a b : Nat} {w : Str} {x y : D} (e : wOk w = true) (x1 : Bt h a x) (x2 : Bt h b y) : Bt (h + 1) (a + b + 91) (.tuple [.str w, x, y]) :=
  (Bt.tup (BtL.cons (bt_w e) (BtL.cons x1 (BtL.cons x2 (BtL.nil (t := 0)))))).to (Nat.le_refl _) (by omega)
theorem bt4 {h a b c : Nat} {w : Str} {x y z : D} (e : wOk w = true) (x1 : Bt h a x) (x2 : Bt h b y) (x3 : Bt h c z) : Bt (h + 1) (a + b + c + 93) (.tuple [.str w, x, y, z]) :=
  (Bt.tup (BtL.cons (bt_w e) (BtL.cons x1 (BtL.cons x2 (BtL.cons x3 (BtL.nil (t := 0))))))).to (Nat.le_refl _) (by omega)
/-- small letters, one to so many -/
def wrd (hi : Nat) (z : Str) : Prop := 1 ≤ z.length ∧ z.length ≤ hi ∧ ∀ c ∈ tl z, 97 ≤ c ∧ c ≤ 122
theorem wrd.ok {hi : Nat} {z : Str} (h : wrd hi z) : PyData.strOk z = true := by
  unfold PyData.strOk
  rw [Array.all_eq_true']
  intro c hc
  have := h.2.2 c (by simpa using hc)
  simp
  omega
theorem wrd.lit {hi : Nat} {z : Str} (h : decide (1 ≤ z.length ∧ z.length ≤ hi ∧ ∀ c ∈ tl z, 97 ≤ c ∧ c ≤ 122) = true) : wrd hi z := @of_decide_eq_true (1 ≤ z.length ∧ z.length ≤ hi ∧ ∀ c ∈ tl z, 97 ≤ c ∧ c ≤ 122) _ h
def wrdL (hi : Nat) (xs : List D) : Prop := ∀ x ∈ xs, ∃ z, x = .str z ∧ wrd hi z
theorem wrdL.app {hi : Nat} {xs ys : List D} (h : wrdL hi xs) (h' : wrdL hi ys) : wrdL hi (xs ++ ys) := fun d m => (List.mem_append.mp m).elim (h d) (h' d)
theorem wrdL.one {hi : Nat} {z : Str} (h : wrd hi z) : wrdL hi [.str z] := fun d m => ⟨z, List.mem_singleton.mp m, h⟩
/-- its draws number at most b -/
def namesF (b : Nat) : DFP := fun ds n Q => ∃ m : Nat, ds = [.int (m : Int)] ∧ m ≤ 20 ∧ n + b ≤ penLim ∧ ∀ (xs : List D) (n' : Nat), xs.length = m → wrdL 9 xs → n' ≤ n + b → Q (.list xs) n'
def numF (b : Nat) : DFP := fun ds n Q => ds = [] ∧ n + b ≤ penLim ∧ ∀ (i : Int) (n' : Nat), i.natAbs < 10 ^ 40 → n' ≤ n + b → Q (.int i) n'
section
variable {P : Program} {w : World} {K : PySem.W.Frag} {mg : Str → Option Value} {base : Heap}
end

/-! ### drawn names, none of them kept -/
def nmL (xs : List D) : Prop := ∀ x ∈ xs, ∃ z, x = .str z ∧ isName (.str z) = true
theorem nmL.app {xs ys : List D} (h : nmL xs) (h' : nmL ys) : nmL (xs ++ ys) := fun d m => (List.mem_append.mp m).elim (h d) (h' d)
theorem nmL.one {z : Str} (h : isName (.str z) = true) : nmL [.str z] := fun d m => ⟨z, List.mem_singleton.mp m, h⟩
theorem name_of {z : Str} (h : wrd 8 z) (hk : kept.contains z = false) : isName (.str z) = true := by
  simp only [isName]
  rw [hk, Bool.and_eq_true, Bool.and_eq_true, Bool.and_eq_true, decide_eq_true_eq, decide_eq_true_eq, List.all_eq_true]
  refine ⟨⟨rfl, h.1, h.2.1⟩, fun c hc => ?_⟩
  have hc := h.2.2 c hc
  rw [decide_eq_true_eq, tl_small, List.mem_map]
  exact ⟨c - 97, List.mem_range.mpr (by omega), by omega⟩
theorem name_w {z : Str} (h : isName (.str z) = true) : wrd 8 z := by
  simp only [isName] at h
  rw [Bool.and_eq_true, Bool.and_eq_true, Bool.and_eq_true, decide_eq_true_eq, decide_eq_true_eq, List.all_eq_true] at h
  refine ⟨h.1.2.1, h.1.2.2, fun c hc => ?_⟩
  have := h.2 c hc
  rw [decide_eq_true_eq, tl_small, List.mem_map] at this
  obtain ⟨i, hi, rfl⟩ := this
  have := List.mem_range.mp hi
  omega
def namesG (b : Nat) : DFP := fun ds n Q => ∃ m : Nat, ds = [.int (m : Int)] ∧ m ≤ 20 ∧ n + b ≤ penLim ∧ ∀ (xs : List D) (n' : Nat), xs.length = m → nmL xs → n' ≤ n + b → Q (.list xs) n'
section
variable {P : Program} {w : World} {K : PySem.W.Frag} {mg : Str → Option Value} {base : Heap}
end

/-! ### texts in order: one list only -/
theorem ltC_asymm : ∀ a b : List Nat, ltCps a b = true → ltCps b a = false
  | [], [], h => by cases h
  | [], _ :: _, _ => rfl
  | _ :: _, [], h => by cases h
  | a :: r, b :: t, h => by
    simp only [ltCps, Bool.or_eq_true, decide_eq_true_eq, Bool.and_eq_true, beq_iff_eq] at h
    have ih := ltC_asymm r t
    simp only [ltCps]
    rcases h with h | ⟨rfl, h⟩
    · have h1 : ¬ b < a := by omega
      have h2 : (b == a) = false := by simp; omega
      simp [h1, h2]
    · simp [ih h]
theorem ltC_tri : ∀ a b : List Nat, ltCps a b = false → ltCps b a = false → a = b
  | [], [], _, _ => rfl
  | [], _ :: _, h, _ => by cases h
  | _ :: _, [], _, h => by cases h
  | a :: r, b :: t, h, h' => by
    simp only [ltCps, Bool.or_eq_false_iff, decide_eq_false_iff_not, Bool.and_eq_false_imp, beq_iff_eq] at h h'
    obtain rfl : a = b := by omega
    rw [ltC_tri r t (h.2 rfl) (h'.2 rfl)]
theorem ltC_trans : ∀ a b c : List Nat, ltCps a b = true → ltCps b c = true → ltCps a c = true
  | a, [], c, h, h' => by
    have e : ltCps a [] = false := by cases a <;> rfl
    rw [e] at h
    cases h
  | [], _ :: _, [], _, h' => by cases h'
  | _ :: _, _ :: _, [], _, h' => by cases h'
  | [], _ :: _, _ :: _, _, _ => rfl
  | a :: r, b :: t, c :: u, h, h' => by
    simp only [ltCps, Bool.or_eq_true, decide_eq_true_eq, Bool.and_eq_true, beq_iff_eq] at h h' ⊢
    rcases h with h | ⟨rfl, h⟩
    · rcases h' with h' | ⟨rfl, h'⟩
      · exact .inl (by omega)
      · exact .inl h
    · rcases h' with h' | ⟨rfl, h'⟩
      · exact .inl h'
      · exact .inr ⟨rfl, ltC_trans r t u h h'⟩
/-- not behind -/
def leS (a b : Str) : Prop := ltCps b.cps.toList a.cps.toList = false
theorem leS_trans {a b c : Str} (h : leS a b) (h' : leS b c) : leS a c := by
  unfold leS at *
  cases e : ltCps c.cps.toList a.cps.toList with
  | false => rfl
  | true =>
    cases e2 : ltCps a.cps.toList b.cps.toList with
    | true => rw [ltC_trans _ _ _ e e2] at h'; cases h'
    | false =>
      have := ltC_tri _ _ e2 h
      rw [this] at e
      rw [e] at h'; cases h'
theorem leS_anti {a b : Str} (h : leS a b) (h' : leS b a) : a = b := by
  have := ltC_tri _ _ h' h
  cases a; cases b
  simp at this
  rw [this]
theorem risingS_pw : ∀ (l : List Str) (p : Str), risingS p l = true → (p :: l).Pairwise leS
  | [], p, _ => List.pairwise_singleton _ _
  | x :: r, p, h => by
    simp only [risingS, Bool.and_eq_true, Bool.not_eq_true'] at h
    have ih := risingS_pw r x h.2
    refine List.pairwise_cons.mpr ⟨fun y m => ?_, ih⟩
    rcases List.mem_cons.mp m with rfl | m
    · exact h.1
    · exact leS_trans h.1 ((List.pairwise_cons.mp ih).1 y m)
theorem sortedS_pw : ∀ {l : List Str}, sortedS l = true → l.Pairwise leS
  | [], _ => List.Pairwise.nil
  | x :: r, h => risingS_pw r x h
/-- two lists in order with the same members, each once, are one -/
theorem pw_uniq : ∀ {l m : List Str}, l.Pairwise leS → m.Pairwise leS → l.Nodup → m.Nodup → (∀ x, x ∈ l ↔ x ∈ m) → l = m
  | [], m, _, _, _, _, h => by
    cases m with
    | nil => rfl
    | cons y m => exact nomatch (h y).mpr (List.mem_cons_self ..)
  | x :: l, [], _, _, _, _, h => nomatch (h x).mp (List.mem_cons_self ..)
  | x :: l, y :: m, hl, hm, nl, nm, h => by
    have hl' := List.pairwise_cons.mp hl
    have hm' := List.pairwise_cons.mp hm
    have nl' := List.nodup_cons.mp nl
    have nm' := List.nodup_cons.mp nm
    have e : x = y := by
      have h1 : x = y ∨ x ∈ m := List.mem_cons.mp ((h x).mp (List.mem_cons_self ..))
      have h2 : y = x ∨ y ∈ l := List.mem_cons.mp ((h y).mpr (List.mem_cons_self ..))
      rcases h1 with h1 | h1
      · exact h1
      rcases h2 with h2 | h2
      · exact h2.symm
      exact leS_anti (hl'.1 y h2) (hm'.1 x h1)
    subst e
    rw [pw_uniq hl'.2 hm'.2 nl'.2 nm'.2 fun z => ?_]
    constructor
    · intro hz
      rcases List.mem_cons.mp ((h z).mp (List.mem_cons_of_mem _ hz)) with rfl | hz'
      · exact absurd hz nl'.1
      · exact hz'
    · intro hz
      rcases List.mem_cons.mp ((h z).mpr (List.mem_cons_of_mem _ hz)) with rfl | hz'
      · exact absurd hz nm'.1
      · exact hz'

/-! ### the law's names -/
section
variable {P : Program} {w : World} {K : PySem.W.Frag} {mg : Str → Option Value} {base : Heap}
def names8F (b : Nat) : DFP := fun ds n Q => ∃ m : Nat, ds = [.int (m : Int)] ∧ m ≤ 20 ∧ n + b ≤ penLim ∧ ∀ (xs : List D) (n' : Nat), xs.length = m → wrdL 8 xs → n' ≤ n + b → Q (.list xs) n'
theorem ok__law_names5 (T : Tx w K mg) (O__law_take : Ok P w K mg base 2 "_law_take" ["_law_pen", "_law_many"] (spP K 1 .E takeF)) : Ok P w K mg base 3 "_law_names" ["_law_pen", "_law_many"] (spP K 1 .E (names8F 100)) := by
  refine Ok.ofP (M := []) T.d__law_names sc__law_names rfl (by decide) (by decide) fun f cdv A outer s H E p c hr => ⟨_, _, (pss_cons (ps_set (i := 2) sc__law_names.nd rfl (Or.inr rfl) (pe_str))
 (pss_cons (ps_set (i := 3) sc__law_names.nd rfl (Or.inr rfl) (joinK K rfl (pe_str) (pe_lc (own := [("_law_k", 4)]) rfl sc__law_names.nd (pi_range1 (by rfl) T.z_range (pa_cons (pe_fn O__law_take (hr.mono (by omega)) (by rfl) (pa_cons (pv 0) (pa_cons (pe_int) (pa_nil)))) (pa_nil))) (blkOk_by (own := [("_law_k", 4)]) (N := ["_law_pen", "_law_many", "_law_letters", "_law_stem", "_law_k", "_law_at", "_law_first"]) (sc := defScope s__law_names) (by decide +kernel)) (fun _ _ _ _ _ => pg_nameL (i := 4) sc__law_names.nd rfl rfl) (fun _ _ _ _ _ => pts_nil) (fun _ _ _ _ _ => pe_ix (ixG K rfl (u65 hr.toRoom)) (pv 2) (pe_fn O__law_take (hr.mono (by omega)) (by rfl) (pa_cons (pv 0) (pa_cons (pe_int) (pa_nil)))) (fun _ _ => rfl)))))
 (pss_cons (ps_set (i := 5) sc__law_names.nd rfl (Or.inr rfl) (pe_fn O__law_take (hr.mono (by omega)) (by rfl) (pa_cons (pv 0) (pa_cons (pe_op (addG K rfl) (pe_callB (lenG K rfl) (by rfl) T.z_len boot_len (pa_cons (pv 3) (pa_nil))) (pe_int)) (pa_nil)))))
 (pss_cons (ps_set (i := 6) sc__law_names.nd rfl (Or.inr rfl) (pe_fn O__law_take (hr.mono (by omega)) (by rfl) (pa_cons (pv 0) (pa_cons (pe_int) (pa_nil)))))
 (pss_one (ps_ret (pe_lc (own := [("_law_k", 4)]) rfl sc__law_names.nd (pi_range1 (by rfl) T.z_range (pa_cons (pv 1) (pa_nil))) (blkOk_by (own := [("_law_k", 4)]) (N := ["_law_pen", "_law_many", "_law_letters", "_law_stem", "_law_k", "_law_at", "_law_first"]) (sc := defScope s__law_names) (by decide +kernel)) (fun _ _ _ _ _ => pg_nameL (i := 4) sc__law_names.nd rfl rfl) (fun _ _ _ _ _ => pts_nil) (fun _ _ _ _ _ => pe_op (addG K rfl) (pe_op (addG K rfl) (pe_slice (slG K rfl) (pv 3) po_none (po_some (pv 5))) (pe_ix (ixG K rfl (u65 hr.toRoom)) (pv 2) (pe_op op_mod (pe_op (addG K rfl) (pv 6) (pe_op mulG (pe_int) (pv 4))) (pe_int)) (fun _ _ => rfl))) (pe_slice (slG K rfl) (pv 3) (po_some (pv 5)) po_none))))))))),
 (simS_seq (simS_set 2 (nm rfl) (np rfl) (sim_str _))
 (simS_seq (simS_set 3 (nm rfl) (np rfl) (sim_join (sim_str _) (sim_lc (simI_range1 (sim_callP (by simp) rfl (simA_cons (sim_int _) (simA_nil)))) (simG_name 4 (nm rfl) (np rfl)) (simT_yes) (opA_ix (sim_var 2 (nm rfl)) (sim_callP (by simp) rfl (simA_cons (sim_int _) (simA_nil)))) (inv' rfl) (nmv rfl) (npv rfl))))
 (simS_seq (simS_set 5 (nm rfl) (np rfl) (sim_callP (by simp) rfl (simA_cons (sim_op opA_add (sim_cb caA_len (simA_cons (sim_var 3 (nm rfl)) (simA_nil))) (sim_int _)) (simA_nil))))
 (simS_seq (simS_set 6 (nm rfl) (np rfl) (sim_callP (by simp) rfl (simA_cons (sim_int _) (simA_nil))))
 (simS_ret (Sim.toE (sim_lc (simI_range1 (sim_var 1 (nm rfl))) (simG_name 4 (nm rfl) (np rfl)) (simT_yes) (sim_op opA_add (sim_op opA_add (sim_sl (sim_var 3 (nm rfl)) simO_none (simO_some (sim_var 5 (nm rfl)))) (opA_ix (sim_var 2 (nm rfl)) (sim_op opA_mod (sim_op opA_add (sim_var 6 (nm rfl)) (sim_op opA_mul (sim_int _) (sim_var 4 (nm rfl)))) (sim_int _)))) (sim_sl (sim_var 3 (nm rfl)) (simO_some (sim_var 5 (nm rfl))) simO_none)) (inv' rfl) (nmv rfl) (npv rfl)))))))), ?_⟩
  rintro ds m Q hl ⟨many, rfl, hmany, hm, k⟩
  have zl : (Str.ofString "abcdefghijklmnopqrstuvwxyz").length ≤ sizeLine := by decide +kernel
  have zat : ∀ r : Int, 0 ≤ r → r < 26 → atI (tl (Str.ofString "abcdefghijklmnopqrstuvwxyz")) r = some (97 + r.toNat) := fun r r0 r1 => by
    refine atI_of r.toNat (by (first | omega | (dsimp only; omega) | (dsimp only at *; omega))) ?_
    rw [tl_small, List.getElem?_map, List.getElem?_range (by (first | omega | (dsimp only; omega) | (dsimp only at *; omega)))]
    rfl
  refine tk_ok (by (first | omega | (dsimp only; omega) | (dsimp only at *; omega))) (by decide) (by decide) fun q q0 q1 => ?_
  refine ⟨⟨by (first | omega | (dsimp only; omega) | (dsimp only at *; omega)), by (first | omega | (dsimp only; omega) | (dsimp only at *; omega))⟩, by rw [rgD_len]; exact small_line (by (first | omega | (dsimp only; omega) | (dsimp only at *; omega))), lcD_ind (fun i acc s => ∃ (cs : List Nat) (m' : Nat), acc = ones cs ∧ cs.length = i ∧ i ≤ 7 ∧ (∀ c ∈ cs, 97 ≤ c ∧ c ≤ 122) ∧ s = { δ := [none, some (.int many), some (.str (Str.ofString "abcdefghijklmnopqrstuvwxyz")), none, none, none, none], n := m' } ∧ m' ≤ m + 1 + i) ⟨[], _, rfl, rfl, by decide, (fun c h => nomatch h), rfl, Nat.le_refl _⟩ ?_ ?_⟩
  · rintro i d acc s N hi ⟨cs, m', rfl, hc, h8, hcs, rfl, hm'⟩ hN
    obtain ⟨hi, rfl⟩ := rgD_get hi
    refine tk_ok (by (first | omega | (dsimp only; omega) | (dsimp only at *; omega))) (by decide) (by decide) fun r r0 r1 => ?_
    refine ixs_ok zl (zat r r0 r1) ?_
    refine hN _ _ ⟨cs ++ [97 + r.toNat], _, by unfold ones; rw [List.map_append]; rfl, by rw [List.length_append, hc]; rfl, by (first | omega | (dsimp only; omega) | (dsimp only at *; omega)), fun c hc => ?_, rfl, by (first | omega | (dsimp only; omega) | (dsimp only at *; omega))⟩
    rcases List.mem_append.mp hc with h | h
    · exact hcs c h
    · rw [List.mem_singleton.mp h]; (first | omega | (dsimp only; omega) | (dsimp only at *; omega))
  rintro acc s ⟨cs, m', rfl, hc, h8, hcs, rfl, hm'⟩
  rw [rgD_len] at hc h8 hm'
  refine ⟨_, strs_ones cs, ?_, ?_⟩
  · rw [ones_sum, TL.len_tl, tl_e]
    simp
    (first | omega | (dsimp only; omega) | (dsimp only at *; omega))
  rw [join_ones]
  have ln : (Sg cs : Str).length = cs.length := sg_len cs
  have hcs7 : cs.length ≤ 7 := by (first | omega | (dsimp only; omega) | (dsimp only at *; omega))
  refine ⟨by rw [ln]; exact small_line (by (first | omega | (dsimp only; omega) | (dsimp only at *; omega))), ?_⟩
  rw [ln]
  refine tk_ok (by (first | omega | (dsimp only; omega) | (dsimp only at *; omega))) (by (first | omega | (dsimp only; omega) | (dsimp only at *; omega))) (by (first | omega | (dsimp only; omega) | (dsimp only at *; omega))) fun at_ a0 a1 => ?_
  refine tk_ok (by (first | omega | (dsimp only; omega) | (dsimp only at *; omega))) (by decide) (by decide) fun fst f0 f1 => ?_
  obtain ⟨j, rfl⟩ : ∃ j : Nat, at_ = (j : Int) := ⟨at_.toNat, by (first | omega | (dsimp only; omega) | (dsimp only at *; omega))⟩
  have hj : j ≤ cs.length := by (first | omega | (dsimp only; omega) | (dsimp only at *; omega))
  refine ⟨⟨by (first | omega | (dsimp only; omega) | (dsimp only at *; omega)), by (first | omega | (dsimp only; omega) | (dsimp only at *; omega))⟩, by rw [rgD_len]; exact small_line (by (first | omega | (dsimp only; omega) | (dsimp only at *; omega))), lcD_ind (fun i acc s => acc.length = i ∧ wrdL 8 acc ∧ s = { δ := [none, some (.int many), some (.str (Str.ofString "abcdefghijklmnopqrstuvwxyz")), some (.str (Sg cs)), none, some (.int (j : Nat)), some (.int fst)], n := m' + 1 + 1 }) ⟨rfl, (fun d h => nomatch h), rfl⟩ ?_ ?_⟩
  · rintro i d acc s N hi ⟨hc, hw, rfl⟩ hN
    obtain ⟨hi, rfl⟩ := rgD_get hi
    refine ⟨by rw [ln]; exact small_line (by (first | omega | (dsimp only; omega) | (dsimp only at *; omega))), ?_⟩
    rw [cutS_to]
    refine ⟨mulOk (lt2000 (by decide)) (lt2000 (Nat.lt_of_le_of_lt (show (0 + (i : Nat) : Int).natAbs ≤ 100 by (first | omega | (dsimp only; omega) | (dsimp only at *; omega))) (by decide))), by decide, ?_⟩
    have hr := Int.emod_nonneg (fst + 5 * (0 + (i : Nat))) (show (26 : Int) ≠ 0 by decide)
    have hr' := Int.emod_lt_of_pos (fst + 5 * (0 + (i : Nat))) (show (0 : Int) < 26 by decide)
    refine ixs_ok zl (zat _ hr hr') ?_
    refine ⟨?_, ?_⟩
    · rw [sg_len]; show (cs.take j).length + 1 ≤ sizeLine; exact small_line (by rw [List.length_take]; (first | omega | (dsimp only; omega) | (dsimp only at *; omega)))
    refine ⟨by rw [ln]; exact small_line (by (first | omega | (dsimp only; omega) | (dsimp only at *; omega))), ?_⟩
    rw [cutS_from cs j hj]
    have e : (Sg (cs.take j) ++ (⟨#[97 + ((fst + 5 * (0 + (i : Nat))) % 26).toNat]⟩ : Str)) = Sg (cs.take j ++ [97 + ((fst + 5 * (0 + (i : Nat))) % 26).toNat]) := sg_app _ _
    refine ⟨?_, ?_⟩
    · rw [e, sg_len, sg_len]; refine small_line ?_; rw [List.length_append, List.length_take, List.length_drop, List.length_singleton]; (first | omega | (dsimp only; omega) | (dsimp only at *; omega))
    rw [e, sg_app]
    refine hN _ _ ⟨by rw [List.length_append, hc]; rfl, hw.app (.one ⟨?_, ?_, fun c hc => ?_⟩), rfl⟩
    · rw [sg_len, List.length_append, List.length_append, List.length_singleton]; (first | omega | (dsimp only; omega) | (dsimp only at *; omega))
    · rw [sg_len, List.length_append, List.length_append, List.length_singleton, List.length_take, List.length_drop]; (first | omega | (dsimp only; omega) | (dsimp only at *; omega))
    · have hc : c ∈ cs.take j ++ [97 + ((fst + 5 * (0 + (i : Nat))) % 26).toNat] ++ cs.drop j := hc
      rcases List.mem_append.mp hc with h | h
      · rcases List.mem_append.mp h with h | h
        · exact hcs c (List.mem_of_mem_take h)
        · rw [List.mem_singleton.mp h]; (first | omega | (dsimp only; omega) | (dsimp only at *; omega))
      · exact hcs c (List.mem_of_mem_drop h)
  · rintro acc s ⟨hc, hw, rfl⟩
    rw [rgD_len] at hc
    exact k acc _ (by (first | omega | (dsimp only; omega) | (dsimp only at *; omega))) hw (by (first | omega | (dsimp only; omega) | (dsimp only at *; omega)))
theorem ok__law_free_names5 (T : Tx w K mg) (O__law_names : Ok P w K mg base 3 "_law_names" ["_law_pen", "_law_many"] (spP K 1 .E (names8F 100))) : Ok P w K mg base 4 "_law_free_names" ["_law_pen", "_law_many"] (spP K 1 .E (namesG 100)) := by
  refine Ok.ofP (M := []) T.d__law_free_names sc__law_free_names rfl (by decide) (by decide) fun f cdv A outer s H E p c hr => ⟨_, _, (pss_one (ps_ret (pe_lc (own := [("_law_name", 2)]) rfl sc__law_free_names.nd (piL K rfl (pe_fn O__law_names (hr.mono (by omega)) (by rfl) (pa_cons (pv 0) (pa_cons (pv 1) (pa_nil))))) (blkOk_by (own := [("_law_name", 2)]) (N := ["_law_pen", "_law_many", "_law_name"]) (sc := defScope s__law_free_names) (by decide +kernel)) (fun _ _ _ _ _ => pg_nameL (i := 2) sc__law_free_names.nd rfl rfl) (fun _ _ _ _ _ => pts_nil) (fun _ _ _ _ _ => pe_ix (ixG K rfl (u65 hr.toRoom)) (pe_lst (pa_cons (pe_op (addG K rfl) (pe_str) (pv 2)) (pa_cons (pv 2) (pa_nil)))) (pe_callTy call_int1 (by rfl) T.z_int boot_int (pa_cons (pe_cmpR (ninG K rfl (u65 hr.toRoom)) (pv 2) (pe_tup (pa_cons (pe_str) (pa_cons (pe_str) (pa_cons (pe_str) (pa_nil))))) (by rfl)) (pa_nil))) (fun _ _ => rfl))))),
 (simS_ret (Sim.toE (sim_lc (simI_list (sim_callP (by simp) rfl (simA_cons (sim_var 1 (nm rfl)) (simA_nil)))) (simG_name 2 (nm rfl) (np rfl)) (simT_yes) (opA_ix (sim_lst (by decide) (simA_cons (sim_op opA_add (sim_str _) (sim_var 2 (nm rfl))) (simA_cons (sim_var 2 (nm rfl)) (simA_nil)))) (sim_cb caA_int (simA_cons (sim_op opA_nin (sim_var 2 (nm rfl)) (sim_tup (by decide) (simA_cons (sim_str _) (simA_cons (sim_str _) (simA_cons (sim_str _) (simA_nil)))))) (simA_nil)))) (inv' rfl) (nmv rfl) (npv rfl)))), ?_⟩
  rintro ds m Q hl ⟨many, rfl, hmany, hm, k⟩
  refine ⟨many, rfl, hmany, hm, fun xs n1 hx hw hn1 => ?_⟩
  refine ⟨small_line (by omega), lcD_ind (fun i acc s => acc.length = i ∧ nmL acc ∧ s = { δ := [none, some (.int many), none], n := n1 }) ⟨rfl, (fun d h => nomatch h), rfl⟩ ?_ ?_⟩
  · rintro i d acc s N hi ⟨hc, ha, rfl⟩ hN
    obtain ⟨z, rfl, hz⟩ := hw d (List.mem_of_getElem? hi)
    have fin : ∀ y, isName (.str y) = true → N (acc ++ [.str y]) { δ := [none, some (.int many), none], n := n1 } := fun y hy => hN _ _ ⟨by rw [List.length_append, hc]; rfl, ha.app (.one hy), rfl⟩
    have hzl := hz.2.1
    refine ⟨?_, rfl, rfl, ?_⟩
    · have : (Str.ofString "q").length = 1 := by decide +kernel
      rw [this]
      exact small_line (by (first | omega | (dsimp only; omega) | (dsimp only at *; omega)))
    have ek : ([PyData.str (Str.ofString "left"), .str (Str.ofString "given"), .str (Str.ofString "own")].any fun z_1 => eqF z_1 (.str z)) = kept.contains z := by
      rw [Bool.eq_iff_iff, List.contains_iff_mem]
      simp only [List.any_cons, List.any_nil, eqF, Bool.or_eq_true, beq_iff_eq, Bool.or_false, kept, List.mem_cons, List.not_mem_nil, or_false]
      constructor
      · rintro (h | h | h) <;> simp [← h]
      · rintro (h | h | h) <;> simp [h]
    rw [ek]
    cases hb : kept.contains z with
    | true =>
      refine ix_ok 0 rfl rfl (fin _ ?_)
      have hk := List.contains_iff_mem.mp hb
      simp only [kept, List.mem_cons, List.not_mem_nil, or_false] at hk
      rcases hk with rfl | rfl | rfl <;> decide +kernel
    | false => exact ix_ok 1 rfl rfl (fin _ (name_of hz hb))
  · rintro acc s ⟨hc, ha, rfl⟩
    exact k acc _ (by (first | omega | (dsimp only; omega) | (dsimp only at *; omega))) ha hn1
end

/-! ### the notion terms within a thing -/
def isNot : D → Bool
  | .tuple (.str x :: _) => decide (x = Str.ofString "notion")
  | _ => false
def ntsOf : Nat → D → List D
  | 0, _ => []
  | k + 1, d => (if isNot d = true then [d] else []) ++ (partsOf d).flatMap (ntsOf k)
theorem flat_len {f : D → List D} : ∀ (ps : List D), (∀ p ∈ ps, (f p).length ≤ sz p) → (ps.flatMap f).length ≤ szAll ps
  | [], _ => by simp [szAll]
  | p :: ps, h => by
    have h1 := h p (List.mem_cons_self ..)
    have h2 := flat_len ps fun q m => h q (List.mem_cons_of_mem _ m)
    rw [List.flatMap_cons, List.length_append]
    simp only [szAll]
    omega
theorem szAll_snoc (z : D) : ∀ a : List D, szAll (a ++ [z]) = szAll a + sz z + 2
  | [] => by simp only [List.nil_append, szAll]; omega
  | b :: a => by rw [List.cons_append]; simp only [szAll]; rw [szAll_snoc z a]; omega
theorem sz_tup (ds : List D) : 3 ≤ sz (.tuple ds) := by simp only [sz]; omega
theorem nts_len : ∀ (k : Nat) (d : D), isThing k d → (ntsOf k d).length ≤ sz d
  | 0, d, _ => by simp [ntsOf]
  | k + 1, d, h => by
    obtain ⟨j, e, hp⟩ := parts_things h
    obtain rfl : k = j := by omega
    have h1 := flat_len (f := ntsOf k) (partsOf d) fun p m => nts_len k p (hp p m)
    have h3 : 3 ≤ sz d := by
      obtain ⟨s, hs, h⟩ := h
      obtain ⟨j, x, ps, a, b, _, rfl, _⟩ := hf_inv hs h
      exact sz_tup _
    rw [ntsOf, List.length_append]
    have h2 : (if isNot d = true then [d] else []).length ≤ 1 := by split <;> simp
    rcases szAll_parts d with h4 | h4
    · omega
    · rw [h4] at h1 ⊢
      simp only [List.flatMap_nil, List.length_nil] at h1 ⊢
      omega
def gnF (k : Nat) : List D → (D → D → Prop) → Prop := fun ds Q => ∃ d acc, ds = [d, .list acc] ∧ Ok1 k d ∧ isThing k d ∧ acc.length + sz d ≤ 10000000 ∧ Q .none (.list (acc ++ ntsOf k d))
section
variable {P : Program} {w : World} {K : PySem.W.Frag} {mg : Str → Option Value} {base : Heap}
theorem gnot_body (T : Tx w K mg) (O_parts_of : Ok P w K mg base 2 "parts_of" ["thing"] (spN K 1 .E partsF)) {k l : Nat} (hk : k ≤ 60) (hl2 : 2 ≤ l) {F : List D → (D → D → Prop) → Prop}
    (hF : ∀ j, k = j + 1 → ∀ ds Q, gnF j ds Q → F ds Q) (O_gather_notions : Ok P w K mg base l "gather_notions" ["thing", "found"] (spB K 1 2 F)) : Ok P w K mg base (l + 1) "gather_notions" ["thing", "found"] (spB K 1 2 (gnF k)) := by
  refine Ok.ofB (M := []) T.d_gather_notions sc_gather_notions rfl (by decide) (by decide) fun f cdv A outer s H E p hr => ⟨_, _, (pss_cons (ps_if (pt_cmpR (eqG K rfl hr.units) (pe_ix (ixG K rfl (u65 hr.toRoom)) (pv 0) (pe_int) (fun _ _ => rfl)) (pe_str) (nomark _))
 (pss_one (ps_expr (appK K rfl (pv 1) (pv 0))))
 (pss_nil))
 (pss_one (ps_for PassesOwn.never rfl (piL K rfl (pe_fn O_parts_of (hr.mono (by omega)) (by rfl) (pa_cons (pv 0) (pa_nil)))) (pg_nameL (i := 2) sc_gather_notions.nd rfl rfl)
 (pss_one (ps_expr (pe_fn O_gather_notions (hr.mono (by omega)) (by rfl) (pa_cons (pv 2) (pa_cons (pv 1) (pa_nil))))))))),
 (simS_cut (simS_if (simT_test (sim_op opA_eq (opA_ix (sim_var 0 (nm rfl)) (sim_int _)) (sim_str _)))
 (simS_drop (sim_mt 1 (ym rfl) mtA_app (simA_cons (sim_var 0 (nm rfl)) simA_nil)))
 (simS_next))
 (simS_for (simI_list (sim_call (simA_cons (sim_var 0 (nm rfl)) (simA_nil)))) (simG_name 2 (nm rfl) (np rfl))
 (simS_drop (sim_callB (ym rfl) (by decide) (simB_cons (sim_var 2 (nm rfl)) (simB_here (ym rfl) (simA_nil))))))), ?_⟩
  rintro ds Q hl ⟨d, acc, rfl, ho, ht, hlen, q⟩
  have ht' := ht
  obtain ⟨s, hs, h⟩ := ht
  obtain ⟨j, x, ps, a, b, rfl, rfl, e, _, eb, hlp, hp⟩ := hf_inv hs h
  have h3 := sz_tup (.str x :: ps)
  have ei : isNot (.tuple (.str x :: ps)) = decide (x = Str.ofString "notion") := rfl
  obtain ⟨acc1, ea⟩ : ∃ l, l = acc ++ (if isNot (.tuple (.str x :: ps)) = true then [PyData.tuple (.str x :: ps)] else []) := ⟨_, rfl⟩
  refine ⟨fun s => s = { δ := [some (.tuple (.str x :: ps)), some (.list acc1), none], n := 0 }, ?_, ?_⟩
  · refine ifS (b := decide (x = Str.ofString "notion")) (fun Q q => ix_ok 0 rfl rfl q) (fun hx => ?_) (fun hx => ?_)
    · rw [← ei] at hx
      rw [ea, if_pos hx]
      exact ⟨⟨_, rfl⟩, Nat.lt_of_le_of_lt (show acc.length ≤ 10000000 by omega) (by decide), rfl⟩
    · rw [← ei] at hx
      rw [ea, if_neg (by rw [hx]; exact Bool.false_ne_true), List.append_nil]
      rfl
  rintro _ rfl
  obtain ⟨j', ej', hpt⟩ := parts_things ht'
  obtain rfl : j = j' := by omega
  have hpb := parts_bt ho
  have hsz := szAll_parts (.tuple (.str x :: ps))
  have q : Q .none (.list (acc1 ++ (partsOf (.tuple (.str x :: ps))).flatMap (ntsOf j))) := by rw [ea, List.append_assoc]; exact q
  have hl1 : acc1.length ≤ acc.length + 1 := by rw [ea, List.length_append]; split <;> simp
  generalize hP : partsOf (.tuple (.str x :: ps)) = parts at q hpt hpb hsz
  refine ⟨j + 1, _, rfl, hk, ho, ht', ?_⟩
  rw [hP]
  refine forD_ind (fun i s => ∃ o, s = { δ := [some (.tuple (.str x :: ps)), some (.list (acc1 ++ (parts.take i).flatMap (ntsOf j))), o], n := 0 }) ⟨none, by simp⟩ ?_ ?_
  · rintro i z s N hi ⟨o, rfl⟩ hN
    have hzm := List.mem_of_getElem? hi
    have htk : parts.take (i + 1) = parts.take i ++ [z] := by rw [List.take_add_one, hi]; rfl
    have hfl := flat_len (f := ntsOf j) (parts.take i) fun p m => nts_len j p (hpt p (List.mem_of_mem_take m))
    have hs2 : szAll (parts.take i) + sz z + 2 ≤ szAll parts := by
      have h5 := szAll_sub (List.take_sublist (i + 1) parts)
      rw [htk, szAll_snoc] at h5
      exact h5
    refine ⟨⟨_, rfl⟩, hF j rfl _ _ ⟨z, _, rfl, (hpb z hzm).to (by omega) (Nat.le_refl _), hpt z hzm, ?_, ?_⟩⟩
    · rw [List.length_append]
      rcases hsz with h7 | h7
      · omega
      · rw [h7] at hzm; exact nomatch hzm
    · refine hN _ ⟨some z, ?_⟩
      rw [htk, List.flatMap_append, ← List.append_assoc]
      simp
  · rintro s ⟨o, rfl⟩
    intro dj hdj
    rw [List.take_length] at hdj
    cases hdj
    exact q
end
/-! ### notion_terms, notions_in -/
section
variable {P : Program} {w : World} {K : PySem.W.Frag} {mg : Str → Option Value} {base : Heap}
theorem ok_gather_notions (T : Tx w K mg) : ∀ k, k ≤ 60 → Ok P w K mg base (k + 3) "gather_notions" ["thing", "found"] (spB K 1 2 (gnF k))
  | 0, hk => by
    have O : Ok P w K mg base 2 "gather_notions" ["thing", "found"] (spB K 1 2 fun _ _ => False) := (Ok.no T.d_gather_notions sc_gather_notions (fun vs H Q E ⟨_, _, _, _, _, _, _, _, _, _, _, _, _, _, _, z, _⟩ => z)).mono (by omega)
    exact gnot_body T (ok_parts_of T (ok_kinds_of T)) (by omega) (Nat.le_refl _) (fun j h => by omega) O
  | k + 1, hk => gnot_body T (ok_parts_of T (ok_kinds_of T)) hk (by omega) (F := gnF k) (fun j e ds Q h => by
      obtain rfl : k = j := by omega
      exact h) (ok_gather_notions T k (by omega))
def ntF (k : Nat) : DF := fun ds Q => ∃ d, ds = [d] ∧ Ok1 k d ∧ isThing k d ∧ Q (.list (ntsOf k d))
theorem ok_notion_terms (T : Tx w K mg) {k l : Nat} (O_gather_notions : Ok P w K mg base l "gather_notions" ["thing", "found"] (spB K 1 2 (gnF k))) : Ok P w K mg base (l + 1) "notion_terms" ["thing"] (spN K 1 .E (ntF k)) := by
  refine Ok.ofN (M := [1]) T.d_notion_terms sc_notion_terms rfl (by decide) fun f cdv A outer s H E hr => ⟨_, _, (pss_cons (ps_set (i := 1) sc_notion_terms.nd rfl (Or.inl rfl) (pe_lst (pa_nil)))
 (pss_cons (ps_expr (pe_fn O_gather_notions (hr.mono (by omega)) (by rfl) (pa_cons (pv 0) (pa_cons (pv 1) (pa_nil)))))
 (pss_one (ps_ret (pv 1))))),
 (simS_seq (simS_setM 1 (ym rfl) (nb rfl) (sim_lst (by decide) (simA_nil)))
 (simS_seq (simS_drop (sim_callB (ym rfl) (by decide) (simB_cons (sim_var 0 (nm rfl)) (simB_here (ym rfl) (simA_nil)))))
 (simS_retM 1 (ym rfl) (nb rfl)))), ?_⟩
  rintro ds Q hl ⟨d, rfl, ho, ht, q⟩
  refine ⟨rfl, ⟨_, rfl⟩, d, [], rfl, ho, ht, ?_, q⟩
  have := ho.t
  simp only [List.length_nil]
  omega
end

/-! ### drawn terms and rows, right by their form -/
theorem partB_up {r r' : Str → D → Bool} (h : ∀ s d, r s d = true → r' s d = true) {c : Nat} {p : D} (q : partB r c p = true) : partB r' c p = true := by
  unfold partB at q ⊢
  split at q
  · rename_i e; rw [if_pos e]; exact h _ _ q
  rename_i e; rw [if_neg e]
  split at q
  · rename_i e; rw [if_pos e]; exact h _ _ q
  rename_i e; rw [if_neg e]
  split at q
  · rename_i e; rw [if_pos e]; exact h _ _ q
  rename_i e; rw [if_neg e]
  split at q
  · rename_i e; rw [if_pos e]; exact q
  rename_i e; rw [if_neg e]
  split at q
  · rename_i e; rw [if_pos e]; exact q
  rename_i e; rw [if_neg e]
  split at q
  · rename_i e; rw [if_pos e]
    cases p <;> first | exact q | skip
    simp only [List.all_eq_true, Bool.or_eq_true] at q ⊢
    exact fun x hx => (q x hx).imp (h _ _) (h _ _)
  rename_i e; rw [if_neg e]; exact q
theorem hf_up : ∀ {k : Nat} {s : Str} {d : D}, hf k s d = true → hf (k + 1) s d = true
  | 0, s, d, h => by cases d <;> simp [hf] at h
  | k + 1, s, d, h => by
    cases d <;> try (simp [hf] at h; done)
    rename_i ds
    cases ds with
    | nil => simp [hf] at h
    | cons w ps =>
      simp only [hf, Bool.and_eq_true, List.all_eq_true] at h
      show (decide (sortOf w = s) && (decide (ps.length = (tl (kindsOf w)).length) && ((tl (kindsOf w)).zip ps).all fun x => partB (hf (k + 1)) x.1 x.2)) = true
      simp only [Bool.and_eq_true, List.all_eq_true]
      exact ⟨h.1, h.2.1, fun x hx => partB_up (fun s d => hf_up) (h.2.2 x hx)⟩
theorem hf_le {j k : Nat} {s : Str} {d : D} (l : j ≤ k) (h : hf j s d = true) : hf k s d = true := by
  induction l with
  | refl => exact h
  | step _ ih => exact hf_up ih
theorem hf_mk {k : Nat} {s w : Str} {ps : List D} {b : List Nat} (e1 : sortOf (.str w) = s ∧ tl (kindsOf (.str w)) = b) (h : ps.length = b.length) (hp : ∀ x ∈ b.zip ps, partB (hf k) x.1 x.2 = true) : hf (k + 1) s (.tuple (.str w :: ps)) = true := by
  show (decide (sortOf (.str w) = s) && (decide (ps.length = (tl (kindsOf (.str w))).length) && ((tl (kindsOf (.str w))).zip ps).all fun x => partB (hf k) x.1 x.2)) = true
  rw [e1.1, e1.2, Bool.and_eq_true, Bool.and_eq_true, decide_eq_true_eq, decide_eq_true_eq, List.all_eq_true]
  exact ⟨rfl, h, hp⟩
theorem hf1 {k : Nat} {s w : Str} {x : D} {a : Nat} (e1 : sortOf (.str w) = s ∧ tl (kindsOf (.str w)) = [a]) (hx : partB (hf k) a x = true) : hf (k + 1) s (.tuple [.str w, x]) = true :=
  hf_mk e1 rfl fun p hp => by
    simp only [List.zip_cons_cons, List.zip_nil_right, List.mem_singleton] at hp
    rw [hp]; exact hx
theorem hf2 {k : Nat} {s w : Str} {x y : D} {a b : Nat} (e1 : sortOf (.str w) = s ∧ tl (kindsOf (.str w)) = [a, b]) (hx : partB (hf k) a x = true) (hy : partB (hf k) b y = true) : hf (k + 1) s (.tuple [.str w, x, y]) = true :=
  hf_mk e1 rfl fun p hp => by
    simp only [List.zip_cons_cons, List.zip_nil_right, List.mem_cons, List.not_mem_nil, or_false] at hp
    rcases hp with rfl | rfl
    · exact hx
    · exact hy
theorem hf3 {k : Nat} {s w : Str} {x y z : D} {a b c : Nat} (e1 : sortOf (.str w) = s ∧ tl (kindsOf (.str w)) = [a, b, c]) (hx : partB (hf k) a x = true) (hy : partB (hf k) b y = true) (hz : partB (hf k) c z = true) : hf (k + 1) s (.tuple [.str w, x, y, z]) = true :=
  hf_mk e1 rfl fun p hp => by
    simp only [List.zip_cons_cons, List.zip_nil_right, List.mem_cons, List.not_mem_nil, or_false] at hp
    rcases hp with rfl | rfl | rfl
    · exact hx
    · exact hy
    · exact hz
abbrev sT : Str := Str.ofString "term"
abbrev sR : Str := Str.ofString "row"
abbrev sP : Str := Str.ofString "plain"
theorem pT {k : Nat} {x : D} (h : hf k sT x = true) : partB (hf k) 116 x = true := by unfold partB; rw [if_pos rfl]; exact h
theorem pR {k : Nat} {x : D} (h : hf k sR x = true) : partB (hf k) 114 x = true := by unfold partB; rw [if_neg (by decide), if_pos rfl]; exact h
theorem pP {k : Nat} {x : D} (h : hf k sP x = true) : partB (hf k) 112 x = true := by unfold partB; rw [if_neg (by decide), if_neg (by decide), if_pos rfl]; exact h
theorem pX {k : Nat} {x : D} (h : isLetter false x = true) : partB (hf k) 120 x = true := by unfold partB; rw [if_neg (by decide), if_neg (by decide), if_neg (by decide), if_pos (.inl rfl)]; exact h
theorem pY {k : Nat} {x : D} (h : isLetter true x = true) : partB (hf k) 121 x = true := by unfold partB; rw [if_neg (by decide), if_neg (by decide), if_neg (by decide), if_pos (.inr rfl)]; exact h
theorem pA {k : Nat} {x : D} (h : isName x = true) : partB (hf k) 97 x = true := by unfold partB; rw [if_neg (by decide), if_neg (by decide), if_neg (by decide), if_neg (by decide), if_pos rfl]; exact h
theorem pB {k : Nat} {qs : List D} (h : ∀ q ∈ qs, hf k sT q = true ∨ hf k sR q = true) : partB (hf k) 98 (.tuple qs) = true := by
  unfold partB; rw [if_neg (by decide), if_neg (by decide), if_neg (by decide), if_neg (by decide), if_neg (by decide), if_pos rfl]
  simp only [List.all_eq_true, Bool.or_eq_true]
  exact h
theorem pN {k : Nat} {i : Int} : partB (hf k) 110 (.int i) = true := by unfold partB; rw [if_neg (by decide), if_neg (by decide), if_neg (by decide), if_neg (by decide), if_neg (by decide), if_neg (by decide)]; rfl
theorem pK {k : Nat} {i : Int} (h : inBy (.int i) = true) : partB (hf k) 107 (.int i) = true := by unfold partB; rw [if_neg (by decide), if_neg (by decide), if_neg (by decide), if_neg (by decide), if_neg (by decide), if_neg (by decide), h]; rfl
def envKV (nums rows : List D) (nots : List (D × D)) : List (D × D) := [(.str (Str.ofString "numbers"), .list nums), (.str (Str.ofString "rows"), .list rows), (.str (Str.ofString "notions"), .dict nots)]
theorem kv_n {nums rows : List D} {nots : List (D × D)} : findD (envKV nums rows nots) (.str (Str.ofString "numbers")) = some (.list nums) := by
  have : keyIs (.str (Str.ofString "numbers")) (.str (Str.ofString "numbers")) = true := by decide +kernel
  unfold envKV
  rw [findD, if_pos this]
theorem kv_r {nums rows : List D} {nots : List (D × D)} : findD (envKV nums rows nots) (.str (Str.ofString "rows")) = some (.list rows) := by
  have h1 : ¬ keyIs (.str (Str.ofString "numbers")) (.str (Str.ofString "rows")) = true := by decide +kernel
  have h2 : keyIs (.str (Str.ofString "rows")) (.str (Str.ofString "rows")) = true := by decide +kernel
  unfold envKV
  rw [findD, if_neg h1, findD, if_pos h2]
theorem kv_o {nums rows : List D} {nots : List (D × D)} : findD (envKV nums rows nots) (.str (Str.ofString "notions")) = some (.dict nots) := by
  have h1 : ¬ keyIs (.str (Str.ofString "numbers")) (.str (Str.ofString "notions")) = true := by decide +kernel
  have h2 : ¬ keyIs (.str (Str.ofString "rows")) (.str (Str.ofString "notions")) = true := by decide +kernel
  have h3 : keyIs (.str (Str.ofString "notions")) (.str (Str.ofString "notions")) = true := by decide +kernel
  unfold envKV
  rw [findD, if_neg h1, findD, if_neg h2, findD, if_pos h3]
def isIS : D → Bool
  | .int _ => true
  | .str _ => true
  | _ => false
def Lets (row : Bool) (xs : List D) : Prop := xs ≠ [] ∧ xs.length ≤ 20 ∧ ∀ x ∈ xs, Bt 0 251 x ∧ isIS x = true ∧ isLetter row x = true
def Nots (nots : List (D × D)) : Prop := ∃ names : List Str, nots.map Prod.fst = names.map PyData.str ∧ names.length < 64 ∧ ∀ z ∈ names, (wOk z = true ∧ isName (.str z) = true) ∧ ∃ ks : List Str, findD nots (.str z) = some (.list (ks.map PyData.str)) ∧ ks.length ≤ 3
def EnvP (e : D) : Prop := ∃ nums rows nots, e = .dict (envKV nums rows nots) ∧ (Lets false nums ∧ ∃ i : Int, PyData.int i ∈ nums) ∧ Lets true rows ∧ Nots nots
def hh (j : Nat) : Nat := 2 * j + 1
def tt : Nat → Nat
  | 0 => 400
  | j + 1 => 3 * tt j + 400
def cst : Nat → Nat
  | 0 => 1000
  | j + 1 => 100 * cst j
theorem cst_le : ∀ j, 1000 ≤ cst j
  | 0 => Nat.le_refl _
  | j + 1 => by have := cst_le j; show 1000 ≤ 100 * cst j; omega
theorem tt_le : ∀ j, 400 ≤ tt j
  | 0 => Nat.le_refl _
  | j + 1 => by show 400 ≤ 3 * tt j + 400; omega
/-- a drawn thing of depth j -/
def Dr (s : Str) (j : Nat) (x : D) : Prop := Bt (hh j) (tt j) x ∧ hf (j + 1) s x = true
def gtF (s : Str) (j : Nat) : DFP := fun ds n Q => ∃ e, ds = [.int (j : Int), e] ∧ EnvP e ∧ n + cst j ≤ penLim ∧ ∀ (x : D) (n' : Nat), Dr s j x → n' ≤ n + cst j → Q x n'
def gpF (j : Nat) : DFP := fun ds n Q => ∃ (e : D) (ks : List Str), ds = [.int (j : Int), e, .list (ks.map PyData.str)] ∧ ks.length ≤ 3 ∧ EnvP e ∧ n + 10 * cst j ≤ penLim ∧ ∀ (xs : List D) (n' : Nat), xs.length ≤ 3 → (∀ x ∈ xs, Dr sT j x ∨ Dr sR j x) → n' ≤ n + 10 * cst j → Q (.tuple xs) n'
/-- at every depth up to b -/
def upF (F : Nat → DFP) (b : Nat) : DFP := fun ds n Q => ∃ j, j ≤ b ∧ F j ds n Q
section
variable {P : Program} {w : World} {K : PySem.W.Frag} {mg : Str → Option Value} {base : Heap}
abbrev gPs : List Str := ["_law_pen", "_law_deep", "_law_env"]
end

/-! ### each once -/
def onceI (acc xs : List D) : List D := xs.foldl (fun acc x => if (acc.any fun z => PyData.eqv z x) = true then acc else acc ++ [x]) acc
theorem onceI_snoc (acc xs : List D) (x : D) : onceI acc (xs ++ [x]) = if ((onceI acc xs).any fun z => PyData.eqv z x) = true then onceI acc xs else onceI acc xs ++ [x] := by
  unfold onceI
  rw [List.foldl_append]
  rfl
theorem onceI_len : ∀ (xs acc : List D), (onceI acc xs).length ≤ acc.length + xs.length
  | [], acc => Nat.le_refl _
  | x :: xs, acc => by
    have h := onceI_len xs (if (acc.any fun z => PyData.eqv z x) = true then acc else acc ++ [x])
    have e : onceI acc (x :: xs) = onceI (if (acc.any fun z => PyData.eqv z x) = true then acc else acc ++ [x]) xs := rfl
    rw [e]
    have h2 : (if (acc.any fun z => PyData.eqv z x) = true then acc else acc ++ [x]).length ≤ acc.length + 1 := by split <;> simp
    rw [List.length_cons]
    omega
theorem onceI_sub : ∀ (xs acc : List D) (y : D), y ∈ onceI acc xs → y ∈ acc ∨ y ∈ xs
  | [], acc, y, h => .inl h
  | x :: xs, acc, y, h => by
    rcases onceI_sub xs (if (acc.any fun z => PyData.eqv z x) = true then acc else acc ++ [x]) y h with h | h
    · split at h
      · exact .inl h
      · rcases List.mem_append.mp h with h | h
        · exact .inl h
        · exact .inr (List.mem_cons.mpr (.inl (List.mem_singleton.mp h)))
    · exact .inr (List.mem_cons_of_mem _ h)
def nameOf : D → D
  | .tuple (_ :: n :: _) => n
  | _ => .none
theorem sh_list {xs : List D} {h : Nat} (hh : h ≤ 63) (b : ∀ x ∈ xs, bd x = true ∧ PyData.depth x ≤ h) : Sh (.list xs) := by
  have e : ∀ ys : List D, (∀ x ∈ ys, bd x = true ∧ PyData.depth x ≤ h) → bdAll ys = true ∧ PyData.depthAll ys ≤ h := by
    intro ys
    induction ys with
    | nil => intro _; exact ⟨rfl, Nat.zero_le _⟩
    | cons y ys ih =>
      intro b
      have h1 := b y (List.mem_cons_self ..)
      have h2 := ih fun x m => b x (List.mem_cons_of_mem _ m)
      simp only [bdAll, PyData.depthAll, Bool.and_eq_true]
      exact ⟨⟨h1.1, h2.1⟩, Nat.max_le.mpr ⟨h1.2, h2.2⟩⟩
  have x : BtL h (szAll xs) xs := ⟨(e xs b).1, (e xs b).2, Nat.le_refl _⟩
  exact (Bt.lst x).sh (by omega)
theorem nts_mem : ∀ (k : Nat) (d : D), isThing k d → ∀ t ∈ ntsOf k d, ∃ (z : Str) (p : D), t = .tuple [.str (Str.ofString "notion"), .str z, p] ∧ isName (.str z) = true
  | 0, d, _, t, m => by simp [ntsOf] at m
  | k + 1, d, h, t, m => by
    obtain ⟨j, e, hp⟩ := parts_things h
    obtain rfl : k = j := by omega
    rw [ntsOf] at m
    rcases List.mem_append.mp m with m | m
    · split at m
      · rename_i hn
        rw [List.mem_singleton.mp m]
        obtain ⟨s, hs, h⟩ := h
        obtain ⟨j, x, ps, a, b, ek, rfl, e, _, eb, hl, hpp⟩ := hf_inv hs h
        have hx : x = Str.ofString "notion" := of_decide_eq_true hn
        subst hx
        have e2 : tl (kindsOf (.str (Str.ofString "notion"))) = [97, 98] := by decide +kernel
        rw [eb] at e2
        rw [e2] at hl hpp
        rcases ps with _ | ⟨n, _ | ⟨p, _ | ⟨r, ps⟩⟩⟩
        · cases hl
        · cases hl
        · have h1 : partB (hf _) 97 n = true := hpp (97, n) (by simp)
          have h2 : isName n = true := by
            unfold partB at h1
            rw [if_neg (by decide), if_neg (by decide), if_neg (by decide), if_neg (by decide), if_pos rfl] at h1
            exact h1
          cases n <;> first | (simp [isName] at h2; done) | skip
          exact ⟨_, p, rfl, h2⟩
        · simp at hl
      · exact nomatch m
    · obtain ⟨p, mp, mt⟩ := List.mem_flatMap.mp m
      exact nts_mem k p (hp p mp) t mt
def niF (k : Nat) : DF := fun ds Q => ∃ d, ds = [d] ∧ Ok1 k d ∧ isThing k d ∧ Q (.list (onceI [] ((ntsOf k d).map nameOf)))
theorem name_bd {z : Str} (h : isName (.str z) = true) : bd (.str z) = true := by
  simp only [bd]
  exact (name_w h).ok
section
variable {P : Program} {w : World} {K : PySem.W.Frag} {mg : Str → Option Value} {base : Heap}
end

/-! ### notions: kinds, takes, own terms -/
theorem notion_of {j : Nat} {ps : List D} {b : Str} (eb : kindsOf (.str (Str.ofString "notion")) = b) (hl : ps.length = (tl b).length) (hp : ∀ p ∈ (tl b).zip ps, partB (hf j) p.1 p.2 = true) :
    ∃ z qs, ps = [.str z, .tuple qs] ∧ isName (.str z) = true ∧ ∀ q ∈ qs, hf j sT q = true ∨ hf j sR q = true := by
  have e2 : tl (kindsOf (.str (Str.ofString "notion"))) = [97, 98] := by decide +kernel
  rw [eb] at e2
  rw [e2] at hl hp
  match ps, hl with
  | [n, p], _ =>
    have h1 : partB (hf j) 97 n = true := hp (97, n) (by simp)
    have h2 : partB (hf j) 98 p = true := hp (98, p) (by simp)
    unfold partB at h1 h2
    rw [if_neg (by decide), if_neg (by decide), if_neg (by decide), if_neg (by decide), if_pos rfl] at h1
    rw [if_neg (by decide), if_neg (by decide), if_neg (by decide), if_neg (by decide), if_neg (by decide), if_pos rfl] at h2
    obtain ⟨z, rfl⟩ : ∃ z, n = .str z := by cases n <;> first | exact ⟨_, rfl⟩ | (simp [isName] at h1; done)
    obtain ⟨qs, rfl⟩ : ∃ qs, p = .tuple qs := by cases p <;> first | exact ⟨_, rfl⟩ | (cases h2; done)
    refine ⟨z, qs, rfl, h1, fun q m => ?_⟩
    have := List.all_eq_true.mp h2 q m
    rwa [Bool.or_eq_true] at this

def kdOf : D → Str
  | .tuple (w :: _) => if sortOf w = Str.ofString "row" then Str.ofString "row" else Str.ofString "number"
  | _ => Str.ofString "number"
def kdsOf : D → List Str
  | .tuple [_, _, .tuple qs] => qs.map kdOf
  | _ => []
/-- a notion term: its name, its places -/
def isNT (t : D) : Prop := ∃ (z : Str) (qs : List D), t = .tuple [.str (Str.ofString "notion"), .str z, .tuple qs] ∧ isName (.str z) = true ∧ qs.length ≤ 1000000 ∧ ∀ q ∈ qs, ∃ (w : Str) (r : List D), q = .tuple (.str w :: r)
theorem nts_nt : ∀ (k : Nat) (d : D), Ok1 k d → isThing k d → ∀ t ∈ ntsOf k d, isNT t ∧ Ok1 k t
  | 0, d, _, h, t, m => by simp [ntsOf] at m
  | k + 1, d, ho, h, t, m => by
    obtain ⟨j, e, hp⟩ := parts_things h
    obtain rfl : k = j := by omega
    rw [ntsOf] at m
    rcases List.mem_append.mp m with m | m
    · split at m
      · rename_i hn
        rw [List.mem_singleton.mp m]
        refine ⟨?_, ho⟩
        obtain ⟨s, hs, h⟩ := h
        obtain ⟨j, x, ps, a, b, ek, rfl, e, _, eb, hl, hpp⟩ := hf_inv hs h
        have hx : x = Str.ofString "notion" := of_decide_eq_true hn
        subst hx
        obtain ⟨z, qs, rfl, hz, hq⟩ := notion_of eb hl hpp
        refine ⟨z, qs, rfl, hz, (ho.ofTup.mem (.tuple qs) (by simp)).tlen, fun q mq => ?_⟩
        have : isThing j q := by rcases hq q mq with h | h <;> exact isThing.t h
        obtain ⟨s, hs, h⟩ := this
        obtain ⟨_, x, ps, _, _, _, rfl, _⟩ := hf_inv hs h
        exact ⟨x, ps, rfl⟩
      · exact nomatch m
    · obtain ⟨p, mp, mt⟩ := List.mem_flatMap.mp m
      obtain ⟨h1, h2⟩ := nts_nt k p ((parts_bt ho p mp).to (by omega) (Nat.le_refl _)) (hp p mp) t mt
      exact ⟨h1, h2.to (by omega) (Nat.le_refl _)⟩
/-- letters with their kinds -/
def secS : D → Str
  | .tuple [_, .str k] => k
  | _ => Str.ofString ""
def isLK (l : D) : Prop := ∃ a k : Str, l = .tuple [.str a, .str k] ∧ wOk a = true ∧ wOk k = true
def mkN (name : Str) (fl : Int) (ls : List D) (z m : D) : D := .tuple [.str (Str.ofString "notion"), .str name, .int fl, .tuple ls, z, m]
theorem eqvAll_strs : ∀ xs ys : List Str, PyData.eqvAll (xs.map PyData.str) (ys.map PyData.str) = decide (xs = ys)
  | [], [] => rfl
  | [], _ :: _ => rfl
  | _ :: _, [] => rfl
  | x :: xs, y :: ys => by
    rw [List.map_cons, List.map_cons, PyData.eqvAll, eqvAll_strs xs ys]
    show ((x == y) && _) = _
    rw [Bool.eq_iff_iff, Bool.and_eq_true, decide_eq_true_eq, decide_eq_true_eq, beq_iff_eq, List.cons.injEq]
theorem strs_sh {xs : List Str} (h : ∀ x ∈ xs, wOk x = true) : Sh (.list (xs.map PyData.str)) := by
  refine sh_list (h := 0) (by decide) fun x m => ?_
  obtain ⟨y, my, rfl⟩ := List.mem_map.mp m
  have := (bt_w (h := 0) (h y my))
  exact ⟨this.b, this.h⟩
theorem eq_strs {xs ys : List Str} {Q : D → Prop} (h : ∀ x ∈ xs, wOk x = true) (h' : ∀ x ∈ ys, wOk x = true) (q : Q (.bool (decide (xs = ys)))) : eqD (.list (xs.map PyData.str)) (.list (ys.map PyData.str)) Q := by
  refine ⟨strs_sh h, strs_sh h', ?_⟩
  show Q (.bool (PyData.eqvAll _ _))
  rw [eqvAll_strs]
  exact q
theorem kdOf_ok (d : D) : wOk (kdOf d) = true := by
  unfold kdOf
  split
  · split <;> decide +kernel
  · decide +kernel
def kindF : DF := fun ds Q => ∃ (w : Str) (r : List D), ds = [.tuple (.str w :: r)] ∧ Q (.str (kdOf (.tuple (.str w :: r))))
def takesF : DF := fun ds Q => ∃ name fl ls z m qs, ds = [mkN name fl ls z m, .tuple qs] ∧ (∀ l ∈ ls, isLK l) ∧ ls.length ≤ 1000000 ∧ qs.length ≤ 1000000 ∧ (∀ q ∈ qs, ∃ (w : Str) (r : List D), q = .tuple (.str w :: r)) ∧ Q (.bool (decide (ls.map secS = qs.map kdOf)))
def ownT (name : Str) (ts : List D) : D := match ts.find? fun t => PyData.eqv (nameOf t) (.str name) with
  | some t => t
  | none => .none
def ownF (k : Nat) : DF := fun ds Q => ∃ name fl ls z m, ds = [mkN name fl ls z m] ∧ Ok1 k m ∧ isThing k m ∧ Q (ownT name (ntsOf k m))
section
variable {P : Program} {w : World} {K : PySem.W.Frag} {mg : Str → Option Value} {base : Heap}
theorem ok_kind_of (T : Tx w K mg) : Ok P w K mg base 2 "kind_of" ["place"] (spN K 1 .E kindF) := by
  have O_sort_of := ok_sort_of (P := P) (w := w) (base := base) T
  refine Ok.ofN (M := []) T.d_kind_of sc_kind_of rfl (by decide) fun f cdv A outer s H E hr => ⟨_, _, (pss_one (ps_ret (pe_ifExp (pt_cmpR (eqG K rfl hr.units) (pe_fn O_sort_of (hr.mono (by omega)) (by rfl) (pa_cons (pe_ix (ixG K rfl (u65 hr.toRoom)) (pv 0) (pe_int) (fun _ _ => rfl)) (pa_nil))) (pe_str) (nomark _)) (pe_str) (pe_str)))),
 (simS_ret (Sim.toE (sim_if (simT_test (sim_op opA_eq (sim_call (simA_cons (opA_ix (sim_var 0 (nm rfl)) (sim_int _)) (simA_nil))) (sim_str _))) (sim_str _) (sim_str _)))), ?_⟩
  rintro ds Q hl ⟨x, r, rfl, q⟩
  refine retS (d := .str (kdOf (.tuple (.str x :: r)))) (exv_if (k := decide (sortOf (.str x) = Str.ofString "row")) (fun Q q => ix_ok 0 rfl rfl ⟨_, rfl, q⟩) (fun h Q q => ?_) (fun h Q q => ?_)) q
  · simp only [kdOf, if_pos (of_decide_eq_true h)] at q
    exact q
  · simp only [kdOf, if_neg (of_decide_eq_false h)] at q
    exact q
theorem ok_takes (T : Tx w K mg) (O_kind_of : Ok P w K mg base 2 "kind_of" ["place"] (spN K 1 .E kindF)) : Ok P w K mg base 3 "takes" ["notion", "places"] (spN K 2 .E takesF) := by
  refine Ok.ofN (M := []) T.d_takes sc_takes rfl (by decide) fun f cdv A outer s H E hr => ⟨_, _, (pss_one (ps_ret (pe_cmpR (eqG K rfl hr.units) (pe_lc (own := [("letter", 2), ("kind", 3)]) rfl sc_takes.nd (piT K rfl (pe_ix (ixG K rfl (u65 hr.toRoom)) (pv 0) (pe_int) (fun _ _ => rfl))) (blkOk_by (own := [("letter", 2), ("kind", 3)]) (N := ["notion", "places", "letter", "kind", "place"]) (sc := defScope s_takes) (by decide +kernel)) (fun _ _ _ _ _ => pgT K rfl 2 rfl (pgs_cons (pg_nameL (i := 2) sc_takes.nd rfl rfl) (pgs_cons (pg_nameL (i := 3) sc_takes.nd rfl rfl) (pgs_nil)))) (fun _ _ _ _ _ => pts_nil) (fun _ _ _ _ _ => pv 3)) (pe_lc (own := [("place", 4)]) rfl sc_takes.nd (piT K rfl (pv 1)) (blkOk_by (own := [("place", 4)]) (N := ["notion", "places", "letter", "kind", "place"]) (sc := defScope s_takes) (by decide +kernel)) (fun _ _ _ _ _ => pg_nameL (i := 4) sc_takes.nd rfl rfl) (fun _ _ _ _ _ => pts_nil) (fun _ _ _ _ _ => pe_fn O_kind_of (hr.mono (by omega)) (by rfl) (pa_cons (pv 4) (pa_nil)))) (nomark _)))),
 (simS_ret (Sim.toE (sim_op opA_eq (sim_lc (simI_tup (opA_ix (sim_var 0 (nm rfl)) (sim_int _))) (simG_tup (simGs_cons (simG_name 2 (nm rfl) (np rfl)) (simGs_cons (simG_name 3 (nm rfl) (np rfl)) (simGs_nil)))) (simT_yes) (sim_var 3 (nm rfl)) (inv' rfl) (nmv rfl) (npv rfl)) (sim_lc (simI_tup (sim_var 1 (nm rfl))) (simG_name 4 (nm rfl) (np rfl)) (simT_yes) (sim_call (simA_cons (sim_var 4 (nm rfl)) (simA_nil))) (inv' rfl) (nmv rfl) (npv rfl))))), ?_⟩
  rintro ds Q hl ⟨name, fl, ls, z, m, qs, rfl, hls, hll, hql, hqs, q⟩
  refine ix_ok 3 rfl rfl ⟨Nat.le_trans hll (by decide), lcD_ind (fun i acc s => acc = (ls.take i).map (fun l => PyData.str (secS l)) ∧ s = { δ := [some (mkN name fl ls z m), some (.tuple qs), none, none, none], n := 0 }) ⟨rfl, rfl⟩ ?_ ?_⟩
  · rintro i y acc s N hi ⟨rfl, rfl⟩ hN
    obtain ⟨a, k, rfl, _⟩ := hls y (List.mem_of_getElem? hi)
    refine ⟨rfl, hN _ _ ⟨?_, rfl⟩⟩
    rw [map_take hi]
    rfl
  rintro acc s ⟨rfl, rfl⟩
  rw [List.take_length]
  refine ⟨Nat.le_trans hql (by decide), lc1 (fun i acc s => acc = (qs.take i).map (fun p => PyData.str (kdOf p)) ∧ s = { δ := [some (mkN name fl ls z m), some (.tuple qs), none, none, none], n := 0 }) ⟨rfl, rfl⟩ ?_ ?_⟩
  · rintro i y acc s N hi ⟨rfl, rfl⟩ hN
    obtain ⟨x, r, rfl⟩ := hqs y (List.mem_of_getElem? hi)
    refine ⟨x, r, rfl, hN _ _ ⟨?_, rfl⟩⟩
    rw [map_take hi]
  rintro acc s ⟨rfl, rfl⟩
  rw [List.take_length]
  have e1 : ls.map (fun l => PyData.str (secS l)) = (ls.map secS).map PyData.str := by rw [List.map_map]; rfl
  have e2 : qs.map (fun l => PyData.str (kdOf l)) = (qs.map kdOf).map PyData.str := by rw [List.map_map]; rfl
  rw [e1, e2]
  refine eq_strs (fun x hx => ?_) (fun x hx => ?_) q
  · obtain ⟨l, ml, rfl⟩ := List.mem_map.mp hx
    obtain ⟨a, k, rfl, _, hk⟩ := hls l ml
    exact hk
  · obtain ⟨l, ml, rfl⟩ := List.mem_map.mp hx
    exact kdOf_ok l
theorem ok_own_term (T : Tx w K mg) {k l : Nat} (O_notion_terms : Ok P w K mg base l "notion_terms" ["thing"] (spN K 1 .E (ntF k))) : Ok P w K mg base (l + 1) "own_term" ["notion"] (spN K 1 .E (ownF k)) := by
  refine Ok.ofN (M := []) T.d_own_term sc_own_term rfl (by decide) fun f cdv A outer s H E hr => ⟨_, _, (pss_cons (ps_for PassesOwn.never rfl (piL K rfl (pe_fn O_notion_terms (hr.mono (by omega)) (by rfl) (pa_cons (pe_ix (ixG K rfl (u65 hr.toRoom)) (pv 0) (pe_int) (fun _ _ => rfl)) (pa_nil)))) (pg_nameL (i := 1) sc_own_term.nd rfl rfl)
 (pss_one (ps_if (pt_cmpR (eqG K rfl hr.units) (pe_ix (ixG K rfl (u65 hr.toRoom)) (pv 1) (pe_int) (fun _ _ => rfl)) (pe_ix (ixG K rfl (u65 hr.toRoom)) (pv 0) (pe_int) (fun _ _ => rfl)) (nomark _))
 (pss_one (ps_ret (pv 1)))
 (pss_nil))))
 (pss_one (ps_ret (pe_non)))),
 (simS_cut (simS_for (simI_list (sim_call (simA_cons (opA_ix (sim_var 0 (nm rfl)) (sim_int _)) (simA_nil)))) (simG_name 1 (nm rfl) (np rfl))
 (simS_if (simT_test (sim_op opA_eq (opA_ix (sim_var 1 (nm rfl)) (sim_int _)) (opA_ix (sim_var 0 (nm rfl)) (sim_int _))))
 (simS_ret (Sim.toE (sim_var 1 (nm rfl))))
 (simS_next)))
 (simS_ret (Sim.toE (sim_non)))), ?_⟩
  rintro ds Q hl ⟨name, fl, ls, z, m, rfl, ho, ht, q⟩
  have hnt := nts_nt k m ho ht
  refine ⟨fun s => (∃ o, s = { δ := [some (mkN name fl ls z m), o], n := 0 }) ∧ ownT name (ntsOf k m) = .none, ix_ok 5 rfl rfl ⟨m, rfl, ho, ht, ?_⟩, ?_⟩
  rotate_left
  · rintro s ⟨⟨o, rfl⟩, e⟩
    rw [e] at q
    exact q
  generalize ntsOf k m = ts at q hnt
  refine forD_ind (fun i s => (∃ o, s = { δ := [some (mkN name fl ls z m), o], n := 0 }) ∧ ∀ t ∈ ts.take i, PyData.eqv (nameOf t) (.str name) = false) ⟨⟨none, rfl⟩, fun t m => by simp at m⟩ ?_ ?_
  · rintro i t s N hi ⟨⟨o, rfl⟩, ha⟩ hN
    obtain ⟨⟨x, qs, rfl, hx, _⟩, _⟩ := hnt t (List.mem_of_getElem? hi)
    have htk : ts.take (i + 1) = ts.take i ++ [.tuple [.str (Str.ofString "notion"), .str x, .tuple qs]] := by rw [List.take_add_one, hi]; rfl
    refine ifS (b := decide (x = name)) (fun Q q => ix_ok 1 rfl rfl (ix_ok 1 rfl rfl q)) (fun hc => ?_) (fun hc => ?_)
    · have hc := of_decide_eq_true hc
      subst hc
      have : ownT x ts = .tuple [.str (Str.ofString "notion"), .str x, .tuple qs] := by
        unfold ownT
        have hf : ts.find? (fun t => PyData.eqv (nameOf t) (.str x)) = some (.tuple [.str (Str.ofString "notion"), .str x, .tuple qs]) := by
          refine List.find?_eq_some_iff_getElem.mpr ⟨by show (x == x) = true; simp, i, (List.getElem?_eq_some_iff.mp hi).1, (List.getElem?_eq_some_iff.mp hi).2, fun j hj => ?_⟩
          have hj2 : j < ts.length := Nat.lt_trans hj (List.getElem?_eq_some_iff.mp hi).1
          have := ha ts[j] (List.mem_take_iff_getElem.mpr ⟨j, by omega, rfl⟩)
          rw [this]; rfl
        rw [hf]
      rw [this] at q
      exact q
    · have hc := of_decide_eq_false hc
      refine hN _ ⟨⟨_, rfl⟩, fun t m => ?_⟩
      rw [htk] at m
      rcases List.mem_append.mp m with m | m
      · exact ha t m
      · rw [List.mem_singleton.mp m]
        show (x == name) = false
        simpa using hc
  · rintro s ⟨⟨o, rfl⟩, ha⟩
    refine ⟨⟨o, rfl⟩, ?_⟩
    unfold ownT
    have : ts.find? (fun t => PyData.eqv (nameOf t) (.str name)) = none := by
      rw [List.find?_eq_none]
      intro t m
      rw [List.take_length] at ha
      rw [ha t m]
      exact Bool.false_ne_true
    rw [this]
end

/-! ### which notions stand: the plain side -/
theorem findD_mem : ∀ {kvs : List (D × D)}, (∀ kv ∈ kvs, isKey kv.1 = true) → (kvs.map Prod.fst).Nodup → ∀ kv ∈ kvs, findD kvs kv.1 = some kv.2
  | [], _, _, kv, m => nomatch m
  | (k0, d0) :: r, hk, nd, kv, m => by
    have h0 := hk (k0, d0) (List.mem_cons_self ..)
    have h1 := hk kv m
    obtain ⟨a, ea⟩ := isKey_of h0
    obtain ⟨b, eb⟩ := isKey_of h1
    have ea : k0 = keyD a := ea
    subst ea
    rw [List.map_cons, List.nodup_cons] at nd
    rcases List.mem_cons.mp m with rfl | m
    · have : keyIs (keyD a) (keyD a) = true := by rw [keyIs_key]; simp
      rw [findD, if_pos this]
    · have hne : kv.1 ≠ keyD a := fun z => nd.1 (List.mem_map.mpr ⟨kv, m, z⟩)
      have : ¬ keyIs (keyD a) kv.1 = true := by
        rw [eb, keyIs_key]
        intro z
        rw [of_decide_eq_true z] at hne
        exact hne eb
      rw [findD, if_neg this]
      exact findD_mem (fun kv m => hk kv (List.mem_cons_of_mem _ m)) nd.2 kv m

def nameS (t : D) : Str := match nameOf t with
  | .str z => z
  | _ => Str.ofString ""
def flr : D → Int
  | .tuple [_, _, .int f, _, _, _] => f
  | _ => 0
def kil : D → List Str
  | .tuple [_, _, _, .tuple ls, _, _] => ls.map secS
  | _ => []
def tml : D → List D
  | .tuple [_, _, _, _, z, m] => ntsOf 10 z ++ ntsOf 10 m
  | _ => []
def ntv (kvs : List (D × D)) (n : Str) : D := (findD kvs (.str n)).getD .none
def OwnOne (name : Str) (ts : List D) : Prop := (∀ t ∈ ts, nameS t ≠ name) ∨ ∃ A t B, ts = A ++ t :: B ∧ nameS t = name ∧ (∀ u ∈ A, nameS u ≠ name) ∧ ∀ u ∈ B, nameS u ≠ name
structure NtOk (name : Str) (d : D) : Prop where
  ex : ∃ fl ls z m, d = mkN name fl ls z m ∧ 0 ≤ fl ∧ fl ≤ 9 ∧ (∀ l ∈ ls, isLK l) ∧ ls.length ≤ 1000 ∧ (Ok1 10 z ∧ isThing 10 z) ∧ (Ok1 10 m ∧ isThing 10 m) ∧ (∀ t ∈ ntsOf 10 z, nameS t ≠ name) ∧ OwnOne name (ntsOf 10 m)
  nm : isName (.str name) = true
  bt : Bt 14 100000 d
structure Good (kvs : List (D × D)) : Prop where
  keys : ∃ ks : List Str, kvs.map Prod.fst = ks.map PyData.str ∧ ks.length < 64 ∧ ks.Nodup
  nt : ∀ kv ∈ kvs, ∃ n, kv.1 = .str n ∧ NtOk n kv.2
def isIn (kvs : List (D × D)) (n : Str) : Prop := PyData.str n ∈ kvs.map Prod.fst
theorem Good.nd {kvs : List (D × D)} (g : Good kvs) : (kvs.map Prod.fst).Nodup := by
  obtain ⟨ks, e, _, nd⟩ := g.keys
  rw [e]
  exact List.Pairwise.map _ (fun a b h z => h (by injection z)) nd
theorem Good.get {kvs : List (D × D)} (g : Good kvs) {n : Str} (h : isIn kvs n) : findD kvs (.str n) = some (ntv kvs n) ∧ NtOk n (ntv kvs n) := by
  obtain ⟨kv, m, e⟩ := List.mem_map.mp h
  obtain ⟨n', e', ok⟩ := g.nt kv m
  rw [e] at e'
  cases e'
  have := findD_mem (fun kv m => by obtain ⟨n, e, _⟩ := g.nt kv m; rw [e]; rfl) g.nd kv m
  rw [e] at this
  unfold ntv
  rw [this]
  exact ⟨rfl, ok⟩
def okT (kvs : List (D × D)) (X : List Str) (fl : Int) (t : D) : Bool := X.contains (nameS t) && (decide (flr (ntv kvs (nameS t)) < fl) && decide (kil (ntv kvs (nameS t)) = kdsOf t))
def rt (kvs : List (D × D)) (X : List Str) (n : Str) : Bool := (tml (ntv kvs n)).all fun t => if nameS t = n then decide (kil (ntv kvs n) = kdsOf t) else okT kvs X (flr (ntv kvs n)) t
theorem all_congrB {α : Type} {f g : α → Bool} : ∀ {xs : List α}, (∀ x ∈ xs, f x = g x) → xs.all f = xs.all g
  | [], _ => rfl
  | x :: xs, h => by
    rw [List.all_cons, List.all_cons, h x (List.mem_cons_self ..), all_congrB fun y m => h y (List.mem_cons_of_mem _ m)]
theorem nt_name {t : D} (h : isNT t) : nameOf t = .str (nameS t) := by
  obtain ⟨z, qs, rfl, _⟩ := h
  rfl
theorem nt_eqv {t u : D} (h : isNT t) (h' : isNT u) (hn : nameS t ≠ nameS u) : PyData.eqv t u = false := by
  obtain ⟨z, qs, rfl, _⟩ := h
  obtain ⟨z', qs', rfl, _⟩ := h'
  have hn : z ≠ z' := hn
  simp [PyData.eqv, PyData.eqvAll, hn]
theorem nt_none {t : D} (h : isNT t) : PyData.eqv t .none = false := by
  obtain ⟨z, qs, rfl, _⟩ := h
  rfl
theorem own_none {name : Str} {ts : List D} (hnt : ∀ t ∈ ts, isNT t) (h : ∀ t ∈ ts, nameS t ≠ name) : ownT name ts = .none := by
  unfold ownT
  have : ts.find? (fun t => PyData.eqv (nameOf t) (.str name)) = none := by
    rw [List.find?_eq_none]
    intro t m
    rw [nt_name (hnt t m)]
    show ¬ (nameS t == name) = true
    simpa using h t m
  rw [this]
theorem own_some {name : Str} {A B : List D} {t : D} (hnt : ∀ u ∈ A ++ t :: B, isNT u) (ht : nameS t = name) (hA : ∀ u ∈ A, nameS u ≠ name) : ownT name (A ++ t :: B) = t := by
  unfold ownT
  have h1 : A.find? (fun t => PyData.eqv (nameOf t) (.str name)) = none := by
    rw [List.find?_eq_none]
    intro u m
    rw [nt_name (hnt u (List.mem_append_left _ m))]
    show ¬ (nameS u == name) = true
    simpa using hA u m
  have h2 : PyData.eqv (nameOf t) (.str name) = true := by
    rw [nt_name (hnt t (by simp))]
    show (nameS t == name) = true
    simpa using ht
  rw [List.find?_append, h1, List.find?_cons_of_pos (p := fun t => PyData.eqv (nameOf t) (PyData.str name)) h2]
  rfl
def otherT (own : D) (ts : List D) : List D := ts.filter fun t => !PyData.eqv t own
def ownB (ks : List Str) : D → Bool
  | .none => true
  | t => decide (ks = kdsOf t)
theorem ownB_nt {ks : List Str} {t : D} (h : isNT t) : ownB ks t = decide (ks = kdsOf t) := by
  obtain ⟨z, qs, rfl, _⟩ := h
  rfl
theorem rt_split {kvs : List (D × D)} {X : List Str} {n : Str} {fl : Int} {ls : List D} {z m : D} (e : ntv kvs n = mkN n fl ls z m) (hz : ∀ t ∈ ntsOf 10 z, nameS t ≠ n) (hzn : ∀ t ∈ ntsOf 10 z, isNT t) (hmn : ∀ t ∈ ntsOf 10 m, isNT t ∧ bd t = true) (ho : OwnOne n (ntsOf 10 m)) :
    rt kvs X n = (((ntsOf 10 z ++ otherT (ownT n (ntsOf 10 m)) (ntsOf 10 m)).all (okT kvs X fl)) && ownB (ls.map secS) (ownT n (ntsOf 10 m))) := by
  have e1 : tml (mkN n fl ls z m) = ntsOf 10 z ++ ntsOf 10 m := rfl
  have e2 : kil (mkN n fl ls z m) = ls.map secS := rfl
  have e3 : flr (mkN n fl ls z m) = fl := rfl
  have hcong : ∀ ts : List D, (∀ t ∈ ts, nameS t ≠ n) → (ts.all fun t => if nameS t = n then decide (ls.map secS = kdsOf t) else okT kvs X fl t) = ts.all (okT kvs X fl) := fun ts h => all_congrB fun t m => if_neg (h t m)
  unfold rt
  rw [e, e1, e2, e3, List.all_append, List.all_append, hcong _ hz]
  rcases ho with ho | ⟨A, t, B, em, ht, hA, hB⟩
  · rw [own_none (fun t m => (hmn t m).1) ho, hcong _ ho]
    have : otherT .none (ntsOf 10 m) = ntsOf 10 m := List.filter_eq_self.mpr fun t m => by rw [nt_none (hmn t m).1]; rfl
    rw [this]
    show _ = (_ && true)
    rw [Bool.and_true]
  · rw [em] at hmn ⊢
    rw [own_some (fun u m => (hmn u m).1) ht hA]
    have h1 := (hmn t (by simp))
    have e4 : otherT t (A ++ t :: B) = A ++ B := by
      unfold otherT
      have fA : A.filter (fun u => !PyData.eqv u t) = A := List.filter_eq_self.mpr fun u m => by rw [nt_eqv (hmn u (List.mem_append_left _ m)).1 h1.1 (by rw [ht]; exact hA u m)]; rfl
      have fB : B.filter (fun u => !PyData.eqv u t) = B := List.filter_eq_self.mpr fun u m => by rw [nt_eqv (hmn u (List.mem_append_right _ (List.mem_cons_of_mem _ m))).1 h1.1 (by rw [ht]; exact hB u m)]; rfl
      rw [List.filter_append, List.filter_cons_of_neg (by rw [SeqAt.eqv_refl t (bd_lay t h1.2).1]; decide), fA, fB]
    rw [e4, List.all_append, List.all_cons, if_pos ht, hcong A hA, hcong B hB, List.all_append, ownB_nt h1.1]
    cases (ntsOf 10 z).all (okT kvs X fl) <;> cases A.all (okT kvs X fl) <;> cases B.all (okT kvs X fl) <;> cases decide (ls.map secS = kdsOf t) <;> rfl
theorem rt_mono {kvs : List (D × D)} {X Y : List Str} {n : Str} (h : ∀ x, x ∈ X → x ∈ Y) (r : rt kvs X n = true) : rt kvs Y n = true := by
  unfold rt at r ⊢
  rw [List.all_eq_true] at r ⊢
  intro t m
  have := r t m
  split
  · rename_i hn; rw [if_pos hn] at this; exact this
  · rename_i hn
    rw [if_neg hn] at this
    unfold okT at this ⊢
    rw [Bool.and_eq_true] at this ⊢
    exact ⟨List.contains_iff_mem.mpr (h _ (List.contains_iff_mem.mp this.1)), this.2⟩
/-- only the members of lower floors count -/
theorem rt_low {kvs : List (D × D)} {X Y : List Str} {n : Str} (h : ∀ x, flr (ntv kvs x) < flr (ntv kvs n) → x ∈ X → x ∈ Y) (r : rt kvs X n = true) : rt kvs Y n = true := by
  unfold rt at r ⊢
  rw [List.all_eq_true] at r ⊢
  intro t m
  have := r t m
  split
  · rename_i hn; rw [if_pos hn] at this; exact this
  · rename_i hn
    rw [if_neg hn] at this
    unfold okT at this ⊢
    rw [Bool.and_eq_true, Bool.and_eq_true] at this ⊢
    exact ⟨List.contains_iff_mem.mpr (h _ (of_decide_eq_true this.2.1) (List.contains_iff_mem.mp this.1)), this.2⟩

/-! ### stands, firm -/
theorem in_strs {X : List Str} {z : Str} : ((X.map PyData.str).any fun y => eqF y (.str z)) = X.contains z := by
  rw [Bool.eq_iff_iff, List.any_eq_true, List.contains_iff_mem]
  constructor
  · rintro ⟨y, m, e⟩
    obtain ⟨w, mw, rfl⟩ := List.mem_map.mp m
    have : w = z := by simpa [eqF] using e
    exact this ▸ mw
  · intro m
    exact ⟨_, List.mem_map.mpr ⟨z, m, rfl⟩, by simp [eqF]⟩
theorem flat_strs {X : List Str} : (X.map PyData.str).all flatD = true := by
  rw [List.all_eq_true]
  intro y m
  obtain ⟨w, _, rfl⟩ := List.mem_map.mp m
  rfl
theorem otherT_len (own : D) (ts : List D) : (otherT own ts).length ≤ ts.length := List.length_filter_le _ _
theorem otherT_pos {own t : D} (h : (!PyData.eqv t own) = true) : otherT own [t] = [t] := List.filter_cons_of_pos (p := fun t => !PyData.eqv t own) h
def standsF : DF := fun ds Q => ∃ kvs n X, ds = [ntv kvs n, .dict kvs, .list (X.map PyData.str)] ∧ Good kvs ∧ isIn kvs n ∧ (∀ x ∈ X, isIn kvs x) ∧ Q (.bool (rt kvs X n))
theorem ne_own_t {t own : D} {Q : D → Prop} (h : isNT t) (hb : Sh t) (ho : own = .none ∨ isNT own) (hs : Sh own) (q : Q (.bool (!PyData.eqv t own))) : neD t own Q := by
  obtain ⟨z, qs, rfl, _⟩ := h
  rcases ho with rfl | ⟨z', qs', rfl, _⟩
  · exact ⟨hb, hs, q⟩
  · exact ⟨hb, hs, q⟩
theorem own_is {name : Str} {ts : List D} (h : ∀ t ∈ ts, isNT t ∧ Bt 10 1000000 t) : (ownT name ts = .none ∨ isNT (ownT name ts)) ∧ Sh (ownT name ts) := by
  unfold ownT
  cases e : ts.find? fun t => PyData.eqv (nameOf t) (.str name) with
  | none => exact ⟨.inl rfl, rfl⟩
  | some t =>
    have := h t (List.mem_of_find?_eq_some e)
    exact ⟨.inr this.1, this.2.sh (by decide)⟩
section
variable {P : Program} {w : World} {K : PySem.W.Frag} {mg : Str → Option Value} {base : Heap}
theorem ok_stands (T : Tx w K mg) {l : Nat} (O_own_term : Ok P w K mg base l "own_term" ["notion"] (spN K 1 .E (ownF 10))) (O_notion_terms : Ok P w K mg base l "notion_terms" ["thing"] (spN K 1 .E (ntF 10))) (O_takes : Ok P w K mg base l "takes" ["notion", "places"] (spN K 2 .E takesF)) : Ok P w K mg base (l + 1) "stands" ["notion", "notions", "found"] (spN K 3 .E standsF) := by
  refine Ok.ofN (M := []) T.d_stands sc_stands rfl (by decide) fun f cdv A outer s H E hr => ⟨_, _, (pss_cons (ps_set (i := 3) sc_stands.nd rfl (Or.inr rfl) (pe_fn O_own_term (hr.mono (by omega)) (by rfl) (pa_cons (pv 0) (pa_nil))))
 (pss_cons (ps_for PassesOwn.never rfl (piL K rfl (pe_op (addG K rfl) (pe_fn O_notion_terms (hr.mono (by omega)) (by rfl) (pa_cons (pe_ix (ixG K rfl (u65 hr.toRoom)) (pv 0) (pe_int) (fun _ _ => rfl)) (pa_nil))) (pe_lc (own := [("term", 4)]) rfl sc_stands.nd (piL K rfl (pe_fn O_notion_terms (hr.mono (by omega)) (by rfl) (pa_cons (pe_ix (ixG K rfl (u65 hr.toRoom)) (pv 0) (pe_int) (fun _ _ => rfl)) (pa_nil)))) (blkOk_by (own := [("term", 4)]) (N := ["notion", "notions", "found", "own", "term"]) (sc := defScope s_stands) (by decide +kernel)) (fun _ _ _ _ _ => pg_nameL (i := 4) sc_stands.nd rfl rfl) (fun _ _ _ _ _ => pts_one (pt_cmpR (neG K rfl hr.units) (pv 4) (pv 3) (nomark _))) (fun _ _ _ _ _ => pv 4)))) (pg_nameL (i := 4) sc_stands.nd rfl rfl)
 (pss_one (ps_if (PW.pt (pw_or (pt_cmpR (ninG K rfl (u65 hr.toRoom)) (pe_ix (ixG K rfl (u65 hr.toRoom)) (pv 4) (pe_int) (fun _ _ => rfl)) (pv 2) (by rfl)) (pw_or (pt_cmpR op_ge (pe_ix (ixG K rfl (u65 hr.toRoom)) (pe_ix (ixG K rfl (u65 hr.toRoom)) (pv 1) (pe_ix (ixG K rfl (u65 hr.toRoom)) (pv 4) (pe_int) (fun _ _ => rfl)) (fun _ _ => rfl)) (pe_int) (fun _ _ => rfl)) (pe_ix (ixG K rfl (u65 hr.toRoom)) (pv 0) (pe_int) (fun _ _ => rfl)) (nomark _)) (pw_or1 (pt_not (pt_val (pe_fn O_takes (hr.mono (by omega)) (by rfl) (pa_cons (pe_ix (ixG K rfl (u65 hr.toRoom)) (pv 1) (pe_ix (ixG K rfl (u65 hr.toRoom)) (pv 4) (pe_int) (fun _ _ => rfl)) (fun _ _ => rfl)) (pa_cons (pe_ix (ixG K rfl (u65 hr.toRoom)) (pv 4) (pe_int) (fun _ _ => rfl)) (pa_nil))))))))))
 (pss_one (ps_ret (pe_bl)))
 (pss_nil))))
 (pss_one (ps_ret (pe_or (pe_cmpR op_isN (pv 3) (pe_non) (nomark _)) (pe_one (pe_fn O_takes (hr.mono (by omega)) (by rfl) (pa_cons (pv 0) (pa_cons (pe_ix (ixG K rfl (u65 hr.toRoom)) (pv 3) (pe_int) (fun _ _ => rfl)) (pa_nil)))))))))),
 (simS_seq (simS_set 3 (nm rfl) (np rfl) (sim_call (simA_cons (sim_var 0 (nm rfl)) (simA_nil))))
 (simS_cut (simS_for (simI_list (sim_op opA_add (sim_call (simA_cons (opA_ix (sim_var 0 (nm rfl)) (sim_int _)) (simA_nil))) (sim_lc (simI_list (sim_call (simA_cons (opA_ix (sim_var 0 (nm rfl)) (sim_int _)) (simA_nil)))) (simG_name 4 (nm rfl) (np rfl)) (simT_test (sim_op opA_ne (sim_var 4 (nm rfl)) (sim_var 3 (nm rfl)))) (sim_var 4 (nm rfl)) (inv' rfl) (nmv rfl) (npv rfl)))) (simG_name 4 (nm rfl) (np rfl))
 (simS_if (simT_or (simT_test (sim_op opA_nin (opA_ix (sim_var 4 (nm rfl)) (sim_int _)) (sim_var 2 (nm rfl)))) (simT_or (simT_test (sim_op (opA_cmp _) (opA_ix (opA_ix (sim_var 1 (nm rfl)) (opA_ix (sim_var 4 (nm rfl)) (sim_int _))) (sim_int _)) (opA_ix (sim_var 0 (nm rfl)) (sim_int _)))) (simT_not (simT_B (sim_call (simA_cons (opA_ix (sim_var 1 (nm rfl)) (opA_ix (sim_var 4 (nm rfl)) (sim_int _))) (simA_cons (opA_ix (sim_var 4 (nm rfl)) (sim_int _)) (simA_nil))))))))
 (simS_ret (Sim.toE (sim_bl _)))
 (simS_next)))
 (simS_ret (Sim.toE (sim_orV (sim_op opA_isN (sim_var 3 (nm rfl)) (sim_non)) (sim_call (simA_cons (sim_var 0 (nm rfl)) (simA_cons (opA_ix (sim_var 3 (nm rfl)) (sim_int _)) (simA_nil))))))))), ?_⟩
  rintro ds Q hl ⟨kvs, n, X, rfl, hg, hn, hX, q⟩
  obtain ⟨e0, hok⟩ := hg.get hn
  obtain ⟨⟨fl, ls, z, m, e, hf0, hf9, hls, hll, ⟨hz, hzt⟩, ⟨hm, hmt⟩, hzo, hmo⟩, hnm, hbt⟩ := hok
  have hzn := nts_nt 10 z hz hzt
  have hmn := nts_nt 10 m hm hmt
  have hzl := nts_len 10 z hzt
  have hml := nts_len 10 m hmt
  have hzs := hz.t
  have hms := hm.t
  rw [rt_split e hzo (fun t h => (hzn t h).1) (fun t h => ⟨(hmn t h).1, (hmn t h).2.b⟩) hmo] at q
  obtain ⟨hown, hosh⟩ := own_is (name := n) hmn
  rw [e]
  refine seqSet (d := ownT n (ntsOf 10 m)) (fun Q q => ⟨n, fl, ls, z, m, rfl, hm, hmt, q⟩) ?_
  generalize hO : ownT n (ntsOf 10 m) = own at q hown hosh
  obtain ⟨terms, hterms⟩ : ∃ ts, ts = ntsOf 10 z ++ otherT own (ntsOf 10 m) := ⟨_, rfl⟩
  have htn : ∀ t ∈ terms, isNT t ∧ Ok1 10 t := fun t h => by
    rw [hterms] at h
    rcases List.mem_append.mp h with h | h
    · exact hzn t h
    · exact hmn t (List.mem_filter.mp h).1
  rw [← hterms] at q
  refine ⟨fun s => (∃ o, s = { δ := [some (mkN n fl ls z m), some (.dict kvs), some (.list (X.map PyData.str)), some own, o], n := 0 }) ∧ terms.all (okT kvs X fl) = true, ?_, ?_⟩
  · refine ix_ok 4 rfl rfl ⟨z, rfl, hz, hzt, ix_ok 5 rfl rfl ⟨m, rfl, hm, hmt, ?_⟩⟩
    refine ⟨Nat.le_trans (show _ ≤ 1000000 by omega) (by decide), ?_⟩
    refine lcD_ind (fun i acc s => acc = otherT own ((ntsOf 10 m).take i) ∧ s = { δ := [some (mkN n fl ls z m), some (.dict kvs), some (.list (X.map PyData.str)), some own, none], n := 0 }) ⟨rfl, rfl⟩ ?_ ?_
    · rintro i t acc s N hi ⟨rfl, rfl⟩ hN
      have ht := hmn t (List.mem_of_getElem? hi)
      have htk : (ntsOf 10 m).take (i + 1) = (ntsOf 10 m).take i ++ [t] := by rw [List.take_add_one, hi]; rfl
      have ho1 : otherT own ((ntsOf 10 m).take (i + 1)) = otherT own ((ntsOf 10 m).take i) ++ otherT own [t] := by rw [htk]; exact List.filter_append ..
      dsimp only [sName]
      refine ne_own_t (Q := fun y => match y with | PyData.bool k => (if k = true then N (otherT own ((ntsOf 10 m).take i) ++ [t]) _ else N (otherT own ((ntsOf 10 m).take i)) _) | _ => False) ht.1 (ht.2.sh (by decide)) hown hosh ?_
      refine ite_either (fun h => hN _ _ ⟨?_, rfl⟩) (fun h => hN _ _ ⟨?_, rfl⟩)
      · rw [ho1]
        rw [otherT_pos h]
      · rw [ho1]
        have : otherT own [t] = [] := List.filter_cons_of_neg (p := fun t => !PyData.eqv t own) (by rw [h]; exact Bool.false_ne_true)
        rw [this, List.append_nil]
    · rintro acc s ⟨rfl, rfl⟩
      rw [List.take_length]
      refine ⟨?_, ?_⟩
      · have := otherT_len own (ntsOf 10 m)
        exact Nat.le_trans (show _ + (otherT own (ntsOf 10 m)).length ≤ 2000000 by omega) (by decide)
      rw [← hterms]
      refine forD_ind (fun i s => (∃ o, s = { δ := [some (mkN n fl ls z m), some (.dict kvs), some (.list (X.map PyData.str)), some own, o], n := 0 }) ∧ (terms.take i).all (okT kvs X fl) = true) ⟨⟨none, rfl⟩, rfl⟩ ?_ ?_
      · rintro i t s N hi ⟨⟨o, rfl⟩, ha⟩ hN
        have htm := List.mem_of_getElem? hi
        have htk : terms.take (i + 1) = terms.take i ++ [t] := by rw [List.take_add_one, hi]; rfl
        obtain ⟨⟨x, qs, rfl, hx, hql, hqs⟩, hbt⟩ := htn t htm
        have hok : okT kvs X fl (.tuple [.str (Str.ofString "notion"), .str x, .tuple qs]) = (X.contains x && (decide (flr (ntv kvs x) < fl) && decide (kil (ntv kvs x) = qs.map kdOf))) := rfl
        have hall : (terms.take (i + 1)).all (okT kvs X fl) = okT kvs X fl (.tuple [.str (Str.ofString "notion"), .str x, .tuple qs]) := by
          rw [htk, List.all_append, ha, Bool.true_and, List.all_cons, List.all_nil, Bool.and_true]
        refine ifS (b := !(X.contains x) || (decide (flr (ntv kvs x) ≥ fl) || !decide (kil (ntv kvs x) = qs.map kdOf))) (tst_or (fun Q q => ix_ok 1 rfl rfl (.inl ⟨rfl, flat_strs, ?_⟩)) (fun h1 => ?_)) (fun hc => ?_) (fun hc => ?_)
        · rw [in_strs, Bool.true_xor]
          exact q
        · rw [Bool.not_eq_false'] at h1
          obtain ⟨g0, ⟨⟨fl', ls', z', m', e', _, _, hls', hll', _⟩, _, _⟩⟩ := hg.get (hX x (List.contains_iff_mem.mp h1))
          have e1 : flr (ntv kvs x) = fl' := by rw [e']; rfl
          have e2 : kil (ntv kvs x) = ls'.map secS := by rw [e']; rfl
          rw [e1, e2]
          rw [e'] at g0
          refine tst_or (fun Q q => ix_ok 1 rfl rfl ⟨_, g0, ix_ok 2 rfl rfl (ix_ok 2 rfl rfl q)⟩) (fun _ => tst_not (tst_ex (fun Q q => ix_ok 1 rfl rfl ⟨_, g0, ix_ok 2 rfl rfl ⟨x, fl', ls', z', m', qs, rfl, hls', by omega, hql, hqs, q⟩⟩)))
        · have : terms.all (okT kvs X fl) = false := by
            rw [List.all_eq_false]
            refine ⟨_, htm, ?_⟩
            rw [hok]
            simp only [Bool.or_eq_true, Bool.not_eq_true', decide_eq_true_eq, decide_eq_false_iff_not] at hc
            simp only [Bool.and_eq_true, decide_eq_true_eq]
            rintro ⟨a, b, c⟩
            rcases hc with h | h | h
            · rw [a] at h; cases h
            · omega
            · exact h c
          rw [this, Bool.false_and] at q
          exact q
        · refine hN _ ⟨⟨_, rfl⟩, ?_⟩
          rw [hall, hok]
          simp only [Bool.or_eq_false_iff, Bool.not_eq_false', decide_eq_false_iff_not, decide_eq_true_eq] at hc
          rw [hc.1, Bool.true_and, Bool.and_eq_true, decide_eq_true_eq, decide_eq_true_eq]
          exact ⟨by omega, hc.2.2⟩
      · rintro s ⟨⟨o, rfl⟩, ha⟩
        rw [List.take_length] at ha
        exact ⟨⟨o, rfl⟩, ha⟩
  rintro s ⟨⟨o, rfl⟩, ha⟩
  rw [ha, Bool.true_and] at q
  rcases hown with rfl | ⟨x, qs, rfl, hx, hql, hqs⟩
  · exact retS (d := .bool (true || true)) (exv_or (fun Q q => q) (fun h => nomatch h)) q
  · exact retS (d := .bool (false || decide (ls.map secS = qs.map kdOf))) (exv_or (fun Q q => q) (fun _ => fun Q q => ix_ok 2 rfl rfl ⟨n, fl, ls, z, m, qs, rfl, hls, by omega, hql, hqs, q⟩)) q
end

/-! ### firm -/
theorem nodup_len : ∀ {L ks : List Str}, L.Nodup → (∀ x ∈ L, x ∈ ks) → L.length ≤ ks.length
  | [], _, _, _ => Nat.zero_le _
  | x :: L, ks, nd, h => by
    have hx := h x (List.mem_cons_self ..)
    have nd' := List.nodup_cons.mp nd
    have ih := nodup_len (L := L) (ks := ks.erase x) nd'.2 fun y m => (List.mem_erase_of_ne (fun e => nd'.1 (by rw [← e]; exact m))).mpr (h y (List.mem_cons_of_mem _ m))
    rw [List.length_erase_of_mem hx] at ih
    have : 0 < ks.length := List.length_pos_of_mem hx
    rw [List.length_cons]
    omega
structure LI (kvs : List (D × D)) (P : Str → Prop) (L : List Str) : Prop where
  nd : L.Nodup
  mem : ∀ n, n ∈ L ↔ isIn kvs n ∧ P n ∧ rt kvs L n = true
theorem LI.to {kvs : List (D × D)} {P P' : Str → Prop} {L : List Str} (h : LI kvs P L) (e : ∀ n, isIn kvs n → (P n ↔ P' n)) : LI kvs P' L :=
  ⟨h.nd, fun n => (h.mem n).trans ⟨fun ⟨a, b, c⟩ => ⟨a, (e n a).mp b, c⟩, fun ⟨a, b, c⟩ => ⟨a, (e n a).mpr b, c⟩⟩⟩
theorem LI.add {kvs : List (D × D)} {P : Str → Prop} {L : List Str} {x : Str} {j : Int} (h : LI kvs P L) (hx : isIn kvs x) (hn : ¬ P x) (hj : flr (ntv kvs x) = j) (hP : ∀ n, P n → flr (ntv kvs n) ≤ j) (r : rt kvs L x = true) : LI kvs (fun n => P n ∨ n = x) (L ++ [x]) := by
  have mono : ∀ n, rt kvs L n = true → rt kvs (L ++ [x]) n = true := fun n r => rt_mono (fun y m => List.mem_append_left _ m) r
  refine ⟨?_, fun n => ⟨fun m => ?_, fun ⟨a, b, c⟩ => ?_⟩⟩
  · refine List.nodup_append.mpr ⟨h.nd, by simp, fun a ma b mb => ?_⟩
    rintro rfl
    rw [List.mem_singleton.mp mb] at ma
    exact hn ((h.mem x).mp ma).2.1
  · rcases List.mem_append.mp m with m | m
    · obtain ⟨a, b, c⟩ := (h.mem n).mp m
      exact ⟨a, .inl b, mono n c⟩
    · obtain rfl := List.mem_singleton.mp m
      exact ⟨hx, .inr rfl, mono n r⟩
  · rcases b with b | rfl
    · refine List.mem_append_left _ ((h.mem n).mpr ⟨a, b, rt_low (fun y hy m => ?_) c⟩)
      rcases List.mem_append.mp m with m | m
      · exact m
      · obtain rfl := List.mem_singleton.mp m
        have := hP n b
        omega
    · exact List.mem_append_right _ (List.mem_singleton.mpr rfl)
theorem LI.skip {kvs : List (D × D)} {P : Str → Prop} {L : List Str} {x : Str} (h : LI kvs P L) (r : rt kvs L x = false) : LI kvs (fun n => P n ∨ n = x) L := by
  refine ⟨h.nd, fun n => ⟨fun m => ?_, fun ⟨a, b, c⟩ => ?_⟩⟩
  · obtain ⟨a, b, c⟩ := (h.mem n).mp m
    exact ⟨a, .inl b, c⟩
  · rcases b with b | rfl
    · exact (h.mem n).mpr ⟨a, b, c⟩
    · rw [r] at c; cases c
structure FirmOk (kvs : List (D × D)) (L : List Str) : Prop where
  pw : L.Pairwise leS
  nd : L.Nodup
  mem : ∀ n, n ∈ L ↔ isIn kvs n ∧ rt kvs L n = true
def firmF : DF := fun ds Q => ∃ kvs, ds = [.dict kvs] ∧ Good kvs ∧ ∀ L, FirmOk kvs L → Q (.list (L.map PyData.str))
section
variable {P : Program} {w : World} {K : PySem.W.Frag} {mg : Str → Option Value} {base : Heap}
theorem ok_firm (T : Tx w K mg) {l : Nat} (O_stands : Ok P w K mg base l "stands" ["notion", "notions", "found"] (spN K 3 .E standsF)) : Ok P w K mg base (l + 1) "firm" ["notions"] (spN K 1 .F firmF) := by
  refine Ok.ofN (M := [1]) T.d_firm sc_firm rfl (by decide) fun f cdv A outer s H E hr => ⟨_, _, (pss_cons (ps_set (i := 1) sc_firm.nd rfl (Or.inl rfl) (pe_lst (pa_nil)))
 (pss_cons (ps_for PassesOwn.never rfl (pi_range1 (by rfl) T.z_range (pa_cons (pe_gv (by rfl) T.g_FLOORS) (pa_nil))) (pg_nameL (i := 2) sc_firm.nd rfl rfl)
 (pss_one (ps_for PassesOwn.never rfl (piL K rfl (pe_callB (sortG K rfl rfl) (by rfl) T.z_sorted boot_sorted (pa_cons (pv 0) (pa_nil)))) (pg_nameL (i := 3) sc_firm.nd rfl rfl)
 (pss_one (ps_if (PW.pt (pw_and (pt_cmpR (eqG K rfl hr.units) (pe_ix (ixG K rfl (u65 hr.toRoom)) (pe_ix (ixG K rfl (u65 hr.toRoom)) (pv 0) (pv 3) (fun _ _ => rfl)) (pe_int) (fun _ _ => rfl)) (pv 2) (nomark _)) (pw_and1 (pt_val (pe_fn O_stands (hr.mono (by omega)) (by rfl) (pa_cons (pe_ix (ixG K rfl (u65 hr.toRoom)) (pv 0) (pv 3) (fun _ _ => rfl)) (pa_cons (pv 0) (pa_cons (pv 1) (pa_nil)))))))))
 (pss_one (ps_expr (appK K rfl (pv 1) (pv 3))))
 (pss_nil))))))
 (pss_one (ps_ret (pe_callB (sortG K rfl rfl) (by rfl) T.z_sorted boot_sorted (pa_cons (pv 1) pa_nil)))))),
 (simS_seq (simS_setM 1 (ym rfl) (nb rfl) (sim_lst (by decide) (simA_nil)))
 (simS_cut (simS_for (simI_range1 (sim_int _)) (simG_name 2 (nm rfl) (np rfl))
 (simS_for (simI_list (sim_cb caA_sort (simA_cons (sim_var 0 (nm rfl)) (simA_nil)))) (simG_name 3 (nm rfl) (np rfl))
 (simS_if (simT_and (simT_test (sim_op opA_eq (opA_ix (opA_ix (sim_var 0 (nm rfl)) (sim_var 3 (nm rfl))) (sim_int _)) (sim_var 2 (nm rfl)))) (simT_B (sim_callO (simO'_cons (opA_ix (sim_var 0 (nm rfl)) (sim_var 3 (nm rfl))) (simO'_cons (sim_var 0 (nm rfl)) (simO'_own (ym rfl) (simA_nil)))))))
 (simS_drop (sim_mt 1 (ym rfl) mtA_app (simA_cons (sim_var 3 (nm rfl)) simA_nil)))
 (simS_next))))
 (simS_ret (sim_cbM 1 (ym rfl) caA_sort)))), ?_⟩
  rintro ds Q hl ⟨kvs, rfl, hg, q⟩
  obtain ⟨ks, hks, hk64, hknd⟩ := hg.keys
  have hin : ∀ {n : Str}, isIn kvs n ↔ n ∈ ks := fun {n} => by
    unfold isIn
    rw [hks, List.mem_map]
    exact ⟨fun ⟨a, m, e⟩ => by cases e; exact m, fun m => ⟨n, m, rfl⟩⟩
  refine ⟨rfl, fun s => ∃ o2 o3 L, s = { δ := [some (.dict kvs), some (.list (L.map PyData.str)), o2, o3], n := 0 } ∧ LI kvs (fun n => True) L, ?_, ?_⟩
  · refine ⟨⟨by decide, by decide⟩, forD_ind (fun j s => ∃ o2 o3 L, s = { δ := [some (.dict kvs), some (.list (L.map PyData.str)), o2, o3], n := 0 } ∧ j ≤ 10 ∧ LI kvs (fun n => flr (ntv kvs n) < (j : Int)) L) ⟨none, none, [], rfl, by decide, List.nodup_nil, fun n => ⟨fun m => (nomatch m), fun ⟨a, b, _⟩ => ?_⟩⟩ ?_ ?_⟩
    · obtain ⟨⟨fl, ls, z, m, e, h0, _⟩, _, _⟩ := (hg.get a).2
      rw [e] at b
      have : fl < 0 := b
      omega
    · rintro j d s N hd ⟨o2, o3, L0, rfl, hj10, hL0⟩ hN
      obtain ⟨hj, rfl⟩ := rgD_get hd
      have hj : j < 10 := by simpa using hj
      refine ⟨ks, hks, hk64, fun ys hperm hsort => ?_⟩
      have hynd : ys.Nodup := hperm.symm.nodup hknd
      have hy : ∀ {n : Str}, n ∈ ys ↔ isIn kvs n := fun {n} => (hperm.mem_iff).trans hin.symm
      refine forD_ind (fun i s => ∃ o3 L, s = { δ := [some (.dict kvs), some (.list (L.map PyData.str)), some (.int (0 + (j : Nat))), o3], n := 0 } ∧ LI kvs (fun n => flr (ntv kvs n) < (j : Int) ∨ (flr (ntv kvs n) = j ∧ n ∈ ys.take i)) L) ⟨o3, L0, rfl, hL0.to fun n _ => by simp⟩ ?_ ?_
      · rintro i d s N2 hd ⟨o3, L, rfl, hL⟩ hN2
        obtain ⟨x, hxi, rfl⟩ : ∃ x, ys[i]? = some x ∧ d = .str x := by
          rw [List.getElem?_map] at hd
          cases e : ys[i]? with
          | none => rw [e] at hd; cases hd
          | some x => rw [e] at hd; exact ⟨x, rfl, (Option.some.inj hd).symm⟩
        have htk : ys.take (i + 1) = ys.take i ++ [x] := by rw [List.take_add_one, hxi]; rfl
        have hix : isIn kvs x := hy.mp (List.mem_of_getElem? hxi)
        have hxn : x ∉ ys.take i := fun m => by
          have : (ys.take (i + 1)).Nodup := hynd.sublist (List.take_sublist _ _)
          rw [htk, List.nodup_append] at this
          exact this.2.2 x m x (List.mem_singleton.mpr rfl) rfl
        obtain ⟨g0, ⟨⟨fl, ls, z, m, e, h0, h9, _⟩, _, _⟩⟩ := hg.get hix
        have g1 := g0
        rw [e] at g1
        have efl : flr (ntv kvs x) = fl := by rw [e]; rfl
        have hLl : L.length ≤ ks.length := nodup_len hL.nd fun x m => hin.mp ((hL.mem x).mp m).1
        refine ifS (b := decide (fl = 0 + (j : Int)) && rt kvs L x) (tst_and (fun Q q => ⟨_, g1, ix_ok 2 rfl rfl q⟩) (fun _ => tst_ex (fun Q q => ⟨_, g0, ⟨_, rfl⟩, kvs, x, L, rfl, hg, hix, fun y m => ((hL.mem y).mp m).1, rfl, q⟩))) (fun hc => ?_) (fun hc => ?_)
        · rw [Bool.and_eq_true, decide_eq_true_eq] at hc
          refine ⟨⟨_, rfl⟩, ?_, ?_⟩
          · rw [List.length_map]; exact small_line (by omega)
          have h1 := hL.add hix (j := (j : Int)) (fun h => ?_) (by omega) (fun n h => by omega) hc.2
          · have h2 := hN2 _ ⟨some (.str x), L ++ [x], rfl, h1.to fun n _ => ?_⟩
            · rw [List.map_append] at h2
              exact h2
            · rw [htk, List.mem_append, List.mem_singleton]
              constructor
              · rintro ((h | ⟨h, h'⟩) | rfl)
                · exact .inl h
                · exact .inr ⟨h, .inl h'⟩
                · exact .inr ⟨by omega, .inr rfl⟩
              · rintro (h | ⟨h, h' | h'⟩)
                · exact .inl (.inl h)
                · exact .inl (.inr ⟨h, h'⟩)
                · exact .inr h'
          · rcases h with h | ⟨_, h⟩
            · omega
            · exact hxn h
        · refine hN2 _ ⟨some (.str x), L, rfl, ?_⟩
          by_cases hj2 : fl = (j : Int)
          · have hr : rt kvs L x = false := by
              cases h : rt kvs L x with
              | false => rfl
              | true => rw [h, decide_eq_true (by omega)] at hc; cases hc
            refine (hL.skip hr).to fun n _ => ?_
            rw [htk, List.mem_append, List.mem_singleton]
            constructor
            · rintro ((h | ⟨h, h'⟩) | rfl)
              · exact .inl h
              · exact .inr ⟨h, .inl h'⟩
              · exact .inr ⟨by omega, .inr rfl⟩
            · rintro (h | ⟨h, h' | h'⟩)
              · exact .inl (.inl h)
              · exact .inl (.inr ⟨h, h'⟩)
              · exact .inr h'
          · refine hL.to fun n _ => ?_
            rw [htk, List.mem_append, List.mem_singleton]
            constructor
            · rintro (h | ⟨h, h'⟩)
              · exact .inl h
              · exact .inr ⟨h, .inl h'⟩
            · rintro (h | ⟨h, h' | rfl⟩)
              · exact .inl h
              · exact .inr ⟨h, h'⟩
              · omega
      · rintro s ⟨o3, L, rfl, hL⟩
        refine hN _ ⟨_, o3, L, rfl, by omega, hL.to fun n hn => ?_⟩
        rw [List.length_map, List.take_length]
        constructor
        · rintro (h | ⟨h, _⟩) <;> omega
        · intro h
          by_cases e : flr (ntv kvs n) = (j : Int)
          · exact .inr ⟨e, hy.mpr hn⟩
          · exact .inl (by omega)
    · rintro s ⟨o2, o3, L, rfl, _, hL⟩
      refine ⟨o2, o3, L, rfl, hL.to fun n hn => ⟨fun _ => True.intro, fun _ => ?_⟩⟩
      obtain ⟨⟨fl, ls, z, m, e, h0, h9, _⟩, _, _⟩ := (hg.get hn).2
      rw [e]
      show fl < _
      have : ((rgD 0 (Int.toNat 10)).length : Int) = 10 := by decide
      omega
  · rintro s ⟨o2, o3, L, rfl, hL⟩
    have hlen : L.length ≤ ks.length := nodup_len hL.nd fun x m => hin.mp ((hL.mem x).mp m).1
    refine ⟨L, rfl, by omega, fun ys hperm hsort => q ys ⟨sortedS_pw hsort, hperm.symm.nodup hL.nd, fun n => ?_⟩⟩
    rw [hperm.mem_iff, hL.mem n]
    exact ⟨fun ⟨a, _, c⟩ => ⟨a, rt_mono (fun y m => hperm.mem_iff.mpr m) c⟩, fun ⟨a, c⟩ => ⟨a, True.intro, rt_mono (fun y m => hperm.mem_iff.mp m) c⟩⟩
end

/-! ### the law's own looking: the terms in a thing -/
def isNW : D → Bool
  | .str x => decide (x = Str.ofString "notion")
  | _ => false
theorem eq_notion {w : D} {Q : D → Prop} (hw : Sh w) (q : Q (.bool (isNW w))) : eqD w (.str (Str.ofString "notion")) Q := by
  have hs : Sh (.str (Str.ofString "notion")) := by show SeqAt.shaped _ = true; decide +kernel
  cases w <;> first | exact q | exact ⟨hw, hs, q⟩
theorem for_tup {g : D → S → (S → Prop) → Prop} {b : DSt} {E : DEnds} {s : S} {i : Nat} {L : List D} (h : s.δ[i]? = some (some (.tuple L))) (k : forD g b E L s) : dFor (fun s Q => dV i s fun d s1 => match d with | .tuple ds => Q ds s1 | _ => False) g b E s := by
  unfold dFor dV
  dsimp only
  rw [h]
  exact k

theorem g116 : goes 116 = true := by decide +kernel
def sortRowT : List Str := [Str.ofString "row", Str.ofString "with", Str.ofString "room"]
def sortOfT : D → Str
  | .tuple [.str a, _] => a
  | _ => Str.ofString ""
theorem sort_row (w : Str) : (sortOf (.str w) = Str.ofString "row") ↔ w ∈ sortRowT := by
  have ha : (tab_FORMS.all fun p => decide (sortOfT p.2 = Str.ofString "row") == sortRowT.contains p.1) = true := by decide +kernel
  show (pairT w).1 = _ ↔ _
  unfold pairT
  cases e : findT tab_FORMS w with
  | none =>
    constructor
    · intro h; exact absurd h (by decide +kernel)
    · intro h
      simp only [sortRowT, List.mem_cons, List.not_mem_nil, or_false] at h
      exfalso
      rcases h with rfl | rfl | rfl
      · have : (findT tab_FORMS (Str.ofString "row")).isSome = true := by decide +kernel
        rw [e] at this; cases this
      · have : (findT tab_FORMS (Str.ofString "with")).isSome = true := by decide +kernel
        rw [e] at this; cases this
      · have : (findT tab_FORMS (Str.ofString "room")).isSome = true := by decide +kernel
        rw [e] at this; cases this
  | some d =>
    obtain ⟨a, b, rfl⟩ := forms_two e
    have h2 := List.all_eq_true.mp ha _ (findT_mem e)
    rw [beq_iff_eq] at h2
    show a = _ ↔ _
    have h3 : decide (a = Str.ofString "row") = sortRowT.contains w := h2
    rw [← List.contains_iff_mem, ← h3, decide_eq_true_eq]
/-- a leaf, a thing, a tuple of things -/
def tame (d : D) : Prop := (∀ ds, d ≠ .tuple ds) ∨ (∃ j, isThing j d) ∨ ∃ qs, d = .tuple qs ∧ ∀ q ∈ qs, ∃ j, isThing j q
theorem part_tame {j c : Nat} {p : D} (h : partB (hf j) c p = true) : tame p := by
  unfold partB at h
  split at h
  · exact .inr (.inl ⟨j, isThing.t h⟩)
  split at h
  · exact .inr (.inl ⟨j, isThing.t h⟩)
  split at h
  · exact .inr (.inl ⟨j, isThing.t h⟩)
  split at h
  · refine .inl fun ds e => ?_
    subst e
    cases h
  split at h
  · refine .inl fun ds e => ?_
    subst e
    simp [isName] at h
  split at h
  · cases p <;> first | (cases h; done) | skip
    rename_i qs
    refine .inr (.inr ⟨qs, rfl, fun q m => ⟨j, ?_⟩⟩)
    have := List.all_eq_true.mp h q m
    rw [Bool.or_eq_true] at this
    rcases this with h | h <;> exact isThing.t h
  · refine .inl fun ds e => ?_
    subst e
    simp [isWhole] at h
theorem tame_parts {ds : List D} (h : tame (.tuple ds)) : ∀ p ∈ ds, tame p := by
  intro p m
  rcases h with h | ⟨j, h⟩ | ⟨qs, e, h⟩
  · exact absurd rfl (h ds)
  · obtain ⟨s, hs, h⟩ := h
    obtain ⟨j, x, ps, a, b, rfl, e0, e, _, eb, hlp, hp⟩ := hf_inv hs h
    cases e0
    rcases List.mem_cons.mp m with rfl | m
    · exact .inl fun ds e => by cases e
    · obtain ⟨i, hi⟩ := List.getElem?_of_mem m
      have hlt : i < (tl b).length := by rw [← hlp]; exact (List.getElem?_eq_some_iff.mp hi).1
      exact part_tame (hp ((tl b)[i], p) (List.mem_of_getElem? (List.getElem?_zip_eq_some.mpr ⟨List.getElem?_eq_getElem hlt, hi⟩)))
  · cases e
    exact .inr (.inl (h p m))
def pairTm (t : D) : D := .tuple [nameOf t, .list ((kdsOf t).map PyData.str)]
def is3 : List D → Bool
  | w :: ps => isNW w && decide (ps.length = 2)
  | [] => false
def tin : Nat → D → List D
  | k + 1, .tuple ds => (if is3 ds = true then [pairTm (.tuple ds)] else []) ++ ds.flatMap (tin k)
  | _, _ => []
theorem tin_len : ∀ (k : Nat) (d : D), (tin k d).length ≤ sz d
  | 0, d => by simp [tin]
  | k + 1, d => by
    by_cases h : ∃ ds, d = .tuple ds
    · obtain ⟨ds, rfl⟩ := h
      have h1 := flat_len (f := tin k) ds fun p _ => tin_len k p
      simp only [tin, List.length_append]
      have h2 : (if is3 ds = true then [pairTm (.tuple ds)] else []).length ≤ 1 := by split <;> simp
      have h3 : sz (.tuple ds) = szAll ds + 3 := by simp only [sz]
      omega
    · have e : tin (k + 1) d = [] := by
        cases d <;> first | rfl | exact absurd ⟨_, rfl⟩ h
      rw [e]
      exact Nat.zero_le _
def tinF (k : Nat) : DF := fun ds Q => ∃ d, ds = [d] ∧ Ok1 k d ∧ tame d ∧ Q (.list (tin k d))
theorem is3_form {ds : List D} (h : is3 ds = true) (ht : tame (.tuple ds)) : ∃ z qs, ds = [.str (Str.ofString "notion"), .str z, .tuple qs] ∧ ∀ q ∈ qs, ∃ (w : Str) (r : List D), q = .tuple (.str w :: r) := by
  cases ds with
  | nil => cases h
  | cons w ps =>
    simp only [is3, Bool.and_eq_true, decide_eq_true_eq] at h
    cases w <;> first | (have := h.1; simp [isNW] at this; done) | skip
    rename_i x
    have hx : x = Str.ofString "notion" := by simpa [isNW] using h.1
    subst hx
    rcases ht with ht | ⟨j, ht⟩ | ⟨qs, e, ht⟩
    · exact absurd rfl (ht _)
    · obtain ⟨s, hs, hh⟩ := ht
      obtain ⟨j, x, ps', a, b, rfl, e0, e, _, eb, hlp, hp⟩ := hf_inv hs hh
      cases e0
      obtain ⟨z, qs, rfl, hz, hq⟩ := notion_of eb hlp hp
      refine ⟨z, qs, rfl, fun q mq => ?_⟩
      have : isThing j q := by rcases hq q mq with h | h <;> exact isThing.t h
      obtain ⟨s, hs, h⟩ := this
      obtain ⟨_, x, ps, _, _, _, rfl, _⟩ := hf_inv hs h
      exact ⟨x, ps, rfl⟩
    · cases e
      obtain ⟨j, s, hs, hh⟩ := ht (.str (Str.ofString "notion")) (by simp)
      obtain ⟨_, x, ps, _, _, _, e0, _⟩ := hf_inv hs hh
      cases e0
section
variable {P : Program} {w : World} {K : PySem.W.Frag} {mg : Str → Option Value} {base : Heap}
theorem tin_body (T : Tx w K mg) {k l : Nat} (hk : k ≤ 60) {F : DF} (hF : ∀ j, k = j + 1 → ∀ ds Q, tinF j ds Q → F ds Q) (O__law_terms_in : Ok P w K mg base l "_law_terms_in" ["_law_thing"] (spN K 1 .E F)) : Ok P w K mg base (l + 1) "_law_terms_in" ["_law_thing"] (spN K 1 .E (tinF k)) := by
  refine Ok.ofN (M := [1]) T.d__law_terms_in sc__law_terms_in rfl (by decide) fun f cdv A outer s H E hr => ⟨_, _, (pss_cons (ps_set (i := 1) sc__law_terms_in.nd rfl (Or.inl rfl) (pe_lst (pa_nil)))
 (pss_cons (ps_if (pt_val (pe_callB (isiK K rfl) (by rfl) T.z_isinstance boot_isi (pa_cons (pv 0) (pa_cons (pe_bltn (v := .ty "tuple") (by rfl) T.z_tuple boot_tuple rfl) pa_nil))))
 (pss_cons (ps_if (PW.pt (pw_and (pt_cmpR (eqG K rfl hr.units) (pe_callB (lenG K rfl) (by rfl) T.z_len boot_len (pa_cons (pv 0) (pa_nil))) (pe_int) (nomark _)) (pw_and1 (pt_cmpR (eqG K rfl hr.units) (pe_ix (ixG K rfl (u65 hr.toRoom)) (pv 0) (pe_int) (fun _ _ => rfl)) (pe_str) (nomark _)))))
 (pss_cons (ps_setLc (i := 2) (own := [("_law_place", 3)]) rfl sc__law_terms_in.nd rfl rfl (sw_true rfl rfl rfl (by decide +kernel)) (piT K rfl (pe_ix (ixG K rfl (u65 hr.toRoom)) (pv 0) (pe_int) (fun _ _ => rfl))) (blkOk_by (own := [("_law_place", 3)]) (N := ["_law_thing", "_law_found", "_law_kinds", "_law_place", "_law_part"]) (sc := defScope s__law_terms_in) (by decide +kernel)) (fun _ _ _ _ _ => pg_nameL (i := 3) sc__law_terms_in.nd rfl rfl) (fun _ _ _ _ _ => pts_nil) (fun _ _ _ _ _ => pe_ix (ixG K rfl (u65 hr.toRoom)) (pe_lst (pa_cons (pe_str) (pa_cons (pe_str) (pa_nil)))) (pe_callTy call_int1 (by rfl) T.z_int boot_int (pa_cons (pe_cmpR (inG K rfl (u65 hr.toRoom)) (pe_ix (ixG K rfl (u65 hr.toRoom)) (pv 3) (pe_int) (fun _ _ => rfl)) (pe_tup (pa_cons (pe_str) (pa_cons (pe_str) (pa_cons (pe_str) (pa_nil))))) (by rfl)) (pa_nil))) (fun _ _ => rfl)))
 (pss_one (ps_expr (appK K rfl (pv 1) (pe_tup (pa_cons (pe_ix (ixG K rfl (u65 hr.toRoom)) (pv 0) (pe_int) (fun _ _ => rfl)) (pa_cons (pv 2) (pa_nil))))))))
 (pss_nil))
 (pss_one (ps_for PassesOwn.never rfl (piT K rfl (pv 0)) (pg_nameL (i := 4) sc__law_terms_in.nd rfl rfl)
 (pss_one (ps_set (i := 1) sc__law_terms_in.nd rfl (Or.inl rfl) (pe_op (addG K rfl) (pv 1) (pe_fn O__law_terms_in (hr.mono (by omega)) (by rfl) (pa_cons (pv 4) (pa_nil)))))))))
 (pss_nil))
 (pss_one (ps_ret (pv 1))))),
 (simS_seq (simS_setM 1 (ym rfl) (nb rfl) (sim_lst (by decide) (simA_nil)))
 (simS_cut (simS_if (simT_B (sim_isi .tuple (sim_var 0 (nm rfl))))
 (simS_cut (simS_if (simT_and (simT_test (sim_op opA_eq (sim_cb caA_len (simA_cons (sim_var 0 (nm rfl)) (simA_nil))) (sim_int _))) (simT_test (sim_op opA_eq (opA_ix (sim_var 0 (nm rfl)) (sim_int _)) (sim_str _))))
 (simS_cut (simS_set 2 (nm rfl) (np rfl) (sim_lc (simI_tup (opA_ix (sim_var 0 (nm rfl)) (sim_int _))) (simG_name 3 (nm rfl) (np rfl)) (simT_yes) (opA_ix (sim_lst (by decide) (simA_cons (sim_str _) (simA_cons (sim_str _) (simA_nil)))) (sim_cb caA_int (simA_cons (sim_op opA_in (opA_ix (sim_var 3 (nm rfl)) (sim_int _)) (sim_tup (by decide) (simA_cons (sim_str _) (simA_cons (sim_str _) (simA_cons (sim_str _) (simA_nil)))))) (simA_nil)))) (inv' rfl) (nmv rfl) (npv rfl)))
 (simS_drop (sim_mt 1 (ym rfl) mtA_app (simA_cons (sim_tup (by decide) (simA_cons (opA_ix (sim_var 0 (nm rfl)) (sim_int _)) (simA_cons (sim_var 2 (nm rfl)) (simA_nil)))) simA_nil))))
 (simS_next))
 (simS_for (simI_tup (sim_var 0 (nm rfl))) (simG_name 4 (nm rfl) (np rfl))
 (simS_setM 1 (ym rfl) (nb rfl) (sim_opM 1 (ym rfl) opA_add (sim_call (simA_cons (sim_var 4 (nm rfl)) (simA_nil)))))))
 (simS_next))
 (simS_retM 1 (ym rfl) (nb rfl)))), ?_⟩
  rintro ds Q hl ⟨d, rfl, ho, htm, q⟩
  refine ⟨rfl, fun s => ∃ o2 o4, s = { δ := [some d, some (.list (tin k d)), o2, none, o4], n := 0 }, ?_, ?_⟩
  rotate_left
  · rintro s ⟨o2, o4, rfl⟩
    exact q
  by_cases ht : ∃ ds, d = .tuple ds
  case neg =>
    have e : tin k d = [] := by
      cases k <;> cases d <;> first | rfl | exact absurd ⟨_, rfl⟩ ht
    rw [e]
    cases d <;> first | exact ⟨_, _, rfl⟩ | exact absurd ⟨_, rfl⟩ ht
  obtain ⟨ds, rfl⟩ := ht
  obtain ⟨k, rfl⟩ : ∃ j, k = j + 1 := ⟨k - 1, by have := ho.h; simp only [PyData.depth] at this; omega⟩
  have hmem := ho.ofTup.mem
  have hlen : ds.length ≤ 1000000 := ho.tlen
  have hsz := ho.t
  have hpt := tame_parts htm
  have hsz3 : sz (.tuple ds) = szAll ds + 3 := by simp only [sz]
  obtain ⟨acc1, ea⟩ : ∃ l, l = (if is3 ds = true then [pairTm (.tuple ds)] else []) := ⟨_, rfl⟩
  have en : tin (k + 1) (.tuple ds) = acc1 ++ ds.flatMap (tin k) := by rw [ea]; rfl
  have hl1 : acc1.length ≤ 1 := by rw [ea]; split <;> simp
  rw [en]
  refine ⟨fun s => ∃ o2, s = { δ := [some (.tuple ds), some (.list acc1), o2, none, none], n := 0 }, ?_, ?_⟩
  · cases ds with
    | nil => exact ifS (b := decide ((([] : List D).length : Int) = 3) && false) (tst_and (fun Q q => q) (fun h => absurd h (by decide))) (fun h => absurd h (by decide)) (fun _ => ⟨none, by rw [ea]; rfl⟩)
    | cons w0 ps =>
      refine ifS (b := decide (((w0 :: ps).length : Int) = 3) && isNW w0) (tst_and (fun Q q => q) (fun _ => fun Q q => ix_ok 0 rfl rfl (eq_notion (Q := fun z => match z with | PyData.bool b => Q b _ | _ => False) ((hmem w0 (List.mem_cons_self ..)).sh (by omega)) q))) (fun hc => ?_) (fun hc => ?_)
      · rw [Bool.and_eq_true, decide_eq_true_eq, List.length_cons] at hc
        have h3 : is3 (w0 :: ps) = true := by
          simp only [is3, Bool.and_eq_true, decide_eq_true_eq]
          exact ⟨hc.2, by omega⟩
        obtain ⟨z, qs, e0, hqs⟩ := is3_form h3 htm
        rw [if_pos h3] at ea
        rw [e0] at hmem ea ⊢
        have hql : qs.length ≤ 1000000 := (hmem (.tuple qs) (by simp)).tlen
        refine ⟨fun s => s = { δ := [some (.tuple [.str (Str.ofString "notion"), .str z, .tuple qs]), some (.list []), some (.list ((qs.map kdOf).map PyData.str)), none, none], n := 0 }, ix_ok 2 rfl rfl ⟨Nat.le_trans hql (by decide), lc1 (fun i acc s => acc = ((qs.take i).map kdOf).map PyData.str ∧ s = { δ := [some (.tuple [.str (Str.ofString "notion"), .str z, .tuple qs]), some (.list []), none, none, none], n := 0 }) ⟨rfl, rfl⟩ ?_ ?_⟩, ?_⟩
        · rintro i y acc s N hi ⟨rfl, rfl⟩ hN
          obtain ⟨x, r, rfl⟩ := hqs y (List.mem_of_getElem? hi)
          have htk : qs.take (i + 1) = qs.take i ++ [.tuple (.str x :: r)] := by rw [List.take_add_one, hi]; rfl
          have hN2 : ∀ v : Str, v = kdOf (.tuple (.str x :: r)) → N (((qs.take i).map kdOf).map PyData.str ++ [.str v]) { δ := [some (.tuple [.str (Str.ofString "notion"), .str z, .tuple qs]), some (.list []), none, none, none], n := 0 } := fun v e => hN _ _ ⟨by rw [e, htk, List.map_append, List.map_append]; rfl, rfl⟩
          refine ix_ok 0 rfl rfl ⟨rfl, rfl, ?_⟩
          have e1 : ([PyData.str (Str.ofString "row"), .str (Str.ofString "with"), .str (Str.ofString "room")].any fun z_1 => eqF z_1 (.str x)) = decide (sortOf (.str x) = Str.ofString "row") := by
            have := in_strs (X := sortRowT) (z := x)
            rw [show [PyData.str (Str.ofString "row"), .str (Str.ofString "with"), .str (Str.ofString "room")] = sortRowT.map PyData.str from rfl, this, Bool.eq_iff_iff, List.contains_iff_mem, decide_eq_true_eq, sort_row]
          rw [e1, Bool.false_xor]
          cases hb : decide (sortOf (.str x) = Str.ofString "row") with
          | true => exact ix_ok 1 rfl rfl (hN2 _ (by simp only [kdOf, if_pos (of_decide_eq_true hb)]))
          | false => exact ix_ok 0 rfl rfl (hN2 _ (by simp only [kdOf, if_neg (of_decide_eq_false hb)]))
        · rintro acc s ⟨rfl, rfl⟩
          rw [List.take_length]
          rfl
        · rintro _ rfl
          refine ⟨⟨_, rfl⟩, ix_ok 1 rfl rfl ⟨by show 0 < sizeLine; decide, ⟨some (.list ((qs.map kdOf).map PyData.str)), ?_⟩⟩⟩
          rw [ea]
          rfl
      · have h3 : is3 (w0 :: ps) = false := by
          cases e : is3 (w0 :: ps) with
          | false => rfl
          | true =>
            simp only [is3, Bool.and_eq_true, decide_eq_true_eq] at e
            rw [e.1, List.length_cons, e.2] at hc
            cases hc
        rw [ea, h3]
        exact ⟨none, rfl⟩
  rintro s ⟨o2, rfl⟩
  refine for_tup rfl (forD_ind (fun i s => ∃ o2 o4, s = { δ := [some (.tuple ds), some (.list (acc1 ++ (ds.take i).flatMap (tin k))), o2, none, o4], n := 0 }) ⟨o2, none, by simp⟩ ?_ ?_)
  · rintro i z s N hi ⟨o2, o4, rfl⟩ hN
    have hzm := List.mem_of_getElem? hi
    have htk : ds.take (i + 1) = ds.take i ++ [z] := by rw [List.take_add_one, hi]; rfl
    have hfl := flat_len (f := tin k) (ds.take i) fun p _ => tin_len k p
    have hs2 : szAll (ds.take i) + sz z + 2 ≤ szAll ds := by
      have h5 := szAll_sub (List.take_sublist (i + 1) ds)
      rw [htk, szAll_snoc] at h5
      exact h5
    have hnz := tin_len k z
    refine ⟨⟨_, rfl⟩, hF k rfl _ _ ⟨z, rfl, (hmem z hzm).to (by omega) (by omega), hpt z hzm, Nat.le_trans (show _ ≤ 1000000 by rw [List.length_append]; omega) (by decide), ?_⟩⟩
    refine ⟨rfl, hN _ ⟨o2, some z, ?_⟩⟩
    rw [htk, List.flatMap_append, ← List.append_assoc]
    simp
  · rintro s ⟨o2, o4, rfl⟩
    rw [List.take_length]
    exact ⟨o2, o4, rfl⟩
theorem ok__law_terms_in (T : Tx w K mg) : ∀ k, k ≤ 60 → Ok P w K mg base (k + 2) "_law_terms_in" ["_law_thing"] (spN K 1 .E (tinF k))
  | 0, hk => tin_body T hk (F := fun _ _ => False) (fun j h => by omega) (Ok.no T.d__law_terms_in sc__law_terms_in (spN_no fun ds Q h => h))
  | k + 1, hk => tin_body T hk (F := tinF k) (fun j e ds Q h => by
      obtain rfl : k = j := by omega
      exact h) (ok__law_terms_in T k (by omega))
end

/-! ### the law's own reckoning -/
theorem leaf_of {r : Str → D → Bool} {c : Nat} {p : D} (hg : goes c = false) (hb : c ≠ 98) (h : partB r c p = true) : ∀ ds, p ≠ .tuple ds := by
  rintro ds rfl
  unfold partB at h
  have n1 : c ≠ 116 := by rintro rfl; rw [g116] at hg; cases hg
  have n2 : c ≠ 114 := by rintro rfl; exact absurd hg (by decide +kernel)
  have n3 : c ≠ 112 := by rintro rfl; exact absurd hg (by decide +kernel)
  rw [if_neg n1, if_neg n2, if_neg n3] at h
  split at h
  · cases h
  split at h
  · simp [isName] at h
  simp [isWhole] at h
def no98 : D → Bool
  | .tuple [_, .str b] => !(tl b).contains 98
  | _ => false
theorem tab_no98 {x a b : Str} (e : findT tab_FORMS x = some (.tuple [.str a, .str b])) (h : x ≠ Str.ofString "notion") : ∀ c ∈ tl b, c ≠ 98 := by
  have ha : (tab_FORMS.all fun p => decide (p.1 = Str.ofString "notion") || no98 p.2) = true := by decide +kernel
  have h2 := List.all_eq_true.mp ha _ (findT_mem e)
  rw [Bool.or_eq_true] at h2
  rcases h2 with h2 | h2
  · exact absurd (of_decide_eq_true h2) h
  · rintro c hc rfl
    have h3 : (!(tl b).contains 98) = true := h2
    rw [List.contains_iff_mem.mpr hc] at h3
    cases h3
theorem zip_flat {f g : D → List D} : ∀ {b : List Nat} {ps : List D}, ps.length = b.length → (∀ x ∈ b.zip ps, if goes x.1 = true then f x.2 = (g x.2).map pairTm else f x.2 = []) → ps.flatMap f = ((((b.zip ps).filter fun p => goes p.1).map Prod.snd).flatMap g).map pairTm
  | [], [], _, _ => rfl
  | c :: b, p :: ps, hl, h => by
    have ih := zip_flat (f := f) (g := g) (b := b) (ps := ps) (by simpa using hl) fun x m => h x (by rw [List.zip_cons_cons]; exact List.mem_cons_of_mem _ m)
    have h0 := h (c, p) (by rw [List.zip_cons_cons]; exact List.mem_cons_self ..)
    rw [List.flatMap_cons, ih, List.zip_cons_cons]
    by_cases hg : goes c = true
    · rw [if_pos (show goes (c, p).1 = true from hg)] at h0
      rw [List.filter_cons_of_pos (p := fun p : Nat × D => goes p.1) hg, List.map_cons, List.flatMap_cons, List.map_append]
      rw [show f p = (g p).map pairTm from h0]
    · rw [if_neg (show ¬ goes (c, p).1 = true from hg)] at h0
      rw [List.filter_cons_of_neg (p := fun p : Nat × D => goes p.1) hg]
      rw [show f p = [] from h0]
      rfl
theorem flat_map {f g : D → List D} : ∀ {qs : List D}, (∀ q ∈ qs, f q = (g q).map pairTm) → qs.flatMap f = (qs.flatMap g).map pairTm
  | [], _ => rfl
  | q :: qs, h => by
    rw [List.flatMap_cons, List.flatMap_cons, List.map_append, h q (List.mem_cons_self ..), flat_map fun r m => h r (List.mem_cons_of_mem _ m)]

theorem goes_thing {j c : Nat} {p : D} (g : goes c = true) (h : partB (hf j) c p = true) : isThing j p := by
  unfold partB at h
  rcases goes_t g with rfl | rfl | rfl
  · rw [if_pos rfl] at h; exact isThing.t h
  · rw [if_neg (by decide), if_pos rfl] at h; exact isThing.t h
  · rw [if_neg (by decide), if_neg (by decide), if_pos rfl] at h; exact isThing.t h
theorem tin_leaf {m : Nat} {p : D} (h : ∀ ds, p ≠ .tuple ds) : tin m p = [] := by
  cases m <;> cases p <;> first | rfl | exact absurd rfl (h _)
theorem tin_nts : ∀ (k : Nat) (d : D), isThing k d → ∀ m, 2 * k ≤ m → tin m d = (ntsOf k d).map pairTm
  | 0, d, h, _, _ => by obtain ⟨j, e, _⟩ := parts_things h; omega
  | k + 1, d, ht, m, hm => by
    obtain ⟨s, hs, h⟩ := ht
    obtain ⟨j, x, ps, a, b, ej, rfl, e, _, eb, hlp, hp⟩ := hf_inv hs h
    obtain rfl : k = j := by omega
    obtain ⟨n, rfl⟩ : ∃ n, m = n + 2 := ⟨m - 2, by omega⟩
    have h0 : tin (n + 1) (.str x) = [] := rfl
    rw [tin, ntsOf, List.flatMap_cons, h0, List.nil_append, List.map_append]
    by_cases h2 : x = Str.ofString "notion"
    · subst h2
      obtain ⟨z, qs, rfl, hn, hqs⟩ := notion_of eb hlp hp
      have e1 : partsOf (.tuple [.str (Str.ofString "notion"), .str z, .tuple qs]) = qs := by simp [partsOf]
      rw [e1]
      have e2 : is3 [PyData.str (Str.ofString "notion"), .str z, .tuple qs] = true := by simp [is3, isNW]
      have e3 : isNot (PyData.tuple [PyData.str (Str.ofString "notion"), .str z, .tuple qs]) = true := by simp [isNot]
      rw [if_pos e2, if_pos e3]
      have e4 : tin (n + 1) (.tuple qs) = (qs.flatMap (ntsOf k)).map pairTm := by
        have e5 : is3 qs = false := by
          cases qs with
          | nil => rfl
          | cons w r =>
            have : isThing k w := by rcases hqs w (List.mem_cons_self ..) with h | h <;> exact isThing.t h
            obtain ⟨s, hs, h⟩ := this
            obtain ⟨_, _, _, _, _, _, rfl, _⟩ := hf_inv hs h
            rfl
        rw [tin, e5, if_neg Bool.false_ne_true, List.nil_append]
        exact flat_map fun q mq => tin_nts k q (by rcases hqs q mq with h | h <;> exact isThing.t h) n (by omega)
      have e5 : tin (n + 1) (.str z) = [] := rfl
      rw [List.flatMap_cons, List.flatMap_cons, List.flatMap_nil, e4, e5, List.nil_append, List.append_nil]
      rfl
    · have e1 : is3 (PyData.str x :: ps) = false := by
        have : isNW (PyData.str x) = false := decide_eq_false h2
        simp only [is3, this, Bool.false_and]
      have e2 : ¬ isNot (PyData.tuple (PyData.str x :: ps)) = true := by
        have : isNot (PyData.tuple (PyData.str x :: ps)) = false := decide_eq_false h2
        rw [this]
        exact Bool.false_ne_true
      rw [e1, if_neg Bool.false_ne_true, if_neg e2, List.nil_append, List.map_nil, List.nil_append]
      simp only [partsOf, if_neg h2, eb]
      refine zip_flat hlp fun y my => ?_
      have hpy := hp y my
      split
      · rename_i hg
        exact tin_nts k y.2 (goes_thing hg hpy) (n + 1) (by omega)
      · rename_i hg
        exact tin_leaf (leaf_of (by simpa using hg) (tab_no98 e h2 _ (List.of_mem_zip my).1) hpy)
structure DueOk (kvs : List (D × D)) (L : List Str) : Prop where
  pw : L.Pairwise leS
  nd : L.Nodup
  fix : ∀ n ∈ L, isIn kvs n ∧ rt kvs L n = true
  top : ∀ X : List Str, (∀ n ∈ X, isIn kvs n ∧ rt kvs X n = true) → ∀ n ∈ X, n ∈ L
def gT (kvs : List (D × D)) (L : List Str) (n : Str) (t : D) : Bool := if nameS t = n then decide (kil (ntv kvs n) = kdsOf t) else okT kvs L (flr (ntv kvs n)) t
theorem rt_g (kvs : List (D × D)) (L : List Str) (n : Str) : rt kvs L n = (tml (ntv kvs n)).all (gT kvs L n) := rfl
theorem Good.fl {kvs : List (D × D)} (g : Good kvs) {n : Str} (h : isIn kvs n) : 0 ≤ flr (ntv kvs n) ∧ flr (ntv kvs n) ≤ 9 := by
  obtain ⟨⟨fl, ls, z, m, e, h0, h9, _⟩, _, _⟩ := (g.get h).2
  rw [e]
  exact ⟨h0, h9⟩
theorem firm_due {kvs : List (D × D)} (g : Good kvs) {L M : List Str} (h : FirmOk kvs L) (h' : DueOk kvs M) : L = M := by
  refine pw_uniq h.pw h'.pw h.nd h'.nd fun x => ⟨h'.top L (fun n m => (h.mem n).mp m) x, ?_⟩
  have main : ∀ (k : Nat) (x : Str), flr (ntv kvs x) < (k : Int) → x ∈ M → x ∈ L := by
    intro k
    induction k with
    | zero =>
      intro x hx m
      have := (g.fl (h'.fix x m).1).1
      omega
    | succ k ih =>
      intro x hx m
      exact (h.mem x).mpr ⟨(h'.fix x m).1, rt_low (fun y hy my => ih y (by omega) my) (h'.fix x m).2⟩
  intro m
  refine main 10 x ?_ m
  have := (g.fl (h'.fix x m).1).2
  show _ < (10 : Int)
  omega
def dueF : DF := fun ds Q => ∃ kvs, ds = [.dict kvs] ∧ Good kvs ∧ ∀ L, DueOk kvs L → Q (.list (L.map PyData.str))
def gOther (kvs : List (D × D)) (L : List Str) (n z : Str) : Bool := !decide (z = n) && (!(L.contains z) || decide (flr (ntv kvs z) ≥ flr (ntv kvs n)))
theorem gT_split {kvs : List (D × D)} {L : List Str} {n : Str} {t : D} : gT kvs L n t = (!gOther kvs L n (nameS t) && decide (kil (ntv kvs (nameS t)) = kdsOf t)) := by
  unfold gT gOther okT
  by_cases h : nameS t = n
  · rw [if_pos h, decide_eq_true h, h]
    rfl
  · rw [if_neg h, decide_eq_false h]
    cases L.contains (nameS t) with
    | false => rfl
    | true =>
      by_cases hf : flr (ntv kvs (nameS t)) < flr (ntv kvs n)
      · rw [decide_eq_true hf, decide_eq_false (show ¬ flr (ntv kvs (nameS t)) ≥ flr (ntv kvs n) by omega)]
        rfl
      · rw [decide_eq_false hf, decide_eq_true (show flr (ntv kvs (nameS t)) ≥ flr (ntv kvs n) by omega)]
        rfl
theorem ne_strs {xs ys : List Str} {Q : D → Prop} (h : ∀ x ∈ xs, wOk x = true) (h' : ∀ x ∈ ys, wOk x = true) (q : Q (.bool (!decide (xs = ys)))) : neD (.list (xs.map PyData.str)) (.list (ys.map PyData.str)) Q := by
  refine ⟨strs_sh h, strs_sh h', ?_⟩
  show Q (.bool (!PyData.eqvAll _ _))
  rw [eqvAll_strs]
  exact q
/-- the while's state -/
def DueW (kvs : List (D × D)) (ys : List Str) (m : Nat) (s : S) : Prop := ∃ (L : List Str) (sz : Int) (o3 o4 o5 o6 o7 o8 : Option D), s = { δ := [some (.dict kvs), some (.list (L.map PyData.str)), some (.int sz), o3, o4, o5, o6, o7, o8, none, none], n := 0 } ∧ L.Sublist ys ∧
  (∀ X : List Str, (∀ n ∈ X, isIn kvs n ∧ rt kvs X n = true) → ∀ n ∈ X, n ∈ L) ∧ (sz = (L.length : Int) → ∀ n ∈ L, rt kvs L n = true) ∧ m = if sz = (L.length : Int) then 0 else L.length + 1
section
variable {P : Program} {w : World} {K : PySem.W.Frag} {mg : Str → Option Value} {base : Heap}
theorem ok__law_due (T : Tx w K mg) {l : Nat} (O__law_terms_in : Ok P w K mg base l "_law_terms_in" ["_law_thing"] (spN K 1 .E (tinF 20))) : Ok P w K mg base (l + 1) "_law_due" ["_law_notions"] (spN K 1 .E dueF) := by
  refine Ok.ofN (M := []) T.d__law_due sc__law_due rfl (by decide) fun f cdv A outer s H E hr => ⟨_, _, (pss_cons (ps_set (i := 1) sc__law_due.nd rfl (Or.inl rfl) (pe_callB (sortG K rfl rfl) (by rfl) T.z_sorted boot_sorted (pa_cons (pv 0) (pa_nil))))
 (pss_cons (ps_set (i := 2) sc__law_due.nd rfl (Or.inl rfl) (pe_un un_neg (pe_int)))
 (pss_cons (ps_while PassesOwn.never (pt_cmpR (neG K rfl hr.units) (pv 2) (pe_callB (lenG K rfl) (by rfl) T.z_len boot_len (pa_cons (pv 1) (pa_nil))) (nomark _))
 (pss_cons (ps_set (i := 2) sc__law_due.nd rfl (Or.inl rfl) (pe_callB (lenG K rfl) (by rfl) T.z_len boot_len (pa_cons (pv 1) (pa_nil))))
 (pss_cons (ps_set (i := 3) sc__law_due.nd rfl (Or.inl rfl) (pe_lst (pa_nil)))
 (pss_cons (ps_for PassesOwn.never rfl (piL K rfl (pv 1)) (pg_nameL (i := 4) sc__law_due.nd rfl rfl)
 (pss_cons (ps_set (i := 5) sc__law_due.nd rfl (Or.inl rfl) (pe_ix (ixG K rfl (u65 hr.toRoom)) (pv 0) (pv 4) (fun _ _ => rfl)))
 (pss_cons (ps_set (i := 6) sc__law_due.nd rfl (Or.inl rfl) (pe_bl))
 (pss_cons (ps_for PassesOwn.never rfl (piL K rfl (pe_op (addG K rfl) (pe_fn O__law_terms_in (hr.mono (by omega)) (by rfl) (pa_cons (pe_ix (ixG K rfl (u65 hr.toRoom)) (pv 5) (pe_int) (fun _ _ => rfl)) (pa_nil))) (pe_fn O__law_terms_in (hr.mono (by omega)) (by rfl) (pa_cons (pe_ix (ixG K rfl (u65 hr.toRoom)) (pv 5) (pe_int) (fun _ _ => rfl)) (pa_nil))))) (pgT K rfl 2 rfl (pgs_cons (pg_nameL (i := 7) sc__law_due.nd rfl rfl) (pgs_cons (pg_nameL (i := 8) sc__law_due.nd rfl rfl) (pgs_nil))))
 (pss_one (ps_if (PW.pt (pw_and (pt_cmpR (neG K rfl hr.units) (pv 7) (pv 4) (nomark _)) (pw_and1 (PW.pt (pw_or (pt_cmpR (ninG K rfl (u65 hr.toRoom)) (pv 7) (pv 1) (by rfl)) (pw_or1 (pt_cmpR op_ge (pe_ix (ixG K rfl (u65 hr.toRoom)) (pe_ix (ixG K rfl (u65 hr.toRoom)) (pv 0) (pv 7) (fun _ _ => rfl)) (pe_int) (fun _ _ => rfl)) (pe_ix (ixG K rfl (u65 hr.toRoom)) (pv 5) (pe_int) (fun _ _ => rfl)) (nomark _))))))))
 (pss_one (ps_set (i := 6) sc__law_due.nd rfl (Or.inl rfl) (pe_bl)))
 (pss_one (ps_if (pt_cmpR (neG K rfl hr.units) (pe_lc (own := [("_law_letter", 9), ("_law_kind", 10)]) rfl sc__law_due.nd (piT K rfl (pe_ix (ixG K rfl (u65 hr.toRoom)) (pe_ix (ixG K rfl (u65 hr.toRoom)) (pv 0) (pv 7) (fun _ _ => rfl)) (pe_int) (fun _ _ => rfl))) (blkOk_by (own := [("_law_letter", 9), ("_law_kind", 10)]) (N := ["_law_notions", "_law_good", "_law_size", "_law_kept_ones", "_law_name", "_law_notion", "_law_right", "_law_other", "_law_kinds", "_law_letter", "_law_kind"]) (sc := defScope s__law_due) (by decide +kernel)) (fun _ _ _ _ _ => pgT K rfl 2 rfl (pgs_cons (pg_nameL (i := 9) sc__law_due.nd rfl rfl) (pgs_cons (pg_nameL (i := 10) sc__law_due.nd rfl rfl) (pgs_nil)))) (fun _ _ _ _ _ => pts_nil) (fun _ _ _ _ _ => pv 10)) (pv 8) (nomark _))
 (pss_one (ps_set (i := 6) sc__law_due.nd rfl (Or.inl rfl) (pe_bl)))
 (pss_nil))))))
 (pss_one (ps_if (pt_val (pv 6))
 (pss_one (ps_expr (appK K rfl (pv 3) (pv 4))))
 (pss_nil)))))))
 (pss_one (ps_set (i := 1) sc__law_due.nd rfl (Or.inl rfl) (pv 3)))))))
 (pss_one (ps_ret (pv 1)))))),
 (simS_seq (simS_set 1 (nm rfl) (np rfl) (sim_cb caA_sort (simA_cons (sim_var 0 (nm rfl)) (simA_nil))))
 (simS_seq (simS_set 2 (nm rfl) (np rfl) (sim_neg (sim_int _)))
 (simS_cut (simS_while (simT_test (sim_op opA_ne (sim_var 2 (nm rfl)) (sim_cb caA_len (simA_cons (sim_var 1 (nm rfl)) (simA_nil)))))
 (simS_seq (simS_set 2 (nm rfl) (np rfl) (sim_cb caA_len (simA_cons (sim_var 1 (nm rfl)) (simA_nil))))
 (simS_phase 3 (nm rfl) (np rfl) (nb rfl) (sim_lst (by decide) (simA_nil)) (simS_for (simI_list (sim_var 1 (nm rfl))) (simG_name 4 (nm rfl) (np rfl))
 (simS_seq (simS_set 5 (nm rfl) (np rfl) (opA_ix (sim_var 0 (nm rfl)) (sim_var 4 (nm rfl))))
 (simS_seq (simS_set 6 (nm rfl) (np rfl) (sim_bl _))
 (simS_cut (simS_for (simI_list (sim_op opA_add (sim_call (simA_cons (opA_ix (sim_var 5 (nm rfl)) (sim_int _)) (simA_nil))) (sim_call (simA_cons (opA_ix (sim_var 5 (nm rfl)) (sim_int _)) (simA_nil))))) (simG_tup (simGs_cons (simG_name 7 (nm rfl) (np rfl)) (simGs_cons (simG_name 8 (nm rfl) (np rfl)) (simGs_nil))))
 (simS_if (simT_and (simT_test (sim_op opA_ne (sim_var 7 (nm rfl)) (sim_var 4 (nm rfl)))) (simT_or (simT_test (sim_op opA_nin (sim_var 7 (nm rfl)) (sim_var 1 (nm rfl)))) (simT_test (sim_op (opA_cmp _) (opA_ix (opA_ix (sim_var 0 (nm rfl)) (sim_var 7 (nm rfl))) (sim_int _)) (opA_ix (sim_var 5 (nm rfl)) (sim_int _))))))
 (simS_set 6 (nm rfl) (np rfl) (sim_bl _))
 (simS_if (simT_test (sim_op opA_ne (sim_lc (simI_tup (opA_ix (opA_ix (sim_var 0 (nm rfl)) (sim_var 7 (nm rfl))) (sim_int _))) (simG_tup (simGs_cons (simG_name 9 (nm rfl) (np rfl)) (simGs_cons (simG_name 10 (nm rfl) (np rfl)) (simGs_nil)))) (simT_yes) (sim_var 10 (nm rfl)) (inv' rfl) (nmv rfl) (npv rfl)) (sim_var 8 (nm rfl))))
 (simS_set 6 (nm rfl) (np rfl) (sim_bl _))
 (simS_next))))
 (simS_if (simT_B (sim_var 6 (nm rfl)))
 (simS_drop (sim_mt 3 (ym rfl) mtA_app (simA_cons (sim_var 4 (nm rfl)) simA_nil)))
 (simS_next))))))
 (simS_set 1 (nm rfl) (np rfl) (sim_var 3 (nm rfl))))))
 (simS_ret (Sim.toE (sim_var 1 (nm rfl))))))), ?_⟩
  rintro ds Q hl ⟨kvs, rfl, hg, q⟩
  obtain ⟨ks, hks, hk64, hknd⟩ := hg.keys
  have hin : ∀ {n : Str}, isIn kvs n ↔ n ∈ ks := fun {n} => by
    unfold isIn
    rw [hks, List.mem_map]
    exact ⟨fun ⟨a, m, e⟩ => by cases e; exact m, fun m => ⟨n, m, rfl⟩⟩
  refine ⟨ks, hks, hk64, fun ys hperm hsort => ?_⟩
  have hynd : ys.Nodup := hperm.symm.nodup hknd
  have hy : ∀ {n : Str}, n ∈ ys ↔ isIn kvs n := fun {n} => (hperm.mem_iff).trans hin.symm
  have hyl : ys.length < 64 := by rw [hperm.length_eq]; exact hk64
  refine ⟨fun s => ∃ m, DueW kvs ys m s ∧ m = 0, ?_, ?_⟩
  · refine ⟨DueW kvs ys, ⟨_, ys, -1, none, none, none, none, none, none, rfl, List.Sublist.refl _, fun X hX n m => hy.mpr (hX n m).1, fun h => by omega, rfl⟩, ?_⟩
    rintro m s ⟨L, sz, o3, o4, o5, o6, o7, o8, rfl, hsub, htop, hfix, hm⟩
    have hLl := hsub.length_le
    have hLin : ∀ n ∈ L, isIn kvs n := fun n h => hy.mp (hsub.subset h)
    have el : ((L.map PyData.str).length : Int) = (L.length : Int) := by rw [List.length_map]
    refine ite_either (fun hc => ?_) (fun hc => ?_)
    rotate_left
    · rw [Bool.not_eq_false', decide_eq_true_eq] at hc
      have e : sz = (L.length : Int) := hc.trans el
      exact ⟨m, ⟨L, sz, o3, o4, o5, o6, o7, o8, rfl, hsub, htop, hfix, hm⟩, by rw [hm, if_pos e]⟩
    have hne : sz ≠ (L.length : Int) := by
      rw [Bool.not_eq_true', decide_eq_false_iff_not] at hc
      exact fun e => hc (e.trans el.symm)
    rw [if_neg hne] at hm
    refine seqSet (d := .int (L.length : Int)) (fun Q q => ?_) ?_
    · show Q (.int ((L.map PyData.str).length : Int)) _
      rw [el]
      exact q
    refine ⟨rfl, by show 3 < 11; decide, ?_⟩
    dsimp only
    refine forD_ind (fun i s => ∃ o4 o5 o6 o7 o8, s = { δ := [some (.dict kvs), some (.list (L.map PyData.str)), some (.int (L.length : Int)), some (.list (((L.take i).filter (rt kvs L)).map PyData.str)), o4, o5, o6, o7, o8, none, none], n := 0 }) ⟨o4, o5, o6, o7, o8, rfl⟩ ?_ ?_
    · rintro i d s N hd ⟨o4, o5, o6, o7, o8, rfl⟩ hN
      obtain ⟨x, hxi, rfl⟩ : ∃ x, L[i]? = some x ∧ d = .str x := by
        rw [List.getElem?_map] at hd
        cases e : L[i]? with
        | none => rw [e] at hd; cases hd
        | some x => rw [e] at hd; exact ⟨x, rfl, (Option.some.inj hd).symm⟩
      have htk : L.take (i + 1) = L.take i ++ [x] := by rw [List.take_add_one, hxi]; rfl
      have hft : (L.take (i + 1)).filter (rt kvs L) = (L.take i).filter (rt kvs L) ++ [x].filter (rt kvs L) := by rw [htk]; exact List.filter_append ..
      obtain ⟨g0, ⟨⟨fl, ls, z, m0, e, h0, h9, hls, hll, ⟨hz, hzt⟩, ⟨hm0, hmt⟩, hzo, hmo⟩, _, _⟩⟩ := hg.get (hLin x (List.mem_of_getElem? hxi))
      have g1 := g0
      rw [e] at g1
      have efl : flr (ntv kvs x) = fl := by rw [e]; rfl
      have hzn := nts_nt 10 z hz hzt
      have hmn := nts_nt 10 m0 hm0 hmt
      have hzl := nts_len 10 z hzt
      have hml := nts_len 10 m0 hmt
      have hzs := hz.t
      have hms := hm0.t
      have ert : rt kvs L x = (ntsOf 10 z ++ ntsOf 10 m0).all (gT kvs L x) := by rw [rt_g, e]; rfl
      refine seqSet (d := mkN x fl ls z m0) (fun Q q => ⟨_, g1, q⟩) ?_
      refine seqSet (d := .bool true) (fun Q q => q) ?_
      refine ⟨fun s => ∃ o7 o8, s = { δ := [some (.dict kvs), some (.list (L.map PyData.str)), some (.int (L.length : Int)), some (.list (((L.take i).filter (rt kvs L)).map PyData.str)), some (.str x), some (mkN x fl ls z m0), some (.bool (rt kvs L x)), o7, o8, none, none], n := 0 }, ?_, ?_⟩
      · refine ix_ok 4 rfl rfl ⟨z, rfl, hz.to (by decide) (Nat.le_refl _), .inr (.inl ⟨10, hzt⟩), ix_ok 5 rfl rfl ⟨m0, rfl, hm0.to (by decide) (Nat.le_refl _), .inr (.inl ⟨10, hmt⟩), ?_⟩⟩
        rw [tin_nts 10 z hzt 20 (by decide), tin_nts 10 m0 hmt 20 (by decide)]
        refine ⟨by rw [List.length_map, List.length_map]; exact Nat.le_trans (show _ ≤ 2000000 by omega) (by decide), ?_⟩
        rw [← List.map_append, ert]
        have htn : ∀ t ∈ ntsOf 10 z ++ ntsOf 10 m0, isNT t := fun t h => (List.mem_append.mp h).elim (fun h => (hzn t h).1) fun h => (hmn t h).1
        generalize ntsOf 10 z ++ ntsOf 10 m0 = terms at htn
        refine forD_ind (fun j s => ∃ o7 o8, s = { δ := [some (.dict kvs), some (.list (L.map PyData.str)), some (.int (L.length : Int)), some (.list (((L.take i).filter (rt kvs L)).map PyData.str)), some (.str x), some (mkN x fl ls z m0), some (.bool ((terms.take j).all (gT kvs L x))), o7, o8, none, none], n := 0 }) ⟨o7, o8, rfl⟩ ?_ ?_
        · rintro j d s N2 hd ⟨o7, o8, rfl⟩ hN2
          obtain ⟨t, hti, rfl⟩ : ∃ t, terms[j]? = some t ∧ d = pairTm t := by
            rw [List.getElem?_map] at hd
            cases e : terms[j]? with
            | none => rw [e] at hd; cases hd
            | some x => rw [e] at hd; exact ⟨x, rfl, (Option.some.inj hd).symm⟩
          have htk2 : terms.take (j + 1) = terms.take j ++ [t] := by rw [List.take_add_one, hti]; rfl
          have hall : (terms.take (j + 1)).all (gT kvs L x) = ((terms.take j).all (gT kvs L x) && gT kvs L x t) := by
            rw [htk2, List.all_append, List.all_cons, List.all_nil, Bool.and_true]
          obtain ⟨z', qs, rfl, hz', hql, hqs⟩ := htn t (List.mem_of_getElem? hti)
          have hgt : gT kvs L x (.tuple [.str (Str.ofString "notion"), .str z', .tuple qs]) = (!gOther kvs L x z' && decide (kil (ntv kvs z') = qs.map kdOf)) := gT_split
          have hN3 : ∀ r : Bool, r = ((terms.take j).all (gT kvs L x) && gT kvs L x (.tuple [.str (Str.ofString "notion"), .str z', .tuple qs])) → N2 { δ := [some (.dict kvs), some (.list (L.map PyData.str)), some (.int (L.length : Int)), some (.list (((L.take i).filter (rt kvs L)).map PyData.str)), some (.str x), some (mkN x fl ls z m0), some (.bool r), some (.str z'), some (.list ((qs.map kdOf).map PyData.str)), none, none], n := 0 } := fun r hr => hN2 _ ⟨_, _, by rw [hall, ← hr]⟩
          refine ⟨rfl, ?_⟩
          dsimp only [sCons, sName, sNil, nameOf, kdsOf]
          refine ifS (b := gOther kvs L x z') ?_ (fun hc => ?_) (fun hc => ?_)
          · refine tst_and (x := !decide (z' = x)) (fun Q q => q) (fun h1 => ?_)
            refine tst_or (x := !L.contains z') (fun Q q => .inl ⟨rfl, flat_strs, ?_⟩) (fun h2 => ?_)
            · rw [in_strs, Bool.true_xor]
              exact q
            · rw [Bool.not_eq_false'] at h2
              obtain ⟨g2, ⟨⟨fl', ls', z2, m2, e', _⟩, _, _⟩⟩ := hg.get (hLin z' (List.contains_iff_mem.mp h2))
              have e1 : flr (ntv kvs z') = fl' := by rw [e']; rfl
              rw [e1, efl]
              rw [e'] at g2
              exact fun Q q => ⟨_, g2, ix_ok 2 rfl rfl (ix_ok 2 rfl rfl q)⟩
          · refine hN3 false ?_
            rw [hgt, hc]
            simp
          · have hzin : isIn kvs z' := by
              unfold gOther at hc
              simp only [Bool.and_eq_false_iff, Bool.not_eq_false', decide_eq_true_eq, Bool.or_eq_false_iff] at hc
              rcases hc with rfl | hc
              · exact hLin _ (List.mem_of_getElem? hxi)
              · exact hLin z' (List.contains_iff_mem.mp hc.1)
            obtain ⟨g2, ⟨⟨fl', ls', z2, m2, e', _, _, hls', hll', _⟩, _, _⟩⟩ := hg.get hzin
            have e1 : kil (ntv kvs z') = ls'.map secS := by rw [e']; rfl
            rw [e'] at g2
            rw [hc, e1] at hgt
            refine ⟨_, g2, ix_ok 3 rfl rfl ⟨Nat.le_trans hll' (by decide), ?_⟩⟩
            refine lcD_ind (fun u acc s => acc = (ls'.take u).map (fun l => PyData.str (secS l)) ∧ s = { δ := [some (.dict kvs), some (.list (L.map PyData.str)), some (.int (L.length : Int)), some (.list (((L.take i).filter (rt kvs L)).map PyData.str)), some (.str x), some (mkN x fl ls z m0), some (.bool ((terms.take j).all (gT kvs L x))), some (.str z'), some (.list ((qs.map kdOf).map PyData.str)), none, none], n := 0 }) ⟨rfl, rfl⟩ ?_ ?_
            · rintro u y acc s N4 hi ⟨rfl, rfl⟩ hN4
              obtain ⟨a, k, rfl, _⟩ := hls' y (List.mem_of_getElem? hi)
              refine ⟨rfl, hN4 _ _ ⟨?_, rfl⟩⟩
              rw [map_take hi]
              rfl
            rintro acc s ⟨rfl, rfl⟩
            rw [List.take_length]
            have e2 : ls'.map (fun l => PyData.str (secS l)) = (ls'.map secS).map PyData.str := by rw [List.map_map]; rfl
            rw [e2]
            refine ne_strs (Q := fun y => match y with | PyData.bool k => (if k = true then _ else _) | _ => False) (fun x hx => ?_) (fun x hx => ?_) ?_
            · obtain ⟨l, ml, rfl⟩ := List.mem_map.mp hx
              obtain ⟨a, k, rfl, _, hk⟩ := hls' l ml
              exact hk
            · obtain ⟨l, ml, rfl⟩ := List.mem_map.mp hx
              exact kdOf_ok l
            · refine ite_either (fun h => ?_) (fun h => ?_)
              · refine hN3 false ?_
                rw [Bool.not_eq_true'] at h
                rw [hgt, h]
                simp
              · refine hN3 _ ?_
                rw [Bool.not_eq_false'] at h
                rw [hgt, h]
                simp
        · rintro s ⟨o7, o8, rfl⟩
          rw [List.length_map, List.take_length]
          exact ⟨o7, o8, rfl⟩
      · rintro s ⟨o7, o8, rfl⟩
        refine ifS (b := rt kvs L x) (fun Q q => q) (fun hc => ?_) (fun hc => ?_)
        · refine ⟨⟨_, rfl⟩, ?_, hN _ ⟨some (.str x), some (mkN x fl ls z m0), some (.bool (rt kvs L x)), o7, o8, ?_⟩⟩
          · rw [List.length_map]
            have h1 := List.length_filter_le (rt kvs L) (L.take i)
            have h2 : (L.take i).length ≤ L.length := by rw [List.length_take]; omega
            exact small_line (by omega)
          · rw [hft, List.filter_cons_of_pos hc, List.filter_nil, List.map_append]
            rfl
        · refine hN _ ⟨some (.str x), some (mkN x fl ls z m0), some (.bool (rt kvs L x)), o7, o8, ?_⟩
          rw [hft, List.filter_cons_of_neg (by rw [hc]; exact Bool.false_ne_true), List.filter_nil, List.append_nil]
    · rintro s ⟨o4, o5, o6, o7, o8, rfl⟩
      rw [List.length_map, List.take_length]
      refine ⟨_, ?_, L.filter (rt kvs L), (L.length : Int), _, o4, o5, o6, o7, o8, rfl, (List.filter_sublist).trans hsub, fun X hX n m => List.mem_filter.mpr ⟨htop X hX n m, rt_mono (htop X hX) (hX n m).2⟩, fun he n m => ?_, rfl⟩
      · have := List.length_filter_le (rt kvs L) L
        split <;> omega
      · have e2 : L.filter (rt kvs L) = L := List.filter_eq_self.mpr (List.length_filter_eq_length_iff.mp (by omega))
        rw [e2] at m ⊢
        exact (List.mem_filter.mp (e2 ▸ m)).2
  · rintro s ⟨m, ⟨L, sz, o3, o4, o5, o6, o7, o8, rfl, hsub, htop, hfix, hm⟩, h0⟩
    have e : sz = (L.length : Int) := by
      by_cases h : sz = (L.length : Int)
      · exact h
      · rw [if_neg h] at hm; omega
    exact q L ⟨(sortedS_pw hsort).sublist hsub, hynd.sublist hsub, fun n m => ⟨hy.mp (hsub.subset m), hfix e n m⟩, htop⟩
end

/-! ### drawn notions -/
def isKind (k : Str) : Prop := k = Str.ofString "row" ∨ k = Str.ofString "number"
theorem isKind.ok {k : Str} (h : isKind k) : wOk k = true := by rcases h with rfl | rfl <;> decide +kernel
def KsOk (d : D) : Prop := ∃ ks : List Str, d = .list (ks.map PyData.str) ∧ (∀ k ∈ ks, isKind k) ∧ 1 ≤ ks.length ∧ ks.length ≤ 3
structure KbOk (kb : List (D × D)) (names : List D) : Prop where
  all : ∀ (k d : D), findD kb k = some d → KsOk d
  get : ∀ n : Str, PyData.str n ∈ names → ∃ d, findD kb (.str n) = some d
/-- no notion term within -/
def NL (d : D) : Prop := ∀ k, ntsOf k d = []
theorem parts_of_word {x : Str} {ps : List D} {b : List Nat} (h : x ≠ Str.ofString "notion") (e : tl (kindsOf (.str x)) = b) : partsOf (.tuple (.str x :: ps)) = (((b.zip ps).filter fun p => goes p.1).map Prod.snd) := by
  simp only [partsOf, if_neg h, e]
theorem nts_word {x : Str} {ps : List D} (k : Nat) (h : x ≠ Str.ofString "notion") : ntsOf (k + 1) (.tuple (.str x :: ps)) = (partsOf (.tuple (.str x :: ps))).flatMap (ntsOf k) := by
  have : ¬ isNot (.tuple (.str x :: ps)) = true := by simp [isNot, h]
  rw [ntsOf, if_neg this, List.nil_append]
theorem g114 : goes 114 = true := by decide +kernel
theorem g112 : goes 112 = true := by decide +kernel
theorem g110 : goes 110 = false := by decide +kernel
theorem g120 : goes 120 = false := by decide +kernel
theorem g121 : goes 121 = false := by decide +kernel
theorem nl_num (i : D) : NL (.tuple [.str (Str.ofString "num"), i])
  | 0 => rfl
  | k + 1 => by
    rw [nts_word k (by decide +kernel), parts_of_word (b := [110]) (by decide +kernel) (by decide +kernel)]
    simp [List.filter, g110]
theorem nl_name (i : D) : NL (.tuple [.str (Str.ofString "name"), i])
  | 0 => rfl
  | k + 1 => by
    rw [nts_word k (by decide +kernel), parts_of_word (b := [120]) (by decide +kernel) (by decide +kernel)]
    simp [List.filter, g120]
theorem nl_row (i : D) : NL (.tuple [.str (Str.ofString "row"), i])
  | 0 => rfl
  | k + 1 => by
    rw [nts_word k (by decide +kernel), parts_of_word (b := [121]) (by decide +kernel) (by decide +kernel)]
    simp [List.filter, g121]
theorem nl_room {d : D} (h : NL d) : NL (.tuple [.str (Str.ofString "room"), d])
  | 0 => rfl
  | k + 1 => by
    rw [nts_word k (by decide +kernel), parts_of_word (b := [116]) (by decide +kernel) (by decide +kernel)]
    simp [List.filter, g116, h k]
theorem nts_add (k : Nat) (u p : D) : ntsOf (k + 1) (.tuple [.str (Str.ofString "add"), u, p]) = ntsOf k u ++ ntsOf k p := by
  rw [nts_word k (by decide +kernel), parts_of_word (b := [116, 116]) (by decide +kernel) (by decide +kernel)]
  simp [List.filter, g116]
theorem nl_add {u p : D} (h : NL u) (h' : NL p) : NL (.tuple [.str (Str.ofString "add"), u, p])
  | 0 => rfl
  | k + 1 => by rw [nts_add, h k, h' k]; rfl
theorem nts_use (k : Nat) (z : Str) (qs : List D) (h : ∀ q ∈ qs, NL q) : ntsOf (k + 1) (.tuple [.str (Str.ofString "notion"), .str z, .tuple qs]) = [.tuple [.str (Str.ofString "notion"), .str z, .tuple qs]] := by
  have e1 : partsOf (.tuple [.str (Str.ofString "notion"), .str z, .tuple qs]) = qs := by simp [partsOf]
  have e3 : isNot (PyData.tuple [PyData.str (Str.ofString "notion"), .str z, .tuple qs]) = true := by simp [isNot]
  have e4 : qs.flatMap (ntsOf k) = [] := by
    rw [List.flatMap_eq_nil_iff]
    exact fun q m => h q m k
  rw [ntsOf, if_pos e3, e1, e4, List.append_nil]
/-- a place -/
def PlOk (q : D) : Prop := Bt 2 1000 q ∧ (hf 2 sT q = true ∨ hf 2 sR q = true) ∧ NL q
theorem pl_num {i : Int} (h : i.natAbs < 10 ^ 20) : PlOk (.tuple [.str (Str.ofString "num"), .int i]) :=
  ⟨(bt2 (h := 0) (by decide +kernel) (Bt.int (Nat.lt_of_lt_of_le h (Nat.pow_le_pow_right (by decide) (by decide))))).to (by decide) (by decide), .inl (hf_le (j := 1) (by decide) (hf1 ⟨by decide +kernel, by decide +kernel⟩ pN)), nl_num _⟩
theorem pl_room {i : Int} (h : i.natAbs < 10 ^ 20) : PlOk (.tuple [.str (Str.ofString "room"), .tuple [.str (Str.ofString "num"), .int i]]) :=
  ⟨(bt2 (h := 1) (by decide +kernel) (bt2 (h := 0) (by decide +kernel) (Bt.int (Nat.lt_of_lt_of_le h (Nat.pow_le_pow_right (by decide) (by decide)))))).to (by decide) (by decide), .inr (hf1 (k := 1) ⟨by decide +kernel, by decide +kernel⟩ (pT (hf1 ⟨by decide +kernel, by decide +kernel⟩ pN))), nl_room (nl_num _)⟩
/-- a notion term drawn -/
def UseOk (z : Str) (t : D) : Prop := ∃ qs, t = .tuple [.str (Str.ofString "notion"), .str z, .tuple qs] ∧ qs.length ≤ 5 ∧ ∀ q ∈ qs, PlOk q
theorem UseOk.bt {z : Str} {t : D} (h : UseOk z t) (hz : isName (.str z) = true) : Bt 4 7000 t ∧ hf 3 sT t = true := by
  obtain ⟨qs, rfl, hl, hq⟩ := h
  have hzb : Bt 3 90 (.str z) := (Bt.str (name_w hz).ok (name_w hz).2.1).to (Nat.le_refl _) (by omega)
  have h1 : BtL 2 (qs.length * 1002) qs := BtL.all fun q m => (hq q m).1
  have h2 : Bt 3 5013 (.tuple qs) := (Bt.tup h1).to (Nat.le_refl _) (by omega)
  refine ⟨(bt3 (by decide +kernel) hzb h2).to (by decide) (by decide), ?_⟩
  exact hf2 (k := 2) ⟨by decide +kernel, by decide +kernel⟩ (pA hz) (pB fun q m => (hq q m).2.1)
def useF : DFP := fun ds n Q => ∃ (names : List D) (kb : List (D × D)), ds = [.list names, .dict kb] ∧ names ≠ [] ∧ names.length ≤ 20 ∧ nmL names ∧ (∀ k d : D, findD kb k = some d → KsOk d) ∧ n + 10 ≤ penLim ∧ ∀ (z : Str) (t : D) (n' : Nat), PyData.str z ∈ names → isName (.str z) = true → UseOk z t → n' ≤ n + 10 → Q t n'
section
variable {P : Program} {w : World} {K : PySem.W.Frag} {mg : Str → Option Value} {base : Heap}
theorem ok__law_use (T : Tx w K mg) (O__law_take : Ok P w K mg base 2 "_law_take" ["_law_pen", "_law_many"] (spP K 1 .E takeF)) : Ok P w K mg base 3 "_law_use" ["_law_pen", "_law_names_here", "_law_kinds_by"] (spP K 2 .E useF) := by
  refine Ok.ofP (M := []) T.d__law_use sc__law_use rfl (by decide) (by decide) fun f cdv A outer s H E p c hr => ⟨_, _, (pss_cons (ps_set (i := 3) sc__law_use.nd rfl (Or.inl rfl) (pe_ix (ixG K rfl (u65 hr.toRoom)) (pv 1) (pe_fn O__law_take (hr.mono (by omega)) (by rfl) (pa_cons (pv 0) (pa_cons (pe_callB (lenG K rfl) (by rfl) T.z_len boot_len (pa_cons (pv 1) (pa_nil))) (pa_nil)))) (fun _ _ => rfl)))
 (pss_cons (ps_set (i := 4) sc__law_use.nd rfl (Or.inl rfl) (pe_callTy (listQ K rfl) (by rfl) T.z_list boot_list (pa_cons (pe_dget2 (lt_u1 (u65 hr.toRoom)) (pv 2) (pv 3) (pe_lst (pa_cons (pe_str) (pa_nil))) ⟨by rfl, by rfl, by rfl, by rfl⟩) (pa_nil))))
 (pss_cons (ps_set (i := 5) sc__law_use.nd rfl (Or.inl rfl) (pe_fn O__law_take (hr.mono (by omega)) (by rfl) (pa_cons (pv 0) (pa_cons (pe_int) (pa_nil)))))
 (pss_cons (ps_if (pt_cmpR (eqG K rfl hr.units) (pv 5) (pe_int) (nomark _))
 (pss_one (ps_set (i := 4) sc__law_use.nd rfl (Or.inl rfl) (pe_op (addG K rfl) (pv 4) (pe_lst (pa_cons (pe_str) (pa_nil))))))
 (pss_nil))
 (pss_cons (ps_if (pt_cmpR (eqG K rfl hr.units) (pv 5) (pe_int) (nomark _))
 (pss_one (ps_set (i := 4) sc__law_use.nd rfl (Or.inl rfl) (pe_slice (slG K rfl) (pv 4) (po_some (pe_int)) po_none)))
 (pss_nil))
 (pss_cons (ps_if (pt_cmpR (eqG K rfl hr.units) (pv 5) (pe_int) (nomark _))
 (pss_one (ps_set (i := 4) sc__law_use.nd rfl (Or.inl rfl) (pe_op mulG (pe_lst (pa_cons (pe_str) (pa_nil))) (pe_callB (lenG K rfl) (by rfl) T.z_len boot_len (pa_cons (pv 4) (pa_nil))))))
 (pss_nil))
 (pss_cons (ps_setLc (i := 6) (own := [("_law_kind", 7)]) rfl sc__law_use.nd rfl rfl (sw_true rfl rfl rfl (by decide +kernel)) (piL K rfl (pv 4)) (blkOk_by (own := [("_law_kind", 7)]) (N := ["_law_pen", "_law_names_here", "_law_kinds_by", "_law_name", "_law_kinds", "_law_way", "_law_places", "_law_kind"]) (sc := defScope s__law_use) (by decide +kernel)) (fun _ _ _ _ _ => pg_nameL (i := 7) sc__law_use.nd rfl rfl) (fun _ _ _ _ _ => pts_nil) (fun _ _ _ _ _ => pe_ifExp (pt_cmpR (eqG K rfl hr.units) (pv 7) (pe_str) (nomark _)) (pe_tup (pa_cons (pe_str) (pa_cons (pe_tup (pa_cons (pe_str) (pa_cons (pe_int) (pa_nil)))) (pa_nil)))) (pe_tup (pa_cons (pe_str) (pa_cons (pe_fn O__law_take (hr.mono (by omega)) (by rfl) (pa_cons (pv 0) (pa_cons (pe_int) (pa_nil)))) (pa_nil))))))
 (pss_one (ps_ret (pe_tup (pa_cons (pe_str) (pa_cons (pv 3) (pa_cons (pe_callTy (tupQ K rfl) (by rfl) T.z_tuple boot_tuple (pa_cons (pv 6) (pa_nil))) (pa_nil)))))))))))))),
 (simS_seq (simS_set 3 (nm rfl) (np rfl) (opA_ix (sim_var 1 (nm rfl)) (sim_callP (by simp) rfl (simA_cons (sim_cb caA_len (simA_cons (sim_var 1 (nm rfl)) (simA_nil))) (simA_nil)))))
 (simS_seq (simS_set 4 (nm rfl) (np rfl) (sim_cb caA_list (simA_cons (sim_dget2 (sim_var 2 (nm rfl)) (sim_var 3 (nm rfl)) (sim_lst (by decide) (simA_cons (sim_str _) (simA_nil)))) (simA_nil))))
 (simS_seq (simS_set 5 (nm rfl) (np rfl) (sim_callP (by simp) rfl (simA_cons (sim_int _) (simA_nil))))
 (simS_cut (simS_if (simT_test (sim_op opA_eq (sim_var 5 (nm rfl)) (sim_int _)))
 (simS_set 4 (nm rfl) (np rfl) (sim_op opA_add (sim_var 4 (nm rfl)) (sim_lst (by decide) (simA_cons (sim_str _) (simA_nil)))))
 (simS_next))
 (simS_cut (simS_if (simT_test (sim_op opA_eq (sim_var 5 (nm rfl)) (sim_int _)))
 (simS_set 4 (nm rfl) (np rfl) (sim_sl (sim_var 4 (nm rfl)) (simO_some (sim_int _)) simO_none))
 (simS_next))
 (simS_cut (simS_if (simT_test (sim_op opA_eq (sim_var 5 (nm rfl)) (sim_int _)))
 (simS_set 4 (nm rfl) (np rfl) (sim_op opA_mul (sim_lst (by decide) (simA_cons (sim_str _) (simA_nil))) (sim_cb caA_len (simA_cons (sim_var 4 (nm rfl)) (simA_nil)))))
 (simS_next))
 (simS_cut (simS_set 6 (nm rfl) (np rfl) (sim_lc (simI_list (sim_var 4 (nm rfl))) (simG_name 7 (nm rfl) (np rfl)) (simT_yes) (sim_if (simT_test (sim_op opA_eq (sim_var 7 (nm rfl)) (sim_str _))) (sim_tup (by decide) (simA_cons (sim_str _) (simA_cons (sim_tup (by decide) (simA_cons (sim_str _) (simA_cons (sim_int _) (simA_nil)))) (simA_nil)))) (sim_tup (by decide) (simA_cons (sim_str _) (simA_cons (sim_callP (by simp) rfl (simA_cons (sim_int _) (simA_nil))) (simA_nil))))) (inv' rfl) (nmv rfl) (npv rfl)))
 (simS_ret (Sim.toE (sim_tup (by decide) (simA_cons (sim_str _) (simA_cons (sim_var 3 (nm rfl)) (simA_cons (sim_cb caA_tup (simA_cons (sim_var 6 (nm rfl)) (simA_nil))) (simA_nil)))))))))))))), ?_⟩
  rintro ds m Q hl ⟨names, kb, rfl, hne, hnl, hnm, hkb, hm, k⟩
  have hp : 0 < names.length := List.length_pos_iff.mpr hne
  refine tk_ok (by (first | omega | (dsimp only; omega) | (dsimp only at *; omega))) (by (first | omega | (dsimp only; omega) | (dsimp only at *; omega))) (by (first | omega | (dsimp only; omega) | (dsimp only at *; omega))) fun r r0 r1 => ix_any r0 r1 fun x hx => ?_
  obtain ⟨z, rfl, hz⟩ := hnm x hx
  -- the kinds
  have kinds : ∃ ks : List Str, (findD kb (.str z)).getD (.list [.str (Str.ofString "number")]) = .list (ks.map PyData.str) ∧ (∀ k ∈ ks, isKind k) ∧ 1 ≤ ks.length ∧ ks.length ≤ 3 := by
    cases e : findD kb (.str z) with
    | none => exact ⟨[Str.ofString "number"], rfl, fun k m => .inr (List.mem_singleton.mp m), by decide, by decide⟩
    | some d =>
      obtain ⟨ks, rfl, h⟩ := hkb _ _ e
      exact ⟨ks, rfl, h⟩
  obtain ⟨ks, hks, hkk, hk1, hk3⟩ := kinds
  dsimp only
  refine seqSet (d := .list (ks.map PyData.str)) (fun Q q => ⟨rfl, ?_⟩) ?_
  · rw [hks]
    exact q
  refine tk_ok (by (first | omega | (dsimp only; omega) | (dsimp only at *; omega))) (by decide) (by decide) fun way w0 w1 => ?_
  dsimp only
  refine ⟨fun s => ∃ ks : List Str, s = { δ := [none, some (.list names), some (.dict kb), some (.str z), some (.list (ks.map PyData.str)), some (.int way), none, none], n := m + 1 + 1 } ∧ (∀ k ∈ ks, isKind k) ∧ 1 ≤ ks.length ∧ ks.length ≤ 4, ?_, ?_⟩
  · refine ifS (b := decide (way = 0)) (fun Q q => q) (fun h => ?_) (fun h => ?_)
    · refine ⟨by show _ + 1 ≤ sizeLine; rw [List.length_map]; exact small_line (by omega), ks ++ [Str.ofString "number"], by rw [List.map_append]; rfl, fun k m => ?_, by rw [List.length_append]; omega, by rw [List.length_append]; show _ + 1 ≤ 4; omega⟩
      rcases List.mem_append.mp m with m | m
      · exact hkk k m
      · exact .inr (List.mem_singleton.mp m)
    · exact ⟨ks, rfl, hkk, hk1, by omega⟩
  clear hks hkk hk1 hk3
  rintro s ⟨ks, rfl, hkk, hk1, hk4⟩
  refine ⟨fun s => ∃ ks : List Str, s = { δ := [none, some (.list names), some (.dict kb), some (.str z), some (.list (ks.map PyData.str)), some (.int way), none, none], n := m + 1 + 1 } ∧ (∀ k ∈ ks, isKind k) ∧ ks.length ≤ 4, ?_, ?_⟩
  · refine ifS (b := decide (way = 1)) (fun Q q => q) (fun h => ?_) (fun h => ?_)
    · match ks, hk1 with
      | k0 :: kr, _ =>
        refine ⟨kr, ?_, fun k m => hkk k (List.mem_cons_of_mem _ m), by rw [List.length_cons] at hk4; omega⟩
        rw [List.map_cons, cut1]
        rfl
    · exact ⟨ks, rfl, hkk, hk4⟩
  clear hkk hk1 hk4
  rintro s ⟨ks, rfl, hkk, hk4⟩
  refine ⟨fun s => ∃ ks : List Str, s = { δ := [none, some (.list names), some (.dict kb), some (.str z), some (.list (ks.map PyData.str)), some (.int way), none, none], n := m + 1 + 1 } ∧ (∀ k ∈ ks, isKind k) ∧ ks.length ≤ 4, ?_, ?_⟩
  · refine ifS (b := decide (way = 2)) (fun Q q => q) (fun h => ?_) (fun h => ?_)
    · have hl' : (ks.map PyData.str).length = ks.length := List.length_map _
      refine ⟨by rw [hl']; omega, by rw [hl']; omega, by rw [hl']; show 1 * _ ≤ sizeLine; exact small_line (by omega), List.replicate ks.length (Str.ofString "row"), ?_, fun k m => .inl (List.eq_of_mem_replicate m), by rw [List.length_replicate]; exact hk4⟩
      rw [hl']
      simp
    · exact ⟨ks, rfl, hkk, hk4⟩
  clear hkk hk4
  rintro s ⟨ks, rfl, hkk, hk4⟩
  refine ⟨fun s => ∃ (qs : List D) (n1 : Nat), s = { δ := [none, some (.list names), some (.dict kb), some (.str z), some (.list (ks.map PyData.str)), some (.int way), some (.list qs), none], n := n1 } ∧ (∀ q ∈ qs, PlOk q) ∧ qs.length ≤ 4 ∧ n1 ≤ m + 6, ?_, ?_⟩
  · refine ⟨by rw [List.length_map]; exact small_line (by omega), lc1 (fun i acc s => ∃ n1, s = { δ := [none, some (.list names), some (.dict kb), some (.str z), some (.list (ks.map PyData.str)), some (.int way), none, none], n := n1 } ∧ (∀ q ∈ acc, PlOk q) ∧ acc.length = i ∧ n1 ≤ m + 2 + i ∧ i ≤ 4) ⟨m + 1 + 1, rfl, (fun q m => nomatch m), rfl, by omega, by omega⟩ ?_ ?_⟩
    · rintro i d acc s N hi ⟨n1, rfl, ha, hal, hn1, hi4⟩ hN
      have hil : i < ks.length := by have := (List.getElem?_eq_some_iff.mp hi).1; rwa [List.length_map] at this
      obtain ⟨k0, hk0, rfl⟩ : ∃ x, ks[i]? = some x ∧ d = .str x := by
        rw [List.getElem?_map] at hi
        cases e : ks[i]? with
        | none => rw [e] at hi; cases hi
        | some x => rw [e] at hi; exact ⟨x, rfl, (Option.some.inj hi).symm⟩
      have app : ∀ q, PlOk q → (∀ x ∈ acc ++ [q], PlOk x) ∧ (acc ++ [q]).length = i + 1 := fun q hq => ⟨fun x m => (List.mem_append.mp m).elim (ha x) fun m => by rw [List.mem_singleton.mp m]; exact hq, by rw [List.length_append, hal]; rfl⟩
      refine ite_either (fun h => ?_) (fun h => ?_)
      · obtain ⟨a1, a2⟩ := app _ (pl_room (i := 2) (by decide))
        exact hN _ _ ⟨n1, rfl, a1, a2, by omega, by omega⟩
      · refine tk_ok (by (first | omega | (dsimp only; omega) | (dsimp only at *; omega))) (by decide) (by decide) fun r r0 r1 => ?_
        obtain ⟨a1, a2⟩ := app _ (pl_num (i := r) (by omega))
        exact hN _ _ ⟨n1 + 1, rfl, a1, a2, by omega, by omega⟩
    · rintro acc s ⟨n1, rfl, ha, hal, hn1, hi4⟩
      rw [List.length_map] at hal hn1
      exact ⟨acc, n1, rfl, ha, by omega, by omega⟩
  rintro s ⟨qs, n1, rfl, hqs, hql, hn1⟩
  exact k z _ _ hx hz ⟨qs, rfl, by omega, hqs⟩ (by show n1 ≤ _; omega)
end

/-! ### a drawn notion -/
def isLab (a : Str) : Prop := a = Str.ofString "la" ∨ a = Str.ofString "lb" ∨ a = Str.ofString "lc"
theorem isLab.ok {a : Str} (h : isLab a) : wOk a = true := by rcases h with rfl | rfl | rfl <;> decide +kernel
theorem isLab.let {a : Str} {r : Bool} (h : isLab a) : isLetter r (.str a) = true := by rcases h with rfl | rfl | rfl <;> cases r <;> decide +kernel
def LtOk (l : D) : Prop := ∃ a k : Str, l = .tuple [.str a, .str k] ∧ isLab a ∧ isKind k
theorem LtOk.lk {l : D} (h : LtOk l) : isLK l := by
  obtain ⟨a, k, rfl, ha, hk⟩ := h
  exact ⟨a, k, rfl, ha.ok, hk.ok⟩
def PartOk (name : Str) (j : Nat) (d : D) : Prop := Bt (5 + j) (400 + 8000 * j) d ∧ hf (4 + j) sT d = true ∧ ∀ k, ∀ t ∈ ntsOf k d, nameS t ≠ name
theorem PartOk.up {name : Str} {i j : Nat} {d : D} (h : PartOk name i d) (l : i ≤ j) : PartOk name j d := ⟨h.1.to (by omega) (by omega), hf_le (by omega) h.2.1, h.2.2⟩
theorem part_num {name : Str} {i : Int} (h : i.natAbs < 10 ^ 20) : PartOk name 0 (.tuple [.str (Str.ofString "num"), .int i]) := by
  obtain ⟨h1, h2, h3⟩ := pl_num h
  refine ⟨(bt2 (h := 0) (by decide +kernel) (Bt.int (Nat.lt_of_lt_of_le h (Nat.pow_le_pow_right (by decide) (by decide))))).to (by decide) (by decide), hf_le (j := 1) (by decide) (hf1 ⟨by decide +kernel, by decide +kernel⟩ pN), fun k t m => ?_⟩
  rw [h3 k] at m
  exact nomatch m
theorem nts_useT {z : Str} {t : D} (h : UseOk z t) : ∀ k, ∀ u ∈ ntsOf k t, u = t
  | 0, u, m => by simp [ntsOf] at m
  | k + 1, u, m => by
    obtain ⟨qs, rfl, hl, hq⟩ := h
    rw [nts_use k z qs fun q m => (hq q m).2.2] at m
    exact List.mem_singleton.mp m
theorem UseOk.name {z : Str} {t : D} (h : UseOk z t) : nameS t = z := by
  obtain ⟨qs, rfl, _⟩ := h
  rfl
theorem part_add {name z : Str} {j : Nat} {t d : D} (hz : isName (.str z) = true) (hne : z ≠ name) (ht : UseOk z t) (hd : PartOk name j d) : PartOk name (j + 1) (.tuple [.str (Str.ofString "add"), t, d]) := by
  obtain ⟨h1, h2⟩ := ht.bt hz
  refine ⟨(bt3 (h := 5 + j) (by decide +kernel) (h1.to (by omega) (Nat.le_refl _)) hd.1).to (by omega) (by omega), ?_, fun k u m => ?_⟩
  · rw [show 4 + (j + 1) = (4 + j) + 1 by omega]
    exact hf2 ⟨by decide +kernel, by decide +kernel⟩ (pT (hf_le (by omega) h2)) (pT hd.2.1)
  · cases k with
    | zero => simp [ntsOf] at m
    | succ k =>
      rw [nts_add] at m
      rcases List.mem_append.mp m with m | m
      · rw [nts_useT ht k u m, ht.name]
        exact hne
      · exact hd.2.2 k u m
theorem nt_made {name : Str} {fl : Int} {ls : List D} {p0 p1 : D} (hnm : isName (.str name) = true) (h0 : 0 ≤ fl) (h9 : fl ≤ 9) (hls : ∀ l ∈ ls, LtOk l) (hll : ls.length ≤ 3) (hp0 : PartOk name 2 p0) (hp1 : (PartOk name 2 p1) ∨ ∃ t q, p1 = .tuple [.str (Str.ofString "add"), t, q] ∧ UseOk name t ∧ PartOk name 2 q) : NtOk name (mkN name fl ls p0 p1) := by
  have hb1 : Bt 8 25000 p1 ∧ hf 7 sT p1 = true ∧ OwnOne name (ntsOf 10 p1) := by
    rcases hp1 with h | ⟨t, q, rfl, ht, hq⟩
    · exact ⟨h.1.to (by decide) (by decide), hf_le (by decide) h.2.1, .inl (h.2.2 10)⟩
    · obtain ⟨h1, h2⟩ := ht.bt hnm
      refine ⟨(bt3 (h := 7) (by decide +kernel) (h1.to (by decide) (Nat.le_refl _)) hq.1).to (by decide) (by decide), hf2 (k := 6) ⟨by decide +kernel, by decide +kernel⟩ (pT (hf_le (by decide) h2)) (pT hq.2.1), .inr ⟨[], t, ntsOf 9 q, ?_, ht.name, (fun u m => nomatch m), hq.2.2 9⟩⟩
      rw [nts_add]
      obtain ⟨qs, rfl, hl, hpl⟩ := ht
      rw [nts_use 8 name qs fun q m => (hpl q m).2.2]
      rfl
  refine ⟨⟨fl, ls, p0, p1, rfl, h0, h9, fun l m => (hls l m).lk, by omega, ⟨hp0.1.to (by decide) (by decide), isThing.t (hf_le (by decide) hp0.2.1)⟩, ⟨hb1.1.to (by decide) (by decide), isThing.t (hf_le (by decide) hb1.2.1)⟩, hp0.2.2 10, hb1.2.2⟩, hnm, ?_⟩
  have hl1 : Bt 10 1000 (.tuple ls) := by
    have : BtL 1 (ls.length * 202) ls := BtL.all fun l m => by
      obtain ⟨a, k, rfl, ha, hk⟩ := hls l m
      exact (Bt.tup (BtL.cons (bt_w ha.ok) (BtL.cons (bt_w hk.ok) (BtL.nil (t := 0))))).to (h := 1) (Nat.le_refl _) (by decide)
    exact (Bt.tup this).to (by decide) (by omega)
  have hn1 : Bt 10 90 (.str name) := (Bt.str (name_w hnm).ok (name_w hnm).2.1).to (Nat.le_refl _) (by omega)
  have hf1 : Bt 10 300 (.int fl) := (Bt.int (Nat.lt_of_lt_of_le (show fl.natAbs < 10 ^ 2 by omega) (Nat.pow_le_pow_right (by decide) (by decide)))).to (h := 10) (Nat.le_refl _) (by decide)
  exact (Bt.tup (BtL.cons (bt_w (by decide +kernel)) (BtL.cons hn1 (BtL.cons hf1 (BtL.cons hl1 (BtL.cons (hp0.1.to (h' := 10) (by decide) (Nat.le_refl _)) (BtL.cons (hb1.1.to (h' := 10) (by decide) (Nat.le_refl _)) (BtL.nil (t := 0))))))))).to (by decide) (by decide)
def madeF : DFP := fun ds n Q => ∃ (name : Str) (fl : Int) (names : List D) (kb : List (D × D)), ds = [.str name, .int fl, .list names, .dict kb] ∧ (0 ≤ fl ∧ fl ≤ 9) ∧ isName (.str name) = true ∧ names ≠ [] ∧ names.length ≤ 20 ∧ nmL names ∧ (∀ k d : D, findD kb k = some d → KsOk d) ∧ (∃ d, findD kb (.str name) = some d) ∧ n + 100 ≤ penLim ∧ ∀ (d : D) (n' : Nat), NtOk name d → n' ≤ n + 100 → Q d n'
section
variable {P : Program} {w : World} {K : PySem.W.Frag} {mg : Str → Option Value} {base : Heap}
theorem ok__law_made (T : Tx w K mg) (O__law_take : Ok P w K mg base 2 "_law_take" ["_law_pen", "_law_many"] (spP K 1 .E takeF)) (O__law_use : Ok P w K mg base 3 "_law_use" ["_law_pen", "_law_names_here", "_law_kinds_by"] (spP K 2 .E useF)) : Ok P w K mg base 4 "_law_made" ["_law_pen", "_law_name", "_law_floor_here", "_law_names_here", "_law_kinds_by"] (spP K 4 .E madeF) := by
  refine Ok.ofP (M := [8]) T.d__law_made sc__law_made rfl (by decide) (by decide) fun f cdv A outer s H E p c hr => ⟨_, _, (pss_cons (ps_set (i := 5) sc__law_made.nd rfl (Or.inl rfl) (pe_callTy (tupQ K rfl) (by rfl) T.z_tuple boot_tuple (pa_cons (pe_lc (own := [("_law_k", 6), ("_law_kind", 7)]) rfl sc__law_made.nd (piE K rfl (by rfl) T.z_enumerate (pa_cons (pe_ix (ixG K rfl (u65 hr.toRoom)) (pv 4) (pv 1) (fun _ _ => rfl)) pa_nil)) (blkOk_by (own := [("_law_k", 6), ("_law_kind", 7)]) (N := ["_law_pen", "_law_name", "_law_floor_here", "_law_names_here", "_law_kinds_by", "_law_letters", "_law_k", "_law_kind", "_law_parts", "_law_part", "_law_turn", "_law_other", "_law_last", "_law_own", "_law_letter"]) (sc := defScope s__law_made) (by decide +kernel)) (fun _ _ _ _ _ => pgT K rfl 2 rfl (pgs_cons (pg_nameL (i := 6) sc__law_made.nd rfl rfl) (pgs_cons (pg_nameL (i := 7) sc__law_made.nd rfl rfl) (pgs_nil)))) (fun _ _ _ _ _ => pts_nil) (fun _ _ _ _ _ => pe_tup (pa_cons (pe_op (addG K rfl) (pe_str) (pe_ix (ixG K rfl (u65 hr.toRoom)) (pe_str) (pv 6) (fun _ _ => rfl))) (pa_cons (pv 7) (pa_nil))))) (pa_nil))))
 (pss_cons (ps_set (i := 8) sc__law_made.nd rfl (Or.inl rfl) (pe_lst (pa_nil)))
 (pss_cons (ps_for PassesOwn.never rfl (pi_range1 (by rfl) T.z_range (pa_cons (pe_int) (pa_nil))) (pg_nameL (i := 6) sc__law_made.nd rfl rfl)
 (pss_cons (ps_set (i := 9) sc__law_made.nd rfl (Or.inl rfl) (pe_tup (pa_cons (pe_str) (pa_cons (pe_fn O__law_take (hr.mono (by omega)) (by rfl) (pa_cons (pv 0) (pa_cons (pe_int) (pa_nil)))) (pa_nil)))))
 (pss_cons (ps_for PassesOwn.never rfl (pi_range1 (by rfl) T.z_range (pa_cons (pe_ix (ixG K rfl (u65 hr.toRoom)) (pe_lst (pa_cons (pe_int) (pa_cons (pe_int) (pa_cons (pe_int) (pa_cons (pe_int) (pa_nil)))))) (pe_fn O__law_take (hr.mono (by omega)) (by rfl) (pa_cons (pv 0) (pa_cons (pe_int) (pa_nil)))) (fun _ _ => rfl)) (pa_nil))) (pg_nameL (i := 10) sc__law_made.nd rfl rfl)
 (pss_cons (ps_set (i := 11) sc__law_made.nd rfl (Or.inl rfl) (pe_ix (ixG K rfl (u65 hr.toRoom)) (pv 3) (pe_fn O__law_take (hr.mono (by omega)) (by rfl) (pa_cons (pv 0) (pa_cons (pe_callB (lenG K rfl) (by rfl) T.z_len boot_len (pa_cons (pv 3) (pa_nil))) (pa_nil)))) (fun _ _ => rfl)))
 (pss_one (ps_if (pt_cmpR (neG K rfl hr.units) (pv 11) (pv 1) (nomark _))
 (pss_one (ps_set (i := 9) sc__law_made.nd rfl (Or.inl rfl) (pe_tup (pa_cons (pe_str) (pa_cons (pe_fn O__law_use (hr.mono (by omega)) (by rfl) (pa_cons (pv 0) (pa_cons (pe_lst (pa_cons (pv 11) (pa_nil))) (pa_cons (pv 4) (pa_nil))))) (pa_cons (pv 9) (pa_nil)))))))
 (pss_nil)))))
 (pss_one (ps_expr (appK K rfl (pv 8) (pv 9)))))))
 (pss_cons (ps_if (pt_cmpR (eqG K rfl hr.units) (pe_fn O__law_take (hr.mono (by omega)) (by rfl) (pa_cons (pv 0) (pa_cons (pe_int) (pa_nil)))) (pe_int) (nomark _))
 (pss_cons (ps_set (i := 12) sc__law_made.nd rfl (Or.inl rfl) (pe_tup (pa_cons (pe_str) (pa_cons (pe_tup (pa_cons (pe_str) (pa_cons (pe_ix (ixG K rfl (u65 hr.toRoom)) (pe_ix (ixG K rfl (u65 hr.toRoom)) (pv 5) (pe_un un_neg (pe_int)) (fun _ _ => rfl)) (pe_int) (fun _ _ => rfl)) (pa_nil)))) (pa_cons (pe_tup (pa_cons (pe_str) (pa_cons (pe_un un_neg (pe_int)) (pa_nil)))) (pa_nil))))))
 (pss_cons (ps_set (i := 13) sc__law_made.nd rfl (Or.inl rfl) (pe_callTy (tupQ K rfl) (by rfl) T.z_tuple boot_tuple (pa_cons (pe_lc (own := [("_law_letter", 14), ("_law_kind", 7)]) rfl sc__law_made.nd (piT K rfl (pe_slice (slG K rfl) (pv 5) po_none (po_some (pe_un un_neg (pe_int))))) (blkOk_by (own := [("_law_letter", 14), ("_law_kind", 7)]) (N := ["_law_pen", "_law_name", "_law_floor_here", "_law_names_here", "_law_kinds_by", "_law_letters", "_law_k", "_law_kind", "_law_parts", "_law_part", "_law_turn", "_law_other", "_law_last", "_law_own", "_law_letter"]) (sc := defScope s__law_made) (by decide +kernel)) (fun _ _ _ _ _ => pgT K rfl 2 rfl (pgs_cons (pg_nameL (i := 14) sc__law_made.nd rfl rfl) (pgs_cons (pg_nameL (i := 7) sc__law_made.nd rfl rfl) (pgs_nil)))) (fun _ _ _ _ _ => pts_nil) (fun _ _ _ _ _ => pe_ifExp (pt_cmpR (eqG K rfl hr.units) (pv 7) (pe_str) (nomark _)) (pe_tup (pa_cons (pe_str) (pa_cons (pv 14) (pa_nil)))) (pe_tup (pa_cons (pe_str) (pa_cons (pv 14) (pa_nil)))))) (pa_nil))))
 (pss_cons (ps_if (pt_cmpR (eqG K rfl hr.units) (pe_fn O__law_take (hr.mono (by omega)) (by rfl) (pa_cons (pv 0) (pa_cons (pe_int) (pa_nil)))) (pe_int) (nomark _))
 (pss_one (ps_set (i := 13) sc__law_made.nd rfl (Or.inl rfl) (pe_ix (ixG K rfl (u65 hr.toRoom)) (pe_lst (pa_cons (pe_slice (slG K rfl) (pv 13) (po_some (pe_int)) po_none) (pa_cons (pe_op (addG K rfl) (pv 13) (pe_tup (pa_cons (pe_tup (pa_cons (pe_str) (pa_cons (pe_int) (pa_nil)))) (pa_nil)))) (pa_cons (pe_op (repTG K rfl) (pe_tup (pa_cons (pe_tup (pa_cons (pe_str) (pa_cons (pe_tup (pa_cons (pe_str) (pa_cons (pe_int) (pa_nil)))) (pa_nil)))) (pa_nil))) (pe_callB (lenG K rfl) (by rfl) T.z_len boot_len (pa_cons (pv 13) (pa_nil)))) (pa_nil))))) (pe_fn O__law_take (hr.mono (by omega)) (by rfl) (pa_cons (pv 0) (pa_cons (pe_int) (pa_nil)))) (fun _ _ => rfl))))
 (pss_nil))
 (pss_one (ps_asg (pe_tup (pa_cons (pe_str) (pa_cons (pe_tup (pa_cons (pe_str) (pa_cons (pv 1) (pa_cons (pe_op (addG K rfl) (pv 13) (pe_tup (pa_cons (pv 12) (pa_nil)))) (pa_nil))))) (pa_cons (pe_ix (ixG K rfl (u65 hr.toRoom)) (pv 8) (pe_int) (fun _ _ => rfl)) (pa_nil))))) (pg_sub (pv 8) (pe_int) set_list))))))
 (pss_nil))
 (pss_one (ps_ret (pe_tup (pa_cons (pe_str) (pa_cons (pv 1) (pa_cons (pv 2) (pa_cons (pv 5) (pa_cons (pe_ix (ixG K rfl (u65 hr.toRoom)) (pv 8) (pe_int) (fun _ _ => rfl)) (pa_cons (pe_ix (ixG K rfl (u65 hr.toRoom)) (pv 8) (pe_int) (fun _ _ => rfl)) (pa_nil)))))))))))))),
 (simS_seq (simS_set 5 (nm rfl) (np rfl) (sim_cb caA_tup (simA_cons (sim_lc (simI_enum (opA_ix (sim_var 4 (nm rfl)) (sim_var 1 (nm rfl)))) (simG_tup (simGs_cons (simG_name 6 (nm rfl) (np rfl)) (simGs_cons (simG_name 7 (nm rfl) (np rfl)) (simGs_nil)))) (simT_yes) (sim_tup (by decide) (simA_cons (sim_op opA_add (sim_str _) (opA_ix (sim_str _) (sim_var 6 (nm rfl)))) (simA_cons (sim_var 7 (nm rfl)) (simA_nil)))) (inv' rfl) (nmv rfl) (npv rfl)) (simA_nil))))
 (simS_seq (simS_setM 8 (ym rfl) (nb rfl) (sim_lst (by decide) (simA_nil)))
 (simS_cut (simS_for (simI_range1 (sim_int _)) (simG_name 6 (nm rfl) (np rfl))
 (simS_seq (simS_set 9 (nm rfl) (np rfl) (sim_tup (by decide) (simA_cons (sim_str _) (simA_cons (sim_callP (by simp) rfl (simA_cons (sim_int _) (simA_nil))) (simA_nil)))))
 (simS_cut (simS_for (simI_range1 (opA_ix (sim_lst (by decide) (simA_cons (sim_int _) (simA_cons (sim_int _) (simA_cons (sim_int _) (simA_cons (sim_int _) (simA_nil)))))) (sim_callP (by simp) rfl (simA_cons (sim_int _) (simA_nil))))) (simG_name 10 (nm rfl) (np rfl))
 (simS_seq (simS_set 11 (nm rfl) (np rfl) (opA_ix (sim_var 3 (nm rfl)) (sim_callP (by simp) rfl (simA_cons (sim_cb caA_len (simA_cons (sim_var 3 (nm rfl)) (simA_nil))) (simA_nil)))))
 (simS_if (simT_test (sim_op opA_ne (sim_var 11 (nm rfl)) (sim_var 1 (nm rfl))))
 (simS_set 9 (nm rfl) (np rfl) (sim_tup (by decide) (simA_cons (sim_str _) (simA_cons (sim_callP (by simp) rfl (simA_cons (sim_lst (by decide) (simA_cons (sim_var 11 (nm rfl)) (simA_nil))) (simA_cons (sim_var 4 (nm rfl)) (simA_nil)))) (simA_cons (sim_var 9 (nm rfl)) (simA_nil))))))
 (simS_next))))
 (simS_drop (sim_mt 8 (ym rfl) mtA_app (simA_cons (sim_var 9 (nm rfl)) simA_nil))))))
 (simS_cut (simS_if (simT_test (sim_op opA_eq (sim_callP (by simp) rfl (simA_cons (sim_int _) (simA_nil))) (sim_int _)))
 (simS_seq (simS_set 12 (nm rfl) (np rfl) (sim_tup (by decide) (simA_cons (sim_str _) (simA_cons (sim_tup (by decide) (simA_cons (sim_str _) (simA_cons (opA_ix (opA_ix (sim_var 5 (nm rfl)) (sim_neg (sim_int _))) (sim_int _)) (simA_nil)))) (simA_cons (sim_tup (by decide) (simA_cons (sim_str _) (simA_cons (sim_neg (sim_int _)) (simA_nil)))) (simA_nil))))))
 (simS_cut (simS_set 13 (nm rfl) (np rfl) (sim_cb caA_tup (simA_cons (sim_lc (simI_tup (sim_sl (sim_var 5 (nm rfl)) simO_none (simO_some (sim_neg (sim_int _))))) (simG_tup (simGs_cons (simG_name 14 (nm rfl) (np rfl)) (simGs_cons (simG_name 7 (nm rfl) (np rfl)) (simGs_nil)))) (simT_yes) (sim_if (simT_test (sim_op opA_eq (sim_var 7 (nm rfl)) (sim_str _))) (sim_tup (by decide) (simA_cons (sim_str _) (simA_cons (sim_var 14 (nm rfl)) (simA_nil)))) (sim_tup (by decide) (simA_cons (sim_str _) (simA_cons (sim_var 14 (nm rfl)) (simA_nil))))) (inv' rfl) (nmv rfl) (npv rfl)) (simA_nil))))
 (simS_cut (simS_if (simT_test (sim_op opA_eq (sim_callP (by simp) rfl (simA_cons (sim_int _) (simA_nil))) (sim_int _)))
 (simS_set 13 (nm rfl) (np rfl) (opA_ix (sim_lst (by decide) (simA_cons (sim_sl (sim_var 13 (nm rfl)) (simO_some (sim_int _)) simO_none) (simA_cons (sim_op opA_add (sim_var 13 (nm rfl)) (sim_tup (by decide) (simA_cons (sim_tup (by decide) (simA_cons (sim_str _) (simA_cons (sim_int _) (simA_nil)))) (simA_nil)))) (simA_cons (sim_op opA_repTG (sim_tup (by decide) (simA_cons (sim_tup (by decide) (simA_cons (sim_str _) (simA_cons (sim_tup (by decide) (simA_cons (sim_str _) (simA_cons (sim_int _) (simA_nil)))) (simA_nil)))) (simA_nil))) (sim_cb caA_len (simA_cons (sim_var 13 (nm rfl)) (simA_nil)))) (simA_nil))))) (sim_callP (by simp) rfl (simA_cons (sim_int _) (simA_nil)))))
 (simS_next))
 (simS_setAt 8 (ym rfl) (sim_tup (by decide) (simA_cons (sim_str _) (simA_cons (sim_tup (by decide) (simA_cons (sim_str _) (simA_cons (sim_var 1 (nm rfl)) (simA_cons (sim_op opA_add (sim_var 13 (nm rfl)) (sim_tup (by decide) (simA_cons (sim_var 12 (nm rfl)) (simA_nil)))) (simA_nil))))) (simA_cons (opA_ixM 8 (ym rfl) (sim_int _)) (simA_nil))))) (sim_int _)))))
 (simS_next))
 (simS_ret (Sim.toE (sim_tup (by decide) (simA_cons (sim_str _) (simA_cons (sim_var 1 (nm rfl)) (simA_cons (sim_var 2 (nm rfl)) (simA_cons (sim_var 5 (nm rfl)) (simA_cons (opA_ixM 8 (ym rfl) (sim_int _)) (simA_cons (opA_ixM 8 (ym rfl) (sim_int _)) (simA_nil)))))))))))))), ?_⟩
  rintro ds m Q hl ⟨name, fl, names, kb, rfl, ⟨h0, h9⟩, hnm, hne, hnl, hnms, hkb, ⟨d0, hd0⟩, hm, k⟩
  obtain ⟨ks, rfl, hkk, hk1, hk3⟩ := hkb _ _ hd0
  have hp : 0 < names.length := List.length_pos_iff.mpr hne
  have hlab : ∀ (i : Nat) (a : Str), [Str.ofString "la", Str.ofString "lb", Str.ofString "lc"][i]? = some a → ∃ c : Nat, atI (Str.ofString "abc").cps.toList (0 + (i : Int)) = some c ∧ Str.ofString "l" ++ (⟨#[c]⟩ : Str) = a ∧ isLab a := by
    intro i a h
    match i, h with
    | 0, h => cases h; exact ⟨97, by decide +kernel, by decide +kernel, .inl rfl⟩
    | 1, h => cases h; exact ⟨98, by decide +kernel, by decide +kernel, .inr (.inl rfl)⟩
    | 2, h => cases h; exact ⟨99, by decide +kernel, by decide +kernel, .inr (.inr rfl)⟩
  have zl : (Str.ofString "abc").length ≤ sizeLine := by decide +kernel
  -- letters
  have eks : (ks.map PyData.str).length = ks.length := List.length_map _
  have let1 : ∃ ls : List D, (∀ l ∈ ls, LtOk l) ∧ ls.length = ks.length ∧ ∀ (i : Nat) (l : D), ls[i]? = some l → ∃ (c : Nat) (a k : Str), l = .tuple [.str a, .str k] ∧ ks[i]? = some k ∧ atI (Str.ofString "abc").cps.toList (0 + (i : Int)) = some c ∧ Str.ofString "l" ++ (⟨#[c]⟩ : Str) = a := by
    have hi : ∀ (i : Nat) (l : D), (([Str.ofString "la", Str.ofString "lb", Str.ofString "lc"].zip ks).map fun p => PyData.tuple [.str p.1, .str p.2])[i]? = some l → ∃ (a k : Str), l = .tuple [.str a, .str k] ∧ [Str.ofString "la", Str.ofString "lb", Str.ofString "lc"][i]? = some a ∧ ks[i]? = some k := fun i l h => by
      rw [List.getElem?_map] at h
      cases e : ([Str.ofString "la", Str.ofString "lb", Str.ofString "lc"].zip ks)[i]? with
      | none => rw [e] at h; cases h
      | some p =>
        rw [e] at h
        obtain ⟨a, k⟩ := p
        obtain ⟨e1, e2⟩ := List.getElem?_zip_eq_some.mp e
        exact ⟨a, k, (Option.some.inj h).symm, e1, e2⟩
    refine ⟨([Str.ofString "la", Str.ofString "lb", Str.ofString "lc"].zip ks).map fun p => PyData.tuple [.str p.1, .str p.2], fun l ml => ?_, ?_, fun i l h => ?_⟩
    · obtain ⟨i, h⟩ := List.getElem?_of_mem ml
      obtain ⟨a, k, rfl, e1, e2⟩ := hi i l h
      obtain ⟨c, _, _, e3⟩ := hlab i a e1
      exact ⟨a, k, rfl, e3, hkk k (List.mem_of_getElem? e2)⟩
    · rw [List.length_map, List.length_zip]
      show min 3 _ = _
      omega
    · obtain ⟨a, k, rfl, e1, e2⟩ := hi i l h
      obtain ⟨c, e3, e4, e5⟩ := hlab i a e1
      exact ⟨c, a, k, rfl, e2, e3, e4⟩
  obtain ⟨ls, hls, hlsl, hlsi⟩ := let1
  refine seqSet (d := .tuple ls) (fun Q q => ⟨_, hd0, ?_⟩) ?_
  · refine ⟨by rw [enum_len, eks]; exact small_line (by omega), lcD_ind (fun i acc s => acc = ls.take i ∧ s = { δ := [none, some (.str name), some (.int fl), some (.list names), some (.dict kb), none, none, none, none, none, none, none, none, none, none], n := m }) ⟨rfl, rfl⟩ ?_ ?_⟩
    · rintro i d acc s N hi ⟨rfl, rfl⟩ hN
      obtain ⟨y, z, h3, h4, rfl⟩ := prD_get hi
      obtain ⟨_, rfl⟩ := rgD_get h3
      have hil : i < ls.length := by have := (List.getElem?_eq_some_iff.mp h4).1; rw [eks] at this; omega
      obtain ⟨c, a, k0, el, ek, ec, ea⟩ := hlsi i ls[i] (List.getElem?_eq_getElem hil)
      obtain rfl : z = .str k0 := by
        rw [List.getElem?_map, ek] at h4
        exact (Option.some.inj h4).symm
      refine ⟨rfl, ?_⟩
      dsimp only [sCons, sName, sNil]
      refine ixs_ok zl ec ⟨by show (Str.ofString "l").length + 1 ≤ sizeLine; decide +kernel, ?_⟩
      rw [ea]
      refine hN _ _ ⟨?_, rfl⟩
      rw [List.take_add_one, List.getElem?_eq_getElem hil, el]
      rfl
    · rintro acc s ⟨rfl, rfl⟩
      rw [enum_len, eks, ← hlsl, List.take_length]
      exact q
  refine ⟨rfl, fun s => ∃ (p0 p1 : D) (n1 : Nat) (o6 o9 o10 o11 : Option D), s = { δ := [none, some (.str name), some (.int fl), some (.list names), some (.dict kb), some (.tuple ls), o6, none, some (.list [p0, p1]), o9, o10, o11, none, none, none], n := n1 } ∧ PartOk name 2 p0 ∧ PartOk name 2 p1 ∧ n1 ≤ m + 60, ?_, ?_⟩
  · refine ⟨⟨by decide, by decide⟩, forD_ind (fun i s => ∃ (ps : List D) (n1 : Nat) (o6 o9 o10 o11 : Option D), s = { δ := [none, some (.str name), some (.int fl), some (.list names), some (.dict kb), some (.tuple ls), o6, none, some (.list ps), o9, o10, o11, none, none, none], n := n1 } ∧ ps.length = i ∧ (∀ p ∈ ps, PartOk name 2 p) ∧ n1 ≤ m + i * 30 ∧ i ≤ 2) ⟨[], m, none, none, none, none, rfl, rfl, (fun p m => nomatch m), by omega, by omega⟩ ?_ ?_⟩
    · rintro i d s N hd ⟨ps, n1, o6, o9, o10, o11, rfl, hpl, hps, hn1, hi2⟩ hN
      obtain ⟨hi, rfl⟩ := rgD_get hd
      have hi : i < 2 := by simpa using hi
      refine tk_ok (by (first | omega | (dsimp only; omega) | (dsimp only at *; omega))) (by decide) (by decide) fun r r0 r1 => ?_
      dsimp only
      refine ⟨fun s => ∃ (p : D) (n2 : Nat) (o10 o11 : Option D), s = { δ := [none, some (.str name), some (.int fl), some (.list names), some (.dict kb), some (.tuple ls), some (.int (0 + (i : Nat))), none, some (.list ps), some p, o10, o11, none, none, none], n := n2 } ∧ PartOk name 2 p ∧ n2 ≤ n1 + 26, ?_, ?_⟩
      · refine tk_ok (by (first | omega | (dsimp only; omega) | (dsimp only at *; omega))) (by decide) (by decide) fun u u0 u1 => ix_any u0 u1 fun d hd => ?_
        obtain ⟨w, rfl, hw⟩ : ∃ w : Nat, d = .int (w : Int) ∧ w ≤ 2 := by
          simp only [List.mem_cons, List.not_mem_nil, or_false] at hd
          rcases hd with rfl | rfl | rfl | rfl
          · exact ⟨0, rfl, by decide⟩
          · exact ⟨0, rfl, by decide⟩
          · exact ⟨1, rfl, by decide⟩
          · exact ⟨2, rfl, by decide⟩
        refine ⟨⟨by (first | omega | (dsimp only; omega) | (dsimp only at *; omega)), by (first | omega | (dsimp only; omega) | (dsimp only at *; omega))⟩, forD_ind (fun j s => ∃ (p : D) (n2 : Nat) (o10 o11 : Option D), s = { δ := [none, some (.str name), some (.int fl), some (.list names), some (.dict kb), some (.tuple ls), some (.int (0 + (i : Nat))), none, some (.list ps), some p, o10, o11, none, none, none], n := n2 } ∧ PartOk name j p ∧ n2 ≤ n1 + 2 + j * 12 ∧ j ≤ 2) ⟨_, _, o10, o11, rfl, part_num (i := r) (by omega), by (first | omega | (dsimp only; omega) | (dsimp only at *; omega)), by omega⟩ ?_ ?_⟩
        · rintro j d s N2 hd2 ⟨p, n2, o10, o11, rfl, hp, hn2, hj2⟩ hN2
          obtain ⟨hj, rfl⟩ := rgD_get hd2
          have hj : j < 2 := by have : (w : Int).toNat = w := by omega
                                omega
          refine tk_ok (by (first | omega | (dsimp only; omega) | (dsimp only at *; omega))) (by (first | omega | (dsimp only; omega) | (dsimp only at *; omega))) (by (first | omega | (dsimp only; omega) | (dsimp only at *; omega))) fun v v0 v1 => ix_any v0 v1 fun x hx => ?_
          obtain ⟨z, rfl, hz⟩ := hnms x hx
          dsimp only
          refine ifS (b := !decide (z = name)) (fun Q q => q) (fun hc => ?_) (fun hc => ?_)
          · rw [Bool.not_eq_true', decide_eq_false_iff_not] at hc
            refine ⟨[.str z], kb, rfl, by simp, by simp, nmL.one hz, hkb, by (first | omega | (dsimp only; omega) | (dsimp only at *; omega)), fun z' t n3 hz' hzn ht hn3 => ?_⟩
            have hn3 : n3 ≤ n2 + 1 + 10 := hn3
            have : z' = z := by simpa using hz'
            subst this
            exact hN2 _ ⟨_, n3, _, _, rfl, part_add hzn hc ht hp, by omega, by omega⟩
          · exact hN2 _ ⟨p, n2 + 1, _, _, rfl, hp.up (by omega), by omega, by omega⟩
        · rintro s ⟨p, n2, o10, o11, rfl, hp, hn2, hj2⟩
          exact ⟨p, n2, o10, o11, rfl, hp.up hj2, by omega⟩
      rintro s ⟨p, n2, o10, o11, rfl, hp, hn2⟩
      refine ⟨⟨_, rfl⟩, small_line (by omega), hN _ ⟨ps ++ [p], n2, _, _, _, _, rfl, by rw [List.length_append, hpl]; rfl, fun q m => ?_, by omega, by omega⟩⟩
      rcases List.mem_append.mp m with m | m
      · exact hps q m
      · rw [List.mem_singleton.mp m]; exact hp
    · rintro s ⟨ps, n1, o6, o9, o10, o11, rfl, hpl, hps, hn1, hi2⟩
      have hpl : ps.length = 2 := hpl
      have hn1 : n1 ≤ m + 2 * 30 := hn1
      match ps, hpl with
      | [p0, p1], _ => exact ⟨p0, p1, n1, o6, o9, o10, o11, rfl, hps p0 (by simp), hps p1 (by simp), by omega⟩
  rintro s ⟨p0, p1, n1, o6, o9, o10, o11, rfl, hp0, hp1, hn1⟩
  refine ⟨fun s => ∃ (p1 : D) (n2 : Nat) (o12 o13 : Option D), s = { δ := [none, some (.str name), some (.int fl), some (.list names), some (.dict kb), some (.tuple ls), o6, none, some (.list [p0, p1]), o9, o10, o11, o12, o13, none], n := n2 } ∧ ((PartOk name 2 p1) ∨ ∃ t q, p1 = .tuple [.str (Str.ofString "add"), t, q] ∧ UseOk name t ∧ PartOk name 2 q) ∧ n2 ≤ n1 + 10, ?_, ?_⟩
  rotate_left
  · rintro s ⟨p1, n2, o12, o13, rfl, hp1, hn2⟩
    exact ⟨⟨_, rfl⟩, ix_ok 0 rfl rfl ⟨⟨_, rfl⟩, ix_ok 1 rfl rfl (k _ _ (nt_made hnm h0 h9 hls (by omega) hp0 hp1) (by show n2 ≤ _; omega))⟩⟩
  refine tk_ok (by (first | omega | (dsimp only; omega) | (dsimp only at *; omega))) (by decide) (by decide) fun r r0 r1 => ite_either (fun hr => ?_) (fun hr => ?_)
  rotate_left
  · exact ⟨p1, n1 + 1, none, none, rfl, .inl hp1, by omega⟩
  have hlast : ∃ l, atI ls (-1) = some l ∧ l ∈ ls := by
    have hpos : 0 < ls.length := by omega
    refine ⟨ls[ls.length - 1], ?_, List.getElem_mem _⟩
    have e1 : ixN ls.length (-1) = some (ls.length - 1) := by
      unfold ixN
      rw [if_neg (by decide), if_pos (by omega)]
      congr 1
      omega
    unfold atI
    rw [e1]
    exact List.getElem?_eq_getElem (by omega)
  obtain ⟨l, hl1, hlm⟩ := hlast
  obtain ⟨a, k0, rfl, hla, _⟩ := hls l hlm
  refine ⟨_, hl1, ix_ok 0 rfl rfl ?_⟩
  obtain ⟨last, elast⟩ : ∃ x, x = PyData.tuple [.str (Str.ofString "add"), .tuple [.str (Str.ofString "name"), .str a], .tuple [.str (Str.ofString "num"), .int (-1)]] := ⟨_, rfl⟩
  have hlast : PlOk last := by
    rw [elast]
    exact ⟨(bt3 (h := 1) (by decide +kernel) (bt2 (h := 0) (by decide +kernel) (bt_w hla.ok)) (bt2 (h := 0) (by decide +kernel) (Bt.int (by decide)))).to (by decide) (by decide), .inl (hf2 (k := 1) ⟨by decide +kernel, by decide +kernel⟩ (pT (hf1 ⟨by decide +kernel, by decide +kernel⟩ (pX hla.let))) (pT (hf1 ⟨by decide +kernel, by decide +kernel⟩ pN))), nl_add (nl_name _) (nl_num _)⟩
  dsimp only
  refine ⟨fun s => ∃ (own : List D), s = { δ := [none, some (.str name), some (.int fl), some (.list names), some (.dict kb), some (.tuple ls), o6, none, some (.list [p0, p1]), o9, o10, o11, some last, some (.tuple own), none], n := n1 + 1 } ∧ (∀ q ∈ own, PlOk q) ∧ own.length ≤ 3, ?_, ?_⟩
  · have hcl : (cutD ls none (some (-1))).length ≤ ls.length := by unfold cutD; exact ((List.take_sublist _ _).trans (List.drop_sublist _ _)).length_le
    have hcs : ∀ x ∈ cutD ls none (some (-1)), x ∈ ls := fun x m => by unfold cutD at m; exact ((List.take_sublist _ _).trans (List.drop_sublist _ _)).subset m
    refine ⟨small_line (by omega), lcD_ind (fun i acc s => s = { δ := [none, some (.str name), some (.int fl), some (.list names), some (.dict kb), some (.tuple ls), o6, none, some (.list [p0, p1]), o9, o10, o11, some last, none, none], n := n1 + 1 } ∧ (∀ q ∈ acc, PlOk q) ∧ acc.length = i) ⟨by rw [elast]; rfl, (fun q m => nomatch m), rfl⟩ ?_ ?_⟩
    · rintro i d acc s N hi ⟨rfl, ha, hal⟩ hN
      obtain ⟨a', k', rfl, hla', hk'⟩ := hls d (hcs d (List.mem_of_getElem? hi))
      have app : ∀ q, PlOk q → (∀ x ∈ acc ++ [q], PlOk x) ∧ (acc ++ [q]).length = i + 1 := fun q hq => ⟨fun x m => (List.mem_append.mp m).elim (ha x) fun m => by rw [List.mem_singleton.mp m]; exact hq, by rw [List.length_append, hal]; rfl⟩
      refine ⟨rfl, ite_either (fun h => ?_) (fun h => ?_)⟩
      · obtain ⟨a1, a2⟩ := app (.tuple [.str (Str.ofString "row"), .str a']) ⟨(bt2 (h := 0) (by decide +kernel) (bt_w hla'.ok)).to (by decide) (by decide), .inr (hf_le (j := 1) (by decide) (hf1 ⟨by decide +kernel, by decide +kernel⟩ (pY hla'.let))), nl_row _⟩
        exact hN _ _ ⟨rfl, a1, a2⟩
      · obtain ⟨a1, a2⟩ := app (.tuple [.str (Str.ofString "name"), .str a']) ⟨(bt2 (h := 0) (by decide +kernel) (bt_w hla'.ok)).to (by decide) (by decide), .inl (hf_le (j := 1) (by decide) (hf1 ⟨by decide +kernel, by decide +kernel⟩ (pX hla'.let))), nl_name _⟩
        exact hN _ _ ⟨rfl, a1, a2⟩
    · rintro acc s ⟨rfl, ha, hal⟩
      exact ⟨acc, rfl, ha, by omega⟩
  rintro s ⟨own, rfl, hown, howl⟩
  refine ⟨fun s => ∃ (own : List D) (n2 : Nat), s = { δ := [none, some (.str name), some (.int fl), some (.list names), some (.dict kb), some (.tuple ls), o6, none, some (.list [p0, p1]), o9, o10, o11, some last, some (.tuple own), none], n := n2 } ∧ (∀ q ∈ own, PlOk q) ∧ own.length ≤ 4 ∧ n2 ≤ n1 + 5, ?_, ?_⟩
  · refine tk_ok (by (first | omega | (dsimp only; omega) | (dsimp only at *; omega))) (by decide) (by decide) fun u u0 u1 => ite_either (fun hu => ?_) (fun hu => ?_)
    rotate_left
    · exact ⟨own, n1 + 1 + 1, rfl, hown, by omega, by omega⟩
    refine ⟨by show _ + 1 ≤ sizeLine; exact small_line (by omega), ⟨by simp, by omega, by omega, by decide, ?_⟩⟩
    refine tk_ok (by (first | omega | (dsimp only; omega) | (dsimp only at *; omega))) (by decide) (by decide) fun v v0 v1 => ix_any v0 v1 fun d hd => ?_
    have : ∃ own' : List D, d = .tuple own' ∧ (∀ q ∈ own', PlOk q) ∧ own'.length ≤ 4 := by
      simp only [List.mem_cons, List.not_mem_nil, or_false] at hd
      rcases hd with rfl | rfl | rfl
      · refine ⟨_, rfl, fun q m => ?_, ?_⟩
        · exact hown q (by unfold cutD at m; exact ((List.take_sublist _ _).trans (List.drop_sublist _ _)).subset m)
        · have : (cutD own (some 1) none).length ≤ own.length := by unfold cutD; exact ((List.take_sublist _ _).trans (List.drop_sublist _ _)).length_le
          omega
      · refine ⟨_, rfl, fun q m => ?_, ?_⟩
        · rcases List.mem_append.mp m with m | m
          · exact hown q m
          · rw [List.mem_singleton.mp m]; exact pl_num (by decide)
        · rw [List.length_append]; show _ + 1 ≤ 4; omega
      · refine ⟨_, rfl, fun q m => ?_, ?_⟩
        · obtain ⟨l, ml, mq⟩ := List.mem_flatten.mp m
          rw [List.eq_of_mem_replicate ml] at mq
          rw [List.mem_singleton.mp mq]
          exact pl_room (by decide)
        · simp
          omega
    obtain ⟨own', rfl, h1, h2⟩ := this
    exact ⟨own', n1 + 1 + 1 + 1, rfl, h1, h2, by omega⟩
  clear hown howl
  rintro s ⟨own, n2, rfl, hown, howl, hn2⟩
  refine ⟨by show _ + 1 ≤ sizeLine; exact small_line (by omega), ⟨⟨_, rfl⟩, ix_ok 1 rfl rfl ⟨⟨_, rfl⟩, _, n2, _, _, rfl, .inr ⟨_, _, rfl, ⟨own ++ [last], rfl, by rw [List.length_append]; show _ + 1 ≤ 5; omega, fun q m => ?_⟩, hp1⟩, by omega⟩⟩⟩
  rcases List.mem_append.mp m with m | m
  · exact hown q m
  · rw [List.mem_singleton.mp m]; exact hlast
end

/-! a dict shown -/
theorem dk_all {h1 h2 t1 t2 : Nat} : ∀ {kvs : List (D × D)}, (∀ kv ∈ kvs, Bt h1 t1 kv.1 ∧ Bt h2 t2 kv.2) → PyData.showableKv kvs = true ∧ PyData.depthKv kvs ≤ max h1 h2 ∧ (Str.join ", " (PyData.shownKv kvs)).length ≤ kvs.length * (t1 + t2 + 4) := by
  intro kvs hh
  have main : PyData.showableKv kvs = true ∧ PyData.depthKv kvs ≤ max h1 h2 ∧ piled (PyData.shownKv kvs) ≤ kvs.length * (t1 + t2 + 4) := by
    induction kvs with
    | nil => exact ⟨rfl, Nat.zero_le _, by simp [PyData.shownKv, piled]⟩
    | cons kv r ih =>
      obtain ⟨k, v⟩ := kv
      obtain ⟨i1, i2, i3⟩ := ih fun kv m => hh kv (List.mem_cons_of_mem _ m)
      obtain ⟨a, b⟩ := hh (k, v) (List.mem_cons_self ..)
      refine ⟨?_, ?_, ?_⟩
      · simp only [PyData.showableKv, (bd_lay _ a.b).2, (bd_lay _ b.b).2, i1, Bool.and_self]
      · simp only [PyData.depthKv]
        have := a.h
        have := b.h
        simp only at *
        omega
      · simp only [PyData.shownKv, piled_cons, List.length_cons]
        rw [strLen_app, strLen_app]
        have e : (((": " : String) : Str)).length = 2 := by decide +kernel
        have h3 := shown_le _ a.b
        have h4 := shown_le _ b.b
        have h5 := a.t
        have h6 := b.t
        rw [e, Nat.succ_mul]
        simp only at *
        omega
  exact ⟨main.1, main.2.1, Nat.le_trans (join_le _) main.2.2⟩
theorem findD_none : ∀ {kvs : List (D × D)} {k : D}, findD kvs k = none → isKey k = true → ∀ kv ∈ kvs, isKey kv.1 = true → kv.1 ≠ k
  | [], _, _, _, kv, m, _ => nomatch m
  | (k0, d) :: r, k, h, hk, kv, m, h1 => by
    rw [findD] at h
    split at h
    · cases h
    · rename_i hne
      rcases List.mem_cons.mp m with rfl | m
      · rintro rfl
        obtain ⟨a, ea⟩ := isKey_of hk
        have ea : k0 = keyD a := ea
        subst ea
        exact hne (by rw [keyIs_key]; simp)
      · exact findD_none h hk kv m h1
/-! ### dicts of notions, dicts of kinds -/
theorem keyIs_iff {a b : D} (ha : isKey a = true) (hb : isKey b = true) : keyIs a b = true ↔ a = b := by
  obtain ⟨x, rfl⟩ := isKey_of ha
  obtain ⟨y, rfl⟩ := isKey_of hb
  rw [show keyIs _ _ = decide (x = y) from keyIs_key x y, decide_eq_true_eq]
  constructor
  · rintro rfl; rfl
  · intro h
    cases x <;> cases y <;> first | (injection h with h; rw [h]) | (cases h; done)
theorem putD_mem {kvs : List (D × D)} {k v : D} (hk : isKey k = true) (h : ∀ kv ∈ kvs, isKey kv.1 = true) : ∀ kv ∈ putD kvs k v, kv ∈ kvs ∨ kv = (k, v) := by
  intro kv m
  unfold putD at m
  split at m
  · obtain ⟨kv', m', e⟩ := List.mem_map.mp m
    split at e
    · rename_i hh
      have := (keyIs_iff (h kv' m') hk).mp hh
      rw [this] at e
      exact .inr e.symm
    · exact .inl (e ▸ m')
  · rcases List.mem_append.mp m with m | m
    · exact .inl m
    · exact .inr (List.mem_singleton.mp m)
theorem putD_keys {kvs : List (D × D)} {k v : D} (hk : isKey k = true) (h : ∀ kv ∈ kvs, isKey kv.1 = true) : (putD kvs k v).map Prod.fst = kvs.map Prod.fst ∧ k ∈ kvs.map Prod.fst ∨ (putD kvs k v).map Prod.fst = kvs.map Prod.fst ++ [k] ∧ k ∉ kvs.map Prod.fst := by
  unfold putD
  cases e : findD kvs k with
  | none =>
    refine .inr ⟨by simp, fun m => ?_⟩
    obtain ⟨kv, mk, e2⟩ := List.mem_map.mp m
    exact findD_none e hk kv mk (h kv mk) e2
  | some d =>
    refine .inl ⟨?_, ?_⟩
    · simp only [Option.isSome_some, if_true, List.map_map]
      refine List.map_congr_left fun kv _ => ?_
      show (if keyIs kv.1 k = true then (kv.1, v) else kv).1 = kv.1
      split <;> rfl
    · by_cases hm : k ∈ kvs.map Prod.fst
      · exact hm
      · exfalso
        have : findD kvs k = none := by
          clear e
          induction kvs with
          | nil => rfl
          | cons a r ih =>
            obtain ⟨k0, d0⟩ := a
            have hne : ¬ keyIs k0 k = true := fun z => hm (by rw [← (keyIs_iff (h (k0, d0) (List.mem_cons_self ..)) hk).mp z]; exact List.mem_cons_self ..)
            rw [findD, if_neg hne]
            exact ih (fun kv m => h kv (List.mem_cons_of_mem _ m)) fun z => hm (List.mem_cons_of_mem _ z)
        rw [e] at this
        cases this
open Classical in
theorem findD_put {k v : D} (hk : isKey k = true) : ∀ {kvs : List (D × D)} {k' : D}, (∀ kv ∈ kvs, isKey kv.1 = true) → isKey k' = true → findD (putD kvs k v) k' = if k' = k then some v else findD kvs k' := by
  intro kvs k' h hk'
  have app : ∀ (kvs : List (D × D)), findD (kvs ++ [(k, v)]) k' = (findD kvs k').or (if k' = k then some v else none) := by
    intro kvs
    induction kvs with
    | nil =>
      show (if keyIs k k' = true then some v else none) = _
      by_cases e : k' = k
      · rw [if_pos e, if_pos ((keyIs_iff hk hk').mpr e.symm)]; rfl
      · rw [if_neg e, if_neg (fun z => e ((keyIs_iff hk hk').mp z).symm)]; rfl
    | cons a r ih =>
      obtain ⟨k0, d0⟩ := a
      show (if keyIs k0 k' = true then some d0 else findD (r ++ [(k, v)]) k') = ((if keyIs k0 k' = true then some d0 else findD r k')).or _
      split
      · rfl
      · exact ih
  have mp : ∀ (kvs : List (D × D)), (∀ kv ∈ kvs, isKey kv.1 = true) → findD (kvs.map fun kv => if keyIs kv.1 k = true then (kv.1, v) else kv) k' = if k' = k then (findD kvs k').map (fun _ => v) else findD kvs k' := by
    intro kvs
    induction kvs with
    | nil => intro _; show none = _; split <;> rfl
    | cons a r ih =>
      intro h
      obtain ⟨k0, d0⟩ := a
      have h0 := h (k0, d0) (List.mem_cons_self ..)
      have h0 : isKey k0 = true := h0
      have ih := ih fun kv m => h kv (List.mem_cons_of_mem _ m)
      rw [List.map_cons]
      by_cases e1 : keyIs k0 k = true
      · rw [show (if keyIs (k0, d0).1 k = true then ((k0, d0).1, v) else (k0, d0)) = (k0, v) from if_pos e1]
        show (if keyIs k0 k' = true then some v else findD _ k') = if k' = k then ((if keyIs k0 k' = true then some d0 else findD r k')).map _ else (if keyIs k0 k' = true then some d0 else findD r k')
        have ek := (keyIs_iff h0 hk).mp e1
        subst ek
        by_cases e2 : k' = k0
        · have e3 := (keyIs_iff h0 hk').mpr e2.symm
          rw [if_pos e3, if_pos e2, if_pos e3]; rfl
        · have e3 : ¬ keyIs k0 k' = true := fun z => e2 ((keyIs_iff h0 hk').mp z).symm
          rw [if_neg e3, if_neg e2, if_neg e3, ih, if_neg e2]
      · rw [show (if keyIs (k0, d0).1 k = true then ((k0, d0).1, v) else (k0, d0)) = (k0, d0) from if_neg e1]
        show (if keyIs k0 k' = true then some d0 else findD _ k') = if k' = k then ((if keyIs k0 k' = true then some d0 else findD r k')).map _ else (if keyIs k0 k' = true then some d0 else findD r k')
        by_cases e3 : keyIs k0 k' = true
        · have e4 : ¬ k' = k := fun z => e1 (by rw [← z]; exact e3)
          rw [if_pos e3, if_neg e4, if_pos e3]
        · rw [if_neg e3, if_neg e3]
          exact ih
  unfold putD
  cases e : findD kvs k with
  | none =>
    rw [if_neg (by simp), app]
    by_cases e2 : k' = k
    · rw [if_pos e2, if_pos e2, e2, e]; rfl
    · rw [if_neg e2, if_neg e2]; cases findD kvs k' <;> rfl
  | some d =>
    rw [if_pos (show (some d).isSome = true from rfl), mp kvs h]
    by_cases e2 : k' = k
    · rw [if_pos e2, if_pos e2, e2, e]; rfl
    · rw [if_neg e2, if_neg e2]
structure GoodI (kvs : List (D × D)) (b : Nat) : Prop where
  nd : (kvs.map Prod.fst).Nodup
  nt : ∀ kv ∈ kvs, ∃ n, kv.1 = .str n ∧ NtOk n kv.2
  len : kvs.length ≤ b
theorem GoodI.key {kvs : List (D × D)} {b : Nat} (g : GoodI kvs b) : ∀ kv ∈ kvs, isKey kv.1 = true := fun kv m => by
  obtain ⟨n, e, _⟩ := g.nt kv m
  rw [e]; rfl
theorem GoodI.good {kvs : List (D × D)} {b : Nat} (g : GoodI kvs b) (hb : b < 64) : Good kvs := by
  refine ⟨⟨kvs.map fun kv => (match kv.1 with | .str n => n | _ => Str.ofString ""), ?_, by rw [List.length_map]; exact Nat.lt_of_le_of_lt g.len hb, ?_⟩, g.nt⟩
  · rw [List.map_map]
    refine List.map_congr_left fun kv m => ?_
    obtain ⟨n, e, _⟩ := g.nt kv m
    simp only [Function.comp, e]
  · have h : (kvs.map Prod.fst).Nodup := g.nd
    have hn := g.nt
    clear g
    induction kvs with
    | nil => exact List.nodup_nil
    | cons a r ih =>
      rw [List.map_cons, List.nodup_cons] at h ⊢
      refine ⟨fun m => h.1 ?_, ih h.2 fun kv m => hn kv (List.mem_cons_of_mem _ m)⟩
      obtain ⟨kv, mk, e⟩ := List.mem_map.mp m
      obtain ⟨n, e1, _⟩ := hn a (List.mem_cons_self ..)
      obtain ⟨n', e2, _⟩ := hn kv (List.mem_cons_of_mem _ mk)
      rw [e1, e2] at e
      have e : n' = n := e
      rw [e1]
      exact List.mem_map.mpr ⟨kv, mk, by rw [e2, e]⟩
theorem GoodI.put {kvs : List (D × D)} {b : Nat} {n : Str} {d : D} (g : GoodI kvs b) (h : NtOk n d) : GoodI (putD kvs (.str n) d) (b + 1) ∧ isIn (putD kvs (.str n) d) n ∧ ∀ x, isIn kvs x → isIn (putD kvs (.str n) d) x := by
  have hl : (putD kvs (.str n) d).length ≤ kvs.length + 1 := by
    unfold putD
    split
    · rw [List.length_map]; omega
    · rw [List.length_append]; exact Nat.le_refl _
  have hm : ∀ kv ∈ putD kvs (.str n) d, ∃ n, kv.1 = .str n ∧ NtOk n kv.2 := fun kv m => by
    rcases putD_mem rfl g.key kv m with m | rfl
    · exact g.nt kv m
    · exact ⟨n, rfl, h⟩
  have hb := g.len
  unfold isIn
  rcases putD_keys (v := d) (k := .str n) rfl g.key with ⟨e, m⟩ | ⟨e, m⟩
  · exact ⟨⟨by rw [e]; exact g.nd, hm, by omega⟩, by rw [e]; exact m, fun x hx => by rw [e]; exact hx⟩
  · refine ⟨⟨?_, hm, by omega⟩, by rw [e]; simp, fun x hx => by rw [e]; exact List.mem_append_left _ hx⟩
    rw [e]
    refine List.nodup_append.mpr ⟨g.nd, by simp, fun a ma b' mb => ?_⟩
    rw [List.mem_singleton.mp mb]
    rintro rfl
    exact m ma
theorem GoodI.drop {kvs : List (D × D)} {b : Nat} {k : D} (g : GoodI kvs b) : GoodI (dropD kvs k) b :=
  ⟨g.nd.sublist ((List.filter_sublist).map _), fun kv m => g.nt kv (List.mem_filter.mp m).1, Nat.le_trans (List.length_filter_le _ _) g.len⟩
theorem GoodI.repr {kvs : List (D × D)} {b : Nat} {Q : D → Prop} (g : GoodI kvs b) (hb : b ≤ 20) (q : Q (.str (PyData.dict kvs).shown)) : reprTD [.dict kvs] Q := by
  obtain ⟨i1, i2, i3⟩ := dk_all (h1 := 0) (t1 := 90) (h2 := 14) (t2 := 100000) (kvs := kvs) fun kv m => by
    obtain ⟨n, e, h⟩ := g.nt kv m
    rw [e]
    exact ⟨(Bt.str (name_w h.nm).ok (name_w h.nm).2.1).to (Nat.le_refl _) (by omega), h.bt⟩
  have hl := g.len
  refine ⟨?_, ?_, ?_, q⟩
  · simp only [PyData.depth]
    omega
  · simp only [PyData.showable, i1]
  · have e3 : ((("{" : String) : Str)).length = 1 := by decide +kernel
    have e4 : ((("}" : String) : Str)).length = 1 := by decide +kernel
    have e6 : (PyData.dict kvs).shown.length = 1 + (Str.join ", " (PyData.shownKv kvs)).length + 1 := by
      simp only [PyData.shown, dictText]
      rw [strLen_app, strLen_app, e3, e4]
    rw [e6]
    have h7 : kvs.length * (90 + 100000 + 4) ≤ 20 * (90 + 100000 + 4) := Nat.mul_le_mul_right _ (by omega)
    exact Nat.le_trans (show _ ≤ 3000000 by omega) (by decide)

/-! ### _law_same, by (int, str) -/
section
variable {P : Program} {w : World} {K : PySem.W.Frag} {mg : Str → Option Value} {base : Heap}
theorem ok__law_same (T : Tx w K mg) : ∀ k : Nat, Ok P w K mg base (k + 1) "_law_same" ["_law_found", "_law_due_here"] (spN K 2 .E (sameF k))
  | 0 => Ok.no T.d__law_same sc__law_same (spN_no fun ds Q h => h)
  | k + 1 => by
    have O__law_same : Ok P w K mg base (k + 1) "_law_same" ["_law_found", "_law_due_here"] (spN K 2 .E (sameF k)) := ok__law_same T k
    refine Ok.ofN (M := []) T.d__law_same sc__law_same rfl (by decide) fun f cdv A outer s H E hr => ⟨_, _, (pss_cons (ps_if (PW.pt (pw_or (pt_cmpR op_isN (pv 1) (pe_non) (nomark _)) (pw_or1 (pt_cmpR op_isN (pv 0) (pe_non) (nomark _)))))
 (pss_one (ps_ret (pe_and (pe_cmpR op_isN (pv 1) (pe_non) (nomark _)) (pe_one (pe_cmpR op_isN (pv 0) (pe_non) (nomark _))))))
 (pss_nil))
 (pss_cons (ps_if (PW.pt (pw_or (pt_val (pe_callB (isiK K rfl) (by rfl) T.z_isinstance boot_isi (pa_cons (pv 1) (pa_cons (pe_bltn (v := .ty "bool") (by rfl) T.z_bool boot_bool rfl) pa_nil)))) (pw_or1 (pt_val (pe_callB (isiK K rfl) (by rfl) T.z_isinstance boot_isi (pa_cons (pv 0) (pa_cons (pe_bltn (v := .ty "bool") (by rfl) T.z_bool boot_bool rfl) pa_nil)))))))
 (pss_one (ps_ret (pe_and (pe_callB (isiK K rfl) (by rfl) T.z_isinstance boot_isi (pa_cons (pv 1) (pa_cons (pe_bltn (v := .ty "bool") (by rfl) T.z_bool boot_bool rfl) pa_nil))) (pe_and (pe_callB (isiK K rfl) (by rfl) T.z_isinstance boot_isi (pa_cons (pv 0) (pa_cons (pe_bltn (v := .ty "bool") (by rfl) T.z_bool boot_bool rfl) pa_nil))) (pe_one (pe_cmpR (eqG K rfl hr.units) (pv 0) (pv 1) (nomark _)))))))
 (pss_nil))
 (pss_cons (ps_if (pt_val (pe_callB (isiTK K rfl) (by rfl) T.z_isinstance boot_isi (pa_cons (pv 1) (pa_cons (pe_tup (pa_cons (pe_bltn (v := .ty "int") (by rfl) T.z_int boot_int rfl) (pa_cons (pe_bltn (v := .ty "str") (by rfl) T.z_str boot_str rfl) (pa_nil)))) pa_nil))))
 (pss_cons (ps_if (pt_cmpR (neG K rfl hr.units) (pe_callB (isiK K rfl) (by rfl) T.z_isinstance boot_isi (pa_cons (pv 0) (pa_cons (pe_bltn (v := .ty "int") (by rfl) T.z_int boot_int rfl) pa_nil))) (pe_callB (isiK K rfl) (by rfl) T.z_isinstance boot_isi (pa_cons (pv 1) (pa_cons (pe_bltn (v := .ty "int") (by rfl) T.z_int boot_int rfl) pa_nil))) (nomark _))
 (pss_one (ps_ret (pe_bl)))
 (pss_nil))
 (pss_one (ps_ret (pe_and (pe_callB (isiTK K rfl) (by rfl) T.z_isinstance boot_isi (pa_cons (pv 0) (pa_cons (pe_tup (pa_cons (pe_bltn (v := .ty "int") (by rfl) T.z_int boot_int rfl) (pa_cons (pe_bltn (v := .ty "str") (by rfl) T.z_str boot_str rfl) (pa_nil)))) pa_nil))) (pe_one (pe_cmpR (eqG K rfl hr.units) (pv 0) (pv 1) (nomark _)))))))
 (pss_nil))
 (pss_cons (ps_if (PW.pt (pw_or (pt_cmpR (neG K rfl hr.units) (pe_callB (isiK K rfl) (by rfl) T.z_isinstance boot_isi (pa_cons (pv 1) (pa_cons (pe_bltn (v := .ty "tuple") (by rfl) T.z_tuple boot_tuple rfl) pa_nil))) (pe_callB (isiK K rfl) (by rfl) T.z_isinstance boot_isi (pa_cons (pv 0) (pa_cons (pe_bltn (v := .ty "tuple") (by rfl) T.z_tuple boot_tuple rfl) pa_nil))) (nomark _)) (pw_or1 (pt_cmpR (neG K rfl hr.units) (pe_callB (isiK K rfl) (by rfl) T.z_isinstance boot_isi (pa_cons (pv 1) (pa_cons (pe_bltn (v := .ty "list") (by rfl) T.z_list boot_list rfl) pa_nil))) (pe_callB (isiK K rfl) (by rfl) T.z_isinstance boot_isi (pa_cons (pv 0) (pa_cons (pe_bltn (v := .ty "list") (by rfl) T.z_list boot_list rfl) pa_nil))) (nomark _)))))
 (pss_one (ps_ret (pe_bl)))
 (pss_nil))
 (pss_cons (ps_if (pt_cmpR (neG K rfl hr.units) (pe_callB (lenG K rfl) (by rfl) T.z_len boot_len (pa_cons (pv 0) (pa_nil))) (pe_callB (lenG K rfl) (by rfl) T.z_len boot_len (pa_cons (pv 1) (pa_nil))) (nomark _))
 (pss_one (ps_ret (pe_bl)))
 (pss_nil))
 (pss_one (ps_ret (pe_cmpR (ninG K rfl (u65 hr.toRoom)) (pe_bl) (pe_lc (own := [("_law_one", 2), ("_law_other", 3)]) rfl sc__law_same.nd (piZ K rfl (by rfl) T.z_zip (pa_cons (pv 0) (pa_cons (pv 1) pa_nil))) (blkOk_by (own := [("_law_one", 2), ("_law_other", 3)]) (N := ["_law_found", "_law_due_here", "_law_one", "_law_other"]) (sc := defScope s__law_same) (by decide +kernel)) (fun _ _ _ _ _ => pgT K rfl 2 rfl (pgs_cons (pg_nameL (i := 2) sc__law_same.nd rfl rfl) (pgs_cons (pg_nameL (i := 3) sc__law_same.nd rfl rfl) (pgs_nil)))) (fun _ _ _ _ _ => pts_nil) (fun _ _ _ _ _ => pe_fn O__law_same (hr.mono (by omega)) (by rfl) (pa_cons (pv 2) (pa_cons (pv 3) (pa_nil))))) (by rfl))))))))),
 (simS_seq (simS_if (simT_or (simT_test (sim_op opA_isN (sim_var 1 (nm rfl)) (sim_non))) (simT_test (sim_op opA_isN (sim_var 0 (nm rfl)) (sim_non))))
 (simS_ret (Sim.toE (sim_andV (sim_op opA_isN (sim_var 1 (nm rfl)) (sim_non)) (sim_op opA_isN (sim_var 0 (nm rfl)) (sim_non)))))
 (simS_next))
 (simS_seq (simS_if (simT_or (simT_B (sim_isi .bool (sim_var 1 (nm rfl)))) (simT_B (sim_isi .bool (sim_var 0 (nm rfl)))))
 (simS_ret (Sim.toE (sim_andV (sim_isi .bool (sim_var 1 (nm rfl))) (sim_andV (sim_isi .bool (sim_var 0 (nm rfl))) (sim_op opA_eq (sim_var 0 (nm rfl)) (sim_var 1 (nm rfl)))))))
 (simS_next))
 (simS_seq (simS_if (simT_B (sim_isiT2 .int .str (sim_var 1 (nm rfl))))
 (simS_seq (simS_if (simT_test (sim_op opA_ne (sim_isi .int (sim_var 0 (nm rfl))) (sim_isi .int (sim_var 1 (nm rfl)))))
 (simS_ret (Sim.toE (sim_bl _)))
 (simS_next))
 (simS_ret (Sim.toE (sim_andV (sim_isiT2 .int .str (sim_var 0 (nm rfl))) (sim_op opA_eq (sim_var 0 (nm rfl)) (sim_var 1 (nm rfl)))))))
 (simS_next))
 (simS_seq (simS_if (simT_or (simT_test (sim_op opA_ne (sim_isi .tuple (sim_var 1 (nm rfl))) (sim_isi .tuple (sim_var 0 (nm rfl))))) (simT_test (sim_op opA_ne (sim_isi .list (sim_var 1 (nm rfl))) (sim_isi .list (sim_var 0 (nm rfl))))))
 (simS_ret (Sim.toE (sim_bl _)))
 (simS_next))
 (simS_seq (simS_if (simT_test (sim_op opA_ne (sim_cb caA_len (simA_cons (sim_var 0 (nm rfl)) (simA_nil))) (sim_cb caA_len (simA_cons (sim_var 1 (nm rfl)) (simA_nil)))))
 (simS_ret (Sim.toE (sim_bl _)))
 (simS_next))
 (simS_ret (Sim.toE (sim_op opA_nin (sim_bl _) (sim_lc (simI_zip (sim_var 0 (nm rfl)) (sim_var 1 (nm rfl))) (simG_tup (simGs_cons (simG_name 2 (nm rfl) (np rfl)) (simGs_cons (simG_name 3 (nm rfl) (np rfl)) (simGs_nil)))) (simT_yes) (sim_call (simA_cons (sim_var 2 (nm rfl)) (simA_cons (sim_var 3 (nm rfl)) (simA_nil)))) (inv' rfl) (nmv rfl) (npv rfl)))))))))), ?_⟩
    intro ds Q hl hF
    match ds, hl, hF with
    | [a, b], _, hF =>
    obtain ⟨rfl, hd, q⟩ := hF
    cases a with
    | none => exact q
    | bool x =>
      show Q (.bool (decide (x = x)))
      rw [decide_eq_true rfl]
      exact q
    | int x =>
      show Q (.bool (decide (x = x)))
      rw [decide_eq_true rfl]
      exact q
    | str x =>
      show Q (.bool (decide (x = x)))
      rw [decide_eq_true rfl]
      exact q
    | dict x => cases k <;> exact hd.elim
    | list xs =>
      cases k with
      | zero => exact hd.elim
      | succ k =>
      obtain ⟨hx, hd⟩ := hd
      refine ifn (by simp) ?_
      refine ⟨by rw [zip_len, Nat.min_self]; exact hx, lcD_ind (fun i acc s => acc = List.replicate i (.bool true) ∧ s = { δ := [some (.list xs), some (.list xs), none, none], n := 0 }) ⟨rfl, rfl⟩ ?_ ?_⟩
      · rintro i d acc s N hi ⟨rfl, rfl⟩ hN
        obtain ⟨x, y, e1, e2, rfl⟩ := prD_get hi
        rw [e1] at e2
        cases e2
        refine ⟨rfl, rfl, hd x (List.mem_of_getElem? e1), ?_⟩
        exact hN _ _ ⟨by rw [← List.replicate_succ'], rfl⟩
      · rintro acc s ⟨rfl, rfl⟩
        exact nin_true q
    | tuple xs =>
      cases k with
      | zero => exact hd.elim
      | succ k =>
      obtain ⟨hx, hd⟩ := hd
      refine ifn (by simp) ?_
      refine ⟨by rw [zip_len, Nat.min_self]; exact hx, lcD_ind (fun i acc s => acc = List.replicate i (.bool true) ∧ s = { δ := [some (.tuple xs), some (.tuple xs), none, none], n := 0 }) ⟨rfl, rfl⟩ ?_ ?_⟩
      · rintro i d acc s N hi ⟨rfl, rfl⟩ hN
        obtain ⟨x, y, e1, e2, rfl⟩ := prD_get hi
        rw [e1] at e2
        cases e2
        refine ⟨rfl, rfl, hd x (List.mem_of_getElem? e1), ?_⟩
        exact hN _ _ ⟨by rw [← List.replicate_succ'], rfl⟩
      · rintro acc s ⟨rfl, rfl⟩
        exact nin_true q
end

/-! ### the law -/
structure KbI (kb : List (D × D)) (b : Nat) : Prop where
  key : ∀ kv ∈ kb, isKey kv.1 = true
  all : ∀ k d : D, findD kb k = some d → KsOk d
  len : kb.length ≤ b
theorem findD_key : ∀ {kvs : List (D × D)} {k d : D}, (∀ kv ∈ kvs, isKey kv.1 = true) → findD kvs k = some d → isKey k = true
  | [], _, _, _, h => by cases h
  | (k0, d0) :: r, k, d, hk, h => by
    rw [findD] at h
    split at h
    · rename_i e
      have h0 : isKey k0 = true := hk (k0, d0) (List.mem_cons_self ..)
      obtain ⟨a, rfl⟩ := isKey_of h0
      cases a <;> cases k <;> first | rfl | (cases e; done)
    · exact findD_key (fun kv m => hk kv (List.mem_cons_of_mem _ m)) h
theorem KbI.put {kb : List (D × D)} {b : Nat} {n : Str} {d : D} (g : KbI kb b) (h : KsOk d) : KbI (putD kb (.str n) d) (b + 1) ∧ (∃ e, findD (putD kb (.str n) d) (.str n) = some e) ∧ ∀ x : Str, (∃ e, findD kb (.str x) = some e) → ∃ e, findD (putD kb (.str n) d) (.str x) = some e := by
  have hl : (putD kb (.str n) d).length ≤ kb.length + 1 := by
    unfold putD
    split
    · rw [List.length_map]; omega
    · rw [List.length_append]; exact Nat.le_refl _
  have hb := g.len
  have hkeys : ∀ kv ∈ putD kb (.str n) d, isKey kv.1 = true := fun kv m => by
    rcases putD_mem rfl g.key kv m with m | rfl
    · exact g.key kv m
    · rfl
  refine ⟨⟨hkeys, fun k e he => ?_, by omega⟩, ⟨d, by rw [findD_put rfl g.key rfl, if_pos rfl]⟩, fun x ⟨e, he⟩ => ?_⟩
  · have hk := findD_key hkeys he
    rw [findD_put rfl g.key hk] at he
    split at he
    · cases he; exact h
    · exact g.all k e he
  · rw [findD_put rfl g.key rfl]
    split
    · exact ⟨d, rfl⟩
    · exact ⟨e, he⟩
theorem dat_strs {k : Nat} {L : List Str} (hl : L.length ≤ 1000) : dat (k + 1) (.list (L.map PyData.str)) := by
  refine ⟨by rw [List.length_map]; exact Nat.le_trans hl (by decide), fun x m => ?_⟩
  obtain ⟨z, _, rfl⟩ := List.mem_map.mp m
  cases k <;> trivial
theorem FirmOk.len {kvs : List (D × D)} {L : List Str} (g : Good kvs) (h : FirmOk kvs L) : L.length < 64 ∧ ∀ x ∈ L, isName (.str x) = true := by
  obtain ⟨ks, hks, hk64, hknd⟩ := g.keys
  refine ⟨Nat.lt_of_le_of_lt (nodup_len h.nd fun x m => ?_) hk64, fun x m => ?_⟩
  · have := ((h.mem x).mp m).1
    unfold isIn at this
    rw [hks] at this
    obtain ⟨a, ma, e⟩ := List.mem_map.mp this
    cases e
    exact ma
  · exact (g.get ((h.mem x).mp m).1).2.nm
theorem cut_last (ds : List D) : cutD ds none (some (-1)) = ds.take (ds.length - 1) := by
  unfold cutD
  rw [HT.sIx_none, List.drop_zero, Nat.sub_zero]
  congr 1
  show ((-1 : Int) + (ds.length : Int)).toNat = _
  omega
theorem name_wOk {x : Str} (h : isName (.str x) = true) : wOk x = true := by
  have := name_w h
  unfold wOk
  rw [this.ok, Bool.true_and, decide_eq_true_eq]
  exact this.2.1
section
variable {P : Program} {w : World} {K : PySem.W.Frag} {mg : Str → Option Value} {base : Heap}
theorem ok_law {fa : Addr} {fda : FuncData} (T : Tx w K mg) (F : Fun K "law" "law" s_law fa fda) : FnG P w K mg base 120 fa fda ["_law_script"] (spLaw K) := by
  have O__law_open : Ok P w K mg base 1 "_law_open" ["_law_script"] (spOpen K) := ok__law_open T
  have O__law_take : Ok P w K mg base 2 "_law_take" ["_law_pen", "_law_many"] (spP K 1 .E takeF) := ok_takeP (ok__law_take T (ok__law_spread T))
  have O__law_free_names := ok__law_free_names5 (P := P) (w := w) (base := base) T (ok__law_names5 T O__law_take)
  have O__law_use := ok__law_use (P := P) (w := w) (base := base) T O__law_take
  have O__law_made := ok__law_made (P := P) (w := w) (base := base) T O__law_take O__law_use
  have O_notion_terms : Ok P w K mg base 50 "notion_terms" ["thing"] (spN K 1 .E (ntF 10)) := (ok_notion_terms T (ok_gather_notions T 10 (by omega))).mono (by omega)
  have O_takes : Ok P w K mg base 51 "takes" ["notion", "places"] (spN K 2 .E takesF) := (ok_takes T (ok_kind_of T)).mono (by omega)
  have O_own_term : Ok P w K mg base 51 "own_term" ["notion"] (spN K 1 .E (ownF 10)) := ok_own_term T O_notion_terms
  have O_stands : Ok P w K mg base 52 "stands" ["notion", "notions", "found"] (spN K 3 .E standsF) := ok_stands T O_own_term (O_notion_terms.mono (by omega)) O_takes
  have O_firm : Ok P w K mg base 60 "firm" ["notions"] (spN K 1 .F firmF) := (ok_firm T O_stands).mono (by omega)
  have O__law_due : Ok P w K mg base 60 "_law_due" ["_law_notions"] (spN K 1 .E dueF) := (ok__law_due T (ok__law_terms_in T 20 (by omega))).mono (by omega)
  have O__law_same : Ok P w K mg base 60 "_law_same" ["_law_found", "_law_due_here"] (spN K 2 .E (sameF 3)) := (ok__law_same T 3).mono (by omega)
  refine Ok.ofLaw (M := [13]) F sc_law (by decide) fun f cdv A outer s H E hr => ⟨_, (pss_cons (ps_set (i := 1) sc_law.nd rfl (Or.inr rfl) (pe_fn O__law_open (hr.mono (by omega)) (by rfl) (pa_cons (pv 0) pa_nil)))
 (pss_cons (ps_for PassesOwn.never rfl (pi_range1 (by rfl) T.z_range (pa_cons (pe_int) (pa_nil))) (pg_nameL (i := 2) sc_law.nd rfl rfl)
 (pss_cons (ps_set (i := 3) sc_law.nd rfl (Or.inl rfl) (pe_fn O__law_free_names (hr.mono (by omega)) (by rfl) (pa_cons (pv 1) (pa_cons (pe_op (addG K rfl) (pe_int) (pe_fn O__law_take (hr.mono (by omega)) (by rfl) (pa_cons (pv 1) (pa_cons (pe_int) (pa_nil))))) (pa_nil)))))
 (pss_cons (ps_set (i := 4) sc_law.nd rfl (Or.inl rfl) (pe_dnewK))
 (pss_cons (ps_for PassesOwn.never rfl (piL K rfl (pv 3)) (pg_nameL (i := 5) sc_law.nd rfl rfl)
 (pss_one (ps_dput (lt_u1 (u65 hr.toRoom)) (pv 4) (pv 5) (pe_op (addG K rfl) (pe_lc (own := [("_law_k", 6)]) rfl sc_law.nd (pi_range1 (by rfl) T.z_range (pa_cons (pe_fn O__law_take (hr.mono (by omega)) (by rfl) (pa_cons (pv 1) (pa_cons (pe_int) (pa_nil)))) (pa_nil))) (blkOk_by (own := [("_law_k", 6)]) (N := ["_law_script", "_law_pen", "_law_turn", "_law_names_here", "_law_kinds_by", "_law_name", "_law_k", "_law_notions", "_law_wide", "_law_floor_here", "_law_some", "_law_seen", "_law_again", "_law_found", "_law_less"]) (sc := defScope s_law) (by decide +kernel)) (fun _ _ _ _ _ => pg_nameL (i := 6) sc_law.nd rfl rfl) (fun _ _ _ _ _ => pts_nil) (fun _ _ _ _ _ => pe_ix (ixG K rfl (u65 hr.toRoom)) (pe_lst (pa_cons (pe_str) (pa_cons (pe_str) (pa_nil)))) (pe_fn O__law_take (hr.mono (by omega)) (by rfl) (pa_cons (pv 1) (pa_cons (pe_int) (pa_nil)))) (fun _ _ => rfl))) (pe_lst (pa_cons (pe_str) (pa_nil)))) rfl)))
 (pss_cons (ps_set (i := 7) sc_law.nd rfl (Or.inl rfl) (pe_dnewK))
 (pss_cons (ps_set (i := 8) sc_law.nd rfl (Or.inl rfl) (pe_ix (ixG K rfl (u65 hr.toRoom)) (pe_lst (pa_cons (pe_int) (pa_cons (pe_int) (pa_cons (pe_int) (pa_nil))))) (pe_fn O__law_take (hr.mono (by omega)) (by rfl) (pa_cons (pv 1) (pa_cons (pe_int) (pa_nil)))) (fun _ _ => rfl)))
 (pss_cons (ps_for PassesOwn.never rfl (piE K rfl (by rfl) T.z_enumerate (pa_cons (pe_slice (slG K rfl) (pv 3) po_none (po_some (pe_un un_neg (pe_int)))) pa_nil)) (pgT K rfl 2 rfl (pgs_cons (pg_nameL (i := 6) sc_law.nd rfl rfl) (pgs_cons (pg_nameL (i := 5) sc_law.nd rfl rfl) (pgs_nil))))
 (pss_cons (ps_set (i := 9) sc_law.nd rfl (Or.inl rfl) (pe_ifExp (pt_cmpR (eqG K rfl hr.units) (pe_fn O__law_take (hr.mono (by omega)) (by rfl) (pa_cons (pv 1) (pa_cons (pe_int) (pa_nil)))) (pe_int) (nomark _)) (pe_callB (call_min2 rfl) (by rfl) T.z_min boot_min (pa_cons (pe_int) (pa_cons (pv 6) (pa_nil)))) (pe_fn O__law_take (hr.mono (by omega)) (by rfl) (pa_cons (pv 1) (pa_cons (pv 8) (pa_nil))))))
 (pss_cons (ps_set (i := 10) sc_law.nd rfl (Or.inl rfl) (pe_ifExp (pt_cmpR (eqG K rfl hr.units) (pe_fn O__law_take (hr.mono (by omega)) (by rfl) (pa_cons (pv 1) (pa_cons (pe_int) (pa_nil)))) (pe_int) (nomark _)) (pv 3) (pe_slice (slG K rfl) (pv 3) po_none (po_some (pe_op (addG K rfl) (pv 6) (pe_int))))))
 (pss_one (ps_dput (lt_u1 (u65 hr.toRoom)) (pv 7) (pv 5) (pe_fn O__law_made (hr.mono (by omega)) (by rfl) (pa_cons (pv 1) (pa_cons (pv 5) (pa_cons (pv 9) (pa_cons (pv 10) (pa_cons (pv 4) (pa_nil))))))) rfl)))))
 (pss_cons (ps_set (i := 11) sc_law.nd rfl (Or.inl rfl) (pe_callB (reprT K rfl hr.gd (u65 hr.toRoom)) (by rfl) T.z_repr boot_repr (pa_cons (pv 7) (pa_nil))))
 (pss_cons (ps_for PassesOwn.never rfl (pi_range1 (by rfl) T.z_range (pa_cons (pe_int) (pa_nil))) (pg_nameL (i := 12) sc_law.nd rfl rfl)
 (pss_cons (ps_set (i := 13) sc_law.nd rfl (Or.inl rfl) (pe_fn O_firm (hr.mono (by omega)) (by rfl) (pa_cons (pv 7) (pa_nil))))
 (pss_cons (ps_if (PW.pt (pw_or (pt_not (pt_val (pe_fn O__law_same (hr.mono (by omega)) (by rfl) (pa_cons (pv 13) (pa_cons (pe_fn O__law_due (hr.mono (by omega)) (by rfl) (pa_cons (pv 7) (pa_nil))) (pa_nil)))))) (pw_or1 (pt_cmpR (neG K rfl hr.units) (pe_callB (reprT K rfl hr.gd (u65 hr.toRoom)) (by rfl) T.z_repr boot_repr (pa_cons (pv 7) (pa_nil))) (pv 11) (nomark _)))))
 (pss_one (ps_ret (pe_bl)))
 (pss_nil))
 (pss_one (ps_expr (appK K rfl (pv 13) (pe_str)))))))
 (pss_cons (ps_set (i := 14) sc_law.nd rfl (Or.inl rfl) (pe_callTy (dictG K rfl rfl) (by rfl) T.z_dict boot_dict (pa_cons (pv 7) (pa_nil))))
 (pss_cons (ps_expr (pe_dpop1 (pv 14) (pe_ix (ixG K rfl (u65 hr.toRoom)) (pv 3) (pe_int) (fun _ _ => rfl)) ⟨by rfl, by rfl, by rfl, by rfl⟩))
 (pss_one (ps_if (pt_cmpR (neG K rfl hr.units) (pe_fn O_firm (hr.mono (by omega)) (by rfl) (pa_cons (pv 14) (pa_nil))) (pe_fn O__law_due (hr.mono (by omega)) (by rfl) (pa_cons (pv 14) (pa_nil))) (nomark _))
 (pss_one (ps_ret (pe_bl)))
 (pss_nil))))))))))))))
 (pss_one (ps_ret (pe_cmpR (eqG K rfl hr.units) (pe_fn O_firm (hr.mono (by omega)) (by rfl) (pa_cons (pe_dnewK) (pa_nil))) (pe_lst (pa_nil)) (nomark _)))))),
 fun p c => ⟨_, (simS_cut (simS_for (simI_range1 (sim_int _)) (simG_name 2 (nm rfl) (np rfl))
 (simS_seq (simS_set 3 (nm rfl) (np rfl) (sim_callP (by simp) rfl (simA_cons (sim_op opA_add (sim_int _) (sim_callP (by simp) rfl (simA_cons (sim_int _) (simA_nil)))) (simA_nil))))
 (simS_phase 4 (nm rfl) (np rfl) (nb rfl) (sim_dnew) (simS_for (simI_list (sim_var 3 (nm rfl))) (simG_name 5 (nm rfl) (np rfl))
 (simS_setK 4 (ym rfl) (sim_op opA_add (sim_lc (simI_range1 (sim_callP (by simp) rfl (simA_cons (sim_int _) (simA_nil)))) (simG_name 6 (nm rfl) (np rfl)) (simT_yes) (opA_ix (sim_lst (by decide) (simA_cons (sim_str _) (simA_cons (sim_str _) (simA_nil)))) (sim_callP (by simp) rfl (simA_cons (sim_int _) (simA_nil)))) (inv' rfl) (nmv rfl) (npv rfl)) (sim_lst (by decide) (simA_cons (sim_str _) (simA_nil)))) (sim_var 5 (nm rfl))))
 (simS_phase2 7 (nm rfl) (np rfl) (nb rfl) (sim_dnew) (simS_seq (simS_set 8 (nm rfl) (np rfl) (opA_ix (sim_lst (by decide) (simA_cons (sim_int _) (simA_cons (sim_int _) (simA_cons (sim_int _) (simA_nil))))) (sim_callP (by simp) rfl (simA_cons (sim_int _) (simA_nil)))))
 (simS_for (simI_enum (sim_sl (sim_var 3 (nm rfl)) simO_none (simO_some (sim_neg (sim_int _))))) (simG_tup (simGs_cons (simG_name 6 (nm rfl) (np rfl)) (simGs_cons (simG_name 5 (nm rfl) (np rfl)) (simGs_nil))))
 (simS_cut (simS_set 9 (nm rfl) (np rfl) (sim_if (simT_test (sim_op opA_eq (sim_callP (by simp) rfl (simA_cons (sim_int _) (simA_nil))) (sim_int _))) (Sim.toE (sim_cb caA_min (simA_cons (sim_int _) (simA_cons (sim_var 6 (nm rfl)) (simA_nil))))) (Sim.toE (sim_callP (by simp) rfl (simA_cons (sim_var 8 (nm rfl)) (simA_nil))))))
 (simS_cut (simS_set 10 (nm rfl) (np rfl) (sim_if (simT_test (sim_op opA_eq (sim_callP (by simp) rfl (simA_cons (sim_int _) (simA_nil))) (sim_int _))) (Sim.toE (sim_var 3 (nm rfl))) (Sim.toE (sim_sl (sim_var 3 (nm rfl)) simO_none (simO_some (sim_op opA_add (sim_var 6 (nm rfl)) (sim_int _)))))))
 (simS_setK 7 (ym rfl) (sim_callP (by simp) rfl (simA_cons (sim_var 5 (nm rfl)) (simA_cons (sim_var 9 (nm rfl)) (simA_cons (sim_var 10 (nm rfl)) (simA_cons (sim_var 4 (nm rfl)) (simA_nil)))))) (sim_var 5 (nm rfl)))))))
 (simS_seq (simS_set 11 (nm rfl) (np rfl) (sim_cb caA_reprT (simA_cons (sim_var 7 (nm rfl)) (simA_nil))))
 (simS_cut (simS_for (simI_range1 (sim_int _)) (simG_name 12 (nm rfl) (np rfl))
 (simS_seq (simS_setM 13 (ym rfl) (nb rfl) (sim_call (simA_cons (sim_var 7 (nm rfl)) (simA_nil))))
 (simS_seq (simS_if (simT_or (simT_not (simT_B (sim_callO (simO'_own (ym rfl) (simA_cons (sim_call (simA_cons (sim_var 7 (nm rfl)) (simA_nil))) (simA_nil)))))) (simT_test (sim_op opA_ne (sim_cb caA_reprT (simA_cons (sim_var 7 (nm rfl)) (simA_nil))) (sim_var 11 (nm rfl)))))
 (simS_ret (Sim.toE (sim_bl _)))
 (simS_next))
 (simS_drop (sim_mt 13 (ym rfl) mtA_app (simA_cons (sim_str _) simA_nil))))))
 (simS_phase 14 (nm rfl) (np rfl) (nb rfl) (sim_cb caA_dict (simA_cons (sim_var 7 (nm rfl)) (simA_nil))) (simS_drop (sim_dpop 14 (ym rfl) (opA_ix (sim_var 3 (nm rfl)) (sim_int _))))
 (simS_if (simT_test (sim_op opA_ne (sim_call (simA_cons (sim_var 14 (nm rfl)) (simA_nil))) (sim_call (simA_cons (sim_var 14 (nm rfl)) (simA_nil)))))
 (simS_ret (Sim.toE (sim_bl _)))
 (simS_next)))))))))
 (simS_ret (Sim.toE (sim_op opA_eq (sim_call (simA_cons (sim_dnew) (simA_nil))) (sim_lst (by decide) (simA_nil)))))), ?_⟩⟩
  have hlim : 1000000 ≤ penLim := Nat.le_trans (show 1000000 ≤ 2 ^ 100 by decide) (Nat.pow_le_pow_right (by decide) (by decide))
  refine ⟨fun s => ∃ (n : Nat) (a b c d e g h i j k l x y : Option D), s = { δ := [none, none, a, b, c, d, e, g, h, i, j, k, l, x, y], n := n }, ?_, ?_⟩
  · refine ⟨⟨by decide, by decide⟩, forD_ind (fun t s => ∃ (n : Nat) (a b c d e g h i j k l x y : Option D), s = { δ := [none, none, a, b, c, d, e, g, h, i, j, k, l, x, y], n := n } ∧ n ≤ t * 2000 ∧ t ≤ 6) ⟨0, none, none, none, none, none, none, none, none, none, none, none, none, none, rfl, by omega, by omega⟩ ?_ (fun _ ⟨n, a, b, c, d, e, g, h, i, j, k, l, x, y, hh, _⟩ => ⟨n, a, b, c, d, e, g, h, i, j, k, l, x, y, hh⟩)⟩
    rintro t d0 s N hd ⟨n, a, b, c, d, e, g, h, i, j, k, l, x, y, rfl, hn, _⟩ hN
    obtain ⟨ht, rfl⟩ := rgD_get hd
    have ht : t < 6 := by simpa using ht
    refine tk_ok (by (first | omega | (dsimp only; omega) | (dsimp only at *; omega))) (by decide) (by decide) fun r r0 r1 => ?_
    obtain ⟨mm, hmm⟩ : ∃ mm : Nat, 4 + r = (mm : Int) := ⟨(4 + r).toNat, by omega⟩
    refine ⟨mm, by rw [← hmm], by omega, by (first | omega | (dsimp only; omega) | (dsimp only at *; omega)), fun names n1 hlen hnm hn1 => ?_⟩
    have hn1 : n1 ≤ n + 1 + 100 := hn1
    have hl4 : 4 ≤ names.length := by omega
    have hl8 : names.length ≤ 8 := by omega
    refine ⟨rfl, by show 4 < 15; decide, ?_⟩
    dsimp only
    refine forD_ind (fun u s => ∃ (n2 : Nat) (d e : Option D) (kb : List (D × D)), s = { δ := [none, none, some (.int (0 + (t : Nat))), some (.list names), some (.dict kb), d, e, g, h, i, j, k, l, x, y], n := n2 } ∧ KbI kb u ∧ (∀ v, v < u → ∀ z : Str, names[v]? = some (.str z) → ∃ e, findD kb (.str z) = some e) ∧ n2 ≤ n1 + u * 5 ∧ u ≤ names.length) ⟨n1, d, e, [], rfl, ⟨(fun kv m => nomatch m), (fun k d hh => nomatch hh), Nat.le_refl _⟩, (fun v hv => absurd hv (Nat.not_lt_zero _)), by omega, by omega⟩ ?_ ?_
    · rintro u d1 s N2 hd1 ⟨n2, d, e, kb, rfl, hkb, hkg, hn2, hu⟩ hN2
      have hul : u < names.length := (List.getElem?_eq_some_iff.mp hd1).1
      obtain ⟨z, rfl, hz⟩ := hnm d1 (List.mem_of_getElem? hd1)
      refine tk_ok (by (first | omega | (dsimp only; omega) | (dsimp only at *; omega))) (by decide) (by decide) fun q q0 q1 => ?_
      refine ⟨⟨by (first | omega | (dsimp only; omega) | (dsimp only at *; omega)), by (first | omega | (dsimp only; omega) | (dsimp only at *; omega))⟩, by rw [rgD_len]; exact small_line (by (first | omega | (dsimp only; omega) | (dsimp only at *; omega))), lc1 (fun v acc s => ∃ (n3 : Nat) (ks : List Str), acc = ks.map PyData.str ∧ s = { δ := [none, none, some (.int (0 + (t : Nat))), some (.list names), some (.dict kb), some (.str z), none, g, h, i, j, k, l, x, y], n := n3 } ∧ ks.length = v ∧ (∀ k ∈ ks, isKind k) ∧ n3 ≤ n2 + 1 + v ∧ v ≤ 2) ⟨_, [], rfl, rfl, rfl, (fun k m => nomatch m), by (first | omega | (dsimp only; omega) | (dsimp only at *; omega)), by omega⟩ ?_ ?_⟩
      · rintro v d2 acc s N3 hi ⟨n3, ks, rfl, rfl, hkl, hkk, hn3, hv⟩ hN3
        obtain ⟨hv2, rfl⟩ := rgD_get hi
        have hv2 : v < 2 := by omega
        refine tk_ok (by (first | omega | (dsimp only; omega) | (dsimp only at *; omega))) (by decide) (by decide) fun p p0 p1 => ix_any p0 p1 fun d3 hd3 => ?_
        have : ∃ k0 : Str, d3 = .str k0 ∧ isKind k0 := by
          simp only [List.mem_cons, List.not_mem_nil, or_false] at hd3
          rcases hd3 with rfl | rfl
          · exact ⟨_, rfl, .inl rfl⟩
          · exact ⟨_, rfl, .inr rfl⟩
        obtain ⟨k0, rfl, hk0⟩ := this
        refine hN3 _ _ ⟨n3 + 1, ks ++ [k0], by rw [List.map_append]; rfl, rfl, by rw [List.length_append, hkl]; rfl, fun k m => ?_, by omega, by omega⟩
        rcases List.mem_append.mp m with m | m
        · exact hkk k m
        · rw [List.mem_singleton.mp m]; exact hk0
      · rintro acc s ⟨n3, ks, rfl, rfl, hkl, hkk, hn3, hv⟩
        rw [rgD_len] at hn3 hkl
        have hks : KsOk (.list (ks.map PyData.str ++ [.str (Str.ofString "number")])) := by
          refine ⟨ks ++ [Str.ofString "number"], by rw [List.map_append]; rfl, fun k m => ?_, by rw [List.length_append]; show 1 ≤ _ + 1; omega, by rw [List.length_append]; show _ + 1 ≤ 3; omega⟩
          rcases List.mem_append.mp m with m | m
          · exact hkk k m
          · exact .inr (List.mem_singleton.mp m)
        obtain ⟨b1, b2, b3⟩ := hkb.put (n := z) hks
        have hkbl := hkb.len
        refine ⟨by rw [List.length_map]; exact small_line (show _ + 1 ≤ 1000 by omega), ⟨_, rfl⟩, rfl, small_line (by omega), hN2 _ ⟨n3, _, _, _, rfl, b1, fun v hv z' hz' => ?_, by omega, by omega⟩⟩
        by_cases e0 : v = u
        · subst e0
          rw [hd1] at hz'
          cases hz'
          exact b2
        · exact b3 z' (hkg v (by omega) z' hz')
    rintro s ⟨n2, d, e, kb, rfl, hkb, hkg, hn2, _⟩
    have hkget : ∀ z : Str, PyData.str z ∈ names → ∃ e, findD kb (.str z) = some e := fun z m => by
      obtain ⟨v, hv⟩ := List.getElem?_of_mem m
      exact hkg v (List.getElem?_eq_some_iff.mp hv).1 z hv
    have hn2 : n2 ≤ n1 + 8 * 5 := Nat.le_trans hn2 (by omega)
    refine ⟨rfl, by show 7 < 15; decide, ?_⟩
    dsimp only
    refine tk_ok (by (first | omega | (dsimp only; omega) | (dsimp only at *; omega))) (by decide) (by decide) fun q q0 q1 => ix_any q0 q1 fun d1 hd1 => ?_
    obtain ⟨wd, rfl, hw1, hw10⟩ : ∃ wd : Int, d1 = .int wd ∧ 1 ≤ wd ∧ wd ≤ 10 := by
      simp only [List.mem_cons, List.not_mem_nil, or_false] at hd1
      rcases hd1 with rfl | rfl | rfl <;> exact ⟨_, rfl, by decide, by decide⟩
    dsimp only
    have hcut := cut_last names
    have hcl : (names.take (names.length - 1)).length = names.length - 1 := by rw [List.length_take]; omega
    refine forD_ind (fun u s => ∃ (n3 : Nat) (d e i j : Option D) (kvs : List (D × D)), s = { δ := [none, none, some (.int (0 + (t : Nat))), some (.list names), some (.dict kb), d, e, some (.dict kvs), some (.int wd), i, j, k, l, x, y], n := n3 } ∧ GoodI kvs u ∧ (0 < u → ∀ z : Str, names[0]? = some (.str z) → isIn kvs z) ∧ n3 ≤ n2 + 1 + u * 110 ∧ u ≤ 8) ⟨n2 + 1, d, e, i, j, [], rfl, ⟨List.nodup_nil, (fun kv m => nomatch m), Nat.le_refl _⟩, (fun hu => absurd hu (Nat.lt_irrefl _)), by omega, by omega⟩ ?_ ?_
    · rintro u d1 s N2 hd1 ⟨n3, d, e, i, j, kvs, rfl, hkv, hk0, hn3, hu⟩ hN2
      obtain ⟨y1, z1, h3, h4, rfl⟩ := prD_get hd1
      obtain ⟨_, rfl⟩ := rgD_get h3
      rw [hcut] at h4
      have hul : u < names.length - 1 := by have := (List.getElem?_eq_some_iff.mp h4).1; omega
      have h5 : names[u]? = some z1 := by
        rw [List.getElem?_take] at h4
        rw [if_pos hul] at h4
        exact h4
      obtain ⟨z, rfl, hz⟩ := hnm z1 (List.mem_of_getElem? h5)
      refine ⟨rfl, ?_⟩
      dsimp only [sCons, sName, sNil]
      refine ⟨fun s => ∃ (fl : Int) (n4 : Nat), s = { δ := [none, none, some (.int (0 + (t : Nat))), some (.list names), some (.dict kb), some (.str z), some (.int (0 + (u : Nat))), some (.dict kvs), some (.int wd), some (.int fl), j, k, l, x, y], n := n4 } ∧ 0 ≤ fl ∧ fl ≤ 9 ∧ n4 ≤ n3 + 2, ?_, ?_⟩
      · refine tk_ok (by (first | omega | (dsimp only; omega) | (dsimp only at *; omega))) (by decide) (by decide) fun v v0 v1 => ite_either (fun hv => ?_) (fun hv => ?_)
        · exact ⟨if (0 + (u : Int)) < 9 then 0 + (u : Int) else 9, n3 + 1, rfl, by split <;> omega, by split <;> omega, by omega⟩
        · refine tk_ok (by (first | omega | (dsimp only; omega) | (dsimp only at *; omega))) (by (first | omega | (dsimp only; omega) | (dsimp only at *; omega))) (by (first | omega | (dsimp only; omega) | (dsimp only at *; omega))) fun v v0 v1 => ?_
          exact ⟨v, n3 + 1 + 1, rfl, v0, by omega, by omega⟩
      rintro s ⟨fl, n4, rfl, hf0, hf9, hn4⟩
      refine ⟨fun s => ∃ (some' : List D) (n5 : Nat), s = { δ := [none, none, some (.int (0 + (t : Nat))), some (.list names), some (.dict kb), some (.str z), some (.int (0 + (u : Nat))), some (.dict kvs), some (.int wd), some (.int fl), some (.list some'), k, l, x, y], n := n5 } ∧ some' ≠ [] ∧ some'.length ≤ 20 ∧ nmL some' ∧ n5 ≤ n4 + 1, ?_, ?_⟩
      · refine tk_ok (by (first | omega | (dsimp only; omega) | (dsimp only at *; omega))) (by decide) (by decide) fun v v0 v1 => ite_either (fun hv => ?_) (fun hv => ?_)
        · exact ⟨names, n4 + 1, rfl, fun e => by rw [e] at hl4; exact absurd hl4 (by decide), by omega, hnm, by omega⟩
        · have e1 : cutD names none (some ((0 : Int) + (u : Int) + 1)) = names.take (u + 1) := by
            have := cutD_to names (u + 1)
            rw [← this]
            congr 2
            omega
          refine ⟨names.take (u + 1), n4 + 1, by rw [← e1]; rfl, fun e => ?_, by rw [List.length_take]; omega, fun x m => hnm x (List.mem_of_mem_take m), by omega⟩
          have := congrArg List.length e
          rw [List.length_take, List.length_nil] at this
          omega
      rintro s ⟨some', n5, rfl, hs1, hs2, hs3, hn5⟩
      refine ⟨z, fl, some', kb, rfl, ⟨hf0, hf9⟩, hz, hs1, hs2, hs3, hkb.all, hkget z (List.mem_of_getElem? h5), by (first | omega | (dsimp only; omega) | (dsimp only at *; omega)), fun dn n6 hdn hn6 => ?_⟩
      have hn6 : n6 ≤ n5 + 100 := hn6
      obtain ⟨b1, b2, b3⟩ := hkv.put hdn
      have hkvl := hkv.len
      refine ⟨⟨_, rfl⟩, rfl, small_line (by omega), hN2 _ ⟨n6, _, _, _, _, _, rfl, b1, fun _ z' hz' => ?_, by omega, by omega⟩⟩
      by_cases e0 : u = 0
      · subst e0
        rw [h5] at hz'
        cases hz'
        exact b2
      · exact b3 z' (hk0 (by omega) z' hz')
    rintro s ⟨n3, d, e, i, j, kvs, rfl, hkv, hk0, hn3, hu⟩
    rw [enum_len, hcut, hcl] at hkv hk0 hn3
    have hn3 : n3 ≤ n2 + 1 + 7 * 110 := by omega
    have hkv : GoodI kvs 7 := ⟨hkv.nd, hkv.nt, by have := hkv.len; omega⟩
    have hg := hkv.good (by decide)
    have rp : ∀ {Q : D → Prop}, Q (.str (PyData.dict kvs).shown) → reprTD [.dict kvs] Q := fun q => hkv.repr (by decide) q
    dsimp only
    refine seqSet (d := .str (PyData.dict kvs).shown) (fun Q q => rp (Q := fun d => Q d _) q) ?_
    refine ⟨fun s => ∃ (l x : Option D), s = { δ := [none, none, some (.int (0 + (t : Nat))), some (.list names), some (.dict kb), d, e, some (.dict kvs), some (.int wd), i, j, some (.str (PyData.dict kvs).shown), l, x, y], n := n3 }, ?_, ?_⟩
    · refine ⟨⟨by decide, by decide⟩, forD_ind (fun u s => ∃ (l x : Option D), s = { δ := [none, none, some (.int (0 + (t : Nat))), some (.list names), some (.dict kb), d, e, some (.dict kvs), some (.int wd), i, j, some (.str (PyData.dict kvs).shown), l, x, y], n := n3 }) ⟨l, x, rfl⟩ ?_ (fun s h => h)⟩
      rintro u d1 s N2 _ ⟨l, x, rfl⟩ hN2
      refine ⟨kvs, rfl, hg, fun L hL => ⟨rfl, ?_⟩⟩
      dsimp only
      obtain ⟨hL64, hLn⟩ := hL.len hg
      refine seqIf (b := false || false) (tst_or (x := false) (tst_not (x := true) (tst_ex (fun Q q => ⟨⟨_, rfl⟩, kvs, rfl, hg, fun M hM => ⟨by rw [firm_due hg hL hM], dat_strs (by omega), rfl, q⟩⟩))) (fun _ => tst_ex (fun Q q => rp (Q := fun d => neD d (.str (PyData.dict kvs).shown) fun z => Q z _) ?_))) (fun h => nomatch h) (fun _ => ?_)
      · show Q (.bool (!decide ((PyData.dict kvs).shown = (PyData.dict kvs).shown))) _
        rw [decide_eq_true rfl]
        exact q
      · exact ⟨⟨_, rfl⟩, by rw [List.length_map]; exact small_line (by omega), hN2 _ ⟨_, _, rfl⟩⟩
    rintro s ⟨l, x, rfl⟩
    obtain ⟨z0, hz0⟩ : ∃ z : Str, names[0]? = some (.str z) := by
      have h0 : names[0]? = some names[0] := List.getElem?_eq_getElem (by omega)
      obtain ⟨z, e, _⟩ := hnm names[0] (List.getElem_mem _)
      exact ⟨z, by rw [h0, e]⟩
    have hin0 := hk0 (by omega) z0 hz0
    have hgd : GoodI (dropD kvs (.str z0)) 7 := hkv.drop
    have hgg := hgd.good (by decide)
    refine ⟨rfl, by show 14 < 15; decide, ⟨_, rfl⟩, ix_ok 0 rfl hz0 ⟨rfl, _, (hg.get hin0).1, ?_⟩⟩
    dsimp only
    refine ifS (b := false) (tst_ex (fun Q q => ⟨_, rfl, hgg, fun L hL => ⟨_, rfl, hgg, fun M hM => ?_⟩⟩)) (fun h => nomatch h) (fun _ => ?_)
    · obtain ⟨hL64, hLn⟩ := hL.len hgg
      rw [← firm_due hgg hL hM]
      refine ne_strs (Q := fun z => Q z _) (fun x m => name_wOk (hLn x m)) (fun x m => name_wOk (hLn x m)) ?_
      rw [decide_eq_true rfl]
      exact q
    · exact hN _ ⟨n3, _, _, _, _, _, _, _, _, _, _, _, _, _, rfl, by omega, by omega⟩
  · rintro _ ⟨n, a, b, c, d, e, g, h, i, j, k, l, x, y, rfl⟩
    have hg0 : GoodI [] 0 := ⟨List.nodup_nil, (fun kv m => nomatch m), Nat.le_refl _⟩
    refine ⟨[], rfl, hg0.good (by decide), fun L hL => ?_⟩
    have : L = [] := by
      cases L with
      | nil => rfl
      | cons x r => exact nomatch ((hL.mem x).mp (List.mem_cons_self ..)).1
    subst this
    exact ⟨rfl, rfl, rfl⟩
end
theorem law_end {l : PySem.W.OpenLaw} {w : World} {K : PySem.W.Frag} {mg : Str → Option Value} {fa : Addr} (T : Tx w K mg) (hmg : mg "law" = some (.ref fa)) :
    ∃ fd : FuncData, (∀ (s : Shared) (v : Value), BindsTo s fd ⟨[v], []⟩ [("_law_script", v)]) ∧ ∀ base : Heap, K.In base → base.Ns mainGlobals mg → FnG l.prog w K mg base 120 fa fd ["_law_script"] (spLaw K) := by
  obtain ⟨f, fd, F, b, g⟩ := T.d_law
  rw [hmg] at g
  cases g
  have F' := F
  obtain ⟨oc, od, kV, doc, pm, an, cdv, ct, osl, rfl, lk, hcd⟩ := F.ex
  exact ⟨_, fun s v => .of_eq rfl, fun base _ _ => ok_law T F'⟩

theorem all_mk {w : World} {K : PySem.W.Frag} {h : Heap} {mg : Str → Option Value} {f1 f2 f3 f4 f5 f6 f7 f8 f9 f10 f11 f12 f13 f14 f15 f16 f17 f18 f19 f20 f21 : Addr} {tf0 : Addr} {te0 : Array DictEntry} {tn0 : Nat} {tg0 : Tok} (X : K.In h) (G : h.Ns mainGlobals mg)
    {od1 an1 od2 an2 od3 an3 od4 an4 od5 an5 od6 an6 od7 an7 od8 an8 od9 an9 od10 an10 od11 an11 od12 an12 od13 an13 od14 an14 od15 an15 od16 an16 od17 an17 od18 an18 od19 an19 od20 an20 od21 an21 : Option Addr} {sl1 sl2 sl3 sl4 sl5 sl6 sl7 sl8 sl9 sl10 sl11 sl12 sl13 sl14 sl15 sl16 sl17 sl18 sl19 sl20 sl21 : Array (Option Value)} {oc1 kV1 dc1 pm1 cd1 ct1 oc2 kV2 dc2 pm2 cd2 ct2 oc3 kV3 dc3 pm3 cd3 ct3 oc4 kV4 dc4 pm4 cd4 ct4 oc5 kV5 dc5 pm5 cd5 ct5 oc6 kV6 dc6 pm6 cd6 ct6 oc7 kV7 dc7 pm7 cd7 ct7 oc8 kV8 dc8 pm8 cd8 ct8 oc9 kV9 dc9 pm9 cd9 ct9 oc10 kV10 dc10 pm10 cd10 ct10 oc11 kV11 dc11 pm11 cd11 ct11 oc12 kV12 dc12 pm12 cd12 ct12 oc13 kV13 dc13 pm13 cd13 ct13 oc14 kV14 dc14 pm14 cd14 ct14 oc15 kV15 dc15 pm15 cd15 ct15 oc16 kV16 dc16 pm16 cd16 ct16 oc17 kV17 dc17 pm17 cd17 ct17 oc18 kV18 dc18 pm18 cd18 ct18 oc19 kV19 dc19 pm19 cd19 ct19 oc20 kV20 dc20 pm20 cd20 ct20 oc21 kV21 dc21 pm21 cd21 ct21 : Value}
    (a1 : PySem.W.nsIn K mainGlobals "sort_of" = some (some (.ref f1))) (l1 : K.lookup f1 = some ⟨oc1, od1, .func (PySem.W.fnOf "sort_of" "sort_of" (defArgs s_sort_of) (defBody s_sort_of) (defScope s_sort_of) .none kV1 dc1 pm1 an1 cd1 ct1), sl1⟩) (c1 : PySem.W.codeIn K cd1 "sort_of" = true) (k1 : PySem.W.keepIn K (.ref f1) = true)
    (a2 : PySem.W.nsIn K mainGlobals "kinds_of" = some (some (.ref f2))) (l2 : K.lookup f2 = some ⟨oc2, od2, .func (PySem.W.fnOf "kinds_of" "kinds_of" (defArgs s_kinds_of) (defBody s_kinds_of) (defScope s_kinds_of) .none kV2 dc2 pm2 an2 cd2 ct2), sl2⟩) (c2 : PySem.W.codeIn K cd2 "kinds_of" = true) (k2 : PySem.W.keepIn K (.ref f2) = true)
    (a3 : PySem.W.nsIn K mainGlobals "parts_of" = some (some (.ref f3))) (l3 : K.lookup f3 = some ⟨oc3, od3, .func (PySem.W.fnOf "parts_of" "parts_of" (defArgs s_parts_of) (defBody s_parts_of) (defScope s_parts_of) .none kV3 dc3 pm3 an3 cd3 ct3), sl3⟩) (c3 : PySem.W.codeIn K cd3 "parts_of" = true) (k3 : PySem.W.keepIn K (.ref f3) = true)
    (a4 : PySem.W.nsIn K mainGlobals "gather_notions" = some (some (.ref f4))) (l4 : K.lookup f4 = some ⟨oc4, od4, .func (PySem.W.fnOf "gather_notions" "gather_notions" (defArgs s_gather_notions) (defBody s_gather_notions) (defScope s_gather_notions) .none kV4 dc4 pm4 an4 cd4 ct4), sl4⟩) (c4 : PySem.W.codeIn K cd4 "gather_notions" = true) (k4 : PySem.W.keepIn K (.ref f4) = true)
    (a5 : PySem.W.nsIn K mainGlobals "notion_terms" = some (some (.ref f5))) (l5 : K.lookup f5 = some ⟨oc5, od5, .func (PySem.W.fnOf "notion_terms" "notion_terms" (defArgs s_notion_terms) (defBody s_notion_terms) (defScope s_notion_terms) .none kV5 dc5 pm5 an5 cd5 ct5), sl5⟩) (c5 : PySem.W.codeIn K cd5 "notion_terms" = true) (k5 : PySem.W.keepIn K (.ref f5) = true)
    (a6 : PySem.W.nsIn K mainGlobals "kind_of" = some (some (.ref f6))) (l6 : K.lookup f6 = some ⟨oc6, od6, .func (PySem.W.fnOf "kind_of" "kind_of" (defArgs s_kind_of) (defBody s_kind_of) (defScope s_kind_of) .none kV6 dc6 pm6 an6 cd6 ct6), sl6⟩) (c6 : PySem.W.codeIn K cd6 "kind_of" = true) (k6 : PySem.W.keepIn K (.ref f6) = true)
    (a7 : PySem.W.nsIn K mainGlobals "takes" = some (some (.ref f7))) (l7 : K.lookup f7 = some ⟨oc7, od7, .func (PySem.W.fnOf "takes" "takes" (defArgs s_takes) (defBody s_takes) (defScope s_takes) .none kV7 dc7 pm7 an7 cd7 ct7), sl7⟩) (c7 : PySem.W.codeIn K cd7 "takes" = true) (k7 : PySem.W.keepIn K (.ref f7) = true)
    (a8 : PySem.W.nsIn K mainGlobals "own_term" = some (some (.ref f8))) (l8 : K.lookup f8 = some ⟨oc8, od8, .func (PySem.W.fnOf "own_term" "own_term" (defArgs s_own_term) (defBody s_own_term) (defScope s_own_term) .none kV8 dc8 pm8 an8 cd8 ct8), sl8⟩) (c8 : PySem.W.codeIn K cd8 "own_term" = true) (k8 : PySem.W.keepIn K (.ref f8) = true)
    (a9 : PySem.W.nsIn K mainGlobals "stands" = some (some (.ref f9))) (l9 : K.lookup f9 = some ⟨oc9, od9, .func (PySem.W.fnOf "stands" "stands" (defArgs s_stands) (defBody s_stands) (defScope s_stands) .none kV9 dc9 pm9 an9 cd9 ct9), sl9⟩) (c9 : PySem.W.codeIn K cd9 "stands" = true) (k9 : PySem.W.keepIn K (.ref f9) = true)
    (a10 : PySem.W.nsIn K mainGlobals "firm" = some (some (.ref f10))) (l10 : K.lookup f10 = some ⟨oc10, od10, .func (PySem.W.fnOf "firm" "firm" (defArgs s_firm) (defBody s_firm) (defScope s_firm) .none kV10 dc10 pm10 an10 cd10 ct10), sl10⟩) (c10 : PySem.W.codeIn K cd10 "firm" = true) (k10 : PySem.W.keepIn K (.ref f10) = true)
    (a11 : PySem.W.nsIn K mainGlobals "_law_spread" = some (some (.ref f11))) (l11 : K.lookup f11 = some ⟨oc11, od11, .func (PySem.W.fnOf "_law_spread" "_law_spread" (defArgs s__law_spread) (defBody s__law_spread) (defScope s__law_spread) .none kV11 dc11 pm11 an11 cd11 ct11), sl11⟩) (c11 : PySem.W.codeIn K cd11 "_law_spread" = true) (k11 : PySem.W.keepIn K (.ref f11) = true)
    (a12 : PySem.W.nsIn K mainGlobals "_law_open" = some (some (.ref f12))) (l12 : K.lookup f12 = some ⟨oc12, od12, .func (PySem.W.fnOf "_law_open" "_law_open" (defArgs s__law_open) (defBody s__law_open) (defScope s__law_open) .none kV12 dc12 pm12 an12 cd12 ct12), sl12⟩) (c12 : PySem.W.codeIn K cd12 "_law_open" = true) (k12 : PySem.W.keepIn K (.ref f12) = true)
    (a13 : PySem.W.nsIn K mainGlobals "_law_take" = some (some (.ref f13))) (l13 : K.lookup f13 = some ⟨oc13, od13, .func (PySem.W.fnOf "_law_take" "_law_take" (defArgs s__law_take) (defBody s__law_take) (defScope s__law_take) .none kV13 dc13 pm13 an13 cd13 ct13), sl13⟩) (c13 : PySem.W.codeIn K cd13 "_law_take" = true) (k13 : PySem.W.keepIn K (.ref f13) = true)
    (a14 : PySem.W.nsIn K mainGlobals "_law_same" = some (some (.ref f14))) (l14 : K.lookup f14 = some ⟨oc14, od14, .func (PySem.W.fnOf "_law_same" "_law_same" (defArgs s__law_same) (defBody s__law_same) (defScope s__law_same) .none kV14 dc14 pm14 an14 cd14 ct14), sl14⟩) (c14 : PySem.W.codeIn K cd14 "_law_same" = true) (k14 : PySem.W.keepIn K (.ref f14) = true)
    (a15 : PySem.W.nsIn K mainGlobals "_law_names" = some (some (.ref f15))) (l15 : K.lookup f15 = some ⟨oc15, od15, .func (PySem.W.fnOf "_law_names" "_law_names" (defArgs s__law_names) (defBody s__law_names) (defScope s__law_names) .none kV15 dc15 pm15 an15 cd15 ct15), sl15⟩) (c15 : PySem.W.codeIn K cd15 "_law_names" = true) (k15 : PySem.W.keepIn K (.ref f15) = true)
    (a16 : PySem.W.nsIn K mainGlobals "_law_free_names" = some (some (.ref f16))) (l16 : K.lookup f16 = some ⟨oc16, od16, .func (PySem.W.fnOf "_law_free_names" "_law_free_names" (defArgs s__law_free_names) (defBody s__law_free_names) (defScope s__law_free_names) .none kV16 dc16 pm16 an16 cd16 ct16), sl16⟩) (c16 : PySem.W.codeIn K cd16 "_law_free_names" = true) (k16 : PySem.W.keepIn K (.ref f16) = true)
    (a17 : PySem.W.nsIn K mainGlobals "_law_terms_in" = some (some (.ref f17))) (l17 : K.lookup f17 = some ⟨oc17, od17, .func (PySem.W.fnOf "_law_terms_in" "_law_terms_in" (defArgs s__law_terms_in) (defBody s__law_terms_in) (defScope s__law_terms_in) .none kV17 dc17 pm17 an17 cd17 ct17), sl17⟩) (c17 : PySem.W.codeIn K cd17 "_law_terms_in" = true) (k17 : PySem.W.keepIn K (.ref f17) = true)
    (a18 : PySem.W.nsIn K mainGlobals "_law_due" = some (some (.ref f18))) (l18 : K.lookup f18 = some ⟨oc18, od18, .func (PySem.W.fnOf "_law_due" "_law_due" (defArgs s__law_due) (defBody s__law_due) (defScope s__law_due) .none kV18 dc18 pm18 an18 cd18 ct18), sl18⟩) (c18 : PySem.W.codeIn K cd18 "_law_due" = true) (k18 : PySem.W.keepIn K (.ref f18) = true)
    (a19 : PySem.W.nsIn K mainGlobals "_law_use" = some (some (.ref f19))) (l19 : K.lookup f19 = some ⟨oc19, od19, .func (PySem.W.fnOf "_law_use" "_law_use" (defArgs s__law_use) (defBody s__law_use) (defScope s__law_use) .none kV19 dc19 pm19 an19 cd19 ct19), sl19⟩) (c19 : PySem.W.codeIn K cd19 "_law_use" = true) (k19 : PySem.W.keepIn K (.ref f19) = true)
    (a20 : PySem.W.nsIn K mainGlobals "_law_made" = some (some (.ref f20))) (l20 : K.lookup f20 = some ⟨oc20, od20, .func (PySem.W.fnOf "_law_made" "_law_made" (defArgs s__law_made) (defBody s__law_made) (defScope s__law_made) .none kV20 dc20 pm20 an20 cd20 ct20), sl20⟩) (c20 : PySem.W.codeIn K cd20 "_law_made" = true) (k20 : PySem.W.keepIn K (.ref f20) = true)
    (a21 : PySem.W.nsIn K mainGlobals "law" = some (some (.ref f21))) (l21 : K.lookup f21 = some ⟨oc21, od21, .func (PySem.W.fnOf "law" "law" (defArgs s_law) (defBody s_law) (defScope s_law) .none kV21 dc21 pm21 an21 cd21 ct21), sl21⟩) (c21 : PySem.W.codeIn K cd21 "law" = true) (k21 : PySem.W.keepIn K (.ref f21) = true)
    (z1 : PySem.W.nsIn K mainGlobals "bool" = some none)
    (z2 : PySem.W.nsIn K mainGlobals "dict" = some none)
    (z3 : PySem.W.nsIn K mainGlobals "enumerate" = some none)
    (z4 : PySem.W.nsIn K mainGlobals "int" = some none)
    (z5 : PySem.W.nsIn K mainGlobals "isinstance" = some none)
    (z6 : PySem.W.nsIn K mainGlobals "len" = some none)
    (z7 : PySem.W.nsIn K mainGlobals "list" = some none)
    (z8 : PySem.W.nsIn K mainGlobals "min" = some none)
    (z9 : PySem.W.nsIn K mainGlobals "range" = some none)
    (z10 : PySem.W.nsIn K mainGlobals "repr" = some none)
    (z11 : PySem.W.nsIn K mainGlobals "sorted" = some none)
    (z12 : PySem.W.nsIn K mainGlobals "str" = some none)
    (z13 : PySem.W.nsIn K mainGlobals "tuple" = some none)
    (z14 : PySem.W.nsIn K mainGlobals "zip" = some none)
    (tba0 : PySem.W.nsIn K mainGlobals "FORMS" = some (some (.ref tf0))) (tbl0 : K.lookup tf0 = some ⟨.type "dict", none, .dict te0 tn0, #[]⟩) (tbk0 : PySem.W.KeysLit w.params te0.toList) (tbo0 : (tf0 == sysModules) = false) (tbt0 : tabIn K tab_FORMS te0.toList = true)
    (kglb0 : PySem.W.nsIn K mainGlobals "FLOORS" = some (some (.int 10 tg0)))
    : Tx w K mg := by
  exact ⟨
    ⟨f1, _, fun_mk (st := s_sort_of) l1 c1 k1, (fun_mk (st := s_sort_of) l1 c1 k1).binds (ps := ["word"]) (fun _ _ _ _ _ _ us hl => match us, hl with | [_], _ => rfl), PySem.W.mg_of X G a1⟩,
    ⟨f2, _, fun_mk (st := s_kinds_of) l2 c2 k2, (fun_mk (st := s_kinds_of) l2 c2 k2).binds (ps := ["word"]) (fun _ _ _ _ _ _ us hl => match us, hl with | [_], _ => rfl), PySem.W.mg_of X G a2⟩,
    ⟨f3, _, fun_mk (st := s_parts_of) l3 c3 k3, (fun_mk (st := s_parts_of) l3 c3 k3).binds (ps := ["thing"]) (fun _ _ _ _ _ _ us hl => match us, hl with | [_], _ => rfl), PySem.W.mg_of X G a3⟩,
    ⟨f4, _, fun_mk (st := s_gather_notions) l4 c4 k4, (fun_mk (st := s_gather_notions) l4 c4 k4).binds (ps := ["thing", "found"]) (fun _ _ _ _ _ _ us hl => match us, hl with | [_, _], _ => rfl), PySem.W.mg_of X G a4⟩,
    ⟨f5, _, fun_mk (st := s_notion_terms) l5 c5 k5, (fun_mk (st := s_notion_terms) l5 c5 k5).binds (ps := ["thing"]) (fun _ _ _ _ _ _ us hl => match us, hl with | [_], _ => rfl), PySem.W.mg_of X G a5⟩,
    ⟨f6, _, fun_mk (st := s_kind_of) l6 c6 k6, (fun_mk (st := s_kind_of) l6 c6 k6).binds (ps := ["place"]) (fun _ _ _ _ _ _ us hl => match us, hl with | [_], _ => rfl), PySem.W.mg_of X G a6⟩,
    ⟨f7, _, fun_mk (st := s_takes) l7 c7 k7, (fun_mk (st := s_takes) l7 c7 k7).binds (ps := ["notion", "places"]) (fun _ _ _ _ _ _ us hl => match us, hl with | [_, _], _ => rfl), PySem.W.mg_of X G a7⟩,
    ⟨f8, _, fun_mk (st := s_own_term) l8 c8 k8, (fun_mk (st := s_own_term) l8 c8 k8).binds (ps := ["notion"]) (fun _ _ _ _ _ _ us hl => match us, hl with | [_], _ => rfl), PySem.W.mg_of X G a8⟩,
    ⟨f9, _, fun_mk (st := s_stands) l9 c9 k9, (fun_mk (st := s_stands) l9 c9 k9).binds (ps := ["notion", "notions", "found"]) (fun _ _ _ _ _ _ us hl => match us, hl with | [_, _, _], _ => rfl), PySem.W.mg_of X G a9⟩,
    ⟨f10, _, fun_mk (st := s_firm) l10 c10 k10, (fun_mk (st := s_firm) l10 c10 k10).binds (ps := ["notions"]) (fun _ _ _ _ _ _ us hl => match us, hl with | [_], _ => rfl), PySem.W.mg_of X G a10⟩,
    ⟨f11, _, fun_mk (st := s__law_spread) l11 c11 k11, (fun_mk (st := s__law_spread) l11 c11 k11).binds (ps := ["_law_cell", "_law_at"]) (fun _ _ _ _ _ _ us hl => match us, hl with | [_, _], _ => rfl), PySem.W.mg_of X G a11⟩,
    ⟨f12, _, fun_mk (st := s__law_open) l12 c12 k12, (fun_mk (st := s__law_open) l12 c12 k12).binds (ps := ["_law_script"]) (fun _ _ _ _ _ _ us hl => match us, hl with | [_], _ => rfl), PySem.W.mg_of X G a12⟩,
    ⟨f13, _, fun_mk (st := s__law_take) l13 c13 k13, (fun_mk (st := s__law_take) l13 c13 k13).binds (ps := ["_law_pen", "_law_many"]) (fun _ _ _ _ _ _ us hl => match us, hl with | [_, _], _ => rfl), PySem.W.mg_of X G a13⟩,
    ⟨f14, _, fun_mk (st := s__law_same) l14 c14 k14, (fun_mk (st := s__law_same) l14 c14 k14).binds (ps := ["_law_found", "_law_due_here"]) (fun _ _ _ _ _ _ us hl => match us, hl with | [_, _], _ => rfl), PySem.W.mg_of X G a14⟩,
    ⟨f15, _, fun_mk (st := s__law_names) l15 c15 k15, (fun_mk (st := s__law_names) l15 c15 k15).binds (ps := ["_law_pen", "_law_many"]) (fun _ _ _ _ _ _ us hl => match us, hl with | [_, _], _ => rfl), PySem.W.mg_of X G a15⟩,
    ⟨f16, _, fun_mk (st := s__law_free_names) l16 c16 k16, (fun_mk (st := s__law_free_names) l16 c16 k16).binds (ps := ["_law_pen", "_law_many"]) (fun _ _ _ _ _ _ us hl => match us, hl with | [_, _], _ => rfl), PySem.W.mg_of X G a16⟩,
    ⟨f17, _, fun_mk (st := s__law_terms_in) l17 c17 k17, (fun_mk (st := s__law_terms_in) l17 c17 k17).binds (ps := ["_law_thing"]) (fun _ _ _ _ _ _ us hl => match us, hl with | [_], _ => rfl), PySem.W.mg_of X G a17⟩,
    ⟨f18, _, fun_mk (st := s__law_due) l18 c18 k18, (fun_mk (st := s__law_due) l18 c18 k18).binds (ps := ["_law_notions"]) (fun _ _ _ _ _ _ us hl => match us, hl with | [_], _ => rfl), PySem.W.mg_of X G a18⟩,
    ⟨f19, _, fun_mk (st := s__law_use) l19 c19 k19, (fun_mk (st := s__law_use) l19 c19 k19).binds (ps := ["_law_pen", "_law_names_here", "_law_kinds_by"]) (fun _ _ _ _ _ _ us hl => match us, hl with | [_, _, _], _ => rfl), PySem.W.mg_of X G a19⟩,
    ⟨f20, _, fun_mk (st := s__law_made) l20 c20 k20, (fun_mk (st := s__law_made) l20 c20 k20).binds (ps := ["_law_pen", "_law_name", "_law_floor_here", "_law_names_here", "_law_kinds_by"]) (fun _ _ _ _ _ _ us hl => match us, hl with | [_, _, _, _, _], _ => rfl), PySem.W.mg_of X G a20⟩,
    ⟨f21, _, fun_mk (st := s_law) l21 c21 k21, (fun_mk (st := s_law) l21 c21 k21).binds (ps := ["_law_script"]) (fun _ _ _ _ _ _ us hl => match us, hl with | [_], _ => rfl), PySem.W.mg_of X G a21⟩,
    PySem.W.mg_none_of X G z1,
    PySem.W.mg_none_of X G z2,
    PySem.W.mg_none_of X G z3,
    PySem.W.mg_none_of X G z4,
    PySem.W.mg_none_of X G z5,
    PySem.W.mg_none_of X G z6,
    PySem.W.mg_none_of X G z7,
    PySem.W.mg_none_of X G z8,
    PySem.W.mg_none_of X G z9,
    PySem.W.mg_none_of X G z10,
    PySem.W.mg_none_of X G z11,
    PySem.W.mg_none_of X G z12,
    PySem.W.mg_none_of X G z13,
    PySem.W.mg_none_of X G z14,
    ⟨tf0, ⟨PySem.W.mg_of X G tba0, ⟨te0, tn0, tbl0, tbk0, tbt0⟩, tbo0⟩⟩,
    ⟨_, PySem.W.mg_of X G kglb0, ⟨_, rfl⟩⟩⟩
end LW
open PySem PySem.W PyProof.Rows
set_option maxRecDepth 100000 in
set_option maxHeartbeats 0 in
theorem PySem.Challenge.cw_leapwork_k05_which_notions_stand_firm_holds : PySem.Challenge.rw_leapwork_k05_which_notions_stand_firm.Holds := by
  w_on; o_law; k_head; (case hw => w_witness2)
  k_fill
  refine LW.walkG (l := PySem.Challenge.rw_leapwork_k05_which_notions_stand_firm) (n := 63) (k := 120) (x := "_law_script") (sp := fun w => LW.spLaw _) rfl (by decide) rfl ⟨rfl, by decide, by decide⟩ (fun w h Y => PySem.W.kIn_of Y) ?F (fun _ _ a ns hl _ hS => ⟨a, ns, rfl, hS, hl, fun _ => rfl⟩)
  case F =>
    intro w mg fa h KX G hmg
    refine' LW.law_end (LW.all_mk (w := w) KX G ?a1 ?l1 ?c1 ?k1 ?a2 ?l2 ?c2 ?k2 ?a3 ?l3 ?c3 ?k3 ?a4 ?l4 ?c4 ?k4 ?a5 ?l5 ?c5 ?k5 ?a6 ?l6 ?c6 ?k6 ?a7 ?l7 ?c7 ?k7 ?a8 ?l8 ?c8 ?k8 ?a9 ?l9 ?c9 ?k9 ?a10 ?l10 ?c10 ?k10 ?a11 ?l11 ?c11 ?k11 ?a12 ?l12 ?c12 ?k12 ?a13 ?l13 ?c13 ?k13 ?a14 ?l14 ?c14 ?k14 ?a15 ?l15 ?c15 ?k15 ?a16 ?l16 ?c16 ?k16 ?a17 ?l17 ?c17 ?k17 ?a18 ?l18 ?c18 ?k18 ?a19 ?l19 ?c19 ?k19 ?a20 ?l20 ?c20 ?k20 ?a21 ?l21 ?c21 ?k21 ?z1 ?z2 ?z3 ?z4 ?z5 ?z6 ?z7 ?z8 ?z9 ?z10 ?z11 ?z12 ?z13 ?z14 ?tba0 ?tbl0 ?tbk0 ?tbo0 ?tbt0 ?kglb0) hmg
    (case a1 => k_is); (case l1 => k_is); (case c1 => k_is); (case k1 => k_is)
    (case a2 => k_is); (case l2 => k_is); (case c2 => k_is); (case k2 => k_is)
    (case a3 => k_is); (case l3 => k_is); (case c3 => k_is); (case k3 => k_is)
    (case a4 => k_is); (case l4 => k_is); (case c4 => k_is); (case k4 => k_is)
    (case a5 => k_is); (case l5 => k_is); (case c5 => k_is); (case k5 => k_is)
    (case a6 => k_is); (case l6 => k_is); (case c6 => k_is); (case k6 => k_is)
    (case a7 => k_is); (case l7 => k_is); (case c7 => k_is); (case k7 => k_is)
    (case a8 => k_is); (case l8 => k_is); (case c8 => k_is); (case k8 => k_is)
    (case a9 => k_is); (case l9 => k_is); (case c9 => k_is); (case k9 => k_is)
    (case a10 => k_is); (case l10 => k_is); (case c10 => k_is); (case k10 => k_is)
    (case a11 => k_is); (case l11 => k_is); (case c11 => k_is); (case k11 => k_is)
    (case a12 => k_is); (case l12 => k_is); (case c12 => k_is); (case k12 => k_is)
    (case a13 => k_is); (case l13 => k_is); (case c13 => k_is); (case k13 => k_is)
    (case a14 => k_is); (case l14 => k_is); (case c14 => k_is); (case k14 => k_is)
    (case a15 => k_is); (case l15 => k_is); (case c15 => k_is); (case k15 => k_is)
    (case a16 => k_is); (case l16 => k_is); (case c16 => k_is); (case k16 => k_is)
    (case a17 => k_is); (case l17 => k_is); (case c17 => k_is); (case k17 => k_is)
    (case a18 => k_is); (case l18 => k_is); (case c18 => k_is); (case k18 => k_is)
    (case a19 => k_is); (case l19 => k_is); (case c19 => k_is); (case k19 => k_is)
    (case a20 => k_is); (case l20 => k_is); (case c20 => k_is); (case k20 => k_is)
    (case a21 => k_is); (case l21 => k_is); (case c21 => k_is); (case k21 => k_is)
    (case z1 => k_is)
    (case z2 => k_is)
    (case z3 => k_is)
    (case z4 => k_is)
    (case z5 => k_is)
    (case z6 => k_is)
    (case z7 => k_is)
    (case z8 => k_is)
    (case z9 => k_is)
    (case z10 => k_is)
    (case z11 => k_is)
    (case z12 => k_is)
    (case z13 => k_is)
    (case z14 => k_is)
    (case tba0 => k_is)
    (case tbl0 => k_is)
    (case tbk0 => k_keys)
    (case tbo0 => decide)
    (case tbt0 => first | k_is | rfl | decide +kernel)
    (case kglb0 => k_is)
#print axioms PySem.Challenge.cw_leapwork_k05_which_notions_stand_firm_holds
